import PyProof.Rows.All
import Wide.All
import OpenK.AllK
import Wide.FinOn
import HandS.ForMost
import HandS.ForExc
import HandS.IsInst
import HandS.Deep
import HandS.Walk
import HandS.Zip
import HandS.SortOrd
import HandS.TupSets
import HandS.TupAny
import HandS.TupLe
import HandS.TupMul
import HandS.Flow
import HandS.Strs
import HandS.Conv
import HandS.Style
import KE.SortData
import HandS.More
import HandS.TupLen
import PySem.Challenge.RW_probeties_k01_whole_things_as_nets
set_option Elab.async false
set_option linter.all false
set_option maxRecDepth 100000
/-! DL: a layer of plain data over HandS. A def's body is read as a function of data (SM), its heap is hidden. -/
namespace DL
open PySem L2

abbrev D := PyData
/-- a dict's key: an int or a text, or a tuple of such -/
abbrev DK := Sum Key (List Key)
/-- a slot: a datum that no one changes; an own list; an own dict -/
inductive SV where
  | d (x : D)
  | l (b : Bool) (xs : List D)
  | m (b t : Bool) (kvs : List (DK × D))
def SV.own : SV → Bool
  | .d _ => false
  | _ => true
abbrev Rho := List (Option SV)

def SubH (F H : Hp) : Prop := ∀ a o, F a = some o → H a = some o
theorem SubH.refl (F : Hp) : SubH F F := fun _ _ h => h
theorem SubH.trans {F G H : Hp} (a : SubH F G) (b : SubH G H) : SubH F H := fun x o h => b x o (a x o h)
theorem SubH.new {H : Hp} {p : Addr} {o : HO} (h : H p = none) : SubH H (upd H p o) := fun a u e => by
  rw [upd_ne (ne_of_none e h)]; exact e
theorem SubH.none {F H : Hp} (e : SubH F H) {p : Addr} (h : H p = none) : F p = none := by
  cases q : F p with
  | none => rfl
  | some o => rw [e p o q] at h; cases h
theorem SubH.rd {F H : Hp} (e : SubH F H) {a : Addr} {u : HO} (h : Rd F a u) : Rd H a u := by
  rcases h with h | ⟨o, h⟩
  · exact .inl (e _ _ h)
  · exact .inr ⟨o, e _ _ h⟩
theorem SubH.sqt {K : PySem.W.Frag} {F H : Hp} (e : SubH F H) {a : Addr} {xs : List V} (h : SqT K F a xs) : SqT K H a xs := by
  rcases h with h | h
  · exact .inl (e.rd h)
  · exact .inr h
theorem SubH.sql {K : PySem.W.Frag} {F H : Hp} (e : SubH F H) {a : Addr} {xs : List V} (h : SqL K F a xs) : SqL K H a xs := by
  rcases h with h | h
  · exact .inl (e.rd h)
  · exact .inr h

/-! ### data in the heap: what is flat by itself, rows by what stands at their place (a tuple as such) -/
/-- the value that a flat datum is -/
def scal : D → Option V
  | .none => some .non
  | .bool b => some (.bl b)
  | .int i => some (.int i)
  | .str x => some (.str x)
  | _ => none
inductive Dp (K : PySem.W.Frag) (H : Hp) : V → D → Prop
  | flat {d : D} {v : V} : scal d = some v → Dp K H v d
  | lst {p : Addr} {vs : List V} {row : List D} (at_ : SqL K H p vs) (each : Paired (Dp K H) vs row) : Dp K H (.ref p) (.list row)
  | tup {p : Addr} {vs : List V} {row : List D} (at_ : H p = some (.tup vs)) (each : Paired (Dp K H) vs row) : Dp K H (.ref p) (.tuple row)
abbrev DpAll (K : PySem.W.Frag) (H : Hp) (vs : List V) (row : List D) : Prop := Paired (Dp K H) vs row
section
variable {K : PySem.W.Frag} {F G H : Hp}
theorem Dp.non : Dp K H .non .none := .flat rfl
theorem Dp.bl (b : Bool) : Dp K H (.bl b) (.bool b) := .flat rfl
theorem Dp.int (i : Int) : Dp K H (.int i) (.int i) := .flat rfl
theorem Dp.str (x : Str) : Dp K H (.str x) (.str x) := .flat rfl
theorem sqt_of {a : Addr} {vs : List V} (h : F a = some (.tup vs)) : SqT K F a vs := .inl (.inl h)
/-- by the datum -/
theorem Dp.inv : ∀ {d : D} {v : V}, Dp K H v d → match d with
    | .none => v = .non
    | .bool b => v = .bl b
    | .int i => v = .int i
    | .str x => v = .str x
    | .list row => ∃ p vs, v = .ref p ∧ SqL K H p vs ∧ DpAll K H vs row
    | .tuple row => ∃ p vs, v = .ref p ∧ H p = some (.tup vs) ∧ DpAll K H vs row
    | .dict _ => False
  | _, _, .lst a e => ⟨_, _, rfl, a, e⟩
  | _, _, .tup a e => ⟨_, _, rfl, a, e⟩
  | .none, _, .flat h => (Option.some.inj h).symm
  | .bool _, _, .flat h => (Option.some.inj h).symm
  | .int _, _, .flat h => (Option.some.inj h).symm
  | .str _, _, .flat h => (Option.some.inj h).symm
  | .list _, _, .flat h => nomatch h
  | .tuple _, _, .flat h => nomatch h
  | .dict _, _, .flat h => nomatch h
mutual
theorem dp_old' : ∀ (d : D) (v : V), Dp K F v d → L2.Dp K F v d
  | .none, _, h => by cases h.inv; exact .non
  | .bool b, _, h => by cases h.inv; exact .bl b
  | .int i, _, h => by cases h.inv; exact .int i
  | .str x, _, h => by cases h.inv; exact .str x
  | .list row, _, h => by obtain ⟨p, vs, rfl, a, e⟩ := h.inv; exact .lst a (dpa_old' row vs e)
  | .tuple row, _, h => by obtain ⟨p, vs, rfl, a, e⟩ := h.inv; exact .tup (sqt_of a) (dpa_old' row vs e)
  | .dict _, _, h => h.inv.elim
theorem dpa_old' : ∀ (row : List D) (vs : List V), DpAll K F vs row → L2.DpAll K F vs row
  | [], [], _ => .nil
  | d :: row, v :: vs, h => by cases h with | cons x t => exact .cons (dp_old' d v x) (dpa_old' row vs t)
  | [], _ :: _, h => nomatch h
  | _ :: _, [], h => nomatch h
end
mutual
theorem dp_mono' (e : SubH F H) : ∀ (d : D) (v : V), Dp K F v d → Dp K H v d
  | .none, _, h => by cases h.inv; exact .non
  | .bool b, _, h => by cases h.inv; exact .bl b
  | .int i, _, h => by cases h.inv; exact .int i
  | .str x, _, h => by cases h.inv; exact .str x
  | .list row, _, h => by obtain ⟨p, vs, rfl, a, t⟩ := h.inv; exact .lst (e.sql a) (dpa_mono' e row vs t)
  | .tuple row, _, h => by obtain ⟨p, vs, rfl, a, t⟩ := h.inv; exact .tup (e _ _ a) (dpa_mono' e row vs t)
  | .dict _, _, h => h.inv.elim
theorem dpa_mono' (e : SubH F H) : ∀ (row : List D) (vs : List V), DpAll K F vs row → DpAll K H vs row
  | [], [], _ => .nil
  | d :: row, v :: vs, h => by cases h with | cons x t => exact .cons (dp_mono' e d v x) (dpa_mono' e row vs t)
  | [], _ :: _, h => nomatch h
  | _ :: _, [], h => nomatch h
end
theorem dp_old {d : D} {v : V} (h : Dp K F v d) : L2.Dp K F v d := dp_old' d v h
theorem dp_mono (e : SubH F H) {d : D} {v : V} (h : Dp K F v d) : Dp K H v d := dp_mono' e d v h
theorem dpa_mono (e : SubH F H) {row : List D} {vs : List V} (h : DpAll K F vs row) : DpAll K H vs row := dpa_mono' e row vs h
theorem dpa_len : ∀ {vs : List V} {ds : List D}, DpAll K F vs ds → vs.length = ds.length
  | _, _, .nil => rfl
  | _, _, .cons _ h => by simp [dpa_len h]
theorem dpa_get : ∀ {vs : List V} {ds : List D} {i : Nat} {d : D}, DpAll K F vs ds → ds[i]? = some d → ∃ v, vs[i]? = some v ∧ Dp K F v d
  | _, _, _, _, .nil, e => by simp at e
  | _, _, 0, _, .cons h _, e => by simp at e; subst e; exact ⟨_, rfl, h⟩
  | _, _, i + 1, _, .cons _ t, e => by simp at e; obtain ⟨v, a, b⟩ := dpa_get (i := i) t e; exact ⟨v, by simpa using a, b⟩
theorem dpa_at : ∀ {vs : List V} {ds : List D} {i : Nat} {v : V}, DpAll K F vs ds → vs[i]? = some v → ∃ d, ds[i]? = some d ∧ Dp K F v d
  | _, _, _, _, .nil, e => by simp at e
  | _, _, 0, _, .cons h _, e => by simp at e; subst e; exact ⟨_, rfl, h⟩
  | _, _, i + 1, _, .cons _ t, e => by simp at e; obtain ⟨v, a, b⟩ := dpa_at (i := i) t e; exact ⟨v, by simpa using a, b⟩
theorem dpa_app : ∀ {vs ws : List V} {ds es : List D}, DpAll K F vs ds → DpAll K F ws es → DpAll K F (vs ++ ws) (ds ++ es)
  | _, _, _, _, .nil, h => h
  | _, _, _, _, .cons a t, h => .cons a (dpa_app t h)
theorem dpa_take : ∀ {vs : List V} {ds : List D} (n : Nat), DpAll K F vs ds → DpAll K F (vs.take n) (ds.take n)
  | _, _, 0, _ => by simpa using .nil
  | _, _, _ + 1, .nil => .nil
  | _, _, n + 1, .cons a t => .cons a (dpa_take n t)
theorem dpa_drop : ∀ {vs : List V} {ds : List D} (n : Nat), DpAll K F vs ds → DpAll K F (vs.drop n) (ds.drop n)
  | _, _, 0, h => by simpa using h
  | _, _, _ + 1, .nil => .nil
  | _, _, n + 1, .cons a t => by simpa using dpa_drop n t
theorem dpa_rev : ∀ {vs : List V} {ds : List D}, DpAll K F vs ds → DpAll K F vs.reverse ds.reverse
  | _, _, .nil => .nil
  | _, _, .cons a t => by simpa using dpa_app (dpa_rev t) (.cons a .nil)
theorem dpa_one {v : V} {d : D} (h : Dp K F v d) : DpAll K F [v] [d] := .cons h .nil
/-- from items by place -/
theorem dpa_of : ∀ {vs : List V} {ds : List D}, vs.length = ds.length → (∀ (i : Nat) (v : V) (d : D), vs[i]? = some v → ds[i]? = some d → Dp K F v d) → DpAll K F vs ds
  | [], [], _, _ => .nil
  | [], _ :: _, h, _ => by simp at h
  | _ :: _, [], h, _ => by simp at h
  | v :: vs, d :: ds, h, k => .cons (k 0 v d rfl rfl) (dpa_of (by simpa using h) fun i a b x y => k (i + 1) a b (by simpa using x) (by simpa using y))
theorem dpa_ints : ∀ {ns : List Int} {vs : List V}, DpAll K F vs (ns.map PyData.int) → vs = ns.map V.int
  | [], [], _ => rfl
  | n :: ns, v :: vs, h => by
    cases h with
    | cons x t => cases x.inv; rw [dpa_ints t]; rfl
  | [], _ :: _, h => nomatch h
  | _ :: _, [], h => nomatch h
theorem dpa_ints_mk : ∀ (ns : List Int), DpAll K F (ns.map V.int) (ns.map PyData.int)
  | [] => .nil
  | n :: ns => .cons (.int n) (dpa_ints_mk ns)
end

/-! ### the state of a frame -/
structure Fx where
  H0 : Hp
  F0 : Hp
  rf : Option Addr
def keyD : Key → D
  | .inl i => .int i
  | .inr s => .str s
/-- an own dict -/
def DicOk (K : PySem.W.Frag) (F H : Hp) (a : Addr) (t : Bool) (kvs : List (DK × D)) : Prop :=
  (t = false ∧ ∃ ks : List (Key × V), H a = some (.dK ks) ∧ Paired (fun (p : Key × V) (q : DK × D) => q.1 = .inl p.1 ∧ Dp K F p.2 q.2) ks kvs) ∨
  (t = true ∧ ∃ ks : List (List Key × V), H a = some (.dT ks) ∧ Paired (fun (p : List Key × V) (q : DK × D) => q.1 = .inr p.1 ∧ Dp K F p.2 q.2) ks kvs)
def RS (K : PySem.W.Frag) (z : Fx) (F H : Hp) (v : V) : SV → Prop
  | .d x => Dp K F v x
  | .l b xs => ∃ a vs, v = .ref a ∧ H a = some (.lst vs) ∧ F a = none ∧ z.H0 a = none ∧ DpAll K F vs xs ∧ (b = true → z.rf = some a)
  | .m b t kvs => ∃ a, v = .ref a ∧ F a = none ∧ z.H0 a = none ∧ DicOk K F H a t kvs ∧ (b = true → z.rf = some a)
def OwnAt (r : Rho) (s : St) (b : Addr) : Prop := ∃ (i : Nat) (sv : SV), r[i]? = some (some sv) ∧ sv.own = true ∧ s[i]? = some (some (V.ref b))
/-- a tuple never changes -/
def IsTu (o : HO) : Prop := ∃ vs, o = HO.tup vs
structure Rep (K : PySem.W.Frag) (z : Fx) (r : Rho) (s : St) (H F : Hp) : Prop where
  fh : SubH F H
  old : SubH z.H0 H
  f0 : SubH z.F0 F
  nw : ∀ b o, F b = some o → z.F0 b = some o ∨ z.H0 b = none ∨ IsTu o
  slots : ∀ (i : Nat) (sv : SV), r[i]? = some (some sv) → ∃ v, s[i]? = some (some v) ∧ RS K z F H v sv
  apart : ∀ (i j : Nat) (x y : SV) (a : Addr), r[i]? = some (some x) → r[j]? = some (some y) → x.own = true → y.own = true → s[i]? = some (some (V.ref a)) → s[j]? = some (some (V.ref a)) → i = j
  len : r.length = s.length

/-- new objects are laid, all else is as it was; F grows by new ones -/
structure Grow (F H F' H' : Hp) : Prop where
  ff : SubH F F'
  hh : SubH H H'
  fh : SubH F' H'
  nw : ∀ b o, F' b = some o → F b = some o ∨ H b = none ∨ IsTu o
theorem Grow.refl {F H : Hp} (h : SubH F H) : Grow F H F H := ⟨.refl _, .refl _, h, fun _ _ h => .inl h⟩
theorem Grow.trans {F H F1 H1 F2 H2 : Hp} (a : Grow F H F1 H1) (b : Grow F1 H1 F2 H2) : Grow F H F2 H2 :=
  ⟨a.ff.trans b.ff, a.hh.trans b.hh, b.fh, fun x o h => by
    rcases b.nw x o h with h | h | h
    · exact a.nw x o h
    · exact .inr (.inl (a.hh.none h))
    · exact .inr (.inr h)⟩
theorem Grow.new {F H : Hp} {p : Addr} {o : HO} (h : SubH F H) (hp : H p = none) : Grow F H (upd F p o) (upd H p o) :=
  ⟨.new (h.none hp), .new hp, fun a u e => by
    by_cases q : a = p
    · subst q; rw [upd_same] at e ⊢; exact e
    · rw [upd_ne q] at e ⊢; exact h a u e, fun a u e => by
    by_cases q : a = p
    · subst q; exact .inr (.inl hp)
    · rw [upd_ne q] at e; exact .inl e⟩
/-- laid, but not frozen -/
theorem Grow.loose {F H : Hp} {p : Addr} {o : HO} (h : SubH F H) (hp : H p = none) : Grow F H F (upd H p o) :=
  ⟨.refl _, .new hp, h.trans (.new hp), fun _ _ e => .inl e⟩

section
variable {K : PySem.W.Frag} {z : Fx} {r : Rho} {s : St} {H F H' F' : Hp}
theorem DicOk.mono {a : Addr} {t : Bool} {kvs : List (DK × D)} (h : DicOk K F H a t kvs) (e : SubH F F') (hh : ∀ o, H a = some o → H' a = some o) : DicOk K F' H' a t kvs := by
  rcases h with ⟨h0, ks, h1, h2⟩ | ⟨h0, ks, h1, h2⟩
  · exact .inl ⟨h0, ks, hh _ h1, Paired.mapP h2 fun _ _ q => ⟨q.1, dp_mono e q.2⟩⟩
  · exact .inr ⟨h0, ks, hh _ h1, Paired.mapP h2 fun _ _ q => ⟨q.1, dp_mono e q.2⟩⟩
theorem DicOk.there {a : Addr} {t : Bool} {kvs : List (DK × D)} (h : DicOk K F H a t kvs) : ∃ o, H a = some o := by
  rcases h with ⟨_, ks, h1, _⟩ | ⟨_, ks, h1, _⟩ <;> exact ⟨_, h1⟩
theorem RS.mono {v : V} {sv : SV} (h : RS K z F H v sv) (e : SubH F F') (hh : ∀ a, v = .ref a → sv.own = true → ∀ o, H a = some o → H' a = some o) (hn : ∀ a o, H a = some o → F a = none → z.H0 a = none → sv.own = true → v = .ref a → F' a = none) : RS K z F' H' v sv := by
  cases sv with
  | d x => exact dp_mono e h
  | l b xs =>
    obtain ⟨a, vs, rfl, h1, h2, h3, h4, h5⟩ := h
    exact ⟨a, vs, rfl, hh a rfl rfl _ h1, hn a _ h1 h2 h3 rfl rfl, h3, dpa_mono e h4, h5⟩
  | m b t kvs =>
    obtain ⟨a, rfl, h2, h3, h4, h5⟩ := h
    obtain ⟨o, ho⟩ := h4.there
    exact ⟨a, rfl, hn a o ho h2 h3 rfl rfl, h3, h4.mono e (hh a rfl rfl), h5⟩
/-- what is owned is no tuple -/
theorem RS.noTup {v : V} {sv : SV} {a : Addr} (h : RS K z F H v sv) (hown : sv.own = true) (e : v = .ref a) : ¬ ∃ vs, H a = some (.tup vs) := by
  rintro ⟨vs, hv⟩
  cases sv with
  | d x => cases hown
  | l b xs => obtain ⟨a', ws, e1, h1, _⟩ := h; rw [e1] at e; cases e; rw [h1] at hv; cases hv
  | m b t kvs =>
    obtain ⟨a', e1, _, _, h1, _⟩ := h
    rw [e1] at e; cases e
    rcases h1 with ⟨_, ks, h1, _⟩ | ⟨_, ks, h1, _⟩ <;> (rw [h1] at hv; cases hv)
theorem Rep.grow (R : Rep K z r s H F) (G : Grow F H F' H') : Rep K z r s H' F' where
  fh := G.fh
  old := R.old.trans G.hh
  f0 := R.f0.trans G.ff
  nw := fun b o h => by
    rcases G.nw b o h with h | h | h
    · exact R.nw b o h
    · exact .inr (.inl (R.old.none h))
    · exact .inr (.inr h)
  slots := fun i sv h => by
    obtain ⟨v, h1, h2⟩ := R.slots i sv h
    refine ⟨v, h1, h2.mono G.ff (fun a _ _ o ho => G.hh a o ho) fun a o ho hf _ hown he => ?_⟩
    cases q : F' a with
    | none => rfl
    | some u =>
      rcases G.nw a u q with h | h | ⟨vs, rfl⟩
      · rw [hf] at h; cases h
      · rw [ho] at h; cases h
      · have q2 := G.fh a _ q
        rw [G.hh a o ho] at q2; cases q2
        exact absurd ⟨_, ho⟩ (h2.noTup hown he)
  apart := R.apart
  len := R.len
theorem Rep.own_facts (R : Rep K z r s H F) {b : Addr} (h : OwnAt r s b) : (∃ o, H b = some o) ∧ F b = none ∧ z.H0 b = none := by
  obtain ⟨i, sv, h1, h2, h3⟩ := h
  obtain ⟨v, h4, h5⟩ := R.slots i sv h1
  rw [h3] at h4; cases h4
  cases sv with
  | d x => cases h2
  | l b xs => obtain ⟨a, vs, e, q1, q2, q3, _⟩ := h5; cases e; exact ⟨⟨_, q1⟩, q2, q3⟩
  | m b t kvs => obtain ⟨a, e, q2, q3, q4, _⟩ := h5; cases e; exact ⟨q4.there, q2, q3⟩

/-- the heap without what the frame owns -/
noncomputable def bare (r : Rho) (s : St) (H : Hp) : Hp := fun b => by
  classical exact if OwnAt r s b then none else H b
theorem bare_own {b : Addr} (h : OwnAt r s b) : bare r s H b = none := by unfold bare; rw [if_pos h]
theorem bare_not {b : Addr} (h : ¬ OwnAt r s b) : bare r s H b = H b := by unfold bare; rw [if_neg h]
theorem bare_sub : SubH (bare r s H) H := fun a o h => by
  by_cases q : OwnAt r s a
  · rw [bare_own q] at h; cases h
  · rw [bare_not q] at h; exact h
theorem Rep.base (R : Rep K z r s H F) : Rep K ⟨bare r s H, F, z.rf⟩ r s H F where
  fh := R.fh
  old := bare_sub
  f0 := .refl _
  nw := fun b o h => .inl h
  slots := fun i sv h => by
    obtain ⟨v, h1, h2⟩ := R.slots i sv h
    refine ⟨v, h1, ?_⟩
    cases sv with
    | d x => exact h2
    | l b xs =>
      obtain ⟨a, vs, rfl, q1, q2, q3, q4⟩ := h2
      exact ⟨a, vs, rfl, q1, q2, bare_own ⟨i, _, h, rfl, h1⟩, q4⟩
    | m b t kvs =>
      obtain ⟨a, rfl, q2, q3, q4⟩ := h2
      exact ⟨a, rfl, q2, bare_own ⟨i, _, h, rfl, h1⟩, q4⟩
  apart := R.apart
  len := R.len
theorem Rep.back {r' : Rho} {s' : St} (R : Rep K z r s H F) (R' : Rep K ⟨bare r s H, F, z.rf⟩ r' s' H' F') : Rep K z r' s' H' F' := by
  have key : ∀ b, bare r s H b = none → z.H0 b = none := fun b h => by
    by_cases q : OwnAt r s b
    · exact (R.own_facts q).2.2
    · rw [bare_not q] at h; exact R.old.none h
  refine ⟨R'.fh, fun b o h => ?_, R.f0.trans R'.f0, fun b o h => ?_, fun i sv h => ?_, R'.apart, R'.len⟩
  · refine R'.old b o ?_
    show bare r s H b = some o
    rw [bare_not, R.old b o h]
    intro q
    rw [(R.own_facts q).2.2] at h; cases h
  · rcases R'.nw b o h with h | h | h
    · exact R.nw b o h
    · exact .inr (.inl (key b h))
    · exact .inr (.inr h)
  · obtain ⟨v, h1, h2⟩ := R'.slots i sv h
    refine ⟨v, h1, ?_⟩
    cases sv with
    | d x => exact h2
    | l b xs =>
      obtain ⟨a, vs, rfl, q1, q2, q3, q4⟩ := h2
      exact ⟨a, vs, rfl, q1, q2, key a q3, q4⟩
    | m b t kvs =>
      obtain ⟨a, rfl, q2, q3, q4⟩ := h2
      exact ⟨a, rfl, q2, key a q3, q4⟩

theorem get_set_cases {α : Type} {l : List α} {i j : Nat} {x y : α} (h : (l.set i x)[j]? = some y) : (j = i ∧ y = x) ∨ (j ≠ i ∧ l[j]? = some y) := by
  by_cases q : j = i
  · subst q
    by_cases hl : j < l.length
    · rw [List.getElem?_set_self hl] at h; exact .inl ⟨rfl, (Option.some.inj h).symm⟩
    · rw [List.getElem?_eq_none (by simpa using hl)] at h; cases h
  · rw [List.getElem?_set_ne (Ne.symm q)] at h; exact .inr ⟨q, h⟩
/-- a slot takes a datum -/
theorem Rep.put (R : Rep K z r s H F) {i : Nat} {v : V} {x : D} (h : Dp K F v x) : Rep K z (r.set i (some (.d x))) (s.set i (some v)) H F where
  fh := R.fh
  old := R.old
  f0 := R.f0
  nw := R.nw
  slots := fun j sv e => by
    have hj : j < r.length := by
      have q : j < (r.set i (some (SV.d x))).length := (List.getElem?_eq_some_iff.mp e).1
      simpa using q
    rcases get_set_cases e with ⟨rfl, e2⟩ | ⟨ne, e⟩
    · cases e2
      exact ⟨v, by rw [List.getElem?_set_self (by rw [← R.len]; exact hj)], h⟩
    · obtain ⟨w, h1, h2⟩ := R.slots j sv e
      exact ⟨w, by rw [List.getElem?_set_ne (Ne.symm ne)]; exact h1, h2⟩
  apart := fun j k x y a e1 e2 o1 o2 s1 s2 => by
    rcases get_set_cases e1 with ⟨rfl, e⟩ | ⟨n1, e1⟩
    · cases e; cases o1
    · rcases get_set_cases e2 with ⟨rfl, e⟩ | ⟨n2, e2⟩
      · cases e; cases o2
      · rw [List.getElem?_set_ne (Ne.symm n1)] at s1
        rw [List.getElem?_set_ne (Ne.symm n2)] at s2
        exact R.apart j k x y a e1 e2 o1 o2 s1 s2
  len := by simpa using R.len
end
end DL

namespace DL
open PySem L2

abbrev EM := Rho → Option (D × Rho)
abbrev TM := Rho → Option (Bool × Rho)
abbrev AM := Rho → Option (List D × Rho)

/-- a value seen: a datum, or an own list -/
def Dv (K : PySem.W.Frag) (F H : Hp) (v : V) (d : D) : Prop := Dp K F v d ∨ ∃ a vs xs, v = .ref a ∧ d = .list xs ∧ H a = some (.lst vs) ∧ DpAll K F vs xs
def liftE (K : PySem.W.Frag) (f : EM) : TE := fun s H Q => ∃ z r F d r', Rep K z r s H F ∧ f r = some (d, r') ∧ ∀ v H' F', Rep K z r' s H' F' → SubH F F' → Dp K F' v d → Q v H'
def liftW (K : PySem.W.Frag) (f : EM) : TE := fun s H Q => ∃ z r F d r', Rep K z r s H F ∧ f r = some (d, r') ∧ ∀ v H' F', Rep K z r' s H' F' → SubH F F' → Dv K F' H' v d → Q v H'
def liftT (K : PySem.W.Frag) (f : TM) : TT := fun s H Q => ∃ z r F d r', Rep K z r s H F ∧ f r = some (d, r') ∧ ∀ H' F', Rep K z r' s H' F' → SubH F F' → Q d H'
def liftA (K : PySem.W.Frag) (f : AM) : TA := fun s H Q => ∃ z r F d r', Rep K z r s H F ∧ f r = some (d, r') ∧ ∀ v H' F', Rep K z r' s H' F' → SubH F F' → DpAll K F' v d → Q v H'
/-- a new list -/
def liftL (K : PySem.W.Frag) (f : AM) : TE := fun s H Q => ∃ z r F d r', Rep K z r s H F ∧ f r = some (d, r') ∧
  ∀ a vs H' F', Rep K z r' s H' F' → SubH F F' → H' a = some (.lst vs) → F' a = none → z.H0 a = none → ¬ OwnAt r' s a → DpAll K F' vs d → Q (.ref a) H'
structure SE (X : Cx) (e : Expr) (f : EM) : Prop where
  pe : PE X e (liftE X.K f)
structure SW (X : Cx) (e : Expr) (f : EM) : Prop where
  pe : PE X e (liftW X.K f)
structure SL (X : Cx) (e : Expr) (f : AM) : Prop where
  pe : PE X e (liftL X.K f)
structure ST (X : Cx) (e : Expr) (f : TM) : Prop where
  pt : PT X e (liftT X.K f)
structure SA (X : Cx) (es : List Expr) (f : AM) : Prop where
  pa : PA X es (liftA X.K f)
  len : ∀ r ds r', f r = some (ds, r') → ds.length = es.length

theorem pe_imp {X : Cx} {e : Expr} {t t' : TE} (h : PE X e t) (k : ∀ s H Q, t' s H Q → t s H Q) : PE X e t' := ⟨fun pins s σ H Q I hq => h.run pins s σ H Q I (k _ _ _ hq)⟩
theorem pt_imp {X : Cx} {e : Expr} {t t' : TT} (h : PT X e t) (k : ∀ s H Q, t' s H Q → t s H Q) : PT X e t' := ⟨fun pins s σ H Q I hq => h.run pins s σ H Q I (k _ _ _ hq)⟩
theorem pa_imp {X : Cx} {e : List Expr} {t t' : TA} (h : PA X e t) (k : ∀ s H Q, t' s H Q → t s H Q) : PA X e t' := ⟨fun pos pins s σ H Q I hq => h.run pos pins s σ H Q I (k _ _ _ hq)⟩

section
variable {X : Cx} {a b c e : Expr} {es : List Expr} {f g : EM} {pos : Pos}
theorem SE.sw (h : SE X e f) : SW X e f := ⟨pe_imp h.pe fun s H Q ⟨z, r, F, d, r', R, e, k⟩ => ⟨z, r, F, d, r', R, e, fun v H' F' R' sb q => k v H' F' R' sb (.inl q)⟩⟩
/-- a frame's loose list is frozen -/
theorem Rep.freeze1 {K : PySem.W.Frag} {z : Fx} {r : Rho} {s : St} {H F : Hp} (R : Rep K z r s H F) {p : Addr} {o : HO} (hp : H p = some o) (hf : F p = none) (h0 : z.H0 p = none) (ho : ¬ OwnAt r s p) : Rep K z r s H (upd F p o) where
  fh := fun b u q => by
    by_cases e : b = p
    · subst e; rw [upd_same] at q; rw [hp]; exact q
    · rw [upd_ne e] at q; exact R.fh b u q
  old := R.old
  f0 := R.f0.trans (.new hf)
  nw := fun b u q => by
    by_cases e : b = p
    · subst e; exact .inr (.inl h0)
    · rw [upd_ne e] at q; exact R.nw b u q
  slots := fun i sv q => by
    obtain ⟨v, h1, h2⟩ := R.slots i sv q
    refine ⟨v, h1, h2.mono (.new hf) (fun _ _ _ _ h => h) fun a o ho' hf' _ hown e => ?_⟩
    have : a ≠ p := fun z => ho ⟨i, sv, q, hown, by rw [h1, e, z]⟩
    rw [upd_ne this]; exact hf'
  apart := R.apart
  len := R.len
def ofL (f : AM) : EM := fun r => (f r).map fun p => (.list p.1, p.2)
theorem SL.se {f : AM} (h : SL X e f) : SE X e (ofL f) := ⟨pe_imp h.pe fun s H Q ⟨z, r, F, d, r', R, e, k⟩ => by
  unfold ofL at e
  cases q : f r with
  | none => rw [q] at e; cases e
  | some p =>
    obtain ⟨ds, r1⟩ := p
    rw [q] at e; cases e
    refine ⟨z, r, F, ds, r1, R, q, fun a vs H' F' R' sb h1 h2 h3 h4 h5 => ?_⟩
    have G := R'.freeze1 h1 h2 h3 h4
    exact k _ _ _ G (sb.trans (.new h2)) (.lst (.inl (.inl upd_same)) (dpa_mono (.new h2) h5))⟩

/-! ### names, constants -/
def varM (i : Nat) : EM := fun r => match r[i]? with
  | some (some (.d x)) => some (x, r)
  | _ => none
def ownM (i : Nat) : EM := fun r => match r[i]? with
  | some (some (.l _ xs)) => some (.list xs, r)
  | _ => none
def cM (d : D) : EM := fun r => some (d, r)
theorem varM_some {i : Nat} {r r' : Rho} {d : D} (h : varM i r = some (d, r')) : r[i]? = some (some (.d d)) ∧ r' = r := by
  unfold varM at h
  split at h
  · rename_i x e; cases h; exact ⟨e, rfl⟩
  · cases h
theorem ownM_some {i : Nat} {r r' : Rho} {d : D} (h : ownM i r = some (d, r')) : ∃ b xs, r[i]? = some (some (.l b xs)) ∧ d = .list xs ∧ r' = r := by
  unfold ownM at h
  split at h
  · rename_i x e; cases h; exact ⟨_, _, e, rfl, rfl⟩
  · cases h
theorem se_var (i : Nat) {x : Str} (hN : X.N[i]? = some x := by rfl) (hv : Vis X.env.scope x := by first | exact Or.inl rfl | exact Or.inr (Or.inl rfl) | exact Or.inr (Or.inr rfl)) (hd : (x == ("__debug__" : Str)) = false := by decide)
    (hcd : (x == ("__classdict__" : Str)) = false := by decide) : SE X (.Name x pos) (varM i) :=
  ⟨pe_imp (pe_var hN hv hd hcd) fun s H Q ⟨z, r, F, d, r', R, e, k⟩ => by
    obtain ⟨e1, rfl⟩ := varM_some e
    obtain ⟨v, h1, h2⟩ := R.slots i _ e1
    exact ⟨v, h1, k v H F R (.refl _) h2⟩⟩
theorem sw_own (i : Nat) {x : Str} (hN : X.N[i]? = some x := by rfl) (hv : Vis X.env.scope x := by first | exact Or.inl rfl | exact Or.inr (Or.inl rfl) | exact Or.inr (Or.inr rfl)) (hd : (x == ("__debug__" : Str)) = false := by decide)
    (hcd : (x == ("__classdict__" : Str)) = false := by decide) : SW X (.Name x pos) (ownM i) :=
  ⟨pe_imp (pe_var hN hv hd hcd) fun s H Q ⟨z, r, F, d, r', R, e, k⟩ => by
    obtain ⟨bb, xs, e1, rfl, rfl⟩ := ownM_some e
    obtain ⟨v, h1, a, vs, rfl, h2, h3, h4, h5, h6⟩ := R.slots i _ e1
    exact ⟨_, h1, k _ H F R (.refl _) (.inr ⟨a, vs, xs, rfl, rfl, h2, h5⟩)⟩⟩
theorem se_c {d : D} {v : V} (h : PE X e (tC v)) (hd : ∀ F, Dp X.K F v d) : SE X e (cM d) :=
  ⟨pe_imp h fun s H Q ⟨z, r, F, d, r', R, e, k⟩ => by cases e; exact k v H F R (.refl _) (hd F)⟩
theorem se_int {i j pos} : SE X (.Constant (.int i) j pos) (cM (.int i)) := se_c pe_int fun _ => .int i
theorem se_bl {i j pos} : SE X (.Constant (.bool i) j pos) (cM (.bool i)) := se_c pe_bl fun _ => .bl i
theorem se_non {j pos} : SE X (.Constant .none j pos) (cM .none) := se_c pe_non fun _ => .non
theorem se_str {x j pos} : SE X (.Constant (.str x) j pos) (cM (.str x)) := se_c pe_str fun _ => .str x
theorem se_globI {x : Str} {i : Int} (hg : Gl X x) (hm : ∃ t, X.mg x = some (.int i t)) (hd : (x == ("__debug__" : Str)) = false := by decide) : SE X (.Name x pos) (cM (.int i)) := by
  obtain ⟨t, hm⟩ := hm
  exact se_c (v := .int i) (pe_glob hg hm ⟨t, rfl⟩ hd) fun _ => .int i
theorem se_globS {x : Str} {i : Str} (hg : Gl X x) (hm : ∃ t, X.mg x = some (.str i t)) (hd : (x == ("__debug__" : Str)) = false := by decide) : SE X (.Name x pos) (cM (.str i)) := by
  obtain ⟨t, hm⟩ := hm
  exact se_c (v := .str i) (pe_glob hg hm ⟨t, rfl⟩ hd) fun _ => .str i

/-! ### two operands -/
/-- an operation on data: what it asks of the heap -/
def liftO (K : PySem.W.Frag) (h : D → D → Option D) : R2 := fun x y H Q => ∃ F d e o, SubH F H ∧ Dv K F H x d ∧ Dv K F H y e ∧ h d e = some o ∧ ∀ v H' F', Grow F H F' H' → Dp K F' v o → Q v H'
def opM (h : D → D → Option D) (f g : EM) : EM := fun r => (f r).bind fun p => (g p.2).bind fun q => (h p.1 q.1).map fun d => (d, q.2)
/-- the left one an own list -/
def opOwnM (h : D → D → Option D) (i : Nat) (g : EM) : EM := fun r => (ownM i r).bind fun _ => (g r).bind fun q => (ownM i q.2).bind fun p => (h p.1 q.1).map fun d => (d, q.2)
theorem opM_some {h : D → D → Option D} {f g : EM} {r r' : Rho} {o : D} (q : opM h f g r = some (o, r')) : ∃ x r1 y, f r = some (x, r1) ∧ g r1 = some (y, r') ∧ h x y = some o := by
  unfold opM at q
  cases e1 : f r with
  | none => rw [e1] at q; cases q
  | some p =>
    rw [e1] at q
    simp only [Option.bind_some] at q
    cases e2 : g p.2 with
    | none => rw [e2] at q; cases q
    | some p2 =>
      rw [e2] at q
      simp only [Option.bind_some] at q
      cases e3 : h p.1 p2.1 with
      | none => rw [e3] at q; cases q
      | some d => rw [e3] at q; cases q; exact ⟨p.1, p.2, p2.1, rfl, e2, e3⟩
theorem Dv.mono {K : PySem.W.Frag} {F H F' H' : Hp} {v : V} {d : D} (h : Dv K F H v d) (e : SubH F F') (hh : SubH H H') : Dv K F' H' v d := by
  rcases h with h | ⟨a, vs, xs, rfl, rfl, h1, h2⟩
  · exact .inl (dp_mono e h)
  · exact .inr ⟨a, vs, xs, rfl, rfl, hh _ _ h1, dpa_mono e h2⟩
theorem Dv.dp {K : PySem.W.Frag} {F H : Hp} {v : V} {d : D} (h : Dv K F H v d) (e : SubH F H) : Dp K H v d := by
  rcases h with h | ⟨a, vs, xs, rfl, rfl, h1, h2⟩
  · exact dp_mono e h
  · exact .lst (.inl (.inl h1)) (dpa_mono e h2)
theorem top_op {r2 : R2} {h : D → D → Option D} (hb : SW X b g) (ha : SE X a f) {s : St} {H : Hp} {Q : VK} (q : liftE X.K (opM h f g) s H Q) : tOp (liftO X.K h) (liftE X.K f) (liftW X.K g) s H Q := by
  obtain ⟨z, r, F, d, r', R, e, k⟩ := q
  obtain ⟨x, r1, y, e1, e2, e3⟩ := opM_some e
  refine ⟨z, r, F, x, r1, R, e1, fun v H1 F1 R1 sb1 dx => ⟨z, r1, F1, y, r', R1, e2, fun w H2 F2 R2 sb2 dy => ⟨F2, x, y, d, R2.fh, .inl (dp_mono sb2 dx), dy, e3, fun v' H' F' G dd => ?_⟩⟩⟩
  exact k v' H' F' (R2.grow G) ((sb1.trans sb2).trans G.ff) dd
theorem se_op {op : Operator} {h : D → D → Option D} (ho : OpR X (binaryOp op) (liftO X.K h)) (ha : SE X a f) (hb : SW X b g) : SE X (.BinOp a op b pos) (opM h f g) :=
  ⟨pe_imp (pe_op ho ha.pe hb.pe) fun s H Q q => top_op (r2 := liftO X.K h) hb ha q⟩
theorem se_cmp {op : CmpOp} {h : D → D → Option D} (ho : OpR X (compareOp op) (liftO X.K h)) (ha : SE X a f) (hb : SW X b g) (hm : behindInMarks op b = false := by first | exact nobehind _ (by decide) (by decide) | rfl) : SE X (.Compare a [op] [b] pos) (opM h f g) :=
  ⟨pe_imp (pe_cmpR ho ha.pe hb.pe hm) fun s H Q q => top_op (r2 := liftO X.K h) hb ha q⟩
theorem own_op {h : D → D → Option D} (i : Nat) {s : St} {H : Hp} {Q : VK} (q : liftE X.K (opOwnM h i g) s H Q) : tOp (liftO X.K h) (tVar i) (liftW X.K g) s H Q := by
  obtain ⟨z, r, F, d, r', R, e, k⟩ := q
  unfold opOwnM at e
  simp only [Option.bind_eq_some_iff, Option.map_eq_some_iff] at e
  obtain ⟨⟨p0, r0⟩, e0, ⟨y, r1⟩, e1, ⟨p2, r2⟩, e2, o, e3, e4⟩ := e
  cases e4
  obtain ⟨b0, xs0, f1, f2, f3⟩ := ownM_some e0
  obtain ⟨b1, xs, g1, g2, g3⟩ := ownM_some e2
  obtain ⟨v, h1, a, vs, rfl, h2, h3, h4, h5, h6⟩ := R.slots i _ f1
  refine ⟨_, h1, z, r, F, y, r1, R, e1, fun w H2 F2 R2 sb2 dy => ?_⟩
  obtain ⟨v', h1', a', vs', rfl, h2', h3', h4', h5', h6'⟩ := R2.slots i _ g1
  have ea : a' = a := by have := h1.symm.trans h1'; cases this; rfl
  subst ea
  subst g2
  exact ⟨F2, .list xs, y, d, R2.fh, .inr ⟨a', vs', xs, rfl, rfl, h2', h5'⟩, dy, e3, fun v' H' F' G dd => k v' H' F' (R2.grow G) (sb2.trans G.ff) dd⟩
theorem se_opOwn {op : Operator} {h : D → D → Option D} (i : Nat) {x : Str} {p : Pos} (ho : OpR X (binaryOp op) (liftO X.K h)) (hb : SW X b g) (hN : X.N[i]? = some x := by rfl) (hv : Vis X.env.scope x := by first | exact Or.inl rfl | exact Or.inr (Or.inl rfl) | exact Or.inr (Or.inr rfl)) (hd : (x == ("__debug__" : Str)) = false := by decide)
    (hcd : (x == ("__classdict__" : Str)) = false := by decide) : SE X (.BinOp (.Name x p) op b pos) (opOwnM h i g) :=
  ⟨pe_imp (pe_op ho (pe_var hN hv hd hcd) hb.pe) fun s H Q q => own_op i q⟩
theorem se_cmpOwn {op : CmpOp} {h : D → D → Option D} (i : Nat) {x : Str} {p : Pos} (ho : OpR X (compareOp op) (liftO X.K h)) (hb : SW X b g) (hN : X.N[i]? = some x := by rfl) (hv : Vis X.env.scope x := by first | exact Or.inl rfl | exact Or.inr (Or.inl rfl) | exact Or.inr (Or.inr rfl)) (hd : (x == ("__debug__" : Str)) = false := by decide)
    (hcd : (x == ("__classdict__" : Str)) = false := by decide) (hm : behindInMarks op b = false := by first | exact nobehind _ (by decide) (by decide) | rfl) : SE X (.Compare (.Name x p) [op] [b] pos) (opOwnM h i g) :=
  ⟨pe_imp (pe_cmpR ho (pe_var hN hv hd hcd) hb.pe hm) fun s H Q q => own_op i q⟩

/-! ### one operand: a built-in -/
def unM (h : D → Option D) (f : EM) : EM := fun r => (f r).bind fun p => (h p.1).map fun d => (d, p.2)
def liftC1 (K : PySem.W.Frag) (h : D → Option D) : List V → Hp → VK → Prop := fun vs H Q => ∃ F x d o, vs = [x] ∧ SubH F H ∧ Dv K F H x d ∧ h d = some o ∧ ∀ v H' F', Grow F H F' H' → Dp K F' v o → Q v H'
theorem unM_some {h : D → Option D} {f : EM} {r r' : Rho} {o : D} (q : unM h f r = some (o, r')) : ∃ x, f r = some (x, r') ∧ h x = some o := by
  unfold unM at q
  simp only [Option.bind_eq_some_iff, Option.map_eq_some_iff] at q
  obtain ⟨⟨x, r1⟩, e1, o', e2, e3⟩ := q
  cases e3; exact ⟨x, e1, e2⟩
theorem se_b1 {id : String} {x : Str} {p : Pos} {h : D → Option D} (hc : CallR X (.builtin id) (liftC1 X.K h)) (hg : Gl X x) (hm : X.mg x = none) (hv : bootBuiltins x = some (.builtin id)) (ha : SW X a f) (hn : x ≠ "__name__" := by decide) (hdb : (x == ("__debug__" : Str)) = false := by decide)
    (he : starEach [a] X.env = [(false, eval a X.env)] := by rfl) : SE X (.Call (.Name x p) [a] [] pos) (unM h f) :=
  ⟨pe_imp (pe_callB hc hg hm hv (pa_cons ha.pe pa_nil he) hn hdb he rfl) fun s H Q ⟨z, r, F, d, r', R, e, k⟩ => by
    obtain ⟨x, e1, e2⟩ := unM_some e
    exact ⟨z, r, F, x, r', R, e1, fun v H' F' R' sb dv => ⟨F', v, x, d, rfl, R'.fh, dv, e2, fun v2 H2 F2 G dd => k v2 H2 F2 (R'.grow G) (sb.trans G.ff) dd⟩⟩⟩
theorem se_t1 {id : String} {x : Str} {p : Pos} {h : D → Option D} (hc : CallR X (.type id) (liftC1 X.K h)) (hg : Gl X x) (hm : X.mg x = none) (hv : bootBuiltins x = some (.type id)) (ha : SW X a f) (hn : x ≠ "__name__" := by decide) (hdb : (x == ("__debug__" : Str)) = false := by decide)
    (he : starEach [a] X.env = [(false, eval a X.env)] := by rfl) : SE X (.Call (.Name x p) [a] [] pos) (unM h f) :=
  ⟨pe_imp (pe_callTy hc hg hm hv (pa_cons ha.pe pa_nil he) hn hdb he rfl) fun s H Q ⟨z, r, F, d, r', R, e, k⟩ => by
    obtain ⟨x, e1, e2⟩ := unM_some e
    exact ⟨z, r, F, x, r', R, e1, fun v H' F' R' sb dv => ⟨F', v, x, d, rfl, R'.fh, dv, e2, fun v2 H2 F2 G dd => k v2 H2 F2 (R'.grow G) (sb.trans G.ff) dd⟩⟩⟩
/-- two arguments -/
def liftC2 (K : PySem.W.Frag) (h : D → D → Option D) : List V → Hp → VK → Prop := fun vs H Q => ∃ x y, vs = [x, y] ∧ liftO K h x y H Q
theorem se_b2 {id : String} {x : Str} {p : Pos} {h : D → D → Option D} (hc : CallR X (.builtin id) (liftC2 X.K h)) (hg : Gl X x) (hm : X.mg x = none) (hv : bootBuiltins x = some (.builtin id)) (ha : SE X a f) (hb : SW X b g) (hn : x ≠ "__name__" := by decide) (hdb : (x == ("__debug__" : Str)) = false := by decide)
    (he : starEach [a, b] X.env = [(false, eval a X.env), (false, eval b X.env)] := by rfl) (he2 : starEach [b] X.env = [(false, eval b X.env)] := by rfl) : SE X (.Call (.Name x p) [a, b] [] pos) (opM h f g) :=
  ⟨pe_imp (pe_callB hc hg hm hv (pa_cons ha.pe (pa_cons hb.pe pa_nil he2) (by rw [he, he2])) hn hdb (by rw [he, he2]) (by rw [he2]; rfl)) fun s H Q q => by
    have q2 := top_op (r2 := liftO X.K h) hb ha q
    obtain ⟨z, r, F, d, r', R, e, k⟩ := q
    obtain ⟨x, r1, y, e1, e2, e3⟩ := opM_some e
    refine ⟨z, r, F, x, r1, R, e1, fun v H1 F1 R1 sb1 dx => ⟨z, r1, F1, y, r', R1, e2, fun w H2 F2 R2 sb2 dy => ⟨v, w, rfl, F2, x, y, d, R2.fh, .inl (dp_mono sb2 dx), dy, e3, fun v' H' F' G dd => ?_⟩⟩⟩
    exact k v' H' F' (R2.grow G) ((sb1.trans sb2).trans G.ff) dd⟩
end
end DL

namespace DL
open PySem L2 PyProof.Rows PySem.Spec

section
variable {X : Cx}
/-! ### rules that the layer below lacks -/
def rCatL (K : PySem.W.Frag) : R2 := fun x y H Q => ∃ l b xs zs, x = .ref l ∧ y = .ref b ∧ SqL K H l xs ∧ SqL K H b zs ∧ xs.length + zs.length ≤ sizeLine ∧ ∀ p, H p = none → Q (.ref p) (upd H p (.lst (xs ++ zs)))
theorem op_catL : OpR X (binaryOp .Add) (rCatL X.K) := by
  rintro pins s σ H x y v u Q I rx ry ⟨p1, p2, xs, ys, rfl, rfl, one, two, fits, give⟩
  cases rx
  cases ry
  obtain ⟨us, left, ⟨⟨c1, d1, dt1, s1⟩, n1, at1, isL1, _, isS1⟩, _⟩ := I.list one
  obtain ⟨ws, right, ⟨⟨c2, d2, dt2, s2⟩, n2, at2, isL2, _, isS2⟩, _⟩ := I.list two
  cases isL1; cases isS1; cases isL2; cases isS2
  have t1 : s.TypeIs (.ref p1) "list" := ⟨_, at1, rfl⟩
  have t2 : s.TypeIs (.ref p2) "list" := ⟨_, at2, rfl⟩
  have sizes : us.toArray.size + ws.toArray.size ≤ sizeLine := by simp [← left.length, ← right.length, fits]
  refine concat_meets t1 t2 noFill_list_add seq_list_add PySem.F.slot_list_add PySem.F.entry_list_add (PySem.F.args_list_add_2 _ _) (list_addW p1 p2 us.toArray ws.toArray n1 n2 d1 d2 s1 s2 sizes) ⟨at1, at2, ?_⟩
  have joined := I.lnew (t' := s.toks) (left.append right) (by simpa using fits)
  rw [show us.toArray ++ ws.toArray = (us ++ ws).toArray by simp]
  exact ⟨.ref s.heap.objs.size, _, joined, rfl, give _ I.fresh⟩
/-! ### operations on data -/
def szOk (n : Nat) : Bool := decide (n ≤ 1000000)
theorem szOk_le {n : Nat} (h : szOk n = true) : n ≤ sizeLine := Nat.le_trans (of_decide_eq_true h) (by decide)
theorem szOk_lt {n : Nat} (h : szOk n = true) : n < sizeLine := Nat.lt_of_le_of_lt (of_decide_eq_true h) (by decide)
def addD : D → D → Option D
  | .int i, .int j => some (.int (i + j))
  | .tuple xs, .tuple ys => if szOk (xs.length + ys.length) then some (.tuple (xs ++ ys)) else none
  | .list xs, .list ys => if szOk (xs.length + ys.length) then some (.list (xs ++ ys)) else none
  | .str x, .str y => if szOk (x.length + y.length) then some (.str (x ++ y)) else none
  | _, _ => none
theorem dv_int {K : PySem.W.Frag} {F H : Hp} {v : V} {i : Int} (h : Dv K F H v (.int i)) : v = .int i := by
  rcases h with h | ⟨a, vs, xs, _, h, _⟩
  · exact h.inv
  · cases h
theorem dv_str {K : PySem.W.Frag} {F H : Hp} {v : V} {i : Str} (h : Dv K F H v (.str i)) : v = .str i := by
  rcases h with h | ⟨a, vs, xs, _, h, _⟩
  · exact h.inv
  · cases h
theorem dv_bl {K : PySem.W.Frag} {F H : Hp} {v : V} {i : Bool} (h : Dv K F H v (.bool i)) : v = .bl i := by
  rcases h with h | ⟨a, vs, xs, _, h, _⟩
  · exact h.inv
  · cases h
theorem dv_non {K : PySem.W.Frag} {F H : Hp} {v : V} (h : Dv K F H v .none) : v = .non := by
  rcases h with h | ⟨a, vs, xs, _, h, _⟩
  · exact h.inv
  · cases h
theorem dv_tup {K : PySem.W.Frag} {F H : Hp} {v : V} {ds : List D} (h : Dv K F H v (.tuple ds)) : ∃ a vs, v = .ref a ∧ F a = some (.tup vs) ∧ DpAll K F vs ds := by
  rcases h with h | ⟨a, vs, xs, _, h, _⟩
  · obtain ⟨_, _, rfl, h1, h2⟩ := h.inv; exact ⟨_, _, rfl, h1, h2⟩
  · cases h
theorem dv_lst {K : PySem.W.Frag} {F H : Hp} {v : V} {ds : List D} (sb : SubH F H) (h : Dv K F H v (.list ds)) : ∃ a vs, v = .ref a ∧ SqL K H a vs ∧ DpAll K F vs ds := by
  rcases h with h | ⟨a, vs, xs, e, h, h1, h2⟩
  · obtain ⟨_, _, rfl, h1, h2⟩ := h.inv; exact ⟨_, _, rfl, sb.sql h1, h2⟩
  · cases h; exact ⟨a, vs, e, .inl (.inl h1), h2⟩
/-- a new tuple, a new list -/
theorem new_tup {K : PySem.W.Frag} {F H : Hp} {p : Addr} {vs : List V} {ds : List D} (sb : SubH F H) (hp : H p = none) (h : DpAll K F vs ds) : Grow F H (upd F p (.tup vs)) (upd H p (.tup vs)) ∧ Dp K (upd F p (.tup vs)) (.ref p) (.tuple ds) :=
  have G := Grow.new (o := HO.tup vs) sb hp
  ⟨G, .tup upd_same (dpa_mono G.ff h)⟩
theorem new_lst {K : PySem.W.Frag} {F H : Hp} {p : Addr} {vs : List V} {ds : List D} (sb : SubH F H) (hp : H p = none) (h : DpAll K F vs ds) : Grow F H (upd F p (.lst vs)) (upd H p (.lst vs)) ∧ Dp K (upd F p (.lst vs)) (.ref p) (.list ds) :=
  have G := Grow.new (o := HO.lst vs) sb hp
  ⟨G, .lst (.inl (.inl upd_same)) (dpa_mono G.ff h)⟩
theorem or_addD : OpR X (binaryOp .Add) (liftO X.K addD) := by
  intro pins s σ H x y v u Q I rx ry h
  obtain ⟨F, d, e, o, sb, dx, dy, eo, k⟩ := h
  unfold addD at eo
  split at eo
  · cases eo
    cases dv_int dx; cases dv_int dy
    exact op_add pins s σ H _ _ v u Q I rx ry ⟨_, _, rfl, rfl, k _ H F (.refl sb) (.int _)⟩
  · split at eo
    · rename_i hz
      cases eo
      obtain ⟨a, vs, rfl, h1, h2⟩ := dv_tup dx
      obtain ⟨b, ws, rfl, h3, h4⟩ := dv_tup dy
      have l1 := dpa_len h2
      have l2 := dpa_len h4
      refine op_catA pins s σ H _ _ v u Q I rx ry ⟨a, b, vs, ws, rfl, rfl, sb.sqt (sqt_of h1), sb.sqt (sqt_of h3), by rw [l1, l2]; exact szOk_le hz, fun e => ?_, fun n e => ?_, fun n1 n2 p hp => ?_⟩
      · subst e; cases h2; exact k _ H F (.refl sb) (.tup h3 h4)
      · subst e; cases h4; rw [List.append_nil] at k; exact k _ H F (.refl sb) (.tup h1 h2)
      · obtain ⟨G, q⟩ := new_tup sb hp (dpa_app h2 h4)
        exact k _ _ _ G q
    · cases eo
  · split at eo
    · rename_i hz
      cases eo
      obtain ⟨a, vs, rfl, h1, h2⟩ := dv_lst sb dx
      obtain ⟨b, ws, rfl, h3, h4⟩ := dv_lst sb dy
      have l1 := dpa_len h2
      have l2 := dpa_len h4
      refine op_catL pins s σ H _ _ v u Q I rx ry ⟨a, b, vs, ws, rfl, rfl, h1, h3, by rw [l1, l2]; exact szOk_le hz, fun p hp => ?_⟩
      obtain ⟨G, q⟩ := new_lst sb hp (dpa_app h2 h4)
      exact k _ _ _ G q
    · cases eo
  · split at eo
    · rename_i hz
      cases eo
      cases dv_str dx; cases dv_str dy
      exact op_add_str pins s σ H _ _ v u Q I rx ry ⟨_, _, rfl, rfl, szOk_le hz, k _ H F (.refl sb) (.str _)⟩
    · cases eo
  · cases eo
def subD : D → D → Option D
  | .int i, .int j => some (.int (i - j))
  | _, _ => none
theorem or_subD : OpR X (binaryOp .Sub) (liftO X.K subD) := by
  intro pins s σ H x y v u Q I rx ry h
  obtain ⟨F, d, e, o, sb, dx, dy, eo, k⟩ := h
  unfold subD at eo
  split at eo
  · cases eo
    cases dv_int dx; cases dv_int dy
    exact op_sub pins s σ H _ _ v u Q I rx ry ⟨_, _, rfl, rfl, k _ H F (.refl sb) (.int _)⟩
  · cases eo
/-- % and // by a positive number -/
def modD : D → D → Option D
  | .int i, .int j => if 0 < j then some (.int (i % j)) else none
  | _, _ => none
theorem or_modD : OpR X (binaryOp .Mod) (liftO X.K modD) := by
  intro pins s σ H x y v u Q I rx ry h
  obtain ⟨F, d, e, o, sb, dx, dy, eo, k⟩ := h
  unfold modD at eo
  split at eo
  · split at eo
    · rename_i hj
      cases eo
      cases dv_int dx; cases dv_int dy
      exact op_mod pins s σ H _ _ v u Q I rx ry ⟨_, _, rfl, rfl, hj, k _ H F (.refl sb) (.int _)⟩
    · cases eo
  · cases eo
def fdivD : D → D → Option D
  | .int i, .int j => if 0 < j ∧ j < 1073741824 then some (.int (i / j)) else none
  | _, _ => none
theorem or_fdivD : OpR X (binaryOp .FloorDiv) (liftO X.K fdivD) := by
  intro pins s σ H x y v u Q I rx ry h
  obtain ⟨F, d, e, o, sb, dx, dy, eo, k⟩ := h
  unfold fdivD at eo
  split at eo
  · split at eo
    · rename_i hj
      cases eo
      cases dv_int dx; cases dv_int dy
      exact op_fdiv pins s σ H _ _ v u Q I rx ry ⟨_, _, rfl, rfl, hj, k _ H F (.refl sb) (.int _)⟩
    · cases eo
  · cases eo
/-- a product of ints, the left or the right one below 2 ^ 64 -/
def mulD : D → D → Option D
  | .int i, .int j => if (-(2 ^ 64) < i ∧ i < 2 ^ 64) ∨ (-(2 ^ 64) < j ∧ j < 2 ^ 64) then some (.int (i * j)) else none
  | _, _ => none
theorem or_mulD : OpR X (binaryOp .Mult) (liftO X.K mulD) := by
  intro pins s σ H x y v u Q I rx ry h
  obtain ⟨F, d, e, o, sb, dx, dy, eo, k⟩ := h
  unfold mulD at eo
  split at eo
  · split at eo
    · rename_i hj
      cases eo
      cases dv_int dx; cases dv_int dy
      exact op_mul pins s σ H _ _ v u Q I rx ry ⟨_, _, rfl, rfl, hj, k _ H F (.refl sb) (.int _)⟩
    · cases eo
  · cases eo

/-! ### comparisons -/
def bD (h : D → D → Option Bool) (d e : D) : Option D := (h d e).map .bool
theorem bD_some {h : D → D → Option Bool} {d e o : D} (q : bD h d e = some o) : ∃ b, h d e = some b ∧ o = .bool b := by
  unfold bD at q
  simp only [Option.map_eq_some_iff] at q
  obtain ⟨b, h1, h2⟩ := q
  exact ⟨b, h1, h2.symm⟩
def eqB (d e : D) : Option Bool := if SeqAt.shaped d && SeqAt.shaped e then some (PyData.eqv d e) else none
def neB (d e : D) : Option Bool := if SeqAt.shaped d && SeqAt.shaped e then some (!PyData.eqv d e) else none
theorem or_eqB (hu : X.A.units + 64 < cLine) : OpR X (compareOp .Eq) (liftO X.K (bD eqB)) := by
  intro pins s σ H x y v u Q I rx ry h
  obtain ⟨F, d, e, o, sb, dx, dy, eo, k⟩ := h
  obtain ⟨bb, e9, rfl⟩ := bD_some eo
  clear eo; have eo := e9; clear e9
  unfold eqB at eo
  split at eo
  · rename_i hs
    cases eo
    obtain ⟨s1, s2⟩ := (Bool.and_eq_true_iff.mp hs)
    exact op_eqD hu pins s σ H _ _ v u Q I rx ry ⟨d, e, dp_old (dx.dp sb), dp_old (dy.dp sb), s1, s2, k _ H F (.refl sb) (.bl _)⟩
  · cases eo
theorem or_neB (hu : X.A.units + 64 < cLine) : OpR X (compareOp .NotEq) (liftO X.K (bD neB)) := by
  intro pins s σ H x y v u Q I rx ry h
  obtain ⟨F, d, e, o, sb, dx, dy, eo, k⟩ := h
  obtain ⟨bb, e9, rfl⟩ := bD_some eo
  clear eo; have eo := e9; clear e9
  unfold neB at eo
  split at eo
  · rename_i hs
    cases eo
    obtain ⟨s1, s2⟩ := (Bool.and_eq_true_iff.mp hs)
    exact op_neD hu pins s σ H _ _ v u Q I rx ry ⟨d, e, dp_old (dx.dp sb), dp_old (dy.dp sb), s1, s2, k _ H F (.refl sb) (.bl _)⟩
  · cases eo
/-- the ints of a row -/
def intsOf : List D → Option (List Int)
  | [] => some []
  | .int i :: r => (intsOf r).map (i :: ·)
  | _ :: _ => none
theorem intsOf_some : ∀ {ds : List D} {ns : List Int}, intsOf ds = some ns → ds = ns.map PyData.int
  | [], ns, h => by cases h; rfl
  | .int i :: r, ns, h => by
    simp only [intsOf, Option.map_eq_some_iff] at h
    obtain ⟨ms, h1, rfl⟩ := h
    rw [intsOf_some h1]; rfl
  | .none :: _, _, h => nomatch h
  | .bool _ :: _, _, h => nomatch h
  | .str _ :: _, _, h => nomatch h
  | .list _ :: _, _, h => nomatch h
  | .tuple _ :: _, _, h => nomatch h
  | .dict _ :: _, _, h => nomatch h
theorem intsOf_map (ns : List Int) : intsOf (ns.map PyData.int) = some ns := by
  induction ns with
  | nil => rfl
  | cons n ns ih => simp [intsOf, ih]
def ltB : D → D → Option Bool
  | .int i, .int j => some (decide (i < j))
  | .tuple xs, .tuple ys => (intsOf xs).bind fun ns => (intsOf ys).map fun ms => HT.lexLt ns ms
  | _, _ => none
theorem or_ltB (hu : X.A.units < cLine) : OpR X (compareOp .Lt) (liftO X.K (bD ltB)) := by
  intro pins s σ H x y v u Q I rx ry h
  obtain ⟨F, d, e, o, sb, dx, dy, eo, k⟩ := h
  obtain ⟨bb, e9, rfl⟩ := bD_some eo
  clear eo; have eo := e9; clear e9
  unfold ltB at eo
  split at eo
  · cases eo
    cases dv_int dx; cases dv_int dy
    exact op_lt pins s σ H _ _ v u Q I rx ry ⟨_, _, rfl, rfl, k _ H F (.refl sb) (.bl _)⟩
  · simp only [Option.bind_eq_some_iff, Option.map_eq_some_iff] at eo
    obtain ⟨ns, e1, ms, e2, rfl⟩ := eo
    cases intsOf_some e1; cases intsOf_some e2
    obtain ⟨a, vs, rfl, h1, h2⟩ := dv_tup dx
    obtain ⟨b, ws, rfl, h3, h4⟩ := dv_tup dy
    cases dpa_ints h2; cases dpa_ints h4
    exact op_ltT hu pins s σ H _ _ v u Q I rx ry ⟨a, b, ns, ms, rfl, rfl, sb.sqt (sqt_of h1), sb.sqt (sqt_of h3), k _ H F (.refl sb) (.bl _)⟩
  · cases eo
def leB : D → D → Option Bool
  | .int i, .int j => some (decide (i ≤ j))
  | .tuple xs, .tuple ys => (intsOf xs).bind fun ns => (intsOf ys).map fun ms => !HT.lexLt ms ns
  | _, _ => none
theorem lexAt_shift {e r : Nat → Bool} {z : Bool} : ∀ (n i : Nat), Ob.lexAt e r z (i + 1) n = Ob.lexAt (fun j => e (j + 1)) (fun j => r (j + 1)) z i n
  | 0, i => rfl
  | n + 1, i => by rw [Ob.lexAt_succ, Ob.lexAt_succ, lexAt_shift n (i + 1)]
theorem le_lex : ∀ ns ms : List Int, Ob.lexAt (fun j => decide (ns.getD j 0 = ms.getD j 0)) (fun j => decide (ns.getD j 0 ≤ ms.getD j 0)) (decide (ns.length ≤ ms.length)) 0 (min ns.length ms.length) = !HT.lexLt ms ns
  | [], [] => rfl
  | [], y :: ys => by simp [Ob.lexAt_zero, HT.lexLt]
  | x :: xs, [] => by simp [Ob.lexAt_zero, HT.lexLt]
  | x :: xs, y :: ys => by
    have ih := le_lex xs ys
    have hm : min (x :: xs).length (y :: ys).length = min xs.length ys.length + 1 := by simp only [List.length_cons]; omega
    rw [hm, Ob.lexAt_succ, HT.lexLt_cons]
    simp only [List.getD_cons_zero]
    by_cases h : x = y
    · subst h
      rw [if_pos (by simp), if_pos rfl, lexAt_shift]
      simp only [List.getD_cons_succ, List.length_cons, Nat.add_le_add_iff_right]
      exact ih
    · rw [if_neg (by simpa using h), if_neg (fun q => h q.symm)]
      by_cases q : x ≤ y
      · rw [decide_eq_true q, decide_eq_false (by omega)]; rfl
      · rw [decide_eq_false q, decide_eq_true (by omega)]; rfl
theorem or_leB (hu : X.A.units < cLine) : OpR X (compareOp .LtE) (liftO X.K (bD leB)) := by
  intro pins s σ H x y v u Q I rx ry h
  obtain ⟨F, d, e, o, sb, dx, dy, eo, k⟩ := h
  obtain ⟨bb, e9, rfl⟩ := bD_some eo
  clear eo; have eo := e9; clear e9
  unfold leB at eo
  split at eo
  · cases eo
    cases dv_int dx; cases dv_int dy
    exact op_le pins s σ H _ _ v u Q I rx ry ⟨_, _, rfl, rfl, k _ H F (.refl sb) (.bl _)⟩
  · simp only [Option.bind_eq_some_iff, Option.map_eq_some_iff] at eo
    obtain ⟨ns, e1, ms, e2, rfl⟩ := eo
    cases intsOf_some e1; cases intsOf_some e2
    obtain ⟨a, vs, rfl, h1, h2⟩ := dv_tup dx
    obtain ⟨b, ws, rfl, h3, h4⟩ := dv_tup dy
    cases dpa_ints h2; cases dpa_ints h4
    refine op_leT hu pins s σ H _ _ v u Q I rx ry ⟨a, b, ns, ms, rfl, rfl, sb.sqt (sqt_of h1), sb.sqt (sqt_of h3), ?_⟩
    rw [le_lex]
    exact k _ H F (.refl sb) (.bl _)
  · cases eo
def gtB : D → D → Option Bool
  | .int i, .int j => some (decide (j < i))
  | _, _ => none
theorem or_gtB : OpR X (compareOp .Gt) (liftO X.K (bD gtB)) := by
  intro pins s σ H x y v u Q I rx ry h
  obtain ⟨F, d, e, o, sb, dx, dy, eo, k⟩ := h
  obtain ⟨bb, e9, rfl⟩ := bD_some eo
  clear eo; have eo := e9; clear e9
  unfold gtB at eo
  split at eo
  · cases eo
    cases dv_int dx; cases dv_int dy
    exact op_gt pins s σ H _ _ v u Q I rx ry ⟨_, _, rfl, rfl, k _ H F (.refl sb) (.bl _)⟩
  · cases eo
def geB : D → D → Option Bool
  | .int i, .int j => some (decide (j ≤ i))
  | _, _ => none
theorem or_geB : OpR X (compareOp .GtE) (liftO X.K (bD geB)) := by
  intro pins s σ H x y v u Q I rx ry h
  obtain ⟨F, d, e, o, sb, dx, dy, eo, k⟩ := h
  obtain ⟨bb, e9, rfl⟩ := bD_some eo
  clear eo; have eo := e9; clear e9
  unfold geB at eo
  split at eo
  · cases eo
    cases dv_int dx; cases dv_int dy
    exact op_ge pins s σ H _ _ v u Q I rx ry ⟨_, _, rfl, rfl, k _ H F (.refl sb) (.bl _)⟩
  · cases eo
/-- in -/
def itemsOf : D → Option (List D)
  | .tuple ds => some ds
  | .list ds => some ds
  | _ => none
def inB (d e : D) : Option Bool := (itemsOf e).bind fun ds => if SeqAt.shaped d && SeqAt.shaped e then some (ds.any fun z => PyData.eqv z d) else none
def notInB (d e : D) : Option Bool := (inB d e).map fun b => !b
theorem or_inB (hu : X.A.units + 65 < cLine) : OpR X (compareOp .In) (liftO X.K (bD inB)) := by
  intro pins s σ H x y v u Q I rx ry h
  obtain ⟨F, d, e, o, sb, dx, dy, eo, k⟩ := h
  obtain ⟨bb, e9, rfl⟩ := bD_some eo
  clear eo; have eo := e9; clear e9
  unfold inB at eo
  simp only [Option.bind_eq_some_iff] at eo
  obtain ⟨ds, e1, e2⟩ := eo
  split at e2
  · rename_i hs
    cases e2
    obtain ⟨s1, s2⟩ := (Bool.and_eq_true_iff.mp hs)
    obtain ⟨as, r1⟩ := L2.Dp.reads I d x v (dp_old (dx.dp sb)) rx
    obtain ⟨bs, r2⟩ := L2.Dp.reads I e y u (dp_old (dy.dp sb)) ry
    unfold itemsOf at e1
    split at e1
    · cases e1
      exact SeqAt.in_tuple_reads r2 r1 (SeqAt.canLay_of_shaped s2) (SeqAt.canLay_of_shaped s1) (room_in_shaped s1 hu) ⟨.bl _, H, I, rfl, k _ H F (.refl sb) (.bl _)⟩
    · cases e1
      exact SeqAt.in_list_reads r2 r1 (SeqAt.canLay_of_shaped s2) (SeqAt.canLay_of_shaped s1) (room_in_shaped s1 hu) ⟨.bl _, H, I, rfl, k _ H F (.refl sb) (.bl _)⟩
    · cases e1
  · cases e2
theorem or_notInB (hu : X.A.units + 65 < cLine) : OpR X (compareOp .NotIn) (liftO X.K (bD notInB)) := by
  intro pins s σ H x y v u Q I rx ry h
  obtain ⟨F, d, e, o, sb, dx, dy, eo, k⟩ := h
  obtain ⟨bb, e9, rfl⟩ := bD_some eo
  clear eo; have eo := e9; clear e9
  unfold notInB inB at eo
  simp only [Option.bind_eq_some_iff, Option.map_eq_some_iff] at eo
  obtain ⟨b, ⟨ds, e1, e2⟩, rfl⟩ := eo
  split at e2
  · rename_i hs
    cases e2
    obtain ⟨s1, s2⟩ := (Bool.and_eq_true_iff.mp hs)
    obtain ⟨as, r1⟩ := L2.Dp.reads I d x v (dp_old (dx.dp sb)) rx
    obtain ⟨bs, r2⟩ := L2.Dp.reads I e y u (dp_old (dy.dp sb)) ry
    unfold itemsOf at e1
    split at e1
    · cases e1
      exact SeqAt.notIn_tuple_reads r2 r1 (SeqAt.canLay_of_shaped s2) (SeqAt.canLay_of_shaped s1) (room_in_shaped s1 hu) ⟨.bl _, H, I, rfl, k _ H F (.refl sb) (.bl _)⟩
    · cases e1
      exact SeqAt.notIn_list_reads r2 r1 (SeqAt.canLay_of_shaped s2) (SeqAt.canLay_of_shaped s1) (room_in_shaped s1 hu) ⟨.bl _, H, I, rfl, k _ H F (.refl sb) (.bl _)⟩
    · cases e1
  · cases e2
end
end DL

namespace DL
open PySem L2 PyProof.Rows PySem.Spec
section
variable {X : Cx} {a b c e : Expr} {es : List Expr} {f g h : EM} {pos : Pos}
theorem dv_not_non {K : PySem.W.Frag} {F H : Hp} {v : V} {d : D} (x : Dv K F H v d) (n : d ≠ .none) : v ≠ .non := by
  rcases x with x | ⟨a, vs, xs, rfl, _⟩
  · exact fun q => n (by subst q; cases d <;> first | rfl | exact absurd x.inv (by rintro ⟨_, _, q, _⟩; cases q) | cases x.inv)
  · intro q; cases q
def isB : D → D → Option Bool
  | .bool a, .bool b => some (decide (a = b))
  | .none, .none => some true
  | .bool _, .none => some false
  | .int _, .none => some false
  | .str _, .none => some false
  | .tuple _, .none => some false
  | .list _, .none => some false
  | _, _ => none
def isNotB (d e : D) : Option Bool := (isB d e).map fun b => !b
theorem or_isB : OpR X (compareOp .Is) (liftO X.K (bD isB)) := by
  intro pins s σ H x y v u Q I rx ry h
  obtain ⟨F, d, e, o, sb, dx, dy, eo, k⟩ := h
  obtain ⟨b, e1, rfl⟩ := bD_some eo
  have key : e = .none → b = decide (x = V.non) → wpAny (model X.prog X.w) X.A (compareOp .Is v u) (EP X pins σ Q) X.xe s := fun he hb => by
    subst he
    cases dv_non dy
    refine op_isN pins s σ H _ _ v u Q I rx ry ⟨rfl, ?_⟩
    rw [← hb]; exact k _ H F (.refl sb) (.bl _)
  unfold isB at e1
  split at e1
  · cases e1
    cases dv_bl dx; cases dv_bl dy
    exact op_is_bl pins s σ H _ _ v u Q I rx ry ⟨_, _, rfl, rfl, k _ H F (.refl sb) (.bl _)⟩
  · cases e1; cases dv_non dx; exact key rfl (by simp)
  all_goals first
    | (cases e1; done)
    | (cases e1; exact key rfl (by rw [decide_eq_false (dv_not_non dx (by intro q; cases q))]))
theorem or_isNotB : OpR X (compareOp .IsNot) (liftO X.K (bD isNotB)) := by
  intro pins s σ H x y v u Q I rx ry h
  obtain ⟨F, d, e, o, sb, dx, dy, eo, k⟩ := h
  obtain ⟨bb, e9, rfl⟩ := bD_some eo
  clear eo; have eo := e9; clear e9
  unfold isNotB at eo
  simp only [Option.map_eq_some_iff] at eo
  obtain ⟨b, e1, rfl⟩ := eo
  have key : e = .none → b = decide (x = V.non) → wpAny (model X.prog X.w) X.A (compareOp .IsNot v u) (EP X pins σ Q) X.xe s := fun he hb => by
    subst he
    cases dv_non dy
    refine op_notN pins s σ H _ _ v u Q I rx ry ⟨rfl, ?_⟩
    rw [← hb]; exact k _ H F (.refl sb) (.bl _)
  unfold isB at e1
  split at e1
  · cases e1
    cases dv_bl dx; cases dv_bl dy
    exact op_isnot_bl pins s σ H _ _ v u Q I rx ry ⟨_, _, rfl, rfl, k _ H F (.refl sb) (.bl _)⟩
  · cases e1; cases dv_non dx; exact key rfl (by simp)
  all_goals first
    | (cases e1; done)
    | (cases e1; exact key rfl (by rw [decide_eq_false (dv_not_non dx (by intro q; cases q))]))

/-! ### truth -/
def truD : D → Option Bool
  | .none => some false
  | .bool b => some b
  | .int i => some (i != 0)
  | .str x => if szOk x.length then some ((x.length : Int) != 0) else none
  | .list xs => some (!xs.isEmpty)
  | .tuple xs => some (!xs.isEmpty)
  | .dict _ => none
theorem dpa_empty {K : PySem.W.Frag} {F : Hp} {vs : List V} {ds : List D} (h : DpAll K F vs ds) : vs.isEmpty = ds.isEmpty := by cases h <;> rfl
theorem tru_of {K : PySem.W.Frag} {F H : Hp} {v : V} {d : D} {b : Bool} (sb : SubH F H) (x : Dv K F H v d) (h : truD d = some b) : TruV K v H b := by
  unfold truD at h
  split at h
  · cases h; cases dv_non x; rfl
  · cases h; cases dv_bl x; rfl
  · cases h; cases dv_int x; rfl
  · split at h
    · rename_i hz; cases h; cases dv_str x; exact ⟨szOk_le hz, rfl⟩
    · cases h
  · cases h
    obtain ⟨a, vs, rfl, h1, h2⟩ := dv_lst sb x
    exact .inl ⟨vs, h1, by rw [dpa_empty h2]⟩
  · cases h
    obtain ⟨a, vs, rfl, h1, h2⟩ := dv_tup x
    exact .inr (.inl ⟨vs, sb.sqt (sqt_of h1), by rw [dpa_empty h2]⟩)
  · cases h
def truM (f : EM) : TM := fun r => (f r).bind fun p => (truD p.1).map fun b => (b, p.2)
theorem truM_some {f : EM} {r r' : Rho} {o : Bool} (q : truM f r = some (o, r')) : ∃ x, f r = some (x, r') ∧ truD x = some o := by
  unfold truM at q
  simp only [Option.bind_eq_some_iff, Option.map_eq_some_iff] at q
  obtain ⟨⟨x, r1⟩, e1, o', e2, e3⟩ := q
  cases e3; exact ⟨x, e1, e2⟩
/-- a value as a test -/
theorem st_val (ha : SW X a f) (he : ∀ whole, isTrue a X.env whole = (do let v ← whole; standAt a.pos; holding [v] (truthy v)) := by intro _; rfl) : ST X a (truM f) :=
  ⟨pt_imp (pt_truth ha.pe he) fun s H Q ⟨z, r, F, d, r', R, e, k⟩ => by
    obtain ⟨x, e1, e2⟩ := truM_some e
    exact ⟨z, r, F, x, r', R, e1, fun v H' F' R' sb dv => ⟨d, tru_of R'.fh dv e2, k H' F' R' sb⟩⟩⟩
/-- a comparison as a test -/
def blD : D → Option Bool
  | .bool b => some b
  | _ => none
def tstM (h : D → D → Option Bool) (f g : EM) : TM := fun r => (f r).bind fun p => (g p.2).bind fun q => (h p.1 q.1).map fun b => (b, q.2)
def tstOwnM (h : D → D → Option Bool) (i : Nat) (g : EM) : TM := fun r => (ownM i r).bind fun _ => (g r).bind fun q => (ownM i q.2).bind fun p => (h p.1 q.1).map fun b => (b, q.2)
theorem tstM_op {h : D → D → Option Bool} {f g : EM} {r r' : Rho} {o : Bool} (q : tstM h f g r = some (o, r')) : opM (bD h) f g r = some (.bool o, r') := by
  unfold tstM at q
  unfold opM bD
  simp only [Option.bind_eq_some_iff, Option.map_eq_some_iff] at q ⊢
  obtain ⟨p, e1, p2, e2, b, e3, e4⟩ := q
  cases e4
  exact ⟨p, e1, p2, e2, _, ⟨_, e3, rfl⟩, rfl⟩
theorem tstOwnM_op {h : D → D → Option Bool} {i : Nat} {g : EM} {r r' : Rho} {o : Bool} (q : tstOwnM h i g r = some (o, r')) : opOwnM (bD h) i g r = some (.bool o, r') := by
  unfold tstOwnM at q
  unfold opOwnM bD
  simp only [Option.bind_eq_some_iff, Option.map_eq_some_iff] at q ⊢
  obtain ⟨p, e1, p2, e2, p3, e5, b, e3, e4⟩ := q
  cases e4
  exact ⟨p, e1, p2, e2, p3, e5, _, ⟨_, e3, rfl⟩, rfl⟩
theorem st_cmp {op : CmpOp} {h : D → D → Option Bool} (ho : OpR X (compareOp op) (liftO X.K (bD h))) (ha : SE X a f) (hb : SW X b g) (hm : behindInMarks op b = false := by first | exact nobehind _ (by decide) (by decide) | rfl) : ST X (.Compare a [op] [b] pos) (tstM h f g) :=
  ⟨pt_imp (pt_cmpR ho ha.pe hb.pe hm) fun s H Q ⟨z, r, F, d, r', R, e, k⟩ => by
    refine top_op (r2 := liftO X.K (bD h)) hb ha ⟨z, r, F, _, r', R, tstM_op e, fun v H' F' R' sb dv => ⟨d, ?_, k H' F' R' sb⟩⟩
    cases dv.inv; rfl⟩
theorem st_cmpOwn {op : CmpOp} {h : D → D → Option Bool} (i : Nat) {x : Str} {p : Pos} (ho : OpR X (compareOp op) (liftO X.K (bD h))) (hb : SW X b g) (hN : X.N[i]? = some x := by rfl) (hv : Vis X.env.scope x := by first | exact Or.inl rfl | exact Or.inr (Or.inl rfl) | exact Or.inr (Or.inr rfl)) (hd : (x == ("__debug__" : Str)) = false := by decide)
    (hcd : (x == ("__classdict__" : Str)) = false := by decide) (hm : behindInMarks op b = false := by first | exact nobehind _ (by decide) (by decide) | rfl) : ST X (.Compare (.Name x p) [op] [b] pos) (tstOwnM h i g) :=
  ⟨pt_imp (pt_cmpR ho (pe_var hN hv hd hcd) hb.pe hm) fun s H Q ⟨z, r, F, d, r', R, e, k⟩ => by
    refine own_op (h := bD h) i ⟨z, r, F, _, r', R, tstOwnM_op e, fun v H' F' R' sb dv => ⟨d, ?_, k H' F' R' sb⟩⟩
    cases dv.inv; rfl⟩
/-! ### not, and, or: tests -/
structure SWt (X : Cx) (e : Expr) (f : TM) : Prop where
  pw : PW X e (liftT X.K f)
def notM (f : TM) : TM := fun r => (f r).map fun p => (!p.1, p.2)
def andM (f g : TM) : TM := fun r => (f r).bind fun p => if p.1 = true then g p.2 else some (false, p.2)
def orM (f g : TM) : TM := fun r => (f r).bind fun p => if p.1 = true then some (true, p.2) else g p.2
variable {ft gt : TM} {rest : List Expr}
theorem st_not (ha : ST X a ft) : ST X (.UnaryOp .Not a pos) (notM ft) :=
  ⟨pt_imp (pt_not ha.pt) fun s H Q ⟨z, r, F, d, r', R, e, k⟩ => by
    unfold notM at e
    simp only [Option.map_eq_some_iff] at e
    obtain ⟨⟨b, r1⟩, e1, e2⟩ := e
    cases e2
    exact ⟨z, r, F, b, r1, R, e1, fun H' F' R' sb => k H' F' R' sb⟩⟩
theorem pw_imp {e : Expr} {t t' : TT} (h : PW X e t) (k : ∀ s H Q, t' s H Q → t s H Q) : PW X e t' := ⟨fun wh pins s σ H Q I hq => h.run wh pins s σ H Q I (k _ _ _ hq)⟩
theorem and_lift {s : L2.St} {H : Hp} {Q : Bool → Hp → Prop} (q : liftT X.K (andM ft gt) s H Q) : tAnd (liftT X.K ft) (liftT X.K gt) s H Q := by
  obtain ⟨z, r, F, d, r', R, e, k⟩ := q
  unfold andM at e
  simp only [Option.bind_eq_some_iff] at e
  obtain ⟨⟨b, r1⟩, e1, e2⟩ := e
  refine ⟨z, r, F, b, r1, R, e1, fun H1 F1 R1 sb => ?_⟩
  cases b with
  | true => exact ⟨z, r1, F1, d, r', R1, e2, fun H2 F2 R2 sb2 => k H2 F2 R2 (sb.trans sb2)⟩
  | false => cases e2; exact k H1 F1 R1 sb
theorem or_lift {s : L2.St} {H : Hp} {Q : Bool → Hp → Prop} (q : liftT X.K (orM ft gt) s H Q) : tOr (liftT X.K ft) (liftT X.K gt) s H Q := by
  obtain ⟨z, r, F, d, r', R, e, k⟩ := q
  unfold orM at e
  simp only [Option.bind_eq_some_iff] at e
  obtain ⟨⟨b, r1⟩, e1, e2⟩ := e
  refine ⟨z, r, F, b, r1, R, e1, fun H1 F1 R1 sb => ?_⟩
  cases b with
  | false => exact ⟨z, r1, F1, d, r', R1, e2, fun H2 F2 R2 sb2 => k H2 F2 R2 (sb.trans sb2)⟩
  | true => cases e2; exact k H1 F1 R1 sb
theorem sw_and1 (ha : ST X a ft) : SWt X (.BoolOp .And [a] pos) ft := ⟨pw_and1 ha.pt⟩
theorem sw_or1 (ha : ST X a ft) : SWt X (.BoolOp .Or [a] pos) ft := ⟨pw_or1 ha.pt⟩
theorem sw_and (ha : ST X a ft) (hb : SWt X (.BoolOp .And (b :: rest) pos) gt) : SWt X (.BoolOp .And (a :: b :: rest) pos) (andM ft gt) := ⟨pw_imp (pw_and ha.pt hb.pw) fun s H Q q => and_lift q⟩
theorem sw_or (ha : ST X a ft) (hb : SWt X (.BoolOp .Or (b :: rest) pos) gt) : SWt X (.BoolOp .Or (a :: b :: rest) pos) (orM ft gt) := ⟨pw_imp (pw_or ha.pt hb.pw) fun s H Q q => or_lift q⟩
theorem SWt.st (h : SWt X e ft) : ST X e ft := ⟨h.pw.pt⟩
/-! ### as values -/
def andVM (f g : EM) : EM := fun r => (f r).bind fun p => (truD p.1).bind fun b => if b = true then g p.2 else some (p.1, p.2)
def orVM (f g : EM) : EM := fun r => (f r).bind fun p => (truD p.1).bind fun b => if b = true then some (p.1, p.2) else g p.2
def notVM (f : EM) : EM := fun r => (f r).bind fun p => (truD p.1).map fun b => (.bool (!b), p.2)
theorem se_one {op} (ha : SE X a f) : SE X (.BoolOp op [a] pos) f := ⟨pe_one ha.pe⟩
theorem se_and (ha : SE X a f) (hb : SE X (.BoolOp .And (b :: rest) pos) g) : SE X (.BoolOp .And (a :: b :: rest) pos) (andVM f g) :=
  ⟨pe_imp (pe_andT ha.pe hb.pe) fun s H Q ⟨z, r, F, d, r', R, e, k⟩ => by
    unfold andVM at e
    simp only [Option.bind_eq_some_iff] at e
    obtain ⟨⟨x, r1⟩, e1, b, e2, e3⟩ := e
    refine ⟨z, r, F, x, r1, R, e1, fun v H1 F1 R1 sb dv => ⟨b, tru_of R1.fh (.inl dv) e2, ?_⟩⟩
    cases b with
    | true => exact ⟨z, r1, F1, d, r', R1, e3, fun v2 H2 F2 R2 sb2 dd => k v2 H2 F2 R2 (sb.trans sb2) dd⟩
    | false => cases e3; exact k v H1 F1 R1 sb dv⟩
theorem se_or (ha : SE X a f) (hb : SE X (.BoolOp .Or (b :: rest) pos) g) : SE X (.BoolOp .Or (a :: b :: rest) pos) (orVM f g) :=
  ⟨pe_imp (pe_orT ha.pe hb.pe) fun s H Q ⟨z, r, F, d, r', R, e, k⟩ => by
    unfold orVM at e
    simp only [Option.bind_eq_some_iff] at e
    obtain ⟨⟨x, r1⟩, e1, b, e2, e3⟩ := e
    refine ⟨z, r, F, x, r1, R, e1, fun v H1 F1 R1 sb dv => ⟨b, tru_of R1.fh (.inl dv) e2, ?_⟩⟩
    cases b with
    | false => exact ⟨z, r1, F1, d, r', R1, e3, fun v2 H2 F2 R2 sb2 dd => k v2 H2 F2 R2 (sb.trans sb2) dd⟩
    | true => cases e3; exact k v H1 F1 R1 sb dv⟩
theorem se_not (ha : SW X a f) : SE X (.UnaryOp .Not a pos) (notVM f) :=
  ⟨pe_imp (pe_notT ha.pe) fun s H Q ⟨z, r, F, d, r', R, e, k⟩ => by
    unfold notVM at e
    simp only [Option.bind_eq_some_iff, Option.map_eq_some_iff] at e
    obtain ⟨⟨x, r1⟩, e1, b, e2, e3⟩ := e
    cases e3
    exact ⟨z, r, F, x, r1, R, e1, fun v H1 F1 R1 sb dv => ⟨b, tru_of R1.fh dv e2, k _ H1 F1 R1 sb (.bl _)⟩⟩⟩
/-- a if t else b -/
def iteM (t : TM) (f g : EM) : EM := fun r => (t r).bind fun p => if p.1 = true then f p.2 else g p.2
theorem se_ite (hc : ST X c ft) (ha : SE X a f) (hb : SE X b g) : SE X (.IfExp c a b pos) (iteM ft f g) :=
  ⟨pe_imp (pe_ifExp hc.pt ha.pe hb.pe) fun s H Q ⟨z, r, F, d, r', R, e, k⟩ => by
    unfold iteM at e
    simp only [Option.bind_eq_some_iff] at e
    obtain ⟨⟨b, r1⟩, e1, e2⟩ := e
    refine ⟨z, r, F, b, r1, R, e1, fun H1 F1 R1 sb => ?_⟩
    cases b with
    | true => exact ⟨z, r1, F1, d, r', R1, e2, fun v2 H2 F2 R2 sb2 dd => k v2 H2 F2 R2 (sb.trans sb2) dd⟩
    | false => exact ⟨z, r1, F1, d, r', R1, e2, fun v2 H2 F2 R2 sb2 dd => k v2 H2 F2 R2 (sb.trans sb2) dd⟩⟩
/-- -a -/
def negD : D → Option D
  | .int i => some (.int (-i))
  | _ => none
theorem se_neg (ha : SE X a f) : SE X (.UnaryOp .USub a pos) (unM negD f) :=
  ⟨pe_imp (pe_un un_neg ha.pe) fun s H Q ⟨z, r, F, d, r', R, e, k⟩ => by
    obtain ⟨x, e1, e2⟩ := unM_some e
    unfold negD at e2
    split at e2
    · cases e2
      exact ⟨z, r, F, _, r', R, e1, fun v H1 F1 R1 sb dv => by cases dv.inv; exact ⟨_, rfl, k _ H1 F1 R1 sb (.int _)⟩⟩
    · cases e2⟩
/-! ### rows of expressions, displays -/
def nilM : AM := fun r => some ([], r)
def consM (f : EM) (g : AM) : AM := fun r => (f r).bind fun p => (g p.2).map fun q => (p.1 :: q.1, q.2)
theorem sa_nil : SA X [] nilM := ⟨pa_imp pa_nil fun s H Q ⟨z, r, F, d, r', R, e, k⟩ => by cases e; exact k [] H F R (.refl _) .nil, fun r ds r' e => by cases e; rfl⟩
theorem consM_some {f : EM} {g : AM} {r r' : Rho} {o : List D} (q : consM f g r = some (o, r')) : ∃ x r1 xs, f r = some (x, r1) ∧ g r1 = some (xs, r') ∧ o = x :: xs := by
  unfold consM at q
  simp only [Option.bind_eq_some_iff, Option.map_eq_some_iff] at q
  obtain ⟨⟨x, r1⟩, e1, ⟨xs, r2⟩, e2, e3⟩ := q
  cases e3; exact ⟨x, r1, xs, e1, e2, rfl⟩
theorem sa_cons {g : AM} (ha : SE X e f) (hr : SA X es g) (hs : starEach (e :: es) X.env = (false, eval e X.env) :: starEach es X.env := by rfl) : SA X (e :: es) (consM f g) :=
  ⟨pa_imp (pa_cons ha.pe hr.pa hs) fun s H Q ⟨z, r, F, d, r', R, e, k⟩ => by
    obtain ⟨x, r1, xs, e1, e2, rfl⟩ := consM_some e
    exact ⟨z, r, F, x, r1, R, e1, fun v H1 F1 R1 sb1 dv => ⟨z, r1, F1, xs, r', R1, e2, fun vs H2 F2 R2 sb2 dvs => k _ H2 F2 R2 (sb1.trans sb2) (.cons (dp_mono sb2 dv) dvs)⟩⟩, fun r ds r' e => by
    obtain ⟨x, r1, xs, e1, e2, rfl⟩ := consM_some e
    rw [List.length_cons, hr.len _ _ _ e2]; rfl⟩
def tupM (f : AM) : EM := fun r => (f r).bind fun p => if szOk p.1.length then some (.tuple p.1, p.2) else none
def lstM (f : AM) : AM := fun r => (f r).bind fun p => if szOk p.1.length then some p else none
theorem se_tup {x1} {f : AM} (h : SA X es f) : SE X (.Tuple es x1 pos) (tupM f) :=
  ⟨pe_imp (pe_tup h.pa) fun s H Q ⟨z, r, F, d, r', R, e, k⟩ => by
    unfold tupM at e
    simp only [Option.bind_eq_some_iff] at e
    obtain ⟨⟨xs, r1⟩, e1, e2⟩ := e
    split at e2
    · rename_i hz
      cases e2
      refine ⟨z, r, F, xs, r1, R, e1, fun vs H1 F1 R1 sb dv => ⟨by rw [dpa_len dv]; exact szOk_le hz, fun p hp => ?_⟩⟩
      obtain ⟨G, q⟩ := new_tup R1.fh hp dv
      exact k _ _ _ (R1.grow G) (sb.trans G.ff) q
    · cases e2⟩
theorem Rep.loose {K : PySem.W.Frag} {z : Fx} {r : Rho} {s : L2.St} {H F : Hp} {p : Addr} {vs : List V} (R : Rep K z r s H F) (hp : H p = none) : Rep K z r s (upd H p (.lst vs)) F ∧ (upd H p (.lst vs)) p = some (.lst vs) ∧ F p = none ∧ z.H0 p = none ∧ ¬ OwnAt r s p :=
  ⟨R.grow (.loose R.fh hp), upd_same, R.fh.none hp, R.old.none hp, fun q => by
    obtain ⟨⟨o, ho⟩, _⟩ := R.own_facts q
    rw [hp] at ho; cases ho⟩
theorem sl_lst {f : AM} (h : SA X es f) : SL X (.List es pos) (lstM f) :=
  ⟨pe_imp (pe_lst h.pa) fun s H Q ⟨z, r, F, d, r', R, e, k⟩ => by
    unfold lstM at e
    simp only [Option.bind_eq_some_iff] at e
    obtain ⟨⟨xs, r1⟩, e1, e2⟩ := e
    split at e2
    · rename_i hz
      cases e2
      refine ⟨z, r, F, _, _, R, e1, fun vs H1 F1 R1 sb dv => ⟨by rw [dpa_len dv]; exact szOk_le hz, fun p hp => ?_⟩⟩
      obtain ⟨R2, h1, h2, h3, h4⟩ := R1.loose (vs := vs) hp
      exact k p vs _ F1 R2 sb h1 h2 h3 h4 dv
    · cases e2⟩
end
end DL

namespace DL
open PySem L2 PyProof.Rows PySem.Spec
section
variable {X : Cx} {a b c e : Expr} {es : List Expr} {f g h : EM} {pos : Pos}
/-! ### subscripts -/
def ixD : D → D → Option D
  | .tuple ds, .int i => atI ds i
  | .list ds, .int i => atI ds i
  | .str x, .int i => if szOk x.length then (atI x.cps.toList i).map fun c => .str ⟨#[c]⟩ else none
  | _, _ => none
theorem atI_dpa {K : PySem.W.Frag} {F : Hp} {vs : List V} {ds : List D} {i : Int} {d : D} (h : DpAll K F vs ds) (q : atI ds i = some d) : ∃ v, atI vs i = some v ∧ Dp K F v d := by
  unfold atI at q ⊢
  rw [dpa_len h]
  cases e : ixN ds.length i with
  | none => rw [e] at q; cases q
  | some j => rw [e] at q; exact dpa_get (i := j) h q
theorem ix_any : IxR X (liftO X.K ixD) := by
  intro value slice pins s σ H x y v u Q I rx ry h hs
  obtain ⟨F, d, e, o, sb, dx, dy, eo, k⟩ := h
  unfold ixD at eo
  split at eo
  · obtain ⟨a, vs, rfl, h1, h2⟩ := dv_tup dx
    cases dv_int dy
    obtain ⟨w, e1, e2⟩ := atI_dpa h2 eo
    exact ix_tup value slice pins s σ H _ _ v u Q I rx ry ⟨a, vs, _, w, rfl, rfl, sb.sqt (sqt_of h1), e1, k _ H F (.refl sb) e2⟩ hs
  · obtain ⟨a, vs, rfl, h1, h2⟩ := dv_lst sb dx
    cases dv_int dy
    obtain ⟨w, e1, e2⟩ := atI_dpa h2 eo
    exact ix_list value slice pins s σ H _ _ v u Q I rx ry ⟨a, vs, _, w, rfl, rfl, h1, e1, k _ H F (.refl sb) e2⟩ hs
  · split at eo
    · rename_i hz
      simp only [Option.map_eq_some_iff] at eo
      obtain ⟨c, e1, rfl⟩ := eo
      cases dv_str dx
      cases dv_int dy
      exact ix_str value slice pins s σ H _ _ v u Q I rx ry ⟨_, _, c, rfl, rfl, szOk_le hz, e1, k _ H F (.refl sb) (.str _)⟩ hs
    · cases eo
  · cases eo
theorem se_ix (ha : SE X a f) (hb : SE X b g) (hp : PlainIx b := by exact fun _ _ => rfl) : SE X (.Subscript a b pos) (opM ixD f g) :=
  ⟨pe_imp (pe_ix ix_any ha.pe hb.sw.pe hp) fun s H Q q => top_op (r2 := liftO X.K ixD) hb.sw ha q⟩
theorem se_ixOwn (i : Nat) {x : Str} {p : Pos} (hb : SE X b g) (hp : PlainIx b := by exact fun _ _ => rfl) (hN : X.N[i]? = some x := by rfl) (hv : Vis X.env.scope x := by first | exact Or.inl rfl | exact Or.inr (Or.inl rfl) | exact Or.inr (Or.inr rfl)) (hd : (x == ("__debug__" : Str)) = false := by decide)
    (hcd : (x == ("__classdict__" : Str)) = false := by decide) : SE X (.Subscript (.Name x p) b pos) (opOwnM ixD i g) :=
  ⟨pe_imp (pe_ix ix_any (pe_var hN hv hd hcd) hb.sw.pe hp) fun s H Q q => own_op i q⟩

/-! ### slices -/
abbrev OM := Rho → Option (Option Int × Rho)
def liftP (K : PySem.W.Frag) (f : OM) : TO := fun s H Q => ∃ z r F d r', Rep K z r s H F ∧ f r = some (d, r') ∧ ∀ H' F', Rep K z r' s H' F' → SubH F F' → Q d H'
structure SP' (X : Cx) (e : Option Expr) (f : OM) : Prop where
  po : PO X e (liftP X.K f)
def noM : OM := fun r => some (none, r)
def someM (f : EM) : OM := fun r => (f r).bind fun p => match p.1 with
  | .int i => some (some i, p.2)
  | _ => none
theorem po_imp {e : Option Expr} {t t' : TO} (h : PO X e t) (k : ∀ s H Q, t' s H Q → t s H Q) : PO X e t' := ⟨fun pins s σ H Q I hq => h.run pins s σ H Q I (k _ _ _ hq)⟩
theorem sp_none : SP' X none noM := ⟨po_imp po_none fun s H Q ⟨z, r, F, d, r', R, e, k⟩ => by cases e; exact k H F R (.refl _)⟩
theorem sp_some (ha : SE X e f) : SP' X (some e) (someM f) := ⟨po_imp (po_some ha.pe) fun s H Q ⟨z, r, F, d, r', R, e, k⟩ => by
  unfold someM at e
  simp only [Option.bind_eq_some_iff] at e
  obtain ⟨⟨x, r1⟩, e1, e2⟩ := e
  split at e2
  · rename_i i hx
    cases e2
    have hx : x = .int i := hx
    subst hx
    exact ⟨z, r, F, _, r1, R, e1, fun v H1 F1 R1 sb dv => by cases dv.inv; exact ⟨i, rfl, k H1 F1 R1 sb⟩⟩
  · cases e2⟩
def cutD {α : Type} (xs : List α) (lo hi : Option Int) : List α := (xs.drop (HT.sIx xs.length 0 lo)).take (HT.sIx xs.length xs.length hi - HT.sIx xs.length 0 lo)
def slD (x : D) (lo hi : Option Int) : Option D := match x with
  | .tuple ds => some (.tuple (cutD ds lo hi))
  | .list ds => some (.list (cutD ds lo hi))
  | .str z => if szOk z.length then some (.str (cutS z lo hi)) else none
  | _ => none
def liftSl (K : PySem.W.Frag) : V → Option Int → Option Int → Hp → VK → Prop := fun x lo hi H Q => ∃ F d o, SubH F H ∧ Dv K F H x d ∧ slD d lo hi = some o ∧ ∀ v H' F', Grow F H F' H' → Dp K F' v o → Q v H'
theorem cut_dpa {K : PySem.W.Frag} {F : Hp} {vs : List V} {ds : List D} {lo hi : Option Int} (h : DpAll K F vs ds) : DpAll K F (cutV vs lo hi) (cutD ds lo hi) := by
  unfold cutV cutD
  rw [dpa_len h]
  exact dpa_take _ (dpa_drop _ h)
theorem cut_all {α : Type} {xs : List α} {lo hi : Option Int} (h : HT.sIx xs.length 0 lo = 0 ∧ HT.sIx xs.length xs.length hi = xs.length) : cutD xs lo hi = xs := by
  unfold cutD
  rw [h.1, h.2]
  simp
theorem sl_any : SlR X (liftSl X.K) := by
  intro pins s σ H x v vl vu lo hi sl Q I rx hsl pl pu h
  obtain ⟨F, d, o, sb, dx, eo, k⟩ := h
  unfold slD at eo
  split at eo
  · cases eo
    obtain ⟨a, vs, rfl, h1, h2⟩ := dv_tup dx
    refine sl_tupA pins s σ H _ v vl vu lo hi sl Q I rx hsl pl pu ⟨a, vs, rfl, sb.sqt (sqt_of h1), fun e => ?_, fun e p hp => ?_⟩
    · rw [dpa_len h2] at e
      rw [cut_all e] at k
      exact k _ H F (.refl sb) (.tup h1 h2)
    · obtain ⟨G, q⟩ := new_tup sb hp (cut_dpa (lo := lo) (hi := hi) h2)
      exact k _ _ _ G q
  · cases eo
    obtain ⟨a, vs, rfl, h1, h2⟩ := dv_lst sb dx
    refine sl_list pins s σ H _ v vl vu lo hi sl Q I rx hsl pl pu ⟨a, vs, rfl, h1, fun p hp => ?_⟩
    obtain ⟨G, q⟩ := new_lst sb hp (cut_dpa (lo := lo) (hi := hi) h2)
    exact k _ _ _ G q
  · split at eo
    · rename_i hz
      cases eo
      cases dv_str dx
      exact sl_str pins s σ H _ v vl vu lo hi sl Q I rx hsl pl pu ⟨_, rfl, szOk_le hz, k _ H F (.refl sb) (.str _)⟩
    · cases eo
  · cases eo
def slM (f : EM) (l u : OM) : EM := fun r => (f r).bind fun p => (l p.2).bind fun q => (u q.2).bind fun w => (slD p.1 q.1 w.1).map fun d => (d, w.2)
theorem se_sl {lo hi : Option Expr} {l u : OM} {p2 : Pos} (ha : SE X e f) (hl : SP' X lo l) (hh : SP' X hi u) : SE X (.Subscript e (.Slice lo hi none p2) pos) (slM f l u) :=
  ⟨pe_imp (pe_slice sl_any ha.pe hl.po hh.po) fun s H Q ⟨z, r, F, d, r', R, e, k⟩ => by
    unfold slM at e
    simp only [Option.bind_eq_some_iff, Option.map_eq_some_iff] at e
    obtain ⟨⟨x, r1⟩, e1, ⟨q, r2⟩, e2, ⟨w, r3⟩, e3, o, e4, e5⟩ := e
    cases e5
    exact ⟨z, r, F, x, r1, R, e1, fun v H1 F1 R1 sb1 dv => ⟨z, r1, F1, q, r2, R1, e2, fun H2 F2 R2 sb2 => ⟨z, r2, F2, w, _, R2, e3, fun H3 F3 R3 sb3 =>
      ⟨F3, x, d, R3.fh, .inl (dp_mono (sb2.trans sb3) dv), e4, fun v2 H4 F4 G dd => k v2 H4 F4 (R3.grow G) (((sb1.trans sb2).trans sb3).trans G.ff) dd⟩⟩⟩⟩⟩

/-! ### built-ins -/
def lenD : D → Option D
  | .tuple ds => some (.int ds.length)
  | .list ds => some (.int ds.length)
  | .str x => if szOk x.length then some (.int x.length) else none
  | _ => none
theorem cr_len : CallR X (.builtin "len") (liftC1 X.K lenD) := by
  intro pins s σ H vs us Q I r h
  obtain ⟨F, x, d, o, rfl, sb, dx, eo, k⟩ := h
  unfold lenD at eo
  split at eo
  · cases eo
    obtain ⟨a, vs, rfl, h1, h2⟩ := dv_tup dx
    refine call_len_seq pins s σ H _ us Q I r ⟨a, vs, rfl, .inr (sb.sqt (sqt_of h1)), ?_⟩
    rw [dpa_len h2]; exact k _ H F (.refl sb) (.int _)
  · cases eo
    obtain ⟨a, vs, rfl, h1, h2⟩ := dv_lst sb dx
    refine call_len_seq pins s σ H _ us Q I r ⟨a, vs, rfl, .inl h1, ?_⟩
    rw [dpa_len h2]; exact k _ H F (.refl sb) (.int _)
  · split at eo
    · rename_i hz
      cases eo
      cases dv_str dx
      exact call_len_str pins s σ H _ us Q I r ⟨_, rfl, szOk_le hz, k _ H F (.refl sb) (.int _)⟩
    · cases eo
  · cases eo
def tupleD : D → Option D
  | .tuple ds => some (.tuple ds)
  | .list ds => some (.tuple ds)
  | _ => none
theorem cr_tuple : CallR X (.type "tuple") (liftC1 X.K tupleD) := by
  intro pins s σ H vs us Q I r h
  obtain ⟨F, x, d, o, rfl, sb, dx, eo, k⟩ := h
  unfold tupleD at eo
  split at eo
  · cases eo
    obtain ⟨a, vs, rfl, h1, h2⟩ := dv_tup dx
    exact call_tuple_of pins s σ H _ us Q I r ⟨a, vs, rfl, .inr ⟨sb.sqt (sqt_of h1), k _ H F (.refl sb) (.tup h1 h2)⟩⟩
  · cases eo
    obtain ⟨a, vs, rfl, h1, h2⟩ := dv_lst sb dx
    refine call_tuple_of pins s σ H _ us Q I r ⟨a, vs, rfl, .inl ⟨h1, fun p hp => ?_⟩⟩
    obtain ⟨G, q⟩ := new_tup sb hp h2
    exact k _ _ _ G q
  · cases eo
def listD : D → Option D
  | .tuple ds => some (.list ds)
  | .list ds => some (.list ds)
  | _ => none
theorem cr_list : CallR X (.type "list") (liftC1 X.K listD) := by
  intro pins s σ H vs us Q I r h
  obtain ⟨F, x, d, o, rfl, sb, dx, eo, k⟩ := h
  unfold listD at eo
  split at eo
  · cases eo
    obtain ⟨a, vs, rfl, h1, h2⟩ := dv_tup dx
    refine call_list_of pins s σ H _ us Q I r ⟨a, vs, rfl, .inr (sb.sqt (sqt_of h1)), fun p hp => ?_⟩
    obtain ⟨G, q⟩ := new_lst sb hp h2
    exact k _ _ _ G q
  · cases eo
    obtain ⟨a, vs, rfl, h1, h2⟩ := dv_lst sb dx
    refine call_list_of pins s σ H _ us Q I r ⟨a, vs, rfl, .inl h1, fun p hp => ?_⟩
    obtain ⟨G, q⟩ := new_lst sb hp h2
    exact k _ _ _ G q
  · cases eo
/-- the truths of a row -/
def blsOf : List D → Option (List Bool)
  | [] => some []
  | .bool i :: r => (blsOf r).map (i :: ·)
  | _ :: _ => none
theorem blsOf_some : ∀ {ds : List D} {ns : List Bool}, blsOf ds = some ns → ds = ns.map PyData.bool
  | [], ns, h => by cases h; rfl
  | .bool i :: r, ns, h => by
    simp only [blsOf, Option.map_eq_some_iff] at h
    obtain ⟨ms, h1, rfl⟩ := h
    rw [blsOf_some h1]; rfl
  | .none :: _, _, h => nomatch h
  | .int _ :: _, _, h => nomatch h
  | .str _ :: _, _, h => nomatch h
  | .list _ :: _, _, h => nomatch h
  | .tuple _ :: _, _, h => nomatch h
  | .dict _ :: _, _, h => nomatch h
theorem blsOf_map (ns : List Bool) : blsOf (ns.map PyData.bool) = some ns := by
  induction ns with
  | nil => rfl
  | cons n ns ih => simp [blsOf, ih]
theorem dpa_bls {K : PySem.W.Frag} {F : Hp} : ∀ {ns : List Bool} {vs : List V}, DpAll K F vs (ns.map PyData.bool) → vs = ns.map V.bl
  | [], [], _ => rfl
  | n :: ns, v :: vs, h => by
    cases h with
    | cons x t => cases x.inv; rw [dpa_bls t]; rfl
  | [], _ :: _, h => nomatch h
  | _ :: _, [], h => nomatch h
def allD : D → Option D
  | .list ds => (blsOf ds).map fun bs => .bool (bs.all id)
  | _ => none
def anyD : D → Option D
  | .list ds => (blsOf ds).map fun bs => .bool (bs.any id)
  | _ => none
theorem cr_allD (hc : X.calm = true) : CallR X (.builtin "all") (liftC1 X.K allD) := by
  intro pins s σ H vs us Q I r h
  obtain ⟨F, x, d, o, rfl, sb, dx, eo, k⟩ := h
  unfold allD at eo
  split at eo
  · simp only [Option.map_eq_some_iff] at eo
    obtain ⟨bs, e1, rfl⟩ := eo
    cases blsOf_some e1
    obtain ⟨a, vs, rfl, h1, h2⟩ := dv_lst sb dx
    cases dpa_bls h2
    exact cr_all hc pins s σ H _ us Q I r ⟨a, bs, rfl, h1, k _ H F (.refl sb) (.bl _)⟩
  · cases eo
theorem cr_anyD (hc : X.calm = true) : CallR X (.builtin "any") (liftC1 X.K anyD) := by
  intro pins s σ H vs us Q I r h
  obtain ⟨F, x, d, o, rfl, sb, dx, eo, k⟩ := h
  unfold anyD at eo
  split at eo
  · simp only [Option.map_eq_some_iff] at eo
    obtain ⟨bs, e1, rfl⟩ := eo
    cases blsOf_some e1
    obtain ⟨a, vs, rfl, h1, h2⟩ := dv_lst sb dx
    cases dpa_bls h2
    exact cr_any hc pins s σ H _ us Q I r ⟨a, bs, rfl, h1, k _ H F (.refl sb) (.bl _)⟩
  · cases eo
def min2D : D → D → Option D
  | .int i, .int j => some (.int (if j < i then j else i))
  | _, _ => none
def max2D : D → D → Option D
  | .int i, .int j => some (.int (if j > i then j else i))
  | _, _ => none
theorem cr_min2 (hc : X.calm = true) : CallR X (.builtin "min") (liftC2 X.K min2D) := by
  intro pins s σ H vs us Q I r h
  obtain ⟨x, y, rfl, F, d, e, o, sb, dx, dy, eo, k⟩ := h
  unfold min2D at eo
  split at eo
  · cases eo
    cases dv_int dx; cases dv_int dy
    exact call_min2 hc pins s σ H _ us Q I r ⟨_, _, rfl, k _ H F (.refl sb) (.int _)⟩
  · cases eo
theorem cr_max2 (hc : X.calm = true) : CallR X (.builtin "max") (liftC2 X.K max2D) := by
  intro pins s σ H vs us Q I r h
  obtain ⟨x, y, rfl, F, d, e, o, sb, dx, dy, eo, k⟩ := h
  unfold max2D at eo
  split at eo
  · cases eo
    cases dv_int dx; cases dv_int dy
    exact call_max2 hc pins s σ H _ us Q I r ⟨_, _, rfl, k _ H F (.refl sb) (.int _)⟩
  · cases eo
def intD : D → Option D
  | .int i => some (.int i)
  | .bool b => some (.int (if b = true then 1 else 0))
  | _ => none
theorem cr_int : CallR X (.type "int") (liftC1 X.K intD) := by
  intro pins s σ H vs us Q I r h
  obtain ⟨F, x, d, o, rfl, sb, dx, eo, k⟩ := h
  unfold intD at eo
  split at eo
  · cases eo
    cases dv_int dx
    exact call_int1 pins s σ H _ us Q I r (.inl ⟨_, rfl, k _ H F (.refl sb) (.int _)⟩)
  · cases eo
    cases dv_bl dx
    exact call_int1 pins s σ H _ us Q I r (.inr ⟨_, rfl, k _ H F (.refl sb) (.int _)⟩)
  · cases eo
/-! ### isinstance(x, T), T one of int, bool, str, tuple, list -/
inductive Ty where
  | int | bool | str | tuple | list
def Ty.nm : Ty → String
  | .int => "int" | .bool => "bool" | .str => "str" | .tuple => "tuple" | .list => "list"
def isiD (t : Ty) (d : D) : Option D := some (.bool (match t, d with
  | .int, .int _ => true
  | .int, .bool _ => true
  | .bool, .bool _ => true
  | .str, .str _ => true
  | .tuple, .tuple _ => true
  | .list, .list _ => true
  | _, _ => false))
theorem ty_of {K : PySem.W.Frag} {H : Hp} {v : V} {d : D} (x : L2.Dp K H v d) : ∃ n, TyX K H v (.type n) ∧ n = (match d with | .none => "NoneType" | .bool _ => "bool" | .int _ => "int" | .str _ => "str" | .list _ => "list" | .tuple _ => "tuple" | .dict _ => "dict") := by
  cases x with
  | non => exact ⟨_, .base .non, rfl⟩
  | bl b => exact ⟨_, .base (.bl b), rfl⟩
  | int b => exact ⟨_, .base (.int b), rfl⟩
  | str b => exact ⟨_, .base (.str b), rfl⟩
  | lst h _ =>
    rcases h with (h | ⟨o, h⟩) | ⟨o, its, n, hk, hc, _⟩
    · exact ⟨_, .base (.lst h), rfl⟩
    · exact ⟨_, .base (.frz h), rfl⟩
    · exact ⟨_, .kList hk hc, rfl⟩
  | tup h _ =>
    rcases h with (h | ⟨o, h⟩) | ⟨o, its, n, hk, hc, _⟩
    · exact ⟨_, .base (.tup h), rfl⟩
    · exact ⟨_, .fTuple h, rfl⟩
    · exact ⟨_, .kTuple hk hc, rfl⟩
/-- the name of a datum's type -/
def tyN (d : D) : String := match d with
  | .int _ => Ty.nm .int
  | .bool _ => Ty.nm .bool
  | .tuple _ => Ty.nm .tuple
  | .str _ => Ty.nm .str
  | .none => "NoneType"
  | .list _ => "list"
  | .dict _ => "dict"
theorem kit_any {K : PySem.W.Frag} (t : Ty) (d : D) (hd : ∀ kvs, d ≠ .dict kvs) : ∃ b, isiD t d = some (.bool b) ∧ PySem.W.kitOne K (.type (tyN d)) (.type t.nm) = some b := by
  cases t <;> cases d <;> first
    | exact absurd rfl (hd _)
    | exact ⟨true, rfl, kit_ty (by simp only [tyN, Ty.nm]; decide +kernel)⟩
    | exact ⟨false, rfl, kit_ty (by simp only [tyN, Ty.nm]; decide +kernel)⟩
theorem cr_isi (t : Ty) : CallR X (.builtin "isinstance") (fun vs H Q => ∃ F x d o, vs = [x, .ty t.nm] ∧ SubH F H ∧ Dv X.K F H x d ∧ isiD t d = some o ∧ ∀ v H' F', Grow F H F' H' → Dp X.K F' v o → Q v H') := by
  intro pins s σ H vs us Q I r h
  obtain ⟨F, x, d, o, rfl, sb, dx, eo, k⟩ := h
  have dx' := dp_old (dx.dp sb)
  obtain ⟨n, hn, en⟩ := ty_of dx'
  obtain ⟨b, e1, e2⟩ := kit_any (K := X.K) t d (by intro kvs q; subst q; cases dx')
  rw [e1] at eo
  cases eo
  have : n = tyN d := by rw [en]; cases d <;> rfl
  subst this
  exact call_isi pins s σ H _ us Q I r ⟨x, _, _, _, b, rfl, .ty _, hn, e2, k _ H F (.refl sb) (.bl _)⟩
theorem se_isi (t : Ty) {x : Str} {p1 p2 : Pos} (hg : Gl X "isinstance") (hm : X.mg "isinstance" = none) (hg2 : Gl X x) (hm2 : X.mg x = none) (hv2 : bootBuiltins x = some (.type t.nm)) (ha : SW X a f)
    (he : starEach [a, .Name x p2] X.env = [(false, eval a X.env), (false, eval (.Name x p2) X.env)] := by rfl) (he2 : starEach [.Name x p2] X.env = [(false, eval (.Name x p2) X.env)] := by rfl) (hv : bootBuiltins "isinstance" = some (.builtin "isinstance") := by decide +kernel) (hn : x ≠ "__name__" := by decide) (hdb : (x == ("__debug__" : Str)) = false := by decide) :
    SE X (.Call (.Name "isinstance" p1) [a, .Name x p2] [] pos) (unM (isiD t) f) :=
  ⟨pe_imp (pe_callB (cr_isi t) hg hm hv (pa_cons ha.pe (pa_cons (pe_bltn (v := .ty t.nm) hg2 hm2 hv2 rfl hn hdb) pa_nil he2) (by rw [he, he2])) (by decide) (by decide) (by rw [he, he2]) (by rw [he2]; rfl)) fun s H Q ⟨z, r, F, d, r', R, e, k⟩ => by
    obtain ⟨x, e1, e2⟩ := unM_some e
    exact ⟨z, r, F, x, r', R, e1, fun v H' F' R' sb dv => ⟨F', v, x, d, rfl, R'.fh, dv, e2, fun v2 H2 F2 G dd => k v2 H2 F2 (R'.grow G) (sb.trans G.ff) dd⟩⟩⟩
/-! ### a < b < c -/
def chM (h1 h2 : D → D → Option Bool) (f g k : EM) : EM := fun r => (f r).bind fun p => (g p.2).bind fun q => (h1 p.1 q.1).bind fun b => if b = true then (k q.2).bind fun w => (h2 q.1 w.1).map fun c => (.bool c, w.2) else some (.bool false, q.2)
theorem ch_lift {h1 h2 : D → D → Option Bool} {k : EM} {s : L2.St} {H : Hp} {Q : VK} (q : liftE X.K (chM h1 h2 f g k) s H Q) : tChain (liftO X.K (bD h1)) (liftO X.K (bD h2)) (liftE X.K f) (liftE X.K g) (liftW X.K k) s H Q := by
  obtain ⟨z, r, F, d, r', R, e, kk⟩ := q
  unfold chM at e
  simp only [Option.bind_eq_some_iff] at e
  obtain ⟨⟨x, r1⟩, e1, ⟨y, r2⟩, e2, b, e3, e4⟩ := e
  refine ⟨z, r, F, x, r1, R, e1, fun v H1 F1 R1 sb1 dx => ⟨z, r1, F1, y, r2, R1, e2, fun w H2 F2 R2 sb2 dy => ⟨F2, x, y, .bool b, R2.fh, .inl (dp_mono sb2 dx), .inl dy, ?_, fun v' H3 F3 G dd => ⟨b, ?_, ?_⟩⟩⟩⟩
  · unfold bD; rw [e3]; rfl
  · cases dd.inv; rfl
  · have R3 := R2.grow G
    cases b with
    | false => cases e4; exact kk _ H3 F3 R3 ((sb1.trans sb2).trans G.ff) (.bl _)
    | true =>
      simp only [if_true, Option.bind_eq_some_iff, Option.map_eq_some_iff] at e4
      obtain ⟨⟨w, r3⟩, e5, c, e6, e7⟩ := e4
      cases e7
      exact ⟨z, r2, F3, w, _, R3, e5, fun v4 H4 F4 R4 sb4 dw => ⟨F4, y, w, .bool c, R4.fh, .inl (dp_mono (G.ff.trans sb4) dy), dw, by unfold bD; rw [e6]; rfl, fun v5 H5 F5 G5 d5 => kk v5 H5 F5 (R4.grow G5) ((((sb1.trans sb2).trans G.ff).trans sb4).trans G5.ff) d5⟩⟩
theorem se_chain {op op' : CmpOp} {h1 h2 : D → D → Option Bool} {k : EM} (ho : OpR X (compareOp op) (liftO X.K (bD h1))) (ho' : OpR X (compareOp op') (liftO X.K (bD h2))) (ha : SE X a f) (hb : SE X b g) (hc : SW X c k)
    (hl : lastMarks [op, op'] [b, c] = false := by rfl) : SE X (.Compare a [op, op'] [b, c] pos) (chM h1 h2 f g k) := ⟨pe_imp (pe_chain ho ho' ha.pe hb.pe hc.pe hl) fun s H Q q => ch_lift q⟩
def blM (f : EM) : TM := fun r => (f r).bind fun p => (blD p.1).map fun b => (b, p.2)
theorem st_chain {op op' : CmpOp} {h1 h2 : D → D → Option Bool} {k : EM} (ho : OpR X (compareOp op) (liftO X.K (bD h1))) (ho' : OpR X (compareOp op') (liftO X.K (bD h2))) (ha : SE X a f) (hb : SE X b g) (hc : SW X c k)
    (hl : lastMarks [op, op'] [b, c] = false := by rfl) : ST X (.Compare a [op, op'] [b, c] pos) (truM (chM h1 h2 f g k)) := ⟨pt_imp (pt_chain ho ho' ha.pe hb.pe hc.pe hl) fun s H Q ⟨z, r, F, d, r', R, e, kk⟩ => by
  obtain ⟨x, e1, e2⟩ := truM_some e
  have hx : ∃ b, x = .bool b := by
    unfold chM at e1
    simp only [Option.bind_eq_some_iff] at e1
    obtain ⟨_, _, _, _, b, _, e4⟩ := e1
    split at e4
    · simp only [Option.bind_eq_some_iff, Option.map_eq_some_iff] at e4
      obtain ⟨_, _, c, _, e7⟩ := e4
      cases e7; exact ⟨_, rfl⟩
    · cases e4; exact ⟨_, rfl⟩
  obtain ⟨b, rfl⟩ := hx
  cases e2
  exact ch_lift ⟨z, r, F, _, r', R, e1, fun v H' F' R' sb dv => ⟨d, by cases dv.inv; rfl, kk H' F' R' sb⟩⟩⟩
end
end DL

namespace DL
open PySem L2 PyProof.Rows PySem.Spec
/-! ### what is walked -/
structure WalkD (K : PySem.W.Frag) (F0 : Hp) (J : It) (ds : List D) : Prop where
  w : ∃ Y, Walk J ds.length (fun H => SubH F0 H) Y ∧ ∀ i H x H', Y i H x H' → ∀ F, SubH F0 F → SubH F H → ∃ F' d, ds[i]? = some d ∧ Grow F H F' H' ∧ Dp K F' x d
def liftI (K : PySem.W.Frag) (f : AM) : TI := fun s H R => ∃ z r F ds r', Rep K z r s H F ∧ f r = some (ds, r') ∧ ∀ J H' F', Rep K z r' s H' F' → SubH F F' → WalkD K F' J ds → R J H'
structure SI (X : Cx) (tg iter : Expr) (f : AM) : Prop where
  pi : PI X tg iter (liftI X.K f)
section
variable {X : Cx} {a b c e tg : Expr} {es : List Expr} {f g h : EM} {pos : Pos}
/-- the items of a list or a tuple -/
def seqM (f : EM) : AM := fun r => (f r).bind fun p => (itemsOf p.1).map fun ds => (ds, p.2)
theorem seqM_some {r r' : Rho} {ds : List D} (q : seqM f r = some (ds, r')) : ∃ x, f r = some (x, r') ∧ itemsOf x = some ds := by
  unfold seqM at q
  simp only [Option.bind_eq_some_iff, Option.map_eq_some_iff] at q
  obtain ⟨⟨x, r1⟩, e1, o', e2, e3⟩ := q
  cases e3; exact ⟨x, e1, e2⟩
theorem walkD_list {K : PySem.W.Frag} {F : Hp} {a : Addr} {vs : List V} {ds : List D} (h1 : SqL K F a vs) (h2 : DpAll K F vs ds) : WalkD K F (Itl K a) ds := by
  refine ⟨⟨YAt vs, ?_, ?_⟩⟩
  · rw [← dpa_len h2]
    exact walk_list.mono (fun H hs => hs.sql h1) fun _ _ _ _ _ _ y => y
  · rintro i H x H' ⟨rfl, hx⟩ F' sb sh
    obtain ⟨d, e1, e2⟩ := dpa_at h2 hx
    exact ⟨F', d, e1, .refl sh, dp_mono sb e2⟩
theorem walkD_tup {K : PySem.W.Frag} {F : Hp} {a : Addr} {vs : List V} {ds : List D} (h1 : F a = some (.tup vs)) (h2 : DpAll K F vs ds) : WalkD K F (Itt K a) ds := by
  refine ⟨⟨YAt vs, ?_, ?_⟩⟩
  · rw [← dpa_len h2]
    exact walk_tup.mono (fun H hs => hs.sqt (sqt_of h1)) fun _ _ _ _ _ _ y => y
  · rintro i H x H' ⟨rfl, hx⟩ F' sb sh
    obtain ⟨d, e1, e2⟩ := dpa_at h2 hx
    exact ⟨F', d, e1, .refl sh, dp_mono sb e2⟩
theorem si_seq (ha : SE X e f) : SI X tg e (seqM f) := ⟨⟨fun pins s σ H R I h => by
  obtain ⟨z, r, F, ds, r', Rr, e, k⟩ := h
  obtain ⟨x, e1, e2⟩ := seqM_some e
  unfold itemsOf at e2
  split at e2
  · cases e2
    refine (pi_tup ha.pe).run pins s σ H R I ⟨z, r, F, _, r', Rr, e1, fun v H' F' R' sb dv => ?_⟩
    obtain ⟨_, _, rfl, h1, h2⟩ := dv.inv; exact ⟨_, rfl, ⟨_, R'.fh.sqt (sqt_of h1)⟩, k _ H' F' R' sb (walkD_tup h1 h2)⟩
  · cases e2
    refine (pi_list ha.pe).run pins s σ H R I ⟨z, r, F, _, r', Rr, e1, fun v H' F' R' sb dv => ?_⟩
    obtain ⟨_, _, rfl, h1, h2⟩ := dv.inv; exact ⟨_, rfl, ⟨_, R'.fh.sql h1⟩, k _ H' F' R' sb (walkD_list h1 h2)⟩
  · cases e2⟩⟩
/-- range -/
def rngL (lo hi : Int) : List D := (List.range (hi - lo).toNat).map fun i => .int (lo + (i : Nat))
def rngOk (i : Int) : Bool := decide (-1000000 ≤ i) && decide (i ≤ 1000000)
theorem rngOk_le {i : Int} (h : rngOk i = true) : -(2 ^ 62) ≤ i ∧ i < 2 ^ 62 := by
  obtain ⟨h1, h2⟩ := Bool.and_eq_true_iff.mp h
  have h1 := of_decide_eq_true h1
  have h2 := of_decide_eq_true h2
  omega
def rng1M (f : EM) : AM := fun r => (f r).bind fun p => match p.1 with
  | .int j => if rngOk j then some (rngL 0 j, p.2) else none
  | _ => none
def rng2M (f g : EM) : AM := fun r => (f r).bind fun p => (g p.2).bind fun q => match p.1, q.1 with
  | .int i, .int j => if rngOk i && rngOk j then some (rngL i j, q.2) else none
  | _, _ => none
theorem walkD_range {K : PySem.W.Frag} {F : Hp} {lo hi : Int} : WalkD K F (Itr lo (hi - lo).toNat) (rngL lo hi) := by
  have hl : (rngL lo hi).length = (hi - lo).toNat := by unfold rngL; simp
  refine ⟨⟨fun i H x H' => i < (hi - lo).toNat ∧ YFn (fun i => V.int (lo + (i : Nat))) i H x H', ?_, ?_⟩⟩
  · rw [hl]
    exact walk_range.mono (fun H hs => trivial) fun _ _ _ _ hi _ y => ⟨hi, y⟩
  · rintro i H x H' ⟨hlt, rfl, hx⟩ F' sb sh
    subst hx
    exact ⟨F', .int (lo + (i : Nat)), by unfold rngL; simp [hlt], .refl sh, .int _⟩
theorem si_range1 {p : Pos} (hg : Gl X "range") (hm : X.mg "range" = none) (ha : SE X a f) (hs : starEach [a] X.env = [(false, eval a X.env)] := by rfl) : SI X tg (.Call (.Name "range" p) [a] [] pos) (rng1M f) := ⟨⟨fun pins s σ H R I h => by
  obtain ⟨z, r, F, ds, r', Rr, e, k⟩ := h
  unfold rng1M at e
  simp only [Option.bind_eq_some_iff] at e
  obtain ⟨⟨x, r1⟩, e1, e2⟩ := e
  split at e2
  · rename_i j hx
    have hx : x = .int j := hx
    subst hx
    split at e2
    · rename_i ok
      cases e2
      have := rngOk_le ok
      refine (pi_range1 hg hm (pa_cons ha.pe pa_nil hs) hs).run pins s σ H R I ⟨z, r, F, _, r1, Rr, e1, fun v H' F' R' sb dv => ?_⟩
      cases dv.inv
      refine ⟨j, rfl, this.1, this.2, k _ H' F' R' sb ?_⟩
      have w := walkD_range (K := X.K) (F := F') (lo := 0) (hi := j)
      rw [Int.sub_zero] at w
      exact w
    · cases e2
  · cases e2⟩⟩
theorem si_range2 {p : Pos} (hg : Gl X "range") (hm : X.mg "range" = none) (ha : SE X a f) (hb : SE X b g) (hs : starEach [a, b] X.env = [(false, eval a X.env), (false, eval b X.env)] := by rfl) (hs2 : starEach [b] X.env = [(false, eval b X.env)] := by rfl) : SI X tg (.Call (.Name "range" p) [a, b] [] pos) (rng2M f g) := ⟨⟨fun pins s σ H R I h => by
  obtain ⟨z, r, F, ds, r', Rr, e, k⟩ := h
  unfold rng2M at e
  simp only [Option.bind_eq_some_iff] at e
  obtain ⟨⟨x, r1⟩, e1, ⟨y, r2⟩, e2, e3⟩ := e
  split at e3
  · rename_i i j hx hy
    have hx : x = .int i := hx
    have hy : y = .int j := hy
    subst hx hy
    split at e3
    · rename_i ok
      cases e3
      obtain ⟨o1, o2⟩ := Bool.and_eq_true_iff.mp ok
      have q1 := rngOk_le o1
      have q2 := rngOk_le o2
      refine (pi_range2 hg hm (pa_cons ha.pe (pa_cons hb.pe pa_nil hs2) (by rw [hs, hs2])) hs hs2).run pins s σ H R I ⟨z, r, F, _, r1, Rr, e1, fun v H' F' R' sb dv => ⟨z, r1, F', _, r2, R', e2, fun v2 H2 F2 R2 sb2 dv2 => ?_⟩⟩
      cases dv.inv; cases dv2.inv
      exact ⟨i, j, rfl, ⟨q1.1, q1.2, q2.1, q2.2⟩, k _ H2 F2 R2 (sb.trans sb2) walkD_range⟩
    · cases e3
  · cases e3⟩⟩
/-- pairs -/
def pairD (x y : D) : D := .tuple [x, y]
def zipL (xs ys : List D) : List D := List.zipWith pairD xs ys
theorem pair_step {K : PySem.W.Frag} {F H : Hp} {T : Addr} {x y : V} {dx dy : D} (sb : SubH F H) (hT : H T = none) (h1 : Dp K F x dx) (h2 : Dp K F y dy) : ∃ F', Grow F H F' (upd H T (.tup [x, y])) ∧ Dp K F' (.ref T) (pairD dx dy) :=
  ⟨_, new_tup sb hT (.cons h1 (.cons h2 .nil))⟩
theorem zipL_get {xs ys : List D} {i : Nat} {x y : D} (h1 : xs[i]? = some x) (h2 : ys[i]? = some y) : (zipL xs ys)[i]? = some (pairD x y) := by
  unfold zipL
  rw [List.getElem?_zipWith, h1, h2]
theorem walk_zipT {K : PySem.W.Frag} {a b : Addr} {xs ys : List V} {n : Nat} (hn : n = min xs.length ys.length) : Walk (RZ.ItzT K a b) n (fun H => SqT K H a xs ∧ SqT K H b ys) (YPair (fun i => xs[i]?) (fun i => ys[i]?)) where
  goes := by
    rintro m H lt ⟨sa, sb⟩
    have lx : m < xs.length := Nat.lt_of_lt_of_le (hn ▸ lt) (Nat.min_le_left ..)
    have ly : m < ys.length := Nat.lt_of_lt_of_le (hn ▸ lt) (Nat.min_le_right ..)
    exact ⟨xs, ys, _, _, sa, sb, List.getElem?_eq_getElem lx, List.getElem?_eq_getElem ly⟩
  stops := by
    rintro H ⟨sa, sb⟩
    exact ⟨xs, ys, sa, sb, by rcases Nat.le_total xs.length ys.length with l | l <;> simp [hn, l]⟩
  yields := by
    rintro m H v H' - ⟨sa, sb⟩ ⟨T, p, q, ev, eT, eH, fx, fy⟩
    exact ⟨T, p, q, ev, eT, eH, fx _ sa, fy _ sb⟩
theorem walkD_pair {K : PySem.W.Frag} {F : Hp} {J : It} {vs ws : List V} {ds es : List D} {n : Nat} (h1 : DpAll K F vs ds) (h2 : DpAll K F ws es) (hn : n = min vs.length ws.length) (w : Walk J n (fun H => SubH F H) (YPair (fun i => vs[i]?) (fun i => ws[i]?))) : WalkD K F J (zipL ds es) := by
  have hl : (zipL ds es).length = n := by unfold zipL; rw [List.length_zipWith, ← dpa_len h1, ← dpa_len h2, hn]
  refine ⟨⟨_, by rw [hl]; exact w, ?_⟩⟩
  rintro i H x H' ⟨T, x, y, rfl, hT, rfl, hx, hy⟩ F' sb sh
  obtain ⟨d, e1, e2⟩ := dpa_at h1 hx
  obtain ⟨d', e1', e2'⟩ := dpa_at h2 hy
  obtain ⟨F2, G, q⟩ := pair_step sh hT (dp_mono sb e2) (dp_mono sb e2')
  exact ⟨F2, _, zipL_get e1 e1', G, q⟩
def zipM (f g : EM) : AM := fun r => (f r).bind fun p => (g p.2).bind fun q => match p.1, q.1 with
  | .tuple xs, .tuple ys => some (zipL xs ys, q.2)
  | .list xs, .list ys => some (zipL xs ys, q.2)
  | _, _ => none
theorem si_zip {p tpos : Pos} {elts : List Expr} {kk : Nat} (hg : Gl X "zip") (hm : X.mg "zip" = none) (ha : SE X a f) (hb : SE X b g) (hs : starEach [a, b] X.env = (false, eval a X.env) :: starEach [b] X.env := by rfl) (hs2 : starEach [b] X.env = [(false, eval b X.env)] := by rfl) :
    SI X (.Tuple elts kk tpos) (.Call (.Name "zip" p) [a, b] [] pos) (zipM f g) := ⟨⟨fun pins s σ H R I h => by
  obtain ⟨z, r, F, ds, r', Rr, e, k⟩ := h
  unfold zipM at e
  simp only [Option.bind_eq_some_iff] at e
  obtain ⟨⟨x, r1⟩, e1, ⟨y, r2⟩, e2, e3⟩ := e
  split at e3
  · rename_i xs ys hx hy
    have hx : x = .tuple xs := hx
    have hy : y = .tuple ys := hy
    subst hx hy
    cases e3
    refine (RZ.pi_zipA hg hm (pa_cons ha.pe (pa_cons hb.pe pa_nil hs2) hs) hs (by rw [hs2]; rfl)).run pins s σ H R I ⟨z, r, F, _, r1, Rr, e1, fun v H' F' R' sb dv => ⟨z, r1, F', _, r2, R', e2, fun v2 H2 F2 R2 sb2 dv2 => ?_⟩⟩
    have dv := dp_mono sb2 dv
    obtain ⟨_, _, rfl, h1, h2⟩ := dv.inv
    obtain ⟨_, _, rfl, h3, h4⟩ := dv2.inv
    exact ⟨_, _, _, _, rfl, .inr ⟨R2.fh.sqt (sqt_of h1), R2.fh.sqt (sqt_of h3), k _ H2 F2 R2 (sb.trans sb2) (walkD_pair h2 h4 rfl ((walk_zipT rfl).mono (fun H hs => ⟨hs.sqt (sqt_of h1), hs.sqt (sqt_of h3)⟩) fun _ _ _ _ _ _ y => y))⟩⟩
  · rename_i xs ys hx hy
    have hx : x = .list xs := hx
    have hy : y = .list ys := hy
    subst hx hy
    cases e3
    refine (RZ.pi_zipA hg hm (pa_cons ha.pe (pa_cons hb.pe pa_nil hs2) hs) hs (by rw [hs2]; rfl)).run pins s σ H R I ⟨z, r, F, _, r1, Rr, e1, fun v H' F' R' sb dv => ⟨z, r1, F', _, r2, R', e2, fun v2 H2 F2 R2 sb2 dv2 => ?_⟩⟩
    have dv := dp_mono sb2 dv
    obtain ⟨_, _, rfl, h1, h2⟩ := dv.inv
    obtain ⟨_, _, rfl, h3, h4⟩ := dv2.inv
    exact ⟨_, _, _, _, rfl, .inl ⟨R2.fh.sql h1, R2.fh.sql h3, k _ H2 F2 R2 (sb.trans sb2) (walkD_pair h2 h4 rfl ((walk_zip rfl).mono (fun H hs => ⟨hs.sql h1, hs.sql h3⟩) fun _ _ _ _ _ _ y => y))⟩⟩
  · cases e3⟩⟩

/-! ### targets -/
abbrev GM := Rho → D → Option Rho
def liftG (K : PySem.W.Frag) (t : GM) : TG := fun v s H Q => ∃ z r F d r', Rep K z r s H F ∧ Dp K F v d ∧ t r d = some r' ∧ ∀ s' , Rep K z r' s' H F → Q s' H
def liftGw (K : PySem.W.Frag) (t : GM) (is : List Nat) : TG := fun v s H Q => ∃ z r F d r', Rep K z r s H F ∧ Dp K F v d ∧ t r d = some r' ∧ ∀ s', wipe s' is = wipe s is → Rep K z r' s' H F → Q s' H
structure SG (X : Cx) (tg : Expr) (t : GM) (is : List Nat) : Prop where
  pg : PG X tg (liftGw X.K t is)
def nameG (i : Nat) : GM := fun r d => some (r.set i (some (.d d)))
theorem pg_imp {tg : Expr} {t t' : TG} (h : PG X tg t) (k : ∀ v s H Q, t' v s H Q → t v s H Q) : PG X tg t' := ⟨fun pins s σ H v u Q I r hq => h.run pins s σ H v u Q I r (k _ _ _ _ hq)⟩
theorem wipe_set {s : L2.St} {i : Nat} {v : Option V} : ∀ {is : List Nat}, i ∈ is → wipe (s.set i v) is = wipe s is := by
  have getw : ∀ (is : List Nat) (s : L2.St) (j : Nat), (wipe s is)[j]? = if j < s.length then (if j ∈ is then some none else s[j]?) else none := by
    intro is
    induction is with
    | nil => intro s j; unfold wipe; by_cases h : j < s.length <;> simp [h]
    | cons v vs ih =>
      intro s j
      unfold wipe
      rw [List.getElem?_set]
      have hl : (wipe s vs).length = s.length := wipe_length s vs
      by_cases h : v = j
      · subst h
        by_cases h2 : v < s.length
        · simp [h2, hl]
        · simp [h2, hl]
      · rw [if_neg h, ih]
        have : (j ∈ v :: vs) ↔ j ∈ vs := by simp [Ne.symm h]
        simp [this]
  intro is hi
  apply List.ext_getElem?
  intro j
  rw [getw, getw]
  simp only [List.length_set]
  by_cases h : j < s.length
  · simp only [h, if_true]
    by_cases h2 : j ∈ is
    · simp [h2]
    · have : i ≠ j := fun e => h2 (e ▸ hi)
      simp [h2, List.getElem?_set, this]
  · simp [h]
theorem sg_name (i : Nat) {x : Str} {is : List Nat} (hN : X.N.Nodup) (hi : X.N[i]? = some x) (hx : Loc X.env.scope x) (his : i ∈ is) (hf : X.fn x = true ∨ X.env.scope.names.lookup x = some .local := by first | exact .inl rfl | exact .inr rfl | assumption) : SG X (.Name x pos) (nameG i) is :=
  ⟨pg_imp (pg_name hN hi hx hf) fun v s H Q ⟨z, r, F, d, r', R, dv, e, k⟩ => by
    cases e
    exact k _ (wipe_set his) (R.put dv)⟩
abbrev GMs := Rho → List D → Option Rho
structure SGs (X : Cx) (tgs : List Expr) (t : GMs) (is : List Nat) : Prop where
  pg : PGs X tgs (fun vs s H Q => ∃ z r F ds r', Rep X.K z r s H F ∧ DpAll X.K F vs ds ∧ t r ds = some r' ∧ ∀ s', wipe s' is = wipe s is → Rep X.K z r' s' H F → Q s' H)
theorem pgs_imp {tg : List Expr} {t t' : TGs} (h : PGs X tg t) (k : ∀ v s H Q, t' v s H Q → t v s H Q) : PGs X tg t' := ⟨fun pins s σ H v u Q I r hq => h.run pins s σ H v u Q I r (k _ _ _ _ hq)⟩
def nilG : GMs := fun r ds => match ds with
  | [] => some r
  | _ => none
def consG (t : GM) (u : GMs) : GMs := fun r ds => match ds with
  | d :: ds => (t r d).bind fun r1 => u r1 ds
  | _ => none
theorem sgs_nil {is : List Nat} : SGs X [] nilG is := ⟨pgs_imp pgs_nil fun v s H Q ⟨z, r, F, d, r', R, dv, e, k⟩ => by
  unfold nilG at e
  split at e
  · cases e; cases dv; exact ⟨rfl, k _ rfl R⟩
  · cases e⟩
theorem sgs_cons {t : GM} {u : GMs} {is : List Nat} (h1 : SG X e t is) (h2 : SGs X es u is)
    (hs : (assignEach (e :: es) X.env).map (·.2) = assign e X.env :: (assignEach es X.env).map (·.2) := by rfl) : SGs X (e :: es) (consG t u) is := ⟨pgs_imp (pgs_cons h1.pg h2.pg hs) fun v s H Q ⟨z, r, F, d, r', R, dv, e, k⟩ => by
  unfold consG at e
  split at e
  · simp only [Option.bind_eq_some_iff] at e
    obtain ⟨r1, e1, e2⟩ := e
    cases dv with
    | cons d1 d2 => exact ⟨_, _, rfl, z, r, F, _, r1, R, d1, e1, fun s' hw R' => ⟨z, r1, F, _, r', R', d2, e2, fun s2 hw2 R2 => k s2 (hw2.trans hw) R2⟩⟩
  · cases e⟩
def tupG (n : Nat) (t : GMs) : GM := fun r d => match d with
  | .tuple ds => if ds.length = n then t r ds else none
  | _ => none
theorem sg_tup {k : Nat} {t : GMs} {n : Nat} {is : List Nat} (hc : X.calm = true) (h : SGs X es t is) (hn : (assignEach es X.env).length = n := by rfl) (hst : (assignEach es X.env).findIdx? (·.1) = none := by rfl) : SG X (.Tuple es k pos) (tupG n t) is :=
  ⟨pg_imp (pg_tup hc h.pg hn hst) fun v s H Q ⟨z, r, F, d, r', R, dv, e, k⟩ => by
    unfold tupG at e
    split at e
    · split at e
      · rename_i hl
        obtain ⟨_, _, rfl, h1, h2⟩ := dv.inv
        exact ⟨_, _, rfl, R.fh.sqt (sqt_of h1), by rw [dpa_len h2]; exact hl, z, r, F, _, r', R, h2, e, k⟩
      · cases e
    · cases e⟩
end
end DL

namespace DL
open PySem L2 PyProof.Rows PySem.Spec
/-! ### list comprehensions -/
def wipeR (r : Rho) : List Nat → Rho
  | [] => r
  | v :: vs => (wipeR r vs).set v none
def restR (r2 r1 : Rho) : List Nat → Rho
  | [] => r2
  | v :: vs => (restR r2 r1 vs).set v (r1[v]?.getD none)
def compL (g : GM) (t : TM) (el : EM) (is : List Nat) : List D → Rho → Option (List D × Rho)
  | [], r => some ([], r)
  | x :: xs, r => (g r x).bind fun r1 => (t r1).bind fun p => if p.1 = true then (el p.2).bind fun q => (compL g t el is xs (wipeR q.2 is)).map fun w => (q.1 :: w.1, w.2) else compL g t el is xs (wipeR p.2 is)
def plainAt (r : Rho) (is : List Nat) : Bool := is.all fun i => match r[i]? with
  | some (some sv) => !sv.own
  | _ => true
def compM (is : List Nat) (it : AM) (g : GM) (t : TM) (el : EM) : AM := fun r => (it r).bind fun p => if plainAt p.2 is && szOk p.1.length then (compL g t el is p.1 (wipeR p.2 is)).map fun w => (w.1, restR w.2 p.2 is) else none
theorem wipeR_length (r : Rho) : ∀ is, (wipeR r is).length = r.length
  | [] => rfl
  | v :: vs => by unfold wipeR; rw [List.length_set, wipeR_length r vs]
theorem wipeR_get {r : Rho} {j : Nat} {sv : SV} : ∀ {is : List Nat}, (wipeR r is)[j]? = some (some sv) → r[j]? = some (some sv) ∧ j ∉ is
  | [], h => ⟨h, by simp⟩
  | v :: vs, h => by
    unfold wipeR at h
    rcases get_set_cases h with ⟨_, e⟩ | ⟨ne, e⟩
    · cases e
    · obtain ⟨h1, h2⟩ := wipeR_get e
      exact ⟨h1, by simp [ne, h2]⟩
theorem wipe_get {s : L2.St} {j : Nat} {v : V} : ∀ {is : List Nat}, s[j]? = some (some v) → j ∉ is → (wipe s is)[j]? = some (some v)
  | [], h, _ => h
  | i :: is, h, hn => by
    unfold wipe
    simp only [List.mem_cons, not_or] at hn
    rw [List.getElem?_set_ne (Ne.symm hn.1)]
    exact wipe_get h hn.2
theorem wipe_wipe {s : L2.St} : ∀ {is js : List Nat}, (∀ i ∈ js, i ∈ is) → wipe (wipe s js) is = wipe s is
  | is, [], _ => rfl
  | is, j :: js, h => by
    show wipe ((wipe s js).set j none) is = _
    rw [wipe_set (h j (by simp)), wipe_wipe fun i hi => h i (by simp [hi])]
section
variable {K : PySem.W.Frag} {z : Fx} {r : Rho} {s : L2.St} {H F : Hp}
theorem Rep.weaken {r' : Rho} {s' : L2.St} (R : Rep K z r s H F) (hl : r'.length = s'.length) (h : ∀ (j : Nat) (sv : SV), r'[j]? = some (some sv) → r[j]? = some (some sv) ∧ ∀ v, s[j]? = some (some v) → s'[j]? = some (some v)) : Rep K z r' s' H F := by
  have key : ∀ {j : Nat} {sv : SV} {v : V}, r'[j]? = some (some sv) → s'[j]? = some (some v) → s[j]? = some (some v) := fun {j sv v} e q => by
    obtain ⟨h1, h2⟩ := h j sv e
    obtain ⟨w, hw, _⟩ := R.slots j sv h1
    have := h2 w hw
    rw [q] at this; cases this; exact hw
  refine ⟨R.fh, R.old, R.f0, R.nw, fun i sv e => ?_, fun i j x y a e1 e2 o1 o2 s1 s2 => ?_, hl⟩
  · obtain ⟨h1, h2⟩ := h i sv e
    obtain ⟨v, hv, q⟩ := R.slots i sv h1
    exact ⟨v, h2 v hv, q⟩
  · exact R.apart i j x y a (h i x e1).1 (h j y e2).1 o1 o2 (key e1 s1) (key e2 s2)
theorem Rep.wipe (R : Rep K z r s H F) (is : List Nat) : Rep K z (wipeR r is) (L2.wipe s is) H F :=
  R.weaken (by rw [wipeR_length, wipe_length, R.len]) fun j sv e => by
    obtain ⟨h1, h2⟩ := wipeR_get e
    exact ⟨h1, fun v hv => wipe_get hv h2⟩
/-- a loose list grows -/
theorem Rep.loosePut (R : Rep K z r s H F) {p : Addr} {o : HO} (hf : F p = none) (h0 : z.H0 p = none) (ho : ¬ OwnAt r s p) : Rep K z r s (upd H p o) F where
  fh := fun b u q => by
    have : b ≠ p := fun e => by rw [e, hf] at q; cases q
    rw [upd_ne this]; exact R.fh b u q
  old := fun b u q => by
    have : b ≠ p := fun e => by rw [e, h0] at q; cases q
    rw [upd_ne this]; exact R.old b u q
  f0 := R.f0
  nw := R.nw
  slots := fun i sv q => by
    obtain ⟨v, h1, h2⟩ := R.slots i sv q
    refine ⟨v, h1, h2.mono (.refl _) (fun a e hown u hu => ?_) fun a _ _ hf' _ _ _ => hf'⟩
    have : a ≠ p := fun z => ho ⟨i, sv, q, hown, by rw [h1, e, z]⟩
    rw [upd_ne this]; exact hu
  apart := R.apart
  len := R.len
/-- what a step over the bare base leaves of a loose object -/
theorem Rep.loose_kept {r' : Rho} {s' : L2.St} {H' F' : Hp} (R : Rep K z r s H F) (R' : Rep K ⟨bare r s H, F, z.rf⟩ r' s' H' F') {p : Addr} {o : HO} (hp : H p = some o) (hf : F p = none) (ho : ¬ OwnAt r s p) (hnt : ¬ IsTu o) : H' p = some o ∧ F' p = none ∧ ¬ OwnAt r' s' p := by
  have hb : bare r s H p = some o := by rw [bare_not ho]; exact hp
  refine ⟨R'.old p o hb, ?_, fun q => ?_⟩
  · cases e : F' p with
    | none => rfl
    | some u =>
      rcases R'.nw p u e with h | h | h
      · have h : F p = some u := h
        rw [hf] at h; cases h
      · have h : bare r s H p = none := h
        rw [hb] at h; cases h
      · have := R'.fh p u e
        rw [R'.old p o hb] at this; cases this
        exact absurd h hnt
  · have h : bare r s H p = none := (R'.own_facts q).2.2
    rw [hb] at h; cases h
theorem restR_length (r2 r1 : Rho) : ∀ is, (restR r2 r1 is).length = r2.length
  | [] => rfl
  | v :: vs => by unfold restR; rw [List.length_set, restR_length r2 r1 vs]
theorem restR_get {r2 r1 : Rho} {j : Nat} {sv : SV} : ∀ {is : List Nat}, (restR r2 r1 is)[j]? = some (some sv) → (j ∈ is ∧ r1[j]? = some (some sv)) ∨ (j ∉ is ∧ r2[j]? = some (some sv))
  | [], h => .inr ⟨by simp, h⟩
  | v :: vs, h => by
    unfold restR at h
    rcases get_set_cases h with ⟨rfl, e⟩ | ⟨ne, e⟩
    · left
      refine ⟨by simp, ?_⟩
      cases q : r1[j]? with
      | none => rw [q] at e; cases e
      | some o => rw [q] at e; simp only [Option.getD_some] at e; rw [← e]
    · rcases restR_get e with ⟨h1, h2⟩ | ⟨h1, h2⟩
      · exact .inl ⟨by simp [h1], h2⟩
      · exact .inr ⟨by simp [ne, h1], h2⟩
/-- behind the comprehension: the def's own slots again -/
theorem Rep.unwipe {r1 r2 : Rho} {H' F' : Hp} {is : List Nat} (R1 : Rep K z r1 s H F) (R2 : Rep K z r2 (L2.wipe s is) H' F') (sb : SubH F F') (hp : plainAt r1 is = true) : Rep K z (restR r2 r1 is) s H' F' := by
  have key : ∀ {j : Nat} {sv : SV}, (restR r2 r1 is)[j]? = some (some sv) → (∃ x, sv = .d x ∧ r1[j]? = some (some sv)) ∨ (r2[j]? = some (some sv)) := fun {j sv} e => by
    rcases restR_get e with ⟨h1, h2⟩ | ⟨h1, h2⟩
    · left
      have := List.all_eq_true.mp hp j h1
      rw [h2] at this
      cases sv with
      | d x => exact ⟨x, rfl, h2⟩
      | l b xs => cases this
      | m b t xs => cases this
    · exact .inr h2
  have own2 : ∀ {j : Nat} {sv : SV}, (restR r2 r1 is)[j]? = some (some sv) → sv.own = true → r2[j]? = some (some sv) := fun {j sv} e o => by
    rcases key e with ⟨x, rfl, _⟩ | h
    · cases o
    · exact h
  have sl2 : ∀ {j : Nat} {sv : SV} {v : V}, r2[j]? = some (some sv) → s[j]? = some (some v) → (L2.wipe s is)[j]? = some (some v) := fun {j sv v} e q => by
    obtain ⟨w, hw, _⟩ := R2.slots j sv e
    obtain ⟨h1, _⟩ := wipe_some hw
    rw [q] at h1; cases h1; exact hw
  refine ⟨R2.fh, R2.old, R2.f0, R2.nw, fun j sv e => ?_, fun i j x y a e1 e2 o1 o2 s1 s2 => ?_, ?_⟩
  · rcases key e with ⟨x, rfl, h⟩ | h
    · obtain ⟨v, h1, h2⟩ := R1.slots j _ h
      exact ⟨v, h1, dp_mono sb h2⟩
    · obtain ⟨v, h1, h2⟩ := R2.slots j sv h
      exact ⟨v, (wipe_some h1).1, h2⟩
  · exact R2.apart i j x y a (own2 e1 o1) (own2 e2 o2) o1 o2 (sl2 (own2 e1 o1) s1) (sl2 (own2 e2 o2) s2)
  · rw [restR_length, R2.len, wipe_length]
end
section
variable {X : Cx} {elt tg iter : Expr} {ifs : List Expr} {scope : Scope} {pos : Pos} {it : AM} {g : GM} {t : TM} {el : EM}
structure STs (X : Cx) (ifs : List Expr) (f : TM) : Prop where
  pts : PTs X ifs (liftT X.K f)
def yesM : TM := fun r => some (true, r)
theorem pts_imp {e : List Expr} {t t' : TT} (h : PTs X e t) (k : ∀ s H Q, t' s H Q → t s H Q) : PTs X e t' := ⟨fun pins s σ H Q I hq => h.run pins s σ H Q I (k _ _ _ hq)⟩
theorem sts_nil : STs X [] yesM := ⟨pts_imp pts_nil fun s H Q ⟨z, r, F, d, r', R, e, k⟩ => by cases e; exact k H F R (.refl _)⟩
theorem sts_one {c : Expr} {f : TM} (h : ST X c f) : STs X [c] f := ⟨pts_one h.pt⟩
theorem comp_core {own : List (Str × Nat)} {s : L2.St} {H : Hp} {Q : VK} (q : liftL X.K (compM (own.map (·.2)) it g t el) s H Q) :
    tLc (liftI X.K it) (liftGw X.K g (own.map (·.2))) (liftT X.K t) (liftE X.K el) (own.map (·.2)) s H Q := by
  generalize own.map (·.2) = is at q ⊢
  obtain ⟨z, r, F, d, r', R, e, k⟩ := q
  unfold compM at e
  simp only [Option.bind_eq_some_iff] at e
  obtain ⟨⟨ds, r1⟩, e1, e2⟩ := e
  split at e2
  · rename_i hok
    obtain ⟨hp, hz⟩ := Bool.and_eq_true_iff.mp hok
    have hz : ds.length ≤ 1000000 := of_decide_eq_true hz
    simp only [Option.map_eq_some_iff] at e2
    obtain ⟨⟨out, r2⟩, e3, e4⟩ := e2
    cases e4
    refine ⟨z, r, F, ds, r1, R, e1, fun J H1 F1 R1 sb1 w D hD => ?_⟩
    obtain ⟨Y, W, hY⟩ := w.w
    refine lc_it (g := liftGw X.K g is) (tt := liftT X.K t) (te := liftE X.K el) (vs := is) (σ := s) (H1 := H1) (D := D) (Qd := fun H => Q (.ref D) H) W (fun i H => ∃ r F done rest vs, Rep X.K z r (wipe s is) H F ∧ SubH F1 F ∧ compL g t el is (ds.drop i) r = some (rest, r2) ∧ done ++ rest = out ∧ H D = some (.lst vs) ∧ F D = none ∧ z.H0 D = none ∧ ¬ OwnAt r (wipe s is) D ∧ DpAll X.K F vs done ∧ vs.length ≤ i)
      ?_ (fun i H _ ⟨r, F, done, rest, vs, Rr, sb, _⟩ => sb.trans Rr.fh) ?_ ?_
    · obtain ⟨Rl, h1, h2, h3, h4⟩ := (R1.wipe is).loose (vs := []) hD
      exact ⟨wipeR r1 is, F1, [], out, [], Rl, .refl _, by simpa using e3, rfl, h1, h2, h3, h4, .nil, Nat.le_refl _⟩
    · rintro i x H2 H3 hi ⟨ra, Fa, done, rest, vs, Ra, sba, ec, ed, hDa, hFa, hza, hoa, hda, hla⟩ y
      obtain ⟨Fb, dx, ei, G, dvx⟩ := hY i H2 x H3 y Fa sba Ra.fh
      have Rb := Ra.grow G
      have hDb : H3 D = some (.lst vs) := G.hh _ _ hDa
      have hFb : Fb D = none := by
        cases q : Fb D with
        | none => rfl
        | some u =>
          rcases G.nw D u q with h | h | ⟨ws, rfl⟩
          · rw [hFa] at h; cases h
          · rw [hDa] at h; cases h
          · have q2 := G.fh D _ q
            rw [hDb] at q2; cases q2
      have hdrop : ds.drop i = dx :: ds.drop (i + 1) := by
        have hlt : i < ds.length := (List.getElem?_eq_some_iff.mp ei).1
        rw [List.drop_eq_getElem_cons hlt]
        congr 1
        exact (List.getElem?_eq_some_iff.mp ei).2
      rw [hdrop] at ec
      simp only [compL, Option.bind_eq_some_iff] at ec
      obtain ⟨rg, eg, ⟨bt, rt⟩, et, ec⟩ := ec
      refine ⟨_, ra, Fb, dx, rg, Rb.base, dvx, eg, fun s2 hw2 R2 => ?_⟩
      have hww : wipe s2 is = wipe s is := hw2.trans (wipe_wipe fun _ h => h)
      refine ⟨hww, ?_⟩
      refine ⟨_, rg, Fb, bt, rt, R2, et, fun H4 F4 R4 sb4 => ?_⟩
      cases bt with
      | false =>
        simp only [Bool.false_eq_true, if_false] at ec ⊢
        obtain ⟨k1, k2, k3⟩ := Rb.loose_kept R4 hDb hFb hoa (fun ⟨_, q⟩ => nomatch q)
        have R5 := (Rb.back R4).wipe is
        rw [hww] at R5
        refine ⟨_, F4, done, rest, vs, R5, (sba.trans G.ff).trans sb4, ec, ed, k1, k2, hza, ?_, dpa_mono (G.ff.trans sb4) hda, by omega⟩
        rintro ⟨j, sv, q1, q2, q3⟩
        obtain ⟨q4, q5⟩ := wipeR_get q1
        obtain ⟨v, hv, _⟩ := R4.slots j sv q4
        have := wipe_get hv q5
        rw [hww] at this
        rw [q3] at this; cases this
        exact k3 ⟨j, sv, q4, q2, hv⟩
      | true =>
        simp only [if_true, Option.bind_eq_some_iff, Option.map_eq_some_iff] at ec ⊢
        obtain ⟨⟨y1, ry⟩, ey, ⟨ws, rw'⟩, ecl, ee⟩ := ec
        cases ee
        refine ⟨_, rt, F4, y1, ry, R4, ey, fun v5 H5 F5 R5 sb5 dv5 => ?_⟩
        obtain ⟨k1, k2, k3⟩ := Rb.loose_kept R5 hDb hFb hoa (fun ⟨_, q⟩ => nomatch q)
        have R6 := (Rb.back R5).wipe is
        rw [hww] at R6
        have k4 : ¬ OwnAt (wipeR ry is) (wipe s is) D := by
          rintro ⟨j, sv, q1, q2, q3⟩
          obtain ⟨q4, q5⟩ := wipeR_get q1
          obtain ⟨v, hv, _⟩ := R5.slots j sv q4
          have := wipe_get hv q5
          rw [hww] at this
          rw [q3] at this; cases this
          exact k3 ⟨j, sv, q4, q2, hv⟩
        refine ⟨vs, k1, Nat.lt_of_le_of_lt (Nat.le_trans hla (Nat.le_trans (Nat.le_of_lt hi) hz)) (by decide), ?_⟩
        exact ⟨_, F5, done ++ [y1], ws, vs ++ [v5], R6.loosePut k2 hza k4, ((sba.trans G.ff).trans sb4).trans sb5, ecl, by rw [← ed]; simp, upd_same, k2, hza, k4, dpa_app (dpa_mono ((G.ff.trans sb4).trans sb5) hda) (dpa_one dv5), by rw [List.length_append]; simp; omega⟩
    · rintro H2 ⟨ra, Fa, done, rest, vs, Ra, sba, ec, ed, hDa, hFa, hza, hoa, hda, hla⟩
      rw [List.drop_length] at ec
      cases ec
      have R9 := R1.unwipe Ra sba hp
      rw [List.append_nil] at ed
      subst ed
      refine k D vs H2 Fa R9 (sb1.trans sba) hDa hFa hza ?_ hda
      rintro ⟨j, sv, q1, q2, q3⟩
      rcases restR_get q1 with ⟨h1, h2⟩ | ⟨h1, h2⟩
      · have := List.all_eq_true.mp hp j h1
        rw [h2] at this
        simp only [q2] at this
        cases this
      · exact hoa ⟨j, sv, h2, q2, wipe_get q3 h1⟩
  · cases e2
theorem sl_comp {own : List (Str × Nat)} (hc : X.calm = true) (hN : X.N.Nodup) (hi : SI X tg iter it) (ok : BlkOk X.N X.env.scope scope own)
    (hg : ∀ (s : Shared) (H : Hp) (C : Addr) (cl : List (Str × Addr)) (fp : List Addr), SG (X.blk s H scope (compEnvC scope cl C X.env) fp) tg g (own.map (·.2))) (ht : ∀ (s : Shared) (H : Hp) (C : Addr) (cl : List (Str × Addr)) (fp : List Addr), STs (X.blk s H scope (compEnvC scope cl C X.env) fp) ifs t)
    (he : ∀ (s : Shared) (H : Hp) (C : Addr) (cl : List (Str × Addr)) (fp : List Addr), SE (X.blk s H scope (compEnvC scope cl C X.env) fp) elt el) (hs : ∀ x, foldedSetIterable iter X.env x = pure x := by intro _; rfl) :
    SL X (.ListComp elt [⟨tg, iter, ifs, 0⟩] scope pos) (compM (own.map (·.2)) it g t el) :=
  ⟨pe_imp (pe_lc (own := own) hc hN hi.pi ok (fun s H C cl fp => (hg s H C cl fp).pg) (fun s H C cl fp => (ht s H C cl fp).pts) (fun s H C cl fp => (he s H C cl fp).pe) hs) fun s H Q q => comp_core q⟩
end
end DL

namespace DL
open PySem L2 PyProof.Rows PySem.Spec
/-! ### statements -/
inductive Out where
  | nx (r : Rho)
  | rt (d : D) (r : Rho)
  | bk (r : Rho)
  | ct (r : Rho)
  | ex (c : String) (r : Rho)
abbrev SM := Rho → Option Out
def outOk (K : PySem.W.Frag) (z : Fx) (F : Hp) (W : String → Hp → Prop) (D : Ends) : Out → Prop
  | .nx r' => ∀ s' H' F', Rep K z r' s' H' F' → SubH F F' → D.nx s' H'
  | .rt d r' => ∀ v s' H' F', Rep K z r' s' H' F' → SubH F F' → Dp K F' v d → D.rt v H'
  | .bk r' => ∀ s' H' F', Rep K z r' s' H' F' → SubH F F' → D.bk s' H'
  | .ct r' => ∀ s' H' F', Rep K z r' s' H' F' → SubH F F' → D.ct s' H'
  | .ex c r' => ∀ s' H' F', Rep K z r' s' H' F' → SubH F F' → W c H'
theorem outOk.mono {K : PySem.W.Frag} {z : Fx} {F F' : Hp} {W : String → Hp → Prop} {D : Ends} {o : Out} (h : outOk K z F W D o) (e : SubH F F') : outOk K z F' W D o := by
  cases o with
  | nx r => exact fun s' H' F2 R sb => h s' H' F2 R (e.trans sb)
  | rt d r => exact fun v s' H' F2 R sb => h v s' H' F2 R (e.trans sb)
  | bk r => exact fun s' H' F2 R sb => h s' H' F2 R (e.trans sb)
  | ct r => exact fun s' H' F2 R sb => h s' H' F2 R (e.trans sb)
  | ex c r => exact fun s' H' F2 R sb => h s' H' F2 R (e.trans sb)
def liftS (K : PySem.W.Frag) (W : String → Hp → Prop) (f : SM) : TS := fun D s H => ∃ z r F o, Rep K z r s H F ∧ f r = some o ∧ outOk K z F W D o
structure SS (X : Cx) (W : String → Hp → Prop) (st : Stmt) (f : SM) : Prop where
  ps : PS X st (liftS X.K W f)
structure SSs (X : Cx) (W : String → Hp → Prop) (st : List Stmt) (f : SM) : Prop where
  ps : PSs X st (liftS X.K W f)
section
variable {X : Cx} {W : String → Hp → Prop} {a b c e tg : Expr} {st : Stmt} {sts : List Stmt} {f g : SM} {pos : Pos}
theorem ps_imp {st : Stmt} {t t' : TS} (h : PS X st t) (k : ∀ D s H, t' D s H → t D s H) : PS X st t' := ⟨fun pins s σ H D I hq => h.run pins s σ H D I (k _ _ _ hq)⟩
theorem pss_imp {st : List Stmt} {t t' : TS} (h : PSs X st t) (k : ∀ D s H, t' D s H → t D s H) : PSs X st t' := ⟨fun pins s σ H D I hq => h.run pins s σ H D I (k _ _ _ hq)⟩
def skipM : SM := fun r => some (.nx r)
def seqS (f g : SM) : SM := fun r => (f r).bind fun o => match o with
  | .nx r1 => g r1
  | o => some o
theorem sss_nil : SSs X W [] skipM := ⟨pss_imp pss_nil fun D s H ⟨z, r, F, o, R, e, k⟩ => by cases e; exact k s H F R (.refl _)⟩
theorem sss_cons (h1 : SS X W st f) (h2 : SSs X W sts g) : SSs X W (st :: sts) (seqS f g) := ⟨pss_imp (pss_cons h1.ps h2.ps) fun D s H ⟨z, r, F, o, R, e, k⟩ => by
  unfold seqS at e
  simp only [Option.bind_eq_some_iff] at e
  obtain ⟨o1, e1, e2⟩ := e
  refine ⟨z, r, F, o1, R, e1, ?_⟩
  cases o1 with
  | nx r1 => exact fun s' H' F' R' sb => ⟨z, r1, F', o, R', e2, k.mono sb⟩
  | rt d r1 => cases e2; exact k
  | bk r1 => cases e2; exact k
  | ct r1 => cases e2; exact k
  | ex c r1 => cases e2; exact k⟩
theorem sss_one (h1 : SS X W st f) : SSs X W [st] f := ⟨pss_one h1.ps⟩
def asgM (i : Nat) (f : EM) : SM := fun r => (f r).map fun p => .nx (p.2.set i (some (.d p.1)))
theorem ss_asg (i : Nat) {x : Str} {pos' : Pos} {f : EM} (hN : X.N.Nodup) (he : SE X e f) (hi : X.N[i]? = some x := by rfl) (hx : Loc X.env.scope x := by first | exact Or.inl rfl | exact Or.inr rfl) (hs : swapsWith e (some (.Name x pos')) pos.line X.env = pure false := by rfl) (hf : X.fn x = true ∨ X.env.scope.names.lookup x = some .local := by first | exact .inl rfl | exact .inr rfl | assumption) :
    SS X W (.Assign [.Name x pos'] e pos) (asgM i f) := ⟨ps_imp (ps_set hN hi hx he.pe hs hf) fun D s H ⟨z, r, F, o, R, e, k⟩ => by
  unfold asgM at e
  simp only [Option.map_eq_some_iff] at e
  obtain ⟨⟨d, r1⟩, e1, e2⟩ := e
  cases e2
  exact ⟨z, r, F, d, r1, R, e1, fun v H' F' R' sb dv => k _ H' F' (R'.put dv) sb⟩⟩
/-- targets of any form -/
def asgG (g : GM) (f : EM) : SM := fun r => (f r).bind fun p => (g p.2 p.1).map .nx
theorem ss_asgG {is : List Nat} {g : GM} {f : EM} (he : SE X e f) (hg : SG X tg g is) (hs : swapsWithSole [tg] e pos.line X.env = pure false := by rfl) (hw : swappedStores [tg] e X.env = pure none := by rfl)
    (h1 : (assignEach [tg] X.env).map (·.2) = [assign tg X.env] := by rfl) : SS X W (.Assign [tg] e pos) (asgG g f) := ⟨ps_imp (ps_asg he.pe hg.pg hs hw h1) fun D s H ⟨z, r, F, o, R, e, k⟩ => by
  unfold asgG at e
  simp only [Option.bind_eq_some_iff, Option.map_eq_some_iff] at e
  obtain ⟨⟨d, r1⟩, e1, r2, e2, e3⟩ := e
  cases e3
  exact ⟨z, r, F, d, r1, R, e1, fun v H' F' R' sb dv => ⟨z, r1, F', d, r2, R', dv, e2, fun s' _ R2 => k s' H' F' R2 sb⟩⟩⟩
/-- an own list -/
theorem Rep.putOwn {K : PySem.W.Frag} {z : Fx} {r : Rho} {s : L2.St} {H F : Hp} (R : Rep K z r s H F) {i : Nat} {p : Addr} {vs : List V} {xs : List D} (hp : H p = some (.lst vs)) (hf : F p = none) (h0 : z.H0 p = none) (ho : ¬ OwnAt r s p) (hd : DpAll K F vs xs) :
    Rep K z (r.set i (some (.l false xs))) (s.set i (some (.ref p))) H F where
  fh := R.fh
  old := R.old
  f0 := R.f0
  nw := R.nw
  slots := fun j sv e => by
    have hj : j < r.length := by
      have q : j < (r.set i (some (SV.l false xs))).length := (List.getElem?_eq_some_iff.mp e).1
      simpa using q
    rcases get_set_cases e with ⟨rfl, e2⟩ | ⟨ne, e⟩
    · cases e2
      exact ⟨_, by rw [List.getElem?_set_self (by rw [← R.len]; exact hj)], p, vs, rfl, hp, hf, h0, hd, fun q => nomatch q⟩
    · obtain ⟨w, h1, h2⟩ := R.slots j sv e
      exact ⟨w, by rw [List.getElem?_set_ne (Ne.symm ne)]; exact h1, h2⟩
  apart := fun j k x y a e1 e2 o1 o2 s1 s2 => by
    rcases get_set_cases e1 with ⟨h1, e1'⟩ | ⟨n1, e1'⟩ <;> rcases get_set_cases e2 with ⟨h2, e2'⟩ | ⟨n2, e2'⟩
    · rw [h1, h2]
    · exfalso
      rw [List.getElem?_set_ne (Ne.symm n2)] at s2
      rw [h1] at s1
      have : a = p := by
        rcases get_set_cases s1 with ⟨_, q⟩ | ⟨n, _⟩
        · cases q; rfl
        · exact absurd rfl n
      subst this
      exact ho ⟨k, y, e2', o2, s2⟩
    · exfalso
      rw [List.getElem?_set_ne (Ne.symm n1)] at s1
      rw [h2] at s2
      have : a = p := by
        rcases get_set_cases s2 with ⟨_, q⟩ | ⟨n, _⟩
        · cases q; rfl
        · exact absurd rfl n
      subst this
      exact ho ⟨j, x, e1', o1, s1⟩
    · rw [List.getElem?_set_ne (Ne.symm n1)] at s1
      rw [List.getElem?_set_ne (Ne.symm n2)] at s2
      exact R.apart j k x y a e1' e2' o1 o2 s1 s2
  len := by simpa using R.len
def newM (i : Nat) (f : AM) : SM := fun r => (f r).map fun p => .nx (p.2.set i (some (.l false p.1)))
theorem new_core {i : Nat} {f : AM} {D : Ends} {s : L2.St} {H : Hp} (q : liftS X.K W (newM i f) D s H) : tAsg (liftL X.K f) (gName i) D s H := by
  obtain ⟨z, r, F, o, R, e, k⟩ := q
  unfold newM at e
  simp only [Option.map_eq_some_iff] at e
  obtain ⟨⟨d, r1⟩, e1, e2⟩ := e
  cases e2
  exact ⟨z, r, F, d, r1, R, e1, fun a vs H' F' R' sb h1 h2 h3 h4 h5 => k _ H' F' (R'.putOwn h1 h2 h3 h4 h5) sb⟩
theorem ss_new (i : Nat) {x : Str} {pos' : Pos} {f : AM} (hN : X.N.Nodup) (he : SL X e f) (hi : X.N[i]? = some x := by rfl) (hx : Loc X.env.scope x := by first | exact Or.inl rfl | exact Or.inr rfl) (hs : swapsWith e (some (.Name x pos')) pos.line X.env = pure false := by rfl) (hf : X.fn x = true ∨ X.env.scope.names.lookup x = some .local := by first | exact .inl rfl | exact .inr rfl | assumption) :
    SS X W (.Assign [.Name x pos'] e pos) (newM i f) := ⟨ps_imp (ps_set hN hi hx he.pe hs hf) fun D s H q => new_core q⟩
def asgLM (i : Nat) (f : AM) : SM := fun r => (f r).map fun p => .nx (p.2.set i (some (.d (.list p.1))))
theorem asgL_core {i : Nat} {f : AM} {D : Ends} {s : L2.St} {H : Hp} (q : liftS X.K W (asgLM i f) D s H) : tAsg (liftL X.K f) (gName i) D s H := by
  obtain ⟨z, r, F, o, R, e, k⟩ := q
  unfold asgLM at e
  simp only [Option.map_eq_some_iff] at e
  obtain ⟨⟨d, r1⟩, e1, e2⟩ := e
  cases e2
  refine ⟨z, r, F, d, r1, R, e1, fun a vs H' F' R' sb h1 h2 h3 h4 h5 => ?_⟩
  have G := R'.freeze1 h1 h2 h3 h4
  exact k _ H' _ (G.put (.lst (.inl (.inl upd_same)) (dpa_mono (.new h2) h5))) (sb.trans (.new h2))
section
variable {elt iter : Expr} {ifs : List Expr} {scope : Scope} {it : AM} {gg : GM} {t : TM} {el : EM}
/-- name = [.. for ..] -/
theorem ss_compD (i : Nat) {y : Str} {py spos : Pos} {own : List (Str × Nat)} (hc : X.calm = true) (hN : X.N.Nodup) (hi : SI X tg iter it) (ok : BlkOk X.N X.env.scope scope own)
    (hg : ∀ (s : Shared) (H : Hp) (C : Addr) (cl : List (Str × Addr)) (fp : List Addr), SG (X.blk s H scope (compEnvC scope cl C X.env) fp) tg gg (own.map (·.2))) (ht : ∀ (s : Shared) (H : Hp) (C : Addr) (cl : List (Str × Addr)) (fp : List Addr), STs (X.blk s H scope (compEnvC scope cl C X.env) fp) ifs t)
    (he : ∀ (s : Shared) (H : Hp) (C : Addr) (cl : List (Str × Addr)) (fp : List Addr), SE (X.blk s H scope (compEnvC scope cl C X.env) fp) elt el)
    (hsw : swapsWith (.ListComp elt [⟨tg, iter, ifs, 0⟩] scope pos) (some (.Name y py)) spos.line X.env = pure true) (hy : X.N[i]? = some y := by rfl) (hyl : X.env.scope.names.lookup y = some .local := by rfl) (hs : ∀ x, foldedSetIterable iter X.env x = pure x := by intro _; rfl) :
    SS X W (.Assign [.Name y py] (.ListComp elt [⟨tg, iter, ifs, 0⟩] scope pos) spos) (asgLM i (compM (own.map (·.2)) it gg t el)) :=
  ⟨ps_imp (ps_setLc (own := own) hc hN hy hyl hsw hi.pi ok (fun s H C cl fp => (hg s H C cl fp).pg) (fun s H C cl fp => (ht s H C cl fp).pts) (fun s H C cl fp => (he s H C cl fp).pe) hs) fun D s H q => by
    have q2 : tAsg (liftL X.K (compM (own.map (·.2)) it gg t el)) (gName i) D s H := asgL_core q
    exact comp_core q2⟩
theorem ss_compN (i : Nat) {y : Str} {py spos : Pos} {own : List (Str × Nat)} (hc : X.calm = true) (hN : X.N.Nodup) (hi : SI X tg iter it) (ok : BlkOk X.N X.env.scope scope own)
    (hg : ∀ (s : Shared) (H : Hp) (C : Addr) (cl : List (Str × Addr)) (fp : List Addr), SG (X.blk s H scope (compEnvC scope cl C X.env) fp) tg gg (own.map (·.2))) (ht : ∀ (s : Shared) (H : Hp) (C : Addr) (cl : List (Str × Addr)) (fp : List Addr), STs (X.blk s H scope (compEnvC scope cl C X.env) fp) ifs t)
    (he : ∀ (s : Shared) (H : Hp) (C : Addr) (cl : List (Str × Addr)) (fp : List Addr), SE (X.blk s H scope (compEnvC scope cl C X.env) fp) elt el)
    (hsw : swapsWith (.ListComp elt [⟨tg, iter, ifs, 0⟩] scope pos) (some (.Name y py)) spos.line X.env = pure true) (hy : X.N[i]? = some y := by rfl) (hyl : X.env.scope.names.lookup y = some .local := by rfl) (hs : ∀ x, foldedSetIterable iter X.env x = pure x := by intro _; rfl) :
    SS X W (.Assign [.Name y py] (.ListComp elt [⟨tg, iter, ifs, 0⟩] scope pos) spos) (newM i (compM (own.map (·.2)) it gg t el)) :=
  ⟨ps_imp (ps_setLc (own := own) hc hN hy hyl hsw hi.pi ok (fun s H C cl fp => (hg s H C cl fp).pg) (fun s H C cl fp => (ht s H C cl fp).pts) (fun s H C cl fp => (he s H C cl fp).pe) hs) fun D s H q => by
    have q2 : tAsg (liftL X.K (compM (own.map (·.2)) it gg t el)) (gName i) D s H := new_core q
    exact comp_core q2⟩
end
def retM (f : EM) : SM := fun r => (f r).map fun p => .rt p.1 p.2
theorem ss_ret {f : EM} (he : SE X e f) : SS X W (.Return (some e) pos) (retM f) := ⟨ps_imp (ps_ret he.pe) fun D s H ⟨z, r, F, o, R, e, k⟩ => by
  unfold retM at e
  simp only [Option.map_eq_some_iff] at e
  obtain ⟨⟨d, r1⟩, e1, e2⟩ := e
  cases e2
  exact ⟨z, r, F, d, r1, R, e1, fun v H' F' R' sb dv => k v s H' F' R' sb dv⟩⟩
def exprM (f : EM) : SM := fun r => (f r).map fun p => .nx p.2
theorem ss_expr {f : EM} (he : SE X e f) (hs : swapsWith e none pos.line X.env = pure false := by rfl) : SS X W (.Expr e pos) (exprM f) := ⟨ps_imp (ps_expr he.pe hs) fun D s H ⟨z, r, F, o, R, e, k⟩ => by
  unfold exprM at e
  simp only [Option.map_eq_some_iff] at e
  obtain ⟨⟨d, r1⟩, e1, e2⟩ := e
  cases e2
  exact ⟨z, r, F, d, r1, R, e1, fun v H' F' R' sb dv => k s H' F' R' sb⟩⟩
def ifM (t : TM) (f g : SM) : SM := fun r => (t r).bind fun p => if p.1 = true then f p.2 else g p.2
theorem ss_if {as bs : List Stmt} {t : TM} (hc : ST X c t) (ha : SSs X W as f) (hb : SSs X W bs g) : SS X W (.If c as bs pos) (ifM t f g) := ⟨ps_imp (ps_if hc.pt ha.ps hb.ps) fun D s H ⟨z, r, F, o, R, e, k⟩ => by
  unfold ifM at e
  simp only [Option.bind_eq_some_iff] at e
  obtain ⟨⟨d, r1⟩, e1, e2⟩ := e
  refine ⟨z, r, F, d, r1, R, e1, fun H' F' R' sb => ?_⟩
  cases d with
  | true => exact ⟨z, r1, F', o, R', e2, k.mono sb⟩
  | false => exact ⟨z, r1, F', o, R', e2, k.mono sb⟩⟩
theorem ss_pass : SS X W (.Pass pos) skipM := ⟨ps_imp ps_pass fun D s H ⟨z, r, F, o, R, e, k⟩ => by cases e; exact k s H F R (.refl _)⟩
def contM : SM := fun r => some (.ct r)
def brkM : SM := fun r => some (.bk r)
theorem ss_cont : SS X W (.Continue pos) contM := ⟨ps_imp ps_continue fun D s H ⟨z, r, F, o, R, e, k⟩ => by cases e; exact k s H F R (.refl _)⟩
theorem ss_brk : SS X W (.Break pos) brkM := ⟨ps_imp ps_break fun D s H ⟨z, r, F, o, R, e, k⟩ => by cases e; exact k s H F R (.refl _)⟩
/-! ### loops -/
def forL (g : GM) (f : SM) : List D → Rho → Option Out
  | [], r => some (.nx r)
  | x :: xs, r => (g r x).bind fun r1 => (f r1).bind fun o => match o with
    | .nx r2 => forL g f xs r2
    | .ct r2 => forL g f xs r2
    | .bk r2 => some (.nx r2)
    | o => some o
def forM (it : AM) (g : GM) (f : SM) : SM := fun r => (it r).bind fun p => forL g f p.1 p.2
theorem ss_for {iter : Expr} {body : List Stmt} {it : AM} {g : GM} {is : List Nat} (hp : PassesOwn (model X.prog X.w) X.A X.env X.xe) (hc : X.calm = true) (hi : SI X tg iter it) (hg : SG X tg g is) (hb : SSs X W body f)
    (hs : ∀ x, foldedSetIterable iter X.env x = pure x := by intro _; rfl) : SS X W (.For tg iter body [] pos) (forM it g f) := ⟨ps_imp (ps_for hp hc hi.pi hg.pg hb.ps hs) fun D s H ⟨z, r, F, o, R, e, k⟩ => by
  unfold forM at e
  simp only [Option.bind_eq_some_iff] at e
  obtain ⟨⟨ds, r1⟩, e1, e2⟩ := e
  refine ⟨z, r, F, ds, r1, R, e1, fun J H1 F1 R1 sb1 w => ?_⟩
  obtain ⟨Y, Wk, hY⟩ := w.w
  refine for_it Wk (fun i s H => ∃ r F, Rep X.K z r s H F ∧ SubH F1 F ∧ forL g f (ds.drop i) r = some o) ⟨r1, F1, R1, .refl _, by simpa using e2⟩ (fun i s H _ ⟨r, F, Rr, sb, _⟩ => sb.trans Rr.fh) ?_ ?_
  · rintro i x s2 H2 H3 hi ⟨ra, Fa, Ra, sba, ec⟩ y
    obtain ⟨Fb, dx, ei, G, dvx⟩ := hY i H2 x H3 y Fa sba Ra.fh
    have Rb := Ra.grow G
    have hdrop : ds.drop i = dx :: ds.drop (i + 1) := by
      have hlt : i < ds.length := (List.getElem?_eq_some_iff.mp ei).1
      rw [List.drop_eq_getElem_cons hlt]
      congr 1
      exact (List.getElem?_eq_some_iff.mp ei).2
    rw [hdrop] at ec
    simp only [forL, Option.bind_eq_some_iff] at ec
    obtain ⟨rg, eg, ob, eb, ec⟩ := ec
    refine ⟨z, ra, Fb, dx, rg, Rb, dvx, eg, fun s3 _ R3 => ⟨z, rg, Fb, ob, R3, eb, ?_⟩⟩
    have sbb : SubH F1 Fb := sba.trans G.ff
    cases ob with
    | nx r4 => exact fun s4 H4 F4 R4 sb4 => ⟨r4, F4, R4, sbb.trans sb4, ec⟩
    | ct r4 => exact fun s4 H4 F4 R4 sb4 => ⟨r4, F4, R4, sbb.trans sb4, ec⟩
    | bk r4 => cases ec; exact fun s4 H4 F4 R4 sb4 => k s4 H4 F4 R4 ((sb1.trans sbb).trans sb4)
    | rt d r4 => cases ec; exact fun v s4 H4 F4 R4 sb4 dv => k v s4 H4 F4 R4 ((sb1.trans sbb).trans sb4) dv
    | ex c r4 => cases ec; exact fun s4 H4 F4 R4 sb4 => k s4 H4 F4 R4 ((sb1.trans sbb).trans sb4)
  · rintro s2 H2 ⟨ra, Fa, Ra, sba, ec⟩
    rw [List.drop_length] at ec
    cases ec
    exact k s2 H2 Fa Ra (sb1.trans sba)⟩
def whileL (t : TM) (f : SM) : Nat → Rho → Option Out
  | 0, _ => none
  | n + 1, r => (t r).bind fun p => if p.1 = true then (f p.2).bind fun o => match o with
      | .nx r2 => whileL t f n r2
      | .ct r2 => whileL t f n r2
      | .bk r2 => some (.nx r2)
      | o => some o
    else some (.nx p.2)
theorem ss_while {body : List Stmt} {t : TM} (n : Nat) (hp : PassesOwn (model X.prog X.w) X.A X.env X.xe) (hc : ST X c t) (hb : SSs X W body f) : SS X W (.While c body [] pos) (whileL t f n) := ⟨ps_imp (ps_while hp hc.pt hb.ps) fun D s H ⟨z, r, F, o, R, e, k⟩ => by
  refine ⟨fun m s H => ∃ r F', Rep X.K z r s H F' ∧ SubH F F' ∧ whileL t f m r = some o, ⟨n, r, F, R, .refl _, e⟩, ?_⟩
  rintro m s2 H2 ⟨ra, Fa, Ra, sba, ec⟩
  cases m with
  | zero => cases ec
  | succ m =>
    simp only [whileL, Option.bind_eq_some_iff] at ec
    obtain ⟨⟨b, rt⟩, et, ec⟩ := ec
    refine ⟨z, ra, Fa, b, rt, Ra, et, fun H3 F3 R3 sb3 => ?_⟩
    cases b with
    | false => cases ec; exact k s2 H3 F3 R3 (sba.trans sb3)
    | true =>
      simp only [if_true, Option.bind_eq_some_iff] at ec ⊢
      obtain ⟨ob, eb, ec⟩ := ec
      refine ⟨fun s H => ∃ r F', Rep X.K z r s H F' ∧ SubH F F' ∧ whileL t f m r = some o, fun s' H' h => ⟨m, Nat.lt_succ_self _, h⟩, z, rt, F3, ob, R3, eb, ?_⟩
      have sbb : SubH F F3 := sba.trans sb3
      cases ob with
      | nx r4 => exact fun s4 H4 F4 R4 sb4 => ⟨r4, F4, R4, sbb.trans sb4, ec⟩
      | ct r4 => exact fun s4 H4 F4 R4 sb4 => ⟨r4, F4, R4, sbb.trans sb4, ec⟩
      | bk r4 => cases ec; exact fun s4 H4 F4 R4 sb4 => k s4 H4 F4 R4 (sbb.trans sb4)
      | rt d r4 => cases ec; exact fun v s4 H4 F4 R4 sb4 dv => k v s4 H4 F4 R4 (sbb.trans sb4) dv
      | ex c r4 => cases ec; exact fun s4 H4 F4 R4 sb4 => k s4 H4 F4 R4 (sbb.trans sb4)⟩
/-! ### an own list is frozen -/
def frzR (i : Nat) (r : Rho) : Option Rho := match r[i]? with
  | some (some (.l _ xs)) => some (r.set i (some (.d (.list xs))))
  | _ => none
theorem Rep.frz {K : PySem.W.Frag} {z : Fx} {r r' : Rho} {s : L2.St} {H F : Hp} {i : Nat} (R : Rep K z r s H F) (e : frzR i r = some r') : ∃ F', Rep K z r' s H F' ∧ SubH F F' := by
  unfold frzR at e
  split at e
  · rename_i xs hi
    cases e
    obtain ⟨v, h1, p, vs, rfl, h2, h3, h4, h5, h6⟩ := R.slots i _ hi
    have hil : i < r.length := (List.getElem?_eq_some_iff.mp hi).1
    refine ⟨upd F p (.lst vs), ⟨fun b u q => ?_, R.old, R.f0.trans (.new h3), fun b u q => ?_, fun j sv q => ?_, fun j k x y a e1 e2 o1 o2 s1 s2 => ?_, by simpa using R.len⟩, .new h3⟩
    · by_cases e : b = p
      · subst e; rw [upd_same] at q; rw [h2]; exact q
      · rw [upd_ne e] at q; exact R.fh b u q
    · by_cases e : b = p
      · subst e; exact .inr (.inl h4)
      · rw [upd_ne e] at q; exact R.nw b u q
    · rcases get_set_cases q with ⟨rfl, e⟩ | ⟨ne, q⟩
      · cases e
        exact ⟨_, h1, .lst (.inl (.inl upd_same)) (dpa_mono (.new h3) h5)⟩
      · obtain ⟨v, q1, q2⟩ := R.slots j sv q
        refine ⟨v, q1, q2.mono (.new h3) (fun _ _ _ _ h => h) fun a o ho' hf' _ hown e => ?_⟩
        have : a ≠ p := fun z => ne (R.apart j i sv _ p q hi hown rfl (by rw [q1, e, z]) h1)
        rw [upd_ne this]; exact hf'
    · rcases get_set_cases e1 with ⟨rfl, e⟩ | ⟨n1, e1'⟩
      · cases e; cases o1
      · rcases get_set_cases e2 with ⟨rfl, e⟩ | ⟨n2, e2'⟩
        · cases e; cases o2
        · exact R.apart j k x y a e1' e2' o1 o2 s1 s2
  · cases e
def frzM (i : Nat) (f : SM) : SM := fun r => (frzR i r).bind f
theorem ss_frz (i : Nat) (h : SS X W st f) : SS X W st (frzM i f) := ⟨ps_imp h.ps fun D s H ⟨z, r, F, o, R, e, k⟩ => by
  unfold frzM at e
  simp only [Option.bind_eq_some_iff] at e
  obtain ⟨r1, e1, e2⟩ := e
  obtain ⟨F', R', sb⟩ := R.frz e1
  exact ⟨z, r1, F', o, R', e2, k.mono sb⟩⟩
theorem sss_frz (i : Nat) (h : SSs X W sts f) : SSs X W sts (frzM i f) := ⟨pss_imp h.ps fun D s H ⟨z, r, F, o, R, e, k⟩ => by
  unfold frzM at e
  simp only [Option.bind_eq_some_iff] at e
  obtain ⟨r1, e1, e2⟩ := e
  obtain ⟨F', R', sb⟩ := R.frz e1
  exact ⟨z, r1, F', o, R', e2, k.mono sb⟩⟩
end
end DL

namespace DL
open PySem L2 PyProof.Rows PySem.Spec
/-- list.extend by a list, whatever stands in that one's slots -/
theorem meets_extendBy (l b : Addr) (mine yours : Array Value) (n m : Nat) (dd : Option Addr) (sl : Array (Option Value)) (fits : mine.size + yours.size ≤ sizeLine) :
    Meets (Builtin.«list.extend» ⟨[.ref l, .ref b], []⟩) (fun _ R s => s.heap.get? l = some { cls := .type "list", data := .seq mine n } ∧ s.heap.get? b = some { cls := .type "list", dict := dd, data := .seq yours m, slots := sl } ∧
      R (.ok (.ret .none)) { s with heap := s.heap.update l (Obj.mapSeq (· ++ yours)) }) := by
  refine .of_wp fun prog w A R s ⟨atL, atB, done⟩ => ?_
  have notLong := notLongL fits
  have first : mine.size ≤ sizeLine := Nat.le_trans (Nat.le_add_right ..) fits
  have both : (mine ++ yours).size ≤ sizeLine + 1 := by simp; omega
  have k1 := AutoSeq1.sub_list_list
  have k2 := AutoSeq1.sub_list_tuple
  wp_walk using wpAny_updateSeq atL rfl (hz := first) (_hz' := both), wpAny_loadPart' atL, wpAny_loadPart' atB
  all_goals first | exact ⟨_, rfl, done⟩ | skip
def rExtendL (K : PySem.W.Frag) : V → List V → Hp → VK → Prop := fun x vs H Q => ∃ l b xs zs, x = .ref l ∧ vs = [.ref b] ∧ H l = some (.lst xs) ∧ SqL K H b zs ∧ xs.length + zs.length ≤ sizeLine ∧ Q .non (upd H l (.lst (xs ++ zs)))
theorem mt_extendL {X : Cx} : MtM X "list.extend" (rExtendL X.K) := by
  rintro pins s σ H x vs v us Q I rx rv ⟨l, b, xs, zs, rfl, rfl, own, other, fits, give⟩
  obtain ⟨u, rfl, ru⟩ := rv.one
  cases rx
  cases ru
  obtain ⟨_, its, n, mine, _, stands⟩ := I.lstM own
  obtain ⟨its2, yours, ⟨⟨c2, dd, dt, sl⟩, m, atB, isList, _, isSeq⟩, _⟩ := I.list other
  cases isList
  cases isSeq
  have e1 := mine.length
  have e2 := yours.length
  have sizes : its.toArray.size + its2.toArray.size ≤ sizeLine := by simp; omega
  have ty : s.TypeIs (.ref l) "list" := ⟨_, stands, rfl⟩
  refine call_meets F.slot_list_extend ty F.entry_list_extend (F.args_list_extend_2 _ _) (meets_extendBy l b its.toArray its2.toArray n m dd sl sizes) ?_
  exact ⟨stands, atB, .non, _, I.lset (its' := its ++ its2) own stands (by simp) (mine.append yours) (by rw [List.length_append]; exact fits), rfl, give⟩
section
variable {K : PySem.W.Frag} {z : Fx} {r : Rho} {s : L2.St} {H F : Hp}
/-- an own list takes another content -/
theorem Rep.setOwn (R : Rep K z r s H F) {i : Nat} {p : Addr} {bb : Bool} {xs xs' : List D} {vs' : List V} (hi : r[i]? = some (some (.l bb xs))) (hs : s[i]? = some (some (.ref p))) (hd : DpAll K F vs' xs') : Rep K z (r.set i (some (.l bb xs'))) s (upd H p (.lst vs')) F := by
  have hrf : bb = true → z.rf = some p := by
    obtain ⟨v, h1, p', vs, e, _, _, _, _, h6⟩ := R.slots i _ hi
    subst e
    rw [hs] at h1; cases h1; exact h6
  have own : OwnAt r s p := ⟨i, _, hi, rfl, hs⟩
  obtain ⟨_, hf, h0⟩ := R.own_facts own
  have hil : i < r.length := (List.getElem?_eq_some_iff.mp hi).1
  refine ⟨fun b u q => ?_, fun b u q => ?_, R.f0, R.nw, fun j sv q => ?_, fun j k x y a e1 e2 o1 o2 s1 s2 => ?_, by simpa using R.len⟩
  · have : b ≠ p := fun e => by rw [e, hf] at q; cases q
    rw [upd_ne this]; exact R.fh b u q
  · have : b ≠ p := fun e => by rw [e, h0] at q; cases q
    rw [upd_ne this]; exact R.old b u q
  · rcases get_set_cases q with ⟨rfl, e⟩ | ⟨ne, q⟩
    · cases e
      exact ⟨_, hs, p, vs', rfl, upd_same, hf, h0, hd, hrf⟩
    · obtain ⟨v, q1, q2⟩ := R.slots j sv q
      refine ⟨v, q1, q2.mono (.refl _) (fun a e hown u hu => ?_) fun a _ _ hf' _ _ _ => hf'⟩
      have : a ≠ p := fun z => ne (R.apart j i sv _ p q hi hown rfl (by rw [q1, e, z]) hs)
      rw [upd_ne this]; exact hu
  · have cv : ∀ {j : Nat} {x : SV}, (r.set i (some (.l bb xs')))[j]? = some (some x) → x.own = true → ∃ x', r[j]? = some (some x') ∧ x'.own = true := fun {j x} e o => by
      rcases get_set_cases e with ⟨rfl, e⟩ | ⟨ne, q⟩
      · exact ⟨_, hi, rfl⟩
      · exact ⟨x, q, o⟩
    obtain ⟨x', e1', o1'⟩ := cv e1 o1
    obtain ⟨y', e2', o2'⟩ := cv e2 o2
    exact R.apart j k x' y' a e1' e2' o1' o2' s1 s2
end
section
variable {X : Cx} {a b c e : Expr} {f g : EM} {pos : Pos}
/-! ### own lists changed -/
def appM (i : Nat) (f : EM) : EM := fun r => (ownM i r).bind fun _ => (f r).bind fun p => match p.2[i]? with
  | some (some (.l b xs)) => if szOk xs.length then some (.none, p.2.set i (some (.l b (xs ++ [p.1])))) else none
  | _ => none
theorem se_app (i : Nat) {x : Str} {p apos cpos : Pos} (he : SE X e f) (hN : X.N[i]? = some x := by rfl) (hv : Vis X.env.scope x := by first | exact Or.inl rfl | exact Or.inr (Or.inl rfl) | exact Or.inr (Or.inr rfl)) (hd : (x == ("__debug__" : Str)) = false := by decide)
    (hcd : (x == ("__classdict__" : Str)) = false := by decide) (hb : attributeBase (.Name x p) "append" X.env (eval (.Name x p) X.env) = eval (.Name x p) X.env := by rfl)
    (hk : (((backTo cpos (starEach [e] X.env)).all (fun y => !y.1) && (backToKw cpos (keywordEach [] X.env)).all (fun y => y.1.isSome)) && decide (([e].length + ([] : List Keyword).length + if ([] : List Keyword).isEmpty then 0 else 1) < 30)) = true := by rfl)
    (hl : (apos.endLine == cpos.line) = true := by rfl) (hs : starEach [e] X.env = (false, eval e X.env) :: starEach [] X.env := by rfl) (hpl : (backTo cpos (starEach [] X.env)).any (·.1) = false := by rfl) :
    SE X (.Call (.Attribute (.Name x p) "append" apos) [e] [] cpos) (appM i f) :=
  ⟨pe_imp (pe_bm PySem.F.plainAttrs_list PySem.F.slot_list_append PySem.F.type_list_append mt_append (pe_var hN hv hd hcd) (pa_cons he.pe pa_nil hs) hb hk hl hs hpl) fun s H Q ⟨z, r, F, d, r', R, e, k⟩ => by
    unfold appM at e
    simp only [Option.bind_eq_some_iff] at e
    obtain ⟨⟨p0, r0⟩, e0, ⟨y, r1⟩, e1, e2⟩ := e
    obtain ⟨b0, xs0, f1, _, _⟩ := ownM_some e0
    obtain ⟨v, h1, p, vs, rfl, h2, h3, h4, h5, h6⟩ := R.slots i _ f1
    split at e2
    · rename_i bb xs hxs
      have hxs : r1[i]? = some (some (.l bb xs)) := hxs
      split at e2
      · rename_i hz
        cases e2
        refine ⟨_, h1, .inl ⟨rfl, _, .inl (.inl h2)⟩, z, r, F, y, r1, R, e1, fun w H2 F2 R2 sb2 dy => ?_⟩
        obtain ⟨v', h1', p', vs', rfl, h2', h3', h4', h5', h6'⟩ := R2.slots i _ hxs
        have ea : p' = p := by have := h1.symm.trans h1'; cases this; rfl
        subst ea
        exact ⟨p', vs', w, rfl, rfl, h2', by rw [dpa_len h5']; exact szOk_lt hz, k _ _ _ (R2.setOwn hxs h1' (dpa_app h5' (dpa_one dy))) sb2 .non⟩
      · cases e2
    · cases e2⟩
def extM (i : Nat) (f : EM) : EM := fun r => (ownM i r).bind fun _ => (f r).bind fun p => match p.2[i]?, p.1 with
  | some (some (.l b xs)), .list ys => if szOk (xs.length + ys.length) then some (.none, p.2.set i (some (.l b (xs ++ ys)))) else none
  | _, _ => none
theorem se_ext (i : Nat) {x : Str} {p apos cpos : Pos} (he : SE X e f) (hN : X.N[i]? = some x := by rfl) (hv : Vis X.env.scope x := by first | exact Or.inl rfl | exact Or.inr (Or.inl rfl) | exact Or.inr (Or.inr rfl)) (hd : (x == ("__debug__" : Str)) = false := by decide)
    (hcd : (x == ("__classdict__" : Str)) = false := by decide) (hb : attributeBase (.Name x p) "extend" X.env (eval (.Name x p) X.env) = eval (.Name x p) X.env := by rfl)
    (hk : (((backTo cpos (starEach [e] X.env)).all (fun y => !y.1) && (backToKw cpos (keywordEach [] X.env)).all (fun y => y.1.isSome)) && decide (([e].length + ([] : List Keyword).length + if ([] : List Keyword).isEmpty then 0 else 1) < 30)) = true := by rfl)
    (hl : (apos.endLine == cpos.line) = true := by rfl) (hs : starEach [e] X.env = (false, eval e X.env) :: starEach [] X.env := by rfl) (hpl : (backTo cpos (starEach [] X.env)).any (·.1) = false := by rfl) :
    SE X (.Call (.Attribute (.Name x p) "extend" apos) [e] [] cpos) (extM i f) :=
  ⟨pe_imp (pe_bm PySem.F.plainAttrs_list PySem.F.slot_list_extend PySem.F.type_list_extend mt_extendL (pe_var hN hv hd hcd) (pa_cons he.pe pa_nil hs) hb hk hl hs hpl) fun s H Q ⟨z, r, F, d, r', R, e, k⟩ => by
    unfold extM at e
    simp only [Option.bind_eq_some_iff] at e
    obtain ⟨⟨p0, r0⟩, e0, ⟨y, r1⟩, e1, e2⟩ := e
    obtain ⟨b0, xs0, f1, _, _⟩ := ownM_some e0
    obtain ⟨v, h1, p, vs, rfl, h2, h3, h4, h5, h6⟩ := R.slots i _ f1
    split at e2
    · rename_i bb xs ys hxs hys
      have hxs : r1[i]? = some (some (.l bb xs)) := hxs
      have hys : y = .list ys := hys
      subst hys
      split at e2
      · rename_i hz
        cases e2
        refine ⟨_, h1, .inl ⟨rfl, _, .inl (.inl h2)⟩, z, r, F, _, r1, R, e1, fun w H2 F2 R2 sb2 dy => ?_⟩
        obtain ⟨v', h1', p', vs', rfl, h2', h3', h4', h5', h6'⟩ := R2.slots i _ hxs
        have ea : p' = p := by have := h1.symm.trans h1'; cases this; rfl
        subst ea
        obtain ⟨_, _, rfl, q1, q2⟩ := dy.inv
        exact ⟨p', _, vs', _, rfl, rfl, h2', R2.fh.sql q1, by rw [dpa_len h5', dpa_len q2]; exact szOk_le hz, k _ _ _ (R2.setOwn hxs h1' (dpa_app h5' q2)) sb2 .non⟩
      · cases e2
    · cases e2⟩
theorem dpa_dropLast {K : PySem.W.Frag} {F : Hp} {vs : List V} {ds : List D} (h : DpAll K F vs ds) : DpAll K F vs.dropLast ds.dropLast := by
  rw [List.dropLast_eq_take, List.dropLast_eq_take, dpa_len h]
  exact dpa_take _ h
theorem dpa_erase {K : PySem.W.Frag} {F : Hp} : ∀ {vs : List V} {ds : List D} (i : Nat), DpAll K F vs ds → DpAll K F (vs.eraseIdx i) (ds.eraseIdx i)
  | _, _, _, .nil => .nil
  | _, _, 0, .cons _ t => t
  | _, _, i + 1, .cons a t => .cons a (dpa_erase i t)
/-- x.pop() -/
def popM (i : Nat) : EM := fun r => match r[i]? with
  | some (some (.l b xs)) => (xs[xs.length - 1]?).map fun d => (d, r.set i (some (.l b xs.dropLast)))
  | _ => none
theorem se_pop (i : Nat) {x : Str} {p apos cpos : Pos} (hN : X.N[i]? = some x := by rfl) (hv : Vis X.env.scope x := by first | exact Or.inl rfl | exact Or.inr (Or.inl rfl) | exact Or.inr (Or.inr rfl)) (hd : (x == ("__debug__" : Str)) = false := by decide)
    (hcd : (x == ("__classdict__" : Str)) = false := by decide) (hb : attributeBase (.Name x p) "pop" X.env (eval (.Name x p) X.env) = eval (.Name x p) X.env := by rfl) (hl : (apos.endLine == cpos.line) = true := by rfl) :
    SE X (.Call (.Attribute (.Name x p) "pop" apos) [] [] cpos) (popM i) :=
  ⟨pe_imp (pe_bm0 PySem.F.plainAttrs_list PySem.F.slot_list_pop PySem.F.type_list_pop mt_pop (pe_var hN hv hd hcd) hb hl) fun s H Q ⟨z, r, F, d, r', R, e, k⟩ => by
    unfold popM at e
    split at e
    · rename_i bb xs hxs
      simp only [Option.map_eq_some_iff] at e
      obtain ⟨y, e1, e2⟩ := e
      cases e2
      obtain ⟨v, h1, p, vs, rfl, h2, h3, h4, h5, h6⟩ := R.slots i _ hxs
      obtain ⟨w, hw, dw⟩ := dpa_get h5 e1
      rw [← dpa_len h5] at hw
      exact ⟨_, h1, .inl ⟨rfl, _, .inl (.inl h2)⟩, p, vs, w, rfl, rfl, h2, hw, k _ _ _ (R.setOwn hxs h1 (dpa_dropLast h5)) (.refl _) dw⟩
    · cases e⟩
/-- x.pop(e) -/
def popAtM (i : Nat) (f : EM) : EM := fun r => (ownM i r).bind fun _ => (f r).bind fun p => match p.2[i]?, p.1 with
  | some (some (.l b xs)), .int j => if 0 ≤ j ∧ j < 1000000 then (xs[j.toNat]?).map fun d => (d, p.2.set i (some (.l b (xs.eraseIdx j.toNat)))) else none
  | _, _ => none
theorem se_popAt (i : Nat) {x : Str} {p apos cpos : Pos} (he : SE X e f) (hN : X.N[i]? = some x := by rfl) (hv : Vis X.env.scope x := by first | exact Or.inl rfl | exact Or.inr (Or.inl rfl) | exact Or.inr (Or.inr rfl)) (hd : (x == ("__debug__" : Str)) = false := by decide)
    (hcd : (x == ("__classdict__" : Str)) = false := by decide) (hb : attributeBase (.Name x p) "pop" X.env (eval (.Name x p) X.env) = eval (.Name x p) X.env := by rfl)
    (hk : (((backTo cpos (starEach [e] X.env)).all (fun y => !y.1) && (backToKw cpos (keywordEach [] X.env)).all (fun y => y.1.isSome)) && decide (([e].length + ([] : List Keyword).length + if ([] : List Keyword).isEmpty then 0 else 1) < 30)) = true := by rfl)
    (hl : (apos.endLine == cpos.line) = true := by rfl) (hs : starEach [e] X.env = (false, eval e X.env) :: starEach [] X.env := by rfl) (hpl : (backTo cpos (starEach [] X.env)).any (·.1) = false := by rfl) :
    SE X (.Call (.Attribute (.Name x p) "pop" apos) [e] [] cpos) (popAtM i f) :=
  ⟨pe_imp (pe_bm PySem.F.plainAttrs_list PySem.F.slot_list_pop PySem.F.type_list_pop mt_popAt (pe_var hN hv hd hcd) (pa_cons he.pe pa_nil hs) hb hk hl hs hpl) fun s H Q ⟨z, r, F, d, r', R, e, k⟩ => by
    unfold popAtM at e
    simp only [Option.bind_eq_some_iff] at e
    obtain ⟨⟨p0, r0⟩, e0, ⟨y, r1⟩, e1, e2⟩ := e
    obtain ⟨b0, xs0, f1, _, _⟩ := ownM_some e0
    obtain ⟨v, h1, p, vs, rfl, h2, h3, h4, h5, h6⟩ := R.slots i _ f1
    split at e2
    · rename_i bb xs j hxs hys
      have hxs : r1[i]? = some (some (.l bb xs)) := hxs
      have hys : y = .int j := hys
      subst hys
      split at e2
      · rename_i hz
        simp only [Option.map_eq_some_iff] at e2
        obtain ⟨y, e3, e4⟩ := e2
        cases e4
        refine ⟨_, h1, .inl ⟨rfl, _, .inl (.inl h2)⟩, z, r, F, _, r1, R, e1, fun w H2 F2 R2 sb2 dy => ?_⟩
        obtain ⟨v', h1', p', vs', rfl, h2', h3', h4', h5', h6'⟩ := R2.slots i _ hxs
        have ea : p' = p := by have := h1.symm.trans h1'; cases this; rfl
        subst ea
        cases dy.inv
        obtain ⟨w, hw, dw⟩ := dpa_get h5' e3
        have hlt : j.toNat < vs'.length := (List.getElem?_eq_some_iff.mp hw).1
        have hix : ixN vs'.length j = some j.toNat := by
          unfold ixN
          rw [if_pos hz.1, if_pos (by omega)]
        exact ⟨p', vs', j, j.toNat, w, rfl, rfl, h2', by omega, by omega, (ixN_seq hix).1, hw, k _ _ _ (R2.setOwn hxs h1' (dpa_erase _ h5')) sb2 dw⟩
      · cases e2
    · cases e2⟩
end
end DL

namespace DL
open PySem L2 PyProof.Rows PySem.Spec
/-! ### defs: a def is a function of data -/
def spF (K : PySem.W.Frag) (n : Nat) (g : List D → Option D) : Sp := fun vs H Q _ => vs.length = n ∧ ∃ F ds d, SubH F H ∧ DpAll K F vs ds ∧ g ds = some d ∧ ∀ v H' F', Grow F H F' H' → Dp K F' v d → Q v H'
/-- one parameter (the j-th) is an own list of the caller's: it may be changed -/
def spR (K : PySem.W.Frag) (n j : Nat) (g : List D → List D → Option (D × List D)) : Sp := fun vs H Q _ => vs.length = n ∧ ∃ F ds a us xs d xs', SubH F H ∧ vs[j]? = some (.ref a) ∧ DpAll K F (vs.eraseIdx j) ds ∧ H a = some (.lst us) ∧ F a = none ∧ DpAll K F us xs ∧ g ds xs = some (d, xs') ∧
  ∀ v H' F' us', (∀ b o, b ≠ a → H b = some o → H' b = some o) → SubH F F' → SubH F' H' → (∀ b o, F' b = some o → F b = some o ∨ H b = none ∨ IsTu o) → H' a = some (.lst us') → DpAll K F' us' xs' → Dp K F' v d → Q v H'
def startD (N : List Str) (ds : List D) : Rho := ds.map (fun d => some (.d d)) ++ List.replicate (N.length - ds.length) none
/-- the slots at the entry, the j-th parameter an own list -/
def startR (N : List Str) (j : Nat) (ds : List D) (xs : List D) : Rho := (ds.take j).map (fun d => some (.d d)) ++ some (.l true xs) :: ((ds.drop j).map (fun d => some (.d d)) ++ List.replicate (N.length - (ds.length + 1)) none)
/-- a def's parameters are among its names -/
theorem names_fit {N ps : List Str} {sc : Scope} (S : FnScope N ps sc) : ps.length ≤ N.length :=
  S.pre ▸ List.length_take_le' ..
section
variable {P : Program} {w : World} {K : PySem.W.Frag} {mg : Str → Option Value} {base : Heap}
theorem startD_get {N : List Str} {ds : List D} {i : Nat} {sv : SV} (h : (startD N ds)[i]? = some (some sv)) : ∃ d, ds[i]? = some d ∧ sv = .d d := by
  unfold startD at h
  by_cases hi : i < ds.length
  · rw [List.getElem?_append_left (by simpa using hi), List.getElem?_map] at h
    cases e : ds[i]? with
    | none => rw [e] at h; cases h
    | some d => rw [e] at h; cases h; exact ⟨d, rfl, rfl⟩
  · rw [List.getElem?_append_right (by simpa using hi), List.getElem?_replicate] at h
    split at h <;> cases h
theorem rep_start {N : List Str} {F H : Hp} {vs : List V} {ds : List D} (sb : SubH F H) (h : DpAll K F vs ds) (hn : vs.length ≤ N.length) : Rep K ⟨H, F, none⟩ (startD N ds) (L2.start N vs) H F := by
  have hl := dpa_len h
  refine ⟨sb, .refl _, .refl _, fun _ _ q => .inl q, fun i sv e => ?_, fun i j x y a e1 e2 o1 => ?_, ?_⟩
  · obtain ⟨d, h1, rfl⟩ := startD_get e
    obtain ⟨v, h2, h3⟩ := dpa_get h h1
    refine ⟨v, ?_, h3⟩
    unfold L2.start
    have hi : i < vs.length := (List.getElem?_eq_some_iff.mp h2).1
    rw [List.getElem?_append_left (by simpa using hi), List.getElem?_map, h2]
    rfl
  · obtain ⟨d, _, rfl⟩ := startD_get e1
    cases o1
  · unfold startD L2.start
    simp only [List.length_append, List.length_map, List.length_replicate]
    omega
theorem fn_ok {x qual : Str} {st : Stmt} {f : Addr} {fd : FuncData} {N ps : List Str} {k : Nat} (F : Fun K x qual st f fd) (S : FnScope N ps (defScope st)) (g : List D → Option D) (body : SM)
    (hb : ∀ (cdv : Value) (A : Around) (outer : List Env) (s : Shared) (H : Hp) (E : XK), Room k (A.deeper (envOfC qual (defScope st) s.heap.objs.size f cdv)) →
      SSs (cxOf CX0 P w K mg base N qual (defScope st) f cdv A outer s H E).nox (fun _ _ => False) (defBody st) body)
    (hv : ∀ ds d, g ds = some d → (∃ r', body (startD N ds) = some (.rt d r')) ∨ (d = .none ∧ ∃ r', body (startD N ds) = some (.nx r'))) : FnOk P w K mg base CX0 (k + 1) f fd ps (spF K ps.length g) := by
  refine F.ok S (fun vs H Q E h => h.1) fun cdv A outer s H vs Q E hr h => ?_
  obtain ⟨hlen, F0, ds, d, sb, dv, e, q⟩ := h
  refine ⟨_, (hb cdv A outer s H E hr).ps, ?_⟩
  have hpl : ps.length ≤ N.length := names_fit S
  have R := rep_start (N := N) sb dv (by omega)
  have fin : ∀ {r' : Rho} {v : V} {s' : L2.St} {H' F' : Hp}, Rep K ⟨H, F0, none⟩ r' s' H' F' → Dp K F' v d → Q v H' := fun R' dd => q _ _ _ ⟨R'.f0, R'.old, R'.fh, R'.nw⟩ dd
  rcases hv ds d e with ⟨r', e2⟩ | ⟨rfl, r', e2⟩
  · exact ⟨⟨H, F0, none⟩, _, F0, _, R, e2, fun v s' H' F' R' _ dd => fin R' dd⟩
  · exact ⟨⟨H, F0, none⟩, _, F0, _, R, e2, fun s' H' F' R' _ => fin R' .non⟩
theorem startR_get {N : List Str} {ds xs : List D} {i j : Nat} {sv : SV} (hj : j ≤ ds.length) (h : (startR N j ds xs)[i]? = some (some sv)) : (i = j ∧ sv = .l true xs) ∨ (i < j ∧ ∃ d, ds[i]? = some d ∧ sv = .d d) ∨ (j < i ∧ ∃ d, ds[i - 1]? = some d ∧ sv = .d d) := by
  unfold startR at h
  have ht : ((ds.take j).map fun d => some (SV.d d)).length = j := by rw [List.length_map, List.length_take]; omega
  by_cases h1 : i < j
  · rw [List.getElem?_append_left (by omega), List.getElem?_map, List.getElem?_take_of_lt h1] at h
    cases e : ds[i]? with
    | none => rw [e] at h; cases h
    | some d => rw [e] at h; cases h; exact .inr (.inl ⟨h1, d, rfl, rfl⟩)
  · rw [List.getElem?_append_right (by omega), ht] at h
    by_cases h2 : i = j
    · subst h2
      simp at h
      exact .inl ⟨rfl, h.symm⟩
    · have h3 : i - j = (i - j - 1) + 1 := by omega
      rw [h3, List.getElem?_cons_succ] at h
      by_cases h4 : i - j - 1 < (ds.drop j).length
      · rw [List.getElem?_append_left (by simpa using h4), List.getElem?_map, List.getElem?_drop] at h
        have h5 : j + (i - j - 1) = i - 1 := by omega
        rw [h5] at h
        cases e : ds[i - 1]? with
        | none => rw [e] at h; cases h
        | some d => rw [e] at h; cases h; exact .inr (.inr ⟨by omega, d, rfl, rfl⟩)
      · rw [List.getElem?_append_right (by simpa using h4), List.getElem?_replicate] at h
        split at h <;> cases h
noncomputable def less (H : Hp) (a : Addr) : Hp := fun b => if b = a then none else H b
theorem less_same {H : Hp} {a : Addr} : less H a a = none := by unfold less; rw [if_pos rfl]
theorem less_ne {H : Hp} {a b : Addr} (h : b ≠ a) : less H a b = H b := by unfold less; rw [if_neg h]
theorem rep_startR {N : List Str} {F H : Hp} {vs us : List V} {ds xs : List D} {j : Nat} {a : Addr} (sb : SubH F H) (hj : vs[j]? = some (.ref a)) (h : DpAll K F (vs.eraseIdx j) ds) (hn : vs.length ≤ N.length) (ha : H a = some (.lst us)) (hf : F a = none) (hx : DpAll K F us xs) :
    Rep K ⟨less H a, F, some a⟩ (startR N j ds xs) (L2.start N vs) H F := by
  have hl := dpa_len h
  have hjl : j < vs.length := (List.getElem?_eq_some_iff.mp hj).1
  rw [List.length_eraseIdx_of_lt hjl] at hl
  have hjd : j ≤ ds.length := by omega
  have sg : ∀ {i : Nat} {v : V}, vs[i]? = some v → (L2.start N vs)[i]? = some (some v) := fun {i v} e => by
    unfold L2.start
    have hi : i < vs.length := (List.getElem?_eq_some_iff.mp e).1
    rw [List.getElem?_append_left (by simpa using hi), List.getElem?_map, e]
    rfl
  refine ⟨sb, fun b o q => ?_, .refl _, fun b o q => .inl q, fun i sv e => ?_, fun i k x y a' e1 e2 o1 o2 _ _ => ?_, ?_⟩
  · by_cases e : b = a
    · subst e
      have q : less H b b = some o := q
      rw [less_same] at q; cases q
    · have q : less H a b = some o := q
      rw [less_ne e] at q; exact q
  · rcases startR_get hjd e with ⟨rfl, rfl⟩ | ⟨h1, d, h2, rfl⟩ | ⟨h1, d, h2, rfl⟩
    · exact ⟨_, sg hj, a, us, rfl, ha, hf, less_same, hx, fun _ => rfl⟩
    · obtain ⟨v, h3, h4⟩ := dpa_get h h2
      rw [List.getElem?_eraseIdx_of_lt h1] at h3
      exact ⟨v, sg h3, h4⟩
    · obtain ⟨v, h3, h4⟩ := dpa_get h h2
      rw [List.getElem?_eraseIdx_of_ge (by omega)] at h3
      have : i - 1 + 1 = i := by omega
      rw [this] at h3
      exact ⟨v, sg h3, h4⟩
  · have ow : ∀ {i : Nat} {x : SV}, (startR N j ds xs)[i]? = some (some x) → x.own = true → i = j := fun {i x} e o => by
      rcases startR_get hjd e with ⟨rfl, rfl⟩ | ⟨h1, d, h2, rfl⟩ | ⟨h1, d, h2, rfl⟩
      · rfl
      · cases o
      · cases o
    rw [ow e1 o1, ow e2 o2]
  · unfold startR L2.start
    simp only [List.length_append, List.length_map, List.length_replicate, List.length_cons, List.length_take, List.length_drop]
    omega
/-- the own list's content at the end -/
def endR (j : Nat) (r : Rho) : Option (List D) := match r[j]? with
  | some (some (.l true xs)) => some xs
  | _ => none
theorem fn_okR {x qual : Str} {st : Stmt} {f : Addr} {fd : FuncData} {N ps : List Str} {k : Nat} (j : Nat) (F : Fun K x qual st f fd) (S : FnScope N ps (defScope st)) (g : List D → List D → Option (D × List D)) (body : SM)
    (hb : ∀ (cdv : Value) (A : Around) (outer : List Env) (s : Shared) (H : Hp) (E : XK), Room k (A.deeper (envOfC qual (defScope st) s.heap.objs.size f cdv)) →
      SSs (cxOf CX0 P w K mg base N qual (defScope st) f cdv A outer s H E).nox (fun _ _ => False) (defBody st) body)
    (hv : ∀ ds xs d xs', g ds xs = some (d, xs') → ∃ r', (body (startR N j ds xs) = some (.rt d r') ∨ (d = .none ∧ body (startR N j ds xs) = some (.nx r'))) ∧ endR j r' = some xs') : FnOk P w K mg base CX0 (k + 1) f fd ps (spR K ps.length j g) := by
  refine F.ok S (fun vs H Q E h => h.1) fun cdv A outer s H vs Q E hr h => ?_
  obtain ⟨hlen, F0, ds, a, us, xs, d, xs', sb, hj, dv, ha, hf, hx, e, q⟩ := h
  refine ⟨_, (hb cdv A outer s H E hr).ps, ?_⟩
  have hpl : ps.length ≤ N.length := names_fit S
  have R := rep_startR (N := N) sb hj dv (by omega) ha hf hx
  obtain ⟨r', e2, e3⟩ := hv ds xs d xs' e
  have fin : ∀ {v : V} {s' : L2.St} {H' F' : Hp}, Rep K ⟨less H a, F0, some a⟩ r' s' H' F' → Dp K F' v d → Q v H' := fun {v s' H' F'} R' dd => by
    unfold endR at e3
    split at e3
    · rename_i ys hy
      cases e3
      obtain ⟨v', h1, a', us', rfl, h2, h3, h4, h5, h6⟩ := R'.slots j _ hy
      have ea : a' = a := by have := h6 rfl; cases this; rfl
      subst ea
      refine q v H' F' us' (fun b o hb ho => R'.old b o ?_) R'.f0 R'.fh (fun b o hb => ?_) h2 h5 dd
      · show less H a' b = some o
        rw [less_ne hb]; exact ho
      · rcases R'.nw b o hb with h | h | h
        · exact .inl h
        · by_cases hba : b = a'
          · subst hba
            rw [h3] at hb; cases hb
          · have h : less H a' b = none := h
            rw [less_ne hba] at h; exact .inr (.inl h)
        · exact .inr (.inr h)
    · cases e3
  rcases e2 with e2 | ⟨rfl, e2⟩
  · exact ⟨_, _, F0, _, R, e2, fun v s' H' F' R' _ dd => fin R' dd⟩
  · exact ⟨_, _, F0, _, R, e2, fun s' H' F' R' _ => fin R' .non⟩
end
section
variable {X : Cx} {a b c e : Expr} {es : List Expr} {f : EM} {pos : Pos}
/-! ### calls -/
def callM (g : List D → Option D) (f : AM) : EM := fun r => (f r).bind fun p => (g p.1).map fun d => (d, p.2)
theorem se_call {k : Nat} {fa : Addr} {fd : FuncData} {ps : List Str} {g : List D → Option D} {x : Str} {p : Pos} {fs : AM} (G : FnOk X.prog X.w X.K X.mg X.base CX0 k fa fd ps (spF X.K ps.length g)) (hr : Room k X.A) (hg : Gl X x) (hm : X.mg x = some (.ref fa)) (hk : PySem.W.keepIn X.K (.ref fa) = true) (hb : Binds X.K fd ps [])
    (ha : SA X (e :: es) fs) (hps : ps.length = (e :: es).length) (hdb : (x == ("__debug__" : Str)) = false := by decide) (he : starEach (e :: es) X.env = (false, eval e X.env) :: starEach es X.env := by rfl) (hpl : (backTo pos (starEach es X.env)).any (·.1) = false := by rfl) :
    SE X (.Call (.Name x p) (e :: es) [] pos) (callM g fs) := ⟨pe_imp (pe_call G hr hg hm hk hb .nil pass0 ha.pa hdb he hpl) fun s H Q ⟨z, r, F, d, r', R, e, k⟩ => by
  unfold callM at e
  simp only [Option.bind_eq_some_iff, Option.map_eq_some_iff] at e
  obtain ⟨⟨ds, r1⟩, e1, d', e2, e3⟩ := e
  cases e3
  refine ⟨z, r, F, ds, _, R, e1, fun vs H1 F1 R1 sb dv => ?_⟩
  show spF X.K ps.length g (vs ++ []) H1 Q E0
  rw [List.append_nil]
  exact ⟨by rw [dpa_len dv, hps]; exact ha.len _ _ _ e1, F1, ds, d, R1.fh, dv, e2, fun v H' F' G dd => k v H' F' (R1.grow G) (sb.trans G.ff) dd⟩⟩
/-- arguments, the j-th the own list in slot i -/
def liftAr (K : PySem.W.Frag) (f : AM) (i j : Nat) : TA := fun s H Q => ∃ z r F ds r', Rep K z r s H F ∧ f r = some (ds, r') ∧
  ∀ vs H' F', Rep K z r' s H' F' → SubH F F' → (∃ a, s[i]? = some (some (V.ref a)) ∧ vs[j]? = some (V.ref a)) → DpAll K F' (vs.eraseIdx j) ds → Q vs H'
structure SAr (X : Cx) (es : List Expr) (f : AM) (i j : Nat) : Prop where
  pa : PA X es (liftAr X.K f i j)
  len : ∀ r ds r', f r = some (ds, r') → ds.length + 1 = es.length
  lt : j < es.length
def hereM (i : Nat) (f : AM) : AM := fun r => (ownM i r).bind fun _ => f r
theorem sar_here (i : Nat) {x : Str} {p : Pos} {f : AM} (hr : SA X es f) (hN : X.N[i]? = some x := by rfl) (hv : Vis X.env.scope x := by first | exact Or.inl rfl | exact Or.inr (Or.inl rfl) | exact Or.inr (Or.inr rfl)) (hd : (x == ("__debug__" : Str)) = false := by decide)
    (hcd : (x == ("__classdict__" : Str)) = false := by decide) (hs : starEach (.Name x p :: es) X.env = (false, eval (.Name x p) X.env) :: starEach es X.env := by rfl) : SAr X (.Name x p :: es) (hereM i f) i 0 :=
  ⟨pa_imp (pa_cons (pe_var hN hv hd hcd) hr.pa hs) fun s H Q ⟨z, r, F, d, r', R, e, k⟩ => by
    unfold hereM at e
    simp only [Option.bind_eq_some_iff] at e
    obtain ⟨⟨p0, r0⟩, e0, e1⟩ := e
    obtain ⟨bb, xs, f1, _, _⟩ := ownM_some e0
    obtain ⟨v, h1, a, vs, rfl, h2, h3, h4, h5, h6⟩ := R.slots i _ f1
    exact ⟨_, h1, z, r, F, d, r', R, e1, fun vs H' F' R' sb dv => k _ H' F' R' sb ⟨a, h1, rfl⟩ dv⟩, fun r ds r' e => by
    unfold hereM at e
    simp only [Option.bind_eq_some_iff] at e
    obtain ⟨_, _, e1⟩ := e
    rw [hr.len _ _ _ e1]; rfl, by simp⟩
theorem sar_there {i j : Nat} {g : AM} (ha : SE X e f) (hr : SAr X es g i j) (hs : starEach (e :: es) X.env = (false, eval e X.env) :: starEach es X.env := by rfl) : SAr X (e :: es) (consM f g) i (j + 1) :=
  ⟨pa_imp (pa_cons ha.pe hr.pa hs) fun s H Q ⟨z, r, F, d, r', R, e, k⟩ => by
    obtain ⟨x, r1, xs, e1, e2, rfl⟩ := consM_some e
    exact ⟨z, r, F, x, r1, R, e1, fun v H1 F1 R1 sb1 dv => ⟨z, r1, F1, xs, r', R1, e2, fun vs H2 F2 R2 sb2 ⟨a, q1, q2⟩ dvs => k (v :: vs) H2 F2 R2 (sb1.trans sb2) ⟨a, q1, by simpa using q2⟩ (.cons (dp_mono sb2 dv) dvs)⟩⟩, fun r ds r' e => by
    obtain ⟨x, r1, xs, e1, e2, rfl⟩ := consM_some e
    have := hr.len _ _ _ e2
    simp only [List.length_cons]; omega, by have := hr.lt; simp only [List.length_cons]; omega⟩
def callRM (i : Nat) (g : List D → List D → Option (D × List D)) (f : AM) : EM := fun r => (f r).bind fun p => match p.2[i]? with
  | some (some (.l b xs)) => (g p.1 xs).map fun q => (q.1, p.2.set i (some (.l b q.2)))
  | _ => none
theorem se_callR {k : Nat} {fa : Addr} {fd : FuncData} {ps : List Str} {i j : Nat} {g : List D → List D → Option (D × List D)} {x : Str} {p : Pos} {fs : AM} (G : FnOk X.prog X.w X.K X.mg X.base CX0 k fa fd ps (spR X.K ps.length j g)) (hr : Room k X.A) (hg : Gl X x) (hm : X.mg x = some (.ref fa)) (hk : PySem.W.keepIn X.K (.ref fa) = true) (hb : Binds X.K fd ps [])
    (ha : SAr X (e :: es) fs i j) (hps : ps.length = (e :: es).length) (hdb : (x == ("__debug__" : Str)) = false := by decide) (he : starEach (e :: es) X.env = (false, eval e X.env) :: starEach es X.env := by rfl) (hpl : (backTo pos (starEach es X.env)).any (·.1) = false := by rfl) :
    SE X (.Call (.Name x p) (e :: es) [] pos) (callRM i g fs) := ⟨pe_imp (pe_call G hr hg hm hk hb .nil pass0 ha.pa hdb he hpl) fun s H Q ⟨z, r, F, d, r', R, e, k⟩ => by
  unfold callRM at e
  simp only [Option.bind_eq_some_iff] at e
  obtain ⟨⟨ds, r1⟩, e1, e2⟩ := e
  split at e2
  · rename_i bb xs hxs
    have hxs : r1[i]? = some (some (.l bb xs)) := hxs
    simp only [Option.map_eq_some_iff] at e2
    obtain ⟨⟨d', xs'⟩, e3, e4⟩ := e2
    cases e4
    refine ⟨z, r, F, ds, _, R, e1, fun vs H1 F1 R1 sb ⟨a, q1, q2⟩ dv => ?_⟩
    show spR X.K ps.length j g (vs ++ []) H1 Q E0
    rw [List.append_nil]
    obtain ⟨v', h1', a', us, rfl, h2', h3', h4', h5', h6'⟩ := R1.slots i _ hxs
    have ea : a' = a := by have := q1.symm.trans h1'; cases this; rfl
    subst ea
    have hl := dpa_len dv
    have hlen := ha.len _ _ _ e1
    have hjl : j < vs.length := (List.getElem?_eq_some_iff.mp q2).1
    rw [List.length_eraseIdx_of_lt hjl] at hl
    refine ⟨by rw [hps]; omega, F1, ds, a', us, xs, d', xs', R1.fh, q2, dv, h2', h3', h5', e3, fun v H' F' us' keep ff fh nw ha' dus dd => k v H' F' ?_ (sb.trans ff) dd⟩
    have own : OwnAt r1 s a' := ⟨i, _, hxs, rfl, h1'⟩
    refine ⟨fh, fun b o q => ?_, R1.f0.trans ff, fun b o q => ?_, fun m sv q => ?_, fun m n x y c e1 e2 o1 o2 s1 s2 => ?_, by simpa using R1.len⟩
    · refine keep b o (fun e => ?_) (R1.old b o q)
      rw [e, h4'] at q; cases q
    · rcases nw b o q with h | h | h
      · exact R1.nw b o h
      · exact .inr (.inl (R1.old.none h))
      · exact .inr (.inr h)
    · rcases get_set_cases q with ⟨rfl, e⟩ | ⟨ne, q⟩
      · cases e
        refine ⟨_, h1', a', us', rfl, ha', ?_, h4', dus, h6'⟩
        cases qq : F' a' with
        | none => rfl
        | some o =>
          rcases nw a' o qq with h | h | ⟨ws, rfl⟩
          · rw [h3'] at h; cases h
          · rw [h2'] at h; cases h
          · have q2 := fh a' _ qq
            rw [ha'] at q2; cases q2
      · obtain ⟨v2, q1', q2'⟩ := R1.slots m sv q
        refine ⟨v2, q1', q2'.mono ff (fun a2 e hown u hu => ?_) fun a2 o ho hf _ hown e => ?_⟩
        · refine keep a2 u (fun z => ne (R1.apart m i sv _ a' q hxs hown rfl (by rw [q1', e, z]) h1')) hu
        · cases qq : F' a2 with
          | none => rfl
          | some o2 =>
            rcases nw a2 o2 qq with h | h | ⟨ws, rfl⟩
            · rw [hf] at h; cases h
            · rw [ho] at h; cases h
            · have q2 := fh a2 _ qq
              rw [keep a2 o (fun z => ne (R1.apart m i sv _ a' q hxs hown rfl (by rw [q1', e, z]) h1')) ho] at q2; cases q2
              exact absurd ⟨_, ho⟩ (q2'.noTup hown e)
    · have cv : ∀ {m : Nat} {x : SV}, (r1.set i (some (.l bb xs')))[m]? = some (some x) → x.own = true → ∃ x', r1[m]? = some (some x') ∧ x'.own = true := fun {m x} e o => by
        rcases get_set_cases e with ⟨rfl, e⟩ | ⟨ne, q⟩
        · exact ⟨_, hxs, rfl⟩
        · exact ⟨x, q, o⟩
      obtain ⟨x', e1', o1'⟩ := cv e1 o1
      obtain ⟨y', e2', o2'⟩ := cv e2 o2
      exact R1.apart m n x' y' c e1' e2' o1' o2' s1 s2
  · cases e2⟩
end
end DL

namespace DL
open PySem L2 PyProof.Rows PySem.Spec PySem.W
/-! ### sorted -/
def tupCons : D → Bool
  | .tuple (_ :: _) => true
  | _ => false
def nonTup : D → Bool
  | .none => false
  | .tuple _ => false
  | _ => true
def sortOk (ds : List D) : Bool := (ds.all fun d => ds.all fun e => alike d e) && (ds.all tupCons || ds.all nonTup) && szOk ds.length && ds.all fun d => decide (d.depth ≤ 60)
def sortL (ds : List D) : List D := ds.mergeSort (dataLe false id)
theorem sortOk_facts {ds : List D} (h : sortOk ds = true) : AllAlike (ds.map id) ∧ Sortable (ds.map id) ∧ ds.length ≤ sizeLine ∧ ∀ d ∈ ds, d.depth ≤ 60 := by
  unfold sortOk at h
  simp only [Bool.and_eq_true, List.all_eq_true, Bool.or_eq_true, decide_eq_true_eq] at h
  obtain ⟨⟨⟨h1, h2⟩, h3⟩, h4⟩ := h
  rw [List.map_id]
  refine ⟨fun d hd e he => h1 d hd e he, ?_, szOk_le h3, h4⟩
  rcases h2 with h2 | h2
  · left
    intro d hd
    have := h2 d hd
    unfold tupCons at this
    split at this
    · exact ⟨_, _, rfl⟩
    · cases this
  · right
    intro d hd
    have := h2 d hd
    unfold nonTup at this
    split at this
    · cases this
    · cases this
    · rename_i n1 n2
      exact ⟨fun e => n1 e, fun xs e => n2 xs e⟩
section
variable {X : Cx}
theorem each_of {K : PySem.W.Frag} {F : Hp} : ∀ {vs : List V} {us : List Value} {ds : List D}, Vals vs us → DpAll K F vs ds → EachIs (fun u d => ∃ x, RelV x u ∧ Dp K F x d) us ds
  | _, _, _, .nil, .nil => .nil
  | _, _, _, .cons r rs, .cons d ds => .cons ⟨_, r, d⟩ (each_of rs ds)
theorem of_each {K : PySem.W.Frag} {F : Hp} : ∀ {us : List Value} {ds : List D}, EachIs (fun u d => ∃ x, RelV x u ∧ Dp K F x d) us ds → ∃ vs, Vals vs us ∧ DpAll K F vs ds
  | _, _, .nil => ⟨[], .nil, .nil⟩
  | _, _, .cons ⟨x, r, d⟩ t => by
    obtain ⟨vs, h1, h2⟩ := of_each t
    exact ⟨x :: vs, .cons r h1, .cons d h2⟩
theorem each_len {α β : Type} {R : α → β → Prop} : ∀ {as : List α} {bs : List β}, EachIs R as bs → as.length = bs.length
  | _, _, .nil => rfl
  | _, _, .cons _ t => by simp [each_len t]
theorem each_reads {pins : List (Addr × Obj)} {σ : L2.St} {H F : Hp} {s : Shared} (I : L2.Inv X pins σ H s) (sb : SubH F H) : ∀ {vs : List V} {us : List Value} {ds : List D}, Vals vs us → DpAll X.K F vs ds → EachIs (fun v b => ∃ as, Reads s.heap v b as) us ds
  | _, _, _, .nil, .nil => .nil
  | _, _, _, .cons r1 rs, .cons d1 d2 => .cons (L2.Dp.reads I _ _ _ (dp_old (dp_mono sb d1)) r1) (each_reads I sb rs d2)
def sortD : D → Option D
  | .list ds => if sortOk ds then some (.list (sortL ds)) else none
  | _ => none
theorem cr_sortD (hu : X.A.units + 100 < cLine) : CallR X (.builtin "sorted") (liftC1 X.K sortD) := by
  intro pins s σ H vs us Q I r h
  obtain ⟨F, x, d, o, rfl, sb, dx, eo, k⟩ := h
  unfold sortD at eo
  split at eo
  · split at eo
    · rename_i ds ok
      cases eo
      obtain ⟨a, vs, rfl, h1, h2⟩ := dv_lst sb dx
      obtain ⟨u, rfl, ru⟩ := vals1 r
      obtain rfl : u = Value.ref a := ru
      obtain ⟨its, rv, hl, hz⟩ := I.list h1
      obtain ⟨hal, hso, hL, hdp⟩ := sortOk_facts ok
      refine sorted_data (enc := id) (R := fun u d => ∃ x, RelV x u ∧ Dp X.K F x d) hl.isList (each_of rv h2) (each_reads I sb rv h2) hal hso hL (fun b hb => ?_) fun out hol he => ?_
      · have := hdp b hb
        simp only [id]
        omega
      · obtain ⟨ws, r1, d1⟩ := of_each he
        have hwl : ws.length = ds.length := by
          have q1 := r1.length
          omega
        obtain ⟨n, e2⟩ := sortedAll_at s.heap its (List.toArray out)
        have hfr : H (s.heap.objs.size + 1) = none := I.hok.fresh (Nat.le_succ _)
        obtain ⟨G, q⟩ := new_lst sb hfr d1
        refine ⟨.ref (s.heap.objs.size + 1), upd H (s.heap.objs.size + 1) (.lst ws), ?_, rfl, k _ _ _ G q⟩
        refine I.laid (t' := s.toks) (fun b ob e => sortedAll_old e) (Nat.le_succ _) ⟨by rw [hwl]; exact hL, out, n, r1, ?_⟩
        exact e2
    · cases eo
  · cases eo
end
end DL

namespace DL
open PySem L2 PyProof.Rows PySem.Spec PySem.W
/-! ### own dicts -/
def keyOf : D → Option Key
  | .int i => some (.inl i)
  | .str x => some (.inr x)
  | _ => none
def keysOf : List D → Option (List Key)
  | [] => some []
  | d :: ds => (keyOf d).bind fun k => (keysOf ds).map (k :: ·)
def dkOf (t : Bool) (d : D) : Option DK := if t then (match d with
  | .tuple ds => (keysOf ds).map .inr
  | _ => none) else (keyOf d).map .inl
def dkD : DK → D
  | .inl k => keyD k
  | .inr ks => .tuple (ks.map keyD)
/-- a value put under a key: where the key stands, or behind all -/
def putG {α β : Type} [DecidableEq α] (kvs : List (α × β)) (k : α) (v : β) : List (α × β) :=
  if k ∈ kvs.map Prod.fst then kvs.map (fun kv => (kv.1, if kv.1 = k then v else kv.2)) else kvs ++ [(k, v)]
def getG {α β : Type} [DecidableEq α] (kvs : List (α × β)) (k : α) : Option β := (kvs.find? fun kv => decide (kv.1 = k)).map (·.2)
theorem keyOf_rel {K : PySem.W.Frag} {F : Hp} {v : V} {d : D} {k : Key} (x : Dp K F v d) (h : keyOf d = some k) : v = kV k := by
  unfold keyOf at h
  split at h
  · cases h; exact x.inv
  · cases h; exact x.inv
  · cases h
theorem keysOf_rel {K : PySem.W.Frag} {F : Hp} : ∀ {vs : List V} {ds : List D} {ks : List Key}, DpAll K F vs ds → keysOf ds = some ks → vs = ks.map kV
  | _, [], _, .nil, h => by cases h; rfl
  | _, d :: ds, ks, .cons x t, h => by
    simp only [keysOf, Option.bind_eq_some_iff, Option.map_eq_some_iff] at h
    obtain ⟨k, h1, ks', h2, rfl⟩ := h
    rw [keyOf_rel x h1, keysOf_rel t h2]; rfl
theorem kD_dp {K : PySem.W.Frag} {F : Hp} (k : Key) : Dp K F (kV k) (keyD k) := by
  cases k with
  | inl i => exact .int i
  | inr x => exact .str x
theorem kDs_dp {K : PySem.W.Frag} {F : Hp} : ∀ ks : List Key, DpAll K F (ks.map kV) (ks.map keyD)
  | [] => .nil
  | k :: ks => .cons (kD_dp k) (kDs_dp ks)
section
variable {K : PySem.W.Frag} {z : Fx} {r : Rho} {s : L2.St} {H F : Hp}
theorem paired_keys {α : Type} {g : α → DK} : ∀ {ks : List (α × V)} {kvs : List (DK × D)}, Paired (fun (p : α × V) (q : DK × D) => q.1 = g p.1 ∧ Dp K F p.2 q.2) ks kvs → kvs.map Prod.fst = ks.map fun p => g p.1
  | _, _, .nil => rfl
  | _, _, .cons ⟨e, _⟩ t => by rw [List.map_cons, List.map_cons, paired_keys t, e]
theorem paired_map {α : Type} [DecidableEq α] {g : α → DK} (hg : ∀ x y, g x = g y → x = y) {k : α} {v : V} {d : D} (hv : Dp K F v d) : ∀ {ks : List (α × V)} {kvs : List (DK × D)}, Paired (fun (p : α × V) (q : DK × D) => q.1 = g p.1 ∧ Dp K F p.2 q.2) ks kvs →
    Paired (fun (p : α × V) (q : DK × D) => q.1 = g p.1 ∧ Dp K F p.2 q.2) (ks.map fun kv => if kv.1 = k then (kv.1, v) else kv) (kvs.map fun kv => (kv.1, if kv.1 = g k then d else kv.2))
  | _, _, .nil => .nil
  | _, _, .cons (a := p) (b := q) ⟨e, e2⟩ t => by
    refine .cons ?_ (paired_map hg hv t)
    dsimp only
    by_cases h : p.1 = k
    · rw [if_pos h, if_pos (e.trans (congrArg g h))]; exact ⟨e, hv⟩
    · rw [if_neg h, if_neg fun q => h (hg _ _ (e.symm.trans q))]; exact ⟨e, e2⟩
theorem paired_app {α β : Type} {R : α → β → Prop} : ∀ {as bs : List α} {cs ds : List β}, Paired R as cs → Paired R bs ds → Paired R (as ++ bs) (cs ++ ds)
  | _, _, _, _, .nil, h => h
  | _, _, _, _, .cons a t, h => .cons a (paired_app t h)
theorem paired_put {α : Type} [DecidableEq α] {g : α → DK} (hg : ∀ x y, g x = g y → x = y) {k : α} {v : V} {d : D} (hv : Dp K F v d) {ks : List (α × V)} {kvs : List (DK × D)} (h : Paired (fun (p : α × V) (q : DK × D) => q.1 = g p.1 ∧ Dp K F p.2 q.2) ks kvs) :
    Paired (fun (p : α × V) (q : DK × D) => q.1 = g p.1 ∧ Dp K F p.2 q.2) (putK ks k v) (putG kvs (g k) d) := by
  have same : g k ∈ kvs.map Prod.fst ↔ (ks.any fun kv => decide (kv.1 = k)) = true := by
    rw [paired_keys h, List.mem_map, List.any_eq_true]
    exact ⟨fun ⟨p, m, e⟩ => ⟨p, m, decide_eq_true (hg _ _ e)⟩, fun ⟨p, m, e⟩ => ⟨p, m, congrArg g (of_decide_eq_true e)⟩⟩
  unfold putK putG
  by_cases there : g k ∈ kvs.map Prod.fst
  · rw [if_pos there, if_pos (same.mp there)]; exact paired_map hg hv h
  · rw [if_neg there, if_neg fun q => there (same.mpr q)]; exact paired_app h (.cons ⟨rfl, hv⟩ .nil)
theorem paired_get {α : Type} [DecidableEq α] {g : α → DK} (hg : ∀ x y, g x = g y → x = y) {k : α} : ∀ {ks : List (α × V)} {kvs : List (DK × D)}, Paired (fun (p : α × V) (q : DK × D) => q.1 = g p.1 ∧ Dp K F p.2 q.2) ks kvs →
    (valV ks k = none ∧ getG kvs (g k) = none) ∨ ∃ v d, valV ks k = some v ∧ getG kvs (g k) = some d ∧ Dp K F v d
  | _, _, .nil => .inl ⟨rfl, rfl⟩
  | _, _, .cons (a := p) (b := q) ⟨e, e2⟩ t => by
    unfold valV getG
    by_cases h : p.1 = k
    · right
      refine ⟨p.2, q.2, ?_, ?_, e2⟩
      · simp [List.find?_cons, h]
      · simp [List.find?_cons, e, h]
    · have h' : ¬ q.1 = g k := by rw [e]; exact fun q => h (hg _ _ q)
      rcases paired_get hg t (k := k) with ⟨h1, h2⟩ | ⟨v, d, h1, h2, h3⟩
      · left
        unfold valV at h1; unfold getG at h2
        exact ⟨by simpa [List.find?_cons, h] using h1, by simpa [List.find?_cons, h'] using h2⟩
      · right
        unfold valV at h1; unfold getG at h2
        exact ⟨v, d, by simpa [List.find?_cons, h] using h1, by simpa [List.find?_cons, h'] using h2, h3⟩
theorem paired_len {α β : Type} {R : α → β → Prop} : ∀ {as : List α} {bs : List β}, Paired R as bs → as.length = bs.length
  | _, _, .nil => rfl
  | _, _, .cons _ t => by simp [paired_len t]
/-- an own dict takes another content -/
theorem Rep.setDict (R : Rep K z r s H F) {i : Nat} {p : Addr} {bb t t' : Bool} {kvs kvs' : List (DK × D)} {o : HO} (hi : r[i]? = some (some (.m bb t kvs))) (hs : s[i]? = some (some (.ref p))) (hd : DicOk K F (upd H p o) p t' kvs') : Rep K z (r.set i (some (.m bb t' kvs'))) s (upd H p o) F := by
  have hrf : bb = true → z.rf = some p := by
    obtain ⟨v, h1, p', e, _, _, _, h6⟩ := R.slots i _ hi
    subst e
    rw [hs] at h1; cases h1; exact h6
  have own : OwnAt r s p := ⟨i, _, hi, rfl, hs⟩
  obtain ⟨_, hf, h0⟩ := R.own_facts own
  refine ⟨fun b u q => ?_, fun b u q => ?_, R.f0, R.nw, fun j sv q => ?_, fun j k x y a e1 e2 o1 o2 s1 s2 => ?_, by simpa using R.len⟩
  · have : b ≠ p := fun e => by rw [e, hf] at q; cases q
    rw [upd_ne this]; exact R.fh b u q
  · have : b ≠ p := fun e => by rw [e, h0] at q; cases q
    rw [upd_ne this]; exact R.old b u q
  · rcases get_set_cases q with ⟨rfl, e⟩ | ⟨ne, q⟩
    · cases e
      exact ⟨_, hs, p, rfl, hf, h0, hd, hrf⟩
    · obtain ⟨v, q1, q2⟩ := R.slots j sv q
      refine ⟨v, q1, q2.mono (.refl _) (fun a e hown u hu => ?_) fun a _ _ hf' _ _ _ => hf'⟩
      have : a ≠ p := fun z => ne (R.apart j i sv _ p q hi hown rfl (by rw [q1, e, z]) hs)
      rw [upd_ne this]; exact hu
  · have cv : ∀ {j : Nat} {x : SV}, (r.set i (some (.m bb t' kvs')))[j]? = some (some x) → x.own = true → ∃ x', r[j]? = some (some x') ∧ x'.own = true := fun {j x} e o => by
      rcases get_set_cases e with ⟨rfl, e⟩ | ⟨ne, q⟩
      · exact ⟨_, hi, rfl⟩
      · exact ⟨x, q, o⟩
    obtain ⟨x', e1', o1'⟩ := cv e1 o1
    obtain ⟨y', e2', o2'⟩ := cv e2 o2
    exact R.apart j k x' y' a e1' e2' o1' o2' s1 s2
/-- a new own dict -/
theorem Rep.putDict (R : Rep K z r s H F) {i : Nat} {p : Addr} {t : Bool} {o : HO} {kvs : List (DK × D)} (hp : H p = none) (hd : DicOk K F (upd H p o) p t kvs) : Rep K z (r.set i (some (.m false t kvs))) (s.set i (some (.ref p))) (upd H p o) F := by
  have R1 := R.grow (Grow.loose (o := o) R.fh hp)
  have ho : ¬ OwnAt r s p := fun q => by
    obtain ⟨⟨o, ho⟩, _⟩ := R.own_facts q
    rw [hp] at ho; cases ho
  refine ⟨R1.fh, R1.old, R1.f0, R1.nw, fun j sv e => ?_, fun j k x y a e1 e2 o1 o2 s1 s2 => ?_, by simpa using R.len⟩
  · have hj : j < r.length := by
      have q : j < (r.set i (some (SV.m false t kvs))).length := (List.getElem?_eq_some_iff.mp e).1
      simpa using q
    rcases get_set_cases e with ⟨rfl, e2⟩ | ⟨ne, e⟩
    · cases e2
      exact ⟨_, by rw [List.getElem?_set_self (by rw [← R.len]; exact hj)], p, rfl, R.fh.none hp, R.old.none hp, hd, fun q => nomatch q⟩
    · obtain ⟨w, h1, h2⟩ := R1.slots j sv e
      exact ⟨w, by rw [List.getElem?_set_ne (Ne.symm ne)]; exact h1, h2⟩
  · rcases get_set_cases e1 with ⟨h1, e1'⟩ | ⟨n1, e1'⟩ <;> rcases get_set_cases e2 with ⟨h2, e2'⟩ | ⟨n2, e2'⟩
    · rw [h1, h2]
    · exfalso
      rw [List.getElem?_set_ne (Ne.symm n2)] at s2
      rw [h1] at s1
      have : a = p := by
        rcases get_set_cases s1 with ⟨_, q⟩ | ⟨n, _⟩
        · cases q; rfl
        · exact absurd rfl n
      subst this
      exact ho ⟨k, y, e2', o2, s2⟩
    · exfalso
      rw [List.getElem?_set_ne (Ne.symm n1)] at s1
      rw [h2] at s2
      have : a = p := by
        rcases get_set_cases s2 with ⟨_, q⟩ | ⟨n, _⟩
        · cases q; rfl
        · exact absurd rfl n
      subst this
      exact ho ⟨j, x, e1', o1, s1⟩
    · rw [List.getElem?_set_ne (Ne.symm n1)] at s1
      rw [List.getElem?_set_ne (Ne.symm n2)] at s2
      exact R.apart j k x y a e1' e2' o1 o2 s1 s2
end
theorem paired_mem2 {α β : Type} {R : α → β → Prop} : ∀ {as : List α} {bs : List β} {b : β}, Paired R as bs → b ∈ bs → ∃ a, a ∈ as ∧ R a b
  | _, _, _, .nil, h => nomatch h
  | _, _, b, .cons (a := a) r t, h => by
    rcases List.mem_cons.mp h with e | h
    · subst e; exact ⟨a, by simp, r⟩
    · obtain ⟨a', h1, h2⟩ := paired_mem2 t h
      exact ⟨a', by simp [h1], h2⟩
theorem dk_map {K : PySem.W.Frag} {F : Hp} : ∀ {ks : List (List Key × V)} {kvs : List (DK × D)}, Paired (fun (p : List Key × V) (q : DK × D) => q.1 = .inr p.1 ∧ Dp K F p.2 q.2) ks kvs → (kvs.map fun kv => dkD kv.1) = ks.map fun kv => dkD (.inr kv.1)
  | _, _, .nil => rfl
  | _, _, .cons ⟨e, _⟩ t => by rw [List.map_cons, List.map_cons, dk_map t, e]
theorem dqs_of {K : PySem.W.Frag} {H F1 : Hp} : ∀ {kvs : List (List Key × V)} {ks : List (List Key × Addr × Value)}, Paired (fun (p : List Key × V) (q : List Key × Addr × Value) => p.1 = q.1 ∧ H q.2.1 = some (.tup (p.1.map kV)) ∧ RelV p.2 q.2.2) kvs ks → (∀ x ∈ ks, F1 x.2.1 = H x.2.1) →
    DpAll K F1 ((ks.map fun x => x.2.1).map V.ref) (kvs.map fun kv => dkD (.inr kv.1))
  | _, _, .nil, _ => .nil
  | _, _, .cons ⟨e, h1, _⟩ t, h => .cons (.tup (by rw [h _ (by simp)]; exact h1) (kDs_dp _)) (dqs_of t fun x hx => h x (by simp [hx]))
mutual
theorem reads_lt {h : Heap} : ∀ (d : PyData) (v : Value) (as : List Addr), alike d d = true → Reads h v d as → ∀ a ∈ as, a < h.objs.size
  | .none, _, _, _, .none, a, hm => nomatch hm
  | .bool _, _, _, _, .bool _, a, hm => nomatch hm
  | .int _, _, _, _, .int _ _, a, hm => nomatch hm
  | .str _, _, _, _, .str _ _, a, hm => nomatch hm
  | .list xs, _, _, al, .list h1 _ _ h4, a, hm => by
    rcases List.mem_cons.mp hm with e | hm
    · subst e; exact Heap.lt_size h1
    · exact reads_ltAll xs _ _ (by simpa [alike] using al) h4 a hm
  | .tuple xs, _, _, al, .tuple h1 _ _ h4, a, hm => reads_ltAll xs _ _ (by simpa [alike] using al) h4 a hm
  | .dict kvs, _, _, al, _, a, hm => by simp [alike] at al
theorem reads_ltAll {h : Heap} : ∀ (ds : List PyData) (vs : List Value) (as : List Addr), alikeAll ds ds = true → ReadsAll h vs ds as → ∀ a ∈ as, a < h.objs.size
  | [], _, _, _, .nil, a, hm => nomatch hm
  | d :: ds, _, _, al, .cons h1 h2, a, hm => by
    obtain ⟨a1, a2⟩ := alike_all_cons al
    rcases List.mem_append.mp hm with hm | hm
    · exact reads_lt d _ _ a1 h1 a hm
    · exact reads_ltAll ds _ _ a2 h2 a hm
end
theorem each_and {α β : Type} {R : α → β → Prop} : ∀ {as : List α} {bs : List β}, EachIs R as bs → EachIs (fun a b => R a b ∧ b ∈ bs) as bs := each_mem
section
variable {X : Cx} {W : String → Hp → Prop} {a b c e : Expr} {f g : EM} {pos : Pos}
def newDM (i : Nat) (t : Bool) : SM := fun r => some (.nx (r.set i (some (.m false t []))))
theorem ss_newD (i : Nat) (t : Bool) {x : Str} {pos' dpos : Pos} (hN : X.N.Nodup) (hi : X.N[i]? = some x := by rfl) (hx : Loc X.env.scope x := by first | exact Or.inl rfl | exact Or.inr rfl) (hs : swapsWith (.Dict [] [] dpos) (some (.Name x pos')) pos.line X.env = pure false := by rfl) (hf : X.fn x = true ∨ X.env.scope.names.lookup x = some .local := by first | exact .inl rfl | exact .inr rfl | assumption) :
    SS X W (.Assign [.Name x pos'] (.Dict [] [] dpos) pos) (newDM i t) := by
  cases t with
  | true =>
    exact ⟨ps_imp (ps_set hN hi hx pe_dnewT hs hf) fun D s H ⟨z, r, F, o, R, e, k⟩ => by
      cases e
      intro p hp
      exact k _ _ F (R.putDict hp (.inr ⟨rfl, [], upd_same, .nil⟩)) (.refl _)⟩
  | false =>
    exact ⟨ps_imp (ps_set hN hi hx pe_dnewK hs hf) fun D s H ⟨z, r, F, o, R, e, k⟩ => by
      cases e
      intro p hp
      exact k _ _ F (R.putDict hp (.inl ⟨rfl, [], upd_same, .nil⟩)) (.refl _)⟩
/-- d[k] = v: the value, the dict, the key -/
def putM (i : Nat) (fk fv : EM) : SM := fun r => (fv r).bind fun p => match p.2[i]? with
  | some (some (.m _ _ _)) => (fk p.2).bind fun q => (match q.2[i]? with
    | some (some (.m b t kvs)) => (dkOf t q.1).bind fun k => if szOk kvs.length then some (.nx (q.2.set i (some (.m b t (putG kvs k p.1))))) else none
    | _ => none)
  | _ => none
theorem ss_put (i : Nat) {x : Str} {p pos' : Pos} {ie value : Expr} {fk fv : EM} (hu : X.A.units + 1 < cLine) (hk : SE X ie fk) (hvv : SE X value fv) (hN : X.N[i]? = some x := by rfl) (hv : Vis X.env.scope x := by first | exact Or.inl rfl | exact Or.inr (Or.inl rfl) | exact Or.inr (Or.inr rfl)) (hd : (x == ("__debug__" : Str)) = false := by decide)
    (hcd : (x == ("__classdict__" : Str)) = false := by decide) (hs : swapsWith value (some (.Subscript (.Name x p) ie pos')) pos.line X.env = pure false := by rfl) :
    SS X W (.Assign [.Subscript (.Name x p) ie pos'] value pos) (putM i fk fv) := ⟨ps_imp (ps_dput hu (pe_var hN hv hd hcd) hk.pe hvv.pe hs) fun D s H ⟨z, r, F, o, R, e, k⟩ => by
  unfold putM at e
  simp only [Option.bind_eq_some_iff] at e
  obtain ⟨⟨v, r1⟩, e1, e2⟩ := e
  split at e2
  · rename_i b0 t0 kvs0 h0
    have h0 : r1[i]? = some (some (.m b0 t0 kvs0)) := h0
    simp only [Option.bind_eq_some_iff] at e2
    obtain ⟨⟨kd, r2⟩, e3, e4⟩ := e2
    split at e4
    · rename_i b1 t1 kvs1 h1
      have h1 : r2[i]? = some (some (.m b1 t1 kvs1)) := h1
      simp only [Option.bind_eq_some_iff] at e4
      obtain ⟨key, e5, e6⟩ := e4
      split at e6
      · rename_i hz
        cases e6
        refine ⟨z, r, F, v, r1, R, e1, fun w H1 F1 R1 sb1 dw => ?_⟩
        obtain ⟨v0, q1, p0, rfl, q2, q3, q4, q5⟩ := R1.slots i _ h0
        refine ⟨_, q1, z, r1, F1, kd, r2, R1, e3, fun y H2 F2 R2 sb2 dk => ?_⟩
        obtain ⟨v1, w1, p1, rfl, w2, w3, w4, w5⟩ := R2.slots i _ h1
        have ea : p1 = p0 := by have := q1.symm.trans w1; cases this; rfl
        subst ea
        have dw' := dp_mono sb2 dw
        rcases w4 with ⟨rfl, ks, hk1, hk2⟩ | ⟨rfl, ks, hk1, hk2⟩
        · simp only [dkOf, Bool.false_eq_true, if_false, Option.map_eq_some_iff] at e5
          obtain ⟨kk, ek, rfl⟩ := e5
          cases keyOf_rel dk ek
          have hl := paired_len hk2
          refine ⟨p1, _, rfl, DPut.k hk1 (by rw [hl]; exact szOk_lt hz), k _ _ F2 (R2.setDict h1 w1 (.inl ⟨rfl, _, upd_same, paired_put (g := Sum.inl) (fun _ _ h => Sum.inl.inj h) dw' hk2⟩)) (sb1.trans sb2)⟩
        · simp only [dkOf, if_true] at e5
          split at e5
          · simp only [Option.map_eq_some_iff] at e5
            obtain ⟨kk, ek, rfl⟩ := e5
            obtain ⟨_, _, rfl, t1, t2⟩ := dk.inv
            cases keysOf_rel t2 ek
            have hl := paired_len hk2
            refine ⟨p1, _, rfl, DPut.t hk1 (R2.fh _ _ t1) (by rw [hl]; exact szOk_lt hz), k _ _ F2 (R2.setDict h1 w1 (.inr ⟨rfl, _, upd_same, paired_put (g := Sum.inr) (fun _ _ h => Sum.inr.inj h) dw' hk2⟩)) (sb1.trans sb2)⟩
          · cases e5
      · cases e6
    · cases e4
  · cases e2⟩
/-- len(d) -/
def lenDM (i : Nat) : EM := fun r => match r[i]? with
  | some (some (.m _ true kvs)) => some (.int kvs.length, r)
  | _ => none
theorem se_lenD (i : Nat) {x : Str} {p p1 : Pos} (hg : Gl X "len") (hm : X.mg "len" = none) (hN : X.N[i]? = some x := by rfl) (hv : Vis X.env.scope x := by first | exact Or.inl rfl | exact Or.inr (Or.inl rfl) | exact Or.inr (Or.inr rfl)) (hd : (x == ("__debug__" : Str)) = false := by decide)
    (hcd : (x == ("__classdict__" : Str)) = false := by decide) (he : starEach [.Name x p] X.env = [(false, eval (.Name x p) X.env)] := by rfl) : SE X (.Call (.Name "len" p1) [.Name x p] [] pos) (lenDM i) :=
  ⟨pe_imp (pe_callB call_len_dT hg hm PySem.boot_len (pa_cons (pe_var hN hv hd hcd) pa_nil he) (by decide) (by decide) he rfl) fun s H Q ⟨z, r, F, d, r', R, e, k⟩ => by
    unfold lenDM at e
    split at e
    · rename_i b kvs h1
      cases e
      obtain ⟨v1, w1, p1, rfl, w2, w3, w4, w5⟩ := R.slots i _ h1
      rcases w4 with ⟨h, _⟩ | ⟨_, ks, hk1, hk2⟩
      · cases h
      · refine ⟨_, w1, p1, ks, rfl, hk1, ?_⟩
        rw [paired_len hk2]
        exact k _ H F R (.refl _) (.int _)
    · cases e⟩
/-- sorted(d), the keys tuples -/
def sortDM (i : Nat) : EM := fun r => match r[i]? with
  | some (some (.m _ true kvs)) => if sortOk (kvs.map fun kv => dkD kv.1) then some (.list (sortL (kvs.map fun kv => dkD kv.1)), r) else none
  | _ => none
/-- what a walk over a dict with tuple keys collects: the key tuples, in order -/
theorem collect_dT {A : Around} {E : Value → Shared → Prop} {pins : List (Addr × Obj)} {s : Shared} {σ : L2.St} {H : Hp} {d : Addr} {kvs : List (List Key × V)} {R : List Value → Shared → Prop} (calm : A.handled = none) (I : L2.Inv X pins σ H s) (hd : H d = some (.dT kvs))
    (out : ∀ (h' : Heap) (tk : Nat) (bs : List Addr), (∀ b o, s.heap.get? b = some o → h'.get? b = some o) → IsKeys H kvs bs → R (bs.map Value.ref) { s with heap := h', toks := tk }) : wpAny (model X.prog X.w) A (collect (.ref d)) R E s := by
  have ok : ObjOk X.prog X.w H s.heap d (.dT kvs) := I.hok d _ hd
  obtain ⟨small, own, rows, pr, o, es, ep, stands, exact', data, entries, -⟩ := ok
  have many : es.size = kvs.length := (size_of_entries entries).trans (Paired.length pr).symm
  refine PySem.W.kdu_collect (kdl_raw own exact' data) calm stands (by omega) fun h' tk acc keeps items => ?_
  have all : acc.toList = (rows.map fun x => x.2.1).map Value.ref := by
    refine List.ext_getElem (by simp [items.1, size_of_entries entries]) fun n l1 l2 => ?_
    obtain ⟨en, at_, key⟩ := items.2 n acc.toList[n] (by simp at l1 ⊢)
    rw [entry_at entries n] at at_
    obtain ⟨row, hr, rfl⟩ := Option.map_eq_some_iff.mp at_
    rw [key]
    simp [(List.getElem?_eq_some_iff.mp hr).2, entryOfKey, tupleKind]
  rw [all]
  exact out h' tk _ keeps (isKeys_of pr)
end
section
variable {X : Cx}
/-- key tuples are frozen -/
theorem keys_frozen {F H : Hp} {kvs : List (List Key × V)} : ∀ {bs : List Addr}, IsKeys H kvs bs → SubH F H → ∃ F1, Grow F H F1 H ∧ DpAll X.K F1 (bs.map V.ref) (kvs.map fun kv => dkD (.inr kv.1)) := by
  classical
  intro bs keys sb
  refine ⟨fun b => if b ∈ bs then H b else F b, ⟨fun b o e => ?_, .refl _, fun b o e => ?_, fun b o e => ?_⟩, ?_⟩
  · by_cases m : b ∈ bs
    · simpa [m] using sb b o e
    · simpa [m] using e
  · by_cases m : b ∈ bs
    · simpa [m] using e
    · exact sb b o (by simpa [m] using e)
  · by_cases m : b ∈ bs
    · obtain ⟨p, -, hp⟩ := paired_mem2 keys m
      have e : H b = some o := by simpa [m] using e
      rw [hp] at e
      exact .inr (.inr ⟨_, (Option.some.inj e).symm⟩)
    · exact .inl (by simpa [m] using e)
  · have each : ∀ {kvs' : List (List Key × V)} {bs' : List Addr}, IsKeys H kvs' bs' → (∀ b ∈ bs', b ∈ bs) → DpAll X.K (fun b => if b ∈ bs then H b else F b) (bs'.map V.ref) (kvs'.map fun kv => dkD (.inr kv.1)) := by
      intro kvs' bs' k
      unfold IsKeys at k
      induction k with
      | nil => exact fun _ => .nil
      | cons h _ ih =>
        intro m
        refine .cons (.tup ?_ (kDs_dp _)) (ih fun b hb => m b (List.mem_cons_of_mem _ hb))
        rw [if_pos (m _ List.mem_cons_self)]
        exact h
    exact each keys fun _ m => m
/-- sorted(d), the keys tuples -/
theorem call_sortedT (hu : X.A.units + 100 < cLine) (hc : X.calm = true) : CallR X (.builtin "sorted") (fun xs H Q => ∃ (d : Addr) (kvs : List (List Key × V)) (F : Hp), xs = [V.ref d] ∧ SubH F H ∧ H d = some (.dT kvs) ∧ sortOk (kvs.map fun kv => dkD (.inr kv.1)) = true ∧
    ∀ v H' F', Grow F H F' H' → Dp X.K F' v (.list (sortL (kvs.map fun kv => dkD (.inr kv.1)))) → Q v H') := by
  rintro pins s σ H xs us Q I rel ⟨d, kvs, F, rfl, sb, hd, ok, give⟩
  obtain ⟨u, rfl, ru⟩ := vals1 rel
  cases ru
  obtain ⟨alikes, sortable, short, flat⟩ := sortOk_facts ok
  apply Calls.call_function_entry PyProof.Rows.kind_sorted PyProof.Rows.plain_sorted PyProof.Rows.entry_sorted (PyProof.Rows.args_sorted1 _)
  delta Builtin.«sorted»
  apply wpAny_bind; apply wpAny_pure
  apply wpAny_bind
  refine collect_dT (A := X.A.in1) (I.ok.hd hc) I hd fun h1 tk bs keeps keys => ?_
  have I1 : L2.Inv X pins σ H { s with heap := h1, toks := tk } := I.kept keeps
  obtain ⟨F1, grown, data⟩ := keys_frozen (X := X) keys sb
  have vals : Vals (bs.map V.ref) (bs.map Value.ref) := vals_refs bs
  have len : (bs.map Value.ref).length ≤ sizeLine := by rw [← vals.length, dpa_len data]; exact short
  apply wpAny_bind
  refine wpAny_newList ?_ len
  have stands := Heap.get?_push_size h1 (o := seqObj "list" (bs.map Value.ref).toArray 0) rfl
  have reads : EachIs (fun v b => ∃ as, Reads (h1.push (seqObj "list" (bs.map Value.ref).toArray 0)) v (id b) as ∧ h1.objs.size ∉ as) (bs.map Value.ref) (kvs.map fun kv => dkD (.inr kv.1)) := by
    refine (each_mem (each_reads I1 grown.fh vals data)).mono ?_
    rintro v b ⟨⟨as, r⟩, mb⟩
    refine ⟨as, PyProof.Rows.Reads.keeps (fun _ _ old => Heap.get?_push_of_some _ old) r, fun inn => ?_⟩
    have mb' : b ∈ (kvs.map fun kv => dkD (.inr kv.1)).map id := by rwa [List.map_id]
    exact Nat.lt_irrefl _ (reads_lt _ _ _ (alikes b mb' b mb') r _ inn)
  apply wpAny_bind; apply wpAny_holding
  refine list_sort_data (A := X.A.in1) (s := { s with heap := h1.push (seqObj "list" (bs.map Value.ref).toArray 0), toks := tk }) (enc := id) (R := fun u d => ∃ x, RelV x u ∧ Dp X.K F1 x d) stands (each_of vals data) reads alikes sortable (by simpa using short) (fun b mb => ?_) fun out outLen outIs => ?_
  · have := flat b mb
    show X.A.units + 1 + 1 + _ < _
    simp only [id]
    omega
  · obtain ⟨ws, wv, wd⟩ := of_each outIs
    obtain ⟨n, sortedAt⟩ := PyProof.Rows.sortedHeap_at (vs := bs.map Value.ref) (out := out.toArray) stands
    have new : H h1.objs.size = none := I1.hok.fresh (Nat.le_refl _)
    obtain ⟨laid, dp⟩ := new_lst grown.fh new wd
    have wlen : ws.length ≤ sizeLine := by
      have e1 := wv.length
      rw [List.length_map] at short outLen
      omega
    apply wpAny_pure
    refine ⟨_, rfl, .ref h1.objs.size, upd H h1.objs.size (.lst ws), I1.laid (t' := tk) (fun b o old => ?_) (Nat.le_refl _) ⟨wlen, out, n, wv, sortedAt⟩, rfl, give _ _ _ (grown.trans laid) dp⟩
    have older : b < h1.objs.size := Heap.lt_size old
    rw [PyProof.Rows.sortedHeap_old (Nat.ne_of_lt older) (by rw [size_push']; exact Nat.lt_succ_of_lt older)]
    exact Heap.get?_push_of_some _ old
end
section
variable {X : Cx} {W : String → Hp → Prop} {a b c e : Expr} {f g : EM} {pos : Pos}
theorem se_sortD (i : Nat) {x : Str} {p p1 : Pos} (hu : X.A.units + 100 < cLine) (hc : X.calm = true) (hg : Gl X "sorted") (hm : X.mg "sorted" = none) (hN : X.N[i]? = some x := by rfl) (hv : Vis X.env.scope x := by first | exact Or.inl rfl | exact Or.inr (Or.inl rfl) | exact Or.inr (Or.inr rfl)) (hd : (x == ("__debug__" : Str)) = false := by decide)
    (hcd : (x == ("__classdict__" : Str)) = false := by decide) (he : starEach [.Name x p] X.env = [(false, eval (.Name x p) X.env)] := by rfl) (hv2 : bootBuiltins "sorted" = some (.builtin "sorted") := by decide +kernel) : SE X (.Call (.Name "sorted" p1) [.Name x p] [] pos) (sortDM i) :=
  ⟨pe_imp (pe_callB (call_sortedT hu hc) hg hm hv2 (pa_cons (pe_var hN hv hd hcd) pa_nil he) (by decide) (by decide) he rfl) fun s H Q ⟨z, r, F, d, r', R, e, k⟩ => by
    unfold sortDM at e
    split at e
    · rename_i b kvs h1
      split at e
      · rename_i ok
        cases e
        obtain ⟨v1, w1, p1, rfl, w2, w3, w4, w5⟩ := R.slots i _ h1
        rcases w4 with ⟨h, _⟩ | ⟨_, ks, hk1, hk2⟩
        · cases h
        · have em : (kvs.map fun kv => dkD kv.1) = ks.map fun kv => dkD (.inr kv.1) := dk_map hk2
          rw [em] at ok k
          exact ⟨_, w1, p1, ks, F, rfl, R.fh, hk1, ok, fun v H' F' G dd => k v H' F' (R.grow G) G.ff dd⟩
      · cases e
    · cases e⟩
end
end DL

namespace DL
open PySem L2 PyProof.Rows PySem.Spec PySem.W
/-! ### t[::-1] -/
section
variable {prog : Program} {w : World} {A : Around} {E : Value → Shared → Prop} {s : Shared}
theorem sliceApplied_rev {sl : Addr} {vl vu vs : Value} {n : Nat} {Q : Int × Int × Nat → Shared → Prop} (hs : s.heap.IsSliceOf sl vl vu vs) (pl : IsPart vl none) (pu : IsPart vu none) (ps : IsPart vs (some (-1)))
    (h : Q ((n : Int) - 1, -1, n) s) : wpAny (model prog w) A (Builtin.Slice.sliceApplied (.ref sl) (pure (n : Int))) Q E s := by
  rcases hs with ⟨obj, stands, -, parts⟩
  have ends : Builtin.Slice.sliceAdjust none none (-1) (n : Int) = ((n : Int) - 1, -1) := by simp [Builtin.Slice.sliceAdjust]
  have many : Builtin.Slice.slicePlaces ((n : Int) - 1) (-1) (-1) = n := by
    simp [Builtin.Slice.slicePlaces]
    omega
  delta Builtin.Slice.sliceApplied Builtin.Slice.sliceFields
  wp_walk using wpAny_field (i := 0) (x := vl) stands parts rfl, wpAny_field (i := 1) (x := vu) stands parts rfl, wpAny_field (i := 2) (x := vs) stands parts rfl, HT.slicePart_ pl, HT.slicePart_ pu, HT.slicePart_ ps
  simp only [Option.getD_some, ends, many]
  wp_walk
  exact h
theorem pick_rev (xs : Array Value) : ((List.range xs.size).filterMap fun (m : Nat) => xs[(((xs.size : Int) - 1) + (m : Int) * (-1)).toNat]?).toArray = xs.toList.reverse.toArray := by
  congr 1
  have e : ∀ m ∈ List.range xs.size, xs[(((xs.size : Int) - 1) + (m : Int) * (-1)).toNat]? = some (xs.toList.reverse.getD m .none) := by
    intro m hm
    have hm := List.mem_range.mp hm
    have : (((xs.size : Int) - 1) + (m : Int) * (-1)).toNat = xs.size - 1 - m := by omega
    rw [this]
    have h2 : xs.size - 1 - m < xs.size := by omega
    rw [Array.getElem?_eq_getElem h2, List.getD_eq_getElem?_getD, List.getElem?_reverse (by simpa using hm)]
    simp [h2]
  have : ∀ (l : List Nat) (f : Nat → Option Value) (g : Nat → Value), (∀ m ∈ l, f m = some (g m)) → l.filterMap f = l.map g := by
    intro l f g h
    induction l with
    | nil => rfl
    | cons a l ih => rw [List.filterMap_cons, h a (by simp), List.map_cons, ih fun m hm => h m (by simp [hm])]
  rw [this _ _ _ e]
  apply List.ext_getElem?
  intro j
  rw [List.getElem?_map]
  by_cases hj : j < xs.size
  · rw [List.getElem?_range hj]
    simp [hj]
  · rw [List.getElem?_eq_none (by simpa using hj), List.getElem?_eq_none (by simpa using hj)]
    rfl
/-- tuple.__getitem__ at a slice that goes backwards through all -/
theorem meets_tupBack (t sl : Addr) (items : Array Value) (vl vu vs : Value) (pl : IsPart vl none) (pu : IsPart vu none) (ps : IsPart vs (some (-1))) (fits : items.size ≤ sizeLine) :
    Meets (Builtin.«tuple.__getitem__» ⟨[.ref t, .ref sl], []⟩) (fun _ R s => IsTup s.heap t items ∧ s.heap.IsSliceOf sl vl vu vs ∧
      R (.ok (.ret (.ref s.heap.objs.size))) { s with heap := s.heap.push { cls := .type "tuple", data := .seq items.toList.reverse.toArray } }) := by
  refine .of_wp fun prog w A R s ⟨isT, isS, done⟩ => ?_
  have tyS : s.TypeIs (.ref sl) "slice" := let ⟨o, g, c, _⟩ := isS; ⟨o, g, c⟩
  have small : sizeOk (.seq items.toList.reverse.toArray) := by simpa [sizeOk] using fits
  wp_walk using tupleItemsOf_ isT, wpAny_typeOf tyS, sliceApplied_rev (A := A.in1) (n := items.size) isS pl pu ps
  have room : ¬ items.toList.reverse.toArray.size > sizeLine := by simpa using fits
  rw [pick_rev, if_neg room]
  wp_walk
  exact ⟨_, rfl, done⟩
end
section
variable {X : Cx} {a b c e : Expr} {f g : EM} {pos : Pos}
/-- a slice display of three parts: a new slice with these parts -/
theorem slice3 {lo hi st : Option Expr} {tl th ts : TO} {p : Pos} (hl : PO X lo tl) (hh : PO X hi th) (hs : PO X st ts) {pins : List (Addr × Obj)} {s : Shared} {σ : L2.St} {H : Hp} {Q : Option Int → Option Int → Option Int → Hp → Prop}
    (I : L2.Inv X pins σ H s) (q : tl σ H fun l H1 => th σ H1 fun h H2 => ts σ H2 fun d H3 => Q l h d H3) :
    wpAny (model X.prog X.w) X.A (eval (.Slice lo hi st p) X.env) (fun v s' => ∃ sl u1 u2 u3 l h d H', v = .ref sl ∧ s'.heap.IsSliceOf sl u1 u2 u3 ∧ IsPart u1 l ∧ IsPart u2 h ∧ IsPart u3 d ∧ L2.Inv X pins σ H' s' ∧ Q l h d H') X.xe s := by
  apply wpAny_Slice
  refine thn (hl.run pins s σ H _ I q) ?_
  rintro u1 s1 ⟨l, H1, I1, part1, q1⟩
  refine thn (hh.run pins s1 σ H1 _ I1 q1) ?_
  rintro u2 s2 ⟨h, H2, I2, part2, q2⟩
  refine thn (hs.run pins s2 σ H2 _ I2 q2) ?_
  rintro u3 s3 ⟨d, H3, I3, part3, q3⟩
  exact ⟨_, u1, u2, u3, l, h, d, H3, rfl, Heap.IsSliceOf.new _ u1 u2 u3, part1, part2, part3, I3.kept (t' := s3.toks) (fun _ _ old => Heap.get?_push_of_some _ old), q3⟩
def tRevT (K : PySem.W.Frag) (te : TE) : TE := fun σ H Q => te σ H fun x H1 => ∃ a xs, x = .ref a ∧ SqT K H1 a xs ∧ ∀ p, H1 p = none → Q (.ref p) (upd H1 p (.tup xs.reverse))
theorem pe_revT {e : Expr} {te : TE} {k : Nat} {p1 p2 p3 pos : Pos} (he : PE X e te) : PE X (.Subscript e (.Slice none none (some (.UnaryOp .USub (.Constant (.int 1) k p1) p2)) p3) pos) (tRevT X.K te) := by
  constructor
  intro pins s σ H Q I want
  apply Subscript_
  refine thn (he.run pins s σ H _ I want) ?_
  rintro v s1 ⟨x, H1, I1, rel, a, xs, rfl, tup, give⟩
  cases rel
  refine thn (slice3 po_none po_none (po_some (pe_un un_neg pe_int)) I1 (Q := fun l h d H' => l = none ∧ h = none ∧ d = some (-1) ∧ H' = H1) ⟨1, rfl, -1, rfl, rfl, rfl, rfl, rfl⟩) ?_
  rintro v2 s2 ⟨sl, u1, u2, u3, l, h, d, H2, rfl, isS, part1, part2, part3, I2, rfl, rfl, rfl, rfl⟩
  obtain ⟨its, vals, isT, len⟩ := I2.tuple tup
  have fits : its.toArray.size ≤ sizeLine := by rw [List.size_toArray, ← vals.length]; exact len
  refine tail_any (T := "tuple") (id := "tuple.__getitem__") (ops := [.ref a, .ref sl]) isT.typeIs PySem.F.slot_tuple_getitem.lookup ?_ (by with_unfolding_all rfl)
  refine getItem_meets isT.typeIs (by decide) PySem.F.slot_tuple_getitem PySem.F.entry_tuple_getitem (PySem.F.args_tuple_getitem_2 _ _) (meets_tupBack a sl its.toArray u1 u2 u3 part1 part2 part3 fits) ⟨isT, isS, ?_⟩
  have made : ObjOk X.prog X.w (upd H2 s2.heap.objs.size (.tup xs.reverse)) (s2.heap.push { cls := .type "tuple", data := .seq its.reverse.toArray }) s2.heap.objs.size (.tup xs.reverse) :=
    ⟨by simpa using len, its.reverse, vals.reverse, _, Heap.get?_push_size _ rfl, rfl, _, rfl⟩
  have new : H2 s2.heap.objs.size = none := I2.hok.fresh (Nat.le_refl _)
  exact ⟨.ref s2.heap.objs.size, _, I2.laid (t' := s2.toks) (fun _ _ old => Heap.get?_push_of_some _ old) (Nat.le_refl _) made, rfl, give _ new⟩
def revD : D → Option D
  | .tuple ds => some (.tuple ds.reverse)
  | .list ds => some (.list ds.reverse)
  | _ => none
theorem se_rev {k : Nat} {p1 p2 p3 : Pos} (he : SE X e f) : SE X (.Subscript e (.Slice none none (some (.UnaryOp .USub (.Constant (.int 1) k p1) p2)) p3) pos) (unM revD f) := ⟨⟨fun pins s σ H Q I h => by
  obtain ⟨z, r, F, d, r', R, e, k⟩ := h
  obtain ⟨x, e1, e2⟩ := unM_some e
  unfold revD at e2
  split at e2
  · cases e2
    refine (pe_revT he.pe).run pins s σ H Q I ⟨z, r, F, _, r', R, e1, fun v H' F' R' sb dv => ?_⟩
    obtain ⟨_, _, rfl, h1, h2⟩ := dv.inv
    refine ⟨_, _, rfl, R'.fh.sqt (sqt_of h1), fun p hp => ?_⟩
    obtain ⟨G, q⟩ := new_tup R'.fh hp (dpa_rev h2)
    exact k _ _ _ (R'.grow G) (sb.trans G.ff) q
  · cases e2
    refine (pe_revL he.pe).run pins s σ H Q I ⟨z, r, F, _, r', R, e1, fun v H' F' R' sb dv => ?_⟩
    obtain ⟨_, _, rfl, h1, h2⟩ := dv.inv
    refine ⟨_, _, rfl, R'.fh.sql h1, fun p hp => ?_⟩
    obtain ⟨G, q⟩ := new_lst R'.fh hp (dpa_rev h2)
    exact k _ _ _ (R'.grow G) (sb.trans G.ff) q
  · cases e2⟩⟩
/-! ### own + row: a new list -/
def catOwnM (i : Nat) (g : EM) : AM := fun r => (ownM i r).bind fun _ => (g r).bind fun q => match q.2[i]?, q.1 with
  | some (some (.l _ xs)), .list ys => if szOk (xs.length + ys.length) then some (xs ++ ys, q.2) else none
  | _, _ => none
theorem sl_catOwn (i : Nat) {x : Str} {p : Pos} (hb : SW X b g) (hN : X.N[i]? = some x := by rfl) (hv : Vis X.env.scope x := by first | exact Or.inl rfl | exact Or.inr (Or.inl rfl) | exact Or.inr (Or.inr rfl)) (hd : (x == ("__debug__" : Str)) = false := by decide)
    (hcd : (x == ("__classdict__" : Str)) = false := by decide) : SL X (.BinOp (.Name x p) .Add b pos) (catOwnM i g) :=
  ⟨pe_imp (pe_op op_catL (pe_var hN hv hd hcd) hb.pe) fun s H Q ⟨z, r, F, d, r', R, e, k⟩ => by
    unfold catOwnM at e
    simp only [Option.bind_eq_some_iff] at e
    obtain ⟨⟨p0, r0⟩, e0, ⟨y, r1⟩, e1, e2⟩ := e
    obtain ⟨b0, xs0, f1, f2, f3⟩ := ownM_some e0
    obtain ⟨v, h1, a, vs, rfl, h2, h3, h4, h5, h6⟩ := R.slots i _ f1
    split at e2
    · rename_i bb xs ys hxs hys
      have hxs : r1[i]? = some (some (.l bb xs)) := hxs
      have hys : y = .list ys := hys
      subst hys
      split at e2
      · rename_i hz
        cases e2
        refine ⟨_, h1, z, r, F, _, r1, R, e1, fun w H2 F2 R2 sb2 dy => ?_⟩
        obtain ⟨v', h1', a', vs', rfl, h2', h3', h4', h5', h6'⟩ := R2.slots i _ hxs
        have ea : a' = a := by have := h1.symm.trans h1'; cases this; rfl
        subst ea
        obtain ⟨c, ws, rfl, q1, q2⟩ := dv_lst R2.fh dy
        refine ⟨a', c, vs', ws, rfl, rfl, .inl (.inl h2'), q1, by rw [dpa_len h5', dpa_len q2]; exact szOk_le hz, fun p hp => ?_⟩
        obtain ⟨R3, g1, g2, g3, g4⟩ := R2.loose (vs := vs' ++ ws) hp
        exact k p _ _ F2 R3 sb2 g1 g2 g3 g4 (dpa_app h5' q2)
      · cases e2
    · cases e2⟩
end
/-! ### what a body is worth -/
def runF (N : List Str) (body : SM) (ds : List D) : Option D := match body (startD N ds) with
  | some (.rt d _) => some d
  | some (.nx _) => some .none
  | _ => none
def runR (N : List Str) (j : Nat) (body : SM) (ds xs : List D) : Option (D × List D) := match body (startR N j ds xs) with
  | some (.rt d r) => (endR j r).map fun ys => (d, ys)
  | some (.nx r) => (endR j r).map fun ys => (.none, ys)
  | _ => none
section
variable {P : Program} {w : World} {K : PySem.W.Frag} {mg : Str → Option Value} {base : Heap}
theorem fn_run {x qual : Str} {st : Stmt} {f : Addr} {fd : FuncData} {N ps : List Str} {k : Nat} {body : SM} (F : Fun K x qual st f fd) (S : FnScope N ps (defScope st))
    (hb : ∀ (cdv : Value) (A : Around) (outer : List Env) (s : Shared) (H : Hp) (E : XK), Room k (A.deeper (envOfC qual (defScope st) s.heap.objs.size f cdv)) →
      SSs (cxOf CX0 P w K mg base N qual (defScope st) f cdv A outer s H E).nox (fun _ _ => False) (defBody st) body) : FnOk P w K mg base CX0 (k + 1) f fd ps (spF K ps.length (runF N body)) :=
  fn_ok F S (runF N body) body hb fun ds d e => by
    unfold runF at e
    split at e
    · rename_i d' r' h; cases e; exact .inl ⟨r', h⟩
    · rename_i r' h; cases e; exact .inr ⟨rfl, r', h⟩
    · cases e
theorem fn_runR {x qual : Str} {st : Stmt} {f : Addr} {fd : FuncData} {N ps : List Str} {k : Nat} {body : SM} (j : Nat) (F : Fun K x qual st f fd) (S : FnScope N ps (defScope st))
    (hb : ∀ (cdv : Value) (A : Around) (outer : List Env) (s : Shared) (H : Hp) (E : XK), Room k (A.deeper (envOfC qual (defScope st) s.heap.objs.size f cdv)) →
      SSs (cxOf CX0 P w K mg base N qual (defScope st) f cdv A outer s H E).nox (fun _ _ => False) (defBody st) body) : FnOk P w K mg base CX0 (k + 1) f fd ps (spR K ps.length j (runR N j body)) :=
  fn_okR j F S (runR N j body) body hb fun ds xs d xs' e => by
    unfold runR at e
    split at e
    · rename_i d' r' h
      simp only [Option.map_eq_some_iff] at e
      obtain ⟨ys, e1, e2⟩ := e
      cases e2; exact ⟨r', .inl h, e1⟩
    · rename_i r' h
      simp only [Option.map_eq_some_iff] at e
      obtain ⟨ys, e1, e2⟩ := e
      cases e2; exact ⟨r', .inr ⟨rfl, h⟩, e1⟩
    · cases e
/-- a promise of nothing -/
theorem spF_none {f : Addr} {fd : FuncData} {ps : List Str} {k : Nat} : FnOk P w K mg base CX0 k f fd ps (spF K ps.length fun _ => none) :=
  ⟨fun vs H Q E h => h.1, fun A outer s H args us vs Q E _ _ _ _ h => by obtain ⟨_, _, _, _, _, _, e, _⟩ := h; cases e⟩
theorem spR_none {f : Addr} {fd : FuncData} {ps : List Str} {k j : Nat} : FnOk P w K mg base CX0 k f fd ps (spR K ps.length j fun _ _ => none) :=
  ⟨fun vs H Q E h => h.1, fun A outer s H args us vs Q E _ _ _ _ h => by obtain ⟨_, _, _, _, _, _, _, _, _, _, _, _, _, _, e, _⟩ := h; cases e⟩
end
/-- room in units -/
structure Un1 (A : Around) : Prop where
  c0 : A.units < cLine
  c1 : A.units + 1 < cLine
  c64 : A.units + 64 < cLine
  c65 : A.units + 65 < cLine
  c100 : A.units + 100 < cLine
theorem un1 {k : Nat} {A : Around} (hr : Room k A) : Un1 A := by
  have := hr.un
  exact ⟨by omega, by omega, by omega, by omega, by omega⟩
end DL
namespace DL
open PySem L2 PyProof.Rows PySem.Spec PySem.W
/-- the law's end -/
theorem law_end {K : PySem.W.Frag} {H : Hp} {a : Addr} {ns : List Int} {g : List D → Option D} {E : XK} (h : g [.list (ns.map PyData.int)] = some (.bool true)) (hS : SqL K H a (ns.map V.int)) : spF K 1 g [.ref a] H (fun v _ => v = .bl true) E :=
  ⟨rfl, H, [.list (ns.map PyData.int)], .bool true, .refl _, .cons (.lst hS (dpa_ints_mk ns)) .nil, h, fun _ _ _ _ dd => dd.inv⟩
end DL

namespace GT
/-! plain lists -/
section
variable {α β : Type}
/-- two rows that rise, with the same things, are one -/
theorem sorted_ext (lt : α → α → Prop) (irr : ∀ a, ¬ lt a a) (tr : ∀ a b c, lt a b → lt b c → lt a c) :
    ∀ (xs ys : List α), xs.Pairwise lt → ys.Pairwise lt → (∀ a, a ∈ xs ↔ a ∈ ys) → xs = ys
  | [], [], _, _, _ => rfl
  | [], y :: ys, _, _, h => by have := (h y).mpr (by simp); simp at this
  | x :: xs, [], _, _, h => by have := (h x).mp (by simp); simp at this
  | x :: xs, y :: ys, hx, hy, h => by
    rw [List.pairwise_cons] at hx hy
    have exy : x = y := by
      have h1 := (h x).mp (by simp)
      have h2 := (h y).mpr (by simp)
      rcases List.mem_cons.mp h1 with e | m1
      · exact e
      · rcases List.mem_cons.mp h2 with e | m2
        · exact e.symm
        · exact absurd (tr _ _ _ (hx.1 y m2) (hy.1 x m1)) (irr x)
    subst exy
    congr 1
    refine sorted_ext lt irr tr xs ys hx.2 hy.2 fun a => ⟨fun m => ?_, fun m => ?_⟩
    · rcases List.mem_cons.mp ((h a).mp (List.mem_cons_of_mem _ m)) with e | q
      · subst e; exact absurd (hx.1 a m) (irr a)
      · exact q
    · rcases List.mem_cons.mp ((h a).mpr (List.mem_cons_of_mem _ m)) with e | q
      · subst e; exact absurd (hy.1 a m) (irr a)
      · exact q
theorem sorted_extI (xs ys : List Int) (h1 : xs.Pairwise (· < ·)) (h2 : ys.Pairwise (· < ·)) (h : ∀ a, a ∈ xs ↔ a ∈ ys) : xs = ys :=
  sorted_ext (· < ·) (fun a => Int.lt_irrefl a) (fun a b c => Int.lt_trans) xs ys h1 h2 h
theorem nodup_len_le [DecidableEq α] : ∀ (xs ys : List α), xs.Nodup → (∀ a ∈ xs, a ∈ ys) → xs.length ≤ ys.length
  | [], ys, _, _ => by simp
  | x :: xs, ys, hn, h => by
    rw [List.nodup_cons] at hn
    have h1 := nodup_len_le xs (ys.erase x) hn.2 fun a m => by
      have ne : a ≠ x := fun e => hn.1 (e ▸ m)
      exact (List.mem_erase_of_ne ne).mpr (h a (List.mem_cons_of_mem _ m))
    have h2 := List.length_erase_of_mem (h x (by simp))
    have h3 : 0 < ys.length := List.length_pos_of_mem (h x (by simp))
    simp only [List.length_cons]; omega
theorem nodup_of_lt {lt : α → α → Prop} (irr : ∀ a, ¬ lt a a) {xs : List α} (h : xs.Pairwise lt) : xs.Nodup :=
  List.Pairwise.imp (fun {a b} q (e : a = b) => irr a (by subst e; exact q)) h
end
/-- 0, 1, .., n - 1 -/
def ir (n : Nat) : List Int := (List.range n).map fun (i : Nat) => (i : Int)
theorem mem_ir {n : Nat} {a : Int} : a ∈ ir n ↔ 0 ≤ a ∧ a < n := by
  unfold ir
  simp only [List.mem_map, List.mem_range]
  constructor
  · rintro ⟨i, h, rfl⟩; omega
  · rintro ⟨h1, h2⟩; exact ⟨a.toNat, by omega, by omega⟩
theorem ir_len (n : Nat) : (ir n).length = n := by simp [ir]
theorem ir_sorted (n : Nat) : (ir n).Pairwise (· < ·) := by
  unfold ir
  rw [List.pairwise_map]
  exact List.pairwise_lt_range.imp fun h => by omega
theorem ir_nodup (n : Nat) : (ir n).Nodup := nodup_of_lt (fun a => Int.lt_irrefl a) (ir_sorted n)
theorem ir_succ (n : Nat) : ir (n + 1) = ir n ++ [(n : Int)] := by unfold ir; rw [List.range_succ, List.map_append]; rfl
/-- sorted ints -/
def sortI (xs : List Int) : List Int := xs.mergeSort fun a b => decide (a ≤ b)
theorem sortI_perm (xs : List Int) : (sortI xs).Perm xs := List.mergeSort_perm xs _
theorem mem_sortI {xs : List Int} {a : Int} : a ∈ sortI xs ↔ a ∈ xs := (sortI_perm xs).mem_iff
theorem sortI_le (xs : List Int) : (sortI xs).Pairwise (· ≤ ·) := by
  have h := List.pairwise_mergeSort (le := fun a b : Int => decide (a ≤ b)) (fun a b c h1 h2 => by simp at *; omega) (fun a b => by simp; omega) xs
  exact h.imp fun q => by simpa using q
theorem sortI_lt {xs : List Int} (h : xs.Nodup) : (sortI xs).Pairwise (· < ·) := by
  have h2 : (sortI xs).Nodup := (sortI_perm xs).nodup_iff.mpr h
  have h1 := sortI_le xs
  exact (List.pairwise_and_iff.mpr ⟨h1, h2⟩).imp fun ⟨a, b⟩ => by omega
theorem sortI_len (xs : List Int) : (sortI xs).length = xs.length := (sortI_perm xs).length_eq
theorem sortI_id {xs : List Int} (h : xs.Pairwise (· < ·)) : sortI xs = xs :=
  sorted_extI _ _ (sortI_lt (nodup_of_lt (fun a => Int.lt_irrefl a) h)) h fun _ => mem_sortI

/-! nets -/
abbrev Tie := Int × Int
structure Net where
  n : Nat
  ties : List Tie
  rim : List Int
def tlt (a b : Tie) : Prop := a.1 < b.1 ∨ (a.1 = b.1 ∧ a.2 < b.2)
instance : DecidableRel tlt := fun a b => by unfold tlt; exact inferInstance
theorem tlt_irr (a : Tie) : ¬ tlt a a := by unfold tlt; omega
theorem tlt_tr (a b c : Tie) (h1 : tlt a b) (h2 : tlt b c) : tlt a c := by unfold tlt at *; omega
structure Net.WF (N : Net) : Prop where
  pos : 1 ≤ N.n
  small : N.n ≤ 7
  tie : ∀ t ∈ N.ties, 0 ≤ t.1 ∧ t.1 < t.2 ∧ t.2 < N.n
  up : N.ties.Pairwise tlt
  rimIn : ∀ k ∈ N.rim, 0 ≤ k ∧ k < N.n
  rimUp : N.rim.Pairwise (· < ·)
def pr (a b : Int) : Tie := (min a b, max a b)
theorem pr_comm (a b : Int) : pr a b = pr b a := by unfold pr; rw [Int.min_comm, Int.max_comm]
theorem pr_of_lt {a b : Int} (h : a < b) : pr a b = (a, b) := by unfold pr; rw [Int.min_eq_left (by omega), Int.max_eq_right (by omega)]
def adj (N : Net) (a b : Int) : Bool := decide (pr a b ∈ N.ties)
theorem adj_comm (N : Net) (a b : Int) : adj N a b = adj N b a := by unfold adj; rw [pr_comm]
theorem adj_in {N : Net} (w : N.WF) {a b : Int} (h : adj N a b = true) : (0 ≤ a ∧ a < N.n) ∧ (0 ≤ b ∧ b < N.n) ∧ a ≠ b := by
  unfold adj at h
  have := w.tie _ (of_decide_eq_true h)
  unfold pr at this
  simp only at this
  omega
def nb (N : Net) (k : Int) : List Int := (ir N.n).filter fun o => adj N k o
theorem mem_nb {N : Net} {w : N.WF} {a b : Int} : b ∈ nb N a ↔ adj N a b = true := by
  unfold nb
  rw [List.mem_filter, mem_ir]
  exact ⟨fun h => h.2, fun h => ⟨(adj_in w h).2.1, h⟩⟩
theorem nb_sorted (N : Net) (k : Int) : (nb N k).Pairwise (· < ·) := (ir_sorted _).filter _
/-- ties by their numbers left out -/
def keepF (B : List Int) (ts : List Tie) (i : Nat) : List Tie := ((ts.zipIdx i).filter fun p => !(B.contains (p.2 : Int))).map (·.1)
def without (N : Net) (B : List Int) : Net := { N with ties := keepF B N.ties 0 }
theorem mem_keep {B : List Int} {t : Tie} : ∀ {ts : List Tie} {i : Nat}, t ∈ keepF B ts i ↔ ∃ j, ts[j]? = some t ∧ ((i + j : Nat) : Int) ∉ B := by
  intro ts i
  unfold keepF
  simp only [List.mem_map, List.mem_filter, List.mem_zipIdx_iff_le_and_getElem?_sub]
  constructor
  · rintro ⟨⟨u, k⟩, ⟨⟨h1, h2⟩, h3⟩, rfl⟩
    refine ⟨k - i, h2, ?_⟩
    have e : i + (k - i) = k := by simp only at h1; omega
    rw [e]; simpa using h3
  · rintro ⟨j, h1, h2⟩
    refine ⟨(t, i + j), ⟨⟨Nat.le_add_right _ _, ?_⟩, ?_⟩, rfl⟩
    · simpa using h1
    · simpa using h2
theorem keep_sub (B : List Int) : ∀ (ts : List Tie) (i : Nat), (keepF B ts i).Sublist ts := by
  intro ts i
  unfold keepF
  have h : (((ts.zipIdx i).filter fun p => !(B.contains (p.2 : Int))).map (·.1)).Sublist ((ts.zipIdx i).map (·.1)) := List.filter_sublist.map _
  rw [List.zipIdx_map_fst] at h
  exact h
theorem without_wf {N : Net} (w : N.WF) (B : List Int) : (without N B).WF where
  pos := w.pos
  small := w.small
  tie := fun t h => w.tie t ((keep_sub B N.ties 0).subset h)
  up := w.up.sublist (keep_sub B N.ties 0)
  rimIn := w.rimIn
  rimUp := w.rimUp
/-! reaching -/
inductive Reach (N : Net) (a : Int) : Int → Prop
  | refl : Reach N a a
  | step {b c : Int} : Reach N a b → adj N b c = true → Reach N a c
theorem Reach.trans {N : Net} {a b c : Int} (h1 : Reach N a b) (h2 : Reach N b c) : Reach N a c := by
  induction h2 with
  | refl => exact h1
  | step _ e ih => exact ih.step e
theorem Reach.head {N : Net} {a b c : Int} (h1 : adj N a b = true) (h2 : Reach N b c) : Reach N a c := (Reach.refl.step h1).trans h2
theorem Reach.symm {N : Net} {a b : Int} (h : Reach N a b) : Reach N b a := by
  induction h with
  | refl => exact .refl
  | step _ e ih => exact Reach.head (by rw [adj_comm]; exact e) ih
theorem Reach.mono {N M : Net} (hs : ∀ a b, adj N a b = true → adj M a b = true) {a b : Int} (h : Reach N a b) : Reach M a b := by
  induction h with
  | refl => exact .refl
  | step _ e ih => exact ih.step (hs _ _ e)
theorem Reach.inn {N : Net} (w : N.WF) {a b : Int} (h : Reach N a b) (ha : 0 ≤ a ∧ a < N.n) : 0 ≤ b ∧ b < N.n := by
  cases h with
  | refl => exact ha
  | step _ e => exact (adj_in w e).2.1
/-- a row that holds a, is closed, and within reach, is what is reached -/
theorem reach_closed {N : Net} {a : Int} {xs : List Int} (h0 : a ∈ xs) (hc : ∀ b ∈ xs, ∀ c, adj N b c = true → c ∈ xs) {b : Int} (h : Reach N a b) : b ∈ xs := by
  induction h with
  | refl => exact h0
  | step _ e ih => exact hc _ ih _ e
open Classical in
noncomputable def reached (N : Net) (k : Int) : List Int := (ir N.n).filter fun x => decide (Reach N k x)
theorem mem_reached {N : Net} (w : N.WF) {k x : Int} (hk : 0 ≤ k ∧ k < N.n) : x ∈ reached N k ↔ Reach N k x := by
  classical
  unfold reached
  rw [List.mem_filter, mem_ir]
  constructor
  · rintro ⟨_, h⟩; simpa using h
  · intro h; exact ⟨h.inn w hk, by simpa using h⟩
theorem reached_sorted (N : Net) (k : Int) : (reached N k).Pairwise (· < ·) := (ir_sorted _).filter _
theorem reached_unique {N : Net} (w : N.WF) {k : Int} (hk : 0 ≤ k ∧ k < N.n) {xs : List Int} (hn : xs.Nodup) (h0 : k ∈ xs) (hc : ∀ b ∈ xs, ∀ c, adj N b c = true → c ∈ xs) (hr : ∀ b ∈ xs, Reach N k b) : sortI xs = reached N k :=
  sorted_extI _ _ (sortI_lt hn) (reached_sorted N k) fun a => by
    rw [mem_sortI, mem_reached w hk]
    exact ⟨hr a, reach_closed h0 hc⟩
end GT

namespace GT
/-! rows of ints in order -/
def llt : List Int → List Int → Bool
  | [], [] => false
  | [], _ :: _ => true
  | _ :: _, [] => false
  | x :: xs, y :: ys => if x = y then llt xs ys else decide (x < y)
theorem llt_irr : ∀ a : List Int, ¬ llt a a = true
  | [] => by simp [llt]
  | x :: xs => by simpa [llt] using llt_irr xs
theorem llt_tr : ∀ a b c : List Int, llt a b = true → llt b c = true → llt a c = true
  | [], [], _, h, _ => by simp [llt] at h
  | [], _ :: _, [], _, h => by simp [llt] at h
  | [], _ :: _, _ :: _, _, _ => by simp [llt]
  | _ :: _, [], _, h, _ => by simp [llt] at h
  | _ :: _, _ :: _, [], _, h => by simp [llt] at h
  | x :: xs, y :: ys, z :: zs, h1, h2 => by
    simp only [llt] at *
    by_cases e1 : x = y
    · subst e1
      rw [if_pos rfl] at h1
      by_cases e2 : x = z
      · subst e2; rw [if_pos rfl] at h2 ⊢; exact llt_tr xs ys zs h1 h2
      · rw [if_neg e2] at h2 ⊢; exact h2
    · rw [if_neg e1] at h1
      by_cases e2 : y = z
      · subst e2; rw [if_neg e1]; exact h1
      · rw [if_neg e2] at h2
        simp only [decide_eq_true_eq] at h1 h2
        rw [if_neg (by omega)]
        simp only [decide_eq_true_eq]; omega
theorem llt_total : ∀ a b : List Int, a = b ∨ llt a b = true ∨ llt b a = true
  | [], [] => .inl rfl
  | [], _ :: _ => .inr (.inl rfl)
  | _ :: _, [] => .inr (.inr rfl)
  | x :: xs, y :: ys => by
    simp only [llt]
    by_cases e : x = y
    · subst e
      rw [if_pos rfl, if_pos rfl]
      rcases llt_total xs ys with h | h | h
      · exact .inl (by rw [h])
      · exact .inr (.inl h)
      · exact .inr (.inr h)
    · rw [if_neg e, if_neg (fun h => e h.symm)]
      simp only [decide_eq_true_eq]; omega
def lle (a b : List Int) : Bool := !llt b a
theorem lle_tr (a b c : List Int) (h1 : lle a b = true) (h2 : lle b c = true) : lle a c = true := by
  unfold lle at *
  simp only [Bool.not_eq_true'] at *
  rcases llt_total a b with e | h | h
  · subst e; exact h2
  · rcases llt_total b c with e | g | g
    · subst e; exact h1
    · have := llt_tr _ _ _ h g
      cases q : llt c a with
      | false => rfl
      | true => exact absurd (llt_tr _ _ _ this q) (llt_irr _)
    · rw [g] at h2; cases h2
  · rw [h] at h1; cases h1
theorem lle_total (a b : List Int) : (lle a b || lle b a) = true := by
  unfold lle
  rcases llt_total a b with e | h | h
  · subst e; simp [llt_irr a]
  · have : llt b a = false := by
      cases q : llt b a with
      | false => rfl
      | true => exact absurd (llt_tr _ _ _ h q) (llt_irr _)
    simp [this]
  · have : llt a b = false := by
      cases q : llt a b with
      | false => rfl
      | true => exact absurd (llt_tr _ _ _ h q) (llt_irr _)
    simp [this]
def sortR (xs : List (List Int)) : List (List Int) := xs.mergeSort lle
theorem sortR_perm (xs : List (List Int)) : (sortR xs).Perm xs := List.mergeSort_perm xs _
theorem mem_sortR {xs : List (List Int)} {a : List Int} : a ∈ sortR xs ↔ a ∈ xs := (sortR_perm xs).mem_iff
theorem sortR_le (xs : List (List Int)) : (sortR xs).Pairwise fun a b => lle a b = true :=
  List.pairwise_mergeSort lle_tr lle_total xs
theorem llt_of_lle {a b : List Int} (h : lle a b = true) (n : a ≠ b) : llt a b = true := by
  unfold lle at h
  rcases llt_total a b with e | g | g
  · exact absurd e n
  · exact g
  · rw [g] at h; cases h
theorem sortR_lt {xs : List (List Int)} (h : xs.Nodup) : (sortR xs).Pairwise fun a b => llt a b = true := by
  have h2 : (sortR xs).Nodup := (sortR_perm xs).nodup_iff.mpr h
  exact (List.pairwise_and_iff.mpr ⟨sortR_le xs, h2⟩).imp fun ⟨a, b⟩ => llt_of_lle a b
theorem sorted_extR (xs ys : List (List Int)) (h1 : xs.Pairwise fun a b => llt a b = true) (h2 : ys.Pairwise fun a b => llt a b = true) (h : ∀ a, a ∈ xs ↔ a ∈ ys) : xs = ys :=
  sorted_ext (fun a b => llt a b = true) llt_irr llt_tr xs ys h1 h2 h
theorem nodup_ltR {xs : List (List Int)} (h : xs.Pairwise fun a b => llt a b = true) : xs.Nodup := nodup_of_lt llt_irr h
theorem sortR_id {xs : List (List Int)} (h : xs.Pairwise fun a b => llt a b = true) : sortR xs = xs :=
  sorted_extR _ _ (sortR_lt (nodup_ltR h)) h fun _ => mem_sortR
theorem sortR_len (xs : List (List Int)) : (sortR xs).length = xs.length := (sortR_perm xs).length_eq

/-! routes -/
def linked (N : Net) : List Int → Bool
  | a :: b :: r => adj N a b && linked N (b :: r)
  | _ => true
theorem linked_cons {N : Net} {a b : Int} {r : List Int} : linked N (a :: b :: r) = true ↔ adj N a b = true ∧ linked N (b :: r) = true := by
  simp [linked]
theorem linked_snoc {N : Net} {b : Int} : ∀ {r : List Int} {a : Int}, r.getLast? = some a → (linked N (r ++ [b]) = true ↔ linked N r = true ∧ adj N a b = true)
  | [], a, h => by simp at h
  | [c], a, h => by simp at h; subst h; simp [linked]
  | c :: d :: r, a, h => by
    have h' : (d :: r).getLast? = some a := by simpa [List.getLast?_cons_cons] using h
    have ih := linked_snoc (N := N) (b := b) h'
    simp only [List.cons_append] at ih ⊢
    rw [linked_cons, linked_cons, ih]
    exact and_assoc.symm
theorem linked_of_snoc {N : Net} {b : Int} : ∀ {r : List Int}, linked N (r ++ [b]) = true → linked N r = true
  | [], _ => rfl
  | [c], _ => rfl
  | c :: d :: r, h => by
    simp only [List.cons_append] at h
    rw [linked_cons] at h ⊢
    exact ⟨h.1, linked_of_snoc (r := d :: r) h.2⟩
theorem linked_in {N : Net} (w : N.WF) : ∀ {r : List Int}, 2 ≤ r.length → linked N r = true → ∀ x ∈ r, 0 ≤ x ∧ x < N.n
  | [], h, _, _, _ => by simp at h
  | [_], h, _, _, _ => by simp at h
  | [a, b], _, h, x, m => by
    rw [linked_cons] at h
    have := adj_in w h.1
    rcases List.mem_cons.mp m with rfl | m
    · exact this.1
    · rcases List.mem_cons.mp m with rfl | m
      · exact this.2.1
      · cases m
  | a :: b :: c :: r, _, h, x, m => by
    rw [linked_cons] at h
    rcases List.mem_cons.mp m with rfl | m
    · exact (adj_in w h.1).1
    · exact linked_in w (by simp) h.2 x m
structure IsRoute (N : Net) (r : List Int) : Prop where
  two : 2 ≤ r.length
  nd : r.Nodup
  lk : linked N r = true
  ends : ∃ a b, r.head? = some a ∧ r.getLast? = some b ∧ a ∈ N.rim ∧ b ∈ N.rim ∧ a < b
/-- the ways from a way on -/
def isEnd (N : Net) (way : List Int) : Bool := match way.head?, way.getLast? with
  | some a, some b => decide (1 < way.length) && decide (b ∈ N.rim) && decide (a < b)
  | _, _ => false
def ledOn (N : Net) : Nat → List Int → List (List Int)
  | 0, _ => []
  | f + 1, way => (if isEnd N way then [way] else []) ++ (((nb N (way.getLast?.getD 0)).filter fun k => decide (k ∉ way)).flatMap fun k => ledOn N f (way ++ [k]))
theorem ledOn_pre {N : Net} : ∀ (f : Nat) (way r : List Int), r ∈ ledOn N f way → way <+: r
  | 0, _, _, h => by simp [ledOn] at h
  | f + 1, way, r, h => by
    simp only [ledOn, List.mem_append, List.mem_flatMap] at h
    rcases h with h | ⟨k, _, h⟩
    · split at h
      · simp at h; subst h; exact List.prefix_refl _
      · simp at h
    · exact (List.prefix_append way [k]).trans (ledOn_pre f _ _ h)
theorem mem_ledOn {N : Net} (w : N.WF) : ∀ (f : Nat) (way r : List Int), way ≠ [] → way.Nodup → linked N way = true → (∀ x ∈ way, 0 ≤ x ∧ x < N.n) → N.n < f + way.length →
    (r ∈ ledOn N f way ↔ way <+: r ∧ r.Nodup ∧ linked N r = true ∧ isEnd N r = true)
  | 0, way, r, h0, hn, hl, hi, hf => by
    have := nodup_len_le way (ir N.n) hn fun a m => mem_ir.mpr (hi a m)
    rw [ir_len] at this
    omega
  | f + 1, way, r, h0, hn, hl, hi, hf => by
    obtain ⟨b, hb⟩ : ∃ b, way.getLast? = some b := by
      cases e : way.getLast? with
      | none => exact absurd (List.getLast?_eq_none_iff.mp e) h0
      | some b => exact ⟨b, rfl⟩
    simp only [ledOn, hb, Option.getD_some, List.mem_append, List.mem_flatMap, List.mem_filter, decide_eq_true_eq]
    constructor
    · rintro (h | ⟨k, ⟨hk, hkw⟩, h⟩)
      · split at h
        · rename_i he
          simp at h; subst h
          exact ⟨List.prefix_refl _, hn, hl, he⟩
        · simp at h
      · have hadj := (mem_nb (w := w)).mp hk
        have := (mem_ledOn w f (way ++ [k]) r (by simp) (List.nodup_append.mpr ⟨hn, by simp, fun a m c mc => by simp at mc; subst mc; exact fun e => hkw (e ▸ m)⟩) ((linked_snoc hb).mpr ⟨hl, hadj⟩)
          (fun x m => by
            rcases List.mem_append.mp m with m | m
            · exact hi x m
            · simp at m; subst m; exact (adj_in w hadj).2.1) (by simp; omega)).mp h
        exact ⟨(List.prefix_append way [k]).trans this.1, this.2⟩
    · rintro ⟨hp, hrn, hrl, hre⟩
      obtain ⟨t, rfl⟩ := hp
      cases t with
      | nil => left; rw [List.append_nil] at hre ⊢; rw [if_pos hre]; simp
      | cons k t =>
        right
        have hkw : k ∉ way := fun m => by
          have := (List.nodup_append.mp hrn).2.2 k m k (by simp)
          exact this rfl
        have hl2 : linked N (way ++ [k]) = true := by
          have : ∀ (t : List Int), linked N (way ++ k :: t) = true → linked N (way ++ [k]) = true := by
            intro t h
            have : ∀ (m : Nat) (t : List Int), t.length = m → linked N (way ++ k :: t) = true → linked N (way ++ [k]) = true := by
              intro m
              induction m with
              | zero => intro t ht h; cases t with
                | nil => exact h
                | cons _ _ => simp at ht
              | succ m ih =>
                intro t ht h
                have e : way ++ k :: t = (way ++ k :: t.dropLast) ++ [t.getLast (by intro e; subst e; simp at ht)] := by simp [List.dropLast_concat_getLast]
                rw [e] at h
                exact ih t.dropLast (by simp; omega) (linked_of_snoc h)
            exact this _ t rfl h
          exact this t hrl
        have hadj := ((linked_snoc hb).mp hl2).2
        refine ⟨k, ⟨(mem_nb (w := w)).mpr hadj, hkw⟩, ?_⟩
        refine (mem_ledOn w f (way ++ [k]) _ (by simp) (List.nodup_append.mpr ⟨hn, by simp, fun a m c mc => by simp at mc; subst mc; exact fun e => hkw (e ▸ m)⟩) hl2 (fun x m => by
            rcases List.mem_append.mp m with m | m
            · exact hi x m
            · simp at m; subst m; exact (adj_in w hadj).2.1) (by simp; omega)).mpr ⟨⟨t, by simp⟩, hrn, hrl, hre⟩
theorem ledOn_nodup {N : Net} : ∀ (f : Nat) (way : List Int), (ledOn N f way).Nodup
  | 0, _ => by simp [ledOn]
  | f + 1, way => by
    simp only [ledOn]
    rw [List.nodup_append]
    refine ⟨by split <;> simp, ?_, ?_⟩
    · have key : ∀ ks : List Int, ks.Nodup → (ks.flatMap fun k => ledOn N f (way ++ [k])).Nodup := by
        intro ks
        induction ks with
        | nil => intro _; simp
        | cons k ks ih =>
          intro hn
          rw [List.nodup_cons] at hn
          rw [List.flatMap_cons, List.nodup_append]
          refine ⟨ledOn_nodup f _, ih hn.2, fun a m b mb e => ?_⟩
          subst e
          obtain ⟨k2, m2, hb⟩ := List.mem_flatMap.mp mb
          obtain ⟨t1, e1⟩ := ledOn_pre f _ _ m
          obtain ⟨t2, e2⟩ := ledOn_pre f _ _ hb
          rw [← e1] at e2
          simp only [List.append_assoc] at e2
          have := List.append_cancel_left e2
          simp at this
          exact hn.1 (this.1 ▸ m2)
      exact key _ ((nodup_of_lt (fun a => Int.lt_irrefl a) (nb_sorted N _)).filter _)
    · intro a m b mb e
      subst e
      obtain ⟨k2, m2, hb⟩ := List.mem_flatMap.mp mb
      split at m
      · simp at m; subst m
        have := (ledOn_pre f _ _ hb).length_le
        simp at this; omega
      · simp at m
theorem ledOn_len {N : Net} (hs : N.n ≤ 7) : ∀ (f : Nat) (way : List Int), 6 * (ledOn N f way).length + 1 ≤ 7 ^ f
  | 0, _ => by simp [ledOn]
  | f + 1, way => by
    simp only [ledOn, List.length_append]
    have h1 : (if isEnd N way = true then [way] else []).length ≤ 1 := by split <;> simp
    have key : ∀ ks : List Int, 6 * (ks.flatMap fun k => ledOn N f (way ++ [k])).length + ks.length ≤ ks.length * 7 ^ f := by
      intro ks
      induction ks with
      | nil => simp
      | cons k ks ih =>
        have := ledOn_len hs f (way ++ [k])
        rw [List.flatMap_cons, List.length_append, List.length_cons, Nat.add_mul ks.length 1 (7 ^ f), Nat.one_mul]
        generalize ks.length * 7 ^ f = q at *
        generalize 7 ^ f = p at *
        omega
    have h2 := key ((nb N (way.getLast?.getD 0)).filter fun k => decide (k ∉ way))
    have h3 : ((nb N (way.getLast?.getD 0)).filter fun k => decide (k ∉ way)).length ≤ 7 := by
      refine Nat.le_trans (List.length_filter_le _ _) ?_
      unfold nb
      refine Nat.le_trans (List.length_filter_le _ _) ?_
      rw [ir_len]; exact hs
    generalize ((nb N (way.getLast?.getD 0)).filter fun k => decide (k ∉ way)) = ks at h2 h3
    have h4 : 1 ≤ 7 ^ f := Nat.one_le_pow _ _ (by omega)
    have h5 : ks.length * 7 ^ f ≤ 7 * 7 ^ f := Nat.mul_le_mul_right _ h3
    by_cases hk : ks.length = 7
    · rw [Nat.pow_succ]
      rw [hk] at h2
      omega
    · have h6 : ks.length * 7 ^ f ≤ 6 * 7 ^ f := Nat.mul_le_mul_right _ (by omega)
      rw [Nat.pow_succ]
      by_cases h0 : ks.length = 0
      · rw [h0] at h2
        omega
      · omega
def routes (N : Net) : List (List Int) := sortR (N.rim.flatMap fun k => ledOn N 8 [k])
end GT

/-! evaluation of combinator terms at rows of slots that are written out -/
namespace DL
open PySem L2
theorem obind_congr {α β : Type} {x y : Option α} {f : α → Option β} (h : x = y) : x.bind f = y.bind f := by rw [h]
theorem omap_congr {α β : Type} {x y : Option α} {f : α → β} (h : x = y) : x.map f = y.map f := by rw [h]
theorem ob_some {α β : Type} (a : α) (f : α → Option β) : (some a).bind f = f a := (rfl)
theorem om_some {α β : Type} (a : α) (f : α → β) : (some a).map f = some (f a) := (rfl)
/-! slots -/
def SV.dat : SV → Option D
  | .d x => some x
  | _ => none
def SV.lis : SV → Option (Bool × List D)
  | .l b xs => some (b, xs)
  | _ => none
def SV.dic : SV → Option (Bool × Bool × List (DK × D))
  | .m b t xs => some (b, t, xs)
  | _ => none
theorem dat_d (x : D) : (SV.d x).dat = some x := (rfl)
theorem lis_l (b : Bool) (x : List D) : (SV.l b x).lis = some (b, x) := (rfl)
theorem dic_m (b t : Bool) (x : List (DK × D)) : (SV.m b t x).dic = some (b, t, x) := (rfl)
def gt (r : Rho) (i : Nat) : Option SV := r[i]?.bind id
theorem gt_0 (o : Option SV) (r : Rho) : gt (o :: r) 0 = o := (rfl)
theorem gt_s (o : Option SV) (r : Rho) (i : Nat) : gt (o :: r) (i + 1) = gt r i := by unfold gt; simp
theorem gt_1 (a o : Option SV) (r : Rho) : gt (a :: o :: r) 1 = o := (rfl)
theorem gt_2 (a b o : Option SV) (r : Rho) : gt (a :: b :: o :: r) 2 = o := (rfl)
theorem gt_3 (a b c o : Option SV) (r : Rho) : gt (a :: b :: c :: o :: r) 3 = o := (rfl)
theorem gt_4 (a b c d o : Option SV) (r : Rho) : gt (a :: b :: c :: d :: o :: r) 4 = o := (rfl)
theorem gt_5 (a b c d e o : Option SV) (r : Rho) : gt (a :: b :: c :: d :: e :: o :: r) 5 = o := (rfl)
theorem gt_6 (a b c d e f o : Option SV) (r : Rho) : gt (a :: b :: c :: d :: e :: f :: o :: r) 6 = o := (rfl)
theorem gt_7 (a b c d e f g o : Option SV) (r : Rho) : gt (a :: b :: c :: d :: e :: f :: g :: o :: r) 7 = o := (rfl)
theorem gt_b (a b c d e f g h : Option SV) (r : Rho) (i : Nat) : gt (a :: b :: c :: d :: e :: f :: g :: h :: r) (i + 8) = gt r i := by unfold gt; simp
theorem st_0 (o x : Option SV) (r : Rho) : List.set (o :: r) 0 x = x :: r := (rfl)
theorem st_s (o x : Option SV) (r : Rho) (i : Nat) : List.set (o :: r) (i + 1) x = o :: List.set r i x := (rfl)
theorem gt_some {r : Rho} {i : Nat} {sv : SV} : gt r i = some sv ↔ r[i]? = some (some sv) := by
  unfold gt
  cases r[i]? with
  | none => simp
  | some o => cases o <;> simp
def plG : Option SV → Bool
  | some sv => !sv.own
  | none => true
theorem plG_d (x : D) : plG (some (.d x)) = true := (rfl)
theorem plG_n : plG none = true := (rfl)
theorem plainAt_a (r : Rho) (is : List Nat) : plainAt r is = is.all fun i => plG (gt r i) := by
  unfold plainAt plG gt
  congr 1; funext i
  cases r[i]? with
  | none => rfl
  | some o => cases o <;> rfl
/-! expressions -/
theorem varM_a (i : Nat) (r : Rho) : varM i r = (gt r i).bind fun s => s.dat.map fun x => (x, r) := by
  unfold varM gt
  cases r[i]? with
  | none => rfl
  | some o => cases o with
    | none => rfl
    | some s => cases s <;> rfl
theorem ownM_a (i : Nat) (r : Rho) : ownM i r = (gt r i).bind fun s => s.lis.map fun x => (.list x.2, r) := by
  unfold ownM gt
  cases r[i]? with
  | none => rfl
  | some o => cases o with
    | none => rfl
    | some s => cases s <;> rfl
theorem cM_a (d : D) (r : Rho) : cM d r = some (d, r) := (rfl)
theorem ofL_a (f : AM) (r : Rho) : ofL f r = (f r).map fun p => (.list p.1, p.2) := (rfl)
theorem opM_a (h : D → D → Option D) (f g : EM) (r : Rho) : opM h f g r = (f r).bind fun p => (g p.2).bind fun q => (h p.1 q.1).map fun d => (d, q.2) := (rfl)
theorem opOwnM_a (h : D → D → Option D) (i : Nat) (g : EM) (r : Rho) : opOwnM h i g r = (ownM i r).bind fun _ => (g r).bind fun q => (ownM i q.2).bind fun p => (h p.1 q.1).map fun d => (d, q.2) := (rfl)
theorem unM_a (h : D → Option D) (f : EM) (r : Rho) : unM h f r = (f r).bind fun p => (h p.1).map fun d => (d, p.2) := (rfl)
theorem truM_a (f : EM) (r : Rho) : truM f r = (f r).bind fun p => (truD p.1).map fun b => (b, p.2) := (rfl)
theorem tstM_a (h : D → D → Option Bool) (f g : EM) (r : Rho) : tstM h f g r = (f r).bind fun p => (g p.2).bind fun q => (h p.1 q.1).map fun b => (b, q.2) := (rfl)
theorem notM_a (f : TM) (r : Rho) : notM f r = (f r).map fun p => (!p.1, p.2) := (rfl)
def cnd {α : Type} (b : Bool) (x y : Unit → α) : α := if b = true then x () else y ()
theorem cnd_t {α : Type} (x y : Unit → α) : cnd true x y = x () := (rfl)
theorem cnd_f {α : Type} (x y : Unit → α) : cnd false x y = y () := (rfl)
theorem cnd_congr {α : Type} {b c : Bool} {x y : Unit → α} (h : b = c) : cnd b x y = cnd c x y := by rw [h]
theorem andM_a (f g : TM) (r : Rho) : andM f g r = (f r).bind fun p => cnd p.1 (fun _ => g p.2) (fun _ => some (false, p.2)) := (rfl)
theorem orM_a (f g : TM) (r : Rho) : orM f g r = (f r).bind fun p => cnd p.1 (fun _ => some (true, p.2)) (fun _ => g p.2) := (rfl)
theorem andVM_a (f g : EM) (r : Rho) : andVM f g r = (f r).bind fun p => (truD p.1).bind fun b => cnd b (fun _ => g p.2) (fun _ => some (p.1, p.2)) := (rfl)
theorem orVM_a (f g : EM) (r : Rho) : orVM f g r = (f r).bind fun p => (truD p.1).bind fun b => cnd b (fun _ => some (p.1, p.2)) (fun _ => g p.2) := (rfl)
theorem notVM_a (f : EM) (r : Rho) : notVM f r = (f r).bind fun p => (truD p.1).map fun b => (.bool (!b), p.2) := (rfl)
theorem iteM_a (t : TM) (f g : EM) (r : Rho) : iteM t f g r = (t r).bind fun p => cnd p.1 (fun _ => f p.2) (fun _ => g p.2) := (rfl)
theorem chM_a (h1 h2 : D → D → Option Bool) (f g k : EM) (r : Rho) : chM h1 h2 f g k r = (f r).bind fun p => (g p.2).bind fun q => (h1 p.1 q.1).bind fun b => cnd b (fun _ => (k q.2).bind fun w => (h2 q.1 w.1).map fun c => (.bool c, w.2)) (fun _ => some (.bool false, q.2)) := (rfl)
theorem nilM_a (r : Rho) : nilM r = some ([], r) := (rfl)
theorem consM_a (f : EM) (g : AM) (r : Rho) : consM f g r = (f r).bind fun p => (g p.2).map fun q => (p.1 :: q.1, q.2) := (rfl)
def guard' {α : Type} (b : Bool) (x : Unit → Option α) : Option α := if b = true then x () else none
theorem guard_t {α : Type} {b : Bool} (x : Unit → Option α) (h : b = true) : guard' b x = x () := by unfold guard'; rw [if_pos h]
theorem guard_tt {α : Type} (x : Unit → Option α) : guard' true x = x () := (rfl)
theorem guard_congr {α : Type} {b c : Bool} {x : Unit → Option α} (h : b = c) : guard' b x = guard' c x := by rw [h]
theorem tupM_a (f : AM) (r : Rho) : tupM f r = (f r).bind fun p => guard' (szOk p.1.length) fun _ => some (.tuple p.1, p.2) := (rfl)
theorem lstM_a (f : AM) (r : Rho) : lstM f r = (f r).bind fun p => guard' (szOk p.1.length) fun _ => some p := (rfl)
theorem noM_a (r : Rho) : noM r = some (none, r) := (rfl)
def intV : D → Option Int
  | .int i => some i
  | _ => none
theorem intV_i (i : Int) : intV (.int i) = some i := (rfl)
theorem someM_a (f : EM) (r : Rho) : someM f r = (f r).bind fun p => (intV p.1).map fun i => (some i, p.2) := by
  unfold someM
  cases f r with
  | none => rfl
  | some p => obtain ⟨d, r1⟩ := p; cases d <;> rfl
theorem slM_a (f : EM) (l u : OM) (r : Rho) : slM f l u r = (f r).bind fun p => (l p.2).bind fun q => (u q.2).bind fun w => (slD p.1 q.1 w.1).map fun d => (d, w.2) := (rfl)
theorem rng1M_a (f : EM) (r : Rho) : rng1M f r = (f r).bind fun p => (intV p.1).bind fun j => guard' (rngOk j) fun _ => some (rngL 0 j, p.2) := by
  unfold rng1M
  cases f r with
  | none => rfl
  | some p => obtain ⟨d, r1⟩ := p; cases d <;> rfl
theorem rng2M_a (f g : EM) (r : Rho) : rng2M f g r = (f r).bind fun p => (g p.2).bind fun q => (intV p.1).bind fun i => (intV q.1).bind fun j => guard' (rngOk i && rngOk j) fun _ => some (rngL i j, q.2) := by
  unfold rng2M
  cases f r with
  | none => rfl
  | some p =>
    obtain ⟨d, r1⟩ := p
    simp only [ob_some]
    cases g r1 with
    | none => rfl
    | some q => obtain ⟨e, r2⟩ := q; cases d <;> cases e <;> rfl
def zipV : D → D → Option (List D)
  | .tuple xs, .tuple ys => some (zipL xs ys)
  | .list xs, .list ys => some (zipL xs ys)
  | _, _ => none
theorem zipV_t (xs ys : List D) : zipV (.tuple xs) (.tuple ys) = some (zipL xs ys) := (rfl)
theorem zipV_l (xs ys : List D) : zipV (.list xs) (.list ys) = some (zipL xs ys) := (rfl)
theorem zipM_a (f g : EM) (r : Rho) : zipM f g r = (f r).bind fun p => (g p.2).bind fun q => (zipV p.1 q.1).map fun z => (z, q.2) := by
  unfold zipM
  cases f r with
  | none => rfl
  | some p =>
    obtain ⟨d, r1⟩ := p
    simp only [ob_some]
    cases g r1 with
    | none => rfl
    | some q => obtain ⟨e, r2⟩ := q; cases d <;> cases e <;> rfl
theorem seqM_a (f : EM) (r : Rho) : seqM f r = (f r).bind fun p => (itemsOf p.1).map fun ds => (ds, p.2) := (rfl)
theorem callM_a (g : List D → Option D) (f : AM) (r : Rho) : callM g f r = (f r).bind fun p => (g p.1).map fun d => (d, p.2) := (rfl)
theorem hereM_a (i : Nat) (f : AM) (r : Rho) : hereM i f r = (ownM i r).bind fun _ => f r := (rfl)
theorem callRM_a (i : Nat) (g : List D → List D → Option (D × List D)) (f : AM) (r : Rho) : callRM i g f r = (f r).bind fun p => (gt p.2 i).bind fun s => s.lis.bind fun x => (g p.1 x.2).map fun q => (q.1, p.2.set i (some (.l x.1 q.2))) := by
  unfold callRM gt
  cases f r with
  | none => rfl
  | some p =>
    simp only [ob_some]
    cases p.2[i]? with
    | none => rfl
    | some o => cases o with
      | none => rfl
      | some s => cases s <;> rfl
theorem appM_a (i : Nat) (f : EM) (r : Rho) : appM i f r = (ownM i r).bind fun _ => (f r).bind fun p => (gt p.2 i).bind fun s => s.lis.bind fun x => guard' (szOk x.2.length) fun _ => some (.none, p.2.set i (some (.l x.1 (x.2 ++ [p.1])))) := by
  unfold appM gt
  congr 1; funext _
  congr 1; funext p
  cases p.2[i]? with
  | none => rfl
  | some o => cases o with
    | none => rfl
    | some s => cases s <;> rfl
def lisV : D → Option (List D)
  | .list x => some x
  | _ => none
theorem lisV_l (x : List D) : lisV (.list x) = some x := (rfl)
theorem extM_a (i : Nat) (f : EM) (r : Rho) : extM i f r = (ownM i r).bind fun _ => (f r).bind fun p => (gt p.2 i).bind fun s => s.lis.bind fun x => (lisV p.1).bind fun y => guard' (szOk (x.2.length + y.length)) fun _ => some (.none, p.2.set i (some (.l x.1 (x.2 ++ y)))) := by
  unfold extM gt
  congr 1; funext _
  congr 1; funext p
  cases p.2[i]? with
  | none => rfl
  | some o => cases o with
    | none => rfl
    | some s => cases s with
      | l b xs => obtain ⟨d, r1⟩ := p; cases d <;> rfl
      | _ => obtain ⟨d, r1⟩ := p; cases d <;> rfl
theorem catOwnM_a (i : Nat) (g : EM) (r : Rho) : catOwnM i g r = (ownM i r).bind fun _ => (g r).bind fun p => (gt p.2 i).bind fun s => s.lis.bind fun x => (lisV p.1).bind fun y => guard' (szOk (x.2.length + y.length)) fun _ => some (x.2 ++ y, p.2) := by
  unfold catOwnM gt
  congr 1; funext _
  congr 1; funext p
  cases p.2[i]? with
  | none => rfl
  | some o => cases o with
    | none => rfl
    | some s => cases s with
      | l b xs => obtain ⟨d, r1⟩ := p; cases d <;> rfl
      | _ => obtain ⟨d, r1⟩ := p; cases d <;> rfl
theorem popM_a (i : Nat) (r : Rho) : popM i r = (gt r i).bind fun s => s.lis.bind fun x => (x.2[x.2.length - 1]?).map fun d => (d, r.set i (some (.l x.1 x.2.dropLast))) := by
  unfold popM gt
  cases r[i]? with
  | none => rfl
  | some o => cases o with
    | none => rfl
    | some s => cases s <;> rfl
theorem popAtM_a (i : Nat) (f : EM) (r : Rho) : popAtM i f r = (ownM i r).bind fun _ => (f r).bind fun p => (gt p.2 i).bind fun s => s.lis.bind fun x => (intV p.1).bind fun j => guard' (decide (0 ≤ j ∧ j < 1000000)) fun _ => (x.2[j.toNat]?).map fun d => (d, p.2.set i (some (.l x.1 (x.2.eraseIdx j.toNat)))) := by
  unfold popAtM gt
  congr 1; funext _
  congr 1; funext p
  cases p.2[i]? with
  | none => rfl
  | some o => cases o with
    | none => rfl
    | some s => cases s with
      | l b xs => obtain ⟨d, r1⟩ := p; cases d <;> (try rfl); simp [guard', SV.lis, intV]
      | _ => obtain ⟨d, r1⟩ := p; cases d <;> rfl
theorem newDM_a (i : Nat) (t : Bool) (r : Rho) : newDM i t r = some (.nx (r.set i (some (.m false t [])))) := (rfl)
theorem putM_a (i : Nat) (fk fv : EM) (r : Rho) : putM i fk fv r = (fv r).bind fun p => (gt p.2 i).bind fun s => s.dic.bind fun _ => (fk p.2).bind fun q => (gt q.2 i).bind fun s => s.dic.bind fun x => (dkOf x.2.1 q.1).bind fun k => guard' (szOk x.2.2.length) fun _ => some (.nx (q.2.set i (some (.m x.1 x.2.1 (putG x.2.2 k p.1))))) := by
  unfold putM gt
  congr 1; funext p
  cases p.2[i]? with
  | none => rfl
  | some o => cases o with
    | none => rfl
    | some s => cases s with
      | m b t xs =>
        simp only [ob_some, id, SV.dic]
        congr 1; funext q
        cases q.2[i]? with
        | none => rfl
        | some o => cases o with
          | none => rfl
          | some s => cases s <;> rfl
      | _ => rfl
theorem lenDM_a (i : Nat) (r : Rho) : lenDM i r = (gt r i).bind fun s => s.dic.bind fun x => guard' x.2.1 fun _ => some (.int x.2.2.length, r) := by
  unfold lenDM gt
  cases r[i]? with
  | none => rfl
  | some o => cases o with
    | none => rfl
    | some s => cases s with
      | m b t xs => cases t <;> rfl
      | _ => rfl
theorem sortDM_a (i : Nat) (r : Rho) : sortDM i r = (gt r i).bind fun s => s.dic.bind fun x => guard' x.2.1 fun _ => guard' (sortOk (x.2.2.map fun kv => dkD kv.1)) fun _ => some (.list (sortL (x.2.2.map fun kv => dkD kv.1)), r) := by
  unfold sortDM gt
  cases r[i]? with
  | none => rfl
  | some o => cases o with
    | none => rfl
    | some s => cases s with
      | m b t xs => cases t <;> rfl
      | _ => rfl
/-! targets -/
theorem nameG_a (i : Nat) (r : Rho) (d : D) : nameG i r d = some (r.set i (some (.d d))) := (rfl)
theorem nilG_a (r : Rho) : nilG r [] = some r := (rfl)
theorem consG_a (t : GM) (u : GMs) (r : Rho) (d : D) (ds : List D) : consG t u r (d :: ds) = (t r d).bind fun r1 => u r1 ds := (rfl)
theorem tupG_a (n : Nat) (t : GMs) (r : Rho) (ds : List D) : tupG n t r (.tuple ds) = guard' (decide (ds.length = n)) fun _ => t r ds := by
  unfold tupG guard'
  simp only [decide_eq_true_eq]
/-! statements -/
def seqK (g : SM) : Out → Option Out
  | .nx r1 => g r1
  | o => some o
theorem seqS_a (f g : SM) (r : Rho) : seqS f g r = (f r).bind (seqK g) := by
  unfold seqS
  cases f r with
  | none => rfl
  | some o => cases o <;> rfl
theorem seqK_nx (g : SM) (r : Rho) : seqK g (.nx r) = g r := (rfl)
theorem seqK_rt (g : SM) (d : D) (r : Rho) : seqK g (.rt d r) = some (.rt d r) := (rfl)
theorem seqK_ct (g : SM) (r : Rho) : seqK g (.ct r) = some (.ct r) := (rfl)
theorem skipM_a (r : Rho) : skipM r = some (.nx r) := (rfl)
theorem asgM_a (i : Nat) (f : EM) (r : Rho) : asgM i f r = (f r).map fun p => .nx (p.2.set i (some (.d p.1))) := (rfl)
theorem asgG_a (g : GM) (f : EM) (r : Rho) : asgG g f r = (f r).bind fun p => (g p.2 p.1).map .nx := (rfl)
theorem newM_a (i : Nat) (f : AM) (r : Rho) : newM i f r = (f r).map fun p => .nx (p.2.set i (some (.l false p.1))) := (rfl)
theorem asgLM_a (i : Nat) (f : AM) (r : Rho) : asgLM i f r = (f r).map fun p => .nx (p.2.set i (some (.d (.list p.1)))) := (rfl)
theorem retM_a (f : EM) (r : Rho) : retM f r = (f r).map fun p => .rt p.1 p.2 := (rfl)
theorem exprM_a (f : EM) (r : Rho) : exprM f r = (f r).map fun p => .nx p.2 := (rfl)
theorem ifM_a (t : TM) (f g : SM) (r : Rho) : ifM t f g r = (t r).bind fun p => cnd p.1 (fun _ => f p.2) (fun _ => g p.2) := (rfl)
theorem contM_a (r : Rho) : contM r = some (.ct r) := (rfl)
theorem brkM_a (r : Rho) : brkM r = some (.bk r) := (rfl)
theorem forM_a (it : AM) (g : GM) (f : SM) (r : Rho) : forM it g f r = (it r).bind fun p => forL g f p.1 p.2 := (rfl)
theorem frzM_a (i : Nat) (f : SM) (r : Rho) : frzM i f r = (gt r i).bind fun s => s.lis.bind fun x => f (r.set i (some (.d (.list x.2)))) := by
  unfold frzM frzR gt
  cases r[i]? with
  | none => rfl
  | some o => cases o with
    | none => rfl
    | some s => cases s <;> rfl
def finF : Out → Option D
  | .rt d _ => some d
  | .nx _ => some .none
  | _ => none
theorem runF_a (N : List Str) (b : SM) (ds : List D) : runF N b ds = (b (startD N ds)).bind finF := by
  unfold runF
  cases b (startD N ds) with
  | none => rfl
  | some o => cases o <;> rfl
theorem finF_rt (d : D) (r : Rho) : finF (.rt d r) = some d := (rfl)
theorem finF_nx (r : Rho) : finF (.nx r) = some .none := (rfl)
def finR (j : Nat) : Out → Option (D × List D)
  | .rt d r => (gt r j).bind fun s => s.lis.bind fun x => guard' x.1 fun _ => some (d, x.2)
  | .nx r => (gt r j).bind fun s => s.lis.bind fun x => guard' x.1 fun _ => some (.none, x.2)
  | _ => none
theorem endR_a (j : Nat) (r : Rho) (d : D) : (endR j r).map (fun ys => (d, ys)) = (gt r j).bind fun s => s.lis.bind fun x => guard' x.1 fun _ => some (d, x.2) := by
  unfold endR gt
  cases r[j]? with
  | none => rfl
  | some o => cases o with
    | none => rfl
    | some s => cases s with
      | l b xs => cases b <;> rfl
      | _ => rfl
theorem runR_a (N : List Str) (j : Nat) (b : SM) (ds xs : List D) : runR N j b ds xs = (b (startR N j ds xs)).bind (finR j) := by
  unfold runR
  cases b (startR N j ds xs) with
  | none => rfl
  | some o => cases o <;> first | rfl | exact endR_a _ _ _
theorem finR_rt (j : Nat) (d : D) (r : Rho) : finR j (.rt d r) = (gt r j).bind fun s => s.lis.bind fun x => guard' x.1 fun _ => some (d, x.2) := (rfl)
theorem finR_nx (j : Nat) (r : Rho) : finR j (.nx r) = (gt r j).bind fun s => s.lis.bind fun x => guard' x.1 fun _ => some (.none, x.2) := (rfl)
/-! data -/
theorem szOk_of {n : Nat} (h : n ≤ 1000000) : szOk n = true := decide_eq_true h
theorem sz_0 : szOk 0 = true := by decide
theorem sz_1 : szOk 1 = true := by decide
theorem sz_2 : szOk 2 = true := by decide
theorem sz_3 : szOk 3 = true := by decide
theorem sz_4 : szOk 4 = true := by decide
theorem sz_5 : szOk 5 = true := by decide
theorem sz_6 : szOk 6 = true := by decide
theorem sz_7 : szOk 7 = true := by decide
theorem sz_8 : szOk 8 = true := by decide
theorem sz_9 : szOk 9 = true := by decide
theorem sz_10 : szOk 10 = true := by decide
theorem sz_11 : szOk 11 = true := by decide
theorem sz_12 : szOk 12 = true := by decide
theorem sz_13 : szOk 13 = true := by decide
theorem sz_14 : szOk 14 = true := by decide
theorem sz_15 : szOk 15 = true := by decide
theorem sz_16 : szOk 16 = true := by decide
theorem sz_17 : szOk 17 = true := by decide
theorem sz_18 : szOk 18 = true := by decide
theorem sz_19 : szOk 19 = true := by decide
theorem sz_20 : szOk 20 = true := by decide
theorem sz_21 : szOk 21 = true := by decide
theorem sz_22 : szOk 22 = true := by decide
theorem sz_23 : szOk 23 = true := by decide
theorem sz_24 : szOk 24 = true := by decide
theorem sz_25 : szOk 25 = true := by decide
theorem sz_26 : szOk 26 = true := by decide
theorem sz_27 : szOk 27 = true := by decide
theorem sz_28 : szOk 28 = true := by decide
theorem sz_29 : szOk 29 = true := by decide
theorem sz_30 : szOk 30 = true := by decide
theorem nc_0 : ((0 : Nat) : Int) = 0 := (rfl)
theorem nc_1 : ((1 : Nat) : Int) = 1 := (rfl)
theorem nc_2 : ((2 : Nat) : Int) = 2 := (rfl)
theorem nc_3 : ((3 : Nat) : Int) = 3 := (rfl)
theorem nc_4 : ((4 : Nat) : Int) = 4 := (rfl)
theorem nc_5 : ((5 : Nat) : Int) = 5 := (rfl)
theorem nc_6 : ((6 : Nat) : Int) = 6 := (rfl)
theorem nc_7 : ((7 : Nat) : Int) = 7 := (rfl)
theorem nc_8 : ((8 : Nat) : Int) = 8 := (rfl)
theorem nc_9 : ((9 : Nat) : Int) = 9 := (rfl)
theorem nc_10 : ((10 : Nat) : Int) = 10 := (rfl)
theorem nc_11 : ((11 : Nat) : Int) = 11 := (rfl)
theorem nc_12 : ((12 : Nat) : Int) = 12 := (rfl)
theorem nc_13 : ((13 : Nat) : Int) = 13 := (rfl)
theorem nc_14 : ((14 : Nat) : Int) = 14 := (rfl)
theorem nc_15 : ((15 : Nat) : Int) = 15 := (rfl)
theorem nc_16 : ((16 : Nat) : Int) = 16 := (rfl)
theorem nc_17 : ((17 : Nat) : Int) = 17 := (rfl)
theorem nc_18 : ((18 : Nat) : Int) = 18 := (rfl)
theorem nc_19 : ((19 : Nat) : Int) = 19 := (rfl)
theorem nc_20 : ((20 : Nat) : Int) = 20 := (rfl)
theorem nc_21 : ((21 : Nat) : Int) = 21 := (rfl)
theorem nc_22 : ((22 : Nat) : Int) = 22 := (rfl)
theorem nc_23 : ((23 : Nat) : Int) = 23 := (rfl)
theorem nc_24 : ((24 : Nat) : Int) = 24 := (rfl)
theorem nc_25 : ((25 : Nat) : Int) = 25 := (rfl)
theorem nc_26 : ((26 : Nat) : Int) = 26 := (rfl)
theorem nc_27 : ((27 : Nat) : Int) = 27 := (rfl)
theorem nc_28 : ((28 : Nat) : Int) = 28 := (rfl)
theorem nc_29 : ((29 : Nat) : Int) = 29 := (rfl)
theorem nc_30 : ((30 : Nat) : Int) = 30 := (rfl)
theorem addD_i (i j : Int) : addD (.int i) (.int j) = some (.int (i + j)) := (rfl)
theorem addD_t (xs ys : List D) : addD (.tuple xs) (.tuple ys) = guard' (szOk (xs.length + ys.length)) fun _ => some (.tuple (xs ++ ys)) := (rfl)
theorem addD_l (xs ys : List D) : addD (.list xs) (.list ys) = guard' (szOk (xs.length + ys.length)) fun _ => some (.list (xs ++ ys)) := (rfl)
theorem subD_i (i j : Int) : subD (.int i) (.int j) = some (.int (i - j)) := (rfl)
theorem modD_i (i j : Int) : modD (.int i) (.int j) = guard' (decide (0 < j)) fun _ => some (.int (i % j)) := by simp [modD, guard']
theorem fdivD_i (i j : Int) : fdivD (.int i) (.int j) = guard' (decide (0 < j ∧ j < 1073741824)) fun _ => some (.int (i / j)) := by simp [fdivD, guard']
def mulOk (i j : Int) : Bool := decide ((-(2 ^ 64) < i ∧ i < 2 ^ 64) ∨ (-(2 ^ 64) < j ∧ j < 2 ^ 64))
theorem mulD_i (i j : Int) : mulD (.int i) (.int j) = guard' (mulOk i j) fun _ => some (.int (i * j)) := by simp [mulD, guard', mulOk]
theorem lenD_t (x : List D) : lenD (.tuple x) = some (.int x.length) := (rfl)
theorem lenD_l (x : List D) : lenD (.list x) = some (.int x.length) := (rfl)
theorem tupleD_t (x : List D) : tupleD (.tuple x) = some (.tuple x) := (rfl)
theorem tupleD_l (x : List D) : tupleD (.list x) = some (.tuple x) := (rfl)
theorem listD_t (x : List D) : listD (.tuple x) = some (.list x) := (rfl)
theorem listD_l (x : List D) : listD (.list x) = some (.list x) := (rfl)
theorem truD_i (i : Int) : truD (.int i) = some (i != 0) := (rfl)
theorem truD_b (b : Bool) : truD (.bool b) = some b := (rfl)
theorem truD_n : truD .none = some false := (rfl)
theorem truD_l (x : List D) : truD (.list x) = some (!x.isEmpty) := (rfl)
theorem truD_t (x : List D) : truD (.tuple x) = some (!x.isEmpty) := (rfl)
theorem ixD_t (x : List D) (i : Int) : ixD (.tuple x) (.int i) = atI x i := (rfl)
theorem ixD_l (x : List D) (i : Int) : ixD (.list x) (.int i) = atI x i := (rfl)
theorem negD_i (i : Int) : negD (.int i) = some (.int (-i)) := (rfl)
theorem bD_a (h : D → D → Option Bool) (d e : D) : bD h d e = (h d e).map .bool := (rfl)
theorem ltB_i (i j : Int) : ltB (.int i) (.int j) = some (decide (i < j)) := (rfl)
theorem leB_i (i j : Int) : leB (.int i) (.int j) = some (decide (i ≤ j)) := (rfl)
theorem gtB_i (i j : Int) : gtB (.int i) (.int j) = some (decide (j < i)) := (rfl)
theorem geB_i (i j : Int) : geB (.int i) (.int j) = some (decide (j ≤ i)) := (rfl)
theorem eqB_i (i j : Int) : eqB (.int i) (.int j) = some (i == j) := (rfl)
theorem neB_i (i j : Int) : neB (.int i) (.int j) = some (!(i == j)) := (rfl)
theorem min2D_i (i j : Int) : min2D (.int i) (.int j) = some (.int (min i j)) := by
  unfold min2D; simp only [Option.some.injEq, PyData.int.injEq]; split <;> omega
theorem max2D_i (i j : Int) : max2D (.int i) (.int j) = some (.int (max i j)) := by
  unfold max2D; simp only [Option.some.injEq, PyData.int.injEq]; split <;> omega
theorem items_t (x : List D) : itemsOf (.tuple x) = some x := (rfl)
theorem items_l (x : List D) : itemsOf (.list x) = some x := (rfl)
theorem intD_b (b : Bool) : intD (.bool b) = some (.int (if b = true then 1 else 0)) := (rfl)
theorem isNN : isB .none .none = some true := (rfl)
theorem slD_t (x : List D) (l u : Option Int) : slD (.tuple x) l u = some (.tuple (cutD x l u)) := (rfl)
theorem slD_l (x : List D) (l u : Option Int) : slD (.list x) l u = some (.list (cutD x l u)) := (rfl)
theorem rng_ok {i : Int} (h1 : -1000000 ≤ i) (h2 : i ≤ 1000000) : rngOk i = true := by unfold rngOk; simp [h1, h2]
/-! plain steps -/
theorem p_ge0 {α : Type} (a : α) (l : List α) : (a :: l)[0]? = some a := (rfl)
theorem p_geS {α : Type} (a : α) (l : List α) (i : Nat) : (a :: l)[i + 1]? = l[i]? := (rfl)
theorem p_tk0 {α : Type} (l : List α) : l.take 0 = [] := by cases l <;> rfl
theorem p_tkS {α : Type} (a : α) (l : List α) (i : Nat) : (a :: l).take (i + 1) = a :: l.take i := (rfl)
theorem p_tkN {α : Type} (i : Nat) : ([] : List α).take i = [] := by cases i <;> rfl
theorem p_dr0 {α : Type} (l : List α) : l.drop 0 = l := by cases l <;> rfl
theorem p_drS {α : Type} (a : α) (l : List α) (i : Nat) : (a :: l).drop (i + 1) = l.drop i := (rfl)
theorem p_drN {α : Type} (i : Nat) : ([] : List α).drop i = [] := by cases i <;> rfl
theorem p_mpC {α β : Type} (f : α → β) (a : α) (l : List α) : (a :: l).map f = f a :: l.map f := (rfl)
theorem p_mpN {α β : Type} (f : α → β) : ([] : List α).map f = [] := (rfl)
theorem p_apC {α : Type} (a : α) (l m : List α) : a :: l ++ m = a :: (l ++ m) := (rfl)
theorem p_apN {α : Type} (l : List α) : [] ++ l = l := (rfl)
theorem p_lnC {α : Type} (a : α) (l : List α) : (a :: l).length = l.length + 1 := (rfl)
theorem p_lnN {α : Type} : ([] : List α).length = 0 := (rfl)
theorem p_rpS {α : Type} (n : Nat) (a : α) : List.replicate (n + 1) a = a :: List.replicate n a := (rfl)
theorem p_rp0 {α : Type} (a : α) : List.replicate 0 a = [] := (rfl)
theorem p_alC {α : Type} (p : α → Bool) (a : α) (l : List α) : (a :: l).all p = (p a && l.all p) := (rfl)
theorem p_alN {α : Type} (p : α → Bool) : ([] : List α).all p = true := (rfl)
theorem p_gdS {α : Type} (a b : α) : (some a).getD b = a := (rfl)
theorem p_gdN {α : Type} (b : α) : (none : Option α).getD b = b := (rfl)
theorem p_tlS {α : Type} (a : α) : (some a).toList = [a] := (rfl)
theorem p_tlN {α : Type} : (none : Option α).toList = [] := (rfl)
theorem p_ieC {α : Type} (a : α) (l : List α) : (a :: l).isEmpty = false := (rfl)
theorem p_ieN {α : Type} : ([] : List α).isEmpty = true := (rfl)
theorem p_nt : (!true) = false := (rfl)
theorem p_nf : (!false) = true := (rfl)
theorem p_atb (b : Bool) : (true && b) = b := (rfl)
theorem p_afb (b : Bool) : (false && b) = false := (rfl)
theorem p_abt (b : Bool) : (b && true) = b := by cases b <;> rfl
theorem p_abf (b : Bool) : (b && false) = false := by cases b <;> rfl
theorem p_eqS {α : Sort _} (a : α) : (a = a) = True := eq_true rfl
theorem p_dT {h : Decidable True} : @decide True h = true := by simp
theorem p_dF {h : Decidable False} : @decide False h = false := by simp
theorem p_TA (p : Prop) : (True ∧ p) = p := by simp
theorem p_AT (p : Prop) : (p ∧ True) = p := by simp
theorem p_TO (p : Prop) : (True ∨ p) = True := by simp
theorem p_OT (p : Prop) : (p ∨ True) = True := by simp
theorem p_startD (N : List Str) (ds : List D) : startD N ds = ds.map (fun d => some (.d d)) ++ List.replicate (N.length - ds.length) none := (rfl)
theorem p_startR (N : List Str) (j : Nat) (ds : List D) (xs : List D) : startR N j ds xs = (ds.take j).map (fun d => some (.d d)) ++ some (.l true xs) :: ((ds.drop j).map (fun d => some (.d d)) ++ List.replicate (N.length - (ds.length + 1)) none) := (rfl)
end DL

local macro_rules | `(tactic| simp_arith [$xs,*]) => `(tactic| simp only [DL.ob_some, DL.om_some, DL.dat_d, DL.lis_l, DL.dic_m, DL.gt_0, DL.gt_1, DL.gt_2, DL.gt_3, DL.gt_4, DL.gt_5, DL.gt_6, DL.gt_7, DL.gt_b, DL.st_0, DL.st_s, DL.plG_d, DL.plG_n, DL.plainAt_a, DL.varM_a, DL.ownM_a, DL.cM_a, DL.ofL_a, DL.opM_a, DL.opOwnM_a, DL.unM_a, DL.truM_a, DL.tstM_a, DL.notM_a, DL.cnd_t, DL.cnd_f, DL.andM_a, DL.orM_a, DL.andVM_a, DL.orVM_a, DL.notVM_a, DL.iteM_a, DL.chM_a, DL.nilM_a, DL.consM_a, DL.guard_tt, DL.tupM_a, DL.lstM_a, DL.noM_a, DL.intV_i, DL.someM_a, DL.slM_a, DL.rng1M_a, DL.rng2M_a, DL.zipV_t, DL.zipV_l, DL.zipM_a, DL.seqM_a, DL.callM_a, DL.hereM_a, DL.callRM_a, DL.appM_a, DL.lisV_l, DL.extM_a, DL.catOwnM_a, DL.popM_a, DL.popAtM_a, DL.newDM_a, DL.putM_a, DL.lenDM_a, DL.sortDM_a, DL.nameG_a, DL.nilG_a, DL.consG_a, DL.tupG_a, DL.seqS_a, DL.seqK_nx, DL.seqK_rt, DL.seqK_ct, DL.skipM_a, DL.asgM_a, DL.asgG_a, DL.newM_a, DL.asgLM_a, DL.retM_a, DL.exprM_a, DL.ifM_a, DL.contM_a, DL.brkM_a, DL.forM_a, DL.frzM_a, DL.runF_a, DL.finF_rt, DL.finF_nx, DL.runR_a, DL.finR_rt, DL.finR_nx, DL.sz_0, DL.sz_1, DL.sz_2, DL.sz_3, DL.sz_4, DL.sz_5, DL.sz_6, DL.sz_7, DL.sz_8, DL.sz_9, DL.sz_10, DL.sz_11, DL.sz_12, DL.sz_13, DL.sz_14, DL.sz_15, DL.sz_16, DL.sz_17, DL.sz_18, DL.sz_19, DL.sz_20, DL.sz_21, DL.sz_22, DL.sz_23, DL.sz_24, DL.sz_25, DL.sz_26, DL.sz_27, DL.sz_28, DL.sz_29, DL.sz_30, DL.nc_0, DL.nc_1, DL.nc_2, DL.nc_3, DL.nc_4, DL.nc_5, DL.nc_6, DL.nc_7, DL.nc_8, DL.nc_9, DL.nc_10, DL.nc_11, DL.nc_12, DL.nc_13, DL.nc_14, DL.nc_15, DL.nc_16, DL.nc_17, DL.nc_18, DL.nc_19, DL.nc_20, DL.nc_21, DL.nc_22, DL.nc_23, DL.nc_24, DL.nc_25, DL.nc_26, DL.nc_27, DL.nc_28, DL.nc_29, DL.nc_30, DL.addD_i, DL.addD_t, DL.addD_l, DL.subD_i, DL.modD_i, DL.fdivD_i, DL.mulD_i, DL.lenD_t, DL.lenD_l, DL.tupleD_t, DL.tupleD_l, DL.listD_t, DL.listD_l, DL.truD_i, DL.truD_b, DL.truD_n, DL.truD_l, DL.truD_t, DL.ixD_t, DL.ixD_l, DL.negD_i, DL.bD_a, DL.ltB_i, DL.leB_i, DL.gtB_i, DL.geB_i, DL.eqB_i, DL.neB_i, DL.min2D_i, DL.max2D_i, DL.items_t, DL.items_l, DL.intD_b, DL.isNN, DL.slD_t, DL.slD_l, DL.p_ge0, DL.p_geS, DL.p_tk0, DL.p_tkS, DL.p_tkN, DL.p_dr0, DL.p_drS, DL.p_drN, DL.p_mpC, DL.p_mpN, DL.p_apC, DL.p_apN, DL.p_lnC, DL.p_lnN, DL.p_rpS, DL.p_rp0, DL.p_alC, DL.p_alN, DL.p_gdS, DL.p_gdN, DL.p_tlS, DL.p_tlN, DL.p_ieC, DL.p_ieN, DL.p_nt, DL.p_nf, DL.p_atb, DL.p_afb, DL.p_abt, DL.p_abf, DL.p_eqS, DL.p_dT, DL.p_dF, DL.p_TA, DL.p_AT, DL.p_TO, DL.p_OT, DL.p_startD, DL.p_startR, Nat.reduceAdd, Nat.reduceSub, Nat.reduceMul, Int.reduceLT, Int.reduceLE, Int.reducePow, Int.reduceNeg, Int.reduceAdd, Int.reduceSub, Int.reduceMul, Int.reduceBEq, Int.reduceBNe, Int.reduceToNat, $xs,*])
namespace DL
open PySem L2
theorem atI_lt {α : Type} {xs : List α} {i : Int} (h0 : 0 ≤ i) (h1 : i < xs.length) : ∃ x, atI xs i = some x ∧ xs[i.toNat]? = some x := by
  have hl : i.toNat < xs.length := by omega
  refine ⟨xs[i.toNat], ?_, by simp [hl]⟩
  unfold atI ixN
  rw [if_pos h0, if_pos h1]
  simp [hl]
theorem atI_mem {α : Type} {xs : List α} {i : Int} (h0 : 0 ≤ i) (h1 : i < xs.length) : ∃ x ∈ xs, atI xs i = some x := by
  obtain ⟨x, h, g⟩ := atI_lt h0 h1
  exact ⟨x, List.mem_of_getElem? g, h⟩
theorem atI_map {α β : Type} (f : α → β) (xs : List α) (i : Int) : atI (xs.map f) i = (atI xs i).map f := by
  unfold atI
  rw [List.length_map]
  cases ixN xs.length i <;> simp
theorem sz_small {n : Nat} (h : n < 1000) : szOk n = true := szOk_of (by omega)
theorem gd_t {α : Type} {b : Bool} {x : Unit → Option α} (h : b = true) : guard' b x = x () := guard_t x h
theorem mulOk_of {i j : Int} (h1 : -18446744073709551616 < i) (h2 : i < 18446744073709551616) : mulOk i j = true := by
  unfold mulOk
  have e : (2 : Int) ^ 64 = 18446744073709551616 := by decide
  rw [e]
  exact decide_eq_true (.inl ⟨h1, h2⟩)
theorem mulOk_a (j : Int) : mulOk 104729 j = true := mulOk_of (by decide) (by decide)
theorem mulOk_b (x j : Int) : mulOk (x % 4294967291) j = true := mulOk_of (by have := Int.emod_nonneg x (b := 4294967291) (by decide); omega) (by have := Int.emod_lt_of_pos x (b := 4294967291) (by decide); omega)
theorem mulOk_c (x j : Int) : mulOk (x % 4294967279) j = true := mulOk_of (by have := Int.emod_nonneg x (b := 4294967279) (by decide); omega) (by have := Int.emod_lt_of_pos x (b := 4294967279) (by decide); omega)
end DL

namespace DL
open PySem L2 GT
/-! loops -/
def forK (g : GM) (f : SM) (xs : List D) : Out → Option Out
  | .nx r2 => forL g f xs r2
  | .ct r2 => forL g f xs r2
  | .bk r2 => some (.nx r2)
  | o => some o
theorem forL_nil (g : GM) (f : SM) (r : Rho) : forL g f [] r = some (.nx r) := (rfl)
theorem forL_cons (g : GM) (f : SM) (x : D) (xs : List D) (r : Rho) : forL g f (x :: xs) r = ((g r x).bind f).bind (forK g f xs) := by
  rw [forL]
  cases g r x with
  | none => rfl
  | some r1 =>
    simp only [ob_some]
    cases f r1 with
    | none => rfl
    | some o => cases o <;> rfl
theorem forK_nx (g : GM) (f : SM) (xs : List D) (r : Rho) : forK g f xs (.nx r) = forL g f xs r := (rfl)
theorem forK_ct (g : GM) (f : SM) (xs : List D) (r : Rho) : forK g f xs (.ct r) = forL g f xs r := (rfl)
theorem forK_rt (g : GM) (f : SM) (xs : List D) (d : D) (r : Rho) : forK g f xs (.rt d r) = some (.rt d r) := (rfl)
theorem forL_inv {A : Type} {g : GM} {f : SM} (enc : A → D) (P : List A → Rho → Prop)
    (step : ∀ a as r, P (a :: as) r → ∃ r2, ((g r (enc a)).bind f = some (.nx r2) ∨ (g r (enc a)).bind f = some (.ct r2)) ∧ P as r2) :
    ∀ as r, P as r → ∃ r', forL g f (as.map enc) r = some (.nx r') ∧ P [] r'
  | [], r, h => ⟨r, rfl, h⟩
  | a :: as, r, h => by
    obtain ⟨r2, h1, h3⟩ := step a as r h
    obtain ⟨r', h4, h5⟩ := forL_inv enc P step as r2 h3
    refine ⟨r', ?_, h5⟩
    rw [List.map_cons, forL_cons]
    rcases h1 with h1 | h1 <;> (rw [h1, ob_some]; exact h4)
/-- with a way out by return -/
theorem forL_ret {A : Type} {g : GM} {f : SM} (enc : A → D) (P : List A → Rho → Prop) (R : D → Rho → Prop)
    (step : ∀ a as r, P (a :: as) r → ∃ r2, ((g r (enc a)).bind f = some (.nx r2) ∧ P as r2) ∨ ∃ d, (g r (enc a)).bind f = some (.rt d r2) ∧ R d r2) :
    ∀ as r, P as r → ∃ r', (forL g f (as.map enc) r = some (.nx r') ∧ P [] r') ∨ ∃ d, forL g f (as.map enc) r = some (.rt d r') ∧ R d r'
  | [], r, h => ⟨r, .inl ⟨rfl, h⟩⟩
  | a :: as, r, h => by
    obtain ⟨r2, h2⟩ := step a as r h
    rcases h2 with ⟨h2, h3⟩ | ⟨d, h2, h3⟩
    · obtain ⟨r', h4⟩ := forL_ret enc P R step as r2 h3
      have e : forL g f ((a :: as).map enc) r = forL g f (as.map enc) r2 := by
        rw [List.map_cons, forL_cons, h2, ob_some]; rfl
      refine ⟨r', ?_⟩
      rw [e]; exact h4
    · refine ⟨r2, .inr ⟨d, ?_, h3⟩⟩
      rw [List.map_cons, forL_cons, h2, ob_some]; rfl
/-- one turn of a comprehension -/
def it1 (g : GM) (t : TM) (el : EM) (is : List Nat) (r : Rho) (x : D) : Option (Option D × Rho) :=
  (g r x).bind fun r1 => (t r1).bind fun p => cnd p.1 (fun _ => (el p.2).map fun q => (some q.1, wipeR q.2 is)) (fun _ => some (none, wipeR p.2 is))
theorem compL_cons (g : GM) (t : TM) (el : EM) (is : List Nat) (r : Rho) (x : D) (xs : List D) :
    compL g t el is (x :: xs) r = (it1 g t el is r x).bind fun q => (compL g t el is xs q.2).map fun w => (q.1.toList ++ w.1, w.2) := by
  unfold it1
  rw [compL]
  cases g r x with
  | none => rfl
  | some r1 =>
    simp only [ob_some]
    cases t r1 with
    | none => rfl
    | some p =>
      obtain ⟨b, r2⟩ := p
      cases b with
      | false =>
        simp only [ob_some, cnd_f, Bool.false_eq_true, if_false]
        cases compL g t el is xs (wipeR r2 is) <;> rfl
      | true =>
        simp only [ob_some, cnd_t, if_true]
        cases el r2 with
        | none => rfl
        | some q => rfl
/-- a comprehension with a state: what each turn gives is of a kind -/
theorem compL_inv {A : Type} {g : GM} {t : TM} {el : EM} {is : List Nat} (enc : A → D) (Q : A → D → Prop) (P : List A → Rho → Prop)
    (step : ∀ a as r, P (a :: as) r → ∃ o r', it1 g t el is r (enc a) = some (o, r') ∧ (∀ d, o = some d → Q a d) ∧ P as r') :
    ∀ as r, P as r → ∃ (bs : List (A × D)) (r' : Rho), (bs.map (·.1)).Sublist as ∧ (∀ b ∈ bs, Q b.1 b.2) ∧ compL g t el is (as.map enc) r = some (bs.map (·.2), r') ∧ P [] r'
  | [], r, h => ⟨[], r, .slnil, by simp, rfl, h⟩
  | a :: as, r, h => by
    obtain ⟨o, r1, h1, h2, h3⟩ := step a as r h
    obtain ⟨bs, r', s1, s2, s3, s4⟩ := compL_inv enc Q P step as _ h3
    cases o with
    | none =>
      refine ⟨bs, r', .cons a s1, s2, ?_, s4⟩
      rw [List.map_cons, compL_cons, h1, ob_some, s3]; rfl
    | some d =>
      refine ⟨(a, d) :: bs, r', .cons_cons a s1, fun b m => ?_, ?_, s4⟩
      · rcases List.mem_cons.mp m with rfl | m
        · exact h2 d rfl
        · exact s2 b m
      · rw [List.map_cons, compL_cons, h1, ob_some, s3]; rfl
/-- a comprehension that changes nothing -/
theorem compL_pure {A : Type} {g : GM} {t : TM} {el : EM} {is : List Nat} {r : Rho} (enc e : A → D) (p : A → Bool) :
    ∀ as : List A, (∀ a ∈ as, it1 g t el is r (enc a) = some (if p a = true then some (e a) else none, r)) →
    compL g t el is (as.map enc) r = some ((as.filter p).map e, r)
  | [], _ => rfl
  | a :: as, h => by
    have h1 := h a (by simp)
    have ih := compL_pure enc e p as fun b m => h b (List.mem_cons_of_mem _ m)
    rw [List.map_cons, compL_cons, h1, ob_some, ih]
    cases q : p a with
    | false => rw [List.filter_cons_of_neg (by simp [q])]; rfl
    | true => rw [List.filter_cons_of_pos (by simp [q])]; rfl
theorem compL_map {A : Type} {g : GM} {el : EM} {is : List Nat} {r : Rho} (enc e : A → D) (as : List A) (h : ∀ a ∈ as, it1 g yesM el is r (enc a) = some (some (e a), r)) :
    compL g yesM el is (as.map enc) r = some (as.map e, r) := by
  have := compL_pure (g := g) (t := yesM) (el := el) (is := is) (r := r) enc e (fun _ => true) as fun a m => by rw [h a m]; rfl
  rwa [List.filter_eq_self.mpr (by simp)] at this
theorem yesM_a (r : Rho) : yesM r = some (true, r) := (rfl)
theorem it1_a (g : GM) (t : TM) (el : EM) (is : List Nat) (r : Rho) (x : D) : it1 g t el is r x =
  (g r x).bind fun r1 => (t r1).bind fun p => cnd p.1 (fun _ => (el p.2).map fun q => (some q.1, wipeR q.2 is)) (fun _ => some (none, wipeR p.2 is)) := (rfl)
theorem compM_a (is : List Nat) (it : AM) (g : GM) (t : TM) (el : EM) (r : Rho) : compM is it g t el r = (it r).bind fun p => guard' (plainAt p.2 is && szOk p.1.length) fun _ => (compL g t el is p.1 (wipeR p.2 is)).map fun w => (w.1, restR w.2 p.2 is) := (rfl)
theorem wipeR_c (r : Rho) (i : Nat) (is : List Nat) : wipeR r (i :: is) = (wipeR r is).set i none := (rfl)
theorem wipeR_n (r : Rho) : wipeR r [] = r := (rfl)
theorem restR_c (r r1 : Rho) (i : Nat) (is : List Nat) : restR r r1 (i :: is) = (restR r r1 is).set i (r1[i]?.getD none) := (rfl)
theorem restR_n (r r1 : Rho) : restR r r1 [] = r := (rfl)
/-! the kinds of data -/
abbrev I (n : Int) : D := .int n
abbrev TI (xs : List Int) : D := .tuple (xs.map .int)
abbrev encT (t : Tie) : D := .tuple [.int t.1, .int t.2]
def encN (N : Net) : D := .tuple [.int N.n, .tuple (N.ties.map encT), TI N.rim]
theorem rngL_ir (n : Nat) : rngL 0 (n : Int) = (ir n).map .int := by
  unfold rngL ir
  simp [List.map_map]
theorem rngL_eq (a b : Int) : rngL a b = ((List.range (b - a).toNat).map fun (i : Nat) => a + (i : Int)).map .int := by
  unfold rngL
  simp [List.map_map]
theorem mem_rg {a b x : Int} : x ∈ ((List.range (b - a).toNat).map fun (i : Nat) => a + (i : Int)) ↔ a ≤ x ∧ x < b := by
  simp only [List.mem_map, List.mem_range]
  constructor
  · rintro ⟨i, h, rfl⟩; omega
  · rintro ⟨h1, h2⟩; exact ⟨(x - a).toNat, by omega, by omega⟩
end DL

local macro_rules | `(tactic| simp_arith [$xs,*]) => `(tactic| simp only [DL.ob_some, DL.om_some, DL.dat_d, DL.lis_l, DL.dic_m, DL.gt_0, DL.gt_1, DL.gt_2, DL.gt_3, DL.gt_4, DL.gt_5, DL.gt_6, DL.gt_7, DL.gt_b, DL.st_0, DL.st_s, DL.plG_d, DL.plG_n, DL.plainAt_a, DL.varM_a, DL.ownM_a, DL.cM_a, DL.ofL_a, DL.opM_a, DL.opOwnM_a, DL.unM_a, DL.truM_a, DL.tstM_a, DL.notM_a, DL.cnd_t, DL.cnd_f, DL.andM_a, DL.orM_a, DL.andVM_a, DL.orVM_a, DL.notVM_a, DL.iteM_a, DL.chM_a, DL.nilM_a, DL.consM_a, DL.guard_tt, DL.tupM_a, DL.lstM_a, DL.noM_a, DL.intV_i, DL.someM_a, DL.slM_a, DL.rng1M_a, DL.rng2M_a, DL.zipV_t, DL.zipV_l, DL.zipM_a, DL.seqM_a, DL.callM_a, DL.hereM_a, DL.callRM_a, DL.appM_a, DL.lisV_l, DL.extM_a, DL.catOwnM_a, DL.popM_a, DL.popAtM_a, DL.newDM_a, DL.putM_a, DL.lenDM_a, DL.sortDM_a, DL.nameG_a, DL.nilG_a, DL.consG_a, DL.tupG_a, DL.seqS_a, DL.seqK_nx, DL.seqK_rt, DL.seqK_ct, DL.skipM_a, DL.asgM_a, DL.asgG_a, DL.newM_a, DL.asgLM_a, DL.retM_a, DL.exprM_a, DL.ifM_a, DL.contM_a, DL.brkM_a, DL.forM_a, DL.frzM_a, DL.runF_a, DL.finF_rt, DL.finF_nx, DL.runR_a, DL.finR_rt, DL.finR_nx, DL.sz_0, DL.sz_1, DL.sz_2, DL.sz_3, DL.sz_4, DL.sz_5, DL.sz_6, DL.sz_7, DL.sz_8, DL.sz_9, DL.sz_10, DL.sz_11, DL.sz_12, DL.sz_13, DL.sz_14, DL.sz_15, DL.sz_16, DL.sz_17, DL.sz_18, DL.sz_19, DL.sz_20, DL.sz_21, DL.sz_22, DL.sz_23, DL.sz_24, DL.sz_25, DL.sz_26, DL.sz_27, DL.sz_28, DL.sz_29, DL.sz_30, DL.nc_0, DL.nc_1, DL.nc_2, DL.nc_3, DL.nc_4, DL.nc_5, DL.nc_6, DL.nc_7, DL.nc_8, DL.nc_9, DL.nc_10, DL.nc_11, DL.nc_12, DL.nc_13, DL.nc_14, DL.nc_15, DL.nc_16, DL.nc_17, DL.nc_18, DL.nc_19, DL.nc_20, DL.nc_21, DL.nc_22, DL.nc_23, DL.nc_24, DL.nc_25, DL.nc_26, DL.nc_27, DL.nc_28, DL.nc_29, DL.nc_30, DL.addD_i, DL.addD_t, DL.addD_l, DL.subD_i, DL.modD_i, DL.fdivD_i, DL.mulD_i, DL.lenD_t, DL.lenD_l, DL.tupleD_t, DL.tupleD_l, DL.listD_t, DL.listD_l, DL.truD_i, DL.truD_b, DL.truD_n, DL.truD_l, DL.truD_t, DL.ixD_t, DL.ixD_l, DL.negD_i, DL.bD_a, DL.ltB_i, DL.leB_i, DL.gtB_i, DL.geB_i, DL.eqB_i, DL.neB_i, DL.min2D_i, DL.max2D_i, DL.items_t, DL.items_l, DL.intD_b, DL.isNN, DL.slD_t, DL.slD_l, DL.p_ge0, DL.p_geS, DL.p_tk0, DL.p_tkS, DL.p_tkN, DL.p_dr0, DL.p_drS, DL.p_drN, DL.p_mpC, DL.p_mpN, DL.p_apC, DL.p_apN, DL.p_lnC, DL.p_lnN, DL.p_rpS, DL.p_rp0, DL.p_alC, DL.p_alN, DL.p_gdS, DL.p_gdN, DL.p_tlS, DL.p_tlN, DL.p_ieC, DL.p_ieN, DL.p_nt, DL.p_nf, DL.p_atb, DL.p_afb, DL.p_abt, DL.p_abf, DL.p_eqS, DL.p_dT, DL.p_dF, DL.p_TA, DL.p_AT, DL.p_TO, DL.p_OT, DL.p_startD, DL.p_startR, DL.forK_nx, DL.forK_ct, DL.forK_rt, DL.yesM_a, DL.it1_a, DL.compM_a, DL.wipeR_c, DL.wipeR_n, DL.restR_c, DL.restR_n, Nat.reduceAdd, Nat.reduceSub, Nat.reduceMul, Int.reduceLT, Int.reduceLE, Int.reducePow, Int.reduceNeg, Int.reduceAdd, Int.reduceSub, Int.reduceMul, Int.reduceBEq, Int.reduceBNe, Int.reduceToNat, $xs,*])
namespace DL
open PySem L2 GT PySem.W
/-! order of rows of ints -/
theorem alikeAll_ints : ∀ a b : List Int, alikeAll (a.map PyData.int) (b.map PyData.int) = true
  | [], _ => by simp [alikeAll]
  | _ :: _, [] => by simp [alikeAll]
  | x :: a, y :: b => by simp [alikeAll, alike, alikeAll_ints a b]
theorem alike_TI (a b : List Int) : alike (TI a) (TI b) = true := by simp [alike, alikeAll_ints]
theorem dataLt_TI : ∀ a b : List Int, dataLt (TI a) (TI b) = llt a b
  | [], [] => by decide
  | [], y :: b => by
    rw [dataLt_tuple, List.map_cons, toks_all_cons]; rfl
  | x :: a, [] => by
    rw [dataLt_tuple, List.map_cons, toks_all_cons]; rfl
  | x :: a, y :: b => by
    rw [dataLt_tuple]
    simp only [List.map_cons, llt]
    by_cases e : x = y
    · subst e
      rw [if_pos rfl, dataLt_all_yes (x := PyData.int x) (y := PyData.int x) (by simp [alike]) (by simp [PyData.eqv]), ← dataLt_tuple]
      exact dataLt_TI a b
    · rw [if_neg e, dataLt_all_no (x := PyData.int x) (y := PyData.int y) (by simp [alike]) (by simp [PyData.eqv, e]), dataLt_int]
theorem dataLe_TI (a b : List Int) : dataLe false id (TI a) (TI b) = lle a b := by
  rw [dataLe_eq]
  simp only [cond_false, id]
  rw [dataLt_TI]; rfl
theorem sortL_TI (xs : List (List Int)) : sortL (xs.map TI) = (sortR xs).map TI := by
  unfold sortL sortR
  exact (List.map_mergeSort (fun a _ b _ => (dataLe_TI a b).symm)).symm
theorem dataLe_I (a b : Int) : dataLe false id (.int a) (.int b) = decide (a ≤ b) := by
  rw [dataLe_eq]
  simp only [cond_false, id]
  rw [dataLt_int]
  by_cases h : b < a
  · rw [decide_eq_true h, decide_eq_false (by omega)]; rfl
  · rw [decide_eq_false h, decide_eq_true (by omega)]; rfl
theorem sortL_I (xs : List Int) : sortL (xs.map .int) = (GT.sortI xs).map .int := by
  unfold sortL GT.sortI
  exact (List.map_mergeSort (fun a _ b _ => (dataLe_I a b).symm)).symm
theorem depth_ints : ∀ xs : List Int, PyData.depthAll (xs.map PyData.int) ≤ 1
  | [] => by simp [PyData.depthAll]
  | x :: xs => by have := depth_ints xs; simp [PyData.depthAll, PyData.depth]; omega
theorem sortOk_I {xs : List Int} (h : xs.length ≤ 1000000) : sortOk (xs.map .int) = true := by
  unfold sortOk
  have h1 : (xs.map PyData.int).all (fun d => (xs.map PyData.int).all fun e => alike d e) = true := by simp [List.all_eq_true, alike]
  have h2 : (xs.map PyData.int).all nonTup = true := by simp [List.all_eq_true, nonTup]
  have h3 : (xs.map PyData.int).all (fun d => decide (d.depth ≤ 60)) = true := by simp [List.all_eq_true, PyData.depth]
  rw [h1, h2, h3, List.length_map, szOk_of h]
  simp
theorem sortOk_TI {xs : List (List Int)} (h : xs.length ≤ 1000000) (hn : ∀ x ∈ xs, x ≠ []) : sortOk (xs.map TI) = true := by
  unfold sortOk
  have h1 : (xs.map TI).all (fun d => (xs.map TI).all fun e => alike d e) = true := by simp [List.all_eq_true, alike_TI]
  have h2 : (xs.map TI).all tupCons = true := by
    simp only [List.all_eq_true, List.mem_map]
    rintro d ⟨x, m, rfl⟩
    cases x with
    | nil => exact absurd rfl (hn _ m)
    | cons a x => rfl
  have h3 : (xs.map TI).all (fun d => decide (d.depth ≤ 60)) = true := by
    simp only [List.all_eq_true, List.mem_map, decide_eq_true_eq]
    rintro d ⟨x, m, rfl⟩
    have := depth_ints x
    simp only [PyData.depth]; omega
  rw [h1, h2, h3, List.length_map, szOk_of h]
  simp
/-! ties -/
theorem encT_TI (t : Tie) : encT t = TI [t.1, t.2] := rfl
theorem llt_pair (a b : Tie) : llt [a.1, a.2] [b.1, b.2] = true ↔ tlt a b := by
  unfold tlt
  simp only [llt]
  by_cases e : a.1 = b.1
  · rw [if_pos e]
    by_cases e2 : a.2 = b.2
    · simp [e2, e]
    · simp only [if_neg e2, decide_eq_true_eq]; omega
  · simp only [if_neg e, decide_eq_true_eq]; omega
def tle (a b : Tie) : Bool := lle [a.1, a.2] [b.1, b.2]
def sortT (xs : List Tie) : List Tie := xs.mergeSort tle
theorem sortL_T (xs : List Tie) : sortL (xs.map encT) = (sortT xs).map encT := by
  unfold sortL sortT
  exact (List.map_mergeSort (fun a _ b _ => (dataLe_TI [a.1, a.2] [b.1, b.2]).symm)).symm
theorem sortT_perm (xs : List Tie) : (sortT xs).Perm xs := List.mergeSort_perm xs _
theorem mem_sortT {xs : List Tie} {a : Tie} : a ∈ sortT xs ↔ a ∈ xs := (sortT_perm xs).mem_iff
theorem sortT_lt {xs : List Tie} (h : xs.Nodup) : (sortT xs).Pairwise tlt := by
  have h2 : (sortT xs).Nodup := (sortT_perm xs).nodup_iff.mpr h
  have h1 := List.pairwise_mergeSort (le := tle) (fun a b c => lle_tr _ _ _) (fun a b => lle_total _ _) xs
  exact (List.pairwise_and_iff.mpr ⟨h1, h2⟩).imp fun {a b} ⟨p, q⟩ => (llt_pair a b).mp (llt_of_lle p fun e => q (by
    obtain ⟨a1, a2⟩ := a; obtain ⟨b1, b2⟩ := b; simpa using e))
theorem sortOk_T {xs : List Tie} (h : xs.length ≤ 1000000) : sortOk (xs.map encT) = true := by
  have e : xs.map encT = (xs.map fun t => [t.1, t.2]).map TI := by simp [List.map_map]
  rw [e]
  exact sortOk_TI (by simpa using h) fun x m => by
    obtain ⟨t, _, rfl⟩ := List.mem_map.mp m
    simp
/-! dicts with ties as keys -/
def dkT (t : Tie) : DK := .inr [.inl t.1, .inl t.2]
theorem dkOf_T (t : Tie) : dkOf true (encT t) = some (dkT t) := rfl
theorem dkT_inj {a b : Tie} (h : dkT a = dkT b) : a = b := by
  unfold dkT at h
  obtain ⟨a1, a2⟩ := a; obtain ⟨b1, b2⟩ := b
  simpa using h
def dicT (ks : List Tie) : List (DK × D) := ks.map fun t => (dkT t, .int 0)
theorem dicT_put (ks : List Tie) (t : Tie) : putG (dicT ks) (dkT t) (.int 0) = dicT (if t ∈ ks then ks else ks ++ [t]) := by
  have there : dkT t ∈ (dicT ks).map Prod.fst ↔ t ∈ ks := by
    simp only [dicT, List.map_map, List.mem_map, Function.comp]
    exact ⟨fun ⟨a, m, e⟩ => dkT_inj e ▸ m, fun m => ⟨t, m, rfl⟩⟩
  unfold putG
  by_cases h : t ∈ ks
  · rw [if_pos (there.mpr h), if_pos h]
    simp [dicT, Function.comp_def]
  · rw [if_neg fun q => h (there.mp q), if_neg h]
    simp [dicT]
theorem dicT_keys (ks : List Tie) : (dicT ks).map (fun kv => dkD kv.1) = ks.map encT := by
  unfold dicT; rw [List.map_map]; rfl
theorem dicT_len (ks : List Tie) : (dicT ks).length = ks.length := by unfold dicT; simp
end DL

namespace DL
open PySem L2 GT
/-! what an evaluation comes to -/
def wp {α : Type} (e : Option α) (Q : α → Prop) : Prop := ∃ a, e = some a ∧ Q a
theorem wp_congr {α : Type} {e e' : Option α} {Q : α → Prop} (h : e = e') : wp e Q = wp e' Q := by rw [h]
theorem wp_ok {α : Type} {a : α} {Q : α → Prop} (h : Q a) : wp (some a) Q := ⟨a, rfl, h⟩
theorem wp_bind {α β : Type} {e : Option α} {K : α → Option β} {P : α → Prop} {Q : β → Prop} (h : wp e P) (k : ∀ a, P a → wp (K a) Q) : wp (e.bind K) Q := by
  obtain ⟨a, rfl, ha⟩ := h
  exact k a ha
theorem wp_eq {α β : Type} {e : Option α} {a : α} {K : α → Option β} {Q : β → Prop} (h : e = some a) (k : wp (K a) Q) : wp (e.bind K) Q := by
  subst h; exact k
theorem wp_mono {α : Type} {e : Option α} {P Q : α → Prop} (h : wp e P) (k : ∀ a, P a → Q a) : wp e Q := by
  obtain ⟨a, e, ha⟩ := h
  exact ⟨a, e, k a ha⟩
theorem wp_val {α : Type} {e : Option α} {a : α} (h : wp e (· = a)) : e = some a := by
  obtain ⟨b, e, rfl⟩ := h; exact e
theorem wp_of {α : Type} {e : Option α} {a : α} (h : e = some a) : wp e (· = a) := ⟨a, h, rfl⟩
theorem ob_assoc {α β γ : Type} (x : Option α) (f : α → Option β) (g : β → Option γ) : (x.bind f).bind g = x.bind fun a => (f a).bind g := by cases x <;> rfl
theorem om_bind {α β γ : Type} (x : Option α) (f : α → β) (g : β → Option γ) : (x.map f).bind g = x.bind fun a => g (f a) := by cases x <;> rfl
theorem ob_map {α β γ : Type} (x : Option α) (f : α → Option β) (g : β → γ) : (x.bind f).map g = x.bind fun a => (f a).map g := by cases x <;> rfl
theorem om_map {α β γ : Type} (x : Option α) (f : α → β) (g : β → γ) : (x.map f).map g = x.map fun a => g (f a) := by cases x <;> rfl
/-- the last step -/
theorem wp_map {α β : Type} {e : Option α} {f : α → β} {Q : β → Prop} (h : wp e fun a => Q (f a)) : wp (e.map f) Q := by
  obtain ⟨a, rfl, ha⟩ := h
  exact ⟨_, rfl, ha⟩
theorem cnd_bind {α β : Type} (b : Bool) (x y : Unit → Option α) (f : α → Option β) : (cnd b x y).bind f = cnd b (fun u => (x u).bind f) (fun u => (y u).bind f) := by cases b <;> rfl
theorem cnd_map {α β : Type} (b : Bool) (x y : Unit → Option α) (f : α → β) : (cnd b x y).map f = cnd b (fun u => (x u).map f) (fun u => (y u).map f) := by cases b <;> rfl
theorem guard_bind {α β : Type} (b : Bool) (x : Unit → Option α) (f : α → Option β) : (guard' b x).bind f = guard' b fun u => (x u).bind f := by cases b <;> rfl
theorem guard_map {α β : Type} (b : Bool) (x : Unit → Option α) (f : α → β) : (guard' b x).map f = guard' b fun u => (x u).map f := by cases b <;> rfl
theorem wp_cnd {α : Type} {b : Bool} {x y : Unit → Option α} {Q : α → Prop} (h1 : b = true → wp (x ()) Q) (h2 : b = false → wp (y ()) Q) : wp (cnd b x y) Q := by
  cases b with
  | true => exact h1 rfl
  | false => exact h2 rfl
theorem wp_guard {α : Type} {b : Bool} {x : Unit → Option α} {Q : α → Prop} (h : b = true) (k : wp (x ()) Q) : wp (guard' b x) Q := by subst h; exact k
theorem atI_nat {α : Type} (xs : List α) (k : Nat) : atI xs (k : Int) = xs[k]? := by
  by_cases h : k < xs.length
  · obtain ⟨x, h1, h2⟩ := atI_lt (xs := xs) (i := (k : Int)) (by omega) (by omega)
    rw [h1, ← h2]; simp
  · unfold atI ixN
    rw [if_pos (by omega), if_neg (by omega)]
    exact (List.getElem?_eq_none (by omega)).symm
theorem atI_c0 {α : Type} (a : α) (l : List α) : atI (a :: l) 0 = some a := atI_nat (a :: l) 0
theorem atI_c1 {α : Type} (a b : α) (l : List α) : atI (a :: b :: l) 1 = some b := atI_nat (a :: b :: l) 1
theorem atI_c2 {α : Type} (a b c : α) (l : List α) : atI (a :: b :: c :: l) 2 = some c := atI_nat (a :: b :: c :: l) 2
theorem atI_c3 {α : Type} (a b c d : α) (l : List α) : atI (a :: b :: c :: d :: l) 3 = some d := atI_nat (a :: b :: c :: d :: l) 3
/-- a net's parts -/
theorem encN_0 (N : Net) : ixD (encN N) (.int 0) = some (.int N.n) := (rfl)
theorem encN_1 (N : Net) : ixD (encN N) (.int 1) = some (.tuple (N.ties.map encT)) := (rfl)
theorem encN_2 (N : Net) : ixD (encN N) (.int 2) = some (TI N.rim) := (rfl)
theorem encN_u (N : Net) (n : Nat) (t : GMs) (r : Rho) : tupG n t r (encN N) = tupG n t r (.tuple [.int N.n, .tuple (N.ties.map encT), TI N.rim]) := (rfl)
theorem revD_t (l : List D) : revD (.tuple l) = some (.tuple l.reverse) := (rfl)
theorem revD_l (l : List D) : revD (.list l) = some (.list l.reverse) := (rfl)
/-- what a turn leaves -/
def goesOn (P : Rho → Prop) : Out → Prop
  | .nx r => P r
  | .ct r => P r
  | _ => False
theorem wp_for {A β : Type} {g : GM} {f : SM} {as : List A} {r : Rho} {K : Out → Option β} {Q : β → Prop} (enc : A → D) (P : List A → Rho → Prop) (h0 : P as r)
    (step : ∀ a as r, P (a :: as) r → wp ((g r (enc a)).bind f) (goesOn (P as)))
    (k : ∀ r, P [] r → wp (K (.nx r)) Q) : wp ((forL g f (as.map enc) r).bind K) Q := by
  obtain ⟨r', h1, h2⟩ := forL_inv (g := g) (f := f) enc P (fun a as r h => by
    obtain ⟨o, e, ho⟩ := step a as r h
    cases o with
    | nx r2 => exact ⟨r2, .inl e, ho⟩
    | ct r2 => exact ⟨r2, .inr e, ho⟩
    | rt _ _ => exact ho.elim
    | bk _ => exact ho.elim
    | ex _ _ => exact ho.elim) as r h0
  rw [h1]; exact k r' h2
/-- a loop that may end by return: never here; the last step -/
theorem wp_for1 {A : Type} {g : GM} {f : SM} {as : List A} {r : Rho} {Q : Out → Prop} (enc : A → D) (P : List A → Rho → Prop) (h0 : P as r)
    (step : ∀ a as r, P (a :: as) r → wp ((g r (enc a)).bind f) (goesOn (P as)))
    (k : ∀ r, P [] r → Q (.nx r)) : wp (forL g f (as.map enc) r) Q := by
  have := wp_for (K := some) (Q := Q) enc P h0 step fun r h => wp_ok (k r h)
  cases q : forL g f (as.map enc) r with
  | none => rw [q] at this; exact this
  | some o => rw [q] at this; exact this
/-- a comprehension with a state -/
theorem wp_comp {A : Type} {g : GM} {t : TM} {el : EM} {is : List Nat} (enc : A → D) (P : List A → List D → Rho → Prop)
    (step : ∀ a as ds r, P (a :: as) ds r → wp (it1 g t el is r (enc a)) (fun q => P as (ds ++ q.1.toList) q.2)) :
    ∀ (as : List A) (ds : List D) (r : Rho), P as ds r → wp (compL g t el is (as.map enc) r) (fun q => P [] (ds ++ q.1) q.2)
  | [], ds, r, h => ⟨([], r), rfl, by simpa using h⟩
  | a :: as, ds, r, h => by
    obtain ⟨⟨o, r1⟩, e, h1⟩ := step a as ds r h
    obtain ⟨⟨es, r2⟩, e2, h2⟩ := wp_comp enc P step as _ r1 h1
    rw [List.map_cons, compL_cons, e]
    refine ⟨(o.toList ++ es, r2), ?_, ?_⟩
    · simp only [ob_some]; rw [e2]; rfl
    · simpa [List.append_assoc] using h2
end DL

namespace L_k01
open PySem L2 DL 
def N_is_whole : List Str := ["thing", "low", "high"]
def b_is_whole : SM :=
    (retM (andVM (unM (isiD .int) (varM 0)) (andVM (notVM (unM (isiD .bool) (varM 0))) (chM leB leB (varM 1) (varM 0) (varM 2)))))
def g_is_whole : List D → Option D := runF N_is_whole b_is_whole
def N_are_rising : List Str := ["row", "one", "two"]
def Ce_are_rising_1 : EM :=
    (opM (bD ltB) (varM 1) (varM 2))
def b_are_rising : SM :=
    (retM (unM allD (ofL (compM [1, 2] (zipM (slM (varM 0) noM (someM (unM negD (cM (PyData.int 1))))) (slM (varM 0) (someM (cM (PyData.int 1))) noM)) (tupG 2 (consG (nameG 1) (consG (nameG 2) nilG))) yesM Ce_are_rising_1))))
def g_are_rising : List D → Option D := runF N_are_rising b_are_rising
def N_is_tie : List Str := ["thing", "many", "one"]
def Ce_is_tie_1 : EM :=
    (callM g_is_whole (consM (varM 2) (consM (cM (PyData.int 0)) (consM (opM subD (varM 1) (cM (PyData.int 1))) nilM))))
def b_is_tie : SM :=
    (seqS (ifM (orM (notM (truM (unM (isiD .tuple) (varM 0)))) (orM (tstM neB (unM lenD (varM 0)) (cM (PyData.int 2))) (notM (truM (unM allD (ofL (compM [2] (seqM (varM 0)) (nameG 2) yesM Ce_is_tie_1))))))) (retM (cM (PyData.bool false))) skipM)
    (retM (opM (bD ltB) (opM ixD (varM 0) (cM (PyData.int 0))) (opM ixD (varM 0) (cM (PyData.int 1))))))
def g_is_tie : List D → Option D := runF N_is_tie b_is_tie
def N_is_net : List Str := ["thing", "many", "ties", "rim", "tie", "knot"]
def Ce_is_net_1 : EM :=
    (callM g_is_tie (consM (varM 4) (consM (varM 1) nilM)))
def Ce_is_net_2 : EM :=
    (callM g_is_whole (consM (varM 5) (consM (cM (PyData.int 0)) (consM (opM subD (varM 1) (cM (PyData.int 1))) nilM))))
def b_is_net : SM :=
    (seqS (ifM (orM (notM (truM (unM (isiD .tuple) (varM 0)))) (orM (tstM neB (unM lenD (varM 0)) (cM (PyData.int 3))) (notM (truM (callM g_is_whole (consM (opM ixD (varM 0) (cM (PyData.int 0))) (consM (cM (PyData.int 1)) (consM (cM (PyData.int 7)) nilM)))))))) (retM (cM (PyData.bool false))) skipM)
    (seqS (asgG (tupG 3 (consG (nameG 1) (consG (nameG 2) (consG (nameG 3) nilG)))) (varM 0))
    (seqS (ifM (orM (notM (truM (unM (isiD .tuple) (varM 2)))) (orM (tstM gtB (unM lenD (varM 2)) (cM (PyData.int 9))) (notM (truM (unM allD (ofL (compM [4] (seqM (varM 2)) (nameG 4) yesM Ce_is_net_1))))))) (retM (cM (PyData.bool false))) skipM)
    (seqS (ifM (orM (notM (truM (unM (isiD .tuple) (varM 3)))) (orM (tstM eqB (varM 3) (tupM nilM)) (notM (truM (unM allD (ofL (compM [5] (seqM (varM 3)) (nameG 5) yesM Ce_is_net_2))))))) (retM (cM (PyData.bool false))) skipM)
    (retM (andVM (callM g_are_rising (consM (varM 2) nilM)) (callM g_are_rising (consM (varM 3) nilM))))))))
def g_is_net : List D → Option D := runF N_is_net b_is_net
def N__law_same : List Str := ["_law_got", "_law_due", "_law_one", "_law_other"]
def Ce__law_same_1 (hh : List D → Option D) : EM :=
    (callM hh (consM (varM 2) (consM (varM 3) nilM)))
def b__law_same (hh : List D → Option D) : SM :=
    (seqS (ifM (tstM isB (varM 1) (cM PyData.none)) (retM (opM (bD isB) (varM 0) (cM PyData.none))) skipM)
    (seqS (ifM (truM (unM (isiD .bool) (varM 1))) (retM (andVM (unM (isiD .bool) (varM 0)) (opM (bD eqB) (varM 0) (varM 1)))) skipM)
    (seqS (ifM (truM (unM (isiD .tuple) (varM 1))) (seqS (ifM (orM (notM (truM (unM (isiD .tuple) (varM 0)))) (tstM neB (unM lenD (varM 0)) (unM lenD (varM 1)))) (retM (cM (PyData.bool false))) skipM)
    (retM (unM allD (ofL (compM [2, 3] (zipM (varM 0) (varM 1)) (tupG 2 (consG (nameG 2) (consG (nameG 3) nilG))) yesM (Ce__law_same_1 hh)))))) skipM)
    (seqS (ifM (truM (unM (isiD .str) (varM 1))) (retM (andVM (unM (isiD .str) (varM 0)) (opM (bD eqB) (varM 0) (varM 1)))) skipM)
    (retM (andVM (unM (isiD .int) (varM 0)) (andVM (notVM (unM (isiD .bool) (varM 0))) (opM (bD eqB) (varM 0) (varM 1)))))))))
def gr__law_same : Nat → List D → Option D
  | 0 => fun _ => none
  | nn + 1 => runF N__law_same (b__law_same (gr__law_same nn))
def g__law_same : List D → Option D := gr__law_same 40
def N__law_draw : List Str := ["_law_script", "_law_town", "_law_many", "_law_k", "_law_cell", "_law_number"]
def b__law_draw : SM :=
    (seqS (exprM (appM 1 (cM (PyData.int 0))))
    (seqS (asgM 3 (unM lenD (ownM 1)))
    (seqS (asgM 4 (cM (PyData.int 0)))
    (seqS (ifM (truM (varM 0)) (asgM 4 (opM ixD (varM 0) (opM modD (varM 3) (unM lenD (varM 0))))) skipM)
    (seqS (asgM 5 (opM modD (opM addD (varM 4) (opM mulD (cM (PyData.int 104729)) (varM 3))) (cM (PyData.int 4294967291))))
    (seqS (asgM 5 (opM modD (opM mulD (opM modD (opM mulD (varM 5) (varM 5)) (cM (PyData.int 4294967279))) (cM (PyData.int 48271))) (cM (PyData.int 4294967291))))
    (retM (opM modD (opM fdivD (varM 5) (cM (PyData.int 64))) (varM 2)))))))))
def g__law_draw : List D → List D → Option (D × List D) := runR N__law_draw 1 b__law_draw
def N__law_pick : List Str := ["_law_script", "_law_town", "_law_some"]
def b__law_pick : SM :=
    (retM (opM ixD (varM 2) (callRM 1 g__law_draw (consM (varM 0) (hereM 1 (consM (unM lenD (varM 2)) nilM))))))
def g__law_pick : List D → List D → Option (D × List D) := runR N__law_pick 1 b__law_pick
def N__law_net : List Str := ["_law_script", "_law_town", "_law_high", "_law_wide", "_law_many", "_law_every", "_law_one", "_law_ties_here", "_law_k", "_law_rim", "_law_knot", "_law_other"]
def Ce__law_net_1 : EM :=
    (tupM (consM (varM 6) (consM (varM 11) nilM)))
def F__law_net_1 : SM :=
    (asgM 5 (opM addD (varM 5) (ofL (compM [11] (rng2M (opM addD (varM 6) (cM (PyData.int 1))) (varM 4)) (nameG 11) yesM Ce__law_net_1))))
def F__law_net_2 : SM :=
    (seqS (asgM 11 (callRM 1 g__law_draw (consM (varM 0) (hereM 1 (consM (varM 10) nilM)))))
    (putM 7 (tupM (consM (varM 11) (consM (varM 10) nilM))) (cM (PyData.int 0))))
def F__law_net_3 : SM :=
    (ifM (andM (truM (varM 5)) (tstM ltB (lenDM 7) (varM 3))) (putM 7 (callRM 1 g__law_pick (consM (varM 0) (hereM 1 (consM (varM 5) nilM)))) (cM (PyData.int 0))) skipM)
def Ct__law_net_1 : TM :=
    (tstM eqB (callRM 1 g__law_draw (consM (varM 0) (hereM 1 (consM (cM (PyData.int 2)) nilM)))) (cM (PyData.int 0)))
def Ce__law_net_2 : EM :=
    (varM 10)
def b__law_net : SM :=
    (seqS (asgM 4 (opM addD (cM (PyData.int 1)) (callRM 1 g__law_draw (consM (varM 0) (hereM 1 (consM (varM 2) nilM))))))
    (seqS (asgM 5 (ofL (lstM nilM)))
    (seqS (forM (rng1M (varM 4)) (nameG 6) F__law_net_1)
    (seqS (newDM 7 true)
    (seqS (ifM (tstM gtB (callRM 1 g__law_draw (consM (varM 0) (hereM 1 (consM (cM (PyData.int 3)) nilM)))) (cM (PyData.int 0))) (forM (rng2M (cM (PyData.int 1)) (varM 4)) (nameG 10) F__law_net_2) skipM)
    (seqS (forM (rng1M (callRM 1 g__law_draw (consM (varM 0) (hereM 1 (consM (opM addD (varM 3) (cM (PyData.int 1))) nilM))))) (nameG 8) F__law_net_3)
    (seqS (asgLM 9 (compM [10] (rng1M (varM 4)) (nameG 10) Ct__law_net_1 Ce__law_net_2))
    (seqS (ifM (notM (truM (varM 9))) (asgM 9 (ofL (lstM (consM (callRM 1 g__law_draw (consM (varM 0) (hereM 1 (consM (varM 4) nilM)))) nilM)))) skipM)
    (retM (tupM (consM (varM 4) (consM (slM (unM tupleD (sortDM 7)) noM (someM (varM 3))) (consM (unM tupleD (varM 9)) nilM)))))))))))))
def g__law_net : List D → List D → Option (D × List D) := runR N__law_net 1 b__law_net
def N__law_whole : List Str := ["_law_thing", "_law_low", "_law_high"]
def b__law_whole : SM :=
    (retM (andVM (unM (isiD .int) (varM 0)) (andVM (notVM (unM (isiD .bool) (varM 0))) (chM leB leB (varM 1) (varM 0) (varM 2)))))
def g__law_whole : List D → Option D := runF N__law_whole b__law_whole
def N__law_is_net : List Str := ["_law_thing", "_law_ahead", "_law_tie", "_law_knot", "_law_many", "_law_ties_here", "_law_rim"]
def F__law_is_net_1 : SM :=
    (seqS (ifM (orM (notM (truM (unM (isiD .tuple) (varM 2)))) (orM (tstM neB (unM lenD (varM 2)) (cM (PyData.int 2))) (notM (truM (callM g__law_whole (consM (opM ixD (varM 2) (cM (PyData.int 0))) (consM (cM (PyData.int 0)) (consM (opM subD (varM 4) (cM (PyData.int 1))) nilM)))))))) (retM (cM (PyData.bool false))) skipM)
    (seqS (ifM (orM (notM (truM (callM g__law_whole (consM (opM ixD (varM 2) (cM (PyData.int 1))) (consM (opM addD (opM ixD (varM 2) (cM (PyData.int 0))) (cM (PyData.int 1))) (consM (opM subD (varM 4) (cM (PyData.int 1))) nilM)))))) (tstM leB (varM 2) (varM 1))) (retM (cM (PyData.bool false))) skipM)
    (asgM 1 (varM 2))))
def F__law_is_net_2 : SM :=
    (seqS (ifM (notM (truM (callM g__law_whole (consM (varM 3) (consM (opM addD (varM 1) (cM (PyData.int 1))) (consM (opM subD (varM 4) (cM (PyData.int 1))) nilM)))))) (retM (cM (PyData.bool false))) skipM)
    (asgM 1 (varM 3)))
def b__law_is_net : SM :=
    (seqS (ifM (orM (notM (truM (unM (isiD .tuple) (varM 0)))) (orM (tstM neB (unM lenD (varM 0)) (cM (PyData.int 3))) (notM (truM (callM g__law_whole (consM (opM ixD (varM 0) (cM (PyData.int 0))) (consM (cM (PyData.int 1)) (consM (cM (PyData.int 7)) nilM)))))))) (retM (cM (PyData.bool false))) skipM)
    (seqS (asgG (tupG 3 (consG (nameG 4) (consG (nameG 5) (consG (nameG 6) nilG)))) (varM 0))
    (seqS (ifM (orM (notM (truM (unM (isiD .tuple) (varM 5)))) (orM (notM (truM (unM (isiD .tuple) (varM 6)))) (orM (tstM gtB (unM lenD (varM 5)) (cM (PyData.int 9))) (tstM eqB (varM 6) (tupM nilM))))) (retM (cM (PyData.bool false))) skipM)
    (seqS (asgM 1 (tupM (consM (unM negD (cM (PyData.int 1))) (consM (unM negD (cM (PyData.int 1))) nilM))))
    (seqS (forM (seqM (varM 5)) (nameG 2) F__law_is_net_1)
    (seqS (asgM 1 (unM negD (cM (PyData.int 1))))
    (seqS (forM (seqM (varM 6)) (nameG 3) F__law_is_net_2)
    (retM (cM (PyData.bool true))))))))))
def g__law_is_net : List D → Option D := runF N__law_is_net b__law_is_net
def N__law_bent : List Str := ["_law_script", "_law_town", "_law_thing", "_law_odd", "_law_at", "_law_kind"]
def b__law_bent (hh : List D → List D → Option (D × List D)) : SM :=
    (seqS (asgM 3 (ofL (lstM (consM (cM PyData.none) (consM (cM (PyData.bool true)) (consM (cM (PyData.bool false)) (consM (unM negD (cM (PyData.int 1))) (consM (cM (PyData.int 0)) (consM (cM (PyData.int 1)) (consM (cM (PyData.int 2)) (consM (cM (PyData.int 6)) (consM (cM (PyData.int 7)) (consM (cM (PyData.int 8)) (consM (cM (PyData.str "0")) (consM (cM (PyData.str "")) (consM (tupM nilM) (consM (tupM (consM (cM (PyData.int 0)) nilM)) (consM (tupM (consM (cM (PyData.int 0)) (consM (cM (PyData.int 1)) nilM))) (consM (tupM (consM (cM (PyData.int 1)) (consM (cM (PyData.int 0)) nilM))) (consM (tupM (consM (cM (PyData.int 1)) (consM (cM (PyData.int 1)) nilM))) (consM (tupM (consM (cM (PyData.int 0)) (consM (cM (PyData.int 7)) nilM))) (consM (ofL (lstM (consM (cM (PyData.int 0)) nilM))) (consM (tupM (consM (cM (PyData.int 0)) (consM (cM (PyData.int 1)) (consM (cM (PyData.int 2)) nilM)))) nilM)))))))))))))))))))))))
    (seqS (ifM (orM (notM (truM (unM (isiD .tuple) (varM 2)))) (orM (tstM eqB (varM 2) (tupM nilM)) (tstM eqB (callRM 1 g__law_draw (consM (varM 0) (hereM 1 (consM (cM (PyData.int 4)) nilM)))) (cM (PyData.int 0))))) (retM (callRM 1 g__law_pick (consM (varM 0) (hereM 1 (consM (varM 3) nilM))))) skipM)
    (seqS (asgM 4 (callRM 1 g__law_draw (consM (varM 0) (hereM 1 (consM (unM lenD (varM 2)) nilM)))))
    (seqS (asgM 5 (callRM 1 g__law_draw (consM (varM 0) (hereM 1 (consM (cM (PyData.int 9)) nilM)))))
    (seqS (ifM (tstM eqB (varM 5) (cM (PyData.int 0))) (retM (opM addD (slM (varM 2) noM (someM (varM 4))) (slM (varM 2) (someM (opM addD (varM 4) (cM (PyData.int 1)))) noM))) skipM)
    (seqS (ifM (tstM eqB (varM 5) (cM (PyData.int 1))) (retM (opM addD (opM addD (slM (varM 2) noM (someM (varM 4))) (tupM (consM (opM ixD (varM 2) (varM 4)) nilM))) (slM (varM 2) (someM (varM 4)) noM))) skipM)
    (seqS (ifM (tstM eqB (varM 5) (cM (PyData.int 2))) (retM (unM listD (varM 2))) skipM)
    (seqS (ifM (tstM eqB (varM 5) (cM (PyData.int 3))) (retM (opM addD (opM addD (slM (varM 2) noM (someM (varM 4))) (unM revD (slM (varM 2) (someM (varM 4)) (someM (opM addD (varM 4) (cM (PyData.int 2))))))) (slM (varM 2) (someM (opM addD (varM 4) (cM (PyData.int 2)))) noM))) skipM)
    (retM (opM addD (opM addD (slM (varM 2) noM (someM (varM 4))) (tupM (consM (callRM 1 hh (consM (varM 0) (hereM 1 (consM (opM ixD (varM 2) (varM 4)) nilM)))) nilM))) (slM (varM 2) (someM (opM addD (varM 4) (cM (PyData.int 1)))) noM)))))))))))
def gr__law_bent : Nat → List D → List D → Option (D × List D)
  | 0 => fun _ _ => none
  | nn + 1 => runR N__law_bent 1 (b__law_bent (gr__law_bent nn))
def g__law_bent : List D → List D → Option (D × List D) := gr__law_bent 40
def N_law : List Str := ["_law_script", "_law_town", "_law_pairs", "_law_k", "_law_net_here", "_law_things", "_law_thing", "_law_j"]
def Ce_law_1 : EM :=
    (callRM 1 g__law_bent (consM (varM 0) (hereM 1 (consM (varM 4) nilM))))
def F_law_1 : SM :=
    (ifM (notM (truM (callM g__law_same (consM (callM g_is_net (consM (varM 6) nilM)) (consM (callM g__law_is_net (consM (varM 6) nilM)) nilM))))) (retM (cM (PyData.bool false))) skipM)
def F_law_2 : SM :=
    (seqS (asgM 4 (callRM 1 g__law_net (consM (varM 0) (hereM 1 (consM (cM (PyData.int 7)) (consM (cM (PyData.int 9)) nilM))))))
    (seqS (newM 5 (lstM (consM (varM 4) (consM (unM listD (varM 4)) (consM (opM addD (varM 4) (tupM (consM (cM (PyData.int 0)) nilM))) (consM (slM (varM 4) noM (someM (cM (PyData.int 2)))) (consM (unM revD (varM 4)) (consM (tupM (consM (cM (PyData.int 7)) (consM (varM 2) (consM (tupM (consM (cM (PyData.int 0)) nilM)) nilM)))) (consM (tupM (consM (cM (PyData.int 7)) (consM (slM (varM 2) noM (someM (cM (PyData.int 9)))) (consM (tupM (consM (cM (PyData.int 0)) nilM)) nilM)))) (consM (tupM (consM (cM (PyData.int 1)) (consM (tupM nilM) (consM (tupM (consM (cM (PyData.int 0)) nilM)) nilM)))) nilM))))))))))
    (seqS (newM 5 (catOwnM 5 (ofL (lstM (consM (tupM (consM (cM (PyData.int 0)) (consM (tupM nilM) (consM (tupM nilM) nilM)))) (consM (tupM (consM (cM (PyData.int 8)) (consM (tupM nilM) (consM (tupM (consM (cM (PyData.int 0)) nilM)) nilM)))) (consM (tupM (consM (cM (PyData.int 3)) (consM (tupM nilM) (consM (tupM nilM) nilM)))) (consM (tupM (consM (cM (PyData.int 3)) (consM (tupM nilM) (consM (tupM (consM (cM (PyData.int 2)) (consM (cM (PyData.int 1)) nilM))) nilM)))) (consM (cM PyData.none) (consM (cM (PyData.int 7)) (consM (tupM nilM) (consM (opM ixD (varM 4) (cM (PyData.int 1))) nilM))))))))))))
    (seqS (exprM (appM 5 (tupM (consM (opM ixD (varM 4) (cM (PyData.int 0))) (consM (tupM nilM) (consM (opM ixD (varM 4) (cM (PyData.int 2))) nilM))))))
    (seqS (newM 5 (catOwnM 5 (ofL (compM [7] (rng1M (cM (PyData.int 14))) (nameG 7) yesM Ce_law_1))))
    (frzM 5 (forM (seqM (varM 5)) (nameG 6) F_law_1)))))))
def b_law : SM :=
    (seqS (newM 1 (lstM nilM))
    (seqS (asgM 2 (tupM (consM (tupM (consM (cM (PyData.int 0)) (consM (cM (PyData.int 1)) nilM))) (consM (tupM (consM (cM (PyData.int 0)) (consM (cM (PyData.int 2)) nilM))) (consM (tupM (consM (cM (PyData.int 0)) (consM (cM (PyData.int 3)) nilM))) (consM (tupM (consM (cM (PyData.int 0)) (consM (cM (PyData.int 4)) nilM))) (consM (tupM (consM (cM (PyData.int 0)) (consM (cM (PyData.int 5)) nilM))) (consM (tupM (consM (cM (PyData.int 0)) (consM (cM (PyData.int 6)) nilM))) (consM (tupM (consM (cM (PyData.int 1)) (consM (cM (PyData.int 2)) nilM))) (consM (tupM (consM (cM (PyData.int 1)) (consM (cM (PyData.int 3)) nilM))) (consM (tupM (consM (cM (PyData.int 1)) (consM (cM (PyData.int 4)) nilM))) (consM (tupM (consM (cM (PyData.int 1)) (consM (cM (PyData.int 5)) nilM))) nilM))))))))))))
    (seqS (forM (rng1M (cM (PyData.int 12))) (nameG 3) F_law_2)
    (retM (cM (PyData.bool true))))))
def g_law : List D → Option D := runF N_law b_law
end L_k01

namespace L_k01
open PySem L2 DL GT
abbrev SC (ns : List Int) : D := .list (ns.map .int)
theorem draw_spec (ns : List Int) (town : List D) (m : Int) (hm : 0 < m) (hl : town.length < 900000) : ∃ v, 0 ≤ v ∧ v < m ∧ g__law_draw [SC ns, .int m] town = some (.int v, town ++ [.int 0]) := by
  have hz : szOk town.length = true := szOk_of (by omega)
  have key : ∀ c k : Int, 0 ≤ ((c + 104729 * k) % 4294967291 * ((c + 104729 * k) % 4294967291) % 4294967279 * 48271 % 4294967291 / 64 % m) ∧ ((c + 104729 * k) % 4294967291 * ((c + 104729 * k) % 4294967291) % 4294967279 * 48271 % 4294967291 / 64 % m) < m := fun c k => ⟨Int.emod_nonneg _ (by omega), Int.emod_lt_of_pos _ hm⟩
  unfold g__law_draw b__law_draw N__law_draw
  cases ns with
  | nil =>
    refine ⟨_, (key 0 (town ++ [PyData.int 0]).length).1, (key 0 (town ++ [PyData.int 0]).length).2, ?_⟩
    simp_arith [hz, mulOk_a, mulOk_b, mulOk_c, hm]
  | cons a as =>
    have hpos : (0 : Int) < ((a :: as).length : Nat) := by simp only [List.length_cons]; omega
    obtain ⟨c, _, hc⟩ := atI_mem (xs := a :: as) (i := ((town ++ [PyData.int 0]).length : Int) % ((a :: as).length : Nat)) (Int.emod_nonneg _ (by omega)) (Int.emod_lt_of_pos _ hpos)
    refine ⟨_, (key c (town ++ [PyData.int 0]).length).1, (key c (town ++ [PyData.int 0]).length).2, ?_⟩
    have hne : (List.map PyData.int (a :: as)).isEmpty = false := rfl
    have hlen : (List.map PyData.int (a :: as)).length = (a :: as).length := List.length_map ..
    have hix : ixD (.list (List.map PyData.int (a :: as))) (.int (((town ++ [PyData.int 0]).length : Int) % ((a :: as).length : Nat))) = some (.int c) := by
      rw [ixD_l, atI_map, hc]; rfl
    show runR _ _ _ [.list (List.map PyData.int (a :: as)), .int m] town = _
    generalize hA : List.map PyData.int (a :: as) = A at *
    generalize hB : (a :: as).length = B at *
    simp_arith [hz, hne, mulOk_a, mulOk_b, mulOk_c, hm, hlen, hpos, hix]
theorem pick_spec (ns : List Int) (town : List D) (ds : List D) (hd : ds ≠ []) (hl : town.length < 900000) : ∃ d ∈ ds, g__law_pick [SC ns, .list ds] town = some (d, town ++ [.int 0]) := by
  have hpos : (0 : Int) < (ds.length : Nat) := by
    have := List.length_pos_iff.mpr hd; omega
  obtain ⟨v, h0, h1, e⟩ := draw_spec ns town ds.length hpos hl
  obtain ⟨d, m, hc⟩ := atI_mem h0 h1
  refine ⟨d, m, ?_⟩
  unfold g__law_pick b__law_pick N__law_pick
  simp_arith [e, hc]
theorem pick_specT (ns : List Int) (town : List D) (ds : List D) (hd : ds ≠ []) (hl : town.length < 900000) : ∃ d ∈ ds, g__law_pick [SC ns, .tuple ds] town = some (d, town ++ [.int 0]) := by
  have hpos : (0 : Int) < (ds.length : Nat) := by
    have := List.length_pos_iff.mpr hd; omega
  obtain ⟨v, h0, h1, e⟩ := draw_spec ns town ds.length hpos hl
  obtain ⟨d, m, hc⟩ := atI_mem h0 h1
  refine ⟨d, m, ?_⟩
  unfold g__law_pick b__law_pick N__law_pick
  simp_arith [e, hc]
/-! a net by cells -/
theorem F1_net {sc tw hi wi : Option SV} {n : Nat} (hn : n ≤ 7) {x7 x8 x9 x10 x11 : Option SV} (hx : x11 = none) : ∀ (as : List Int) (ev : List Tie) (x6 : Option SV), (∀ a ∈ as, 0 ≤ a ∧ a < n) → (∀ t ∈ ev, 0 ≤ t.1 ∧ t.1 < t.2 ∧ t.2 < n) → ev.length + 7 * as.length ≤ 49 →
    ∃ (ev' : List Tie) (x6' : Option SV), (∀ t ∈ ev', 0 ≤ t.1 ∧ t.1 < t.2 ∧ t.2 < n) ∧ ev'.length ≤ 49 ∧ forL (nameG 6) F__law_net_1 (as.map .int) [sc, tw, hi, wi, some (.d (.int n)), some (.d (.list (ev.map encT))), x6, x7, x8, x9, x10, x11] = some (.nx [sc, tw, hi, wi, some (.d (.int n)), some (.d (.list (ev'.map encT))), x6', x7, x8, x9, x10, x11])
  | [], ev, x6, _, h, hl => ⟨ev, x6, h, by simpa using hl, rfl⟩
  | a :: as, ev, x6, ha, h, hl => by
    subst hx
    have ha0 := ha a (by simp)
    have hr : rngOk (a + 1) = true := rng_ok (by omega) (by omega)
    have hr2 : rngOk (n : Int) = true := rng_ok (by omega) (by omega)
    have hcl : (List.range ((n : Int) - (a + 1)).toNat).length ≤ 7 := by simp; omega
    have hc := compL_map (g := nameG 11) (el := Ce__law_net_1) (is := [11]) (r := [sc, tw, hi, wi, some (.d (.int n)), some (.d (.list (ev.map encT))), some (.d (.int a)), x7, x8, x9, x10, none]) PyData.int (fun b => encT (a, b)) ((List.range ((n : Int) - (a + 1)).toNat).map fun (i : Nat) => a + 1 + (i : Int)) (fun b _ => by
      unfold Ce__law_net_1
      simp_arith [sz_small])
    rw [← rngL_eq] at hc
    have hcl2 : szOk (rngL (a + 1) (n : Int)).length = true := by rw [rngL_eq]; exact szOk_of (by simp at hcl ⊢; omega)
    have hm : ∀ b ∈ ((List.range ((n : Int) - (a + 1)).toNat).map fun (i : Nat) => a + 1 + (i : Int)), a + 1 ≤ b ∧ b < n := fun b hb => mem_rg.mp hb
    obtain ⟨ev', x6', g1, g2, g3⟩ := F1_net (sc := sc) (tw := tw) (hi := hi) (wi := wi) hn (x7 := x7) (x8 := x8) (x9 := x9) (x10 := x10) rfl as (ev ++ ((List.range ((n : Int) - (a + 1)).toNat).map fun (i : Nat) => a + 1 + (i : Int)).map fun b => (a, b)) (some (.d (.int a))) (fun b m => ha b (List.mem_cons_of_mem _ m)) (fun t m => by
      rcases List.mem_append.mp m with m | m
      · exact h t m
      · obtain ⟨b, mb, rfl⟩ := List.mem_map.mp m
        have := hm b mb
        simp only; omega) (by simp only [List.length_append, List.length_map, List.length_cons] at *; omega)
    refine ⟨ev', x6', g1, g2, ?_⟩
    rw [← g3]
    rw [List.map_cons, forL_cons]
    unfold F__law_net_1
    have hz : szOk ((ev.map encT).length + (((List.range ((n : Int) - (a + 1)).toNat).map fun (i : Nat) => a + 1 + (i : Int)).map fun b => encT (a, b)).length) = true := szOk_of (by simp only [List.length_append, List.length_map, List.length_cons] at *; omega)
    simp_arith [hr, hr2, hcl2, hc, hz]
    simp [List.map_append, List.map_map, Function.comp_def]
abbrev TV (n : Nat) (t : Tie) : Prop := 0 ≤ t.1 ∧ t.1 < t.2 ∧ t.2 < (n : Int)
theorem put_ok {n : Nat} {ks : List Tie} {t : Tie} (h1 : ∀ t ∈ ks, TV n t) (h2 : ks.Nodup) (ht : TV n t) : (∀ u ∈ (if t ∈ ks then ks else ks ++ [t]), TV n u) ∧ (if t ∈ ks then ks else ks ++ [t]).Nodup ∧ (if t ∈ ks then ks else ks ++ [t]).length ≤ ks.length + 1 := by
  split
  · exact ⟨h1, h2, by omega⟩
  · rename_i hn
    refine ⟨fun u m => ?_, ?_, by simp⟩
    · rcases List.mem_append.mp m with m | m
      · exact h1 u m
      · simp at m; subst m; exact ht
    · rw [List.nodup_append]
      exact ⟨h2, by simp, fun a m b mb e => by simp at mb; subst mb; exact hn (e ▸ m)⟩
theorem F2_net {ns : List Int} {hi wi ev x6 x8 x9 : Option SV} {n : Nat} : ∀ (as : List Int) (ks : List Tie) (tw : List D) (x10 x11 : Option SV), plG x10 = true → (∀ a ∈ as, 1 ≤ a ∧ a < n) → (∀ t ∈ ks, TV n t) → ks.Nodup → ks.length + as.length ≤ 100 → tw.length + as.length < 800000 →
    ∃ (ks' : List Tie) (tw' : List D) (x10' x11' : Option SV), plG x10' = true ∧ (∀ t ∈ ks', TV n t) ∧ ks'.Nodup ∧ ks'.length ≤ ks.length + as.length ∧ tw'.length = tw.length + as.length ∧
    forL (nameG 10) F__law_net_2 (as.map .int) [some (.d (SC ns)), some (.l true tw), hi, wi, some (.d (.int n)), ev, x6, some (.m false true (dicT ks)), x8, x9, x10, x11] = some (.nx [some (.d (SC ns)), some (.l true tw'), hi, wi, some (.d (.int n)), ev, x6, some (.m false true (dicT ks')), x8, x9, x10', x11'])
  | [], ks, tw, x10, x11, hp, _, h1, h2, _, _ => ⟨ks, tw, x10, x11, hp, h1, h2, by simp, by simp, rfl⟩
  | a :: as, ks, tw, x10, x11, hp, ha, h1, h2, h3, h4 => by
    simp only [List.length_cons] at h3 h4
    have ha0 := ha a (by simp)
    obtain ⟨v, v0, v1, e⟩ := draw_spec ns tw a (by omega) (by omega)
    obtain ⟨p1, p2, p3⟩ := put_ok (t := (v, a)) h1 h2 ⟨v0, v1, ha0.2⟩
    obtain ⟨ks', tw', x10', x11', gp, g1, g2, g3, g4, g5⟩ := F2_net (ns := ns) (hi := hi) (wi := wi) (ev := ev) (x6 := x6) (x8 := x8) (x9 := x9) as (if (v, a) ∈ ks then ks else ks ++ [(v, a)]) (tw ++ [.int 0]) (some (.d (.int a))) (some (.d (.int v))) rfl (fun b m => ha b (List.mem_cons_of_mem _ m)) p1 p2 (by omega) (by simp; omega)
    refine ⟨ks', tw', x10', x11', gp, g1, g2, by simp only [List.length_cons]; omega, by simp only [List.length_cons, List.length_append, List.length_nil] at g4 ⊢; omega, ?_⟩
    rw [← g5, List.map_cons, forL_cons]
    unfold F__law_net_2
    have hd : dkOf true (PyData.tuple [.int v, .int a]) = some (dkT (v, a)) := dkOf_T (v, a)
    have hz : szOk (dicT ks).length = true := by rw [dicT_len]; exact szOk_of (by omega)
    simp_arith [e, hd, hz, dicT_put]
theorem F3_net {ns : List Int} {hi x6 x9 x10 x11 : Option SV} {n wide : Nat} {ev : List Tie} (hev : ∀ t ∈ ev, TV n t) : ∀ (as : List Int) (ks : List Tie) (tw : List D) (x8 : Option SV), (∀ t ∈ ks, TV n t) → ks.Nodup → ks.length + as.length ≤ 100 → tw.length + as.length < 800000 →
    ∃ (ks' : List Tie) (tw' : List D) (x8' : Option SV), (∀ t ∈ ks', TV n t) ∧ ks'.Nodup ∧ ks'.length ≤ ks.length + as.length ∧ tw'.length ≤ tw.length + as.length ∧ tw.length ≤ tw'.length ∧
    forL (nameG 8) F__law_net_3 (as.map .int) [some (.d (SC ns)), some (.l true tw), hi, some (.d (.int wide)), some (.d (.int n)), some (.d (.list (ev.map encT))), x6, some (.m false true (dicT ks)), x8, x9, x10, x11] = some (.nx [some (.d (SC ns)), some (.l true tw'), hi, some (.d (.int wide)), some (.d (.int n)), some (.d (.list (ev.map encT))), x6, some (.m false true (dicT ks')), x8', x9, x10, x11])
  | [], ks, tw, x8, h1, h2, _, _ => ⟨ks, tw, x8, h1, h2, by simp, by simp, by simp, rfl⟩
  | a :: as, ks, tw, x8, h1, h2, h3, h4 => by
    simp only [List.length_cons] at h3 h4
    have hz : szOk (dicT ks).length = true := by rw [dicT_len]; exact szOk_of (by omega)
    by_cases hE : ev = []
    · obtain ⟨ks', tw', x8', g1, g2, g3, g4, g5, g6⟩ := F3_net (ns := ns) (hi := hi) (x6 := x6) (x9 := x9) (x10 := x10) (x11 := x11) (wide := wide) hev as ks tw (some (.d (.int a))) h1 h2 (by omega) (by omega)
      refine ⟨ks', tw', x8', g1, g2, by simp only [List.length_cons]; omega, by simp only [List.length_cons]; omega, g5, ?_⟩
      rw [← g6, List.map_cons, forL_cons]
      unfold F__law_net_3
      subst hE
      simp_arith [hz]
    · obtain ⟨d, md, e⟩ := pick_spec ns tw (ev.map encT) (by simpa using hE) (by omega)
      obtain ⟨t, mt, rfl⟩ := List.mem_map.mp md
      have hne : (ev.map encT).isEmpty = false := by cases ev with
        | nil => exact absurd rfl hE
        | cons _ _ => rfl
      by_cases hw : (ks.length : Int) < wide
      · obtain ⟨p1, p2, p3⟩ := put_ok h1 h2 (hev t mt)
        obtain ⟨ks', tw', x8', g1, g2, g3, g4, g5, g6⟩ := F3_net (ns := ns) (hi := hi) (x6 := x6) (x9 := x9) (x10 := x10) (x11 := x11) (wide := wide) hev as (if t ∈ ks then ks else ks ++ [t]) (tw ++ [.int 0]) (some (.d (.int a))) p1 p2 (by omega) (by simp; omega)
        simp only [List.length_append, List.length_cons, List.length_nil] at g4 g5
        refine ⟨ks', tw', x8', g1, g2, by simp only [List.length_cons]; omega, by simp only [List.length_cons]; omega, by omega, ?_⟩
        rw [← g6, List.map_cons, forL_cons]
        unfold F__law_net_3
        have hd : dkOf true (PyData.tuple [.int t.1, .int t.2]) = some (dkT t) := dkOf_T t
        simp_arith [hne, dicT_len, hw, e, hd, hz, dicT_put]
        simp_arith [szOk_of (show ks.length ≤ 1000000 by omega)]
      · obtain ⟨ks', tw', x8', g1, g2, g3, g4, g5, g6⟩ := F3_net (ns := ns) (hi := hi) (x6 := x6) (x9 := x9) (x10 := x10) (x11 := x11) (wide := wide) hev as ks tw (some (.d (.int a))) h1 h2 (by omega) (by omega)
        refine ⟨ks', tw', x8', g1, g2, by simp only [List.length_cons]; omega, by simp only [List.length_cons]; omega, g5, ?_⟩
        rw [← g6, List.map_cons, forL_cons]
        unfold F__law_net_3
        simp_arith [hne, dicT_len, hw]
theorem cut_take {α : Type} (xs : List α) (k : Nat) : cutD xs none (some (k : Int)) = xs.take k := by
  unfold cutD
  rw [HT.sIx_none, HT.sIx_nat, List.drop_zero, Nat.sub_zero]
  rcases Nat.le_total k xs.length with h | h
  · rw [Nat.min_eq_left h]
  · rw [Nat.min_eq_right h, List.take_length, List.take_of_length_le h]
theorem rim_net {ns : List Int} {hi wi x4 ev x6 dc x8 x9 x11 : Option SV} : ∀ (as : List Int) (tw : List D), tw.length + as.length < 800000 →
    ∃ (bs : List Int) (tw' : List D), bs.Sublist as ∧ tw'.length = tw.length + as.length ∧
    compL (nameG 10) Ct__law_net_1 Ce__law_net_2 [10] (as.map .int) [some (.d (SC ns)), some (.l true tw), hi, wi, x4, ev, x6, dc, x8, x9, none, x11] = some (bs.map .int, [some (.d (SC ns)), some (.l true tw'), hi, wi, x4, ev, x6, dc, x8, x9, none, x11])
  | [], tw, _ => ⟨[], tw, .slnil, by simp, rfl⟩
  | a :: as, tw, h => by
    simp only [List.length_cons] at h
    obtain ⟨v, v0, v1, e⟩ := draw_spec ns tw 2 (by omega) (by omega)
    obtain ⟨bs, tw', s1, s2, s3⟩ := rim_net (ns := ns) (hi := hi) (wi := wi) (x4 := x4) (ev := ev) (x6 := x6) (dc := dc) (x8 := x8) (x9 := x9) (x11 := x11) as (tw ++ [.int 0]) (by simp; omega)
    simp only [List.length_append, List.length_cons, List.length_nil] at s2
    by_cases hv : v = 0
    · subst hv
      refine ⟨a :: bs, tw', .cons_cons a s1, by simp only [List.length_cons]; omega, ?_⟩
      rw [List.map_cons, compL_cons]
      unfold Ct__law_net_1 Ce__law_net_2 at *
      simp_arith [e, s3, Option.toList]
    · refine ⟨bs, tw', .cons a s1, by simp only [List.length_cons]; omega, ?_⟩
      rw [List.map_cons, compL_cons]
      have hb : (v == 0) = false := by simp [hv]
      unfold Ct__law_net_1 Ce__law_net_2 at *
      simp_arith [e, s3, hb, Option.toList]
theorem net_spec (ns : List Int) (town : List D) (high wide : Nat) (h1 : 1 ≤ high) (h2 : high ≤ 7) (h3 : wide ≤ 20) (hl : town.length < 700000) :
    ∃ (N : Net) (town' : List D), N.WF ∧ N.n ≤ high ∧ N.ties.length ≤ wide ∧ N.rim ≠ [] ∧ town'.length ≤ town.length + 60 ∧ g__law_net [SC ns, .int high, .int wide] town = some (encN N, town') := by
  obtain ⟨v, v0, v1, e1⟩ := draw_spec ns town high (by omega) (by omega)
  obtain ⟨n, rfl⟩ : ∃ n : Nat, v = n := ⟨v.toNat, by omega⟩
  have hn1 : ((1 : Int) + (n : Int)) = ((n + 1 : Nat) : Int) := by omega
  obtain ⟨ev, x6, a1, a2, a3⟩ := F1_net (sc := some (.d (SC ns))) (tw := some (.l true (town ++ [.int 0]))) (hi := some (.d (.int high))) (wi := some (.d (.int wide))) (n := n + 1) (by omega) (x7 := none) (x8 := none) (x9 := none) (x10 := none) (x11 := none) rfl (ir (n + 1)) [] none (fun a m => by have := mem_ir.mp m; omega) (by simp) (by simp [ir_len]; omega)
  obtain ⟨u, u0, u1, e2⟩ := draw_spec ns (town ++ [.int 0]) 3 (by omega) (by simp; omega)
  -- the second loop, or not
  have hF2 : ∃ (ks : List Tie) (tw : List D) (x10 x11 : Option SV), plG x10 = true ∧ (∀ t ∈ ks, TV (n + 1) t) ∧ ks.Nodup ∧ ks.length ≤ 7 ∧ town.length + 2 ≤ tw.length ∧ tw.length ≤ town.length + 9 ∧
      (ifM (tstM gtB (callRM 1 g__law_draw (consM (varM 0) (hereM 1 (consM (cM (PyData.int 3)) nilM)))) (cM (PyData.int 0))) (forM (rng2M (cM (PyData.int 1)) (varM 4)) (nameG 10) F__law_net_2) skipM) [some (.d (SC ns)), some (.l true (town ++ [.int 0])), some (.d (.int high)), some (.d (.int wide)), some (.d (.int ((n + 1 : Nat) : Int))), some (.d (.list (ev.map encT))), x6, some (.m false true (dicT [])), none, none, none, none] =
      some (.nx [some (.d (SC ns)), some (.l true tw), some (.d (.int high)), some (.d (.int wide)), some (.d (.int ((n + 1 : Nat) : Int))), some (.d (.list (ev.map encT))), x6, some (.m false true (dicT ks)), none, none, x10, x11]) := by
    by_cases hu : 0 < u
    · obtain ⟨ks, tw, x10, x11, bp, b1, b2, b3, b4, b5⟩ := F2_net (ns := ns) (hi := some (.d (.int high))) (wi := some (.d (.int wide))) (ev := some (.d (.list (ev.map encT)))) (x6 := x6) (x8 := none) (x9 := none) (n := n + 1) ((List.range (((n + 1 : Nat) : Int) - 1).toNat).map fun (i : Nat) => 1 + (i : Int)) [] (town ++ [.int 0] ++ [.int 0]) none none rfl (fun a m => mem_rg.mp m) (by simp) (by simp) (by simp; omega) (by simp; omega)
      refine ⟨ks, tw, x10, x11, bp, b1, b2, by simp at b3; omega, by simp at b4; omega, by simp at b4; omega, ?_⟩
      rw [← rngL_eq] at b5
      have r1 : rngOk 1 = true := by decide
      have r2 : rngOk ((n + 1 : Nat) : Int) = true := rng_ok (by omega) (by omega)
      simp_arith [forM_a, e2, hu, r1, r2, b5]
    · refine ⟨[], town ++ [.int 0] ++ [.int 0], none, none, rfl, by simp, by simp, by simp, by simp, by simp, ?_⟩
      simp_arith [e2, hu]
  obtain ⟨ks, tw, x10, x11, bp, b1, b2, b3, b4, b4', b5⟩ := hF2
  obtain ⟨w, w0, w1, e3⟩ := draw_spec ns tw ((wide : Int) + 1) (by omega) (by omega)
  obtain ⟨m, rfl⟩ : ∃ m : Nat, w = m := ⟨w.toNat, by omega⟩
  obtain ⟨ks2, tw2, x8, c1, c2, c3, c4, c5, c6⟩ := F3_net (ns := ns) (hi := some (.d (.int high))) (x6 := x6) (x9 := none) (x10 := x10) (x11 := x11) (n := n + 1) (wide := wide) a1 (ir m) ks (tw ++ [.int 0]) none b1 b2 (by rw [ir_len]; omega) (by simp [ir_len]; omega)
  simp only [ir_len, List.length_append, List.length_cons, List.length_nil] at c3 c4 c5
  obtain ⟨bs, tw3, d1, d2, d3⟩ := rim_net (ns := ns) (hi := some (.d (.int high))) (wi := some (.d (.int wide))) (x4 := some (.d (.int ((n + 1 : Nat) : Int)))) (ev := some (.d (.list (ev.map encT)))) (x6 := x6) (dc := some (.m false true (dicT ks2))) (x8 := x8) (x9 := none) (x11 := x11) (ir (n + 1)) tw2 (by rw [ir_len]; omega)
  rw [ir_len] at d2
  have hF4 : ∃ (rim : List Int) (tw4 : List D) (r : Rho), rim ≠ [] ∧ (∀ k ∈ rim, 0 ≤ k ∧ k < ((n + 1 : Nat) : Int)) ∧ rim.Pairwise (· < ·) ∧ tw4.length ≤ tw3.length + 1 ∧
      (ifM (notM (truM (varM 9))) (asgM 9 (ofL (lstM (consM (callRM 1 g__law_draw (consM (varM 0) (hereM 1 (consM (varM 4) nilM)))) nilM)))) skipM) [some (.d (SC ns)), some (.l true tw3), some (.d (.int high)), some (.d (.int wide)), some (.d (.int ((n + 1 : Nat) : Int))), some (.d (.list (ev.map encT))), x6, some (.m false true (dicT ks2)), x8, some (.d (.list (bs.map .int))), x10, x11] =
      some (.nx [some (.d (SC ns)), some (.l true tw4), some (.d (.int high)), some (.d (.int wide)), some (.d (.int ((n + 1 : Nat) : Int))), some (.d (.list (ev.map encT))), x6, some (.m false true (dicT ks2)), x8, some (.d (.list (rim.map .int))), x10, x11]) := by
    cases bs with
    | nil =>
      obtain ⟨q, q0, q1, e4⟩ := draw_spec ns tw3 ((n + 1 : Nat) : Int) (by omega) (by omega)
      refine ⟨[q], tw3 ++ [.int 0], [], by simp, by simp; omega, by simp, by simp, ?_⟩
      simp_arith [e4]
    | cons b bs =>
      refine ⟨b :: bs, tw3, [], by simp, fun k mk => mem_ir.mp (d1.subset mk), (ir_sorted _).sublist d1, by omega, ?_⟩
      simp_arith [e2]
  obtain ⟨rim, tw4, _, f1, f2, f3, f4, f5⟩ := hF4
  refine ⟨⟨n + 1, (sortT ks2).take wide, rim⟩, tw4, ⟨by simp, by simp; omega, fun t mt => ?_, ?_, f2, f3⟩, by simp; omega, by simp; omega, f1, by omega, ?_⟩
  · exact c1 t (mem_sortT.mp (List.mem_of_mem_take mt))
  · exact (sortT_lt c2).sublist (List.take_sublist _ _)
  · unfold g__law_net b__law_net N__law_net
    have r2 : rngOk ((n + 1 : Nat) : Int) = true := rng_ok (by omega) (by omega)
    have r3 : rngOk (m : Int) = true := rng_ok (by omega) (by omega)
    have z1 : szOk (rngL 0 ((n + 1 : Nat) : Int)).length = true := by rw [rngL_ir]; exact szOk_of (by simp [ir_len]; omega)
    rw [← rngL_ir] at a3 c6 d3
    rw [List.map_nil] at a3
    have so : sortOk (ks2.map encT) = true := sortOk_T (by omega)
    have dn : dicT [] = [] := rfl
    rw [dn] at b5
    simp_arith [-ifM_a, forM_a, e1, hn1, r2, a3, b5, e3, r3, c6, z1, d3, bp, f5, dicT_keys, so, sortL_T, cut_take]
    simp [encN, List.map_take]
end L_k01

namespace DL
open PySem L2 GT
def wholeD (d : D) (lo hi : Int) : Bool := match d with
  | .int i => decide (lo ≤ i) && decide (i ≤ hi)
  | _ => false
theorem isi_int (d : D) : isiD .int d = some (.bool (match d with | .int _ => true | .bool _ => true | _ => false)) := by cases d <;> rfl
theorem isi_bool (d : D) : isiD .bool d = some (.bool (match d with | .bool _ => true | _ => false)) := by cases d <;> rfl
theorem isi_tuple (d : D) : isiD .tuple d = some (.bool (match d with | .tuple _ => true | _ => false)) := by cases d <;> rfl
theorem isi_str (d : D) : isiD .str d = some (.bool (match d with | .str _ => true | _ => false)) := by cases d <;> rfl
theorem cut_init {α : Type} (xs : List α) : cutD xs none (some (-1)) = xs.dropLast := by
  unfold cutD
  have e : HT.sIx xs.length xs.length (some (-1)) = xs.length - 1 := by
    show (if (-1 : Int) < 0 then ((-1 : Int) + (xs.length : Int)).toNat else min (-1 : Int).toNat xs.length) = _
    rw [if_pos (by decide)]; omega
  rw [e, HT.sIx_none, List.drop_zero, Nat.sub_zero, List.dropLast_eq_take]
theorem cut_tail {α : Type} (xs : List α) : cutD xs (some 1) none = xs.tail := by
  unfold cutD
  have e : HT.sIx xs.length 0 (some 1) = min 1 xs.length := HT.sIx_nat xs.length 0 1
  rw [e, HT.sIx_none]
  cases xs with
  | nil => rfl
  | cons x xs => simp
/-- neighbours rise -/
def upB {α : Type} (lt : α → α → Bool) : List α → Bool
  | a :: b :: r => lt a b && upB lt (b :: r)
  | _ => true
theorem upB_zip {α : Type} (lt : α → α → Bool) : ∀ xs : List α, ((xs.dropLast.zip xs.tail).all fun p => lt p.1 p.2) = upB lt xs
  | [] => rfl
  | [_] => rfl
  | a :: b :: r => by
    have ih := upB_zip lt (b :: r)
    simp only [List.dropLast_cons_cons, List.tail_cons, List.zip_cons_cons, List.all_cons, upB] at ih ⊢
    rw [ih]
theorem zipL_enc {α : Type} (enc : α → D) (xs ys : List α) : zipL (xs.map enc) (ys.map enc) = (xs.zip ys).map fun p => pairD (enc p.1) (enc p.2) := by
  unfold zipL
  rw [List.zipWith_map, List.zip, List.map_zipWith]
theorem allD_b (bs : List Bool) : allD (.list (bs.map .bool)) = some (.bool (bs.all id)) := by
  show (blsOf (bs.map .bool)).map _ = _
  rw [show blsOf (bs.map PyData.bool) = some bs from by induction bs with
    | nil => rfl
    | cons b bs ih => simp [blsOf, ih]]
  rfl
theorem anyD_b (bs : List Bool) : anyD (.list (bs.map .bool)) = some (.bool (bs.any id)) := by
  show (blsOf (bs.map .bool)).map _ = _
  rw [show blsOf (bs.map PyData.bool) = some bs from by induction bs with
    | nil => rfl
    | cons b bs ih => simp [blsOf, ih]]
  rfl
theorem allD_map {α : Type} (p : α → Bool) (xs : List α) : allD (.list (xs.map fun x => .bool (p x))) = some (.bool (xs.all p)) := by
  have := allD_b (xs.map p)
  rw [List.map_map] at this
  rw [show (fun x => PyData.bool (p x)) = PyData.bool ∘ p from rfl, this]
  simp [List.all_map]
end DL
namespace L_k01
open PySem L2 DL GT
theorem whole_eval (d : D) (lo hi : Int) : g_is_whole [d, .int lo, .int hi] = some (.bool (wholeD d lo hi)) := by
  unfold g_is_whole b_is_whole N_is_whole
  cases d with
  | int i =>
    simp_arith [isi_int, isi_bool]
    by_cases h : lo ≤ i
    · simp_arith [h, wholeD]
    · simp_arith [h, wholeD]
  | _ => simp_arith [isi_int, isi_bool, wholeD]
theorem rising_eval (lt : D → D → Bool) (xs : List D) (hl : xs.length ≤ 1000) (hlt : ∀ x ∈ xs, ∀ y ∈ xs, ltB x y = some (lt x y)) : g_are_rising [.tuple xs] = some (.bool (upB lt xs)) := by
  unfold g_are_rising b_are_rising N_are_rising
  have hc := compL_map (g := tupG 2 (consG (nameG 1) (consG (nameG 2) nilG))) (el := Ce_are_rising_1) (is := [1, 2]) (r := [some (.d (.tuple xs)), none, none]) (fun p : D × D => pairD p.1 p.2) (fun p => .bool (lt p.1 p.2)) (xs.dropLast.zip xs.tail) (fun p m => by
    have h1 : p.1 ∈ xs := List.dropLast_subset _ (List.of_mem_zip m).1
    have h2 : p.2 ∈ xs := List.mem_of_mem_tail (List.of_mem_zip m).2
    unfold Ce_are_rising_1 pairD
    simp_arith [hlt p.1 h1 p.2 h2])
  have hz : zipL xs.dropLast xs.tail = (xs.dropLast.zip xs.tail).map (fun p : D × D => pairD p.1 p.2) := by
    have := zipL_enc id xs.dropLast xs.tail
    simpa using this
  have hs : szOk (zipL xs.dropLast xs.tail).length = true := szOk_of (by rw [hz]; simp; omega)
  rw [← hz] at hc
  simp_arith [cut_init, cut_tail, hs, hc, allD_map, upB_zip]
end L_k01

namespace DL
open PySem L2 GT
/-- data not too deep, not too long -/
def nice : Nat → D → Bool
  | _, .none => true
  | _, .bool _ => true
  | _, .int _ => true
  | _, .str x => PyData.strOk x && decide (x.length ≤ 1000)
  | k + 1, .tuple xs => decide (xs.length ≤ 1000) && xs.all (nice k)
  | k + 1, .list xs => decide (xs.length ≤ 1000) && xs.all (nice k)
  | _, _ => false
theorem nice_all {k : Nat} {xs : List D} (ih : ∀ d, nice k d = true → d.canLay0 = true ∧ d.depth ≤ k) : xs.all (nice k) = true → PyData.canLayAll0 xs = true ∧ PyData.depthAll xs ≤ k := by
  induction xs with
  | nil => intro _; simp [PyData.canLayAll0, PyData.depthAll]
  | cons x xs ihx =>
    intro h
    simp only [List.all_cons, Bool.and_eq_true] at h
    have h1 := ih x h.1
    have h2 := ihx h.2
    simp only [PyData.canLayAll0, PyData.depthAll, h1.1, h2.1, Bool.and_self, true_and]
    omega
theorem nice_lay : ∀ (k : Nat) (d : D), nice k d = true → d.canLay0 = true ∧ d.depth ≤ k
  | k, .none, _ => by simp [PyData.canLay0, PyData.depth]
  | k, .bool _, _ => by simp [PyData.canLay0, PyData.depth]
  | k, .int _, _ => by simp [PyData.canLay0, PyData.depth]
  | k, .str x, h => by cases k <;> (simp [nice] at h; simp [PyData.canLay0, PyData.depth, h.1])
  | 0, .tuple xs, h => by simp [nice] at h
  | k + 1, .tuple xs, h => by
    simp only [nice, Bool.and_eq_true] at h
    have := nice_all (nice_lay k) h.2
    simp only [PyData.canLay0, PyData.depth]; exact ⟨this.1, by omega⟩
  | 0, .list xs, h => by simp [nice] at h
  | k + 1, .list xs, h => by
    simp only [nice, Bool.and_eq_true] at h
    have := nice_all (nice_lay k) h.2
    simp only [PyData.canLay0, PyData.depth]; exact ⟨this.1, by omega⟩
  | 0, .dict _, h => by simp [nice] at h
  | _ + 1, .dict _, h => by simp [nice] at h
theorem nice_shaped {k : Nat} {d : D} (h : nice k d = true) (hk : k ≤ 60) : SeqAt.shaped d = true := by
  have := nice_lay k d h
  unfold SeqAt.shaped
  rw [this.1, decide_eq_true (by omega)]; rfl
theorem nice_tup {k : Nat} {xs : List D} (h : nice k (.tuple xs) = true) : xs.length ≤ 1000 ∧ ∃ j, k = j + 1 ∧ ∀ x ∈ xs, nice j x = true := by
  cases k with
  | zero => simp [nice] at h
  | succ j => simp only [nice, Bool.and_eq_true, decide_eq_true_eq, List.all_eq_true] at h; exact ⟨h.1, j, rfl, h.2⟩
theorem eqB_nil {xs : List D} (h : SeqAt.shaped (.tuple xs) = true) : eqB (.tuple xs) (.tuple []) = some xs.isEmpty := by
  unfold eqB
  rw [h]
  cases xs <;> rfl
def tieD (m : Int) (d : D) : Bool := match d with
  | .tuple [.int x, .int y] => (decide (0 ≤ x) && decide (x ≤ m - 1)) && ((decide (0 ≤ y) && decide (y ≤ m - 1)) && decide (x < y))
  | _ => false
def ltD (x y : D) : Bool := (ltB x y).getD false
def netD (d : D) : Bool := match d with
  | .tuple [.int m, .tuple ts, .tuple rim] => (decide (1 ≤ m) && decide (m ≤ 7)) && (decide (ts.length ≤ 9) && (ts.all (tieD m) && (!rim.isEmpty && (rim.all (wholeD · 0 (m - 1)) && (upB ltD ts && upB ltD rim)))))
  | _ => false
theorem tieD_lt {m : Int} {x y : D} (hx : tieD m x = true) (hy : tieD m y = true) : ltB x y = some (ltD x y) := by
  unfold tieD at hx hy
  split at hx
  · split at hy
    · rfl
    · cases hy
  · cases hx
theorem wholeD_lt {a b : Int} {x y : D} (hx : wholeD x a b = true) (hy : wholeD y a b = true) : ltB x y = some (ltD x y) := by
  unfold wholeD at hx hy
  split at hx
  · split at hy
    · rfl
    · cases hy
  · cases hx
theorem len3 {xs : List D} (h : xs.length = 3) : ∃ a b c, xs = [a, b, c] := by
  match xs, h with
  | [a, b, c], _ => exact ⟨a, b, c, rfl⟩
theorem len2 {xs : List D} (h : xs.length = 2) : ∃ a b, xs = [a, b] := by
  match xs, h with
  | [a, b], _ => exact ⟨a, b, rfl⟩
theorem atI_0 {α : Type} (a : α) (xs : List α) : atI (a :: xs) 0 = some a := by
  unfold atI ixN; simp
theorem atI_1 {α : Type} (a b : α) (xs : List α) : atI (a :: b :: xs) 1 = some b := by
  unfold atI ixN
  rw [if_pos (by decide), if_pos (by simp only [List.length_cons]; omega)]; rfl
theorem atI_2 {α : Type} (a b c : α) (xs : List α) : atI (a :: b :: c :: xs) 2 = some c := by
  unfold atI ixN
  rw [if_pos (by decide), if_pos (by simp only [List.length_cons]; omega)]; rfl
end DL
namespace L_k01
open PySem L2 DL GT
theorem tie_eval (d : D) (m : Int) : g_is_tie [d, .int m] = some (.bool (tieD m d)) := by
  unfold g_is_tie b_is_tie N_is_tie
  cases d with
  | tuple ds =>
    by_cases hl : ds.length = 2
    · obtain ⟨a, b, rfl⟩ := len2 hl
      have hc := compL_map (g := nameG 2) (el := Ce_is_tie_1) (is := [2]) (r := [some (.d (.tuple [a, b])), some (.d (.int m)), none]) id (fun x => .bool (wholeD x 0 (m - 1))) [a, b] (fun x _ => by
        unfold Ce_is_tie_1
        simp_arith [whole_eval, id])
      rw [List.map_id] at hc
      simp_arith [isi_tuple, hc, allD_map, atI_0, atI_1]
      have ha : allD (.list [.bool (wholeD a 0 (m - 1)), .bool (wholeD b 0 (m - 1))]) = some (.bool (wholeD a 0 (m - 1) && wholeD b 0 (m - 1))) := by
        have := allD_b [wholeD a 0 (m - 1), wholeD b 0 (m - 1)]
        simpa using this
      simp_arith [ha]
      cases h1 : wholeD a 0 (m - 1) with
      | false =>
        simp_arith [Bool.false_and]
        unfold tieD wholeD at *
        split
        · rename_i e; cases e; simp only at h1; rw [h1]; rfl
        · rfl
      | true =>
        cases h2 : wholeD b 0 (m - 1) with
        | false =>
          simp_arith [Bool.and_false]
          unfold tieD wholeD at *
          split
          · rename_i e; cases e; simp only at h1 h2; rw [h1, h2]; rfl
          · rfl
        | true =>
          simp_arith [Bool.and_true]
          unfold wholeD at h1 h2
          split at h1
          · split at h2
            · simp_arith [atI_0, atI_1, tieD]
              rw [h1, h2]; rfl
            · cases h2
          · cases h1
    · have hb : ((ds.length : Int) == 2) = false := by simp; omega
      simp_arith [isi_tuple, hb]
      unfold tieD
      split
      · rename_i e; cases e; exact absurd rfl hl
      · rfl
  | _ => simp_arith [isi_tuple, tieD]
theorem netD_no {d : D} (h : ∀ m ts rim, d ≠ .tuple [.int m, .tuple ts, .tuple rim]) : netD d = false := by
  unfold netD
  split
  · exact absurd rfl (h _ _ _)
  · rfl
theorem net_eval (d : D) (hn : nice 20 d = true) : g_is_net [d] = some (.bool (netD d)) := by
  unfold g_is_net b_is_net N_is_net
  cases d with
  | tuple ds =>
    by_cases hl : ds.length = 3
    · obtain ⟨a, b, c, rfl⟩ := len3 hl
      cases hw : wholeD a 1 7 with
      | false =>
        simp_arith [isi_tuple, atI_0, whole_eval, hw]
        unfold netD wholeD at *
        split
        · rename_i e; cases e; simp only at hw; rw [hw]; rfl
        · rfl
      | true =>
        obtain ⟨m, rfl⟩ : ∃ m, a = .int m := by
          unfold wholeD at hw; split at hw
          · exact ⟨_, rfl⟩
          · cases hw
        have hw' : (decide (1 ≤ m) && decide (m ≤ 7)) = true := hw
        cases b with
        | tuple ts =>
          by_cases h9 : ts.length ≤ 9
          · have h9' : decide ((9 : Int) < (ts.length : Nat)) = false := decide_eq_false (by omega)
            have hc := compL_map (g := nameG 4) (el := Ce_is_net_1) (is := [4]) (r := [some (.d (.tuple [.int m, .tuple ts, c])), some (.d (.int m)), some (.d (.tuple ts)), some (.d c), none, none]) id (fun x => .bool (tieD m x)) ts (fun x _ => by
              unfold Ce_is_net_1
              simp_arith [tie_eval, id])
            rw [List.map_id] at hc
            have hz : szOk ts.length = true := szOk_of (by omega)
            cases ht : ts.all (tieD m) with
            | false =>
              simp_arith [isi_tuple, atI_0, whole_eval, hw, h9', hz, hc, allD_map, ht]
              unfold netD
              split
              · rename_i e; cases e; rw [ht]; simp
              · rfl
            | true =>
              cases c with
              | tuple rim =>
                obtain ⟨_, j, ej, hsub⟩ := nice_tup hn
                have hr := hsub (.tuple rim) (by simp)
                have hsh := nice_shaped hr (by omega)
                have hlen := (nice_tup hr).1
                have hz2 : szOk rim.length = true := szOk_of (by omega)
                have hc2 := compL_map (g := nameG 5) (el := Ce_is_net_2) (is := [5]) (r := [some (.d (.tuple [.int m, .tuple ts, .tuple rim])), some (.d (.int m)), some (.d (.tuple ts)), some (.d (.tuple rim)), none, none]) id (fun x => .bool (wholeD x 0 (m - 1))) rim (fun x _ => by
                  unfold Ce_is_net_2
                  simp_arith [whole_eval, id])
                rw [List.map_id] at hc2
                cases he : rim.isEmpty with
                | true =>
                  simp_arith [isi_tuple, atI_0, whole_eval, hw, h9', hz, hc, allD_map, ht, eqB_nil hsh, he]
                  unfold netD
                  simp [he]
                | false =>
                  cases hk : rim.all (wholeD · 0 (m - 1)) with
                  | false =>
                    simp_arith [isi_tuple, atI_0, whole_eval, hw, h9', hz, hc, allD_map, ht, eqB_nil hsh, he, hz2, hc2, hk]
                    unfold netD
                    simp [hk]
                  | true =>
                    have u1 := rising_eval ltD ts (by omega) fun x mx y my => tieD_lt (List.all_eq_true.mp ht x mx) (List.all_eq_true.mp ht y my)
                    have u2 := rising_eval ltD rim hlen fun x mx y my => wholeD_lt (List.all_eq_true.mp hk x mx) (List.all_eq_true.mp hk y my)
                    have hN : netD (.tuple [.int m, .tuple ts, .tuple rim]) = (upB ltD ts && upB ltD rim) := by
                      simp only [netD]
                      rw [hw', ht, hk, he, decide_eq_true h9]; rfl
                    rw [hN]
                    cases hu : upB ltD ts with
                    | false =>
                      simp_arith [isi_tuple, atI_0, whole_eval, hw, h9', hz, hc, allD_map, ht, eqB_nil hsh, he, hz2, hc2, hk, u1, u2, hu, Bool.false_and]
                    | true =>
                      simp_arith [isi_tuple, atI_0, whole_eval, hw, h9', hz, hc, allD_map, ht, eqB_nil hsh, he, hz2, hc2, hk, u1, u2, hu, Bool.true_and]
              | _ =>
                simp_arith [isi_tuple, atI_0, whole_eval, hw, h9', hz, hc, allD_map, ht]
                rw [netD_no (by intro _ _ _ e; cases e)]
          · have h9' : decide ((9 : Int) < (ts.length : Nat)) = true := decide_eq_true (by omega)
            simp_arith [isi_tuple, atI_0, whole_eval, hw, h9']
            unfold netD
            split
            · rename_i e; cases e; rw [decide_eq_false h9]; simp
            · rfl
        | _ =>
          simp_arith [isi_tuple, atI_0, whole_eval, hw]
          rw [netD_no (by intro _ _ _ e; cases e)]
    · have hb : ((ds.length : Int) == 3) = false := by simp; omega
      simp_arith [isi_tuple, hb]
      rw [netD_no (by intro _ _ _ e; cases e; exact hl rfl)]
  | _ =>
    simp_arith [isi_tuple]
    rw [netD_no (by intro _ _ _ e; cases e)]
end L_k01

namespace DL
open PySem L2 GT
def goodT (m : Int) : Tie → List D → Bool
  | _, [] => true
  | a, t :: ts => match t with
    | .tuple [.int x, .int y] => (decide (0 ≤ x) && decide (x ≤ m - 1)) && ((decide (x + 1 ≤ y) && decide (y ≤ m - 1)) && (HT.lexLt [a.1, a.2] [x, y] && goodT m (x, y) ts))
    | _ => false
def goodR (m : Int) : Int → List D → Bool
  | _, [] => true
  | a, k :: ks => match k with
    | .int i => (decide (a + 1 ≤ i) && decide (i ≤ m - 1)) && goodR m i ks
    | _ => false
theorem goodT_eq (m : Int) : ∀ (ts : List D) (a : Tie), goodT m a ts = (ts.all (tieD m) && upB ltD (encT a :: ts))
  | [], a => rfl
  | t :: ts, a => by
    simp only [List.all_cons, upB]
    by_cases h : ∃ x y, t = .tuple [.int x, .int y]
    · obtain ⟨x, y, rfl⟩ := h
      simp only [goodT, tieD]
      rw [goodT_eq m ts (x, y)]
      have e : ltD (encT a) (.tuple [.int x, .int y]) = HT.lexLt [a.1, a.2] [x, y] := rfl
      rw [e]
      by_cases h1 : 0 ≤ x <;> by_cases h2 : x ≤ m - 1 <;> by_cases h3 : x < y <;> by_cases h4 : y ≤ m - 1 <;>
        simp [h1, h2, h3, h4, show (x + 1 ≤ y) ↔ x < y from Iff.rfl, show (0 ≤ x → x < y → 0 ≤ y) from fun _ _ => by omega]
      · show (HT.lexLt [a.1, a.2] [x, y] && (ts.all (tieD m) && upB ltD (.tuple [.int x, .int y] :: ts))) = _
        cases HT.lexLt [a.1, a.2] [x, y] <;> simp
    · have e1 : goodT m a (t :: ts) = false := by
        simp only [goodT]
        split
        · exact absurd ⟨_, _, rfl⟩ h
        · rfl
      have e2 : tieD m t = false := by
        unfold tieD
        split
        · exact absurd ⟨_, _, rfl⟩ h
        · rfl
      rw [e1, e2]; rfl
theorem goodR_eq (m : Int) : ∀ (ks : List D) (a : Int), -1 ≤ a → goodR m a ks = (ks.all (wholeD · 0 (m - 1)) && upB ltD (.int a :: ks))
  | [], a, _ => rfl
  | k :: ks, a, h0 => by
    simp only [List.all_cons, upB]
    by_cases h : ∃ i, k = .int i
    · obtain ⟨i, rfl⟩ := h
      have ew : wholeD (.int i) 0 (m - 1) = (decide (0 ≤ i) && decide (i ≤ m - 1)) := rfl
      simp only [goodR]
      rw [ew]
      have e : ltD (.int a) (.int i) = decide (a < i) := rfl
      rw [e]
      by_cases h1 : a < i
      · rw [goodR_eq m ks i (by omega), decide_eq_true (show a + 1 ≤ i by omega), decide_eq_true (show 0 ≤ i by omega), decide_eq_true h1]
        cases decide (i ≤ m - 1) <;> simp
      · rw [decide_eq_false (show ¬ a + 1 ≤ i by omega), decide_eq_false h1]; simp
    · have e1 : goodR m a (k :: ks) = false := by
        simp only [goodR]
        split
        · exact absurd ⟨_, rfl⟩ h
        · rfl
      have e2 : wholeD k 0 (m - 1) = false := by
        unfold wholeD
        split
        · exact absurd ⟨_, rfl⟩ h
        · rfl
      rw [e1, e2]; rfl
end DL
namespace L_k01
open PySem L2 DL GT
theorem lwhole_eval (d : D) (lo hi : Int) : g__law_whole [d, .int lo, .int hi] = some (.bool (wholeD d lo hi)) := by
  unfold g__law_whole b__law_whole N__law_whole
  cases d with
  | int i =>
    simp_arith [isi_int, isi_bool]
    by_cases h : lo ≤ i
    · simp_arith [h, wholeD]
    · simp_arith [h, wholeD]
  | _ => simp_arith [isi_int, isi_bool, wholeD]
theorem F1_isnet {th x3 x5 x6 : Option SV} {m : Int} : ∀ (ts : List D) (a : Tie) (x2 : Option SV),
    (goodT m a ts = true ∧ ∃ (a' : Tie) (x2' : Option SV), forL (nameG 2) F__law_is_net_1 ts [th, some (.d (encT a)), x2, x3, some (.d (.int m)), x5, x6] = some (.nx [th, some (.d (encT a')), x2', x3, some (.d (.int m)), x5, x6])) ∨
    (goodT m a ts = false ∧ ∃ r', forL (nameG 2) F__law_is_net_1 ts [th, some (.d (encT a)), x2, x3, some (.d (.int m)), x5, x6] = some (.rt (.bool false) r'))
  | [], a, x2 => .inl ⟨rfl, a, x2, rfl⟩
  | t :: ts, a, x2 => by
    by_cases h : ∃ x y, t = .tuple [.int x, .int y]
    · obtain ⟨x, y, rfl⟩ := h
      cases h1 : wholeD (.int x) 0 (m - 1) with
      | false =>
        right
        refine ⟨?_, ?_⟩
        · simp only [goodT]
          have h1' : (decide (0 ≤ x) && decide (x ≤ m - 1)) = false := h1
          rw [h1']; rfl
        · rw [forL_cons]
          unfold F__law_is_net_1
          simp_arith [isi_tuple, atI_0, lwhole_eval, h1]
          exact ⟨_, rfl⟩
      | true =>
        have h1' : (decide (0 ≤ x) && decide (x ≤ m - 1)) = true := h1
        cases h2 : wholeD (.int y) (x + 1) (m - 1) with
        | false =>
          right
          refine ⟨?_, ?_⟩
          · simp only [goodT]
            have h2' : (decide (x + 1 ≤ y) && decide (y ≤ m - 1)) = false := h2
            rw [h1', h2']; rfl
          · rw [forL_cons]
            unfold F__law_is_net_1
            simp_arith [isi_tuple, atI_0, atI_1, lwhole_eval, h1, h2]
            exact ⟨_, rfl⟩
        | true =>
          have h2' : (decide (x + 1 ≤ y) && decide (y ≤ m - 1)) = true := h2
          have hle : leB (.tuple [.int x, .int y]) (encT a) = some (!HT.lexLt [a.1, a.2] [x, y]) := rfl
          cases h3 : HT.lexLt [a.1, a.2] [x, y] with
          | false =>
            right
            refine ⟨?_, ?_⟩
            · simp only [goodT]
              rw [h1', h2', h3]; rfl
            · rw [forL_cons]
              unfold F__law_is_net_1
              simp_arith [isi_tuple, atI_0, atI_1, lwhole_eval, h1, h2, hle, h3]
              exact ⟨_, rfl⟩
          | true =>
            have step : forL (nameG 2) F__law_is_net_1 (.tuple [.int x, .int y] :: ts) [th, some (.d (encT a)), x2, x3, some (.d (.int m)), x5, x6] = forL (nameG 2) F__law_is_net_1 ts [th, some (.d (encT (x, y))), some (.d (.tuple [.int x, .int y])), x3, some (.d (.int m)), x5, x6] := by
              rw [forL_cons]
              conv => lhs; arg 1; unfold F__law_is_net_1
              simp_arith [isi_tuple, atI_0, atI_1, lwhole_eval, h1, h2, hle, h3]
            have hg : goodT m a (.tuple [.int x, .int y] :: ts) = goodT m (x, y) ts := by
              simp only [goodT]
              rw [h1', h2', h3]; rfl
            rw [step, hg]
            exact F1_isnet ts (x, y) _
    · right
      have e1 : goodT m a (t :: ts) = false := by
        simp only [goodT]
        split
        · exact absurd ⟨_, _, rfl⟩ h
        · rfl
      refine ⟨e1, ?_⟩
      rw [forL_cons]
      unfold F__law_is_net_1
      cases t with
      | tuple ds =>
        by_cases hl : ds.length = 2
        · obtain ⟨p, q, rfl⟩ := len2 hl
          cases h1 : wholeD p 0 (m - 1) with
          | false =>
            simp_arith [isi_tuple, atI_0, lwhole_eval, h1]
            exact ⟨_, rfl⟩
          | true =>
            obtain ⟨x, rfl⟩ : ∃ x, p = .int x := by
              unfold wholeD at h1; split at h1
              · exact ⟨_, rfl⟩
              · cases h1
            have h2 : wholeD q (x + 1) (m - 1) = false := by
              unfold wholeD; split
              · exact absurd ⟨_, _, rfl⟩ h
              · rfl
            simp_arith [isi_tuple, atI_0, atI_1, lwhole_eval, h1, h2]
            exact ⟨_, rfl⟩
        · have hb : ((ds.length : Int) == 2) = false := by simp; omega
          simp_arith [isi_tuple, hb]
          exact ⟨_, rfl⟩
      | _ =>
        simp_arith [isi_tuple]
        exact ⟨_, rfl⟩
theorem F2_isnet {th x2 x5 x6 : Option SV} {m : Int} : ∀ (ks : List D) (a : Int) (x3 : Option SV),
    (goodR m a ks = true ∧ ∃ (a' : Int) (x3' : Option SV), forL (nameG 3) F__law_is_net_2 ks [th, some (.d (.int a)), x2, x3, some (.d (.int m)), x5, x6] = some (.nx [th, some (.d (.int a')), x2, x3', some (.d (.int m)), x5, x6])) ∨
    (goodR m a ks = false ∧ ∃ r', forL (nameG 3) F__law_is_net_2 ks [th, some (.d (.int a)), x2, x3, some (.d (.int m)), x5, x6] = some (.rt (.bool false) r'))
  | [], a, x3 => .inl ⟨rfl, a, x3, rfl⟩
  | k :: ks, a, x3 => by
    cases h1 : wholeD k (a + 1) (m - 1) with
    | false =>
      right
      refine ⟨?_, ?_⟩
      · simp only [goodR]
        unfold wholeD at h1
        split
        · simp only at h1; rw [h1]; rfl
        · rfl
      · rw [forL_cons]
        unfold F__law_is_net_2
        simp_arith [lwhole_eval, h1]
        exact ⟨_, rfl⟩
    | true =>
      obtain ⟨i, rfl⟩ : ∃ x, k = .int x := by
        unfold wholeD at h1; split at h1
        · exact ⟨_, rfl⟩
        · cases h1
      have step : forL (nameG 3) F__law_is_net_2 (.int i :: ks) [th, some (.d (.int a)), x2, x3, some (.d (.int m)), x5, x6] = forL (nameG 3) F__law_is_net_2 ks [th, some (.d (.int i)), x2, some (.d (.int i)), some (.d (.int m)), x5, x6] := by
        rw [forL_cons]
        conv => lhs; arg 1; unfold F__law_is_net_2
        simp_arith [lwhole_eval, h1]
      have hg : goodR m a (.int i :: ks) = goodR m i ks := by
        simp only [goodR]
        have h1' : (decide (a + 1 ≤ i) && decide (i ≤ m - 1)) = true := h1
        rw [h1']; rfl
      rw [step, hg]
      exact F2_isnet ks i _
end L_k01

namespace DL
open PySem L2 GT
theorem up_drop {m : Int} {ts : List D} (h : ts.all (tieD m) = true) : upB ltD (encT (-1, -1) :: ts) = upB ltD ts := by
  cases ts with
  | nil => rfl
  | cons t ts =>
    simp only [List.all_cons, Bool.and_eq_true] at h
    simp only [upB]
    have : ltD (encT (-1, -1)) t = true := by
      have h1 := h.1
      unfold tieD at h1
      split at h1
      · rename_i x y
        simp only [Bool.and_eq_true, decide_eq_true_eq] at h1
        show HT.lexLt [-1, -1] [x, y] = true
        rw [HT.lexLt_cons, if_neg (by omega)]
        exact decide_eq_true (by omega)
      · cases h1
    rw [this]; rfl
theorem upR_drop {m : Int} {ks : List D} (h : ks.all (wholeD · 0 (m - 1)) = true) : upB ltD (.int (-1) :: ks) = upB ltD ks := by
  cases ks with
  | nil => rfl
  | cons k ks =>
    simp only [List.all_cons, Bool.and_eq_true] at h
    simp only [upB]
    have : ltD (.int (-1)) k = true := by
      have h1 := h.1
      unfold wholeD at h1
      split at h1
      · rename_i x
        simp only [Bool.and_eq_true, decide_eq_true_eq] at h1
        show decide ((-1 : Int) < x) = true
        exact decide_eq_true (by omega)
      · cases h1
    rw [this]; rfl
theorem netD_good (m : Int) (ts rim : List D) : netD (.tuple [.int m, .tuple ts, .tuple rim]) = ((decide (1 ≤ m) && decide (m ≤ 7)) && (decide (ts.length ≤ 9) && (!rim.isEmpty && (goodT m (-1, -1) ts && goodR m (-1) rim)))) := by
  simp only [netD]
  rw [goodT_eq, goodR_eq _ _ _ (by omega)]
  cases h1 : ts.all (tieD m) with
  | false => simp
  | true =>
    rw [up_drop h1]
    cases h2 : rim.all (wholeD · 0 (m - 1)) with
    | false => simp
    | true =>
      rw [upR_drop h2]
      cases decide (1 ≤ m) && decide (m ≤ 7) <;> cases decide (ts.length ≤ 9) <;> cases rim.isEmpty <;> cases upB ltD ts <;> cases upB ltD rim <;> rfl
end DL
namespace L_k01
open PySem L2 DL GT
theorem lnet_eval (d : D) (hn : nice 20 d = true) : g__law_is_net [d] = some (.bool (netD d)) := by
  unfold g__law_is_net b__law_is_net N__law_is_net
  cases d with
  | tuple ds =>
    by_cases hl : ds.length = 3
    · obtain ⟨a, b, c, rfl⟩ := len3 hl
      cases hw : wholeD a 1 7 with
      | false =>
        simp_arith [isi_tuple, atI_0, lwhole_eval, hw]
        unfold netD wholeD at *
        split
        · rename_i e; cases e; simp only at hw; rw [hw]; rfl
        · rfl
      | true =>
        obtain ⟨m, rfl⟩ : ∃ m, a = .int m := by
          unfold wholeD at hw; split at hw
          · exact ⟨_, rfl⟩
          · cases hw
        have hw' : (decide (1 ≤ m) && decide (m ≤ 7)) = true := hw
        cases b with
        | tuple ts =>
          cases c with
          | tuple rim =>
            obtain ⟨_, j, ej, hsub⟩ := nice_tup hn
            have hr := hsub (.tuple rim) (by simp)
            have hsh := nice_shaped hr (by omega)
            rw [netD_good, hw']
            by_cases h9 : ts.length ≤ 9
            · have h9' : decide ((9 : Int) < (ts.length : Nat)) = false := decide_eq_false (by omega)
              rw [decide_eq_true h9]
              cases he : rim.isEmpty with
              | true =>
                simp_arith [isi_tuple, atI_0, lwhole_eval, hw, h9', eqB_nil hsh, he]
              | false =>
                have f1 := F1_isnet (th := some (.d (.tuple [.int m, .tuple ts, .tuple rim]))) (x3 := none) (x5 := some (.d (.tuple ts))) (x6 := some (.d (.tuple rim))) (m := m) ts (-1, -1) none
                rcases f1 with ⟨g1, a', x2', g2⟩ | ⟨g1, r', g2⟩
                · have f2 := F2_isnet (th := some (.d (.tuple [.int m, .tuple ts, .tuple rim]))) (x2 := x2') (x5 := some (.d (.tuple ts))) (x6 := some (.d (.tuple rim))) (m := m) rim (-1) none
                  rcases f2 with ⟨g3, b', x3', g4⟩ | ⟨g3, r', g4⟩
                  · simp_arith [forM_a, isi_tuple, atI_0, lwhole_eval, hw, h9', eqB_nil hsh, he, g2, g4]
                    rw [g1, g3]; rfl
                  · simp_arith [forM_a, isi_tuple, atI_0, lwhole_eval, hw, h9', eqB_nil hsh, he, g2, g4]
                    rw [g1, g3]; rfl
                · simp_arith [forM_a, isi_tuple, atI_0, lwhole_eval, hw, h9', eqB_nil hsh, he, g2]
                  rw [g1]; rfl
            · have h9' : decide ((9 : Int) < (ts.length : Nat)) = true := decide_eq_true (by omega)
              simp_arith [isi_tuple, atI_0, lwhole_eval, hw, h9']
              rw [decide_eq_false h9]; rfl
          | _ =>
            simp_arith [isi_tuple, atI_0, lwhole_eval, hw]
            rw [netD_no (by intro _ _ _ e; cases e)]
        | _ =>
          simp_arith [isi_tuple, atI_0, lwhole_eval, hw]
          rw [netD_no (by intro _ _ _ e; cases e)]
    · have hb : ((ds.length : Int) == 3) = false := by simp; omega
      simp_arith [isi_tuple, hb]
      rw [netD_no (by intro _ _ _ e; cases e; exact hl rfl)]
  | _ =>
    simp_arith [isi_tuple]
    rw [netD_no (by intro _ _ _ e; cases e)]
/-- the same truth -/
theorem same_bool (b : Bool) : g__law_same [.bool b, .bool b] = some (.bool true) := by
  show runF N__law_same (b__law_same (gr__law_same 39)) [.bool b, .bool b] = _
  unfold b__law_same N__law_same
  have h1 : isB (.bool b) .none = some false := rfl
  have h2 : eqB (.bool b) (.bool b) = some true := by cases b <;> rfl
  simp_arith [isi_bool, h1, h2]
theorem nice_mono : ∀ (k : Nat) (d : D), nice k d = true → nice (k + 1) d = true
  | _, .none, _ => by simp [nice]
  | _, .bool _, _ => by simp [nice]
  | _, .int _, _ => by simp [nice]
  | k, .str x, h => by cases k <;> simpa [nice] using h
  | 0, .tuple _, h => by simp [nice] at h
  | 0, .list _, h => by simp [nice] at h
  | 0, .dict _, h => by simp [nice] at h
  | _ + 1, .dict _, h => by simp [nice] at h
  | k + 1, .tuple xs, h => by
    simp only [nice, Bool.and_eq_true, List.all_eq_true] at h ⊢
    exact ⟨h.1, fun x m => nice_mono k x (h.2 x m)⟩
  | k + 1, .list xs, h => by
    simp only [nice, Bool.and_eq_true, List.all_eq_true] at h ⊢
    exact ⟨h.1, fun x m => nice_mono k x (h.2 x m)⟩
theorem nice_le {j k : Nat} (h : j ≤ k) {d : D} (hd : nice j d = true) : nice k d = true := by
  induction h with
  | refl => exact hd
  | step _ ih => exact nice_mono _ _ ih
end L_k01

namespace DL
open PySem L2 GT
/-- the same, somewhat shorter -/
def nicer : Nat → D → Bool
  | _, .none => true
  | _, .bool _ => true
  | _, .int _ => true
  | _, .str x => PyData.strOk x && decide (x.length ≤ 300)
  | k + 1, .tuple xs => decide (xs.length ≤ 300) && xs.all (nicer k)
  | k + 1, .list xs => decide (xs.length ≤ 300) && xs.all (nicer k)
  | _, _ => false
theorem nicer_nice : ∀ (k : Nat) (d : D), nicer k d = true → nice k d = true
  | _, .none, _ => by simp [nice]
  | _, .bool _, _ => by simp [nice]
  | _, .int _, _ => by simp [nice]
  | k, .str x, h => by
    cases k <;> (simp [nicer] at h; simp [nice, h.1]; omega)
  | 0, .tuple _, h => by simp [nicer] at h
  | 0, .list _, h => by simp [nicer] at h
  | 0, .dict _, h => by simp [nicer] at h
  | _ + 1, .dict _, h => by simp [nicer] at h
  | k + 1, .tuple xs, h => by
    simp only [nicer, nice, Bool.and_eq_true, List.all_eq_true, decide_eq_true_eq] at h ⊢
    exact ⟨by omega, fun x m => nicer_nice k x (h.2 x m)⟩
  | k + 1, .list xs, h => by
    simp only [nicer, nice, Bool.and_eq_true, List.all_eq_true, decide_eq_true_eq] at h ⊢
    exact ⟨by omega, fun x m => nicer_nice k x (h.2 x m)⟩
theorem nicer_tup {k : Nat} {xs : List D} (h : nicer k (.tuple xs) = true) : xs.length ≤ 300 ∧ ∃ j, k = j + 1 ∧ ∀ x ∈ xs, nicer j x = true := by
  cases k with
  | zero => simp [nicer] at h
  | succ j => simp only [nicer, Bool.and_eq_true, decide_eq_true_eq, List.all_eq_true] at h; exact ⟨h.1, j, rfl, h.2⟩
theorem nice_mk {k : Nat} {xs : List D} (h : xs.length ≤ 1000) (h2 : ∀ x ∈ xs, nice k x = true) : nice (k + 1) (.tuple xs) = true := by
  simp only [nice, Bool.and_eq_true, decide_eq_true_eq, List.all_eq_true]; exact ⟨h, h2⟩
theorem nice_mkL {k : Nat} {xs : List D} (h : xs.length ≤ 1000) (h2 : ∀ x ∈ xs, nice k x = true) : nice (k + 1) (.list xs) = true := by
  simp only [nice, Bool.and_eq_true, decide_eq_true_eq, List.all_eq_true]; exact ⟨h, h2⟩
theorem cut_take' {α : Type} (xs : List α) {i : Int} (h : 0 ≤ i) : cutD xs none (some i) = xs.take i.toNat := by
  obtain ⟨k, rfl⟩ : ∃ k : Nat, i = k := ⟨i.toNat, by omega⟩
  unfold cutD
  rw [HT.sIx_none, HT.sIx_nat, List.drop_zero, Nat.sub_zero, Int.toNat_natCast]
  rcases Nat.le_total k xs.length with h | h
  · rw [Nat.min_eq_left h]
  · rw [Nat.min_eq_right h, List.take_length, List.take_of_length_le h]
theorem cut_drop' {α : Type} (xs : List α) {i : Int} (h : 0 ≤ i) : cutD xs (some i) none = xs.drop i.toNat := by
  obtain ⟨k, rfl⟩ : ∃ k : Nat, i = k := ⟨i.toNat, by omega⟩
  unfold cutD
  rw [HT.sIx_none, HT.sIx_nat, Int.toNat_natCast]
  rw [List.take_of_length_le (by simp)]
  rcases Nat.le_total k xs.length with h | h
  · rw [Nat.min_eq_left h]
  · rw [Nat.min_eq_right h, List.drop_length, List.drop_of_length_le h]
theorem cut_sub {α : Type} (xs : List α) (l u : Option Int) : ∀ x ∈ cutD xs l u, x ∈ xs := fun x m => by
  unfold cutD at m
  exact List.mem_of_mem_drop (List.mem_of_mem_take m)
theorem cut_len {α : Type} (xs : List α) (l u : Option Int) : (cutD xs l u).length ≤ xs.length := by
  unfold cutD
  simp only [List.length_take, List.length_drop]; omega
end DL
namespace L_k01
open PySem L2 DL GT
def odds : List D := [.none, .bool true, .bool false, .int (-1), .int 0, .int 1, .int 2, .int 6, .int 7, .int 8, .str "0", .str "", .tuple [], .tuple [.int 0], .tuple [.int 0, .int 1], .tuple [.int 1, .int 0], .tuple [.int 1, .int 1], .tuple [.int 0, .int 7], .list [.int 0], .tuple [.int 0, .int 1, .int 2]]
theorem odds_nice : odds.all (nice 2) = true := by decide +kernel
theorem bent_spec (ns : List Int) : ∀ (f k : Nat) (town : List D) (d : D), k < f → k ≤ 40 → nicer k d = true → town.length + 4 * f < 700000 →
    ∃ (e : D) (town' : List D), nice (k + 2) e = true ∧ town.length ≤ town'.length ∧ town'.length ≤ town.length + 4 * f ∧ gr__law_bent f [SC ns, d] town = some (e, town')
  | 0, k, town, d, hk, _, _, _ => by omega
  | f + 1, k, town, d, hk, hk4, hn, ht => by
    have hodd : ∀ tw : List D, tw.length < 900000 → ∃ e, nice (k + 2) e = true ∧ g__law_pick [SC ns, .list odds] tw = some (e, tw ++ [.int 0]) := fun tw h => by
      obtain ⟨e, me, h2⟩ := pick_spec ns tw odds (by decide) h
      exact ⟨e, nice_le (by omega) (List.all_eq_true.mp odds_nice e me), h2⟩
    show ∃ (e : D) (town' : List D), _ ∧ _ ∧ _ ∧ runR N__law_bent 1 (b__law_bent (gr__law_bent f)) [SC ns, d] town = _
    unfold b__law_bent N__law_bent
    cases d with
    | tuple ds =>
      have hsh := nice_shaped (nicer_nice _ _ hn) (by omega)
      obtain ⟨hlen, j, rfl, hsub⟩ := nicer_tup hn
      have hsub2 : ∀ x ∈ ds, nice (j + 2) x = true := fun x m => nice_le (by omega) (nicer_nice _ _ (hsub x m))
      cases he : ds.isEmpty with
      | true =>
        obtain ⟨e, h1, h2⟩ := hodd town (by omega)
        refine ⟨e, town ++ [.int 0], h1, by simp, by simp; omega, ?_⟩
        unfold odds at h2
        simp_arith [isi_tuple, eqB_nil hsh, he, h2]
      | false =>
        have hpos : 0 < ds.length := by cases ds with
          | nil => cases he
          | cons _ _ => simp
        obtain ⟨w, w0, w1, e1⟩ := draw_spec ns town 4 (by omega) (by omega)
        by_cases hw : w = 0
        · subst hw
          obtain ⟨e, h1, h2⟩ := hodd (town ++ [.int 0]) (by simp; omega)
          refine ⟨e, town ++ [.int 0] ++ [.int 0], h1, by simp, by simp; omega, ?_⟩
          unfold odds at h2
          simp_arith [isi_tuple, eqB_nil hsh, he, e1, h2]
        · have hw' : (w == 0) = false := by simp [hw]
          obtain ⟨a, a0, a1, e2⟩ := draw_spec ns (town ++ [.int 0]) ds.length (by omega) (by simp; omega)
          obtain ⟨q, q0, q1, e3⟩ := draw_spec ns (town ++ [.int 0] ++ [.int 0]) 9 (by omega) (by simp; omega)
          obtain ⟨x, mx, hx⟩ := atI_mem a0 a1
          have c1 := cut_len ds none (some a)
          have c2 := cut_len ds (some (a + 1)) none
          have c3 := cut_len ds (some a) none
          have c4 := cut_len ds (some a) (some (a + 2))
          have c5 := cut_len ds (some (a + 2)) none
          have s1 := fun y (m : y ∈ cutD ds none (some a)) => hsub2 y (cut_sub _ _ _ y m)
          have s2 := fun y (m : y ∈ cutD ds (some (a + 1)) none) => hsub2 y (cut_sub _ _ _ y m)
          have s3 := fun y (m : y ∈ cutD ds (some a) none) => hsub2 y (cut_sub _ _ _ y m)
          have s4 := fun y (m : y ∈ cutD ds (some a) (some (a + 2))) => hsub2 y (cut_sub _ _ _ y m)
          have s5 := fun y (m : y ∈ cutD ds (some (a + 2)) none) => hsub2 y (cut_sub _ _ _ y m)
          have hT : (town ++ [PyData.int 0] ++ [PyData.int 0] ++ [PyData.int 0]).length = town.length + 3 := by simp
          by_cases h0 : q = 0
          · subst h0
            have z : szOk ((cutD ds none (some a)).length + (cutD ds (some (a + 1)) none).length) = true := szOk_of (by omega)
            refine ⟨.tuple (cutD ds none (some a) ++ cutD ds (some (a + 1)) none), town ++ [.int 0] ++ [.int 0] ++ [.int 0], nice_mk (by simp only [List.length_append]; omega) (fun y m => ?_), by omega, by omega, ?_⟩
            · rcases List.mem_append.mp m with m | m
              · exact s1 y m
              · exact s2 y m
            · simp_arith [isi_tuple, eqB_nil hsh, he, e1, hw', e2, e3, z]
          · have h0' : (q == 0) = false := by simp [h0]
            by_cases h1 : q = 1
            · subst h1
              have z : szOk ((cutD ds none (some a)).length + 1) = true := szOk_of (by omega)
              have z2 : szOk ((cutD ds none (some a) ++ [x]).length + (cutD ds (some a) none).length) = true := szOk_of (by simp only [List.length_append, List.length_cons, List.length_nil]; omega)
              refine ⟨.tuple (cutD ds none (some a) ++ [x] ++ cutD ds (some a) none), town ++ [.int 0] ++ [.int 0] ++ [.int 0], nice_mk (by simp only [List.length_append, List.length_cons, List.length_nil]; omega) (fun y m => ?_), by omega, by omega, ?_⟩
              · rcases List.mem_append.mp m with m | m
                · rcases List.mem_append.mp m with m | m
                  · exact s1 y m
                  · simp at m; subst m; exact hsub2 y mx
                · exact s3 y m
              · simp_arith [isi_tuple, eqB_nil hsh, he, e1, hw', e2, e3, z, z2, hx]
            · have h1' : (q == 1) = false := by simp [h1]
              by_cases h2 : q = 2
              · subst h2
                refine ⟨.list ds, town ++ [.int 0] ++ [.int 0] ++ [.int 0], nice_mkL (by omega) hsub2, by omega, by omega, ?_⟩
                simp_arith [isi_tuple, eqB_nil hsh, he, e1, hw', e2, e3]
              · have h2' : (q == 2) = false := by simp [h2]
                by_cases h3 : q = 3
                · subst h3
                  have z : szOk ((cutD ds none (some a)).length + (cutD ds (some a) (some (a + 2))).reverse.length) = true := szOk_of (by rw [List.length_reverse]; omega)
                  have z2 : szOk ((cutD ds none (some a) ++ (cutD ds (some a) (some (a + 2))).reverse).length + (cutD ds (some (a + 2)) none).length) = true := szOk_of (by simp only [List.length_append, List.length_reverse]; omega)
                  have hrv : ∀ l : List D, revD (.tuple l) = some (.tuple l.reverse) := fun _ => rfl
                  refine ⟨.tuple (cutD ds none (some a) ++ (cutD ds (some a) (some (a + 2))).reverse ++ cutD ds (some (a + 2)) none), town ++ [.int 0] ++ [.int 0] ++ [.int 0], nice_mk (by simp only [List.length_append, List.length_reverse]; omega) (fun y m => ?_), by omega, by omega, ?_⟩
                  · rcases List.mem_append.mp m with m | m
                    · rcases List.mem_append.mp m with m | m
                      · exact s1 y m
                      · exact s4 y (List.mem_reverse.mp m)
                    · exact s5 y m
                  · simp_arith [isi_tuple, eqB_nil hsh, he, e1, hw', e2, e3, z, z2, hrv]
                · have h3' : (q == 3) = false := by simp [h3]
                  obtain ⟨e, tw, g1, g2, g3, g4⟩ := bent_spec ns f j (town ++ [.int 0] ++ [.int 0] ++ [.int 0]) x (by omega) (by omega) (hsub x mx) (by omega)
                  have z : szOk ((cutD ds none (some a)).length + 1) = true := szOk_of (by omega)
                  have z2 : szOk ((cutD ds none (some a) ++ [e]).length + (cutD ds (some (a + 1)) none).length) = true := szOk_of (by simp only [List.length_append, List.length_cons, List.length_nil]; omega)
                  refine ⟨.tuple (cutD ds none (some a) ++ [e] ++ cutD ds (some (a + 1)) none), tw, nice_mk (by simp only [List.length_append, List.length_cons, List.length_nil]; omega) (fun y m => ?_), by omega, by omega, ?_⟩
                  · rcases List.mem_append.mp m with m | m
                    · rcases List.mem_append.mp m with m | m
                      · exact s1 y m
                      · simp at m; subst m; exact g1
                    · exact s2 y m
                  · simp_arith [isi_tuple, eqB_nil hsh, he, e1, hw', e2, e3, h0', h1', h2', h3', z, z2, hx, g4]
    | _ =>
      obtain ⟨e, h1, h2⟩ := hodd town (by omega)
      refine ⟨e, town ++ [.int 0], h1, by simp, by simp; omega, ?_⟩
      unfold odds at h2
      simp_arith [isi_tuple, h2]
end L_k01

local macro_rules | `(tactic| simp_arith [$xs,*]) => `(tactic| simp only [DL.ob_some, DL.om_some, DL.dat_d, DL.lis_l, DL.dic_m, DL.gt_0, DL.gt_1, DL.gt_2, DL.gt_3, DL.gt_4, DL.gt_5, DL.gt_6, DL.gt_7, DL.gt_b, DL.st_0, DL.st_s, DL.plG_d, DL.plG_n, DL.plainAt_a, DL.varM_a, DL.ownM_a, DL.cM_a, DL.ofL_a, DL.opM_a, DL.opOwnM_a, DL.unM_a, DL.truM_a, DL.tstM_a, DL.notM_a, DL.cnd_t, DL.cnd_f, DL.andM_a, DL.orM_a, DL.andVM_a, DL.orVM_a, DL.notVM_a, DL.iteM_a, DL.chM_a, DL.nilM_a, DL.consM_a, DL.guard_tt, DL.tupM_a, DL.lstM_a, DL.noM_a, DL.intV_i, DL.someM_a, DL.slM_a, DL.rng1M_a, DL.rng2M_a, DL.zipV_t, DL.zipV_l, DL.zipM_a, DL.seqM_a, DL.callM_a, DL.hereM_a, DL.callRM_a, DL.appM_a, DL.lisV_l, DL.extM_a, DL.catOwnM_a, DL.popM_a, DL.popAtM_a, DL.newDM_a, DL.putM_a, DL.lenDM_a, DL.sortDM_a, DL.nameG_a, DL.nilG_a, DL.consG_a, DL.tupG_a, DL.seqS_a, DL.seqK_nx, DL.seqK_rt, DL.seqK_ct, DL.skipM_a, DL.asgM_a, DL.asgG_a, DL.newM_a, DL.asgLM_a, DL.retM_a, DL.exprM_a, DL.ifM_a, DL.contM_a, DL.brkM_a, DL.forM_a, DL.frzM_a, DL.runF_a, DL.finF_rt, DL.finF_nx, DL.runR_a, DL.finR_rt, DL.finR_nx, DL.sz_0, DL.sz_1, DL.sz_2, DL.sz_3, DL.sz_4, DL.sz_5, DL.sz_6, DL.sz_7, DL.sz_8, DL.sz_9, DL.sz_10, DL.sz_11, DL.sz_12, DL.sz_13, DL.sz_14, DL.sz_15, DL.sz_16, DL.sz_17, DL.sz_18, DL.sz_19, DL.sz_20, DL.sz_21, DL.sz_22, DL.sz_23, DL.sz_24, DL.sz_25, DL.sz_26, DL.sz_27, DL.sz_28, DL.sz_29, DL.sz_30, DL.nc_0, DL.nc_1, DL.nc_2, DL.nc_3, DL.nc_4, DL.nc_5, DL.nc_6, DL.nc_7, DL.nc_8, DL.nc_9, DL.nc_10, DL.nc_11, DL.nc_12, DL.nc_13, DL.nc_14, DL.nc_15, DL.nc_16, DL.nc_17, DL.nc_18, DL.nc_19, DL.nc_20, DL.nc_21, DL.nc_22, DL.nc_23, DL.nc_24, DL.nc_25, DL.nc_26, DL.nc_27, DL.nc_28, DL.nc_29, DL.nc_30, DL.addD_i, DL.addD_t, DL.addD_l, DL.subD_i, DL.modD_i, DL.fdivD_i, DL.mulD_i, DL.lenD_t, DL.lenD_l, DL.tupleD_t, DL.tupleD_l, DL.listD_t, DL.listD_l, DL.truD_i, DL.truD_b, DL.truD_n, DL.truD_l, DL.truD_t, DL.ixD_t, DL.ixD_l, DL.negD_i, DL.bD_a, DL.ltB_i, DL.leB_i, DL.gtB_i, DL.geB_i, DL.eqB_i, DL.neB_i, DL.min2D_i, DL.max2D_i, DL.items_t, DL.items_l, DL.intD_b, DL.isNN, DL.slD_t, DL.slD_l, DL.p_ge0, DL.p_geS, DL.p_tk0, DL.p_tkS, DL.p_tkN, DL.p_dr0, DL.p_drS, DL.p_drN, DL.p_mpC, DL.p_mpN, DL.p_apC, DL.p_apN, DL.p_lnC, DL.p_lnN, DL.p_rpS, DL.p_rp0, DL.p_alC, DL.p_alN, DL.p_gdS, DL.p_gdN, DL.p_tlS, DL.p_tlN, DL.p_ieC, DL.p_ieN, DL.p_nt, DL.p_nf, DL.p_atb, DL.p_afb, DL.p_abt, DL.p_abf, DL.p_eqS, DL.p_dT, DL.p_dF, DL.p_TA, DL.p_AT, DL.p_TO, DL.p_OT, DL.p_startD, DL.p_startR, DL.forK_nx, DL.forK_ct, DL.forK_rt, DL.yesM_a, DL.it1_a, DL.compM_a, DL.wipeR_c, DL.wipeR_n, DL.restR_c, DL.restR_n, DL.ob_assoc, DL.om_bind, DL.ob_map, DL.om_map, DL.cnd_bind, DL.cnd_map, DL.guard_bind, DL.guard_map, DL.atI_c0, DL.atI_c1, DL.atI_c2, DL.atI_c3, DL.encN_0, DL.encN_1, DL.encN_2, DL.encN_u, DL.revD_t, DL.revD_l, Nat.reduceAdd, Nat.reduceSub, Nat.reduceMul, Int.reduceLT, Int.reduceLE, Int.reducePow, Int.reduceNeg, Int.reduceAdd, Int.reduceSub, Int.reduceMul, Int.reduceBEq, Int.reduceBNe, Int.reduceToNat, $xs,*])
namespace L_k01
open PySem L2 DL GT
theorem encN_nicer {N : Net} (h1 : N.ties.length ≤ 9) (h2 : N.rim.length ≤ 7) : nicer 3 (encN N) = true := by
  unfold encN
  have a : (N.ties.map encT).all (nicer 1) = true := by
    rw [List.all_eq_true]; intro d m
    obtain ⟨t, _, rfl⟩ := List.mem_map.mp m
    rfl
  have b : (N.rim.map PyData.int).all (nicer 1) = true := by
    rw [List.all_eq_true]; intro d m
    obtain ⟨t, _, rfl⟩ := List.mem_map.mp m
    rfl
  simp only [nicer, List.all_cons, List.all_nil, List.length_cons, List.length_nil, List.length_map, a, b, Bool.and_eq_true, decide_eq_true_eq, and_true, true_and]
  omega
theorem bents {ns : List Int} {N : Net} {x2 x3 x5 x6 : Option SV} (hN : nicer 3 (encN N) = true) : ∀ (as : List Int) (tw : List D), tw.length + 160 * as.length < 600000 → ∃ (es tw' : List D), es.length = as.length ∧ (∀ e ∈ es, nice 20 e = true) ∧ tw'.length ≤ tw.length + 160 * as.length ∧
    compL (nameG 7) yesM Ce_law_1 [7] (as.map .int) [some (.d (SC ns)), some (.l false tw), x2, x3, some (.d (encN N)), x5, x6, none] = some (es, [some (.d (SC ns)), some (.l false tw'), x2, x3, some (.d (encN N)), x5, x6, none])
  | [], tw, _ => ⟨[], tw, rfl, by simp, by simp, rfl⟩
  | a :: as, tw, h => by
    simp only [List.length_cons] at h
    obtain ⟨e, tw1, h1, h2, h3, h4⟩ := bent_spec ns 40 3 tw (encN N) (by omega) (by omega) hN (by omega)
    have h4' : g__law_bent [SC ns, encN N] tw = some (e, tw1) := h4
    obtain ⟨es, tw', g1, g2, g3, g4⟩ := bents (ns := ns) (x2 := x2) (x3 := x3) (x5 := x5) (x6 := x6) hN as tw1 (by omega)
    refine ⟨e :: es, tw', by simp [g1], fun y m => ?_, by simp only [List.length_cons]; omega, ?_⟩
    · rcases List.mem_cons.mp m with rfl | m
      · exact nice_le (by omega) h1
      · exact g2 y m
    · rw [List.map_cons, compL_cons]
      unfold Ce_law_1 at *
      simp_arith [h4', g4]
theorem checks {x0 x1 x2 x3 x4 x5 x7 : Option SV} : ∀ (ds : List D) (x6 : Option SV), (∀ d ∈ ds, nice 20 d = true) → ∃ x6', 
    forL (nameG 6) F_law_1 ds [x0, x1, x2, x3, x4, x5, x6, x7] = some (.nx [x0, x1, x2, x3, x4, x5, x6', x7])
  | [], x6, _ => ⟨x6, rfl⟩
  | d :: ds, x6, h => by
    obtain ⟨x6', g⟩ := checks (x0 := x0) (x1 := x1) (x2 := x2) (x3 := x3) (x4 := x4) (x5 := x5) (x7 := x7) ds (some (.d d)) fun e m => h e (List.mem_cons_of_mem _ m)
    refine ⟨x6', ?_⟩
    rw [forL_cons, ← g]
    have h1 := net_eval d (h d (by simp))
    have h2 := lnet_eval d (h d (by simp))
    have h3 := same_bool (netD d)
    unfold F_law_1
    simp_arith [h1, h2, h3]
theorem checks2 {x0 x1 x2 x3 x4 x5 x7 : Option SV} (ds : List D) (x6 : Option SV) (h : ∀ d ∈ ds, nice 20 d = true) : wp (forL (nameG 6) F_law_1 ds [x0, x1, x2, x3, x4, x5, x6, x7]) (goesOn fun r => ∃ x6', r = [x0, x1, x2, x3, x4, x5, x6', x7]) := by
  obtain ⟨x6', e⟩ := checks (x0 := x0) (x1 := x1) (x2 := x2) (x3 := x3) (x4 := x4) (x5 := x5) (x7 := x7) ds x6 h
  exact ⟨_, e, x6', rfl⟩
abbrev pairs : List D := [encT (0, 1), encT (0, 2), encT (0, 3), encT (0, 4), encT (0, 5), encT (0, 6), encT (1, 2), encT (1, 3), encT (1, 4), encT (1, 5)]
theorem rim_len {N : Net} (w : N.WF) : N.rim.length ≤ 7 := by
  have := nodup_len_le N.rim (ir N.n) (nodup_of_lt (fun a => Int.lt_irrefl a) w.rimUp) fun a m => mem_ir.mpr (w.rimIn a m)
  rw [ir_len] at this
  have := w.small
  omega
theorem nice_at {k : Nat} {xs : List D} {x : D} (h : nice (k + 1) (.tuple xs) = true) (m : x ∈ xs) : nice k x = true := by
  obtain ⟨_, j, e, h2⟩ := nice_tup h
  cases e; exact h2 x m
theorem bents2 {ns : List Int} {N : Net} {x2 x3 x5 x6 : Option SV} (hN : nicer 3 (encN N) = true) (tw : List D) (h : tw.length < 510000) : wp (compL (nameG 7) yesM Ce_law_1 [7] (rngL 0 14) [some (.d (SC ns)), some (.l false tw), x2, x3, some (.d (encN N)), x5, x6, none])
    (fun q => ∃ (es tw' : List D), es.length = 14 ∧ (∀ e ∈ es, nice 20 e = true) ∧ tw'.length ≤ tw.length + 2240 ∧ q = (es, [some (.d (SC ns)), some (.l false tw'), x2, x3, some (.d (encN N)), x5, x6, none])) := by
  obtain ⟨es, tw', h1, h2, h3, h4⟩ := bents (ns := ns) (x2 := x2) (x3 := x3) (x5 := x5) (x6 := x6) hN (ir 14) tw (by rw [ir_len]; omega)
  rw [ir_len] at h1 h3
  rw [show rngL 0 14 = (ir 14).map .int from rngL_ir 14]
  exact ⟨_, h4, es, tw', h1, h2, by omega, rfl⟩
theorem turn {ns : List Int} (a : Int) (tw : List D) (x3 x4 x5 x6 : Option SV) (h : tw.length < 500000) : 
    wp ((nameG 3 [some (.d (SC ns)), some (.l false tw), some (.d (.tuple pairs)), x3, x4, x5, x6, none] (.int a)).bind F_law_2) (goesOn fun r => ∃ (tw' : List D) (x3' x4' x5' x6' : Option SV), tw'.length ≤ tw.length + 3000 ∧ r = [some (.d (SC ns)), some (.l false tw'), some (.d (.tuple pairs)), x3', x4', x5', x6', none]) := by
  obtain ⟨N, tw1, n1, n2, n3, n4, n5, n6⟩ := net_spec ns tw 7 9 (by omega) (by omega) (by omega) (by omega)
  have hN := encN_nicer n3 (rim_len n1)
  have hN2 := nicer_nice _ _ hN
  unfold F_law_2
  have n6' : g__law_net [SC ns, .int 7, .int 9] tw = some (encN N, tw1) := n6
  have r14 : rngOk 14 = true := by decide
  have z14 : szOk (rngL 0 14).length = true := by decide
  have l1 : listD (encN N) = some (.list [.int N.n, .tuple (N.ties.map encT), DL.TI N.rim]) := rfl
  have l2 : addD (encN N) (.tuple [.int 0]) = some (.tuple [.int N.n, .tuple (N.ties.map encT), DL.TI N.rim, .int 0]) := rfl
  have l3 : slD (encN N) none (some 2) = some (.tuple [.int N.n, .tuple (N.ties.map encT)]) := rfl
  have l4 : revD (encN N) = some (.tuple [DL.TI N.rim, .tuple (N.ties.map encT), .int N.n]) := rfl
  have l5 : cutD pairs none (some 9) = pairs.take 9 := rfl
  simp_arith [n6', r14, z14, l1, l2, l3, l4, l5]
  refine wp_bind (bents2 hN tw1 (by omega)) ?_
  rintro _ ⟨es, tw2, b1, b2, b3, rfl⟩
  have hz : szOk (17 + es.length) = true := szOk_of (by omega)
  simp_arith [hz]
  have pN : ∀ (k : Nat) (i : Int), nice k (.int i) = true := fun k i => by cases k <;> rfl
  have pT : nice 5 (.tuple (N.ties.map encT)) = true := nice_le (by omega) (nice_at (k := 2) (by unfold encN at hN2; exact hN2) (by simp))
  have pR : nice 5 (DL.TI N.rim) = true := nice_le (by omega) (nice_at (k := 2) (by unfold encN at hN2; exact hN2) (by simp))
  have p0 : ∀ k, nice (k + 1) (.tuple []) = true := fun k => rfl
  have sm : ∀ (xs : List D), xs.length ≤ 5 → (∀ x ∈ xs, nice 5 x = true) → nice 20 (.tuple xs) = true := fun xs h1 h2 => nice_le (by omega) (nice_mk (k := 5) (by omega) h2)
  refine wp_mono (checks2 _ _ ?_) ?_
  · simp only [List.forall_mem_cons]
    refine ⟨nice_le (by omega) hN2, nice_le (k := 20) (j := 6) (by omega) (nice_mkL (by simp) (by simp [pN, pT, pR])), sm _ (by simp) (by simp [pN, pT, pR]), sm _ (by simp) (by simp [pN, pT, pR]), sm _ (by simp) (by simp [pN, pT, pR]), by decide +kernel, by decide +kernel, by decide +kernel, by decide +kernel, by decide +kernel, by decide +kernel, by decide +kernel, by decide +kernel, by decide +kernel, by decide +kernel, nice_le (by omega) pT, sm _ (by simp) (by simp [pN, p0, pR]), b2⟩
  · intro o ho
    cases o with
    | nx r =>
      obtain ⟨x6', rfl⟩ := ho
      exact ⟨tw2, _, _, _, _, by omega, rfl⟩
    | ct r =>
      obtain ⟨x6', rfl⟩ := ho
      exact ⟨tw2, _, _, _, _, by omega, rfl⟩
    | _ => exact ho.elim
theorem law_true (ns : List Int) (hl : ns.length ≤ 63) : g_law [SC ns] = some (.bool true) := by
  unfold g_law b_law N_law
  have r12 : rngOk 12 = true := by decide
  have e12 : rngL 0 12 = (ir 12).map .int := rngL_ir 12
  refine wp_val ?_
  simp_arith [r12, forM_a]
  rw [e12]
  refine wp_for PyData.int (fun as r => ∃ (tw' : List D) (x3' x4' x5' x6' : Option SV), tw'.length + 3000 * as.length ≤ 36000 ∧ r = [some (.d (SC ns)), some (.l false tw'), some (.d (.tuple pairs)), x3', x4', x5', x6', none]) ?_ ?_ ?_
  · exact ⟨[], none, none, none, none, by simp [ir_len], rfl⟩
  · rintro a as r ⟨tw, x3, x4, x5, x6, h, rfl⟩
    simp only [List.length_cons] at h
    refine wp_mono (turn a tw x3 x4 x5 x6 (by omega)) fun o ho => ?_
    cases o with
    | nx r =>
      obtain ⟨tw', x3', x4', x5', x6', h2, rfl⟩ := ho
      exact ⟨tw', _, _, _, _, by omega, rfl⟩
    | ct r =>
      obtain ⟨tw', x3', x4', x5', x6', h2, rfl⟩ := ho
      exact ⟨tw', _, _, _, _, by omega, rfl⟩
    | _ => exact ho.elim
  · rintro r ⟨tw, x3, x4, x5, x6, h, rfl⟩
    simp_arith [DL.p_nt]
    exact wp_ok rfl
end L_k01

namespace L_k01
open PySem L2 DL PyProof.Rows 
def topS (i : Nat) : Stmt := PySem.Challenge.pw_probeties_k01_whole_things_as_nets.main.body.getD i (.Pass ⟨0, 0, 0, 0⟩)
abbrev s_is_whole : Stmt := topS 3
abbrev s_are_rising : Stmt := topS 4
abbrev s_is_tie : Stmt := topS 5
abbrev s_is_net : Stmt := topS 6
abbrev s__law_same : Stmt := topS 8
abbrev s__law_draw : Stmt := topS 9
abbrev s__law_pick : Stmt := topS 10
abbrev s__law_net : Stmt := topS 11
abbrev s__law_whole : Stmt := topS 15
abbrev s__law_is_net : Stmt := topS 16
abbrev s__law_bent : Stmt := topS 17
abbrev s_law : Stmt := topS 18
theorem sc_is_whole : FnScope N_is_whole ["thing", "low", "high"] (defScope s_is_whole) := ⟨rfl, rfl, rfl, by decide +kernel, rfl, by decide +kernel, by decide +kernel⟩
theorem sc_are_rising : FnScope N_are_rising ["row"] (defScope s_are_rising) := ⟨rfl, rfl, rfl, by decide +kernel, rfl, by decide +kernel, by decide +kernel⟩
theorem sc_is_tie : FnScope N_is_tie ["thing", "many"] (defScope s_is_tie) := ⟨rfl, rfl, rfl, by decide +kernel, rfl, by decide +kernel, by decide +kernel⟩
theorem sc_is_net : FnScope N_is_net ["thing"] (defScope s_is_net) := ⟨rfl, rfl, rfl, by decide +kernel, rfl, by decide +kernel, by decide +kernel⟩
theorem sc__law_same : FnScope N__law_same ["_law_got", "_law_due"] (defScope s__law_same) := ⟨rfl, rfl, rfl, by decide +kernel, rfl, by decide +kernel, by decide +kernel⟩
theorem sc__law_draw : FnScope N__law_draw ["_law_script", "_law_town", "_law_many"] (defScope s__law_draw) := ⟨rfl, rfl, rfl, by decide +kernel, rfl, by decide +kernel, by decide +kernel⟩
theorem sc__law_pick : FnScope N__law_pick ["_law_script", "_law_town", "_law_some"] (defScope s__law_pick) := ⟨rfl, rfl, rfl, by decide +kernel, rfl, by decide +kernel, by decide +kernel⟩
theorem sc__law_net : FnScope N__law_net ["_law_script", "_law_town", "_law_high", "_law_wide"] (defScope s__law_net) := ⟨rfl, rfl, rfl, by decide +kernel, rfl, by decide +kernel, by decide +kernel⟩
theorem sc__law_whole : FnScope N__law_whole ["_law_thing", "_law_low", "_law_high"] (defScope s__law_whole) := ⟨rfl, rfl, rfl, by decide +kernel, rfl, by decide +kernel, by decide +kernel⟩
theorem sc__law_is_net : FnScope N__law_is_net ["_law_thing"] (defScope s__law_is_net) := ⟨rfl, rfl, rfl, by decide +kernel, rfl, by decide +kernel, by decide +kernel⟩
theorem sc__law_bent : FnScope N__law_bent ["_law_script", "_law_town", "_law_thing"] (defScope s__law_bent) := ⟨rfl, rfl, rfl, by decide +kernel, rfl, by decide +kernel, by decide +kernel⟩
theorem sc_law : FnScope N_law ["_law_script"] (defScope s_law) := ⟨rfl, rfl, rfl, by decide +kernel, rfl, by decide +kernel, by decide +kernel⟩
structure Tx (mg : Str → Option Value) : Prop where
  z_all : mg "all" = none
  z_bool : mg "bool" = none
  z_int : mg "int" = none
  z_isinstance : mg "isinstance" = none
  z_len : mg "len" = none
  z_list : mg "list" = none
  z_range : mg "range" = none
  z_sorted : mg "sorted" = none
  z_str : mg "str" = none
  z_tuple : mg "tuple" = none
  z_zip : mg "zip" = none
  m_KNOTS_MOST : ∃ t, mg "KNOTS_MOST" = some (.int 7 t)
  m_TIES_MOST : ∃ t, mg "TIES_MOST" = some (.int 9 t)
structure Ad where
  a_is_whole : Addr
  d_is_whole : FuncData
  a_are_rising : Addr
  d_are_rising : FuncData
  a_is_tie : Addr
  d_is_tie : FuncData
  a_is_net : Addr
  d_is_net : FuncData
  a__law_same : Addr
  d__law_same : FuncData
  a__law_draw : Addr
  d__law_draw : FuncData
  a__law_pick : Addr
  d__law_pick : FuncData
  a__law_net : Addr
  d__law_net : FuncData
  a__law_whole : Addr
  d__law_whole : FuncData
  a__law_is_net : Addr
  d__law_is_net : FuncData
  a__law_bent : Addr
  d__law_bent : FuncData
  a_law : Addr
  d_law : FuncData
structure Cx1 (K : PySem.W.Frag) (mg : Str → Option Value) (Z : Ad) : Prop where
  f_is_whole : Fun K "is_whole" "is_whole" s_is_whole Z.a_is_whole Z.d_is_whole
  b_is_whole : Binds K Z.d_is_whole ["thing", "low", "high"] []
  g_is_whole : mg "is_whole" = some (.ref Z.a_is_whole)
  f_are_rising : Fun K "are_rising" "are_rising" s_are_rising Z.a_are_rising Z.d_are_rising
  b_are_rising : Binds K Z.d_are_rising ["row"] []
  g_are_rising : mg "are_rising" = some (.ref Z.a_are_rising)
  f_is_tie : Fun K "is_tie" "is_tie" s_is_tie Z.a_is_tie Z.d_is_tie
  b_is_tie : Binds K Z.d_is_tie ["thing", "many"] []
  g_is_tie : mg "is_tie" = some (.ref Z.a_is_tie)
  f_is_net : Fun K "is_net" "is_net" s_is_net Z.a_is_net Z.d_is_net
  b_is_net : Binds K Z.d_is_net ["thing"] []
  g_is_net : mg "is_net" = some (.ref Z.a_is_net)
  f__law_same : Fun K "_law_same" "_law_same" s__law_same Z.a__law_same Z.d__law_same
  b__law_same : Binds K Z.d__law_same ["_law_got", "_law_due"] []
  g__law_same : mg "_law_same" = some (.ref Z.a__law_same)
  f__law_draw : Fun K "_law_draw" "_law_draw" s__law_draw Z.a__law_draw Z.d__law_draw
  b__law_draw : Binds K Z.d__law_draw ["_law_script", "_law_town", "_law_many"] []
  g__law_draw : mg "_law_draw" = some (.ref Z.a__law_draw)
  f__law_pick : Fun K "_law_pick" "_law_pick" s__law_pick Z.a__law_pick Z.d__law_pick
  b__law_pick : Binds K Z.d__law_pick ["_law_script", "_law_town", "_law_some"] []
  g__law_pick : mg "_law_pick" = some (.ref Z.a__law_pick)
  f__law_net : Fun K "_law_net" "_law_net" s__law_net Z.a__law_net Z.d__law_net
  b__law_net : Binds K Z.d__law_net ["_law_script", "_law_town", "_law_high", "_law_wide"] []
  g__law_net : mg "_law_net" = some (.ref Z.a__law_net)
  f__law_whole : Fun K "_law_whole" "_law_whole" s__law_whole Z.a__law_whole Z.d__law_whole
  b__law_whole : Binds K Z.d__law_whole ["_law_thing", "_law_low", "_law_high"] []
  g__law_whole : mg "_law_whole" = some (.ref Z.a__law_whole)
  f__law_is_net : Fun K "_law_is_net" "_law_is_net" s__law_is_net Z.a__law_is_net Z.d__law_is_net
  b__law_is_net : Binds K Z.d__law_is_net ["_law_thing"] []
  g__law_is_net : mg "_law_is_net" = some (.ref Z.a__law_is_net)
  f__law_bent : Fun K "_law_bent" "_law_bent" s__law_bent Z.a__law_bent Z.d__law_bent
  b__law_bent : Binds K Z.d__law_bent ["_law_script", "_law_town", "_law_thing"] []
  g__law_bent : mg "_law_bent" = some (.ref Z.a__law_bent)
  f_law : Fun K "law" "law" s_law Z.a_law Z.d_law
  b_law : Binds K Z.d_law ["_law_script"] []
  g_law : mg "law" = some (.ref Z.a_law)
section
variable {P : Program} {w : World} {K : PySem.W.Frag} {mg : Str → Option Value} {base : Heap} {Z : Ad}
set_option maxHeartbeats 4000000 in
theorem ok_is_whole (C : Cx1 K mg Z) (T : Tx mg) : FnOk P w K mg base CX0 1 Z.a_is_whole Z.d_is_whole ["thing", "low", "high"] (spF K 3 g_is_whole) := by
  have sc := sc_is_whole
  refine fn_run (k := 0) (N := N_is_whole) C.f_is_whole sc_is_whole fun cdv A outer s H E hr => ?_
  have hU := un1 hr
  exact ((sss_one (ss_ret (se_and (se_isi .int (by rfl) T.z_isinstance (by rfl) T.z_int (by decide +kernel) (SE.sw (se_var 0))) (se_and (se_not (SE.sw (se_isi .bool (by rfl) T.z_isinstance (by rfl) T.z_bool (by decide +kernel) (SE.sw (se_var 0))))) (se_one (se_chain (or_leB hU.c0) (or_leB hU.c0) (se_var 1) (se_var 0) (SE.sw (se_var 2)))))))))
set_option maxHeartbeats 4000000 in
theorem ok_are_rising (C : Cx1 K mg Z) (T : Tx mg) : FnOk P w K mg base CX0 1 Z.a_are_rising Z.d_are_rising ["row"] (spF K 1 g_are_rising) := by
  have sc := sc_are_rising
  refine fn_run (k := 0) (N := N_are_rising) C.f_are_rising sc_are_rising fun cdv A outer s H E hr => ?_
  have hU := un1 hr
  exact ((sss_one (ss_ret (se_b1 (cr_allD (by rfl)) (by rfl) T.z_all (by decide +kernel) (SE.sw (SL.se (sl_comp (own := [("one", 1), ("two", 2)]) (by rfl) sc.nd (si_zip (by rfl) T.z_zip (se_sl (se_var 0) sp_none (sp_some (se_neg se_int))) (se_sl (se_var 0) (sp_some se_int) sp_none)) (blkOk_by (own := [("one", 1), ("two", 2)]) (by rfl)) (fun _ _ _ _ _ => (sg_tup (by rfl) (sgs_cons (sg_name 1 sc.nd (by rfl) (by first | exact Or.inl rfl | exact Or.inr rfl) (by decide)) (sgs_cons (sg_name 2 sc.nd (by rfl) (by first | exact Or.inl rfl | exact Or.inr rfl) (by decide)) sgs_nil)))) (fun _ _ _ _ _ => sts_nil) (fun _ _ _ _ _ => (se_cmp (or_ltB hU.c0) (se_var 1) (SE.sw (se_var 2)))))))))))
set_option maxHeartbeats 4000000 in
theorem ok_is_tie (C : Cx1 K mg Z) (T : Tx mg) : FnOk P w K mg base CX0 2 Z.a_is_tie Z.d_is_tie ["thing", "many"] (spF K 2 g_is_tie) := by
  have sc := sc_is_tie
  refine fn_run (k := 1) (N := N_is_tie) C.f_is_tie sc_is_tie fun cdv A outer s H E hr => ?_
  have hU := un1 hr
  exact ((sss_cons (ss_if (SWt.st (sw_or (st_not (st_val (SE.sw (se_isi .tuple (by rfl) T.z_isinstance (by rfl) T.z_tuple (by decide +kernel) (SE.sw (se_var 0)))))) (sw_or (st_cmp (or_neB hU.c64) (se_b1 cr_len (by rfl) T.z_len (by decide +kernel) (SE.sw (se_var 0))) (SE.sw se_int)) (sw_or1 (st_not (st_val (SE.sw (se_b1 (cr_allD (by rfl)) (by rfl) T.z_all (by decide +kernel) (SE.sw (SL.se (sl_comp (own := [("one", 2)]) (by rfl) sc.nd (si_seq (se_var 0)) (blkOk_by (own := [("one", 2)]) (by rfl)) (fun _ _ _ _ _ => (sg_name 2 sc.nd (by rfl) (by first | exact Or.inl rfl | exact Or.inr rfl) (by decide))) (fun _ _ _ _ _ => sts_nil) (fun _ _ _ _ _ => (se_call (ok_is_whole C T) (hr.mono (by omega)) (by rfl) C.g_is_whole C.f_is_whole.kp C.b_is_whole (sa_cons (se_var 2) (sa_cons se_int (sa_cons (se_op or_subD (se_var 1) (SE.sw se_int)) sa_nil))) (by rfl)))))))))))))) (sss_one (ss_ret se_bl)) sss_nil)
      (sss_one (ss_ret (se_cmp (or_ltB hU.c0) (se_ix (se_var 0) se_int) (SE.sw (se_ix (se_var 0) se_int)))))))
set_option maxHeartbeats 4000000 in
theorem ok_is_net (C : Cx1 K mg Z) (T : Tx mg) : FnOk P w K mg base CX0 3 Z.a_is_net Z.d_is_net ["thing"] (spF K 1 g_is_net) := by
  have sc := sc_is_net
  refine fn_run (k := 2) (N := N_is_net) C.f_is_net sc_is_net fun cdv A outer s H E hr => ?_
  have hU := un1 hr
  exact ((sss_cons (ss_if (SWt.st (sw_or (st_not (st_val (SE.sw (se_isi .tuple (by rfl) T.z_isinstance (by rfl) T.z_tuple (by decide +kernel) (SE.sw (se_var 0)))))) (sw_or (st_cmp (or_neB hU.c64) (se_b1 cr_len (by rfl) T.z_len (by decide +kernel) (SE.sw (se_var 0))) (SE.sw se_int)) (sw_or1 (st_not (st_val (SE.sw (se_call (ok_is_whole C T) (hr.mono (by omega)) (by rfl) C.g_is_whole C.f_is_whole.kp C.b_is_whole (sa_cons (se_ix (se_var 0) se_int) (sa_cons se_int (sa_cons (se_globI (by rfl) T.m_KNOTS_MOST) sa_nil))) (by rfl))))))))) (sss_one (ss_ret se_bl)) sss_nil)
      (sss_cons (ss_asgG (is := [1, 2, 3]) (se_var 0) (sg_tup (by rfl) (sgs_cons (sg_name 1 sc.nd (by rfl) (by first | exact Or.inl rfl | exact Or.inr rfl) (by decide)) (sgs_cons (sg_name 2 sc.nd (by rfl) (by first | exact Or.inl rfl | exact Or.inr rfl) (by decide)) (sgs_cons (sg_name 3 sc.nd (by rfl) (by first | exact Or.inl rfl | exact Or.inr rfl) (by decide)) sgs_nil)))))
      (sss_cons (ss_if (SWt.st (sw_or (st_not (st_val (SE.sw (se_isi .tuple (by rfl) T.z_isinstance (by rfl) T.z_tuple (by decide +kernel) (SE.sw (se_var 2)))))) (sw_or (st_cmp or_gtB (se_b1 cr_len (by rfl) T.z_len (by decide +kernel) (SE.sw (se_var 2))) (SE.sw (se_globI (by rfl) T.m_TIES_MOST))) (sw_or1 (st_not (st_val (SE.sw (se_b1 (cr_allD (by rfl)) (by rfl) T.z_all (by decide +kernel) (SE.sw (SL.se (sl_comp (own := [("tie", 4)]) (by rfl) sc.nd (si_seq (se_var 2)) (blkOk_by (own := [("tie", 4)]) (by rfl)) (fun _ _ _ _ _ => (sg_name 4 sc.nd (by rfl) (by first | exact Or.inl rfl | exact Or.inr rfl) (by decide))) (fun _ _ _ _ _ => sts_nil) (fun _ _ _ _ _ => (se_call (ok_is_tie C T) (hr.mono (by omega)) (by rfl) C.g_is_tie C.f_is_tie.kp C.b_is_tie (sa_cons (se_var 4) (sa_cons (se_var 1) sa_nil)) (by rfl)))))))))))))) (sss_one (ss_ret se_bl)) sss_nil)
      (sss_cons (ss_if (SWt.st (sw_or (st_not (st_val (SE.sw (se_isi .tuple (by rfl) T.z_isinstance (by rfl) T.z_tuple (by decide +kernel) (SE.sw (se_var 3)))))) (sw_or (st_cmp (or_eqB hU.c64) (se_var 3) (SE.sw (se_tup sa_nil))) (sw_or1 (st_not (st_val (SE.sw (se_b1 (cr_allD (by rfl)) (by rfl) T.z_all (by decide +kernel) (SE.sw (SL.se (sl_comp (own := [("knot", 5)]) (by rfl) sc.nd (si_seq (se_var 3)) (blkOk_by (own := [("knot", 5)]) (by rfl)) (fun _ _ _ _ _ => (sg_name 5 sc.nd (by rfl) (by first | exact Or.inl rfl | exact Or.inr rfl) (by decide))) (fun _ _ _ _ _ => sts_nil) (fun _ _ _ _ _ => (se_call (ok_is_whole C T) (hr.mono (by omega)) (by rfl) C.g_is_whole C.f_is_whole.kp C.b_is_whole (sa_cons (se_var 5) (sa_cons se_int (sa_cons (se_op or_subD (se_var 1) (SE.sw se_int)) sa_nil))) (by rfl)))))))))))))) (sss_one (ss_ret se_bl)) sss_nil)
      (sss_one (ss_ret (se_and (se_call (ok_are_rising C T) (hr.mono (by omega)) (by rfl) C.g_are_rising C.f_are_rising.kp C.b_are_rising (sa_cons (se_var 2) sa_nil) (by rfl)) (se_one (se_call (ok_are_rising C T) (hr.mono (by omega)) (by rfl) C.g_are_rising C.f_are_rising.kp C.b_are_rising (sa_cons (se_var 3) sa_nil) (by rfl)))))))))))
set_option maxHeartbeats 4000000 in
theorem okr__law_same (C : Cx1 K mg Z) (T : Tx mg) : ∀ n, FnOk P w K mg base CX0 (0 + n) Z.a__law_same Z.d__law_same ["_law_got", "_law_due"] (spF K 2 (gr__law_same n))
  | 0 => spF_none
  | n + 1 => by
    have G := okr__law_same C T n
    have sc := sc__law_same
    refine fn_run (k := 0 + n) (N := N__law_same) C.f__law_same sc__law_same fun cdv A outer s H E hr => ?_
    have hU := un1 hr
    exact ((sss_cons (ss_if (st_cmp or_isB (se_var 1) (SE.sw se_non)) (sss_one (ss_ret (se_cmp or_isB (se_var 0) (SE.sw se_non)))) sss_nil)
      (sss_cons (ss_if (st_val (SE.sw (se_isi .bool (by rfl) T.z_isinstance (by rfl) T.z_bool (by decide +kernel) (SE.sw (se_var 1))))) (sss_one (ss_ret (se_and (se_isi .bool (by rfl) T.z_isinstance (by rfl) T.z_bool (by decide +kernel) (SE.sw (se_var 0))) (se_one (se_cmp (or_eqB hU.c64) (se_var 0) (SE.sw (se_var 1))))))) sss_nil)
      (sss_cons (ss_if (st_val (SE.sw (se_isi .tuple (by rfl) T.z_isinstance (by rfl) T.z_tuple (by decide +kernel) (SE.sw (se_var 1))))) (sss_cons (ss_if (SWt.st (sw_or (st_not (st_val (SE.sw (se_isi .tuple (by rfl) T.z_isinstance (by rfl) T.z_tuple (by decide +kernel) (SE.sw (se_var 0)))))) (sw_or1 (st_cmp (or_neB hU.c64) (se_b1 cr_len (by rfl) T.z_len (by decide +kernel) (SE.sw (se_var 0))) (SE.sw (se_b1 cr_len (by rfl) T.z_len (by decide +kernel) (SE.sw (se_var 1)))))))) (sss_one (ss_ret se_bl)) sss_nil)
      (sss_one (ss_ret (se_b1 (cr_allD (by rfl)) (by rfl) T.z_all (by decide +kernel) (SE.sw (SL.se (sl_comp (own := [("_law_one", 2), ("_law_other", 3)]) (by rfl) sc.nd (si_zip (by rfl) T.z_zip (se_var 0) (se_var 1)) (blkOk_by (own := [("_law_one", 2), ("_law_other", 3)]) (by rfl)) (fun _ _ _ _ _ => (sg_tup (by rfl) (sgs_cons (sg_name 2 sc.nd (by rfl) (by first | exact Or.inl rfl | exact Or.inr rfl) (by decide)) (sgs_cons (sg_name 3 sc.nd (by rfl) (by first | exact Or.inl rfl | exact Or.inr rfl) (by decide)) sgs_nil)))) (fun _ _ _ _ _ => sts_nil) (fun _ _ _ _ _ => (se_call G hr (by rfl) C.g__law_same C.f__law_same.kp C.b__law_same (sa_cons (se_var 2) (sa_cons (se_var 3) sa_nil)) (by rfl)))))))))) sss_nil)
      (sss_cons (ss_if (st_val (SE.sw (se_isi .str (by rfl) T.z_isinstance (by rfl) T.z_str (by decide +kernel) (SE.sw (se_var 1))))) (sss_one (ss_ret (se_and (se_isi .str (by rfl) T.z_isinstance (by rfl) T.z_str (by decide +kernel) (SE.sw (se_var 0))) (se_one (se_cmp (or_eqB hU.c64) (se_var 0) (SE.sw (se_var 1))))))) sss_nil)
      (sss_one (ss_ret (se_and (se_isi .int (by rfl) T.z_isinstance (by rfl) T.z_int (by decide +kernel) (SE.sw (se_var 0))) (se_and (se_not (SE.sw (se_isi .bool (by rfl) T.z_isinstance (by rfl) T.z_bool (by decide +kernel) (SE.sw (se_var 0))))) (se_one (se_cmp (or_eqB hU.c64) (se_var 0) (SE.sw (se_var 1)))))))))))))
theorem ok__law_same (C : Cx1 K mg Z) (T : Tx mg) : FnOk P w K mg base CX0 40 Z.a__law_same Z.d__law_same ["_law_got", "_law_due"] (spF K 2 g__law_same) := okr__law_same C T 40
set_option maxHeartbeats 4000000 in
theorem ok__law_draw (C : Cx1 K mg Z) (T : Tx mg) : FnOk P w K mg base CX0 1 Z.a__law_draw Z.d__law_draw ["_law_script", "_law_town", "_law_many"] (spR K 3 1 g__law_draw) := by
  have sc := sc__law_draw
  refine fn_runR 1 (k := 0) (N := N__law_draw) C.f__law_draw sc__law_draw fun cdv A outer s H E hr => ?_
  have hU := un1 hr
  exact ((sss_cons (ss_expr (se_app 1 se_int))
      (sss_cons (ss_asg 3 sc.nd (se_b1 cr_len (by rfl) T.z_len (by decide +kernel) (sw_own 1)))
      (sss_cons (ss_asg 4 sc.nd se_int)
      (sss_cons (ss_if (st_val (SE.sw (se_var 0))) (sss_one (ss_asg 4 sc.nd (se_ix (se_var 0) (se_op or_modD (se_var 3) (SE.sw (se_b1 cr_len (by rfl) T.z_len (by decide +kernel) (SE.sw (se_var 0)))))))) sss_nil)
      (sss_cons (ss_asg 5 sc.nd (se_op or_modD (se_op or_addD (se_var 4) (SE.sw (se_op or_mulD se_int (SE.sw (se_var 3))))) (SE.sw se_int)))
      (sss_cons (ss_asg 5 sc.nd (se_op or_modD (se_op or_mulD (se_op or_modD (se_op or_mulD (se_var 5) (SE.sw (se_var 5))) (SE.sw se_int)) (SE.sw se_int)) (SE.sw se_int)))
      (sss_one (ss_ret (se_op or_modD (se_op or_fdivD (se_var 5) (SE.sw se_int)) (SE.sw (se_var 2))))))))))))
set_option maxHeartbeats 4000000 in
theorem ok__law_pick (C : Cx1 K mg Z) (T : Tx mg) : FnOk P w K mg base CX0 2 Z.a__law_pick Z.d__law_pick ["_law_script", "_law_town", "_law_some"] (spR K 3 1 g__law_pick) := by
  have sc := sc__law_pick
  refine fn_runR 1 (k := 1) (N := N__law_pick) C.f__law_pick sc__law_pick fun cdv A outer s H E hr => ?_
  have hU := un1 hr
  exact ((sss_one (ss_ret (se_ix (se_var 2) (se_callR (ok__law_draw C T) (hr.mono (by omega)) (by rfl) C.g__law_draw C.f__law_draw.kp C.b__law_draw (sar_there (se_var 0) (sar_here 1 (sa_cons (se_b1 cr_len (by rfl) T.z_len (by decide +kernel) (SE.sw (se_var 2))) sa_nil))) (by rfl))))))
set_option maxHeartbeats 4000000 in
theorem ok__law_net (C : Cx1 K mg Z) (T : Tx mg) : FnOk P w K mg base CX0 3 Z.a__law_net Z.d__law_net ["_law_script", "_law_town", "_law_high", "_law_wide"] (spR K 4 1 g__law_net) := by
  have sc := sc__law_net
  refine fn_runR 1 (k := 2) (N := N__law_net) C.f__law_net sc__law_net fun cdv A outer s H E hr => ?_
  have hU := un1 hr
  exact ((sss_cons (ss_asg 4 sc.nd (se_op or_addD se_int (SE.sw (se_callR (ok__law_draw C T) (hr.mono (by omega)) (by rfl) C.g__law_draw C.f__law_draw.kp C.b__law_draw (sar_there (se_var 0) (sar_here 1 (sa_cons (se_var 2) sa_nil))) (by rfl)))))
      (sss_cons (ss_asg 5 sc.nd (SL.se (sl_lst sa_nil)))
      (sss_cons (ss_for (is := [6]) PassesOwn.never (by rfl) (si_range1 (by rfl) T.z_range (se_var 4)) (sg_name 6 sc.nd (by rfl) (by first | exact Or.inl rfl | exact Or.inr rfl) (by decide)) (sss_one (ss_asg 5 sc.nd (se_op or_addD (se_var 5) (SE.sw (SL.se (sl_comp (own := [("_law_other", 11)]) (by rfl) sc.nd (si_range2 (by rfl) T.z_range (se_op or_addD (se_var 6) (SE.sw se_int)) (se_var 4)) (blkOk_by (own := [("_law_other", 11)]) (by rfl)) (fun _ _ _ _ _ => (sg_name 11 sc.nd (by rfl) (by first | exact Or.inl rfl | exact Or.inr rfl) (by decide))) (fun _ _ _ _ _ => sts_nil) (fun _ _ _ _ _ => (se_tup (sa_cons (se_var 6) (sa_cons (se_var 11) sa_nil)))))))))))
      (sss_cons (ss_newD 7 true sc.nd)
      (sss_cons (ss_if (st_cmp or_gtB (se_callR (ok__law_draw C T) (hr.mono (by omega)) (by rfl) C.g__law_draw C.f__law_draw.kp C.b__law_draw (sar_there (se_var 0) (sar_here 1 (sa_cons se_int sa_nil))) (by rfl)) (SE.sw se_int)) (sss_one (ss_for (is := [10]) PassesOwn.never (by rfl) (si_range2 (by rfl) T.z_range se_int (se_var 4)) (sg_name 10 sc.nd (by rfl) (by first | exact Or.inl rfl | exact Or.inr rfl) (by decide)) (sss_cons (ss_asg 11 sc.nd (se_callR (ok__law_draw C T) (hr.mono (by omega)) (by rfl) C.g__law_draw C.f__law_draw.kp C.b__law_draw (sar_there (se_var 0) (sar_here 1 (sa_cons (se_var 10) sa_nil))) (by rfl)))
      (sss_one (ss_put 7 hU.c1 (se_tup (sa_cons (se_var 11) (sa_cons (se_var 10) sa_nil))) se_int))))) sss_nil)
      (sss_cons (ss_for (is := [8]) PassesOwn.never (by rfl) (si_range1 (by rfl) T.z_range (se_callR (ok__law_draw C T) (hr.mono (by omega)) (by rfl) C.g__law_draw C.f__law_draw.kp C.b__law_draw (sar_there (se_var 0) (sar_here 1 (sa_cons (se_op or_addD (se_var 3) (SE.sw se_int)) sa_nil))) (by rfl))) (sg_name 8 sc.nd (by rfl) (by first | exact Or.inl rfl | exact Or.inr rfl) (by decide)) (sss_one (ss_if (SWt.st (sw_and (st_val (SE.sw (se_var 5))) (sw_and1 (st_cmp (or_ltB hU.c0) (se_lenD 7 (by rfl) T.z_len) (SE.sw (se_var 3)))))) (sss_one (ss_put 7 hU.c1 (se_callR (ok__law_pick C T) (hr.mono (by omega)) (by rfl) C.g__law_pick C.f__law_pick.kp C.b__law_pick (sar_there (se_var 0) (sar_here 1 (sa_cons (se_var 5) sa_nil))) (by rfl)) se_int)) sss_nil)))
      (sss_cons (ss_compD 9 (own := [("_law_knot", 10)]) (by rfl) sc.nd (si_range1 (by rfl) T.z_range (se_var 4)) (blkOk_by (own := [("_law_knot", 10)]) (by rfl)) (fun _ _ _ _ _ => (sg_name 10 sc.nd (by rfl) (by first | exact Or.inl rfl | exact Or.inr rfl) (by decide))) (fun _ _ _ _ _ => (sts_one (st_cmp (or_eqB hU.c64) (se_callR (ok__law_draw C T) (hr.mono (by omega)) (by rfl) C.g__law_draw C.f__law_draw.kp C.b__law_draw (sar_there (se_var 0) (sar_here 1 (sa_cons se_int sa_nil))) (by rfl)) (SE.sw se_int)))) (fun _ _ _ _ _ => (se_var 10)) (sw_true (by rfl) (by rfl) (by rfl) (by decide +kernel)))
      (sss_cons (ss_if (st_not (st_val (SE.sw (se_var 9)))) (sss_one (ss_asg 9 sc.nd (SL.se (sl_lst (sa_cons (se_callR (ok__law_draw C T) (hr.mono (by omega)) (by rfl) C.g__law_draw C.f__law_draw.kp C.b__law_draw (sar_there (se_var 0) (sar_here 1 (sa_cons (se_var 4) sa_nil))) (by rfl)) sa_nil))))) sss_nil)
      (sss_one (ss_ret (se_tup (sa_cons (se_var 4) (sa_cons (se_sl (se_t1 cr_tuple (by rfl) T.z_tuple (by decide +kernel) (SE.sw (se_sortD 7 hU.c100 (by rfl) (by rfl) T.z_sorted))) sp_none (sp_some (se_var 3))) (sa_cons (se_t1 cr_tuple (by rfl) T.z_tuple (by decide +kernel) (SE.sw (se_var 9))) sa_nil)))))))))))))))
set_option maxHeartbeats 4000000 in
theorem ok__law_whole (C : Cx1 K mg Z) (T : Tx mg) : FnOk P w K mg base CX0 1 Z.a__law_whole Z.d__law_whole ["_law_thing", "_law_low", "_law_high"] (spF K 3 g__law_whole) := by
  have sc := sc__law_whole
  refine fn_run (k := 0) (N := N__law_whole) C.f__law_whole sc__law_whole fun cdv A outer s H E hr => ?_
  have hU := un1 hr
  exact ((sss_one (ss_ret (se_and (se_isi .int (by rfl) T.z_isinstance (by rfl) T.z_int (by decide +kernel) (SE.sw (se_var 0))) (se_and (se_not (SE.sw (se_isi .bool (by rfl) T.z_isinstance (by rfl) T.z_bool (by decide +kernel) (SE.sw (se_var 0))))) (se_one (se_chain (or_leB hU.c0) (or_leB hU.c0) (se_var 1) (se_var 0) (SE.sw (se_var 2)))))))))
set_option maxHeartbeats 4000000 in
theorem ok__law_is_net (C : Cx1 K mg Z) (T : Tx mg) : FnOk P w K mg base CX0 2 Z.a__law_is_net Z.d__law_is_net ["_law_thing"] (spF K 1 g__law_is_net) := by
  have sc := sc__law_is_net
  refine fn_run (k := 1) (N := N__law_is_net) C.f__law_is_net sc__law_is_net fun cdv A outer s H E hr => ?_
  have hU := un1 hr
  exact ((sss_cons (ss_if (SWt.st (sw_or (st_not (st_val (SE.sw (se_isi .tuple (by rfl) T.z_isinstance (by rfl) T.z_tuple (by decide +kernel) (SE.sw (se_var 0)))))) (sw_or (st_cmp (or_neB hU.c64) (se_b1 cr_len (by rfl) T.z_len (by decide +kernel) (SE.sw (se_var 0))) (SE.sw se_int)) (sw_or1 (st_not (st_val (SE.sw (se_call (ok__law_whole C T) (hr.mono (by omega)) (by rfl) C.g__law_whole C.f__law_whole.kp C.b__law_whole (sa_cons (se_ix (se_var 0) se_int) (sa_cons se_int (sa_cons se_int sa_nil))) (by rfl))))))))) (sss_one (ss_ret se_bl)) sss_nil)
      (sss_cons (ss_asgG (is := [4, 5, 6]) (se_var 0) (sg_tup (by rfl) (sgs_cons (sg_name 4 sc.nd (by rfl) (by first | exact Or.inl rfl | exact Or.inr rfl) (by decide)) (sgs_cons (sg_name 5 sc.nd (by rfl) (by first | exact Or.inl rfl | exact Or.inr rfl) (by decide)) (sgs_cons (sg_name 6 sc.nd (by rfl) (by first | exact Or.inl rfl | exact Or.inr rfl) (by decide)) sgs_nil)))))
      (sss_cons (ss_if (SWt.st (sw_or (st_not (st_val (SE.sw (se_isi .tuple (by rfl) T.z_isinstance (by rfl) T.z_tuple (by decide +kernel) (SE.sw (se_var 5)))))) (sw_or (st_not (st_val (SE.sw (se_isi .tuple (by rfl) T.z_isinstance (by rfl) T.z_tuple (by decide +kernel) (SE.sw (se_var 6)))))) (sw_or (st_cmp or_gtB (se_b1 cr_len (by rfl) T.z_len (by decide +kernel) (SE.sw (se_var 5))) (SE.sw se_int)) (sw_or1 (st_cmp (or_eqB hU.c64) (se_var 6) (SE.sw (se_tup sa_nil)))))))) (sss_one (ss_ret se_bl)) sss_nil)
      (sss_cons (ss_asg 1 sc.nd (se_tup (sa_cons (se_neg se_int) (sa_cons (se_neg se_int) sa_nil))))
      (sss_cons (ss_for (is := [2]) PassesOwn.never (by rfl) (si_seq (se_var 5)) (sg_name 2 sc.nd (by rfl) (by first | exact Or.inl rfl | exact Or.inr rfl) (by decide)) (sss_cons (ss_if (SWt.st (sw_or (st_not (st_val (SE.sw (se_isi .tuple (by rfl) T.z_isinstance (by rfl) T.z_tuple (by decide +kernel) (SE.sw (se_var 2)))))) (sw_or (st_cmp (or_neB hU.c64) (se_b1 cr_len (by rfl) T.z_len (by decide +kernel) (SE.sw (se_var 2))) (SE.sw se_int)) (sw_or1 (st_not (st_val (SE.sw (se_call (ok__law_whole C T) (hr.mono (by omega)) (by rfl) C.g__law_whole C.f__law_whole.kp C.b__law_whole (sa_cons (se_ix (se_var 2) se_int) (sa_cons se_int (sa_cons (se_op or_subD (se_var 4) (SE.sw se_int)) sa_nil))) (by rfl))))))))) (sss_one (ss_ret se_bl)) sss_nil)
      (sss_cons (ss_if (SWt.st (sw_or (st_not (st_val (SE.sw (se_call (ok__law_whole C T) (hr.mono (by omega)) (by rfl) C.g__law_whole C.f__law_whole.kp C.b__law_whole (sa_cons (se_ix (se_var 2) se_int) (sa_cons (se_op or_addD (se_ix (se_var 2) se_int) (SE.sw se_int)) (sa_cons (se_op or_subD (se_var 4) (SE.sw se_int)) sa_nil))) (by rfl))))) (sw_or1 (st_cmp (or_leB hU.c0) (se_var 2) (SE.sw (se_var 1)))))) (sss_one (ss_ret se_bl)) sss_nil)
      (sss_one (ss_asg 1 sc.nd (se_var 2))))))
      (sss_cons (ss_asg 1 sc.nd (se_neg se_int))
      (sss_cons (ss_for (is := [3]) PassesOwn.never (by rfl) (si_seq (se_var 6)) (sg_name 3 sc.nd (by rfl) (by first | exact Or.inl rfl | exact Or.inr rfl) (by decide)) (sss_cons (ss_if (st_not (st_val (SE.sw (se_call (ok__law_whole C T) (hr.mono (by omega)) (by rfl) C.g__law_whole C.f__law_whole.kp C.b__law_whole (sa_cons (se_var 3) (sa_cons (se_op or_addD (se_var 1) (SE.sw se_int)) (sa_cons (se_op or_subD (se_var 4) (SE.sw se_int)) sa_nil))) (by rfl))))) (sss_one (ss_ret se_bl)) sss_nil)
      (sss_one (ss_asg 1 sc.nd (se_var 3)))))
      (sss_one (ss_ret se_bl))))))))))
set_option maxHeartbeats 4000000 in
theorem okr__law_bent (C : Cx1 K mg Z) (T : Tx mg) : ∀ n, FnOk P w K mg base CX0 (2 + n) Z.a__law_bent Z.d__law_bent ["_law_script", "_law_town", "_law_thing"] (spR K 3 1 (gr__law_bent n))
  | 0 => spR_none
  | n + 1 => by
    have G := okr__law_bent C T n
    have sc := sc__law_bent
    refine fn_runR 1 (k := 2 + n) (N := N__law_bent) C.f__law_bent sc__law_bent fun cdv A outer s H E hr => ?_
    have hU := un1 hr
    exact ((sss_cons (ss_asg 3 sc.nd (SL.se (sl_lst (sa_cons se_non (sa_cons se_bl (sa_cons se_bl (sa_cons (se_neg se_int) (sa_cons se_int (sa_cons se_int (sa_cons se_int (sa_cons se_int (sa_cons se_int (sa_cons se_int (sa_cons se_str (sa_cons se_str (sa_cons (se_tup sa_nil) (sa_cons (se_tup (sa_cons se_int sa_nil)) (sa_cons (se_tup (sa_cons se_int (sa_cons se_int sa_nil))) (sa_cons (se_tup (sa_cons se_int (sa_cons se_int sa_nil))) (sa_cons (se_tup (sa_cons se_int (sa_cons se_int sa_nil))) (sa_cons (se_tup (sa_cons se_int (sa_cons se_int sa_nil))) (sa_cons (SL.se (sl_lst (sa_cons se_int sa_nil))) (sa_cons (se_tup (sa_cons se_int (sa_cons se_int (sa_cons se_int sa_nil)))) sa_nil)))))))))))))))))))))))
      (sss_cons (ss_if (SWt.st (sw_or (st_not (st_val (SE.sw (se_isi .tuple (by rfl) T.z_isinstance (by rfl) T.z_tuple (by decide +kernel) (SE.sw (se_var 2)))))) (sw_or (st_cmp (or_eqB hU.c64) (se_var 2) (SE.sw (se_tup sa_nil))) (sw_or1 (st_cmp (or_eqB hU.c64) (se_callR (ok__law_draw C T) (hr.mono (by omega)) (by rfl) C.g__law_draw C.f__law_draw.kp C.b__law_draw (sar_there (se_var 0) (sar_here 1 (sa_cons se_int sa_nil))) (by rfl)) (SE.sw se_int)))))) (sss_one (ss_ret (se_callR (ok__law_pick C T) (hr.mono (by omega)) (by rfl) C.g__law_pick C.f__law_pick.kp C.b__law_pick (sar_there (se_var 0) (sar_here 1 (sa_cons (se_var 3) sa_nil))) (by rfl)))) sss_nil)
      (sss_cons (ss_asg 4 sc.nd (se_callR (ok__law_draw C T) (hr.mono (by omega)) (by rfl) C.g__law_draw C.f__law_draw.kp C.b__law_draw (sar_there (se_var 0) (sar_here 1 (sa_cons (se_b1 cr_len (by rfl) T.z_len (by decide +kernel) (SE.sw (se_var 2))) sa_nil))) (by rfl)))
      (sss_cons (ss_asg 5 sc.nd (se_callR (ok__law_draw C T) (hr.mono (by omega)) (by rfl) C.g__law_draw C.f__law_draw.kp C.b__law_draw (sar_there (se_var 0) (sar_here 1 (sa_cons se_int sa_nil))) (by rfl)))
      (sss_cons (ss_if (st_cmp (or_eqB hU.c64) (se_var 5) (SE.sw se_int)) (sss_one (ss_ret (se_op or_addD (se_sl (se_var 2) sp_none (sp_some (se_var 4))) (SE.sw (se_sl (se_var 2) (sp_some (se_op or_addD (se_var 4) (SE.sw se_int))) sp_none))))) sss_nil)
      (sss_cons (ss_if (st_cmp (or_eqB hU.c64) (se_var 5) (SE.sw se_int)) (sss_one (ss_ret (se_op or_addD (se_op or_addD (se_sl (se_var 2) sp_none (sp_some (se_var 4))) (SE.sw (se_tup (sa_cons (se_ix (se_var 2) (se_var 4)) sa_nil)))) (SE.sw (se_sl (se_var 2) (sp_some (se_var 4)) sp_none))))) sss_nil)
      (sss_cons (ss_if (st_cmp (or_eqB hU.c64) (se_var 5) (SE.sw se_int)) (sss_one (ss_ret (se_t1 cr_list (by rfl) T.z_list (by decide +kernel) (SE.sw (se_var 2))))) sss_nil)
      (sss_cons (ss_if (st_cmp (or_eqB hU.c64) (se_var 5) (SE.sw se_int)) (sss_one (ss_ret (se_op or_addD (se_op or_addD (se_sl (se_var 2) sp_none (sp_some (se_var 4))) (SE.sw (se_rev (se_sl (se_var 2) (sp_some (se_var 4)) (sp_some (se_op or_addD (se_var 4) (SE.sw se_int))))))) (SE.sw (se_sl (se_var 2) (sp_some (se_op or_addD (se_var 4) (SE.sw se_int))) sp_none))))) sss_nil)
      (sss_one (ss_ret (se_op or_addD (se_op or_addD (se_sl (se_var 2) sp_none (sp_some (se_var 4))) (SE.sw (se_tup (sa_cons (se_callR G hr (by rfl) C.g__law_bent C.f__law_bent.kp C.b__law_bent (sar_there (se_var 0) (sar_here 1 (sa_cons (se_ix (se_var 2) (se_var 4)) sa_nil))) (by rfl)) sa_nil)))) (SE.sw (se_sl (se_var 2) (sp_some (se_op or_addD (se_var 4) (SE.sw se_int))) sp_none))))))))))))))
theorem ok__law_bent (C : Cx1 K mg Z) (T : Tx mg) : FnOk P w K mg base CX0 42 Z.a__law_bent Z.d__law_bent ["_law_script", "_law_town", "_law_thing"] (spR K 3 1 g__law_bent) := okr__law_bent C T 40
set_option maxHeartbeats 4000000 in
theorem ok_law (C : Cx1 K mg Z) (T : Tx mg) : FnOk P w K mg base CX0 43 Z.a_law Z.d_law ["_law_script"] (spF K 1 g_law) := by
  have sc := sc_law
  refine fn_run (k := 42) (N := N_law) C.f_law sc_law fun cdv A outer s H E hr => ?_
  have hU := un1 hr
  exact ((sss_cons (ss_new 1 sc.nd (sl_lst sa_nil))
      (sss_cons (ss_asg 2 sc.nd (se_tup (sa_cons (se_tup (sa_cons se_int (sa_cons se_int sa_nil))) (sa_cons (se_tup (sa_cons se_int (sa_cons se_int sa_nil))) (sa_cons (se_tup (sa_cons se_int (sa_cons se_int sa_nil))) (sa_cons (se_tup (sa_cons se_int (sa_cons se_int sa_nil))) (sa_cons (se_tup (sa_cons se_int (sa_cons se_int sa_nil))) (sa_cons (se_tup (sa_cons se_int (sa_cons se_int sa_nil))) (sa_cons (se_tup (sa_cons se_int (sa_cons se_int sa_nil))) (sa_cons (se_tup (sa_cons se_int (sa_cons se_int sa_nil))) (sa_cons (se_tup (sa_cons se_int (sa_cons se_int sa_nil))) (sa_cons (se_tup (sa_cons se_int (sa_cons se_int sa_nil))) sa_nil))))))))))))
      (sss_cons (ss_for (is := [3]) PassesOwn.never (by rfl) (si_range1 (by rfl) T.z_range se_int) (sg_name 3 sc.nd (by rfl) (by first | exact Or.inl rfl | exact Or.inr rfl) (by decide)) (sss_cons (ss_asg 4 sc.nd (se_callR (ok__law_net C T) (hr.mono (by omega)) (by rfl) C.g__law_net C.f__law_net.kp C.b__law_net (sar_there (se_var 0) (sar_here 1 (sa_cons se_int (sa_cons se_int sa_nil)))) (by rfl)))
      (sss_cons (ss_new 5 sc.nd (sl_lst (sa_cons (se_var 4) (sa_cons (se_t1 cr_list (by rfl) T.z_list (by decide +kernel) (SE.sw (se_var 4))) (sa_cons (se_op or_addD (se_var 4) (SE.sw (se_tup (sa_cons se_int sa_nil)))) (sa_cons (se_sl (se_var 4) sp_none (sp_some se_int)) (sa_cons (se_rev (se_var 4)) (sa_cons (se_tup (sa_cons se_int (sa_cons (se_var 2) (sa_cons (se_tup (sa_cons se_int sa_nil)) sa_nil)))) (sa_cons (se_tup (sa_cons se_int (sa_cons (se_sl (se_var 2) sp_none (sp_some se_int)) (sa_cons (se_tup (sa_cons se_int sa_nil)) sa_nil)))) (sa_cons (se_tup (sa_cons se_int (sa_cons (se_tup sa_nil) (sa_cons (se_tup (sa_cons se_int sa_nil)) sa_nil)))) sa_nil))))))))))
      (sss_cons (ss_new 5 sc.nd (sl_catOwn 5 (SE.sw (SL.se (sl_lst (sa_cons (se_tup (sa_cons se_int (sa_cons (se_tup sa_nil) (sa_cons (se_tup sa_nil) sa_nil)))) (sa_cons (se_tup (sa_cons se_int (sa_cons (se_tup sa_nil) (sa_cons (se_tup (sa_cons se_int sa_nil)) sa_nil)))) (sa_cons (se_tup (sa_cons se_int (sa_cons (se_tup sa_nil) (sa_cons (se_tup sa_nil) sa_nil)))) (sa_cons (se_tup (sa_cons se_int (sa_cons (se_tup sa_nil) (sa_cons (se_tup (sa_cons se_int (sa_cons se_int sa_nil))) sa_nil)))) (sa_cons se_non (sa_cons se_int (sa_cons (se_tup sa_nil) (sa_cons (se_ix (se_var 4) se_int) sa_nil)))))))))))))
      (sss_cons (ss_expr (se_app 5 (se_tup (sa_cons (se_ix (se_var 4) se_int) (sa_cons (se_tup sa_nil) (sa_cons (se_ix (se_var 4) se_int) sa_nil))))))
      (sss_cons (ss_new 5 sc.nd (sl_catOwn 5 (SE.sw (SL.se (sl_comp (own := [("_law_j", 7)]) (by rfl) sc.nd (si_range1 (by rfl) T.z_range se_int) (blkOk_by (own := [("_law_j", 7)]) (by rfl)) (fun _ _ _ _ _ => (sg_name 7 sc.nd (by rfl) (by first | exact Or.inl rfl | exact Or.inr rfl) (by decide))) (fun _ _ _ _ _ => sts_nil) (fun _ _ _ _ _ => (se_callR (ok__law_bent C T) (hr.mono (by omega)) (by rfl) C.g__law_bent C.f__law_bent.kp C.b__law_bent (sar_there (se_var 0) (sar_here 1 (sa_cons (se_var 4) sa_nil))) (by rfl))))))))
      (sss_one (ss_frz 5 (ss_for (is := [6]) PassesOwn.never (by rfl) (si_seq (se_var 5)) (sg_name 6 sc.nd (by rfl) (by first | exact Or.inl rfl | exact Or.inr rfl) (by decide)) (sss_one (ss_if (st_not (st_val (SE.sw (se_call (ok__law_same C T) (hr.mono (by omega)) (by rfl) C.g__law_same C.f__law_same.kp C.b__law_same (sa_cons (se_call (ok_is_net C T) (hr.mono (by omega)) (by rfl) C.g_is_net C.f_is_net.kp C.b_is_net (sa_cons (se_var 6) sa_nil) (by rfl)) (sa_cons (se_call (ok__law_is_net C T) (hr.mono (by omega)) (by rfl) C.g__law_is_net C.f__law_is_net.kp C.b__law_is_net (sa_cons (se_var 6) sa_nil) (by rfl)) sa_nil)) (by rfl))))) (sss_one (ss_ret se_bl)) sss_nil)))))))))))
      (sss_one (ss_ret se_bl))))))
end
theorem all_mk {l : PySem.W.OpenLaw} {w : World} {K : PySem.W.Frag} {h : Heap} {mg : Str → Option Value} {fa : Addr} (X : K.In h) (G : h.Ns mainGlobals mg) (hfa : mg "law" = some (.ref fa))
    {f0 : Addr} {od0 an0 : Option Addr} {sl0 : Array (Option Value)} {oc0 kV0 dc0 pm0 cd0 ct0 : Value}
    {f1 : Addr} {od1 an1 : Option Addr} {sl1 : Array (Option Value)} {oc1 kV1 dc1 pm1 cd1 ct1 : Value}
    {f2 : Addr} {od2 an2 : Option Addr} {sl2 : Array (Option Value)} {oc2 kV2 dc2 pm2 cd2 ct2 : Value}
    {f3 : Addr} {od3 an3 : Option Addr} {sl3 : Array (Option Value)} {oc3 kV3 dc3 pm3 cd3 ct3 : Value}
    {f4 : Addr} {od4 an4 : Option Addr} {sl4 : Array (Option Value)} {oc4 kV4 dc4 pm4 cd4 ct4 : Value}
    {f5 : Addr} {od5 an5 : Option Addr} {sl5 : Array (Option Value)} {oc5 kV5 dc5 pm5 cd5 ct5 : Value}
    {f6 : Addr} {od6 an6 : Option Addr} {sl6 : Array (Option Value)} {oc6 kV6 dc6 pm6 cd6 ct6 : Value}
    {f7 : Addr} {od7 an7 : Option Addr} {sl7 : Array (Option Value)} {oc7 kV7 dc7 pm7 cd7 ct7 : Value}
    {f8 : Addr} {od8 an8 : Option Addr} {sl8 : Array (Option Value)} {oc8 kV8 dc8 pm8 cd8 ct8 : Value}
    {f9 : Addr} {od9 an9 : Option Addr} {sl9 : Array (Option Value)} {oc9 kV9 dc9 pm9 cd9 ct9 : Value}
    {f10 : Addr} {od10 an10 : Option Addr} {sl10 : Array (Option Value)} {oc10 kV10 dc10 pm10 cd10 ct10 : Value}
    {f11 : Addr} {od11 an11 : Option Addr} {sl11 : Array (Option Value)} {oc11 kV11 dc11 pm11 cd11 ct11 : Value}
    {tk0 : Tok}
    {tk1 : Tok}
    (a0 : PySem.W.nsIn K mainGlobals "is_whole" = some (some (.ref f0))) (l0 : K.lookup f0 = some ⟨oc0, od0, .func (PySem.W.fnOf "is_whole" "is_whole" (defArgs s_is_whole) (defBody s_is_whole) (defScope s_is_whole) .none kV0 dc0 pm0 an0 cd0 ct0), sl0⟩) (c0 : PySem.W.codeIn K cd0 "is_whole" = true) (k0 : PySem.W.keepIn K (.ref f0) = true)
    (a1 : PySem.W.nsIn K mainGlobals "are_rising" = some (some (.ref f1))) (l1 : K.lookup f1 = some ⟨oc1, od1, .func (PySem.W.fnOf "are_rising" "are_rising" (defArgs s_are_rising) (defBody s_are_rising) (defScope s_are_rising) .none kV1 dc1 pm1 an1 cd1 ct1), sl1⟩) (c1 : PySem.W.codeIn K cd1 "are_rising" = true) (k1 : PySem.W.keepIn K (.ref f1) = true)
    (a2 : PySem.W.nsIn K mainGlobals "is_tie" = some (some (.ref f2))) (l2 : K.lookup f2 = some ⟨oc2, od2, .func (PySem.W.fnOf "is_tie" "is_tie" (defArgs s_is_tie) (defBody s_is_tie) (defScope s_is_tie) .none kV2 dc2 pm2 an2 cd2 ct2), sl2⟩) (c2 : PySem.W.codeIn K cd2 "is_tie" = true) (k2 : PySem.W.keepIn K (.ref f2) = true)
    (a3 : PySem.W.nsIn K mainGlobals "is_net" = some (some (.ref f3))) (l3 : K.lookup f3 = some ⟨oc3, od3, .func (PySem.W.fnOf "is_net" "is_net" (defArgs s_is_net) (defBody s_is_net) (defScope s_is_net) .none kV3 dc3 pm3 an3 cd3 ct3), sl3⟩) (c3 : PySem.W.codeIn K cd3 "is_net" = true) (k3 : PySem.W.keepIn K (.ref f3) = true)
    (a4 : PySem.W.nsIn K mainGlobals "_law_same" = some (some (.ref f4))) (l4 : K.lookup f4 = some ⟨oc4, od4, .func (PySem.W.fnOf "_law_same" "_law_same" (defArgs s__law_same) (defBody s__law_same) (defScope s__law_same) .none kV4 dc4 pm4 an4 cd4 ct4), sl4⟩) (c4 : PySem.W.codeIn K cd4 "_law_same" = true) (k4 : PySem.W.keepIn K (.ref f4) = true)
    (a5 : PySem.W.nsIn K mainGlobals "_law_draw" = some (some (.ref f5))) (l5 : K.lookup f5 = some ⟨oc5, od5, .func (PySem.W.fnOf "_law_draw" "_law_draw" (defArgs s__law_draw) (defBody s__law_draw) (defScope s__law_draw) .none kV5 dc5 pm5 an5 cd5 ct5), sl5⟩) (c5 : PySem.W.codeIn K cd5 "_law_draw" = true) (k5 : PySem.W.keepIn K (.ref f5) = true)
    (a6 : PySem.W.nsIn K mainGlobals "_law_pick" = some (some (.ref f6))) (l6 : K.lookup f6 = some ⟨oc6, od6, .func (PySem.W.fnOf "_law_pick" "_law_pick" (defArgs s__law_pick) (defBody s__law_pick) (defScope s__law_pick) .none kV6 dc6 pm6 an6 cd6 ct6), sl6⟩) (c6 : PySem.W.codeIn K cd6 "_law_pick" = true) (k6 : PySem.W.keepIn K (.ref f6) = true)
    (a7 : PySem.W.nsIn K mainGlobals "_law_net" = some (some (.ref f7))) (l7 : K.lookup f7 = some ⟨oc7, od7, .func (PySem.W.fnOf "_law_net" "_law_net" (defArgs s__law_net) (defBody s__law_net) (defScope s__law_net) .none kV7 dc7 pm7 an7 cd7 ct7), sl7⟩) (c7 : PySem.W.codeIn K cd7 "_law_net" = true) (k7 : PySem.W.keepIn K (.ref f7) = true)
    (a8 : PySem.W.nsIn K mainGlobals "_law_whole" = some (some (.ref f8))) (l8 : K.lookup f8 = some ⟨oc8, od8, .func (PySem.W.fnOf "_law_whole" "_law_whole" (defArgs s__law_whole) (defBody s__law_whole) (defScope s__law_whole) .none kV8 dc8 pm8 an8 cd8 ct8), sl8⟩) (c8 : PySem.W.codeIn K cd8 "_law_whole" = true) (k8 : PySem.W.keepIn K (.ref f8) = true)
    (a9 : PySem.W.nsIn K mainGlobals "_law_is_net" = some (some (.ref f9))) (l9 : K.lookup f9 = some ⟨oc9, od9, .func (PySem.W.fnOf "_law_is_net" "_law_is_net" (defArgs s__law_is_net) (defBody s__law_is_net) (defScope s__law_is_net) .none kV9 dc9 pm9 an9 cd9 ct9), sl9⟩) (c9 : PySem.W.codeIn K cd9 "_law_is_net" = true) (k9 : PySem.W.keepIn K (.ref f9) = true)
    (a10 : PySem.W.nsIn K mainGlobals "_law_bent" = some (some (.ref f10))) (l10 : K.lookup f10 = some ⟨oc10, od10, .func (PySem.W.fnOf "_law_bent" "_law_bent" (defArgs s__law_bent) (defBody s__law_bent) (defScope s__law_bent) .none kV10 dc10 pm10 an10 cd10 ct10), sl10⟩) (c10 : PySem.W.codeIn K cd10 "_law_bent" = true) (k10 : PySem.W.keepIn K (.ref f10) = true)
    (a11 : PySem.W.nsIn K mainGlobals "law" = some (some (.ref f11))) (l11 : K.lookup f11 = some ⟨oc11, od11, .func (PySem.W.fnOf "law" "law" (defArgs s_law) (defBody s_law) (defScope s_law) .none kV11 dc11 pm11 an11 cd11 ct11), sl11⟩) (c11 : PySem.W.codeIn K cd11 "law" = true) (k11 : PySem.W.keepIn K (.ref f11) = true)
    (z0 : PySem.W.nsIn K mainGlobals "all" = some none)
    (z1 : PySem.W.nsIn K mainGlobals "bool" = some none)
    (z2 : PySem.W.nsIn K mainGlobals "int" = some none)
    (z3 : PySem.W.nsIn K mainGlobals "isinstance" = some none)
    (z4 : PySem.W.nsIn K mainGlobals "len" = some none)
    (z5 : PySem.W.nsIn K mainGlobals "list" = some none)
    (z6 : PySem.W.nsIn K mainGlobals "range" = some none)
    (z7 : PySem.W.nsIn K mainGlobals "sorted" = some none)
    (z8 : PySem.W.nsIn K mainGlobals "str" = some none)
    (z9 : PySem.W.nsIn K mainGlobals "tuple" = some none)
    (z10 : PySem.W.nsIn K mainGlobals "zip" = some none)
    (m0 : PySem.W.nsIn K mainGlobals "KNOTS_MOST" = some (some (.int 7 tk0)))
    (m1 : PySem.W.nsIn K mainGlobals "TIES_MOST" = some (some (.int 9 tk1)))
    : ∃ fd : FuncData, (∀ (s : Shared) (v : Value), BindsTo s fd ⟨[v], []⟩ [("_law_script", v)]) ∧ ∀ base : Heap, K.In base → base.Ns mainGlobals mg → FnOk l.prog w K mg base CX0 43 fa fd ["_law_script"] (spF K 1 g_law) := by
  have e := hfa.symm.trans (PySem.W.mg_of X G a11)
  cases e
  have F0 := fun_mk (st := s_is_whole) l0 c0 k0
  have b0 := F0.binds (ps := ["thing", "low", "high"]) fun _ _ _ _ _ _ us hl => match us, hl with | [_, _, _], _ => rfl
  have F1 := fun_mk (st := s_are_rising) l1 c1 k1
  have b1 := F1.binds (ps := ["row"]) fun _ _ _ _ _ _ us hl => match us, hl with | [_], _ => rfl
  have F2 := fun_mk (st := s_is_tie) l2 c2 k2
  have b2 := F2.binds (ps := ["thing", "many"]) fun _ _ _ _ _ _ us hl => match us, hl with | [_, _], _ => rfl
  have F3 := fun_mk (st := s_is_net) l3 c3 k3
  have b3 := F3.binds (ps := ["thing"]) fun _ _ _ _ _ _ us hl => match us, hl with | [_], _ => rfl
  have F4 := fun_mk (st := s__law_same) l4 c4 k4
  have b4 := F4.binds (ps := ["_law_got", "_law_due"]) fun _ _ _ _ _ _ us hl => match us, hl with | [_, _], _ => rfl
  have F5 := fun_mk (st := s__law_draw) l5 c5 k5
  have b5 := F5.binds (ps := ["_law_script", "_law_town", "_law_many"]) fun _ _ _ _ _ _ us hl => match us, hl with | [_, _, _], _ => rfl
  have F6 := fun_mk (st := s__law_pick) l6 c6 k6
  have b6 := F6.binds (ps := ["_law_script", "_law_town", "_law_some"]) fun _ _ _ _ _ _ us hl => match us, hl with | [_, _, _], _ => rfl
  have F7 := fun_mk (st := s__law_net) l7 c7 k7
  have b7 := F7.binds (ps := ["_law_script", "_law_town", "_law_high", "_law_wide"]) fun _ _ _ _ _ _ us hl => match us, hl with | [_, _, _, _], _ => rfl
  have F8 := fun_mk (st := s__law_whole) l8 c8 k8
  have b8 := F8.binds (ps := ["_law_thing", "_law_low", "_law_high"]) fun _ _ _ _ _ _ us hl => match us, hl with | [_, _, _], _ => rfl
  have F9 := fun_mk (st := s__law_is_net) l9 c9 k9
  have b9 := F9.binds (ps := ["_law_thing"]) fun _ _ _ _ _ _ us hl => match us, hl with | [_], _ => rfl
  have F10 := fun_mk (st := s__law_bent) l10 c10 k10
  have b10 := F10.binds (ps := ["_law_script", "_law_town", "_law_thing"]) fun _ _ _ _ _ _ us hl => match us, hl with | [_, _, _], _ => rfl
  have F11 := fun_mk (st := s_law) l11 c11 k11
  have b11 := F11.binds (ps := ["_law_script"]) fun _ _ _ _ _ _ us hl => match us, hl with | [_], _ => rfl
  have C : Cx1 K mg ⟨f0, _, f1, _, f2, _, f3, _, f4, _, f5, _, f6, _, f7, _, f8, _, f9, _, f10, _, fa, _⟩ := ⟨F0, b0, PySem.W.mg_of X G a0, F1, b1, PySem.W.mg_of X G a1, F2, b2, PySem.W.mg_of X G a2, F3, b3, PySem.W.mg_of X G a3, F4, b4, PySem.W.mg_of X G a4, F5, b5, PySem.W.mg_of X G a5, F6, b6, PySem.W.mg_of X G a6, F7, b7, PySem.W.mg_of X G a7, F8, b8, PySem.W.mg_of X G a8, F9, b9, PySem.W.mg_of X G a9, F10, b10, PySem.W.mg_of X G a10, F11, b11, PySem.W.mg_of X G a11⟩
  have T : Tx mg := ⟨PySem.W.mg_none_of X G z0, PySem.W.mg_none_of X G z1, PySem.W.mg_none_of X G z2, PySem.W.mg_none_of X G z3, PySem.W.mg_none_of X G z4, PySem.W.mg_none_of X G z5, PySem.W.mg_none_of X G z6, PySem.W.mg_none_of X G z7, PySem.W.mg_none_of X G z8, PySem.W.mg_none_of X G z9, PySem.W.mg_none_of X G z10, ⟨_, PySem.W.mg_of X G m0⟩, ⟨_, PySem.W.mg_of X G m1⟩⟩
  exact ⟨_, fun s v => .of_eq rfl, fun base _ _ => ok_law C T⟩
end L_k01

open PySem PySem.W PyProof.Rows
set_option maxHeartbeats 0 in
theorem PySem.Challenge.cw_probeties_k01_whole_things_as_nets_holds : PySem.Challenge.rw_probeties_k01_whole_things_as_nets.Holds := by
  w_on; o_law; k_head; (case hw => w_witness2)
  k_fill
  refine L2.walk_of (l := PySem.Challenge.rw_probeties_k01_whole_things_as_nets) (n := 63) (k := 43) (x := "_law_script") (CX := fun _ => L2.CX0) (sp := fun w => DL.spF _ 1 L_k01.g_law) rfl (by decide) rfl ⟨rfl, by decide, by decide⟩ (fun w h Y => PySem.W.kIn_of Y) ?F (fun _ _ a ns hl _ hS => DL.law_end (L_k01.law_true ns hl) hS) (fun _ _ _ _ _ h => h)
  case F =>
    intro w mg fa h KX G hmg
    refine' L_k01.all_mk KX G hmg ?a0 ?l0 ?c0 ?k0 ?a1 ?l1 ?c1 ?k1 ?a2 ?l2 ?c2 ?k2 ?a3 ?l3 ?c3 ?k3 ?a4 ?l4 ?c4 ?k4 ?a5 ?l5 ?c5 ?k5 ?a6 ?l6 ?c6 ?k6 ?a7 ?l7 ?c7 ?k7 ?a8 ?l8 ?c8 ?k8 ?a9 ?l9 ?c9 ?k9 ?a10 ?l10 ?c10 ?k10 ?a11 ?l11 ?c11 ?k11 ?z0 ?z1 ?z2 ?z3 ?z4 ?z5 ?z6 ?z7 ?z8 ?z9 ?z10 ?m0 ?m1
    (case a0 => k_is)
    (case l0 => k_is)
    (case c0 => k_is)
    (case k0 => k_is)
    (case a1 => k_is)
    (case l1 => k_is)
    (case c1 => k_is)
    (case k1 => k_is)
    (case a2 => k_is)
    (case l2 => k_is)
    (case c2 => k_is)
    (case k2 => k_is)
    (case a3 => k_is)
    (case l3 => k_is)
    (case c3 => k_is)
    (case k3 => k_is)
    (case a4 => k_is)
    (case l4 => k_is)
    (case c4 => k_is)
    (case k4 => k_is)
    (case a5 => k_is)
    (case l5 => k_is)
    (case c5 => k_is)
    (case k5 => k_is)
    (case a6 => k_is)
    (case l6 => k_is)
    (case c6 => k_is)
    (case k6 => k_is)
    (case a7 => k_is)
    (case l7 => k_is)
    (case c7 => k_is)
    (case k7 => k_is)
    (case a8 => k_is)
    (case l8 => k_is)
    (case c8 => k_is)
    (case k8 => k_is)
    (case a9 => k_is)
    (case l9 => k_is)
    (case c9 => k_is)
    (case k9 => k_is)
    (case a10 => k_is)
    (case l10 => k_is)
    (case c10 => k_is)
    (case k10 => k_is)
    (case a11 => k_is)
    (case l11 => k_is)
    (case c11 => k_is)
    (case k11 => k_is)
    (case z0 => k_is)
    (case z1 => k_is)
    (case z2 => k_is)
    (case z3 => k_is)
    (case z4 => k_is)
    (case z5 => k_is)
    (case z6 => k_is)
    (case z7 => k_is)
    (case z8 => k_is)
    (case z9 => k_is)
    (case z10 => k_is)
    (case m0 => k_is)
    (case m1 => k_is)

