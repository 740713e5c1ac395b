import PyProof.Rows.All
import Wide.All
import OpenK.AllK
import Wide.FinOn
import HandS.ForMost
import HandS.ForExc
import HandS.IsInst
import HandS.Deep
import HandS.Walk
import HandS.Zip
import HandS.SortOrd
import HandS.TupSets
import HandS.TupAny
import HandS.TupLe
import HandS.TupMul
import HandS.Flow
import HandS.Strs
import HandS.Conv
import HandS.Style
import KE.SortData
import HandS.More
import HandS.TupLen
import HandS.SetFor
import KE.GoesEnum
import HandS.WordsExc
import HandS.TryOnly
import HandS.ExcIs
import KE.DataAny
import HandS.Iter
import KE.DataCmp
import KE.KDictPairs
import PyProof.SumAny
import PySem.Challenge.RW_probeties_k37_whole_things_bent
set_option Elab.async false
set_option linter.all false
set_option maxRecDepth 100000
/-! DL: a layer of plain data over HandS. A def's body is read as a function of data (SM), its heap is hidden. -/
namespace DL
open PySem L2
abbrev D := PyData
/-- a dict's key: an int or a text, or a tuple of such -/
abbrev DK := Sum Key (List Key)
/-- a slot: a datum that no one changes; an own list; an own dict -/
inductive SV where
  | d (x : D)
  | l (b : Bool) (xs : List D)
  | m (b t : Bool) (kvs : List (DK × D))
def SV.own : SV → Bool
  | .d _ => false
  | _ => true
abbrev Rho := List (Option SV)
def SubH (F H : Hp) : Prop := ∀ a o, F a = some o → H a = some o
theorem SubH.refl (F : Hp) : SubH F F := fun _ _ h => h
theorem SubH.trans {F G H : Hp} (a : SubH F G) (b : SubH G H) : SubH F H := fun x o h => b x o (a x o h)
theorem SubH.new {H : Hp} {p : Addr} {o : HO} (h : H p = none) : SubH H (upd H p o) := fun a u e => by
  rw [upd_ne (ne_of_none e h)]; exact e
theorem SubH.none {F H : Hp} (e : SubH F H) {p : Addr} (h : H p = none) : F p = none := by
  cases q : F p with
  | none => rfl
  | some o => rw [e p o q] at h; cases h
theorem SubH.rd {F H : Hp} (e : SubH F H) {a : Addr} {u : HO} (h : Rd F a u) : Rd H a u := by
  rcases h with h | ⟨o, h⟩
  · exact .inl (e _ _ h)
  · exact .inr ⟨o, e _ _ h⟩
theorem SubH.sqt {K : PySem.W.Frag} {F H : Hp} (e : SubH F H) {a : Addr} {xs : List V} (h : SqT K F a xs) : SqT K H a xs := by
  rcases h with h | h
  · exact .inl (e.rd h)
  · exact .inr h
theorem SubH.sql {K : PySem.W.Frag} {F H : Hp} (e : SubH F H) {a : Addr} {xs : List V} (h : SqL K F a xs) : SqL K H a xs := by
  rcases h with h | h
  · exact .inl (e.rd h)
  · exact .inr h
/-! ### data in the heap: what is flat by itself, rows by what stands at their place (a tuple as such) -/
/-- a tuple of flat things (which may be a dict's key) stands as such; any other one with its object, which has no attributes of its own -/
def noRef : V → Bool
  | .ref _ => false
  | _ => true
def tupHO (ob : Obj) (vs : List V) : HO := if vs.all noRef = true then .tup vs else .frz ob (.tup vs)
theorem tupHO_cases (ob : Obj) (vs : List V) : tupHO ob vs = .tup vs ∨ tupHO ob vs = .frz ob (.tup vs) := by
  unfold tupHO; split
  · exact .inl rfl
  · exact .inr rfl
theorem tupHO_flat {ob : Obj} {vs : List V} (h : vs.all noRef = true) : tupHO ob vs = .tup vs := if_pos h
def TupAt (H : Hp) (p : Addr) (vs : List V) : Prop := ∃ ob : Obj, ob.dict = none ∧ H p = some (tupHO ob vs)
/-- the value that a flat datum is -/
def scal : D → Option V
  | .none => some .non
  | .bool b => some (.bl b)
  | .int i => some (.int i)
  | .str x => some (.str x)
  | _ => none
inductive Dp (K : PySem.W.Frag) (H : Hp) : V → D → Prop
  | flat {d : D} {v : V} : scal d = some v → Dp K H v d
  | lst {p : Addr} {vs : List V} {row : List D} (at_ : SqL K H p vs) (each : Paired (Dp K H) vs row) : Dp K H (.ref p) (.list row)
  | tup {p : Addr} {vs : List V} {row : List D} (at_ : TupAt H p vs) (each : Paired (Dp K H) vs row) : Dp K H (.ref p) (.tuple row)
abbrev DpAll (K : PySem.W.Frag) (H : Hp) (vs : List V) (row : List D) : Prop := Paired (Dp K H) vs row
section
variable {K : PySem.W.Frag} {F G H : Hp}
theorem Dp.non : Dp K H .non .none := .flat rfl
theorem Dp.bl (b : Bool) : Dp K H (.bl b) (.bool b) := .flat rfl
theorem Dp.int (i : Int) : Dp K H (.int i) (.int i) := .flat rfl
theorem Dp.str (x : Str) : Dp K H (.str x) (.str x) := .flat rfl
theorem sqt_of {a : Addr} {vs : List V} (h : TupAt F a vs) : SqT K F a vs := by
  obtain ⟨ob, _, e⟩ := h
  rcases tupHO_cases ob vs with q | q <;> rw [q] at e
  · exact .inl (.inl e)
  · exact .inl (.inr ⟨ob, e⟩)
theorem TupAt.mono {a : Addr} {vs : List V} (h : TupAt F a vs) (e : SubH F H) : TupAt H a vs := let ⟨ob, d, q⟩ := h; ⟨ob, d, e _ _ q⟩
/-- by the datum -/
theorem Dp.inv : ∀ {d : D} {v : V}, Dp K H v d → match d with
    | .none => v = .non
    | .bool b => v = .bl b
    | .int i => v = .int i
    | .str x => v = .str x
    | .list row => ∃ p vs, v = .ref p ∧ SqL K H p vs ∧ DpAll K H vs row
    | .tuple row => ∃ p vs, v = .ref p ∧ TupAt H p vs ∧ DpAll K H vs row
    | .dict _ => False
  | _, _, .lst a e => ⟨_, _, rfl, a, e⟩
  | _, _, .tup a e => ⟨_, _, rfl, a, e⟩
  | .none, _, .flat h => (Option.some.inj h).symm
  | .bool _, _, .flat h => (Option.some.inj h).symm
  | .int _, _, .flat h => (Option.some.inj h).symm
  | .str _, _, .flat h => (Option.some.inj h).symm
  | .list _, _, .flat h => nomatch h
  | .tuple _, _, .flat h => nomatch h
  | .dict _, _, .flat h => nomatch h
mutual
theorem dp_old' : ∀ (d : D) (v : V), Dp K F v d → L2.Dp K F v d
  | .none, _, h => by cases h.inv; exact .non
  | .bool b, _, h => by cases h.inv; exact .bl b
  | .int i, _, h => by cases h.inv; exact .int i
  | .str x, _, h => by cases h.inv; exact .str x
  | .list row, _, h => by obtain ⟨p, vs, rfl, a, e⟩ := h.inv; exact .lst a (dpa_old' row vs e)
  | .tuple row, _, h => by obtain ⟨p, vs, rfl, a, e⟩ := h.inv; exact .tup (sqt_of a) (dpa_old' row vs e)
  | .dict _, _, h => h.inv.elim
theorem dpa_old' : ∀ (row : List D) (vs : List V), DpAll K F vs row → L2.DpAll K F vs row
  | [], [], _ => .nil
  | d :: row, v :: vs, h => by cases h with | cons x t => exact .cons (dp_old' d v x) (dpa_old' row vs t)
  | [], _ :: _, h => nomatch h
  | _ :: _, [], h => nomatch h
end
mutual
theorem dp_mono' (e : SubH F H) : ∀ (d : D) (v : V), Dp K F v d → Dp K H v d
  | .none, _, h => by cases h.inv; exact .non
  | .bool b, _, h => by cases h.inv; exact .bl b
  | .int i, _, h => by cases h.inv; exact .int i
  | .str x, _, h => by cases h.inv; exact .str x
  | .list row, _, h => by obtain ⟨p, vs, rfl, a, t⟩ := h.inv; exact .lst (e.sql a) (dpa_mono' e row vs t)
  | .tuple row, _, h => by obtain ⟨p, vs, rfl, a, t⟩ := h.inv; exact .tup (a.mono e) (dpa_mono' e row vs t)
  | .dict _, _, h => h.inv.elim
theorem dpa_mono' (e : SubH F H) : ∀ (row : List D) (vs : List V), DpAll K F vs row → DpAll K H vs row
  | [], [], _ => .nil
  | d :: row, v :: vs, h => by cases h with | cons x t => exact .cons (dp_mono' e d v x) (dpa_mono' e row vs t)
  | [], _ :: _, h => nomatch h
  | _ :: _, [], h => nomatch h
end
theorem dp_old {d : D} {v : V} (h : Dp K F v d) : L2.Dp K F v d := dp_old' d v h
theorem dp_mono (e : SubH F H) {d : D} {v : V} (h : Dp K F v d) : Dp K H v d := dp_mono' e d v h
theorem dpa_mono (e : SubH F H) {row : List D} {vs : List V} (h : DpAll K F vs row) : DpAll K H vs row := dpa_mono' e row vs h
theorem dpa_len : ∀ {vs : List V} {ds : List D}, DpAll K F vs ds → vs.length = ds.length
  | _, _, .nil => rfl
  | _, _, .cons _ h => by simp [dpa_len h]
theorem dpa_get : ∀ {vs : List V} {ds : List D} {i : Nat} {d : D}, DpAll K F vs ds → ds[i]? = some d → ∃ v, vs[i]? = some v ∧ Dp K F v d
  | _, _, _, _, .nil, e => by simp at e
  | _, _, 0, _, .cons h _, e => by simp at e; subst e; exact ⟨_, rfl, h⟩
  | _, _, i + 1, _, .cons _ t, e => by simp at e; obtain ⟨v, a, b⟩ := dpa_get (i := i) t e; exact ⟨v, by simpa using a, b⟩
theorem dpa_at : ∀ {vs : List V} {ds : List D} {i : Nat} {v : V}, DpAll K F vs ds → vs[i]? = some v → ∃ d, ds[i]? = some d ∧ Dp K F v d
  | _, _, _, _, .nil, e => by simp at e
  | _, _, 0, _, .cons h _, e => by simp at e; subst e; exact ⟨_, rfl, h⟩
  | _, _, i + 1, _, .cons _ t, e => by simp at e; obtain ⟨v, a, b⟩ := dpa_at (i := i) t e; exact ⟨v, by simpa using a, b⟩
theorem dpa_app : ∀ {vs ws : List V} {ds es : List D}, DpAll K F vs ds → DpAll K F ws es → DpAll K F (vs ++ ws) (ds ++ es)
  | _, _, _, _, .nil, h => h
  | _, _, _, _, .cons a t, h => .cons a (dpa_app t h)
theorem dpa_take : ∀ {vs : List V} {ds : List D} (n : Nat), DpAll K F vs ds → DpAll K F (vs.take n) (ds.take n)
  | _, _, 0, _ => by simpa using .nil
  | _, _, _ + 1, .nil => .nil
  | _, _, n + 1, .cons a t => .cons a (dpa_take n t)
theorem dpa_drop : ∀ {vs : List V} {ds : List D} (n : Nat), DpAll K F vs ds → DpAll K F (vs.drop n) (ds.drop n)
  | _, _, 0, h => by simpa using h
  | _, _, _ + 1, .nil => .nil
  | _, _, n + 1, .cons a t => by simpa using dpa_drop n t
theorem dpa_rev : ∀ {vs : List V} {ds : List D}, DpAll K F vs ds → DpAll K F vs.reverse ds.reverse
  | _, _, .nil => .nil
  | _, _, .cons a t => by simpa using dpa_app (dpa_rev t) (.cons a .nil)
theorem dpa_one {v : V} {d : D} (h : Dp K F v d) : DpAll K F [v] [d] := .cons h .nil
/-- from items by place -/
theorem dpa_of : ∀ {vs : List V} {ds : List D}, vs.length = ds.length → (∀ (i : Nat) (v : V) (d : D), vs[i]? = some v → ds[i]? = some d → Dp K F v d) → DpAll K F vs ds
  | [], [], _, _ => .nil
  | [], _ :: _, h, _ => by simp at h
  | _ :: _, [], h, _ => by simp at h
  | v :: vs, d :: ds, h, k => .cons (k 0 v d rfl rfl) (dpa_of (by simpa using h) fun i a b x y => k (i + 1) a b (by simpa using x) (by simpa using y))
theorem dpa_ints : ∀ {ns : List Int} {vs : List V}, DpAll K F vs (ns.map PyData.int) → vs = ns.map V.int
  | [], [], _ => rfl
  | n :: ns, v :: vs, h => by
    cases h with
    | cons x t => cases x.inv; rw [dpa_ints t]; rfl
  | [], _ :: _, h => nomatch h
  | _ :: _, [], h => nomatch h
theorem dpa_ints_mk : ∀ (ns : List Int), DpAll K F (ns.map V.int) (ns.map PyData.int)
  | [] => .nil
  | n :: ns => .cons (.int n) (dpa_ints_mk ns)
end
/-! ### the state of a frame -/
structure Fx where
  H0 : Hp
  F0 : Hp
  rf : Option Addr
def keyD : Key → D
  | .inl i => .int i
  | .inr s => .str s
/-- an own dict -/
def DicOk (K : PySem.W.Frag) (F H : Hp) (a : Addr) (t : Bool) (kvs : List (DK × D)) : Prop :=
  (t = false ∧ ∃ ks : List (Key × V), H a = some (.dK ks) ∧ Paired (fun (p : Key × V) (q : DK × D) => q.1 = .inl p.1 ∧ Dp K F p.2 q.2) ks kvs) ∨
  (t = true ∧ ∃ ks : List (List Key × V), H a = some (.dT ks) ∧ Paired (fun (p : List Key × V) (q : DK × D) => q.1 = .inr p.1 ∧ Dp K F p.2 q.2) ks kvs)
def RS (K : PySem.W.Frag) (z : Fx) (F H : Hp) (v : V) : SV → Prop
  | .d x => Dp K F v x
  | .l b xs => ∃ a vs, v = .ref a ∧ H a = some (.lst vs) ∧ F a = none ∧ z.H0 a = none ∧ DpAll K F vs xs ∧ (b = true → z.rf = some a)
  | .m b t kvs => ∃ a, v = .ref a ∧ F a = none ∧ z.H0 a = none ∧ DicOk K F H a t kvs ∧ (b = true → z.rf = some a)
def OwnAt (r : Rho) (s : St) (b : Addr) : Prop := ∃ (i : Nat) (sv : SV), r[i]? = some (some sv) ∧ sv.own = true ∧ s[i]? = some (some (V.ref b))
theorem tupHO_lst {ob : Obj} {vs ws : List V} (h : some (HO.lst vs) = some (tupHO ob ws)) : False := by
  rcases tupHO_cases ob ws with q | q <;> rw [q] at h <;> cases h
/-- a tuple never changes -/
def IsTu (o : HO) : Prop := ∃ ob vs, o = tupHO ob vs
theorem not_tu {vs : List V} : ¬ IsTu (.lst vs) := fun ⟨_, _, q⟩ => tupHO_lst (congrArg some q)
structure Rep (K : PySem.W.Frag) (z : Fx) (r : Rho) (s : St) (H F : Hp) : Prop where
  fh : SubH F H
  old : SubH z.H0 H
  f0 : SubH z.F0 F
  nw : ∀ b o, F b = some o → z.F0 b = some o ∨ z.H0 b = none ∨ IsTu o
  slots : ∀ (i : Nat) (sv : SV), r[i]? = some (some sv) → ∃ v, s[i]? = some (some v) ∧ RS K z F H v sv
  apart : ∀ (i j : Nat) (x y : SV) (a : Addr), r[i]? = some (some x) → r[j]? = some (some y) → x.own = true → y.own = true → s[i]? = some (some (V.ref a)) → s[j]? = some (some (V.ref a)) → i = j
  len : r.length = s.length
/-- new objects are laid, all else is as it was; F grows by new ones -/
structure Grow (F H F' H' : Hp) : Prop where
  ff : SubH F F'
  hh : SubH H H'
  fh : SubH F' H'
  nw : ∀ b o, F' b = some o → F b = some o ∨ H b = none ∨ IsTu o
theorem Grow.refl {F H : Hp} (h : SubH F H) : Grow F H F H := ⟨.refl _, .refl _, h, fun _ _ h => .inl h⟩
theorem Grow.trans {F H F1 H1 F2 H2 : Hp} (a : Grow F H F1 H1) (b : Grow F1 H1 F2 H2) : Grow F H F2 H2 :=
  ⟨a.ff.trans b.ff, a.hh.trans b.hh, b.fh, fun x o h => by
    rcases b.nw x o h with h | h | h
    · exact a.nw x o h
    · exact .inr (.inl (a.hh.none h))
    · exact .inr (.inr h)⟩
theorem Grow.new {F H : Hp} {p : Addr} {o : HO} (h : SubH F H) (hp : H p = none) : Grow F H (upd F p o) (upd H p o) :=
  ⟨.new (h.none hp), .new hp, fun a u e => by
    by_cases q : a = p
    · subst q; rw [upd_same] at e ⊢; exact e
    · rw [upd_ne q] at e ⊢; exact h a u e, fun a u e => by
    by_cases q : a = p
    · subst q; exact .inr (.inl hp)
    · rw [upd_ne q] at e; exact .inl e⟩
/-- laid, but not frozen -/
theorem Grow.loose {F H : Hp} {p : Addr} {o : HO} (h : SubH F H) (hp : H p = none) : Grow F H F (upd H p o) :=
  ⟨.refl _, .new hp, h.trans (.new hp), fun _ _ e => .inl e⟩
section
variable {K : PySem.W.Frag} {z : Fx} {r : Rho} {s : St} {H F H' F' : Hp}
theorem DicOk.mono {a : Addr} {t : Bool} {kvs : List (DK × D)} (h : DicOk K F H a t kvs) (e : SubH F F') (hh : ∀ o, H a = some o → H' a = some o) : DicOk K F' H' a t kvs := by
  rcases h with ⟨h0, ks, h1, h2⟩ | ⟨h0, ks, h1, h2⟩
  · exact .inl ⟨h0, ks, hh _ h1, Paired.mapP h2 fun _ _ q => ⟨q.1, dp_mono e q.2⟩⟩
  · exact .inr ⟨h0, ks, hh _ h1, Paired.mapP h2 fun _ _ q => ⟨q.1, dp_mono e q.2⟩⟩
theorem DicOk.there {a : Addr} {t : Bool} {kvs : List (DK × D)} (h : DicOk K F H a t kvs) : ∃ o, H a = some o := by
  rcases h with ⟨_, ks, h1, _⟩ | ⟨_, ks, h1, _⟩ <;> exact ⟨_, h1⟩
theorem RS.mono {v : V} {sv : SV} (h : RS K z F H v sv) (e : SubH F F') (hh : ∀ a, v = .ref a → sv.own = true → ∀ o, H a = some o → H' a = some o) (hn : ∀ a o, H a = some o → F a = none → z.H0 a = none → sv.own = true → v = .ref a → F' a = none) : RS K z F' H' v sv := by
  cases sv with
  | d x => exact dp_mono e h
  | l b xs =>
    obtain ⟨a, vs, rfl, h1, h2, h3, h4, h5⟩ := h
    exact ⟨a, vs, rfl, hh a rfl rfl _ h1, hn a _ h1 h2 h3 rfl rfl, h3, dpa_mono e h4, h5⟩
  | m b t kvs =>
    obtain ⟨a, rfl, h2, h3, h4, h5⟩ := h
    obtain ⟨o, ho⟩ := h4.there
    exact ⟨a, rfl, hn a o ho h2 h3 rfl rfl, h3, h4.mono e (hh a rfl rfl), h5⟩
/-- what is owned is no tuple -/
theorem RS.noTup {v : V} {sv : SV} {a : Addr} (h : RS K z F H v sv) (hown : sv.own = true) (e : v = .ref a) : ¬ ∃ ob vs, H a = some (tupHO ob vs) := by
  rintro ⟨ob, vs, hv⟩
  have hv : H a = some (.tup vs) ∨ H a = some (.frz ob (.tup vs)) := by rcases tupHO_cases ob vs with q | q <;> rw [q] at hv <;> simp [hv]
  cases sv with
  | d x => cases hown
  | l b xs => obtain ⟨a', ws, e1, h1, _⟩ := h; rw [e1] at e; cases e; simp [h1] at hv
  | m b t kvs =>
    obtain ⟨a', e1, _, _, h1, _⟩ := h
    rw [e1] at e; cases e
    rcases h1 with ⟨_, ks, h1, _⟩ | ⟨_, ks, h1, _⟩ <;> simp [h1] at hv
theorem Rep.grow (R : Rep K z r s H F) (G : Grow F H F' H') : Rep K z r s H' F' where
  fh := G.fh
  old := R.old.trans G.hh
  f0 := R.f0.trans G.ff
  nw := fun b o h => by
    rcases G.nw b o h with h | h | h
    · exact R.nw b o h
    · exact .inr (.inl (R.old.none h))
    · exact .inr (.inr h)
  slots := fun i sv h => by
    obtain ⟨v, h1, h2⟩ := R.slots i sv h
    refine ⟨v, h1, h2.mono G.ff (fun a _ _ o ho => G.hh a o ho) fun a o ho hf _ hown he => ?_⟩
    cases q : F' a with
    | none => rfl
    | some u =>
      rcases G.nw a u q with h | h | ⟨ob, vs, rfl⟩
      · rw [hf] at h; cases h
      · rw [ho] at h; cases h
      · have q2 := G.fh a _ q
        rw [G.hh a o ho] at q2; cases q2
        exact absurd ⟨_, _, ho⟩ (h2.noTup hown he)
  apart := R.apart
  len := R.len
theorem Rep.own_facts (R : Rep K z r s H F) {b : Addr} (h : OwnAt r s b) : (∃ o, H b = some o) ∧ F b = none ∧ z.H0 b = none := by
  obtain ⟨i, sv, h1, h2, h3⟩ := h
  obtain ⟨v, h4, h5⟩ := R.slots i sv h1
  rw [h3] at h4; cases h4
  cases sv with
  | d x => cases h2
  | l b xs => obtain ⟨a, vs, e, q1, q2, q3, _⟩ := h5; cases e; exact ⟨⟨_, q1⟩, q2, q3⟩
  | m b t kvs => obtain ⟨a, e, q2, q3, q4, _⟩ := h5; cases e; exact ⟨q4.there, q2, q3⟩
/-- the heap without what the frame owns -/
noncomputable def bare (r : Rho) (s : St) (H : Hp) : Hp := fun b => by
  classical exact if OwnAt r s b then none else H b
theorem bare_own {b : Addr} (h : OwnAt r s b) : bare r s H b = none := by unfold bare; rw [if_pos h]
theorem bare_not {b : Addr} (h : ¬ OwnAt r s b) : bare r s H b = H b := by unfold bare; rw [if_neg h]
theorem bare_sub : SubH (bare r s H) H := fun a o h => by
  by_cases q : OwnAt r s a
  · rw [bare_own q] at h; cases h
  · rw [bare_not q] at h; exact h
theorem Rep.base (R : Rep K z r s H F) : Rep K ⟨bare r s H, F, z.rf⟩ r s H F where
  fh := R.fh
  old := bare_sub
  f0 := .refl _
  nw := fun b o h => .inl h
  slots := fun i sv h => by
    obtain ⟨v, h1, h2⟩ := R.slots i sv h
    refine ⟨v, h1, ?_⟩
    cases sv with
    | d x => exact h2
    | l b xs =>
      obtain ⟨a, vs, rfl, q1, q2, q3, q4⟩ := h2
      exact ⟨a, vs, rfl, q1, q2, bare_own ⟨i, _, h, rfl, h1⟩, q4⟩
    | m b t kvs =>
      obtain ⟨a, rfl, q2, q3, q4⟩ := h2
      exact ⟨a, rfl, q2, bare_own ⟨i, _, h, rfl, h1⟩, q4⟩
  apart := R.apart
  len := R.len
theorem Rep.back {r' : Rho} {s' : St} (R : Rep K z r s H F) (R' : Rep K ⟨bare r s H, F, z.rf⟩ r' s' H' F') : Rep K z r' s' H' F' := by
  have key : ∀ b, bare r s H b = none → z.H0 b = none := fun b h => by
    by_cases q : OwnAt r s b
    · exact (R.own_facts q).2.2
    · rw [bare_not q] at h; exact R.old.none h
  refine ⟨R'.fh, fun b o h => ?_, R.f0.trans R'.f0, fun b o h => ?_, fun i sv h => ?_, R'.apart, R'.len⟩
  · refine R'.old b o ?_
    show bare r s H b = some o
    rw [bare_not, R.old b o h]
    intro q
    rw [(R.own_facts q).2.2] at h; cases h
  · rcases R'.nw b o h with h | h | h
    · exact R.nw b o h
    · exact .inr (.inl (key b h))
    · exact .inr (.inr h)
  · obtain ⟨v, h1, h2⟩ := R'.slots i sv h
    refine ⟨v, h1, ?_⟩
    cases sv with
    | d x => exact h2
    | l b xs =>
      obtain ⟨a, vs, rfl, q1, q2, q3, q4⟩ := h2
      exact ⟨a, vs, rfl, q1, q2, key a q3, q4⟩
    | m b t kvs =>
      obtain ⟨a, rfl, q2, q3, q4⟩ := h2
      exact ⟨a, rfl, q2, key a q3, q4⟩
theorem get_set_cases {α : Type} {l : List α} {i j : Nat} {x y : α} (h : (l.set i x)[j]? = some y) : (j = i ∧ y = x) ∨ (j ≠ i ∧ l[j]? = some y) := by
  by_cases q : j = i
  · subst q
    by_cases hl : j < l.length
    · rw [List.getElem?_set_self hl] at h; exact .inl ⟨rfl, (Option.some.inj h).symm⟩
    · rw [List.getElem?_eq_none (by simpa using hl)] at h; cases h
  · rw [List.getElem?_set_ne (Ne.symm q)] at h; exact .inr ⟨q, h⟩
/-- a slot takes a datum -/
theorem Rep.put (R : Rep K z r s H F) {i : Nat} {v : V} {x : D} (h : Dp K F v x) : Rep K z (r.set i (some (.d x))) (s.set i (some v)) H F where
  fh := R.fh
  old := R.old
  f0 := R.f0
  nw := R.nw
  slots := fun j sv e => by
    have hj : j < r.length := by
      have q : j < (r.set i (some (SV.d x))).length := (List.getElem?_eq_some_iff.mp e).1
      simpa using q
    rcases get_set_cases e with ⟨rfl, e2⟩ | ⟨ne, e⟩
    · cases e2
      exact ⟨v, by rw [List.getElem?_set_self (by rw [← R.len]; exact hj)], h⟩
    · obtain ⟨w, h1, h2⟩ := R.slots j sv e
      exact ⟨w, by rw [List.getElem?_set_ne (Ne.symm ne)]; exact h1, h2⟩
  apart := fun j k x y a e1 e2 o1 o2 s1 s2 => by
    rcases get_set_cases e1 with ⟨rfl, e⟩ | ⟨n1, e1⟩
    · cases e; cases o1
    · rcases get_set_cases e2 with ⟨rfl, e⟩ | ⟨n2, e2⟩
      · cases e; cases o2
      · rw [List.getElem?_set_ne (Ne.symm n1)] at s1
        rw [List.getElem?_set_ne (Ne.symm n2)] at s2
        exact R.apart j k x y a e1 e2 o1 o2 s1 s2
  len := by simpa using R.len
end
end DL
namespace DL
open PySem L2
abbrev EM := Rho → Option (D × Rho)
abbrev TM := Rho → Option (Bool × Rho)
abbrev AM := Rho → Option (List D × Rho)
/-- a value seen: a datum, or an own list -/
def Dv (K : PySem.W.Frag) (F H : Hp) (v : V) (d : D) : Prop := Dp K F v d ∨ ∃ a vs xs, v = .ref a ∧ d = .list xs ∧ H a = some (.lst vs) ∧ DpAll K F vs xs
def liftE (K : PySem.W.Frag) (f : EM) : TE := fun s H Q => ∃ z r F d r', Rep K z r s H F ∧ f r = some (d, r') ∧ ∀ v H' F', Rep K z r' s H' F' → SubH F F' → Dp K F' v d → Q v H'
def liftW (K : PySem.W.Frag) (f : EM) : TE := fun s H Q => ∃ z r F d r', Rep K z r s H F ∧ f r = some (d, r') ∧ ∀ v H' F', Rep K z r' s H' F' → SubH F F' → Dv K F' H' v d → Q v H'
def liftT (K : PySem.W.Frag) (f : TM) : TT := fun s H Q => ∃ z r F d r', Rep K z r s H F ∧ f r = some (d, r') ∧ ∀ H' F', Rep K z r' s H' F' → SubH F F' → Q d H'
def liftA (K : PySem.W.Frag) (f : AM) : TA := fun s H Q => ∃ z r F d r', Rep K z r s H F ∧ f r = some (d, r') ∧ ∀ v H' F', Rep K z r' s H' F' → SubH F F' → DpAll K F' v d → Q v H'
/-- a new list -/
def liftL (K : PySem.W.Frag) (f : AM) : TE := fun s H Q => ∃ z r F d r', Rep K z r s H F ∧ f r = some (d, r') ∧
  ∀ a vs H' F', Rep K z r' s H' F' → SubH F F' → H' a = some (.lst vs) → F' a = none → z.H0 a = none → ¬ OwnAt r' s a → DpAll K F' vs d → Q (.ref a) H'
structure SE (X : Cx) (e : Expr) (f : EM) : Prop where
  pe : PE X e (liftE X.K f)
structure SW (X : Cx) (e : Expr) (f : EM) : Prop where
  pe : PE X e (liftW X.K f)
structure SL (X : Cx) (e : Expr) (f : AM) : Prop where
  pe : PE X e (liftL X.K f)
structure ST (X : Cx) (e : Expr) (f : TM) : Prop where
  pt : PT X e (liftT X.K f)
structure SA (X : Cx) (es : List Expr) (f : AM) : Prop where
  pa : PA X es (liftA X.K f)
  len : ∀ r ds r', f r = some (ds, r') → ds.length = es.length
theorem pe_imp {X : Cx} {e : Expr} {t t' : TE} (h : PE X e t) (k : ∀ s H Q, t' s H Q → t s H Q) : PE X e t' := ⟨fun pins s σ H Q I hq => h.run pins s σ H Q I (k _ _ _ hq)⟩
theorem pt_imp {X : Cx} {e : Expr} {t t' : TT} (h : PT X e t) (k : ∀ s H Q, t' s H Q → t s H Q) : PT X e t' := ⟨fun pins s σ H Q I hq => h.run pins s σ H Q I (k _ _ _ hq)⟩
theorem pa_imp {X : Cx} {e : List Expr} {t t' : TA} (h : PA X e t) (k : ∀ s H Q, t' s H Q → t s H Q) : PA X e t' := ⟨fun pos pins s σ H Q I hq => h.run pos pins s σ H Q I (k _ _ _ hq)⟩
section
variable {X : Cx} {a b c e : Expr} {es : List Expr} {f g : EM} {pos : Pos}
theorem SE.sw (h : SE X e f) : SW X e f := ⟨pe_imp h.pe fun s H Q ⟨z, r, F, d, r', R, e, k⟩ => ⟨z, r, F, d, r', R, e, fun v H' F' R' sb q => k v H' F' R' sb (.inl q)⟩⟩
/-- a frame's loose list is frozen -/
theorem Rep.freeze1 {K : PySem.W.Frag} {z : Fx} {r : Rho} {s : St} {H F : Hp} (R : Rep K z r s H F) {p : Addr} {o : HO} (hp : H p = some o) (hf : F p = none) (h0 : z.H0 p = none) (ho : ¬ OwnAt r s p) : Rep K z r s H (upd F p o) where
  fh := fun b u q => by
    by_cases e : b = p
    · subst e; rw [upd_same] at q; rw [hp]; exact q
    · rw [upd_ne e] at q; exact R.fh b u q
  old := R.old
  f0 := R.f0.trans (.new hf)
  nw := fun b u q => by
    by_cases e : b = p
    · subst e; exact .inr (.inl h0)
    · rw [upd_ne e] at q; exact R.nw b u q
  slots := fun i sv q => by
    obtain ⟨v, h1, h2⟩ := R.slots i sv q
    refine ⟨v, h1, h2.mono (.new hf) (fun _ _ _ _ h => h) fun a o ho' hf' _ hown e => ?_⟩
    have : a ≠ p := fun z => ho ⟨i, sv, q, hown, by rw [h1, e, z]⟩
    rw [upd_ne this]; exact hf'
  apart := R.apart
  len := R.len
def ofL (f : AM) : EM := fun r => (f r).map fun p => (.list p.1, p.2)
theorem SL.se {f : AM} (h : SL X e f) : SE X e (ofL f) := ⟨pe_imp h.pe fun s H Q ⟨z, r, F, d, r', R, e, k⟩ => by
  unfold ofL at e
  cases q : f r with
  | none => rw [q] at e; cases e
  | some p =>
    obtain ⟨ds, r1⟩ := p
    rw [q] at e; cases e
    refine ⟨z, r, F, ds, r1, R, q, fun a vs H' F' R' sb h1 h2 h3 h4 h5 => ?_⟩
    have G := R'.freeze1 h1 h2 h3 h4
    exact k _ _ _ G (sb.trans (.new h2)) (.lst (.inl (.inl upd_same)) (dpa_mono (.new h2) h5))⟩
/-! ### names, constants -/
def varM (i : Nat) : EM := fun r => match r[i]? with
  | some (some (.d x)) => some (x, r)
  | _ => none
def ownM (i : Nat) : EM := fun r => match r[i]? with
  | some (some (.l _ xs)) => some (.list xs, r)
  | _ => none
def cM (d : D) : EM := fun r => some (d, r)
theorem varM_some {i : Nat} {r r' : Rho} {d : D} (h : varM i r = some (d, r')) : r[i]? = some (some (.d d)) ∧ r' = r := by
  unfold varM at h
  split at h
  · rename_i x e; cases h; exact ⟨e, rfl⟩
  · cases h
theorem ownM_some {i : Nat} {r r' : Rho} {d : D} (h : ownM i r = some (d, r')) : ∃ b xs, r[i]? = some (some (.l b xs)) ∧ d = .list xs ∧ r' = r := by
  unfold ownM at h
  split at h
  · rename_i x e; cases h; exact ⟨_, _, e, rfl, rfl⟩
  · cases h
theorem se_var (i : Nat) {x : Str} (hN : X.N[i]? = some x := by rfl) (hv : Vis X.env.scope x := by first | exact Or.inl rfl | exact Or.inr (Or.inl rfl) | exact Or.inr (Or.inr rfl)) (hd : (x == ("__debug__" : Str)) = false := by decide)
    (hcd : (x == ("__classdict__" : Str)) = false := by decide) : SE X (.Name x pos) (varM i) :=
  ⟨pe_imp (pe_var hN hv hd hcd) fun s H Q ⟨z, r, F, d, r', R, e, k⟩ => by
    obtain ⟨e1, rfl⟩ := varM_some e
    obtain ⟨v, h1, h2⟩ := R.slots i _ e1
    exact ⟨v, h1, k v H F R (.refl _) h2⟩⟩
theorem sw_own (i : Nat) {x : Str} (hN : X.N[i]? = some x := by rfl) (hv : Vis X.env.scope x := by first | exact Or.inl rfl | exact Or.inr (Or.inl rfl) | exact Or.inr (Or.inr rfl)) (hd : (x == ("__debug__" : Str)) = false := by decide)
    (hcd : (x == ("__classdict__" : Str)) = false := by decide) : SW X (.Name x pos) (ownM i) :=
  ⟨pe_imp (pe_var hN hv hd hcd) fun s H Q ⟨z, r, F, d, r', R, e, k⟩ => by
    obtain ⟨bb, xs, e1, rfl, rfl⟩ := ownM_some e
    obtain ⟨v, h1, a, vs, rfl, h2, h3, h4, h5, h6⟩ := R.slots i _ e1
    exact ⟨_, h1, k _ H F R (.refl _) (.inr ⟨a, vs, xs, rfl, rfl, h2, h5⟩)⟩⟩
theorem se_c {d : D} {v : V} (h : PE X e (tC v)) (hd : ∀ F, Dp X.K F v d) : SE X e (cM d) :=
  ⟨pe_imp h fun s H Q ⟨z, r, F, d, r', R, e, k⟩ => by cases e; exact k v H F R (.refl _) (hd F)⟩
theorem se_int {i j pos} : SE X (.Constant (.int i) j pos) (cM (.int i)) := se_c pe_int fun _ => .int i
theorem se_bl {i j pos} : SE X (.Constant (.bool i) j pos) (cM (.bool i)) := se_c pe_bl fun _ => .bl i
theorem se_non {j pos} : SE X (.Constant .none j pos) (cM .none) := se_c pe_non fun _ => .non
theorem se_globI {x : Str} {i : Int} (hg : Gl X x) (hm : ∃ t, X.mg x = some (.int i t)) (hd : (x == ("__debug__" : Str)) = false := by decide) : SE X (.Name x pos) (cM (.int i)) := by
  obtain ⟨t, hm⟩ := hm
  exact se_c (v := .int i) (pe_glob hg hm ⟨t, rfl⟩ hd) fun _ => .int i
/-! ### two operands -/
/-- an operation on data: what it asks of the heap -/
def liftO (K : PySem.W.Frag) (h : D → D → Option D) : R2 := fun x y H Q => ∃ F d e o, SubH F H ∧ Dv K F H x d ∧ Dv K F H y e ∧ h d e = some o ∧ ∀ v H' F', Grow F H F' H' → Dp K F' v o → Q v H'
def opM (h : D → D → Option D) (f g : EM) : EM := fun r => (f r).bind fun p => (g p.2).bind fun q => (h p.1 q.1).map fun d => (d, q.2)
theorem opM_some {h : D → D → Option D} {f g : EM} {r r' : Rho} {o : D} (q : opM h f g r = some (o, r')) : ∃ x r1 y, f r = some (x, r1) ∧ g r1 = some (y, r') ∧ h x y = some o := by
  unfold opM at q
  cases e1 : f r with
  | none => rw [e1] at q; cases q
  | some p =>
    rw [e1] at q
    simp only [Option.bind_some] at q
    cases e2 : g p.2 with
    | none => rw [e2] at q; cases q
    | some p2 =>
      rw [e2] at q
      simp only [Option.bind_some] at q
      cases e3 : h p.1 p2.1 with
      | none => rw [e3] at q; cases q
      | some d => rw [e3] at q; cases q; exact ⟨p.1, p.2, p2.1, rfl, e2, e3⟩
theorem Dv.mono {K : PySem.W.Frag} {F H F' H' : Hp} {v : V} {d : D} (h : Dv K F H v d) (e : SubH F F') (hh : SubH H H') : Dv K F' H' v d := by
  rcases h with h | ⟨a, vs, xs, rfl, rfl, h1, h2⟩
  · exact .inl (dp_mono e h)
  · exact .inr ⟨a, vs, xs, rfl, rfl, hh _ _ h1, dpa_mono e h2⟩
theorem Dv.dp {K : PySem.W.Frag} {F H : Hp} {v : V} {d : D} (h : Dv K F H v d) (e : SubH F H) : Dp K H v d := by
  rcases h with h | ⟨a, vs, xs, rfl, rfl, h1, h2⟩
  · exact dp_mono e h
  · exact .lst (.inl (.inl h1)) (dpa_mono e h2)
theorem top_op {r2 : R2} {h : D → D → Option D} (hb : SW X b g) (ha : SE X a f) {s : St} {H : Hp} {Q : VK} (q : liftE X.K (opM h f g) s H Q) : tOp (liftO X.K h) (liftE X.K f) (liftW X.K g) s H Q := by
  obtain ⟨z, r, F, d, r', R, e, k⟩ := q
  obtain ⟨x, r1, y, e1, e2, e3⟩ := opM_some e
  refine ⟨z, r, F, x, r1, R, e1, fun v H1 F1 R1 sb1 dx => ⟨z, r1, F1, y, r', R1, e2, fun w H2 F2 R2 sb2 dy => ⟨F2, x, y, d, R2.fh, .inl (dp_mono sb2 dx), dy, e3, fun v' H' F' G dd => ?_⟩⟩⟩
  exact k v' H' F' (R2.grow G) ((sb1.trans sb2).trans G.ff) dd
theorem se_op {op : Operator} {h : D → D → Option D} (ho : OpR X (binaryOp op) (liftO X.K h)) (ha : SE X a f) (hb : SW X b g) : SE X (.BinOp a op b pos) (opM h f g) :=
  ⟨pe_imp (pe_op ho ha.pe hb.pe) fun s H Q q => top_op (r2 := liftO X.K h) hb ha q⟩
theorem se_cmp {op : CmpOp} {h : D → D → Option D} (ho : OpR X (compareOp op) (liftO X.K h)) (ha : SE X a f) (hb : SW X b g) (hm : behindInMarks op b = false := by first | exact nobehind _ (by decide) (by decide) | rfl) : SE X (.Compare a [op] [b] pos) (opM h f g) :=
  ⟨pe_imp (pe_cmpR ho ha.pe hb.pe hm) fun s H Q q => top_op (r2 := liftO X.K h) hb ha q⟩
/-! ### one operand: a built-in -/
def unM (h : D → Option D) (f : EM) : EM := fun r => (f r).bind fun p => (h p.1).map fun d => (d, p.2)
def liftC1 (K : PySem.W.Frag) (h : D → Option D) : List V → Hp → VK → Prop := fun vs H Q => ∃ F x d o, vs = [x] ∧ SubH F H ∧ Dv K F H x d ∧ h d = some o ∧ ∀ v H' F', Grow F H F' H' → Dp K F' v o → Q v H'
theorem unM_some {h : D → Option D} {f : EM} {r r' : Rho} {o : D} (q : unM h f r = some (o, r')) : ∃ x, f r = some (x, r') ∧ h x = some o := by
  unfold unM at q
  simp only [Option.bind_eq_some_iff, Option.map_eq_some_iff] at q
  obtain ⟨⟨x, r1⟩, e1, o', e2, e3⟩ := q
  cases e3; exact ⟨x, e1, e2⟩
theorem se_b1 {id : String} {x : Str} {p : Pos} {h : D → Option D} (hc : CallR X (.builtin id) (liftC1 X.K h)) (hg : Gl X x) (hm : X.mg x = none) (hv : bootBuiltins x = some (.builtin id)) (ha : SW X a f) (hn : x ≠ "__name__" := by decide) (hdb : (x == ("__debug__" : Str)) = false := by decide)
    (he : starEach [a] X.env = [(false, eval a X.env)] := by rfl) : SE X (.Call (.Name x p) [a] [] pos) (unM h f) :=
  ⟨pe_imp (pe_callB hc hg hm hv (pa_cons ha.pe pa_nil he) hn hdb he rfl) fun s H Q ⟨z, r, F, d, r', R, e, k⟩ => by
    obtain ⟨x, e1, e2⟩ := unM_some e
    exact ⟨z, r, F, x, r', R, e1, fun v H' F' R' sb dv => ⟨F', v, x, d, rfl, R'.fh, dv, e2, fun v2 H2 F2 G dd => k v2 H2 F2 (R'.grow G) (sb.trans G.ff) dd⟩⟩⟩
theorem se_t1 {id : String} {x : Str} {p : Pos} {h : D → Option D} (hc : CallR X (.type id) (liftC1 X.K h)) (hg : Gl X x) (hm : X.mg x = none) (hv : bootBuiltins x = some (.type id)) (ha : SW X a f) (hn : x ≠ "__name__" := by decide) (hdb : (x == ("__debug__" : Str)) = false := by decide)
    (he : starEach [a] X.env = [(false, eval a X.env)] := by rfl) : SE X (.Call (.Name x p) [a] [] pos) (unM h f) :=
  ⟨pe_imp (pe_callTy hc hg hm hv (pa_cons ha.pe pa_nil he) hn hdb he rfl) fun s H Q ⟨z, r, F, d, r', R, e, k⟩ => by
    obtain ⟨x, e1, e2⟩ := unM_some e
    exact ⟨z, r, F, x, r', R, e1, fun v H' F' R' sb dv => ⟨F', v, x, d, rfl, R'.fh, dv, e2, fun v2 H2 F2 G dd => k v2 H2 F2 (R'.grow G) (sb.trans G.ff) dd⟩⟩⟩
/-- two arguments -/
def liftC2 (K : PySem.W.Frag) (h : D → D → Option D) : List V → Hp → VK → Prop := fun vs H Q => ∃ x y, vs = [x, y] ∧ liftO K h x y H Q
theorem se_b2 {id : String} {x : Str} {p : Pos} {h : D → D → Option D} (hc : CallR X (.builtin id) (liftC2 X.K h)) (hg : Gl X x) (hm : X.mg x = none) (hv : bootBuiltins x = some (.builtin id)) (ha : SE X a f) (hb : SW X b g) (hn : x ≠ "__name__" := by decide) (hdb : (x == ("__debug__" : Str)) = false := by decide)
    (he : starEach [a, b] X.env = [(false, eval a X.env), (false, eval b X.env)] := by rfl) (he2 : starEach [b] X.env = [(false, eval b X.env)] := by rfl) : SE X (.Call (.Name x p) [a, b] [] pos) (opM h f g) :=
  ⟨pe_imp (pe_callB hc hg hm hv (pa_cons ha.pe (pa_cons hb.pe pa_nil he2) (by rw [he, he2])) hn hdb (by rw [he, he2]) (by rw [he2]; rfl)) fun s H Q q => by
    have q2 := top_op (r2 := liftO X.K h) hb ha q
    obtain ⟨z, r, F, d, r', R, e, k⟩ := q
    obtain ⟨x, r1, y, e1, e2, e3⟩ := opM_some e
    refine ⟨z, r, F, x, r1, R, e1, fun v H1 F1 R1 sb1 dx => ⟨z, r1, F1, y, r', R1, e2, fun w H2 F2 R2 sb2 dy => ⟨v, w, rfl, F2, x, y, d, R2.fh, .inl (dp_mono sb2 dx), dy, e3, fun v' H' F' G dd => ?_⟩⟩⟩
    exact k v' H' F' (R2.grow G) ((sb1.trans sb2).trans G.ff) dd⟩
end
end DL
namespace DL
open PySem L2 PyProof.Rows PySem.Spec
section
variable {X : Cx}
/-! ### rules that the layer below lacks -/
def rCatL (K : PySem.W.Frag) : R2 := fun x y H Q => ∃ l b xs zs, x = .ref l ∧ y = .ref b ∧ SqL K H l xs ∧ SqL K H b zs ∧ xs.length + zs.length ≤ sizeLine ∧ ∀ p, H p = none → Q (.ref p) (upd H p (.lst (xs ++ zs)))
theorem op_catL : OpR X (binaryOp .Add) (rCatL X.K) := by
  rintro pins s σ H x y v u Q I rx ry ⟨p1, p2, xs, ys, rfl, rfl, one, two, fits, give⟩
  cases rx
  cases ry
  obtain ⟨us, left, ⟨⟨c1, d1, dt1, s1⟩, n1, at1, isL1, _, isS1⟩, _⟩ := I.list one
  obtain ⟨ws, right, ⟨⟨c2, d2, dt2, s2⟩, n2, at2, isL2, _, isS2⟩, _⟩ := I.list two
  cases isL1; cases isS1; cases isL2; cases isS2
  have t1 : s.TypeIs (.ref p1) "list" := ⟨_, at1, rfl⟩
  have t2 : s.TypeIs (.ref p2) "list" := ⟨_, at2, rfl⟩
  have sizes : us.toArray.size + ws.toArray.size ≤ sizeLine := by simp [← left.length, ← right.length, fits]
  refine concat_meets t1 t2 noFill_list_add seq_list_add PySem.F.slot_list_add PySem.F.entry_list_add (PySem.F.args_list_add_2 _ _) (list_addW p1 p2 us.toArray ws.toArray n1 n2 d1 d2 s1 s2 sizes) ⟨at1, at2, ?_⟩
  have joined := I.lnew (t' := s.toks) (left.append right) (by simpa using fits)
  rw [show us.toArray ++ ws.toArray = (us ++ ws).toArray by simp]
  exact ⟨.ref s.heap.objs.size, _, joined, rfl, give _ I.fresh⟩
/-! ### operations on data -/
def szOk (n : Nat) : Bool := decide (n ≤ 1000000)
theorem szOk_le {n : Nat} (h : szOk n = true) : n ≤ sizeLine := Nat.le_trans (of_decide_eq_true h) (by decide)
theorem szOk_lt {n : Nat} (h : szOk n = true) : n < sizeLine := Nat.lt_of_le_of_lt (of_decide_eq_true h) (by decide)
def addD : D → D → Option D
  | .int i, .int j => some (.int (i + j))
  | .tuple xs, .tuple ys => if szOk (xs.length + ys.length) then some (.tuple (xs ++ ys)) else none
  | .list xs, .list ys => if szOk (xs.length + ys.length) then some (.list (xs ++ ys)) else none
  | .str x, .str y => if szOk (x.length + y.length) then some (.str (x ++ y)) else none
  | _, _ => none
theorem dv_int {K : PySem.W.Frag} {F H : Hp} {v : V} {i : Int} (h : Dv K F H v (.int i)) : v = .int i := by
  rcases h with h | ⟨a, vs, xs, _, h, _⟩
  · exact h.inv
  · cases h
theorem dv_str {K : PySem.W.Frag} {F H : Hp} {v : V} {i : Str} (h : Dv K F H v (.str i)) : v = .str i := by
  rcases h with h | ⟨a, vs, xs, _, h, _⟩
  · exact h.inv
  · cases h
theorem dv_bl {K : PySem.W.Frag} {F H : Hp} {v : V} {i : Bool} (h : Dv K F H v (.bool i)) : v = .bl i := by
  rcases h with h | ⟨a, vs, xs, _, h, _⟩
  · exact h.inv
  · cases h
theorem dv_non {K : PySem.W.Frag} {F H : Hp} {v : V} (h : Dv K F H v .none) : v = .non := by
  rcases h with h | ⟨a, vs, xs, _, h, _⟩
  · exact h.inv
  · cases h
theorem dv_tup {K : PySem.W.Frag} {F H : Hp} {v : V} {ds : List D} (h : Dv K F H v (.tuple ds)) : ∃ a vs, v = .ref a ∧ TupAt F a vs ∧ DpAll K F vs ds := by
  rcases h with h | ⟨a, vs, xs, _, h, _⟩
  · obtain ⟨_, _, rfl, h1, h2⟩ := h.inv; exact ⟨_, _, rfl, h1, h2⟩
  · cases h
theorem dv_lst {K : PySem.W.Frag} {F H : Hp} {v : V} {ds : List D} (sb : SubH F H) (h : Dv K F H v (.list ds)) : ∃ a vs, v = .ref a ∧ SqL K H a vs ∧ DpAll K F vs ds := by
  rcases h with h | ⟨a, vs, xs, e, h, h1, h2⟩
  · obtain ⟨_, _, rfl, h1, h2⟩ := h.inv; exact ⟨_, _, rfl, sb.sql h1, h2⟩
  · cases h; exact ⟨a, vs, e, .inl (.inl h1), h2⟩
/-- a new tuple, a new list -/
theorem new_tup {K : PySem.W.Frag} {F H : Hp} {p : Addr} {ob : Obj} {vs : List V} {ds : List D} (none' : ob.dict = none) (sb : SubH F H) (hp : H p = none) (h : DpAll K F vs ds) :
    Grow F H (upd F p (tupHO ob vs)) (upd H p (tupHO ob vs)) ∧ Dp K (upd F p (tupHO ob vs)) (.ref p) (.tuple ds) :=
  have G := Grow.new (o := tupHO ob vs) sb hp
  ⟨G, .tup ⟨ob, none', upd_same⟩ (dpa_mono G.ff h)⟩
/-- the object of a new tuple -/
def tupObj (its : List Value) : Obj := { cls := .type "tuple", data := .seq its.toArray }
theorem lay_tup {pins : List (Addr × Obj)} {s : Shared} {σ : L2.St} {H : Hp} {vs : List V} {its : List Value} (I : L2.Inv X pins σ H s) (vals : Vals vs its) (fits : vs.length ≤ sizeLine) :
    L2.Inv X pins σ (upd H s.heap.objs.size (tupHO (tupObj its) vs)) { s with heap := s.heap.push (tupObj its) } := by
  have new : (s.heap.push (tupObj its)).get? s.heap.objs.size = some (tupObj its) := Heap.get?_push_size _ rfl
  refine I.laid (t' := s.toks) (fun _ _ old => Heap.get?_push_of_some _ old) (Nat.le_refl _) ?_
  rcases tupHO_cases (tupObj its) vs with q | q <;> rw [q]
  · exact ⟨fits, its, vals, _, new, rfl, _, rfl⟩
  · exact ⟨new, fits, its, vals, _, new, rfl, _, rfl⟩
/-- what may come of a new tuple -/
def Laid (H : Hp) (vs : List V) (Q : VK) : Prop := ∀ (p : Addr) (ob : Obj), ob.dict = none → H p = none → Q (.ref p) (upd H p (tupHO ob vs))
theorem laid_ep {pins : List (Addr × Obj)} {s : Shared} {σ : L2.St} {H : Hp} {vs : List V} {its : List Value} {Q : VK} (I : L2.Inv X pins σ H s) (vals : Vals vs its) (fits : vs.length ≤ sizeLine) (q : Laid H vs Q) :
    EP X pins σ Q (.ref s.heap.objs.size) { s with heap := s.heap.push (tupObj its) } :=
  ⟨.ref s.heap.objs.size, _, lay_tup I vals fits, rfl, q _ _ rfl (I.hok.fresh (Nat.le_refl _))⟩
/-- t + u of tuples: the other one if one is empty, else a new one -/
def rCatN (K : PySem.W.Frag) : R2 := fun x y H Q => ∃ a b xs ys, x = .ref a ∧ y = .ref b ∧ SqT K H a xs ∧ SqT K H b ys ∧ xs.length + ys.length ≤ sizeLine ∧
  (xs = [] → Q (.ref b) H) ∧ (xs ≠ [] → ys = [] → Q (.ref a) H) ∧ (xs ≠ [] → ys ≠ [] → Laid H (xs ++ ys) Q)
theorem op_catN : OpR X (binaryOp .Add) (rCatN X.K) := by
  rintro pins s σ H x y v u Q I rx ry ⟨a, b, xs, ys, rfl, rfl, one, two, fits, left, right, new⟩
  cases rx
  cases ry
  obtain ⟨us, vals1, ⟨⟨c1, d1, dt1, s1⟩, at1, isT1, n1, isS1⟩, _⟩ := I.tuple one
  obtain ⟨ws, vals2, ⟨⟨c2, d2, dt2, s2⟩, at2, isT2, n2, isS2⟩, _⟩ := I.tuple two
  cases isT1; cases isS1; cases isT2; cases isS2
  have t1 : s.TypeIs (.ref a) "tuple" := ⟨_, at1, rfl⟩
  have t2 : s.TypeIs (.ref b) "tuple" := ⟨_, at2, rfl⟩
  have l1 := vals1.length
  have l2 := vals2.length
  have e1 : us.toArray.isEmpty = true ↔ xs = [] := by cases xs <;> cases us <;> simp at l1 ⊢
  have e2 : ws.toArray.isEmpty = true ↔ ys = [] := by cases ys <;> cases ws <;> simp at l2 ⊢
  have run := fun S (g : Meets (Builtin.«tuple.__add__» ⟨[.ref a, .ref b], []⟩) S) (q : S X.A (wants (EP X pins σ Q) X.xe) s) =>
    concat_meets (prog := X.prog) (w := X.w) t1 t2 noFill_tuple_add seq_tuple_add PySem.F.slot_tuple_add PySem.F.entry_tuple_add (PySem.F.args_tuple_add_2 _ _) g q
  by_cases h1 : xs = []
  · exact run _ (tuple_addW0 a b _ _ n1 n2 d1 d2 s1 s2 (e1.mpr h1)) ⟨at1, at2, .ref b, H, I, rfl, left h1⟩
  by_cases h2 : ys = []
  · exact run _ (tuple_addW1 a b _ _ n1 n2 d1 d2 s1 s2 (mt e1.mp h1) (e2.mpr h2)) ⟨at1, at2, .ref a, H, I, rfl, right h1 h2⟩
  refine run _ (tuple_addW2 a b _ _ n1 n2 d1 d2 s1 s2 (mt e1.mp h1) (mt e2.mp h2) (by simp; omega)) ⟨at1, at2, ?_⟩
  rw [show us.toArray ++ ws.toArray = (us ++ ws).toArray by simp]
  exact laid_ep I (vals1.append vals2) (by simpa using fits) (new h1 h2)
theorem new_lst {K : PySem.W.Frag} {F H : Hp} {p : Addr} {vs : List V} {ds : List D} (sb : SubH F H) (hp : H p = none) (h : DpAll K F vs ds) : Grow F H (upd F p (.lst vs)) (upd H p (.lst vs)) ∧ Dp K (upd F p (.lst vs)) (.ref p) (.list ds) :=
  have G := Grow.new (o := HO.lst vs) sb hp
  ⟨G, .lst (.inl (.inl upd_same)) (dpa_mono G.ff h)⟩
theorem or_addD : OpR X (binaryOp .Add) (liftO X.K addD) := by
  intro pins s σ H x y v u Q I rx ry h
  obtain ⟨F, d, e, o, sb, dx, dy, eo, k⟩ := h
  unfold addD at eo
  split at eo
  · cases eo
    cases dv_int dx; cases dv_int dy
    exact op_add pins s σ H _ _ v u Q I rx ry ⟨_, _, rfl, rfl, k _ H F (.refl sb) (.int _)⟩
  · split at eo
    · rename_i hz
      cases eo
      obtain ⟨a, vs, rfl, h1, h2⟩ := dv_tup dx
      obtain ⟨b, ws, rfl, h3, h4⟩ := dv_tup dy
      have l1 := dpa_len h2
      have l2 := dpa_len h4
      refine op_catN pins s σ H _ _ v u Q I rx ry ⟨a, b, vs, ws, rfl, rfl, sb.sqt (sqt_of h1), sb.sqt (sqt_of h3), by rw [l1, l2]; exact szOk_le hz, fun e => ?_, fun n e => ?_, fun n1 n2 p ob nd hp => ?_⟩
      · subst e; cases h2; exact k _ H F (.refl sb) (.tup h3 h4)
      · subst e; cases h4; rw [List.append_nil] at k; exact k _ H F (.refl sb) (.tup h1 h2)
      · obtain ⟨G, q⟩ := new_tup nd sb hp (dpa_app h2 h4)
        exact k _ _ _ G q
    · cases eo
  · split at eo
    · rename_i hz
      cases eo
      obtain ⟨a, vs, rfl, h1, h2⟩ := dv_lst sb dx
      obtain ⟨b, ws, rfl, h3, h4⟩ := dv_lst sb dy
      have l1 := dpa_len h2
      have l2 := dpa_len h4
      refine op_catL pins s σ H _ _ v u Q I rx ry ⟨a, b, vs, ws, rfl, rfl, h1, h3, by rw [l1, l2]; exact szOk_le hz, fun p hp => ?_⟩
      obtain ⟨G, q⟩ := new_lst sb hp (dpa_app h2 h4)
      exact k _ _ _ G q
    · cases eo
  · split at eo
    · rename_i hz
      cases eo
      cases dv_str dx; cases dv_str dy
      exact op_add_str pins s σ H _ _ v u Q I rx ry ⟨_, _, rfl, rfl, szOk_le hz, k _ H F (.refl sb) (.str _)⟩
    · cases eo
  · cases eo
def subD : D → D → Option D
  | .int i, .int j => some (.int (i - j))
  | _, _ => none
theorem or_subD : OpR X (binaryOp .Sub) (liftO X.K subD) := by
  intro pins s σ H x y v u Q I rx ry h
  obtain ⟨F, d, e, o, sb, dx, dy, eo, k⟩ := h
  unfold subD at eo
  split at eo
  · cases eo
    cases dv_int dx; cases dv_int dy
    exact op_sub pins s σ H _ _ v u Q I rx ry ⟨_, _, rfl, rfl, k _ H F (.refl sb) (.int _)⟩
  · cases eo
/-- % and // by a positive number -/
def modD : D → D → Option D
  | .int i, .int j => if 0 < j then some (.int (i % j)) else none
  | _, _ => none
theorem or_modD : OpR X (binaryOp .Mod) (liftO X.K modD) := by
  intro pins s σ H x y v u Q I rx ry h
  obtain ⟨F, d, e, o, sb, dx, dy, eo, k⟩ := h
  unfold modD at eo
  split at eo
  · split at eo
    · rename_i hj
      cases eo
      cases dv_int dx; cases dv_int dy
      exact op_mod pins s σ H _ _ v u Q I rx ry ⟨_, _, rfl, rfl, hj, k _ H F (.refl sb) (.int _)⟩
    · cases eo
  · cases eo
def fdivD : D → D → Option D
  | .int i, .int j => if 0 < j ∧ j < 1073741824 then some (.int (i / j)) else none
  | _, _ => none
theorem or_fdivD : OpR X (binaryOp .FloorDiv) (liftO X.K fdivD) := by
  intro pins s σ H x y v u Q I rx ry h
  obtain ⟨F, d, e, o, sb, dx, dy, eo, k⟩ := h
  unfold fdivD at eo
  split at eo
  · split at eo
    · rename_i hj
      cases eo
      cases dv_int dx; cases dv_int dy
      exact op_fdiv pins s σ H _ _ v u Q I rx ry ⟨_, _, rfl, rfl, hj, k _ H F (.refl sb) (.int _)⟩
    · cases eo
  · cases eo
/-- a product of ints, the left or the right one below 2 ^ 64 -/
def mulD : D → D → Option D
  | .int i, .int j => if (-(2 ^ 64) < i ∧ i < 2 ^ 64) ∨ (-(2 ^ 64) < j ∧ j < 2 ^ 64) then some (.int (i * j)) else none
  | _, _ => none
theorem or_mulD : OpR X (binaryOp .Mult) (liftO X.K mulD) := by
  intro pins s σ H x y v u Q I rx ry h
  obtain ⟨F, d, e, o, sb, dx, dy, eo, k⟩ := h
  unfold mulD at eo
  split at eo
  · split at eo
    · rename_i hj
      cases eo
      cases dv_int dx; cases dv_int dy
      exact op_mul pins s σ H _ _ v u Q I rx ry ⟨_, _, rfl, rfl, hj, k _ H F (.refl sb) (.int _)⟩
    · cases eo
  · cases eo
/-! ### comparisons -/
def bD (h : D → D → Option Bool) (d e : D) : Option D := (h d e).map .bool
theorem bD_some {h : D → D → Option Bool} {d e o : D} (q : bD h d e = some o) : ∃ b, h d e = some b ∧ o = .bool b := by
  unfold bD at q
  simp only [Option.map_eq_some_iff] at q
  obtain ⟨b, h1, h2⟩ := q
  exact ⟨b, h1, h2.symm⟩
def eqB (d e : D) : Option Bool := if SeqAt.shaped d && SeqAt.shaped e then some (PyData.eqv d e) else none
def neB (d e : D) : Option Bool := if SeqAt.shaped d && SeqAt.shaped e then some (!PyData.eqv d e) else none
theorem or_eqB (hu : X.A.units + 64 < cLine) : OpR X (compareOp .Eq) (liftO X.K (bD eqB)) := by
  intro pins s σ H x y v u Q I rx ry h
  obtain ⟨F, d, e, o, sb, dx, dy, eo, k⟩ := h
  obtain ⟨bb, e9, rfl⟩ := bD_some eo
  clear eo; have eo := e9; clear e9
  unfold eqB at eo
  split at eo
  · rename_i hs
    cases eo
    obtain ⟨s1, s2⟩ := (Bool.and_eq_true_iff.mp hs)
    exact op_eqD hu pins s σ H _ _ v u Q I rx ry ⟨d, e, dp_old (dx.dp sb), dp_old (dy.dp sb), s1, s2, k _ H F (.refl sb) (.bl _)⟩
  · cases eo
theorem or_neB (hu : X.A.units + 64 < cLine) : OpR X (compareOp .NotEq) (liftO X.K (bD neB)) := by
  intro pins s σ H x y v u Q I rx ry h
  obtain ⟨F, d, e, o, sb, dx, dy, eo, k⟩ := h
  obtain ⟨bb, e9, rfl⟩ := bD_some eo
  clear eo; have eo := e9; clear e9
  unfold neB at eo
  split at eo
  · rename_i hs
    cases eo
    obtain ⟨s1, s2⟩ := (Bool.and_eq_true_iff.mp hs)
    exact op_neD hu pins s σ H _ _ v u Q I rx ry ⟨d, e, dp_old (dx.dp sb), dp_old (dy.dp sb), s1, s2, k _ H F (.refl sb) (.bl _)⟩
  · cases eo
/-- the ints of a row -/
def intsOf : List D → Option (List Int)
  | [] => some []
  | .int i :: r => (intsOf r).map (i :: ·)
  | _ :: _ => none
theorem intsOf_some : ∀ {ds : List D} {ns : List Int}, intsOf ds = some ns → ds = ns.map PyData.int
  | [], ns, h => by cases h; rfl
  | .int i :: r, ns, h => by
    simp only [intsOf, Option.map_eq_some_iff] at h
    obtain ⟨ms, h1, rfl⟩ := h
    rw [intsOf_some h1]; rfl
  | .none :: _, _, h => nomatch h
  | .bool _ :: _, _, h => nomatch h
  | .str _ :: _, _, h => nomatch h
  | .list _ :: _, _, h => nomatch h
  | .tuple _ :: _, _, h => nomatch h
  | .dict _ :: _, _, h => nomatch h
theorem intsOf_map (ns : List Int) : intsOf (ns.map PyData.int) = some ns := by
  induction ns with
  | nil => rfl
  | cons n ns ih => simp [intsOf, ih]
def ltB : D → D → Option Bool
  | .int i, .int j => some (decide (i < j))
  | .tuple xs, .tuple ys => (intsOf xs).bind fun ns => (intsOf ys).map fun ms => HT.lexLt ns ms
  | _, _ => none
theorem or_ltB (hu : X.A.units < cLine) : OpR X (compareOp .Lt) (liftO X.K (bD ltB)) := by
  intro pins s σ H x y v u Q I rx ry h
  obtain ⟨F, d, e, o, sb, dx, dy, eo, k⟩ := h
  obtain ⟨bb, e9, rfl⟩ := bD_some eo
  clear eo; have eo := e9; clear e9
  unfold ltB at eo
  split at eo
  · cases eo
    cases dv_int dx; cases dv_int dy
    exact op_lt pins s σ H _ _ v u Q I rx ry ⟨_, _, rfl, rfl, k _ H F (.refl sb) (.bl _)⟩
  · simp only [Option.bind_eq_some_iff, Option.map_eq_some_iff] at eo
    obtain ⟨ns, e1, ms, e2, rfl⟩ := eo
    cases intsOf_some e1; cases intsOf_some e2
    obtain ⟨a, vs, rfl, h1, h2⟩ := dv_tup dx
    obtain ⟨b, ws, rfl, h3, h4⟩ := dv_tup dy
    cases dpa_ints h2; cases dpa_ints h4
    exact op_ltT hu pins s σ H _ _ v u Q I rx ry ⟨a, b, ns, ms, rfl, rfl, sb.sqt (sqt_of h1), sb.sqt (sqt_of h3), k _ H F (.refl sb) (.bl _)⟩
  · cases eo
def leB : D → D → Option Bool
  | .int i, .int j => some (decide (i ≤ j))
  | .tuple xs, .tuple ys => (intsOf xs).bind fun ns => (intsOf ys).map fun ms => !HT.lexLt ms ns
  | _, _ => none
theorem lexAt_shift {e r : Nat → Bool} {z : Bool} : ∀ (n i : Nat), Ob.lexAt e r z (i + 1) n = Ob.lexAt (fun j => e (j + 1)) (fun j => r (j + 1)) z i n
  | 0, i => rfl
  | n + 1, i => by rw [Ob.lexAt_succ, Ob.lexAt_succ, lexAt_shift n (i + 1)]
theorem le_lex : ∀ ns ms : List Int, Ob.lexAt (fun j => decide (ns.getD j 0 = ms.getD j 0)) (fun j => decide (ns.getD j 0 ≤ ms.getD j 0)) (decide (ns.length ≤ ms.length)) 0 (min ns.length ms.length) = !HT.lexLt ms ns
  | [], [] => rfl
  | [], y :: ys => by simp [Ob.lexAt_zero, HT.lexLt]
  | x :: xs, [] => by simp [Ob.lexAt_zero, HT.lexLt]
  | x :: xs, y :: ys => by
    have ih := le_lex xs ys
    have hm : min (x :: xs).length (y :: ys).length = min xs.length ys.length + 1 := by simp only [List.length_cons]; omega
    rw [hm, Ob.lexAt_succ, HT.lexLt_cons]
    simp only [List.getD_cons_zero]
    by_cases h : x = y
    · subst h
      rw [if_pos (by simp), if_pos rfl, lexAt_shift]
      simp only [List.getD_cons_succ, List.length_cons, Nat.add_le_add_iff_right]
      exact ih
    · rw [if_neg (by simpa using h), if_neg (fun q => h q.symm)]
      by_cases q : x ≤ y
      · rw [decide_eq_true q, decide_eq_false (by omega)]; rfl
      · rw [decide_eq_false q, decide_eq_true (by omega)]; rfl
theorem or_leB (hu : X.A.units < cLine) : OpR X (compareOp .LtE) (liftO X.K (bD leB)) := by
  intro pins s σ H x y v u Q I rx ry h
  obtain ⟨F, d, e, o, sb, dx, dy, eo, k⟩ := h
  obtain ⟨bb, e9, rfl⟩ := bD_some eo
  clear eo; have eo := e9; clear e9
  unfold leB at eo
  split at eo
  · cases eo
    cases dv_int dx; cases dv_int dy
    exact op_le pins s σ H _ _ v u Q I rx ry ⟨_, _, rfl, rfl, k _ H F (.refl sb) (.bl _)⟩
  · simp only [Option.bind_eq_some_iff, Option.map_eq_some_iff] at eo
    obtain ⟨ns, e1, ms, e2, rfl⟩ := eo
    cases intsOf_some e1; cases intsOf_some e2
    obtain ⟨a, vs, rfl, h1, h2⟩ := dv_tup dx
    obtain ⟨b, ws, rfl, h3, h4⟩ := dv_tup dy
    cases dpa_ints h2; cases dpa_ints h4
    refine op_leT hu pins s σ H _ _ v u Q I rx ry ⟨a, b, ns, ms, rfl, rfl, sb.sqt (sqt_of h1), sb.sqt (sqt_of h3), ?_⟩
    rw [le_lex]
    exact k _ H F (.refl sb) (.bl _)
  · cases eo
def geB : D → D → Option Bool
  | .int i, .int j => some (decide (j ≤ i))
  | _, _ => none
theorem or_geB : OpR X (compareOp .GtE) (liftO X.K (bD geB)) := by
  intro pins s σ H x y v u Q I rx ry h
  obtain ⟨F, d, e, o, sb, dx, dy, eo, k⟩ := h
  obtain ⟨bb, e9, rfl⟩ := bD_some eo
  clear eo; have eo := e9; clear e9
  unfold geB at eo
  split at eo
  · cases eo
    cases dv_int dx; cases dv_int dy
    exact op_ge pins s σ H _ _ v u Q I rx ry ⟨_, _, rfl, rfl, k _ H F (.refl sb) (.bl _)⟩
  · cases eo
/-- in -/
def itemsOf : D → Option (List D)
  | .tuple ds => some ds
  | .list ds => some ds
  | _ => none
def inB (d e : D) : Option Bool := (itemsOf e).bind fun ds => if SeqAt.shaped d && SeqAt.shaped e then some (ds.any fun z => PyData.eqv z d) else none
def notInB (d e : D) : Option Bool := (inB d e).map fun b => !b
theorem or_inB (hu : X.A.units + 65 < cLine) : OpR X (compareOp .In) (liftO X.K (bD inB)) := by
  intro pins s σ H x y v u Q I rx ry h
  obtain ⟨F, d, e, o, sb, dx, dy, eo, k⟩ := h
  obtain ⟨bb, e9, rfl⟩ := bD_some eo
  clear eo; have eo := e9; clear e9
  unfold inB at eo
  simp only [Option.bind_eq_some_iff] at eo
  obtain ⟨ds, e1, e2⟩ := eo
  split at e2
  · rename_i hs
    cases e2
    obtain ⟨s1, s2⟩ := (Bool.and_eq_true_iff.mp hs)
    obtain ⟨as, r1⟩ := L2.Dp.reads I d x v (dp_old (dx.dp sb)) rx
    obtain ⟨bs, r2⟩ := L2.Dp.reads I e y u (dp_old (dy.dp sb)) ry
    unfold itemsOf at e1
    split at e1
    · cases e1
      exact SeqAt.in_tuple_reads r2 r1 (SeqAt.canLay_of_shaped s2) (SeqAt.canLay_of_shaped s1) (room_in_shaped s1 hu) ⟨.bl _, H, I, rfl, k _ H F (.refl sb) (.bl _)⟩
    · cases e1
      exact SeqAt.in_list_reads r2 r1 (SeqAt.canLay_of_shaped s2) (SeqAt.canLay_of_shaped s1) (room_in_shaped s1 hu) ⟨.bl _, H, I, rfl, k _ H F (.refl sb) (.bl _)⟩
    · cases e1
  · cases e2
theorem or_notInB (hu : X.A.units + 65 < cLine) : OpR X (compareOp .NotIn) (liftO X.K (bD notInB)) := by
  intro pins s σ H x y v u Q I rx ry h
  obtain ⟨F, d, e, o, sb, dx, dy, eo, k⟩ := h
  obtain ⟨bb, e9, rfl⟩ := bD_some eo
  clear eo; have eo := e9; clear e9
  unfold notInB inB at eo
  simp only [Option.bind_eq_some_iff, Option.map_eq_some_iff] at eo
  obtain ⟨b, ⟨ds, e1, e2⟩, rfl⟩ := eo
  split at e2
  · rename_i hs
    cases e2
    obtain ⟨s1, s2⟩ := (Bool.and_eq_true_iff.mp hs)
    obtain ⟨as, r1⟩ := L2.Dp.reads I d x v (dp_old (dx.dp sb)) rx
    obtain ⟨bs, r2⟩ := L2.Dp.reads I e y u (dp_old (dy.dp sb)) ry
    unfold itemsOf at e1
    split at e1
    · cases e1
      exact SeqAt.notIn_tuple_reads r2 r1 (SeqAt.canLay_of_shaped s2) (SeqAt.canLay_of_shaped s1) (room_in_shaped s1 hu) ⟨.bl _, H, I, rfl, k _ H F (.refl sb) (.bl _)⟩
    · cases e1
      exact SeqAt.notIn_list_reads r2 r1 (SeqAt.canLay_of_shaped s2) (SeqAt.canLay_of_shaped s1) (room_in_shaped s1 hu) ⟨.bl _, H, I, rfl, k _ H F (.refl sb) (.bl _)⟩
    · cases e1
  · cases e2
end
end DL
namespace DL
open PySem L2 PyProof.Rows PySem.Spec
section
variable {X : Cx} {a b c e : Expr} {es : List Expr} {f g h : EM} {pos : Pos}
theorem dv_not_non {K : PySem.W.Frag} {F H : Hp} {v : V} {d : D} (x : Dv K F H v d) (n : d ≠ .none) : v ≠ .non := by
  rcases x with x | ⟨a, vs, xs, rfl, _⟩
  · exact fun q => n (by subst q; cases d <;> first | rfl | exact absurd x.inv (by rintro ⟨_, _, q, _⟩; cases q) | cases x.inv)
  · intro q; cases q
def isB : D → D → Option Bool
  | .bool a, .bool b => some (decide (a = b))
  | .none, .none => some true
  | .bool _, .none => some false
  | .int _, .none => some false
  | .str _, .none => some false
  | .tuple _, .none => some false
  | .list _, .none => some false
  | _, _ => none
def isNotB (d e : D) : Option Bool := (isB d e).map fun b => !b
theorem or_isNotB : OpR X (compareOp .IsNot) (liftO X.K (bD isNotB)) := by
  intro pins s σ H x y v u Q I rx ry h
  obtain ⟨F, d, e, o, sb, dx, dy, eo, k⟩ := h
  obtain ⟨bb, e9, rfl⟩ := bD_some eo
  clear eo; have eo := e9; clear e9
  unfold isNotB at eo
  simp only [Option.map_eq_some_iff] at eo
  obtain ⟨b, e1, rfl⟩ := eo
  have key : e = .none → b = decide (x = V.non) → wpAny (model X.prog X.w) X.A (compareOp .IsNot v u) (EP X pins σ Q) X.xe s := fun he hb => by
    subst he
    cases dv_non dy
    refine op_notN pins s σ H _ _ v u Q I rx ry ⟨rfl, ?_⟩
    rw [← hb]; exact k _ H F (.refl sb) (.bl _)
  unfold isB at e1
  split at e1
  · cases e1
    cases dv_bl dx; cases dv_bl dy
    exact op_isnot_bl pins s σ H _ _ v u Q I rx ry ⟨_, _, rfl, rfl, k _ H F (.refl sb) (.bl _)⟩
  · cases e1; cases dv_non dx; exact key rfl (by simp)
  all_goals first
    | (cases e1; done)
    | (cases e1; exact key rfl (by rw [decide_eq_false (dv_not_non dx (by intro q; cases q))]))
/-! ### truth -/
def truD : D → Option Bool
  | .none => some false
  | .bool b => some b
  | .int i => some (i != 0)
  | .str x => if szOk x.length then some ((x.length : Int) != 0) else none
  | .list xs => some (!xs.isEmpty)
  | .tuple xs => some (!xs.isEmpty)
  | .dict _ => none
theorem dpa_empty {K : PySem.W.Frag} {F : Hp} {vs : List V} {ds : List D} (h : DpAll K F vs ds) : vs.isEmpty = ds.isEmpty := by cases h <;> rfl
theorem tru_of {K : PySem.W.Frag} {F H : Hp} {v : V} {d : D} {b : Bool} (sb : SubH F H) (x : Dv K F H v d) (h : truD d = some b) : TruV K v H b := by
  unfold truD at h
  split at h
  · cases h; cases dv_non x; rfl
  · cases h; cases dv_bl x; rfl
  · cases h; cases dv_int x; rfl
  · split at h
    · rename_i hz; cases h; cases dv_str x; exact ⟨szOk_le hz, rfl⟩
    · cases h
  · cases h
    obtain ⟨a, vs, rfl, h1, h2⟩ := dv_lst sb x
    exact .inl ⟨vs, h1, by rw [dpa_empty h2]⟩
  · cases h
    obtain ⟨a, vs, rfl, h1, h2⟩ := dv_tup x
    exact .inr (.inl ⟨vs, sb.sqt (sqt_of h1), by rw [dpa_empty h2]⟩)
  · cases h
def truM (f : EM) : TM := fun r => (f r).bind fun p => (truD p.1).map fun b => (b, p.2)
theorem truM_some {f : EM} {r r' : Rho} {o : Bool} (q : truM f r = some (o, r')) : ∃ x, f r = some (x, r') ∧ truD x = some o := by
  unfold truM at q
  simp only [Option.bind_eq_some_iff, Option.map_eq_some_iff] at q
  obtain ⟨⟨x, r1⟩, e1, o', e2, e3⟩ := q
  cases e3; exact ⟨x, e1, e2⟩
/-- a value as a test -/
theorem st_val (ha : SW X a f) (he : ∀ whole, isTrue a X.env whole = (do let v ← whole; standAt a.pos; holding [v] (truthy v)) := by intro _; rfl) : ST X a (truM f) :=
  ⟨pt_imp (pt_truth ha.pe he) fun s H Q ⟨z, r, F, d, r', R, e, k⟩ => by
    obtain ⟨x, e1, e2⟩ := truM_some e
    exact ⟨z, r, F, x, r', R, e1, fun v H' F' R' sb dv => ⟨d, tru_of R'.fh dv e2, k H' F' R' sb⟩⟩⟩
def tstM (h : D → D → Option Bool) (f g : EM) : TM := fun r => (f r).bind fun p => (g p.2).bind fun q => (h p.1 q.1).map fun b => (b, q.2)
theorem tstM_op {h : D → D → Option Bool} {f g : EM} {r r' : Rho} {o : Bool} (q : tstM h f g r = some (o, r')) : opM (bD h) f g r = some (.bool o, r') := by
  unfold tstM at q
  unfold opM bD
  simp only [Option.bind_eq_some_iff, Option.map_eq_some_iff] at q ⊢
  obtain ⟨p, e1, p2, e2, b, e3, e4⟩ := q
  cases e4
  exact ⟨p, e1, p2, e2, _, ⟨_, e3, rfl⟩, rfl⟩
theorem st_cmp {op : CmpOp} {h : D → D → Option Bool} (ho : OpR X (compareOp op) (liftO X.K (bD h))) (ha : SE X a f) (hb : SW X b g) (hm : behindInMarks op b = false := by first | exact nobehind _ (by decide) (by decide) | rfl) : ST X (.Compare a [op] [b] pos) (tstM h f g) :=
  ⟨pt_imp (pt_cmpR ho ha.pe hb.pe hm) fun s H Q ⟨z, r, F, d, r', R, e, k⟩ => by
    refine top_op (r2 := liftO X.K (bD h)) hb ha ⟨z, r, F, _, r', R, tstM_op e, fun v H' F' R' sb dv => ⟨d, ?_, k H' F' R' sb⟩⟩
    cases dv.inv; rfl⟩
/-! ### not, and, or: tests -/
structure SWt (X : Cx) (e : Expr) (f : TM) : Prop where
  pw : PW X e (liftT X.K f)
def notM (f : TM) : TM := fun r => (f r).map fun p => (!p.1, p.2)
def andM (f g : TM) : TM := fun r => (f r).bind fun p => if p.1 = true then g p.2 else some (false, p.2)
def orM (f g : TM) : TM := fun r => (f r).bind fun p => if p.1 = true then some (true, p.2) else g p.2
variable {ft gt : TM} {rest : List Expr}
theorem st_not (ha : ST X a ft) : ST X (.UnaryOp .Not a pos) (notM ft) :=
  ⟨pt_imp (pt_not ha.pt) fun s H Q ⟨z, r, F, d, r', R, e, k⟩ => by
    unfold notM at e
    simp only [Option.map_eq_some_iff] at e
    obtain ⟨⟨b, r1⟩, e1, e2⟩ := e
    cases e2
    exact ⟨z, r, F, b, r1, R, e1, fun H' F' R' sb => k H' F' R' sb⟩⟩
theorem pw_imp {e : Expr} {t t' : TT} (h : PW X e t) (k : ∀ s H Q, t' s H Q → t s H Q) : PW X e t' := ⟨fun wh pins s σ H Q I hq => h.run wh pins s σ H Q I (k _ _ _ hq)⟩
theorem and_lift {s : L2.St} {H : Hp} {Q : Bool → Hp → Prop} (q : liftT X.K (andM ft gt) s H Q) : tAnd (liftT X.K ft) (liftT X.K gt) s H Q := by
  obtain ⟨z, r, F, d, r', R, e, k⟩ := q
  unfold andM at e
  simp only [Option.bind_eq_some_iff] at e
  obtain ⟨⟨b, r1⟩, e1, e2⟩ := e
  refine ⟨z, r, F, b, r1, R, e1, fun H1 F1 R1 sb => ?_⟩
  cases b with
  | true => exact ⟨z, r1, F1, d, r', R1, e2, fun H2 F2 R2 sb2 => k H2 F2 R2 (sb.trans sb2)⟩
  | false => cases e2; exact k H1 F1 R1 sb
theorem or_lift {s : L2.St} {H : Hp} {Q : Bool → Hp → Prop} (q : liftT X.K (orM ft gt) s H Q) : tOr (liftT X.K ft) (liftT X.K gt) s H Q := by
  obtain ⟨z, r, F, d, r', R, e, k⟩ := q
  unfold orM at e
  simp only [Option.bind_eq_some_iff] at e
  obtain ⟨⟨b, r1⟩, e1, e2⟩ := e
  refine ⟨z, r, F, b, r1, R, e1, fun H1 F1 R1 sb => ?_⟩
  cases b with
  | false => exact ⟨z, r1, F1, d, r', R1, e2, fun H2 F2 R2 sb2 => k H2 F2 R2 (sb.trans sb2)⟩
  | true => cases e2; exact k H1 F1 R1 sb
theorem sw_and1 (ha : ST X a ft) : SWt X (.BoolOp .And [a] pos) ft := ⟨pw_and1 ha.pt⟩
theorem sw_or1 (ha : ST X a ft) : SWt X (.BoolOp .Or [a] pos) ft := ⟨pw_or1 ha.pt⟩
theorem sw_and (ha : ST X a ft) (hb : SWt X (.BoolOp .And (b :: rest) pos) gt) : SWt X (.BoolOp .And (a :: b :: rest) pos) (andM ft gt) := ⟨pw_imp (pw_and ha.pt hb.pw) fun s H Q q => and_lift q⟩
theorem sw_or (ha : ST X a ft) (hb : SWt X (.BoolOp .Or (b :: rest) pos) gt) : SWt X (.BoolOp .Or (a :: b :: rest) pos) (orM ft gt) := ⟨pw_imp (pw_or ha.pt hb.pw) fun s H Q q => or_lift q⟩
theorem SWt.st (h : SWt X e ft) : ST X e ft := ⟨h.pw.pt⟩
/-! ### as values -/
def andVM (f g : EM) : EM := fun r => (f r).bind fun p => (truD p.1).bind fun b => if b = true then g p.2 else some (p.1, p.2)
def orVM (f g : EM) : EM := fun r => (f r).bind fun p => (truD p.1).bind fun b => if b = true then some (p.1, p.2) else g p.2
def notVM (f : EM) : EM := fun r => (f r).bind fun p => (truD p.1).map fun b => (.bool (!b), p.2)
theorem se_one {op} (ha : SE X a f) : SE X (.BoolOp op [a] pos) f := ⟨pe_one ha.pe⟩
theorem se_and (ha : SE X a f) (hb : SE X (.BoolOp .And (b :: rest) pos) g) : SE X (.BoolOp .And (a :: b :: rest) pos) (andVM f g) :=
  ⟨pe_imp (pe_andT ha.pe hb.pe) fun s H Q ⟨z, r, F, d, r', R, e, k⟩ => by
    unfold andVM at e
    simp only [Option.bind_eq_some_iff] at e
    obtain ⟨⟨x, r1⟩, e1, b, e2, e3⟩ := e
    refine ⟨z, r, F, x, r1, R, e1, fun v H1 F1 R1 sb dv => ⟨b, tru_of R1.fh (.inl dv) e2, ?_⟩⟩
    cases b with
    | true => exact ⟨z, r1, F1, d, r', R1, e3, fun v2 H2 F2 R2 sb2 dd => k v2 H2 F2 R2 (sb.trans sb2) dd⟩
    | false => cases e3; exact k v H1 F1 R1 sb dv⟩
theorem se_or (ha : SE X a f) (hb : SE X (.BoolOp .Or (b :: rest) pos) g) : SE X (.BoolOp .Or (a :: b :: rest) pos) (orVM f g) :=
  ⟨pe_imp (pe_orT ha.pe hb.pe) fun s H Q ⟨z, r, F, d, r', R, e, k⟩ => by
    unfold orVM at e
    simp only [Option.bind_eq_some_iff] at e
    obtain ⟨⟨x, r1⟩, e1, b, e2, e3⟩ := e
    refine ⟨z, r, F, x, r1, R, e1, fun v H1 F1 R1 sb dv => ⟨b, tru_of R1.fh (.inl dv) e2, ?_⟩⟩
    cases b with
    | false => exact ⟨z, r1, F1, d, r', R1, e3, fun v2 H2 F2 R2 sb2 dd => k v2 H2 F2 R2 (sb.trans sb2) dd⟩
    | true => cases e3; exact k v H1 F1 R1 sb dv⟩
theorem se_not (ha : SW X a f) : SE X (.UnaryOp .Not a pos) (notVM f) :=
  ⟨pe_imp (pe_notT ha.pe) fun s H Q ⟨z, r, F, d, r', R, e, k⟩ => by
    unfold notVM at e
    simp only [Option.bind_eq_some_iff, Option.map_eq_some_iff] at e
    obtain ⟨⟨x, r1⟩, e1, b, e2, e3⟩ := e
    cases e3
    exact ⟨z, r, F, x, r1, R, e1, fun v H1 F1 R1 sb dv => ⟨b, tru_of R1.fh dv e2, k _ H1 F1 R1 sb (.bl _)⟩⟩⟩
/-- -a -/
def negD : D → Option D
  | .int i => some (.int (-i))
  | _ => none
theorem se_neg (ha : SE X a f) : SE X (.UnaryOp .USub a pos) (unM negD f) :=
  ⟨pe_imp (pe_un un_neg ha.pe) fun s H Q ⟨z, r, F, d, r', R, e, k⟩ => by
    obtain ⟨x, e1, e2⟩ := unM_some e
    unfold negD at e2
    split at e2
    · cases e2
      exact ⟨z, r, F, _, r', R, e1, fun v H1 F1 R1 sb dv => by cases dv.inv; exact ⟨_, rfl, k _ H1 F1 R1 sb (.int _)⟩⟩
    · cases e2⟩
/-! ### rows of expressions, displays -/
def nilM : AM := fun r => some ([], r)
def consM (f : EM) (g : AM) : AM := fun r => (f r).bind fun p => (g p.2).map fun q => (p.1 :: q.1, q.2)
theorem sa_nil : SA X [] nilM := ⟨pa_imp pa_nil fun s H Q ⟨z, r, F, d, r', R, e, k⟩ => by cases e; exact k [] H F R (.refl _) .nil, fun r ds r' e => by cases e; rfl⟩
theorem consM_some {f : EM} {g : AM} {r r' : Rho} {o : List D} (q : consM f g r = some (o, r')) : ∃ x r1 xs, f r = some (x, r1) ∧ g r1 = some (xs, r') ∧ o = x :: xs := by
  unfold consM at q
  simp only [Option.bind_eq_some_iff, Option.map_eq_some_iff] at q
  obtain ⟨⟨x, r1⟩, e1, ⟨xs, r2⟩, e2, e3⟩ := q
  cases e3; exact ⟨x, r1, xs, e1, e2, rfl⟩
theorem sa_cons {g : AM} (ha : SE X e f) (hr : SA X es g) (hs : starEach (e :: es) X.env = (false, eval e X.env) :: starEach es X.env := by rfl) : SA X (e :: es) (consM f g) :=
  ⟨pa_imp (pa_cons ha.pe hr.pa hs) fun s H Q ⟨z, r, F, d, r', R, e, k⟩ => by
    obtain ⟨x, r1, xs, e1, e2, rfl⟩ := consM_some e
    exact ⟨z, r, F, x, r1, R, e1, fun v H1 F1 R1 sb1 dv => ⟨z, r1, F1, xs, r', R1, e2, fun vs H2 F2 R2 sb2 dvs => k _ H2 F2 R2 (sb1.trans sb2) (.cons (dp_mono sb2 dv) dvs)⟩⟩, fun r ds r' e => by
    obtain ⟨x, r1, xs, e1, e2, rfl⟩ := consM_some e
    rw [List.length_cons, hr.len _ _ _ e2]; rfl⟩
def tupM (f : AM) : EM := fun r => (f r).bind fun p => if szOk p.1.length then some (.tuple p.1, p.2) else none
def lstM (f : AM) : AM := fun r => (f r).bind fun p => if szOk p.1.length then some p else none
/-- a written tuple -/
def tTupN (t : TA) : TE := fun σ H Q => t σ H fun xs H1 => xs.length ≤ sizeLine ∧ Laid H1 xs Q
theorem pe_tupN {x1} {t : TA} (h : PA X es t) : PE X (.Tuple es x1 pos) (tTupN t) := by
  constructor
  intro pins s σ H Q I want
  apply PyProof.Rows.Tuple_
  refine thn (h.run pos pins s σ H _ I want) ?_
  rintro us s1 ⟨xs, H1, I1, vals, fits, q⟩
  exact wpAny_newTuple (laid_ep I1 vals fits q) (by rw [← vals.length]; exact fits)
theorem se_tup {x1} {f : AM} (h : SA X es f) : SE X (.Tuple es x1 pos) (tupM f) :=
  ⟨pe_imp (pe_tupN h.pa) fun s H Q ⟨z, r, F, d, r', R, e, k⟩ => by
    unfold tupM at e
    simp only [Option.bind_eq_some_iff] at e
    obtain ⟨⟨xs, r1⟩, e1, e2⟩ := e
    split at e2
    · rename_i hz
      cases e2
      refine ⟨z, r, F, xs, r1, R, e1, fun vs H1 F1 R1 sb dv => ⟨by rw [dpa_len dv]; exact szOk_le hz, fun p ob nd hp => ?_⟩⟩
      obtain ⟨G, q⟩ := new_tup nd R1.fh hp dv
      exact k _ _ _ (R1.grow G) (sb.trans G.ff) q
    · cases e2⟩
theorem Rep.loose {K : PySem.W.Frag} {z : Fx} {r : Rho} {s : L2.St} {H F : Hp} {p : Addr} {vs : List V} (R : Rep K z r s H F) (hp : H p = none) : Rep K z r s (upd H p (.lst vs)) F ∧ (upd H p (.lst vs)) p = some (.lst vs) ∧ F p = none ∧ z.H0 p = none ∧ ¬ OwnAt r s p :=
  ⟨R.grow (.loose R.fh hp), upd_same, R.fh.none hp, R.old.none hp, fun q => by
    obtain ⟨⟨o, ho⟩, _⟩ := R.own_facts q
    rw [hp] at ho; cases ho⟩
theorem sl_lst {f : AM} (h : SA X es f) : SL X (.List es pos) (lstM f) :=
  ⟨pe_imp (pe_lst h.pa) fun s H Q ⟨z, r, F, d, r', R, e, k⟩ => by
    unfold lstM at e
    simp only [Option.bind_eq_some_iff] at e
    obtain ⟨⟨xs, r1⟩, e1, e2⟩ := e
    split at e2
    · rename_i hz
      cases e2
      refine ⟨z, r, F, _, _, R, e1, fun vs H1 F1 R1 sb dv => ⟨by rw [dpa_len dv]; exact szOk_le hz, fun p hp => ?_⟩⟩
      obtain ⟨R2, h1, h2, h3, h4⟩ := R1.loose (vs := vs) hp
      exact k p vs _ F1 R2 sb h1 h2 h3 h4 dv
    · cases e2⟩
end
end DL
namespace DL
open PySem L2 PyProof.Rows PySem.Spec
section
variable {X : Cx} {a b c e : Expr} {es : List Expr} {f g h : EM} {pos : Pos}
/-! ### subscripts -/
def ixD : D → D → Option D
  | .tuple ds, .int i => atI ds i
  | .list ds, .int i => atI ds i
  | .str x, .int i => if szOk x.length then (atI x.cps.toList i).map fun c => .str ⟨#[c]⟩ else none
  | _, _ => none
theorem atI_dpa {K : PySem.W.Frag} {F : Hp} {vs : List V} {ds : List D} {i : Int} {d : D} (h : DpAll K F vs ds) (q : atI ds i = some d) : ∃ v, atI vs i = some v ∧ Dp K F v d := by
  unfold atI at q ⊢
  rw [dpa_len h]
  cases e : ixN ds.length i with
  | none => rw [e] at q; cases q
  | some j => rw [e] at q; exact dpa_get (i := j) h q
theorem ix_any : IxR X (liftO X.K ixD) := by
  intro value slice pins s σ H x y v u Q I rx ry h hs
  obtain ⟨F, d, e, o, sb, dx, dy, eo, k⟩ := h
  unfold ixD at eo
  split at eo
  · obtain ⟨a, vs, rfl, h1, h2⟩ := dv_tup dx
    cases dv_int dy
    obtain ⟨w, e1, e2⟩ := atI_dpa h2 eo
    exact ix_tup value slice pins s σ H _ _ v u Q I rx ry ⟨a, vs, _, w, rfl, rfl, sb.sqt (sqt_of h1), e1, k _ H F (.refl sb) e2⟩ hs
  · obtain ⟨a, vs, rfl, h1, h2⟩ := dv_lst sb dx
    cases dv_int dy
    obtain ⟨w, e1, e2⟩ := atI_dpa h2 eo
    exact ix_list value slice pins s σ H _ _ v u Q I rx ry ⟨a, vs, _, w, rfl, rfl, h1, e1, k _ H F (.refl sb) e2⟩ hs
  · split at eo
    · rename_i hz
      simp only [Option.map_eq_some_iff] at eo
      obtain ⟨c, e1, rfl⟩ := eo
      cases dv_str dx
      cases dv_int dy
      exact ix_str value slice pins s σ H _ _ v u Q I rx ry ⟨_, _, c, rfl, rfl, szOk_le hz, e1, k _ H F (.refl sb) (.str _)⟩ hs
    · cases eo
  · cases eo
theorem se_ix (ha : SE X a f) (hb : SE X b g) (hp : PlainIx b := by exact fun _ _ => rfl) : SE X (.Subscript a b pos) (opM ixD f g) :=
  ⟨pe_imp (pe_ix ix_any ha.pe hb.sw.pe hp) fun s H Q q => top_op (r2 := liftO X.K ixD) hb.sw ha q⟩
/-! ### slices -/
abbrev OM := Rho → Option (Option Int × Rho)
def liftP (K : PySem.W.Frag) (f : OM) : TO := fun s H Q => ∃ z r F d r', Rep K z r s H F ∧ f r = some (d, r') ∧ ∀ H' F', Rep K z r' s H' F' → SubH F F' → Q d H'
structure SP' (X : Cx) (e : Option Expr) (f : OM) : Prop where
  po : PO X e (liftP X.K f)
def noM : OM := fun r => some (none, r)
def someM (f : EM) : OM := fun r => (f r).bind fun p => match p.1 with
  | .int i => some (some i, p.2)
  | _ => none
theorem po_imp {e : Option Expr} {t t' : TO} (h : PO X e t) (k : ∀ s H Q, t' s H Q → t s H Q) : PO X e t' := ⟨fun pins s σ H Q I hq => h.run pins s σ H Q I (k _ _ _ hq)⟩
theorem sp_none : SP' X none noM := ⟨po_imp po_none fun s H Q ⟨z, r, F, d, r', R, e, k⟩ => by cases e; exact k H F R (.refl _)⟩
theorem sp_some (ha : SE X e f) : SP' X (some e) (someM f) := ⟨po_imp (po_some ha.pe) fun s H Q ⟨z, r, F, d, r', R, e, k⟩ => by
  unfold someM at e
  simp only [Option.bind_eq_some_iff] at e
  obtain ⟨⟨x, r1⟩, e1, e2⟩ := e
  split at e2
  · rename_i i hx
    cases e2
    have hx : x = .int i := hx
    subst hx
    exact ⟨z, r, F, _, r1, R, e1, fun v H1 F1 R1 sb dv => by cases dv.inv; exact ⟨i, rfl, k H1 F1 R1 sb⟩⟩
  · cases e2⟩
def cutD {α : Type} (xs : List α) (lo hi : Option Int) : List α := (xs.drop (HT.sIx xs.length 0 lo)).take (HT.sIx xs.length xs.length hi - HT.sIx xs.length 0 lo)
def slD (x : D) (lo hi : Option Int) : Option D := match x with
  | .tuple ds => some (.tuple (cutD ds lo hi))
  | .list ds => some (.list (cutD ds lo hi))
  | .str z => if szOk z.length then some (.str (cutS z lo hi)) else none
  | _ => none
def liftSl (K : PySem.W.Frag) : V → Option Int → Option Int → Hp → VK → Prop := fun x lo hi H Q => ∃ F d o, SubH F H ∧ Dv K F H x d ∧ slD d lo hi = some o ∧ ∀ v H' F', Grow F H F' H' → Dp K F' v o → Q v H'
theorem cut_dpa {K : PySem.W.Frag} {F : Hp} {vs : List V} {ds : List D} {lo hi : Option Int} (h : DpAll K F vs ds) : DpAll K F (cutV vs lo hi) (cutD ds lo hi) := by
  unfold cutV cutD
  rw [dpa_len h]
  exact dpa_take _ (dpa_drop _ h)
theorem cut_all {α : Type} {xs : List α} {lo hi : Option Int} (h : HT.sIx xs.length 0 lo = 0 ∧ HT.sIx xs.length xs.length hi = xs.length) : cutD xs lo hi = xs := by
  unfold cutD
  rw [h.1, h.2]
  simp
/-- a part of a tuple: the tuple itself if it is all of it, else a new one -/
def rSlN (K : PySem.W.Frag) : V → Option Int → Option Int → Hp → VK → Prop := fun x lo hi H Q => ∃ a xs, x = .ref a ∧ SqT K H a xs ∧
  (HT.sIx xs.length 0 lo = 0 ∧ HT.sIx xs.length xs.length hi = xs.length → Q (.ref a) H) ∧ (¬ (HT.sIx xs.length 0 lo = 0 ∧ HT.sIx xs.length xs.length hi = xs.length) → Laid H (cutD xs lo hi) Q)
theorem sl_tupN : SlR X (rSlN X.K) := by
  rintro pins s σ H x v vl vu lo hi sl Q I rx isS pl pu ⟨a, xs, rfl, tup, whole, part⟩
  cases rx
  obtain ⟨its, vals, isT, fits⟩ := I.tuple tup
  refine ⟨"tuple", "tuple.__getitem__", PySem.F.slot_tuple_getitem.lookup, isT.typeIs, ?_⟩
  have len : its.toArray.size = xs.length := by simp [vals.length]
  by_cases all : HT.sIx xs.length 0 lo = 0 ∧ HT.sIx xs.length xs.length hi = xs.length
  · exact getItem_tuple_whole isT isS pl pu (by rwa [len]) ⟨.ref a, H, I, rfl, whole all⟩
  · have cut := (vals.drop (HT.sIx xs.length 0 lo)).take (HT.sIx xs.length xs.length hi - HT.sIx xs.length 0 lo)
    have short : (cutD xs lo hi).length ≤ sizeLine := by unfold cutD; simp only [List.length_take, List.length_drop]; omega
    have made := laid_ep I cut short (part all)
    refine HT.getItem_tuple_cut isT isS pl pu (by rwa [len]) ?_ (by rw [len]; exact fits)
    rw [len]
    exact made
theorem sl_any : SlR X (liftSl X.K) := by
  intro pins s σ H x v vl vu lo hi sl Q I rx hsl pl pu h
  obtain ⟨F, d, o, sb, dx, eo, k⟩ := h
  unfold slD at eo
  split at eo
  · cases eo
    obtain ⟨a, vs, rfl, h1, h2⟩ := dv_tup dx
    refine sl_tupN pins s σ H _ v vl vu lo hi sl Q I rx hsl pl pu ⟨a, vs, rfl, sb.sqt (sqt_of h1), fun e => ?_, fun e p ob nd hp => ?_⟩
    · rw [dpa_len h2] at e
      rw [cut_all e] at k
      exact k _ H F (.refl sb) (.tup h1 h2)
    · obtain ⟨G, q⟩ := new_tup nd sb hp (cut_dpa (lo := lo) (hi := hi) h2)
      exact k _ _ _ G q
  · cases eo
    obtain ⟨a, vs, rfl, h1, h2⟩ := dv_lst sb dx
    refine sl_list pins s σ H _ v vl vu lo hi sl Q I rx hsl pl pu ⟨a, vs, rfl, h1, fun p hp => ?_⟩
    obtain ⟨G, q⟩ := new_lst sb hp (cut_dpa (lo := lo) (hi := hi) h2)
    exact k _ _ _ G q
  · split at eo
    · rename_i hz
      cases eo
      cases dv_str dx
      exact sl_str pins s σ H _ v vl vu lo hi sl Q I rx hsl pl pu ⟨_, rfl, szOk_le hz, k _ H F (.refl sb) (.str _)⟩
    · cases eo
  · cases eo
def slM (f : EM) (l u : OM) : EM := fun r => (f r).bind fun p => (l p.2).bind fun q => (u q.2).bind fun w => (slD p.1 q.1 w.1).map fun d => (d, w.2)
theorem se_sl {lo hi : Option Expr} {l u : OM} {p2 : Pos} (ha : SE X e f) (hl : SP' X lo l) (hh : SP' X hi u) : SE X (.Subscript e (.Slice lo hi none p2) pos) (slM f l u) :=
  ⟨pe_imp (pe_slice sl_any ha.pe hl.po hh.po) fun s H Q ⟨z, r, F, d, r', R, e, k⟩ => by
    unfold slM at e
    simp only [Option.bind_eq_some_iff, Option.map_eq_some_iff] at e
    obtain ⟨⟨x, r1⟩, e1, ⟨q, r2⟩, e2, ⟨w, r3⟩, e3, o, e4, e5⟩ := e
    cases e5
    exact ⟨z, r, F, x, r1, R, e1, fun v H1 F1 R1 sb1 dv => ⟨z, r1, F1, q, r2, R1, e2, fun H2 F2 R2 sb2 => ⟨z, r2, F2, w, _, R2, e3, fun H3 F3 R3 sb3 =>
      ⟨F3, x, d, R3.fh, .inl (dp_mono (sb2.trans sb3) dv), e4, fun v2 H4 F4 G dd => k v2 H4 F4 (R3.grow G) (((sb1.trans sb2).trans sb3).trans G.ff) dd⟩⟩⟩⟩⟩
/-! ### built-ins -/
def lenD : D → Option D
  | .tuple ds => some (.int ds.length)
  | .list ds => some (.int ds.length)
  | .str x => if szOk x.length then some (.int x.length) else none
  | _ => none
theorem cr_len : CallR X (.builtin "len") (liftC1 X.K lenD) := by
  intro pins s σ H vs us Q I r h
  obtain ⟨F, x, d, o, rfl, sb, dx, eo, k⟩ := h
  unfold lenD at eo
  split at eo
  · cases eo
    obtain ⟨a, vs, rfl, h1, h2⟩ := dv_tup dx
    refine call_len_seq pins s σ H _ us Q I r ⟨a, vs, rfl, .inr (sb.sqt (sqt_of h1)), ?_⟩
    rw [dpa_len h2]; exact k _ H F (.refl sb) (.int _)
  · cases eo
    obtain ⟨a, vs, rfl, h1, h2⟩ := dv_lst sb dx
    refine call_len_seq pins s σ H _ us Q I r ⟨a, vs, rfl, .inl h1, ?_⟩
    rw [dpa_len h2]; exact k _ H F (.refl sb) (.int _)
  · split at eo
    · rename_i hz
      cases eo
      cases dv_str dx
      exact call_len_str pins s σ H _ us Q I r ⟨_, rfl, szOk_le hz, k _ H F (.refl sb) (.int _)⟩
    · cases eo
  · cases eo
def tupleD : D → Option D
  | .tuple ds => some (.tuple ds)
  | .list ds => some (.tuple ds)
  | _ => none
theorem cr_tuple : CallR X (.type "tuple") (liftC1 X.K tupleD) := by
  rintro pins s σ H vs us Q I rel ⟨F, x, d, o, rfl, sb, dx, eo, k⟩
  obtain ⟨u, rfl, ru⟩ := vals1 rel
  cases d with
  | tuple row =>
    cases eo
    obtain ⟨a, xs, rfl, tup, each⟩ := dv_tup dx
    cases ru
    obtain ⟨its, _, isT, _⟩ := I.tuple (sb.sqt (sqt_of tup))
    exact call_tuple_tup isT ⟨.ref a, H, I, rfl, k _ H F (.refl sb) (.tup tup each)⟩
  | list row =>
    cases eo
    obtain ⟨a, xs, rfl, lst, each⟩ := dv_lst sb dx
    cases ru
    obtain ⟨its, vals, isL, fits⟩ := I.list lst
    refine call_tuple_list isL.isList (fun h1 keeps => ?_) (by rw [List.size_toArray, ← vals.length]; exact fits)
    have I1 : L2.Inv X pins σ H { s with heap := h1 } := I.kept (t' := s.toks) keeps
    exact laid_ep I1 vals fits fun p ob nd hp => let ⟨G, q⟩ := new_tup nd sb hp each; k _ _ _ G q
  | _ => cases eo
def listD : D → Option D
  | .tuple ds => some (.list ds)
  | .list ds => some (.list ds)
  | _ => none
theorem cr_list : CallR X (.type "list") (liftC1 X.K listD) := by
  intro pins s σ H vs us Q I r h
  obtain ⟨F, x, d, o, rfl, sb, dx, eo, k⟩ := h
  unfold listD at eo
  split at eo
  · cases eo
    obtain ⟨a, vs, rfl, h1, h2⟩ := dv_tup dx
    refine call_list_of pins s σ H _ us Q I r ⟨a, vs, rfl, .inr (sb.sqt (sqt_of h1)), fun p hp => ?_⟩
    obtain ⟨G, q⟩ := new_lst sb hp h2
    exact k _ _ _ G q
  · cases eo
    obtain ⟨a, vs, rfl, h1, h2⟩ := dv_lst sb dx
    refine call_list_of pins s σ H _ us Q I r ⟨a, vs, rfl, .inl h1, fun p hp => ?_⟩
    obtain ⟨G, q⟩ := new_lst sb hp h2
    exact k _ _ _ G q
  · cases eo
/-- the truths of a row -/
def blsOf : List D → Option (List Bool)
  | [] => some []
  | .bool i :: r => (blsOf r).map (i :: ·)
  | _ :: _ => none
theorem blsOf_some : ∀ {ds : List D} {ns : List Bool}, blsOf ds = some ns → ds = ns.map PyData.bool
  | [], ns, h => by cases h; rfl
  | .bool i :: r, ns, h => by
    simp only [blsOf, Option.map_eq_some_iff] at h
    obtain ⟨ms, h1, rfl⟩ := h
    rw [blsOf_some h1]; rfl
  | .none :: _, _, h => nomatch h
  | .int _ :: _, _, h => nomatch h
  | .str _ :: _, _, h => nomatch h
  | .list _ :: _, _, h => nomatch h
  | .tuple _ :: _, _, h => nomatch h
  | .dict _ :: _, _, h => nomatch h
theorem dpa_bls {K : PySem.W.Frag} {F : Hp} : ∀ {ns : List Bool} {vs : List V}, DpAll K F vs (ns.map PyData.bool) → vs = ns.map V.bl
  | [], [], _ => rfl
  | n :: ns, v :: vs, h => by
    cases h with
    | cons x t => cases x.inv; rw [dpa_bls t]; rfl
  | [], _ :: _, h => nomatch h
  | _ :: _, [], h => nomatch h
def allD : D → Option D
  | .list ds => (blsOf ds).map fun bs => .bool (bs.all id)
  | _ => none
theorem cr_allD (hc : X.calm = true) : CallR X (.builtin "all") (liftC1 X.K allD) := by
  intro pins s σ H vs us Q I r h
  obtain ⟨F, x, d, o, rfl, sb, dx, eo, k⟩ := h
  unfold allD at eo
  split at eo
  · simp only [Option.map_eq_some_iff] at eo
    obtain ⟨bs, e1, rfl⟩ := eo
    cases blsOf_some e1
    obtain ⟨a, vs, rfl, h1, h2⟩ := dv_lst sb dx
    cases dpa_bls h2
    exact cr_all hc pins s σ H _ us Q I r ⟨a, bs, rfl, h1, k _ H F (.refl sb) (.bl _)⟩
  · cases eo
def min2D : D → D → Option D
  | .int i, .int j => some (.int (if j < i then j else i))
  | _, _ => none
def max2D : D → D → Option D
  | .int i, .int j => some (.int (if j > i then j else i))
  | _, _ => none
theorem cr_min2 (hc : X.calm = true) : CallR X (.builtin "min") (liftC2 X.K min2D) := by
  intro pins s σ H vs us Q I r h
  obtain ⟨x, y, rfl, F, d, e, o, sb, dx, dy, eo, k⟩ := h
  unfold min2D at eo
  split at eo
  · cases eo
    cases dv_int dx; cases dv_int dy
    exact call_min2 hc pins s σ H _ us Q I r ⟨_, _, rfl, k _ H F (.refl sb) (.int _)⟩
  · cases eo
theorem cr_max2 (hc : X.calm = true) : CallR X (.builtin "max") (liftC2 X.K max2D) := by
  intro pins s σ H vs us Q I r h
  obtain ⟨x, y, rfl, F, d, e, o, sb, dx, dy, eo, k⟩ := h
  unfold max2D at eo
  split at eo
  · cases eo
    cases dv_int dx; cases dv_int dy
    exact call_max2 hc pins s σ H _ us Q I r ⟨_, _, rfl, k _ H F (.refl sb) (.int _)⟩
  · cases eo
/-! ### isinstance(x, T), T one of int, bool, str, tuple, list -/
inductive Ty where
  | int | bool | str | tuple | list
def Ty.nm : Ty → String
  | .int => "int" | .bool => "bool" | .str => "str" | .tuple => "tuple" | .list => "list"
def isiD (t : Ty) (d : D) : Option D := some (.bool (match t, d with
  | .int, .int _ => true
  | .int, .bool _ => true
  | .bool, .bool _ => true
  | .str, .str _ => true
  | .tuple, .tuple _ => true
  | .list, .list _ => true
  | _, _ => false))
theorem ty_of {K : PySem.W.Frag} {H : Hp} {v : V} {d : D} (x : L2.Dp K H v d) : ∃ n, TyX K H v (.type n) ∧ n = (match d with | .none => "NoneType" | .bool _ => "bool" | .int _ => "int" | .str _ => "str" | .list _ => "list" | .tuple _ => "tuple" | .dict _ => "dict") := by
  cases x with
  | non => exact ⟨_, .base .non, rfl⟩
  | bl b => exact ⟨_, .base (.bl b), rfl⟩
  | int b => exact ⟨_, .base (.int b), rfl⟩
  | str b => exact ⟨_, .base (.str b), rfl⟩
  | lst h _ =>
    rcases h with (h | ⟨o, h⟩) | ⟨o, its, n, hk, hc, _⟩
    · exact ⟨_, .base (.lst h), rfl⟩
    · exact ⟨_, .base (.frz h), rfl⟩
    · exact ⟨_, .kList hk hc, rfl⟩
  | tup h _ =>
    rcases h with (h | ⟨o, h⟩) | ⟨o, its, n, hk, hc, _⟩
    · exact ⟨_, .base (.tup h), rfl⟩
    · exact ⟨_, .fTuple h, rfl⟩
    · exact ⟨_, .kTuple hk hc, rfl⟩
/-- the name of a datum's type -/
def tyN (d : D) : String := match d with
  | .int _ => Ty.nm .int
  | .bool _ => Ty.nm .bool
  | .tuple _ => Ty.nm .tuple
  | .str _ => Ty.nm .str
  | .none => "NoneType"
  | .list _ => "list"
  | .dict _ => "dict"
theorem kit_any {K : PySem.W.Frag} (t : Ty) (d : D) (hd : ∀ kvs, d ≠ .dict kvs) : ∃ b, isiD t d = some (.bool b) ∧ PySem.W.kitOne K (.type (tyN d)) (.type t.nm) = some b := by
  cases t <;> cases d <;> first
    | exact absurd rfl (hd _)
    | exact ⟨true, rfl, kit_ty (by simp only [tyN, Ty.nm]; decide +kernel)⟩
    | exact ⟨false, rfl, kit_ty (by simp only [tyN, Ty.nm]; decide +kernel)⟩
theorem cr_isi (t : Ty) : CallR X (.builtin "isinstance") (fun vs H Q => ∃ F x d o, vs = [x, .ty t.nm] ∧ SubH F H ∧ Dv X.K F H x d ∧ isiD t d = some o ∧ ∀ v H' F', Grow F H F' H' → Dp X.K F' v o → Q v H') := by
  intro pins s σ H vs us Q I r h
  obtain ⟨F, x, d, o, rfl, sb, dx, eo, k⟩ := h
  have dx' := dp_old (dx.dp sb)
  obtain ⟨n, hn, en⟩ := ty_of dx'
  obtain ⟨b, e1, e2⟩ := kit_any (K := X.K) t d (by intro kvs q; subst q; cases dx')
  rw [e1] at eo
  cases eo
  have : n = tyN d := by rw [en]; cases d <;> rfl
  subst this
  exact call_isi pins s σ H _ us Q I r ⟨x, _, _, _, b, rfl, .ty _, hn, e2, k _ H F (.refl sb) (.bl _)⟩
theorem se_isi (t : Ty) {x : Str} {p1 p2 : Pos} (hg : Gl X "isinstance") (hm : X.mg "isinstance" = none) (hg2 : Gl X x) (hm2 : X.mg x = none) (hv2 : bootBuiltins x = some (.type t.nm)) (ha : SW X a f)
    (he : starEach [a, .Name x p2] X.env = [(false, eval a X.env), (false, eval (.Name x p2) X.env)] := by rfl) (he2 : starEach [.Name x p2] X.env = [(false, eval (.Name x p2) X.env)] := by rfl) (hv : bootBuiltins "isinstance" = some (.builtin "isinstance") := by decide +kernel) (hn : x ≠ "__name__" := by decide) (hdb : (x == ("__debug__" : Str)) = false := by decide) :
    SE X (.Call (.Name "isinstance" p1) [a, .Name x p2] [] pos) (unM (isiD t) f) :=
  ⟨pe_imp (pe_callB (cr_isi t) hg hm hv (pa_cons ha.pe (pa_cons (pe_bltn (v := .ty t.nm) hg2 hm2 hv2 rfl hn hdb) pa_nil he2) (by rw [he, he2])) (by decide) (by decide) (by rw [he, he2]) (by rw [he2]; rfl)) fun s H Q ⟨z, r, F, d, r', R, e, k⟩ => by
    obtain ⟨x, e1, e2⟩ := unM_some e
    exact ⟨z, r, F, x, r', R, e1, fun v H' F' R' sb dv => ⟨F', v, x, d, rfl, R'.fh, dv, e2, fun v2 H2 F2 G dd => k v2 H2 F2 (R'.grow G) (sb.trans G.ff) dd⟩⟩⟩
/-! ### a < b < c -/
def chM (h1 h2 : D → D → Option Bool) (f g k : EM) : EM := fun r => (f r).bind fun p => (g p.2).bind fun q => (h1 p.1 q.1).bind fun b => if b = true then (k q.2).bind fun w => (h2 q.1 w.1).map fun c => (.bool c, w.2) else some (.bool false, q.2)
theorem ch_lift {h1 h2 : D → D → Option Bool} {k : EM} {s : L2.St} {H : Hp} {Q : VK} (q : liftE X.K (chM h1 h2 f g k) s H Q) : tChain (liftO X.K (bD h1)) (liftO X.K (bD h2)) (liftE X.K f) (liftE X.K g) (liftW X.K k) s H Q := by
  obtain ⟨z, r, F, d, r', R, e, kk⟩ := q
  unfold chM at e
  simp only [Option.bind_eq_some_iff] at e
  obtain ⟨⟨x, r1⟩, e1, ⟨y, r2⟩, e2, b, e3, e4⟩ := e
  refine ⟨z, r, F, x, r1, R, e1, fun v H1 F1 R1 sb1 dx => ⟨z, r1, F1, y, r2, R1, e2, fun w H2 F2 R2 sb2 dy => ⟨F2, x, y, .bool b, R2.fh, .inl (dp_mono sb2 dx), .inl dy, ?_, fun v' H3 F3 G dd => ⟨b, ?_, ?_⟩⟩⟩⟩
  · unfold bD; rw [e3]; rfl
  · cases dd.inv; rfl
  · have R3 := R2.grow G
    cases b with
    | false => cases e4; exact kk _ H3 F3 R3 ((sb1.trans sb2).trans G.ff) (.bl _)
    | true =>
      simp only [if_true, Option.bind_eq_some_iff, Option.map_eq_some_iff] at e4
      obtain ⟨⟨w, r3⟩, e5, c, e6, e7⟩ := e4
      cases e7
      exact ⟨z, r2, F3, w, _, R3, e5, fun v4 H4 F4 R4 sb4 dw => ⟨F4, y, w, .bool c, R4.fh, .inl (dp_mono (G.ff.trans sb4) dy), dw, by unfold bD; rw [e6]; rfl, fun v5 H5 F5 G5 d5 => kk v5 H5 F5 (R4.grow G5) ((((sb1.trans sb2).trans G.ff).trans sb4).trans G5.ff) d5⟩⟩
theorem se_chain {op op' : CmpOp} {h1 h2 : D → D → Option Bool} {k : EM} (ho : OpR X (compareOp op) (liftO X.K (bD h1))) (ho' : OpR X (compareOp op') (liftO X.K (bD h2))) (ha : SE X a f) (hb : SE X b g) (hc : SW X c k)
    (hl : lastMarks [op, op'] [b, c] = false := by rfl) : SE X (.Compare a [op, op'] [b, c] pos) (chM h1 h2 f g k) := ⟨pe_imp (pe_chain ho ho' ha.pe hb.pe hc.pe hl) fun s H Q q => ch_lift q⟩
end
end DL
namespace DL
open PySem L2 PyProof.Rows PySem.Spec
/-! ### what is walked: data (q false), or data and new pairs, which only a tuple target takes (q true) -/
def Dz (K : PySem.W.Frag) (q : Bool) (F : Hp) (v : V) (d : D) : Prop := Dp K F v d ∨ (q = true ∧ ∃ a vs ds, v = .ref a ∧ d = .tuple ds ∧ F a = some (.tup vs) ∧ DpAll K F vs ds)
structure WalkD (K : PySem.W.Frag) (q : Bool) (F0 : Hp) (J : It) (ds : List D) : Prop where
  w : ∃ Y, Walk J ds.length (fun H => SubH F0 H) Y ∧ ∀ i H x H', Y i H x H' → ∀ F, SubH F0 F → SubH F H → ∃ F' d, ds[i]? = some d ∧ Grow F H F' H' ∧ Dz K q F' x d
def liftI (K : PySem.W.Frag) (q : Bool) (f : AM) : TI := fun s H R => ∃ z r F ds r', Rep K z r s H F ∧ f r = some (ds, r') ∧ ∀ J H' F', Rep K z r' s H' F' → SubH F F' → WalkD K q F' J ds → R J H'
structure SI (X : Cx) (q : Bool) (tg iter : Expr) (f : AM) : Prop where
  pi : PI X tg iter (liftI X.K q f)
section
variable {X : Cx} {a b c e tg : Expr} {es : List Expr} {f g h : EM} {pos : Pos}
/-- the items of a list or a tuple -/
def seqM (f : EM) : AM := fun r => (f r).bind fun p => (itemsOf p.1).map fun ds => (ds, p.2)
theorem seqM_some {r r' : Rho} {ds : List D} (q : seqM f r = some (ds, r')) : ∃ x, f r = some (x, r') ∧ itemsOf x = some ds := by
  unfold seqM at q
  simp only [Option.bind_eq_some_iff, Option.map_eq_some_iff] at q
  obtain ⟨⟨x, r1⟩, e1, o', e2, e3⟩ := q
  cases e3; exact ⟨x, e1, e2⟩
theorem walkD_list {K : PySem.W.Frag} {F : Hp} {a : Addr} {vs : List V} {ds : List D} (h1 : SqL K F a vs) (h2 : DpAll K F vs ds) : WalkD K false F (Itl K a) ds := by
  refine ⟨⟨YAt vs, ?_, ?_⟩⟩
  · rw [← dpa_len h2]
    exact walk_list.mono (fun H hs => hs.sql h1) fun _ _ _ _ _ _ y => y
  · rintro i H x H' ⟨rfl, hx⟩ F' sb sh
    obtain ⟨d, e1, e2⟩ := dpa_at h2 hx
    exact ⟨F', d, e1, .refl sh, .inl (dp_mono sb e2)⟩
theorem walkD_tup {K : PySem.W.Frag} {F : Hp} {a : Addr} {vs : List V} {ds : List D} (h1 : TupAt F a vs) (h2 : DpAll K F vs ds) : WalkD K false F (Itt K a) ds := by
  refine ⟨⟨YAt vs, ?_, ?_⟩⟩
  · rw [← dpa_len h2]
    exact walk_tup.mono (fun H hs => hs.sqt (sqt_of h1)) fun _ _ _ _ _ _ y => y
  · rintro i H x H' ⟨rfl, hx⟩ F' sb sh
    obtain ⟨d, e1, e2⟩ := dpa_at h2 hx
    exact ⟨F', d, e1, .refl sh, .inl (dp_mono sb e2)⟩
theorem si_seq (ha : SE X e f) : SI X false tg e (seqM f) := ⟨⟨fun pins s σ H R I h => by
  obtain ⟨z, r, F, ds, r', Rr, e, k⟩ := h
  obtain ⟨x, e1, e2⟩ := seqM_some e
  unfold itemsOf at e2
  split at e2
  · cases e2
    refine (pi_tup ha.pe).run pins s σ H R I ⟨z, r, F, _, r', Rr, e1, fun v H' F' R' sb dv => ?_⟩
    obtain ⟨_, _, rfl, h1, h2⟩ := dv.inv; exact ⟨_, rfl, ⟨_, R'.fh.sqt (sqt_of h1)⟩, k _ H' F' R' sb (walkD_tup h1 h2)⟩
  · cases e2
    refine (pi_list ha.pe).run pins s σ H R I ⟨z, r, F, _, r', Rr, e1, fun v H' F' R' sb dv => ?_⟩
    obtain ⟨_, _, rfl, h1, h2⟩ := dv.inv; exact ⟨_, rfl, ⟨_, R'.fh.sql h1⟩, k _ H' F' R' sb (walkD_list h1 h2)⟩
  · cases e2⟩⟩
/-- range -/
def rngL (lo hi : Int) : List D := (List.range (hi - lo).toNat).map fun i => .int (lo + (i : Nat))
def rngOk (i : Int) : Bool := decide (-1000000 ≤ i) && decide (i ≤ 1000000)
theorem rngOk_le {i : Int} (h : rngOk i = true) : -(2 ^ 62) ≤ i ∧ i < 2 ^ 62 := by
  obtain ⟨h1, h2⟩ := Bool.and_eq_true_iff.mp h
  have h1 := of_decide_eq_true h1
  have h2 := of_decide_eq_true h2
  omega
def rng1M (f : EM) : AM := fun r => (f r).bind fun p => match p.1 with
  | .int j => if rngOk j then some (rngL 0 j, p.2) else none
  | _ => none
def rng2M (f g : EM) : AM := fun r => (f r).bind fun p => (g p.2).bind fun q => match p.1, q.1 with
  | .int i, .int j => if rngOk i && rngOk j then some (rngL i j, q.2) else none
  | _, _ => none
theorem walkD_range {K : PySem.W.Frag} {F : Hp} {lo hi : Int} : WalkD K false F (Itr lo (hi - lo).toNat) (rngL lo hi) := by
  have hl : (rngL lo hi).length = (hi - lo).toNat := by unfold rngL; simp
  refine ⟨⟨fun i H x H' => i < (hi - lo).toNat ∧ YFn (fun i => V.int (lo + (i : Nat))) i H x H', ?_, ?_⟩⟩
  · rw [hl]
    exact walk_range.mono (fun H hs => trivial) fun _ _ _ _ hi _ y => ⟨hi, y⟩
  · rintro i H x H' ⟨hlt, rfl, hx⟩ F' sb sh
    subst hx
    exact ⟨F', .int (lo + (i : Nat)), by unfold rngL; simp [hlt], .refl sh, .inl (.int _)⟩
theorem si_range1 {p : Pos} (hg : Gl X "range") (hm : X.mg "range" = none) (ha : SE X a f) (hs : starEach [a] X.env = [(false, eval a X.env)] := by rfl) : SI X false tg (.Call (.Name "range" p) [a] [] pos) (rng1M f) := ⟨⟨fun pins s σ H R I h => by
  obtain ⟨z, r, F, ds, r', Rr, e, k⟩ := h
  unfold rng1M at e
  simp only [Option.bind_eq_some_iff] at e
  obtain ⟨⟨x, r1⟩, e1, e2⟩ := e
  split at e2
  · rename_i j hx
    have hx : x = .int j := hx
    subst hx
    split at e2
    · rename_i ok
      cases e2
      have := rngOk_le ok
      refine (pi_range1 hg hm (pa_cons ha.pe pa_nil hs) hs).run pins s σ H R I ⟨z, r, F, _, r1, Rr, e1, fun v H' F' R' sb dv => ?_⟩
      cases dv.inv
      refine ⟨j, rfl, this.1, this.2, k _ H' F' R' sb ?_⟩
      have w := walkD_range (K := X.K) (F := F') (lo := 0) (hi := j)
      rw [Int.sub_zero] at w
      exact w
    · cases e2
  · cases e2⟩⟩
theorem si_range2 {p : Pos} (hg : Gl X "range") (hm : X.mg "range" = none) (ha : SE X a f) (hb : SE X b g) (hs : starEach [a, b] X.env = [(false, eval a X.env), (false, eval b X.env)] := by rfl) (hs2 : starEach [b] X.env = [(false, eval b X.env)] := by rfl) : SI X false tg (.Call (.Name "range" p) [a, b] [] pos) (rng2M f g) := ⟨⟨fun pins s σ H R I h => by
  obtain ⟨z, r, F, ds, r', Rr, e, k⟩ := h
  unfold rng2M at e
  simp only [Option.bind_eq_some_iff] at e
  obtain ⟨⟨x, r1⟩, e1, ⟨y, r2⟩, e2, e3⟩ := e
  split at e3
  · rename_i i j hx hy
    have hx : x = .int i := hx
    have hy : y = .int j := hy
    subst hx hy
    split at e3
    · rename_i ok
      cases e3
      obtain ⟨o1, o2⟩ := Bool.and_eq_true_iff.mp ok
      have q1 := rngOk_le o1
      have q2 := rngOk_le o2
      refine (pi_range2 hg hm (pa_cons ha.pe (pa_cons hb.pe pa_nil hs2) (by rw [hs, hs2])) hs hs2).run pins s σ H R I ⟨z, r, F, _, r1, Rr, e1, fun v H' F' R' sb dv => ⟨z, r1, F', _, r2, R', e2, fun v2 H2 F2 R2 sb2 dv2 => ?_⟩⟩
      cases dv.inv; cases dv2.inv
      exact ⟨i, j, rfl, ⟨q1.1, q1.2, q2.1, q2.2⟩, k _ H2 F2 R2 (sb.trans sb2) walkD_range⟩
    · cases e3
  · cases e3⟩⟩
/-- pairs -/
def pairD (x y : D) : D := .tuple [x, y]
def zipL (xs ys : List D) : List D := List.zipWith pairD xs ys
theorem pair_step {K : PySem.W.Frag} {F H : Hp} {T : Addr} {x y : V} {dx dy : D} (sb : SubH F H) (hT : H T = none) (h1 : Dp K F x dx) (h2 : Dp K F y dy) : ∃ F', Grow F H F' (upd H T (.tup [x, y])) ∧ Dz K true F' (.ref T) (pairD dx dy) :=
  have G := Grow.new (o := HO.tup [x, y]) sb hT
  ⟨_, G, .inr ⟨rfl, T, _, _, rfl, rfl, upd_same, .cons (dp_mono G.ff h1) (.cons (dp_mono G.ff h2) .nil)⟩⟩
theorem zipL_get {xs ys : List D} {i : Nat} {x y : D} (h1 : xs[i]? = some x) (h2 : ys[i]? = some y) : (zipL xs ys)[i]? = some (pairD x y) := by
  unfold zipL
  rw [List.getElem?_zipWith, h1, h2]
theorem walk_zipT {K : PySem.W.Frag} {a b : Addr} {xs ys : List V} {n : Nat} (hn : n = min xs.length ys.length) : Walk (RZ.ItzT K a b) n (fun H => SqT K H a xs ∧ SqT K H b ys) (YPair (fun i => xs[i]?) (fun i => ys[i]?)) where
  goes := by
    rintro m H lt ⟨sa, sb⟩
    have lx : m < xs.length := Nat.lt_of_lt_of_le (hn ▸ lt) (Nat.min_le_left ..)
    have ly : m < ys.length := Nat.lt_of_lt_of_le (hn ▸ lt) (Nat.min_le_right ..)
    exact ⟨xs, ys, _, _, sa, sb, List.getElem?_eq_getElem lx, List.getElem?_eq_getElem ly⟩
  stops := by
    rintro H ⟨sa, sb⟩
    exact ⟨xs, ys, sa, sb, by rcases Nat.le_total xs.length ys.length with l | l <;> simp [hn, l]⟩
  yields := by
    rintro m H v H' - ⟨sa, sb⟩ ⟨T, p, q, ev, eT, eH, fx, fy⟩
    exact ⟨T, p, q, ev, eT, eH, fx _ sa, fy _ sb⟩
theorem walkD_pair {K : PySem.W.Frag} {F : Hp} {J : It} {vs ws : List V} {ds es : List D} {n : Nat} (h1 : DpAll K F vs ds) (h2 : DpAll K F ws es) (hn : n = min vs.length ws.length) (w : Walk J n (fun H => SubH F H) (YPair (fun i => vs[i]?) (fun i => ws[i]?))) : WalkD K true F J (zipL ds es) := by
  have hl : (zipL ds es).length = n := by unfold zipL; rw [List.length_zipWith, ← dpa_len h1, ← dpa_len h2, hn]
  refine ⟨⟨_, by rw [hl]; exact w, ?_⟩⟩
  rintro i H x H' ⟨T, x, y, rfl, hT, rfl, hx, hy⟩ F' sb sh
  obtain ⟨d, e1, e2⟩ := dpa_at h1 hx
  obtain ⟨d', e1', e2'⟩ := dpa_at h2 hy
  obtain ⟨F2, G, q⟩ := pair_step sh hT (dp_mono sb e2) (dp_mono sb e2')
  exact ⟨F2, _, zipL_get e1 e1', G, q⟩
def zipM (f g : EM) : AM := fun r => (f r).bind fun p => (g p.2).bind fun q => match p.1, q.1 with
  | .tuple xs, .tuple ys => some (zipL xs ys, q.2)
  | .list xs, .list ys => some (zipL xs ys, q.2)
  | _, _ => none
theorem si_zip {p tpos : Pos} {elts : List Expr} {kk : Nat} (hg : Gl X "zip") (hm : X.mg "zip" = none) (ha : SE X a f) (hb : SE X b g) (hs : starEach [a, b] X.env = (false, eval a X.env) :: starEach [b] X.env := by rfl) (hs2 : starEach [b] X.env = [(false, eval b X.env)] := by rfl) :
    SI X true (.Tuple elts kk tpos) (.Call (.Name "zip" p) [a, b] [] pos) (zipM f g) := ⟨⟨fun pins s σ H R I h => by
  obtain ⟨z, r, F, ds, r', Rr, e, k⟩ := h
  unfold zipM at e
  simp only [Option.bind_eq_some_iff] at e
  obtain ⟨⟨x, r1⟩, e1, ⟨y, r2⟩, e2, e3⟩ := e
  split at e3
  · rename_i xs ys hx hy
    have hx : x = .tuple xs := hx
    have hy : y = .tuple ys := hy
    subst hx hy
    cases e3
    refine (RZ.pi_zipA hg hm (pa_cons ha.pe (pa_cons hb.pe pa_nil hs2) hs) hs (by rw [hs2]; rfl)).run pins s σ H R I ⟨z, r, F, _, r1, Rr, e1, fun v H' F' R' sb dv => ⟨z, r1, F', _, r2, R', e2, fun v2 H2 F2 R2 sb2 dv2 => ?_⟩⟩
    have dv := dp_mono sb2 dv
    obtain ⟨_, _, rfl, h1, h2⟩ := dv.inv
    obtain ⟨_, _, rfl, h3, h4⟩ := dv2.inv
    exact ⟨_, _, _, _, rfl, .inr ⟨R2.fh.sqt (sqt_of h1), R2.fh.sqt (sqt_of h3), k _ H2 F2 R2 (sb.trans sb2) (walkD_pair h2 h4 rfl ((walk_zipT rfl).mono (fun H hs => ⟨hs.sqt (sqt_of h1), hs.sqt (sqt_of h3)⟩) fun _ _ _ _ _ _ y => y))⟩⟩
  · rename_i xs ys hx hy
    have hx : x = .list xs := hx
    have hy : y = .list ys := hy
    subst hx hy
    cases e3
    refine (RZ.pi_zipA hg hm (pa_cons ha.pe (pa_cons hb.pe pa_nil hs2) hs) hs (by rw [hs2]; rfl)).run pins s σ H R I ⟨z, r, F, _, r1, Rr, e1, fun v H' F' R' sb dv => ⟨z, r1, F', _, r2, R', e2, fun v2 H2 F2 R2 sb2 dv2 => ?_⟩⟩
    have dv := dp_mono sb2 dv
    obtain ⟨_, _, rfl, h1, h2⟩ := dv.inv
    obtain ⟨_, _, rfl, h3, h4⟩ := dv2.inv
    exact ⟨_, _, _, _, rfl, .inl ⟨R2.fh.sql h1, R2.fh.sql h3, k _ H2 F2 R2 (sb.trans sb2) (walkD_pair h2 h4 rfl ((walk_zip rfl).mono (fun H hs => ⟨hs.sql h1, hs.sql h3⟩) fun _ _ _ _ _ _ y => y))⟩⟩
  · cases e3⟩⟩
/-! ### targets -/
abbrev GM := Rho → D → Option Rho
def liftGw (K : PySem.W.Frag) (q : Bool) (t : GM) (is : List Nat) : TG := fun v s H Q => ∃ z r F d r', Rep K z r s H F ∧ Dz K q F v d ∧ t r d = some r' ∧ ∀ s', wipe s' is = wipe s is → Rep K z r' s' H F → Q s' H
structure SG (X : Cx) (q : Bool) (tg : Expr) (t : GM) (is : List Nat) : Prop where
  pg : PG X tg (liftGw X.K q t is)
theorem Dz.dp {K : PySem.W.Frag} {F : Hp} {v : V} {d : D} (h : Dz K false F v d) : Dp K F v d := h.elim id fun ⟨q, _⟩ => nomatch q
def nameG (i : Nat) : GM := fun r d => some (r.set i (some (.d d)))
theorem pg_imp {tg : Expr} {t t' : TG} (h : PG X tg t) (k : ∀ v s H Q, t' v s H Q → t v s H Q) : PG X tg t' := ⟨fun pins s σ H v u Q I r hq => h.run pins s σ H v u Q I r (k _ _ _ _ hq)⟩
theorem wipe_set {s : L2.St} {i : Nat} {v : Option V} : ∀ {is : List Nat}, i ∈ is → wipe (s.set i v) is = wipe s is := by
  have getw : ∀ (is : List Nat) (s : L2.St) (j : Nat), (wipe s is)[j]? = if j < s.length then (if j ∈ is then some none else s[j]?) else none := by
    intro is
    induction is with
    | nil => intro s j; unfold wipe; by_cases h : j < s.length <;> simp [h]
    | cons v vs ih =>
      intro s j
      unfold wipe
      rw [List.getElem?_set]
      have hl : (wipe s vs).length = s.length := wipe_length s vs
      by_cases h : v = j
      · subst h
        by_cases h2 : v < s.length
        · simp [h2, hl]
        · simp [h2, hl]
      · rw [if_neg h, ih]
        have : (j ∈ v :: vs) ↔ j ∈ vs := by simp [Ne.symm h]
        simp [this]
  intro is hi
  apply List.ext_getElem?
  intro j
  rw [getw, getw]
  simp only [List.length_set]
  by_cases h : j < s.length
  · simp only [h, if_true]
    by_cases h2 : j ∈ is
    · simp [h2]
    · have : i ≠ j := fun e => h2 (e ▸ hi)
      simp [h2, List.getElem?_set, this]
  · simp [h]
theorem sg_name (i : Nat) {x : Str} {is : List Nat} (hN : X.N.Nodup) (hi : X.N[i]? = some x) (hx : Loc X.env.scope x) (his : i ∈ is) (hf : X.fn x = true ∨ X.env.scope.names.lookup x = some .local := by first | exact .inl rfl | exact .inr rfl | assumption) : SG X false (.Name x pos) (nameG i) is :=
  ⟨pg_imp (pg_name hN hi hx hf) fun v s H Q ⟨z, r, F, d, r', R, dv, e, k⟩ => by
    cases e
    exact k _ (wipe_set his) (R.put dv.dp)⟩
abbrev GMs := Rho → List D → Option Rho
structure SGs (X : Cx) (tgs : List Expr) (t : GMs) (is : List Nat) : Prop where
  pg : PGs X tgs (fun vs s H Q => ∃ z r F ds r', Rep X.K z r s H F ∧ DpAll X.K F vs ds ∧ t r ds = some r' ∧ ∀ s', wipe s' is = wipe s is → Rep X.K z r' s' H F → Q s' H)
theorem pgs_imp {tg : List Expr} {t t' : TGs} (h : PGs X tg t) (k : ∀ v s H Q, t' v s H Q → t v s H Q) : PGs X tg t' := ⟨fun pins s σ H v u Q I r hq => h.run pins s σ H v u Q I r (k _ _ _ _ hq)⟩
def nilG : GMs := fun r ds => match ds with
  | [] => some r
  | _ => none
def consG (t : GM) (u : GMs) : GMs := fun r ds => match ds with
  | d :: ds => (t r d).bind fun r1 => u r1 ds
  | _ => none
theorem sgs_nil {is : List Nat} : SGs X [] nilG is := ⟨pgs_imp pgs_nil fun v s H Q ⟨z, r, F, d, r', R, dv, e, k⟩ => by
  unfold nilG at e
  split at e
  · cases e; cases dv; exact ⟨rfl, k _ rfl R⟩
  · cases e⟩
theorem sgs_cons {t : GM} {u : GMs} {is : List Nat} (h1 : SG X false e t is) (h2 : SGs X es u is)
    (hs : (assignEach (e :: es) X.env).map (·.2) = assign e X.env :: (assignEach es X.env).map (·.2) := by rfl) : SGs X (e :: es) (consG t u) is := ⟨pgs_imp (pgs_cons h1.pg h2.pg hs) fun v s H Q ⟨z, r, F, d, r', R, dv, e, k⟩ => by
  unfold consG at e
  split at e
  · simp only [Option.bind_eq_some_iff] at e
    obtain ⟨r1, e1, e2⟩ := e
    cases dv with
    | cons d1 d2 => exact ⟨_, _, rfl, z, r, F, _, r1, R, .inl d1, e1, fun s' hw R' => ⟨z, r1, F, _, r', R', d2, e2, fun s2 hw2 R2 => k s2 (hw2.trans hw) R2⟩⟩
  · cases e⟩
def tupG (n : Nat) (t : GMs) : GM := fun r d => match d with
  | .tuple ds => if ds.length = n then t r ds else none
  | _ => none
theorem sg_tup {q : Bool} {k : Nat} {t : GMs} {n : Nat} {is : List Nat} (hc : X.calm = true) (h : SGs X es t is) (hn : (assignEach es X.env).length = n := by rfl) (hst : (assignEach es X.env).findIdx? (·.1) = none := by rfl) : SG X q (.Tuple es k pos) (tupG n t) is :=
  ⟨pg_imp (pg_tup hc h.pg hn hst) fun v s H Q ⟨z, r, F, d, r', R, dv, e, k⟩ => by
    unfold tupG at e
    split at e
    · split at e
      · rename_i hl
        rcases dv with dv | ⟨_, a, vs, ds, rfl, eq, plain, h2⟩
        · obtain ⟨_, _, rfl, h1, h2⟩ := dv.inv
          exact ⟨_, _, rfl, R.fh.sqt (sqt_of h1), by rw [dpa_len h2]; exact hl, z, r, F, _, r', R, h2, e, k⟩
        · cases eq
          exact ⟨_, _, rfl, .inl (.inl (R.fh _ _ plain)), by rw [dpa_len h2]; exact hl, z, r, F, _, r', R, h2, e, k⟩
      · cases e
    · cases e⟩
end
end DL
namespace DL
open PySem L2 PyProof.Rows PySem.Spec
/-! ### list comprehensions -/
def wipeR (r : Rho) : List Nat → Rho
  | [] => r
  | v :: vs => (wipeR r vs).set v none
def restR (r2 r1 : Rho) : List Nat → Rho
  | [] => r2
  | v :: vs => (restR r2 r1 vs).set v (r1[v]?.getD none)
def compL (g : GM) (t : TM) (el : EM) (is : List Nat) : List D → Rho → Option (List D × Rho)
  | [], r => some ([], r)
  | x :: xs, r => (g r x).bind fun r1 => (t r1).bind fun p => if p.1 = true then (el p.2).bind fun q => (compL g t el is xs (wipeR q.2 is)).map fun w => (q.1 :: w.1, w.2) else compL g t el is xs (wipeR p.2 is)
def plainAt (r : Rho) (is : List Nat) : Bool := is.all fun i => match r[i]? with
  | some (some sv) => !sv.own
  | _ => true
def compM (is : List Nat) (it : AM) (g : GM) (t : TM) (el : EM) : AM := fun r => (it r).bind fun p => if plainAt p.2 is && szOk p.1.length then (compL g t el is p.1 (wipeR p.2 is)).map fun w => (w.1, restR w.2 p.2 is) else none
theorem wipeR_length (r : Rho) : ∀ is, (wipeR r is).length = r.length
  | [] => rfl
  | v :: vs => by unfold wipeR; rw [List.length_set, wipeR_length r vs]
theorem wipeR_get {r : Rho} {j : Nat} {sv : SV} : ∀ {is : List Nat}, (wipeR r is)[j]? = some (some sv) → r[j]? = some (some sv) ∧ j ∉ is
  | [], h => ⟨h, by simp⟩
  | v :: vs, h => by
    unfold wipeR at h
    rcases get_set_cases h with ⟨_, e⟩ | ⟨ne, e⟩
    · cases e
    · obtain ⟨h1, h2⟩ := wipeR_get e
      exact ⟨h1, by simp [ne, h2]⟩
theorem wipe_get {s : L2.St} {j : Nat} {v : V} : ∀ {is : List Nat}, s[j]? = some (some v) → j ∉ is → (wipe s is)[j]? = some (some v)
  | [], h, _ => h
  | i :: is, h, hn => by
    unfold wipe
    simp only [List.mem_cons, not_or] at hn
    rw [List.getElem?_set_ne (Ne.symm hn.1)]
    exact wipe_get h hn.2
theorem wipe_wipe {s : L2.St} : ∀ {is js : List Nat}, (∀ i ∈ js, i ∈ is) → wipe (wipe s js) is = wipe s is
  | is, [], _ => rfl
  | is, j :: js, h => by
    show wipe ((wipe s js).set j none) is = _
    rw [wipe_set (h j (by simp)), wipe_wipe fun i hi => h i (by simp [hi])]
section
variable {K : PySem.W.Frag} {z : Fx} {r : Rho} {s : L2.St} {H F : Hp}
theorem Rep.weaken {r' : Rho} {s' : L2.St} (R : Rep K z r s H F) (hl : r'.length = s'.length) (h : ∀ (j : Nat) (sv : SV), r'[j]? = some (some sv) → r[j]? = some (some sv) ∧ ∀ v, s[j]? = some (some v) → s'[j]? = some (some v)) : Rep K z r' s' H F := by
  have key : ∀ {j : Nat} {sv : SV} {v : V}, r'[j]? = some (some sv) → s'[j]? = some (some v) → s[j]? = some (some v) := fun {j sv v} e q => by
    obtain ⟨h1, h2⟩ := h j sv e
    obtain ⟨w, hw, _⟩ := R.slots j sv h1
    have := h2 w hw
    rw [q] at this; cases this; exact hw
  refine ⟨R.fh, R.old, R.f0, R.nw, fun i sv e => ?_, fun i j x y a e1 e2 o1 o2 s1 s2 => ?_, hl⟩
  · obtain ⟨h1, h2⟩ := h i sv e
    obtain ⟨v, hv, q⟩ := R.slots i sv h1
    exact ⟨v, h2 v hv, q⟩
  · exact R.apart i j x y a (h i x e1).1 (h j y e2).1 o1 o2 (key e1 s1) (key e2 s2)
theorem Rep.wipe (R : Rep K z r s H F) (is : List Nat) : Rep K z (wipeR r is) (L2.wipe s is) H F :=
  R.weaken (by rw [wipeR_length, wipe_length, R.len]) fun j sv e => by
    obtain ⟨h1, h2⟩ := wipeR_get e
    exact ⟨h1, fun v hv => wipe_get hv h2⟩
/-- a loose list grows -/
theorem Rep.loosePut (R : Rep K z r s H F) {p : Addr} {o : HO} (hf : F p = none) (h0 : z.H0 p = none) (ho : ¬ OwnAt r s p) : Rep K z r s (upd H p o) F where
  fh := fun b u q => by
    have : b ≠ p := fun e => by rw [e, hf] at q; cases q
    rw [upd_ne this]; exact R.fh b u q
  old := fun b u q => by
    have : b ≠ p := fun e => by rw [e, h0] at q; cases q
    rw [upd_ne this]; exact R.old b u q
  f0 := R.f0
  nw := R.nw
  slots := fun i sv q => by
    obtain ⟨v, h1, h2⟩ := R.slots i sv q
    refine ⟨v, h1, h2.mono (.refl _) (fun a e hown u hu => ?_) fun a _ _ hf' _ _ _ => hf'⟩
    have : a ≠ p := fun z => ho ⟨i, sv, q, hown, by rw [h1, e, z]⟩
    rw [upd_ne this]; exact hu
  apart := R.apart
  len := R.len
/-- what a step over the bare base leaves of a loose object -/
theorem Rep.loose_kept {r' : Rho} {s' : L2.St} {H' F' : Hp} (R : Rep K z r s H F) (R' : Rep K ⟨bare r s H, F, z.rf⟩ r' s' H' F') {p : Addr} {o : HO} (hp : H p = some o) (hf : F p = none) (ho : ¬ OwnAt r s p) (hnt : ¬ IsTu o) : H' p = some o ∧ F' p = none ∧ ¬ OwnAt r' s' p := by
  have hb : bare r s H p = some o := by rw [bare_not ho]; exact hp
  refine ⟨R'.old p o hb, ?_, fun q => ?_⟩
  · cases e : F' p with
    | none => rfl
    | some u =>
      rcases R'.nw p u e with h | h | h
      · have h : F p = some u := h
        rw [hf] at h; cases h
      · have h : bare r s H p = none := h
        rw [hb] at h; cases h
      · have := R'.fh p u e
        rw [R'.old p o hb] at this; cases this
        exact absurd h hnt
  · have h : bare r s H p = none := (R'.own_facts q).2.2
    rw [hb] at h; cases h
theorem restR_length (r2 r1 : Rho) : ∀ is, (restR r2 r1 is).length = r2.length
  | [] => rfl
  | v :: vs => by unfold restR; rw [List.length_set, restR_length r2 r1 vs]
theorem restR_get {r2 r1 : Rho} {j : Nat} {sv : SV} : ∀ {is : List Nat}, (restR r2 r1 is)[j]? = some (some sv) → (j ∈ is ∧ r1[j]? = some (some sv)) ∨ (j ∉ is ∧ r2[j]? = some (some sv))
  | [], h => .inr ⟨by simp, h⟩
  | v :: vs, h => by
    unfold restR at h
    rcases get_set_cases h with ⟨rfl, e⟩ | ⟨ne, e⟩
    · left
      refine ⟨by simp, ?_⟩
      cases q : r1[j]? with
      | none => rw [q] at e; cases e
      | some o => rw [q] at e; simp only [Option.getD_some] at e; rw [← e]
    · rcases restR_get e with ⟨h1, h2⟩ | ⟨h1, h2⟩
      · exact .inl ⟨by simp [h1], h2⟩
      · exact .inr ⟨by simp [ne, h1], h2⟩
/-- behind the comprehension: the def's own slots again -/
theorem Rep.unwipe {r1 r2 : Rho} {H' F' : Hp} {is : List Nat} (R1 : Rep K z r1 s H F) (R2 : Rep K z r2 (L2.wipe s is) H' F') (sb : SubH F F') (hp : plainAt r1 is = true) : Rep K z (restR r2 r1 is) s H' F' := by
  have key : ∀ {j : Nat} {sv : SV}, (restR r2 r1 is)[j]? = some (some sv) → (∃ x, sv = .d x ∧ r1[j]? = some (some sv)) ∨ (r2[j]? = some (some sv)) := fun {j sv} e => by
    rcases restR_get e with ⟨h1, h2⟩ | ⟨h1, h2⟩
    · left
      have := List.all_eq_true.mp hp j h1
      rw [h2] at this
      cases sv with
      | d x => exact ⟨x, rfl, h2⟩
      | l b xs => cases this
      | m b t xs => cases this
    · exact .inr h2
  have own2 : ∀ {j : Nat} {sv : SV}, (restR r2 r1 is)[j]? = some (some sv) → sv.own = true → r2[j]? = some (some sv) := fun {j sv} e o => by
    rcases key e with ⟨x, rfl, _⟩ | h
    · cases o
    · exact h
  have sl2 : ∀ {j : Nat} {sv : SV} {v : V}, r2[j]? = some (some sv) → s[j]? = some (some v) → (L2.wipe s is)[j]? = some (some v) := fun {j sv v} e q => by
    obtain ⟨w, hw, _⟩ := R2.slots j sv e
    obtain ⟨h1, _⟩ := wipe_some hw
    rw [q] at h1; cases h1; exact hw
  refine ⟨R2.fh, R2.old, R2.f0, R2.nw, fun j sv e => ?_, fun i j x y a e1 e2 o1 o2 s1 s2 => ?_, ?_⟩
  · rcases key e with ⟨x, rfl, h⟩ | h
    · obtain ⟨v, h1, h2⟩ := R1.slots j _ h
      exact ⟨v, h1, dp_mono sb h2⟩
    · obtain ⟨v, h1, h2⟩ := R2.slots j sv h
      exact ⟨v, (wipe_some h1).1, h2⟩
  · exact R2.apart i j x y a (own2 e1 o1) (own2 e2 o2) o1 o2 (sl2 (own2 e1 o1) s1) (sl2 (own2 e2 o2) s2)
  · rw [restR_length, R2.len, wipe_length]
end
section
variable {X : Cx} {elt tg iter : Expr} {ifs : List Expr} {scope : Scope} {pos : Pos} {it : AM} {g : GM} {t : TM} {el : EM}
structure STs (X : Cx) (ifs : List Expr) (f : TM) : Prop where
  pts : PTs X ifs (liftT X.K f)
def yesM : TM := fun r => some (true, r)
theorem pts_imp {e : List Expr} {t t' : TT} (h : PTs X e t) (k : ∀ s H Q, t' s H Q → t s H Q) : PTs X e t' := ⟨fun pins s σ H Q I hq => h.run pins s σ H Q I (k _ _ _ hq)⟩
theorem sts_nil : STs X [] yesM := ⟨pts_imp pts_nil fun s H Q ⟨z, r, F, d, r', R, e, k⟩ => by cases e; exact k H F R (.refl _)⟩
theorem sts_one {c : Expr} {f : TM} (h : ST X c f) : STs X [c] f := ⟨pts_one h.pt⟩
theorem comp_core {pw : Bool} {own : List (Str × Nat)} {s : L2.St} {H : Hp} {Q : VK} (q : liftL X.K (compM (own.map (·.2)) it g t el) s H Q) :
    tLc (liftI X.K pw it) (liftGw X.K pw g (own.map (·.2))) (liftT X.K t) (liftE X.K el) (own.map (·.2)) s H Q := by
  generalize own.map (·.2) = is at q ⊢
  obtain ⟨z, r, F, d, r', R, e, k⟩ := q
  unfold compM at e
  simp only [Option.bind_eq_some_iff] at e
  obtain ⟨⟨ds, r1⟩, e1, e2⟩ := e
  split at e2
  · rename_i hok
    obtain ⟨hp, hz⟩ := Bool.and_eq_true_iff.mp hok
    have hz : ds.length ≤ 1000000 := of_decide_eq_true hz
    simp only [Option.map_eq_some_iff] at e2
    obtain ⟨⟨out, r2⟩, e3, e4⟩ := e2
    cases e4
    refine ⟨z, r, F, ds, r1, R, e1, fun J H1 F1 R1 sb1 w D hD => ?_⟩
    obtain ⟨Y, W, hY⟩ := w.w
    refine lc_it (g := liftGw X.K pw g is) (tt := liftT X.K t) (te := liftE X.K el) (vs := is) (σ := s) (H1 := H1) (D := D) (Qd := fun H => Q (.ref D) H) W (fun i H => ∃ r F done rest vs, Rep X.K z r (wipe s is) H F ∧ SubH F1 F ∧ compL g t el is (ds.drop i) r = some (rest, r2) ∧ done ++ rest = out ∧ H D = some (.lst vs) ∧ F D = none ∧ z.H0 D = none ∧ ¬ OwnAt r (wipe s is) D ∧ DpAll X.K F vs done ∧ vs.length ≤ i)
      ?_ (fun i H _ ⟨r, F, done, rest, vs, Rr, sb, _⟩ => sb.trans Rr.fh) ?_ ?_
    · obtain ⟨Rl, h1, h2, h3, h4⟩ := (R1.wipe is).loose (vs := []) hD
      exact ⟨wipeR r1 is, F1, [], out, [], Rl, .refl _, by simpa using e3, rfl, h1, h2, h3, h4, .nil, Nat.le_refl _⟩
    · rintro i x H2 H3 hi ⟨ra, Fa, done, rest, vs, Ra, sba, ec, ed, hDa, hFa, hza, hoa, hda, hla⟩ y
      obtain ⟨Fb, dx, ei, G, dvx⟩ := hY i H2 x H3 y Fa sba Ra.fh
      have Rb := Ra.grow G
      have hDb : H3 D = some (.lst vs) := G.hh _ _ hDa
      have hFb : Fb D = none := by
        cases q : Fb D with
        | none => rfl
        | some u =>
          rcases G.nw D u q with h | h | ⟨ob, ws, rfl⟩
          · rw [hFa] at h; cases h
          · rw [hDa] at h; cases h
          · have q2 := G.fh D _ q
            rw [hDb] at q2; exact (tupHO_lst q2).elim
      have hdrop : ds.drop i = dx :: ds.drop (i + 1) := by
        have hlt : i < ds.length := (List.getElem?_eq_some_iff.mp ei).1
        rw [List.drop_eq_getElem_cons hlt]
        congr 1
        exact (List.getElem?_eq_some_iff.mp ei).2
      rw [hdrop] at ec
      simp only [compL, Option.bind_eq_some_iff] at ec
      obtain ⟨rg, eg, ⟨bt, rt⟩, et, ec⟩ := ec
      refine ⟨_, ra, Fb, dx, rg, Rb.base, dvx, eg, fun s2 hw2 R2 => ?_⟩
      have hww : wipe s2 is = wipe s is := hw2.trans (wipe_wipe fun _ h => h)
      refine ⟨hww, ?_⟩
      refine ⟨_, rg, Fb, bt, rt, R2, et, fun H4 F4 R4 sb4 => ?_⟩
      cases bt with
      | false =>
        simp only [Bool.false_eq_true, if_false] at ec ⊢
        obtain ⟨k1, k2, k3⟩ := Rb.loose_kept R4 hDb hFb hoa not_tu
        have R5 := (Rb.back R4).wipe is
        rw [hww] at R5
        refine ⟨_, F4, done, rest, vs, R5, (sba.trans G.ff).trans sb4, ec, ed, k1, k2, hza, ?_, dpa_mono (G.ff.trans sb4) hda, by omega⟩
        rintro ⟨j, sv, q1, q2, q3⟩
        obtain ⟨q4, q5⟩ := wipeR_get q1
        obtain ⟨v, hv, _⟩ := R4.slots j sv q4
        have := wipe_get hv q5
        rw [hww] at this
        rw [q3] at this; cases this
        exact k3 ⟨j, sv, q4, q2, hv⟩
      | true =>
        simp only [if_true, Option.bind_eq_some_iff, Option.map_eq_some_iff] at ec ⊢
        obtain ⟨⟨y1, ry⟩, ey, ⟨ws, rw'⟩, ecl, ee⟩ := ec
        cases ee
        refine ⟨_, rt, F4, y1, ry, R4, ey, fun v5 H5 F5 R5 sb5 dv5 => ?_⟩
        obtain ⟨k1, k2, k3⟩ := Rb.loose_kept R5 hDb hFb hoa not_tu
        have R6 := (Rb.back R5).wipe is
        rw [hww] at R6
        have k4 : ¬ OwnAt (wipeR ry is) (wipe s is) D := by
          rintro ⟨j, sv, q1, q2, q3⟩
          obtain ⟨q4, q5⟩ := wipeR_get q1
          obtain ⟨v, hv, _⟩ := R5.slots j sv q4
          have := wipe_get hv q5
          rw [hww] at this
          rw [q3] at this; cases this
          exact k3 ⟨j, sv, q4, q2, hv⟩
        refine ⟨vs, k1, Nat.lt_of_le_of_lt (Nat.le_trans hla (Nat.le_trans (Nat.le_of_lt hi) hz)) (by decide), ?_⟩
        exact ⟨_, F5, done ++ [y1], ws, vs ++ [v5], R6.loosePut k2 hza k4, ((sba.trans G.ff).trans sb4).trans sb5, ecl, by rw [← ed]; simp, upd_same, k2, hza, k4, dpa_app (dpa_mono ((G.ff.trans sb4).trans sb5) hda) (dpa_one dv5), by rw [List.length_append]; simp; omega⟩
    · rintro H2 ⟨ra, Fa, done, rest, vs, Ra, sba, ec, ed, hDa, hFa, hza, hoa, hda, hla⟩
      rw [List.drop_length] at ec
      cases ec
      have R9 := R1.unwipe Ra sba hp
      rw [List.append_nil] at ed
      subst ed
      refine k D vs H2 Fa R9 (sb1.trans sba) hDa hFa hza ?_ hda
      rintro ⟨j, sv, q1, q2, q3⟩
      rcases restR_get q1 with ⟨h1, h2⟩ | ⟨h1, h2⟩
      · have := List.all_eq_true.mp hp j h1
        rw [h2] at this
        simp only [q2] at this
        cases this
      · exact hoa ⟨j, sv, h2, q2, wipe_get q3 h1⟩
  · cases e2
theorem sl_comp {pw : Bool} {own : List (Str × Nat)} (hc : X.calm = true) (hN : X.N.Nodup) (hi : SI X pw tg iter it) (ok : BlkOk X.N X.env.scope scope own)
    (hg : ∀ (s : Shared) (H : Hp) (C : Addr) (cl : List (Str × Addr)) (fp : List Addr), SG (X.blk s H scope (compEnvC scope cl C X.env) fp) pw tg g (own.map (·.2))) (ht : ∀ (s : Shared) (H : Hp) (C : Addr) (cl : List (Str × Addr)) (fp : List Addr), STs (X.blk s H scope (compEnvC scope cl C X.env) fp) ifs t)
    (he : ∀ (s : Shared) (H : Hp) (C : Addr) (cl : List (Str × Addr)) (fp : List Addr), SE (X.blk s H scope (compEnvC scope cl C X.env) fp) elt el) (hs : ∀ x, foldedSetIterable iter X.env x = pure x := by intro _; rfl) :
    SL X (.ListComp elt [⟨tg, iter, ifs, 0⟩] scope pos) (compM (own.map (·.2)) it g t el) :=
  ⟨pe_imp (pe_lc (own := own) hc hN hi.pi ok (fun s H C cl fp => (hg s H C cl fp).pg) (fun s H C cl fp => (ht s H C cl fp).pts) (fun s H C cl fp => (he s H C cl fp).pe) hs) fun s H Q q => comp_core q⟩
end
end DL
namespace DL
open PySem L2 PyProof.Rows PySem.Spec
/-! ### statements -/
inductive Out where
  | nx (r : Rho)
  | rt (d : D) (r : Rho)
  | bk (r : Rho)
  | ct (r : Rho)
  | ex (c : String) (r : Rho)
abbrev SM := Rho → Option Out
def outOk (K : PySem.W.Frag) (z : Fx) (F : Hp) (W : String → Hp → Prop) (D : Ends) : Out → Prop
  | .nx r' => ∀ s' H' F', Rep K z r' s' H' F' → SubH F F' → D.nx s' H'
  | .rt d r' => ∀ v s' H' F', Rep K z r' s' H' F' → SubH F F' → Dp K F' v d → D.rt v H'
  | .bk r' => ∀ s' H' F', Rep K z r' s' H' F' → SubH F F' → D.bk s' H'
  | .ct r' => ∀ s' H' F', Rep K z r' s' H' F' → SubH F F' → D.ct s' H'
  | .ex c r' => ∀ s' H' F', Rep K z r' s' H' F' → SubH F F' → W c H'
theorem outOk.mono {K : PySem.W.Frag} {z : Fx} {F F' : Hp} {W : String → Hp → Prop} {D : Ends} {o : Out} (h : outOk K z F W D o) (e : SubH F F') : outOk K z F' W D o := by
  cases o with
  | nx r => exact fun s' H' F2 R sb => h s' H' F2 R (e.trans sb)
  | rt d r => exact fun v s' H' F2 R sb => h v s' H' F2 R (e.trans sb)
  | bk r => exact fun s' H' F2 R sb => h s' H' F2 R (e.trans sb)
  | ct r => exact fun s' H' F2 R sb => h s' H' F2 R (e.trans sb)
  | ex c r => exact fun s' H' F2 R sb => h s' H' F2 R (e.trans sb)
def liftS (K : PySem.W.Frag) (W : String → Hp → Prop) (f : SM) : TS := fun D s H => ∃ z r F o, Rep K z r s H F ∧ f r = some o ∧ outOk K z F W D o
structure SS (X : Cx) (W : String → Hp → Prop) (st : Stmt) (f : SM) : Prop where
  ps : PS X st (liftS X.K W f)
structure SSs (X : Cx) (W : String → Hp → Prop) (st : List Stmt) (f : SM) : Prop where
  ps : PSs X st (liftS X.K W f)
section
variable {X : Cx} {W : String → Hp → Prop} {a b c e tg : Expr} {st : Stmt} {sts : List Stmt} {f g : SM} {pos : Pos}
theorem ps_imp {st : Stmt} {t t' : TS} (h : PS X st t) (k : ∀ D s H, t' D s H → t D s H) : PS X st t' := ⟨fun pins s σ H D I hq => h.run pins s σ H D I (k _ _ _ hq)⟩
theorem pss_imp {st : List Stmt} {t t' : TS} (h : PSs X st t) (k : ∀ D s H, t' D s H → t D s H) : PSs X st t' := ⟨fun pins s σ H D I hq => h.run pins s σ H D I (k _ _ _ hq)⟩
def skipM : SM := fun r => some (.nx r)
def seqS (f g : SM) : SM := fun r => (f r).bind fun o => match o with
  | .nx r1 => g r1
  | o => some o
theorem sss_nil : SSs X W [] skipM := ⟨pss_imp pss_nil fun D s H ⟨z, r, F, o, R, e, k⟩ => by cases e; exact k s H F R (.refl _)⟩
theorem sss_cons (h1 : SS X W st f) (h2 : SSs X W sts g) : SSs X W (st :: sts) (seqS f g) := ⟨pss_imp (pss_cons h1.ps h2.ps) fun D s H ⟨z, r, F, o, R, e, k⟩ => by
  unfold seqS at e
  simp only [Option.bind_eq_some_iff] at e
  obtain ⟨o1, e1, e2⟩ := e
  refine ⟨z, r, F, o1, R, e1, ?_⟩
  cases o1 with
  | nx r1 => exact fun s' H' F' R' sb => ⟨z, r1, F', o, R', e2, k.mono sb⟩
  | rt d r1 => cases e2; exact k
  | bk r1 => cases e2; exact k
  | ct r1 => cases e2; exact k
  | ex c r1 => cases e2; exact k⟩
theorem sss_one (h1 : SS X W st f) : SSs X W [st] f := ⟨pss_one h1.ps⟩
def asgM (i : Nat) (f : EM) : SM := fun r => (f r).map fun p => .nx (p.2.set i (some (.d p.1)))
theorem ss_asg (i : Nat) {x : Str} {pos' : Pos} {f : EM} (hN : X.N.Nodup) (he : SE X e f) (hi : X.N[i]? = some x := by rfl) (hx : Loc X.env.scope x := by first | exact Or.inl rfl | exact Or.inr rfl) (hs : swapsWith e (some (.Name x pos')) pos.line X.env = pure false := by rfl) (hf : X.fn x = true ∨ X.env.scope.names.lookup x = some .local := by first | exact .inl rfl | exact .inr rfl | assumption) :
    SS X W (.Assign [.Name x pos'] e pos) (asgM i f) := ⟨ps_imp (ps_set hN hi hx he.pe hs hf) fun D s H ⟨z, r, F, o, R, e, k⟩ => by
  unfold asgM at e
  simp only [Option.map_eq_some_iff] at e
  obtain ⟨⟨d, r1⟩, e1, e2⟩ := e
  cases e2
  exact ⟨z, r, F, d, r1, R, e1, fun v H' F' R' sb dv => k _ H' F' (R'.put dv) sb⟩⟩
/-- targets of any form -/
def asgG (g : GM) (f : EM) : SM := fun r => (f r).bind fun p => (g p.2 p.1).map .nx
theorem ss_asgG {is : List Nat} {g : GM} {f : EM} (he : SE X e f) (hg : SG X false tg g is) (hs : swapsWithSole [tg] e pos.line X.env = pure false := by rfl) (hw : swappedStores [tg] e X.env = pure none := by rfl)
    (h1 : (assignEach [tg] X.env).map (·.2) = [assign tg X.env] := by rfl) : SS X W (.Assign [tg] e pos) (asgG g f) := ⟨ps_imp (ps_asg he.pe hg.pg hs hw h1) fun D s H ⟨z, r, F, o, R, e, k⟩ => by
  unfold asgG at e
  simp only [Option.bind_eq_some_iff, Option.map_eq_some_iff] at e
  obtain ⟨⟨d, r1⟩, e1, r2, e2, e3⟩ := e
  cases e3
  exact ⟨z, r, F, d, r1, R, e1, fun v H' F' R' sb dv => ⟨z, r1, F', d, r2, R', .inl dv, e2, fun s' _ R2 => k s' H' F' R2 sb⟩⟩⟩
/-- an own list -/
theorem Rep.putOwn {K : PySem.W.Frag} {z : Fx} {r : Rho} {s : L2.St} {H F : Hp} (R : Rep K z r s H F) {i : Nat} {p : Addr} {vs : List V} {xs : List D} (hp : H p = some (.lst vs)) (hf : F p = none) (h0 : z.H0 p = none) (ho : ¬ OwnAt r s p) (hd : DpAll K F vs xs) :
    Rep K z (r.set i (some (.l false xs))) (s.set i (some (.ref p))) H F where
  fh := R.fh
  old := R.old
  f0 := R.f0
  nw := R.nw
  slots := fun j sv e => by
    have hj : j < r.length := by
      have q : j < (r.set i (some (SV.l false xs))).length := (List.getElem?_eq_some_iff.mp e).1
      simpa using q
    rcases get_set_cases e with ⟨rfl, e2⟩ | ⟨ne, e⟩
    · cases e2
      exact ⟨_, by rw [List.getElem?_set_self (by rw [← R.len]; exact hj)], p, vs, rfl, hp, hf, h0, hd, fun q => nomatch q⟩
    · obtain ⟨w, h1, h2⟩ := R.slots j sv e
      exact ⟨w, by rw [List.getElem?_set_ne (Ne.symm ne)]; exact h1, h2⟩
  apart := fun j k x y a e1 e2 o1 o2 s1 s2 => by
    rcases get_set_cases e1 with ⟨h1, e1'⟩ | ⟨n1, e1'⟩ <;> rcases get_set_cases e2 with ⟨h2, e2'⟩ | ⟨n2, e2'⟩
    · rw [h1, h2]
    · exfalso
      rw [List.getElem?_set_ne (Ne.symm n2)] at s2
      rw [h1] at s1
      have : a = p := by
        rcases get_set_cases s1 with ⟨_, q⟩ | ⟨n, _⟩
        · cases q; rfl
        · exact absurd rfl n
      subst this
      exact ho ⟨k, y, e2', o2, s2⟩
    · exfalso
      rw [List.getElem?_set_ne (Ne.symm n1)] at s1
      rw [h2] at s2
      have : a = p := by
        rcases get_set_cases s2 with ⟨_, q⟩ | ⟨n, _⟩
        · cases q; rfl
        · exact absurd rfl n
      subst this
      exact ho ⟨j, x, e1', o1, s1⟩
    · rw [List.getElem?_set_ne (Ne.symm n1)] at s1
      rw [List.getElem?_set_ne (Ne.symm n2)] at s2
      exact R.apart j k x y a e1' e2' o1 o2 s1 s2
  len := by simpa using R.len
def newM (i : Nat) (f : AM) : SM := fun r => (f r).map fun p => .nx (p.2.set i (some (.l false p.1)))
theorem new_core {i : Nat} {f : AM} {D : Ends} {s : L2.St} {H : Hp} (q : liftS X.K W (newM i f) D s H) : tAsg (liftL X.K f) (gName i) D s H := by
  obtain ⟨z, r, F, o, R, e, k⟩ := q
  unfold newM at e
  simp only [Option.map_eq_some_iff] at e
  obtain ⟨⟨d, r1⟩, e1, e2⟩ := e
  cases e2
  exact ⟨z, r, F, d, r1, R, e1, fun a vs H' F' R' sb h1 h2 h3 h4 h5 => k _ H' F' (R'.putOwn h1 h2 h3 h4 h5) sb⟩
theorem ss_new (i : Nat) {x : Str} {pos' : Pos} {f : AM} (hN : X.N.Nodup) (he : SL X e f) (hi : X.N[i]? = some x := by rfl) (hx : Loc X.env.scope x := by first | exact Or.inl rfl | exact Or.inr rfl) (hs : swapsWith e (some (.Name x pos')) pos.line X.env = pure false := by rfl) (hf : X.fn x = true ∨ X.env.scope.names.lookup x = some .local := by first | exact .inl rfl | exact .inr rfl | assumption) :
    SS X W (.Assign [.Name x pos'] e pos) (newM i f) := ⟨ps_imp (ps_set hN hi hx he.pe hs hf) fun D s H q => new_core q⟩
def asgLM (i : Nat) (f : AM) : SM := fun r => (f r).map fun p => .nx (p.2.set i (some (.d (.list p.1))))
theorem asgL_core {i : Nat} {f : AM} {D : Ends} {s : L2.St} {H : Hp} (q : liftS X.K W (asgLM i f) D s H) : tAsg (liftL X.K f) (gName i) D s H := by
  obtain ⟨z, r, F, o, R, e, k⟩ := q
  unfold asgLM at e
  simp only [Option.map_eq_some_iff] at e
  obtain ⟨⟨d, r1⟩, e1, e2⟩ := e
  cases e2
  refine ⟨z, r, F, d, r1, R, e1, fun a vs H' F' R' sb h1 h2 h3 h4 h5 => ?_⟩
  have G := R'.freeze1 h1 h2 h3 h4
  exact k _ H' _ (G.put (.lst (.inl (.inl upd_same)) (dpa_mono (.new h2) h5))) (sb.trans (.new h2))
section
variable {elt iter : Expr} {ifs : List Expr} {scope : Scope} {it : AM} {gg : GM} {t : TM} {el : EM}
/-- name = [.. for ..] -/
theorem ss_compD {pw : Bool} (i : Nat) {y : Str} {py spos : Pos} {own : List (Str × Nat)} (hc : X.calm = true) (hN : X.N.Nodup) (hi : SI X pw tg iter it) (ok : BlkOk X.N X.env.scope scope own)
    (hg : ∀ (s : Shared) (H : Hp) (C : Addr) (cl : List (Str × Addr)) (fp : List Addr), SG (X.blk s H scope (compEnvC scope cl C X.env) fp) pw tg gg (own.map (·.2))) (ht : ∀ (s : Shared) (H : Hp) (C : Addr) (cl : List (Str × Addr)) (fp : List Addr), STs (X.blk s H scope (compEnvC scope cl C X.env) fp) ifs t)
    (he : ∀ (s : Shared) (H : Hp) (C : Addr) (cl : List (Str × Addr)) (fp : List Addr), SE (X.blk s H scope (compEnvC scope cl C X.env) fp) elt el)
    (hsw : swapsWith (.ListComp elt [⟨tg, iter, ifs, 0⟩] scope pos) (some (.Name y py)) spos.line X.env = pure true) (hy : X.N[i]? = some y := by rfl) (hyl : X.env.scope.names.lookup y = some .local := by rfl) (hs : ∀ x, foldedSetIterable iter X.env x = pure x := by intro _; rfl) :
    SS X W (.Assign [.Name y py] (.ListComp elt [⟨tg, iter, ifs, 0⟩] scope pos) spos) (asgLM i (compM (own.map (·.2)) it gg t el)) :=
  ⟨ps_imp (ps_setLc (own := own) hc hN hy hyl hsw hi.pi ok (fun s H C cl fp => (hg s H C cl fp).pg) (fun s H C cl fp => (ht s H C cl fp).pts) (fun s H C cl fp => (he s H C cl fp).pe) hs) fun D s H q => by
    have q2 : tAsg (liftL X.K (compM (own.map (·.2)) it gg t el)) (gName i) D s H := asgL_core q
    exact comp_core q2⟩
end
def retM (f : EM) : SM := fun r => (f r).map fun p => .rt p.1 p.2
theorem ss_ret {f : EM} (he : SE X e f) : SS X W (.Return (some e) pos) (retM f) := ⟨ps_imp (ps_ret he.pe) fun D s H ⟨z, r, F, o, R, e, k⟩ => by
  unfold retM at e
  simp only [Option.map_eq_some_iff] at e
  obtain ⟨⟨d, r1⟩, e1, e2⟩ := e
  cases e2
  exact ⟨z, r, F, d, r1, R, e1, fun v H' F' R' sb dv => k v s H' F' R' sb dv⟩⟩
def exprM (f : EM) : SM := fun r => (f r).map fun p => .nx p.2
theorem ss_expr {f : EM} (he : SE X e f) (hs : swapsWith e none pos.line X.env = pure false := by rfl) : SS X W (.Expr e pos) (exprM f) := ⟨ps_imp (ps_expr he.pe hs) fun D s H ⟨z, r, F, o, R, e, k⟩ => by
  unfold exprM at e
  simp only [Option.map_eq_some_iff] at e
  obtain ⟨⟨d, r1⟩, e1, e2⟩ := e
  cases e2
  exact ⟨z, r, F, d, r1, R, e1, fun v H' F' R' sb dv => k s H' F' R' sb⟩⟩
def ifM (t : TM) (f g : SM) : SM := fun r => (t r).bind fun p => if p.1 = true then f p.2 else g p.2
theorem ss_if {as bs : List Stmt} {t : TM} (hc : ST X c t) (ha : SSs X W as f) (hb : SSs X W bs g) : SS X W (.If c as bs pos) (ifM t f g) := ⟨ps_imp (ps_if hc.pt ha.ps hb.ps) fun D s H ⟨z, r, F, o, R, e, k⟩ => by
  unfold ifM at e
  simp only [Option.bind_eq_some_iff] at e
  obtain ⟨⟨d, r1⟩, e1, e2⟩ := e
  refine ⟨z, r, F, d, r1, R, e1, fun H' F' R' sb => ?_⟩
  cases d with
  | true => exact ⟨z, r1, F', o, R', e2, k.mono sb⟩
  | false => exact ⟨z, r1, F', o, R', e2, k.mono sb⟩⟩
/-! ### loops -/
def forL (g : GM) (f : SM) : List D → Rho → Option Out
  | [], r => some (.nx r)
  | x :: xs, r => (g r x).bind fun r1 => (f r1).bind fun o => match o with
    | .nx r2 => forL g f xs r2
    | .ct r2 => forL g f xs r2
    | .bk r2 => some (.nx r2)
    | o => some o
def forM (it : AM) (g : GM) (f : SM) : SM := fun r => (it r).bind fun p => forL g f p.1 p.2
theorem ss_for {pw : Bool} {iter : Expr} {body : List Stmt} {it : AM} {g : GM} {is : List Nat} (hp : PassesOwn (model X.prog X.w) X.A X.env X.xe) (hc : X.calm = true) (hi : SI X pw tg iter it) (hg : SG X pw tg g is) (hb : SSs X W body f)
    (hs : ∀ x, foldedSetIterable iter X.env x = pure x := by intro _; rfl) : SS X W (.For tg iter body [] pos) (forM it g f) := ⟨ps_imp (ps_for hp hc hi.pi hg.pg hb.ps hs) fun D s H ⟨z, r, F, o, R, e, k⟩ => by
  unfold forM at e
  simp only [Option.bind_eq_some_iff] at e
  obtain ⟨⟨ds, r1⟩, e1, e2⟩ := e
  refine ⟨z, r, F, ds, r1, R, e1, fun J H1 F1 R1 sb1 w => ?_⟩
  obtain ⟨Y, Wk, hY⟩ := w.w
  refine for_it Wk (fun i s H => ∃ r F, Rep X.K z r s H F ∧ SubH F1 F ∧ forL g f (ds.drop i) r = some o) ⟨r1, F1, R1, .refl _, by simpa using e2⟩ (fun i s H _ ⟨r, F, Rr, sb, _⟩ => sb.trans Rr.fh) ?_ ?_
  · rintro i x s2 H2 H3 hi ⟨ra, Fa, Ra, sba, ec⟩ y
    obtain ⟨Fb, dx, ei, G, dvx⟩ := hY i H2 x H3 y Fa sba Ra.fh
    have Rb := Ra.grow G
    have hdrop : ds.drop i = dx :: ds.drop (i + 1) := by
      have hlt : i < ds.length := (List.getElem?_eq_some_iff.mp ei).1
      rw [List.drop_eq_getElem_cons hlt]
      congr 1
      exact (List.getElem?_eq_some_iff.mp ei).2
    rw [hdrop] at ec
    simp only [forL, Option.bind_eq_some_iff] at ec
    obtain ⟨rg, eg, ob, eb, ec⟩ := ec
    refine ⟨z, ra, Fb, dx, rg, Rb, dvx, eg, fun s3 _ R3 => ⟨z, rg, Fb, ob, R3, eb, ?_⟩⟩
    have sbb : SubH F1 Fb := sba.trans G.ff
    cases ob with
    | nx r4 => exact fun s4 H4 F4 R4 sb4 => ⟨r4, F4, R4, sbb.trans sb4, ec⟩
    | ct r4 => exact fun s4 H4 F4 R4 sb4 => ⟨r4, F4, R4, sbb.trans sb4, ec⟩
    | bk r4 => cases ec; exact fun s4 H4 F4 R4 sb4 => k s4 H4 F4 R4 ((sb1.trans sbb).trans sb4)
    | rt d r4 => cases ec; exact fun v s4 H4 F4 R4 sb4 dv => k v s4 H4 F4 R4 ((sb1.trans sbb).trans sb4) dv
    | ex c r4 => cases ec; exact fun s4 H4 F4 R4 sb4 => k s4 H4 F4 R4 ((sb1.trans sbb).trans sb4)
  · rintro s2 H2 ⟨ra, Fa, Ra, sba, ec⟩
    rw [List.drop_length] at ec
    cases ec
    exact k s2 H2 Fa Ra (sb1.trans sba)⟩
def whileL (t : TM) (f : SM) : Nat → Rho → Option Out
  | 0, _ => none
  | n + 1, r => (t r).bind fun p => if p.1 = true then (f p.2).bind fun o => match o with
      | .nx r2 => whileL t f n r2
      | .ct r2 => whileL t f n r2
      | .bk r2 => some (.nx r2)
      | o => some o
    else some (.nx p.2)
theorem ss_while {body : List Stmt} {t : TM} (n : Nat) (hp : PassesOwn (model X.prog X.w) X.A X.env X.xe) (hc : ST X c t) (hb : SSs X W body f) : SS X W (.While c body [] pos) (whileL t f n) := ⟨ps_imp (ps_while hp hc.pt hb.ps) fun D s H ⟨z, r, F, o, R, e, k⟩ => by
  refine ⟨fun m s H => ∃ r F', Rep X.K z r s H F' ∧ SubH F F' ∧ whileL t f m r = some o, ⟨n, r, F, R, .refl _, e⟩, ?_⟩
  rintro m s2 H2 ⟨ra, Fa, Ra, sba, ec⟩
  cases m with
  | zero => cases ec
  | succ m =>
    simp only [whileL, Option.bind_eq_some_iff] at ec
    obtain ⟨⟨b, rt⟩, et, ec⟩ := ec
    refine ⟨z, ra, Fa, b, rt, Ra, et, fun H3 F3 R3 sb3 => ?_⟩
    cases b with
    | false => cases ec; exact k s2 H3 F3 R3 (sba.trans sb3)
    | true =>
      simp only [if_true, Option.bind_eq_some_iff] at ec ⊢
      obtain ⟨ob, eb, ec⟩ := ec
      refine ⟨fun s H => ∃ r F', Rep X.K z r s H F' ∧ SubH F F' ∧ whileL t f m r = some o, fun s' H' h => ⟨m, Nat.lt_succ_self _, h⟩, z, rt, F3, ob, R3, eb, ?_⟩
      have sbb : SubH F F3 := sba.trans sb3
      cases ob with
      | nx r4 => exact fun s4 H4 F4 R4 sb4 => ⟨r4, F4, R4, sbb.trans sb4, ec⟩
      | ct r4 => exact fun s4 H4 F4 R4 sb4 => ⟨r4, F4, R4, sbb.trans sb4, ec⟩
      | bk r4 => cases ec; exact fun s4 H4 F4 R4 sb4 => k s4 H4 F4 R4 (sbb.trans sb4)
      | rt d r4 => cases ec; exact fun v s4 H4 F4 R4 sb4 dv => k v s4 H4 F4 R4 (sbb.trans sb4) dv
      | ex c r4 => cases ec; exact fun s4 H4 F4 R4 sb4 => k s4 H4 F4 R4 (sbb.trans sb4)⟩
/-! ### an own list is frozen -/
def frzR (i : Nat) (r : Rho) : Option Rho := match r[i]? with
  | some (some (.l _ xs)) => some (r.set i (some (.d (.list xs))))
  | _ => none
theorem Rep.frz {K : PySem.W.Frag} {z : Fx} {r r' : Rho} {s : L2.St} {H F : Hp} {i : Nat} (R : Rep K z r s H F) (e : frzR i r = some r') : ∃ F', Rep K z r' s H F' ∧ SubH F F' := by
  unfold frzR at e
  split at e
  · rename_i xs hi
    cases e
    obtain ⟨v, h1, p, vs, rfl, h2, h3, h4, h5, h6⟩ := R.slots i _ hi
    have hil : i < r.length := (List.getElem?_eq_some_iff.mp hi).1
    refine ⟨upd F p (.lst vs), ⟨fun b u q => ?_, R.old, R.f0.trans (.new h3), fun b u q => ?_, fun j sv q => ?_, fun j k x y a e1 e2 o1 o2 s1 s2 => ?_, by simpa using R.len⟩, .new h3⟩
    · by_cases e : b = p
      · subst e; rw [upd_same] at q; rw [h2]; exact q
      · rw [upd_ne e] at q; exact R.fh b u q
    · by_cases e : b = p
      · subst e; exact .inr (.inl h4)
      · rw [upd_ne e] at q; exact R.nw b u q
    · rcases get_set_cases q with ⟨rfl, e⟩ | ⟨ne, q⟩
      · cases e
        exact ⟨_, h1, .lst (.inl (.inl upd_same)) (dpa_mono (.new h3) h5)⟩
      · obtain ⟨v, q1, q2⟩ := R.slots j sv q
        refine ⟨v, q1, q2.mono (.new h3) (fun _ _ _ _ h => h) fun a o ho' hf' _ hown e => ?_⟩
        have : a ≠ p := fun z => ne (R.apart j i sv _ p q hi hown rfl (by rw [q1, e, z]) h1)
        rw [upd_ne this]; exact hf'
    · rcases get_set_cases e1 with ⟨rfl, e⟩ | ⟨n1, e1'⟩
      · cases e; cases o1
      · rcases get_set_cases e2 with ⟨rfl, e⟩ | ⟨n2, e2'⟩
        · cases e; cases o2
        · exact R.apart j k x y a e1' e2' o1 o2 s1 s2
  · cases e
def frzM (i : Nat) (f : SM) : SM := fun r => (frzR i r).bind f
theorem ss_frz (i : Nat) (h : SS X W st f) : SS X W st (frzM i f) := ⟨ps_imp h.ps fun D s H ⟨z, r, F, o, R, e, k⟩ => by
  unfold frzM at e
  simp only [Option.bind_eq_some_iff] at e
  obtain ⟨r1, e1, e2⟩ := e
  obtain ⟨F', R', sb⟩ := R.frz e1
  exact ⟨z, r1, F', o, R', e2, k.mono sb⟩⟩
end
end DL
namespace DL
open PySem L2 PyProof.Rows PySem.Spec
/-- list.extend by a list, whatever stands in that one's slots -/
theorem meets_extendBy (l b : Addr) (mine yours : Array Value) (n m : Nat) (dd : Option Addr) (sl : Array (Option Value)) (fits : mine.size + yours.size ≤ sizeLine) :
    Meets (Builtin.«list.extend» ⟨[.ref l, .ref b], []⟩) (fun _ R s => s.heap.get? l = some { cls := .type "list", data := .seq mine n } ∧ s.heap.get? b = some { cls := .type "list", dict := dd, data := .seq yours m, slots := sl } ∧
      R (.ok (.ret .none)) { s with heap := s.heap.update l (Obj.mapSeq (· ++ yours)) }) := by
  refine .of_wp fun prog w A R s ⟨atL, atB, done⟩ => ?_
  have notLong := notLongL fits
  have first : mine.size ≤ sizeLine := Nat.le_trans (Nat.le_add_right ..) fits
  have both : (mine ++ yours).size ≤ sizeLine + 1 := by simp; omega
  have k1 := AutoSeq1.sub_list_list
  have k2 := AutoSeq1.sub_list_tuple
  wp_walk using wpAny_updateSeq atL rfl (hz := first) (_hz' := both), wpAny_loadPart' atL, wpAny_loadPart' atB
  all_goals first | exact ⟨_, rfl, done⟩ | skip
def rExtendL (K : PySem.W.Frag) : V → List V → Hp → VK → Prop := fun x vs H Q => ∃ l b xs zs, x = .ref l ∧ vs = [.ref b] ∧ H l = some (.lst xs) ∧ SqL K H b zs ∧ xs.length + zs.length ≤ sizeLine ∧ Q .non (upd H l (.lst (xs ++ zs)))
theorem mt_extendL {X : Cx} : MtM X "list.extend" (rExtendL X.K) := by
  rintro pins s σ H x vs v us Q I rx rv ⟨l, b, xs, zs, rfl, rfl, own, other, fits, give⟩
  obtain ⟨u, rfl, ru⟩ := rv.one
  cases rx
  cases ru
  obtain ⟨_, its, n, mine, _, stands⟩ := I.lstM own
  obtain ⟨its2, yours, ⟨⟨c2, dd, dt, sl⟩, m, atB, isList, _, isSeq⟩, _⟩ := I.list other
  cases isList
  cases isSeq
  have e1 := mine.length
  have e2 := yours.length
  have sizes : its.toArray.size + its2.toArray.size ≤ sizeLine := by simp; omega
  have ty : s.TypeIs (.ref l) "list" := ⟨_, stands, rfl⟩
  refine call_meets F.slot_list_extend ty F.entry_list_extend (F.args_list_extend_2 _ _) (meets_extendBy l b its.toArray its2.toArray n m dd sl sizes) ?_
  exact ⟨stands, atB, .non, _, I.lset (its' := its ++ its2) own stands (by simp) (mine.append yours) (by rw [List.length_append]; exact fits), rfl, give⟩
section
variable {K : PySem.W.Frag} {z : Fx} {r : Rho} {s : L2.St} {H F : Hp}
/-- an own list takes another content -/
theorem Rep.setOwn (R : Rep K z r s H F) {i : Nat} {p : Addr} {bb : Bool} {xs xs' : List D} {vs' : List V} (hi : r[i]? = some (some (.l bb xs))) (hs : s[i]? = some (some (.ref p))) (hd : DpAll K F vs' xs') : Rep K z (r.set i (some (.l bb xs'))) s (upd H p (.lst vs')) F := by
  have hrf : bb = true → z.rf = some p := by
    obtain ⟨v, h1, p', vs, e, _, _, _, _, h6⟩ := R.slots i _ hi
    subst e
    rw [hs] at h1; cases h1; exact h6
  have own : OwnAt r s p := ⟨i, _, hi, rfl, hs⟩
  obtain ⟨_, hf, h0⟩ := R.own_facts own
  have hil : i < r.length := (List.getElem?_eq_some_iff.mp hi).1
  refine ⟨fun b u q => ?_, fun b u q => ?_, R.f0, R.nw, fun j sv q => ?_, fun j k x y a e1 e2 o1 o2 s1 s2 => ?_, by simpa using R.len⟩
  · have : b ≠ p := fun e => by rw [e, hf] at q; cases q
    rw [upd_ne this]; exact R.fh b u q
  · have : b ≠ p := fun e => by rw [e, h0] at q; cases q
    rw [upd_ne this]; exact R.old b u q
  · rcases get_set_cases q with ⟨rfl, e⟩ | ⟨ne, q⟩
    · cases e
      exact ⟨_, hs, p, vs', rfl, upd_same, hf, h0, hd, hrf⟩
    · obtain ⟨v, q1, q2⟩ := R.slots j sv q
      refine ⟨v, q1, q2.mono (.refl _) (fun a e hown u hu => ?_) fun a _ _ hf' _ _ _ => hf'⟩
      have : a ≠ p := fun z => ne (R.apart j i sv _ p q hi hown rfl (by rw [q1, e, z]) hs)
      rw [upd_ne this]; exact hu
  · have cv : ∀ {j : Nat} {x : SV}, (r.set i (some (.l bb xs')))[j]? = some (some x) → x.own = true → ∃ x', r[j]? = some (some x') ∧ x'.own = true := fun {j x} e o => by
      rcases get_set_cases e with ⟨rfl, e⟩ | ⟨ne, q⟩
      · exact ⟨_, hi, rfl⟩
      · exact ⟨x, q, o⟩
    obtain ⟨x', e1', o1'⟩ := cv e1 o1
    obtain ⟨y', e2', o2'⟩ := cv e2 o2
    exact R.apart j k x' y' a e1' e2' o1' o2' s1 s2
end
section
variable {X : Cx} {a b c e : Expr} {f g : EM} {pos : Pos}
/-! ### own lists changed -/
def appM (i : Nat) (f : EM) : EM := fun r => (ownM i r).bind fun _ => (f r).bind fun p => match p.2[i]? with
  | some (some (.l b xs)) => if szOk xs.length then some (.none, p.2.set i (some (.l b (xs ++ [p.1])))) else none
  | _ => none
theorem se_app (i : Nat) {x : Str} {p apos cpos : Pos} (he : SE X e f) (hN : X.N[i]? = some x := by rfl) (hv : Vis X.env.scope x := by first | exact Or.inl rfl | exact Or.inr (Or.inl rfl) | exact Or.inr (Or.inr rfl)) (hd : (x == ("__debug__" : Str)) = false := by decide)
    (hcd : (x == ("__classdict__" : Str)) = false := by decide) (hb : attributeBase (.Name x p) "append" X.env (eval (.Name x p) X.env) = eval (.Name x p) X.env := by rfl)
    (hk : (((backTo cpos (starEach [e] X.env)).all (fun y => !y.1) && (backToKw cpos (keywordEach [] X.env)).all (fun y => y.1.isSome)) && decide (([e].length + ([] : List Keyword).length + if ([] : List Keyword).isEmpty then 0 else 1) < 30)) = true := by rfl)
    (hl : (apos.endLine == cpos.line) = true := by rfl) (hs : starEach [e] X.env = (false, eval e X.env) :: starEach [] X.env := by rfl) (hpl : (backTo cpos (starEach [] X.env)).any (·.1) = false := by rfl) :
    SE X (.Call (.Attribute (.Name x p) "append" apos) [e] [] cpos) (appM i f) :=
  ⟨pe_imp (pe_bm PySem.F.plainAttrs_list PySem.F.slot_list_append PySem.F.type_list_append mt_append (pe_var hN hv hd hcd) (pa_cons he.pe pa_nil hs) hb hk hl hs hpl) fun s H Q ⟨z, r, F, d, r', R, e, k⟩ => by
    unfold appM at e
    simp only [Option.bind_eq_some_iff] at e
    obtain ⟨⟨p0, r0⟩, e0, ⟨y, r1⟩, e1, e2⟩ := e
    obtain ⟨b0, xs0, f1, _, _⟩ := ownM_some e0
    obtain ⟨v, h1, p, vs, rfl, h2, h3, h4, h5, h6⟩ := R.slots i _ f1
    split at e2
    · rename_i bb xs hxs
      have hxs : r1[i]? = some (some (.l bb xs)) := hxs
      split at e2
      · rename_i hz
        cases e2
        refine ⟨_, h1, .inl ⟨rfl, _, .inl (.inl h2)⟩, z, r, F, y, r1, R, e1, fun w H2 F2 R2 sb2 dy => ?_⟩
        obtain ⟨v', h1', p', vs', rfl, h2', h3', h4', h5', h6'⟩ := R2.slots i _ hxs
        have ea : p' = p := by have := h1.symm.trans h1'; cases this; rfl
        subst ea
        exact ⟨p', vs', w, rfl, rfl, h2', by rw [dpa_len h5']; exact szOk_lt hz, k _ _ _ (R2.setOwn hxs h1' (dpa_app h5' (dpa_one dy))) sb2 .non⟩
      · cases e2
    · cases e2⟩
def extM (i : Nat) (f : EM) : EM := fun r => (ownM i r).bind fun _ => (f r).bind fun p => match p.2[i]?, p.1 with
  | some (some (.l b xs)), .list ys => if szOk (xs.length + ys.length) then some (.none, p.2.set i (some (.l b (xs ++ ys)))) else none
  | _, _ => none
theorem se_ext (i : Nat) {x : Str} {p apos cpos : Pos} (he : SE X e f) (hN : X.N[i]? = some x := by rfl) (hv : Vis X.env.scope x := by first | exact Or.inl rfl | exact Or.inr (Or.inl rfl) | exact Or.inr (Or.inr rfl)) (hd : (x == ("__debug__" : Str)) = false := by decide)
    (hcd : (x == ("__classdict__" : Str)) = false := by decide) (hb : attributeBase (.Name x p) "extend" X.env (eval (.Name x p) X.env) = eval (.Name x p) X.env := by rfl)
    (hk : (((backTo cpos (starEach [e] X.env)).all (fun y => !y.1) && (backToKw cpos (keywordEach [] X.env)).all (fun y => y.1.isSome)) && decide (([e].length + ([] : List Keyword).length + if ([] : List Keyword).isEmpty then 0 else 1) < 30)) = true := by rfl)
    (hl : (apos.endLine == cpos.line) = true := by rfl) (hs : starEach [e] X.env = (false, eval e X.env) :: starEach [] X.env := by rfl) (hpl : (backTo cpos (starEach [] X.env)).any (·.1) = false := by rfl) :
    SE X (.Call (.Attribute (.Name x p) "extend" apos) [e] [] cpos) (extM i f) :=
  ⟨pe_imp (pe_bm PySem.F.plainAttrs_list PySem.F.slot_list_extend PySem.F.type_list_extend mt_extendL (pe_var hN hv hd hcd) (pa_cons he.pe pa_nil hs) hb hk hl hs hpl) fun s H Q ⟨z, r, F, d, r', R, e, k⟩ => by
    unfold extM at e
    simp only [Option.bind_eq_some_iff] at e
    obtain ⟨⟨p0, r0⟩, e0, ⟨y, r1⟩, e1, e2⟩ := e
    obtain ⟨b0, xs0, f1, _, _⟩ := ownM_some e0
    obtain ⟨v, h1, p, vs, rfl, h2, h3, h4, h5, h6⟩ := R.slots i _ f1
    split at e2
    · rename_i bb xs ys hxs hys
      have hxs : r1[i]? = some (some (.l bb xs)) := hxs
      have hys : y = .list ys := hys
      subst hys
      split at e2
      · rename_i hz
        cases e2
        refine ⟨_, h1, .inl ⟨rfl, _, .inl (.inl h2)⟩, z, r, F, _, r1, R, e1, fun w H2 F2 R2 sb2 dy => ?_⟩
        obtain ⟨v', h1', p', vs', rfl, h2', h3', h4', h5', h6'⟩ := R2.slots i _ hxs
        have ea : p' = p := by have := h1.symm.trans h1'; cases this; rfl
        subst ea
        obtain ⟨_, _, rfl, q1, q2⟩ := dy.inv
        exact ⟨p', _, vs', _, rfl, rfl, h2', R2.fh.sql q1, by rw [dpa_len h5', dpa_len q2]; exact szOk_le hz, k _ _ _ (R2.setOwn hxs h1' (dpa_app h5' q2)) sb2 .non⟩
      · cases e2
    · cases e2⟩
theorem dpa_erase {K : PySem.W.Frag} {F : Hp} : ∀ {vs : List V} {ds : List D} (i : Nat), DpAll K F vs ds → DpAll K F (vs.eraseIdx i) (ds.eraseIdx i)
  | _, _, _, .nil => .nil
  | _, _, 0, .cons _ t => t
  | _, _, i + 1, .cons a t => .cons a (dpa_erase i t)
/-- x.pop(e) -/
def popAtM (i : Nat) (f : EM) : EM := fun r => (ownM i r).bind fun _ => (f r).bind fun p => match p.2[i]?, p.1 with
  | some (some (.l b xs)), .int j => if 0 ≤ j ∧ j < 1000000 then (xs[j.toNat]?).map fun d => (d, p.2.set i (some (.l b (xs.eraseIdx j.toNat)))) else none
  | _, _ => none
theorem se_popAt (i : Nat) {x : Str} {p apos cpos : Pos} (he : SE X e f) (hN : X.N[i]? = some x := by rfl) (hv : Vis X.env.scope x := by first | exact Or.inl rfl | exact Or.inr (Or.inl rfl) | exact Or.inr (Or.inr rfl)) (hd : (x == ("__debug__" : Str)) = false := by decide)
    (hcd : (x == ("__classdict__" : Str)) = false := by decide) (hb : attributeBase (.Name x p) "pop" X.env (eval (.Name x p) X.env) = eval (.Name x p) X.env := by rfl)
    (hk : (((backTo cpos (starEach [e] X.env)).all (fun y => !y.1) && (backToKw cpos (keywordEach [] X.env)).all (fun y => y.1.isSome)) && decide (([e].length + ([] : List Keyword).length + if ([] : List Keyword).isEmpty then 0 else 1) < 30)) = true := by rfl)
    (hl : (apos.endLine == cpos.line) = true := by rfl) (hs : starEach [e] X.env = (false, eval e X.env) :: starEach [] X.env := by rfl) (hpl : (backTo cpos (starEach [] X.env)).any (·.1) = false := by rfl) :
    SE X (.Call (.Attribute (.Name x p) "pop" apos) [e] [] cpos) (popAtM i f) :=
  ⟨pe_imp (pe_bm PySem.F.plainAttrs_list PySem.F.slot_list_pop PySem.F.type_list_pop mt_popAt (pe_var hN hv hd hcd) (pa_cons he.pe pa_nil hs) hb hk hl hs hpl) fun s H Q ⟨z, r, F, d, r', R, e, k⟩ => by
    unfold popAtM at e
    simp only [Option.bind_eq_some_iff] at e
    obtain ⟨⟨p0, r0⟩, e0, ⟨y, r1⟩, e1, e2⟩ := e
    obtain ⟨b0, xs0, f1, _, _⟩ := ownM_some e0
    obtain ⟨v, h1, p, vs, rfl, h2, h3, h4, h5, h6⟩ := R.slots i _ f1
    split at e2
    · rename_i bb xs j hxs hys
      have hxs : r1[i]? = some (some (.l bb xs)) := hxs
      have hys : y = .int j := hys
      subst hys
      split at e2
      · rename_i hz
        simp only [Option.map_eq_some_iff] at e2
        obtain ⟨y, e3, e4⟩ := e2
        cases e4
        refine ⟨_, h1, .inl ⟨rfl, _, .inl (.inl h2)⟩, z, r, F, _, r1, R, e1, fun w H2 F2 R2 sb2 dy => ?_⟩
        obtain ⟨v', h1', p', vs', rfl, h2', h3', h4', h5', h6'⟩ := R2.slots i _ hxs
        have ea : p' = p := by have := h1.symm.trans h1'; cases this; rfl
        subst ea
        cases dy.inv
        obtain ⟨w, hw, dw⟩ := dpa_get h5' e3
        have hlt : j.toNat < vs'.length := (List.getElem?_eq_some_iff.mp hw).1
        have hix : ixN vs'.length j = some j.toNat := by
          unfold ixN
          rw [if_pos hz.1, if_pos (by omega)]
        exact ⟨p', vs', j, j.toNat, w, rfl, rfl, h2', by omega, by omega, (ixN_seq hix).1, hw, k _ _ _ (R2.setOwn hxs h1' (dpa_erase _ h5')) sb2 dw⟩
      · cases e2
    · cases e2⟩
end
end DL
namespace DL
open PySem L2 PyProof.Rows PySem.Spec
/-! ### defs: a def is a function of data -/
def spF (K : PySem.W.Frag) (n : Nat) (g : List D → Option D) : Sp := fun vs H Q _ => vs.length = n ∧ ∃ F ds d, SubH F H ∧ DpAll K F vs ds ∧ g ds = some d ∧ ∀ v H' F', Grow F H F' H' → Dp K F' v d → Q v H'
/-- one parameter (the j-th) is an own list of the caller's: it may be changed -/
def spR (K : PySem.W.Frag) (n j : Nat) (g : List D → List D → Option (D × List D)) : Sp := fun vs H Q _ => vs.length = n ∧ ∃ F ds a us xs d xs', SubH F H ∧ vs[j]? = some (.ref a) ∧ DpAll K F (vs.eraseIdx j) ds ∧ H a = some (.lst us) ∧ F a = none ∧ DpAll K F us xs ∧ g ds xs = some (d, xs') ∧
  ∀ v H' F' us', (∀ b o, b ≠ a → H b = some o → H' b = some o) → SubH F F' → SubH F' H' → (∀ b o, F' b = some o → F b = some o ∨ H b = none ∨ IsTu o) → H' a = some (.lst us') → DpAll K F' us' xs' → Dp K F' v d → Q v H'
def startD (N : List Str) (ds : List D) : Rho := ds.map (fun d => some (.d d)) ++ List.replicate (N.length - ds.length) none
/-- the slots at the entry, the j-th parameter an own list -/
def startR (N : List Str) (j : Nat) (ds : List D) (xs : List D) : Rho := (ds.take j).map (fun d => some (.d d)) ++ some (.l true xs) :: ((ds.drop j).map (fun d => some (.d d)) ++ List.replicate (N.length - (ds.length + 1)) none)
/-- a def's parameters are among its names -/
theorem names_fit {N ps : List Str} {sc : Scope} (S : FnScope N ps sc) : ps.length ≤ N.length :=
  S.pre ▸ List.length_take_le' ..
section
variable {P : Program} {w : World} {K : PySem.W.Frag} {mg : Str → Option Value} {base : Heap}
theorem startD_get {N : List Str} {ds : List D} {i : Nat} {sv : SV} (h : (startD N ds)[i]? = some (some sv)) : ∃ d, ds[i]? = some d ∧ sv = .d d := by
  unfold startD at h
  by_cases hi : i < ds.length
  · rw [List.getElem?_append_left (by simpa using hi), List.getElem?_map] at h
    cases e : ds[i]? with
    | none => rw [e] at h; cases h
    | some d => rw [e] at h; cases h; exact ⟨d, rfl, rfl⟩
  · rw [List.getElem?_append_right (by simpa using hi), List.getElem?_replicate] at h
    split at h <;> cases h
theorem rep_start {N : List Str} {F H : Hp} {vs : List V} {ds : List D} (sb : SubH F H) (h : DpAll K F vs ds) (hn : vs.length ≤ N.length) : Rep K ⟨H, F, none⟩ (startD N ds) (L2.start N vs) H F := by
  have hl := dpa_len h
  refine ⟨sb, .refl _, .refl _, fun _ _ q => .inl q, fun i sv e => ?_, fun i j x y a e1 e2 o1 => ?_, ?_⟩
  · obtain ⟨d, h1, rfl⟩ := startD_get e
    obtain ⟨v, h2, h3⟩ := dpa_get h h1
    refine ⟨v, ?_, h3⟩
    unfold L2.start
    have hi : i < vs.length := (List.getElem?_eq_some_iff.mp h2).1
    rw [List.getElem?_append_left (by simpa using hi), List.getElem?_map, h2]
    rfl
  · obtain ⟨d, _, rfl⟩ := startD_get e1
    cases o1
  · unfold startD L2.start
    simp only [List.length_append, List.length_map, List.length_replicate]
    omega
theorem fn_ok {x qual : Str} {st : Stmt} {f : Addr} {fd : FuncData} {N ps : List Str} {k : Nat} (F : Fun K x qual st f fd) (S : FnScope N ps (defScope st)) (g : List D → Option D) (body : SM)
    (hb : ∀ (cdv : Value) (A : Around) (outer : List Env) (s : Shared) (H : Hp) (E : XK), Room k (A.deeper (envOfC qual (defScope st) s.heap.objs.size f cdv)) →
      SSs (cxOf CX0 P w K mg base N qual (defScope st) f cdv A outer s H E).nox (fun _ _ => False) (defBody st) body)
    (hv : ∀ ds d, g ds = some d → (∃ r', body (startD N ds) = some (.rt d r')) ∨ (d = .none ∧ ∃ r', body (startD N ds) = some (.nx r'))) : FnOk P w K mg base CX0 (k + 1) f fd ps (spF K ps.length g) := by
  refine F.ok S (fun vs H Q E h => h.1) fun cdv A outer s H vs Q E hr h => ?_
  obtain ⟨hlen, F0, ds, d, sb, dv, e, q⟩ := h
  refine ⟨_, (hb cdv A outer s H E hr).ps, ?_⟩
  have hpl : ps.length ≤ N.length := names_fit S
  have R := rep_start (N := N) sb dv (by omega)
  have fin : ∀ {r' : Rho} {v : V} {s' : L2.St} {H' F' : Hp}, Rep K ⟨H, F0, none⟩ r' s' H' F' → Dp K F' v d → Q v H' := fun R' dd => q _ _ _ ⟨R'.f0, R'.old, R'.fh, R'.nw⟩ dd
  rcases hv ds d e with ⟨r', e2⟩ | ⟨rfl, r', e2⟩
  · exact ⟨⟨H, F0, none⟩, _, F0, _, R, e2, fun v s' H' F' R' _ dd => fin R' dd⟩
  · exact ⟨⟨H, F0, none⟩, _, F0, _, R, e2, fun s' H' F' R' _ => fin R' .non⟩
theorem startR_get {N : List Str} {ds xs : List D} {i j : Nat} {sv : SV} (hj : j ≤ ds.length) (h : (startR N j ds xs)[i]? = some (some sv)) : (i = j ∧ sv = .l true xs) ∨ (i < j ∧ ∃ d, ds[i]? = some d ∧ sv = .d d) ∨ (j < i ∧ ∃ d, ds[i - 1]? = some d ∧ sv = .d d) := by
  unfold startR at h
  have ht : ((ds.take j).map fun d => some (SV.d d)).length = j := by rw [List.length_map, List.length_take]; omega
  by_cases h1 : i < j
  · rw [List.getElem?_append_left (by omega), List.getElem?_map, List.getElem?_take_of_lt h1] at h
    cases e : ds[i]? with
    | none => rw [e] at h; cases h
    | some d => rw [e] at h; cases h; exact .inr (.inl ⟨h1, d, rfl, rfl⟩)
  · rw [List.getElem?_append_right (by omega), ht] at h
    by_cases h2 : i = j
    · subst h2
      simp at h
      exact .inl ⟨rfl, h.symm⟩
    · have h3 : i - j = (i - j - 1) + 1 := by omega
      rw [h3, List.getElem?_cons_succ] at h
      by_cases h4 : i - j - 1 < (ds.drop j).length
      · rw [List.getElem?_append_left (by simpa using h4), List.getElem?_map, List.getElem?_drop] at h
        have h5 : j + (i - j - 1) = i - 1 := by omega
        rw [h5] at h
        cases e : ds[i - 1]? with
        | none => rw [e] at h; cases h
        | some d => rw [e] at h; cases h; exact .inr (.inr ⟨by omega, d, rfl, rfl⟩)
      · rw [List.getElem?_append_right (by simpa using h4), List.getElem?_replicate] at h
        split at h <;> cases h
noncomputable def less (H : Hp) (a : Addr) : Hp := fun b => if b = a then none else H b
theorem less_same {H : Hp} {a : Addr} : less H a a = none := by unfold less; rw [if_pos rfl]
theorem less_ne {H : Hp} {a b : Addr} (h : b ≠ a) : less H a b = H b := by unfold less; rw [if_neg h]
theorem rep_startR {N : List Str} {F H : Hp} {vs us : List V} {ds xs : List D} {j : Nat} {a : Addr} (sb : SubH F H) (hj : vs[j]? = some (.ref a)) (h : DpAll K F (vs.eraseIdx j) ds) (hn : vs.length ≤ N.length) (ha : H a = some (.lst us)) (hf : F a = none) (hx : DpAll K F us xs) :
    Rep K ⟨less H a, F, some a⟩ (startR N j ds xs) (L2.start N vs) H F := by
  have hl := dpa_len h
  have hjl : j < vs.length := (List.getElem?_eq_some_iff.mp hj).1
  rw [List.length_eraseIdx_of_lt hjl] at hl
  have hjd : j ≤ ds.length := by omega
  have sg : ∀ {i : Nat} {v : V}, vs[i]? = some v → (L2.start N vs)[i]? = some (some v) := fun {i v} e => by
    unfold L2.start
    have hi : i < vs.length := (List.getElem?_eq_some_iff.mp e).1
    rw [List.getElem?_append_left (by simpa using hi), List.getElem?_map, e]
    rfl
  refine ⟨sb, fun b o q => ?_, .refl _, fun b o q => .inl q, fun i sv e => ?_, fun i k x y a' e1 e2 o1 o2 _ _ => ?_, ?_⟩
  · by_cases e : b = a
    · subst e
      have q : less H b b = some o := q
      rw [less_same] at q; cases q
    · have q : less H a b = some o := q
      rw [less_ne e] at q; exact q
  · rcases startR_get hjd e with ⟨rfl, rfl⟩ | ⟨h1, d, h2, rfl⟩ | ⟨h1, d, h2, rfl⟩
    · exact ⟨_, sg hj, a, us, rfl, ha, hf, less_same, hx, fun _ => rfl⟩
    · obtain ⟨v, h3, h4⟩ := dpa_get h h2
      rw [List.getElem?_eraseIdx_of_lt h1] at h3
      exact ⟨v, sg h3, h4⟩
    · obtain ⟨v, h3, h4⟩ := dpa_get h h2
      rw [List.getElem?_eraseIdx_of_ge (by omega)] at h3
      have : i - 1 + 1 = i := by omega
      rw [this] at h3
      exact ⟨v, sg h3, h4⟩
  · have ow : ∀ {i : Nat} {x : SV}, (startR N j ds xs)[i]? = some (some x) → x.own = true → i = j := fun {i x} e o => by
      rcases startR_get hjd e with ⟨rfl, rfl⟩ | ⟨h1, d, h2, rfl⟩ | ⟨h1, d, h2, rfl⟩
      · rfl
      · cases o
      · cases o
    rw [ow e1 o1, ow e2 o2]
  · unfold startR L2.start
    simp only [List.length_append, List.length_map, List.length_replicate, List.length_cons, List.length_take, List.length_drop]
    omega
/-- the own list's content at the end -/
def endR (j : Nat) (r : Rho) : Option (List D) := match r[j]? with
  | some (some (.l true xs)) => some xs
  | _ => none
theorem fn_okR {x qual : Str} {st : Stmt} {f : Addr} {fd : FuncData} {N ps : List Str} {k : Nat} (j : Nat) (F : Fun K x qual st f fd) (S : FnScope N ps (defScope st)) (g : List D → List D → Option (D × List D)) (body : SM)
    (hb : ∀ (cdv : Value) (A : Around) (outer : List Env) (s : Shared) (H : Hp) (E : XK), Room k (A.deeper (envOfC qual (defScope st) s.heap.objs.size f cdv)) →
      SSs (cxOf CX0 P w K mg base N qual (defScope st) f cdv A outer s H E).nox (fun _ _ => False) (defBody st) body)
    (hv : ∀ ds xs d xs', g ds xs = some (d, xs') → ∃ r', (body (startR N j ds xs) = some (.rt d r') ∨ (d = .none ∧ body (startR N j ds xs) = some (.nx r'))) ∧ endR j r' = some xs') : FnOk P w K mg base CX0 (k + 1) f fd ps (spR K ps.length j g) := by
  refine F.ok S (fun vs H Q E h => h.1) fun cdv A outer s H vs Q E hr h => ?_
  obtain ⟨hlen, F0, ds, a, us, xs, d, xs', sb, hj, dv, ha, hf, hx, e, q⟩ := h
  refine ⟨_, (hb cdv A outer s H E hr).ps, ?_⟩
  have hpl : ps.length ≤ N.length := names_fit S
  have R := rep_startR (N := N) sb hj dv (by omega) ha hf hx
  obtain ⟨r', e2, e3⟩ := hv ds xs d xs' e
  have fin : ∀ {v : V} {s' : L2.St} {H' F' : Hp}, Rep K ⟨less H a, F0, some a⟩ r' s' H' F' → Dp K F' v d → Q v H' := fun {v s' H' F'} R' dd => by
    unfold endR at e3
    split at e3
    · rename_i ys hy
      cases e3
      obtain ⟨v', h1, a', us', rfl, h2, h3, h4, h5, h6⟩ := R'.slots j _ hy
      have ea : a' = a := by have := h6 rfl; cases this; rfl
      subst ea
      refine q v H' F' us' (fun b o hb ho => R'.old b o ?_) R'.f0 R'.fh (fun b o hb => ?_) h2 h5 dd
      · show less H a' b = some o
        rw [less_ne hb]; exact ho
      · rcases R'.nw b o hb with h | h | h
        · exact .inl h
        · by_cases hba : b = a'
          · subst hba
            rw [h3] at hb; cases hb
          · have h : less H a' b = none := h
            rw [less_ne hba] at h; exact .inr (.inl h)
        · exact .inr (.inr h)
    · cases e3
  rcases e2 with e2 | ⟨rfl, e2⟩
  · exact ⟨_, _, F0, _, R, e2, fun v s' H' F' R' _ dd => fin R' dd⟩
  · exact ⟨_, _, F0, _, R, e2, fun s' H' F' R' _ => fin R' .non⟩
end
section
variable {X : Cx} {a b c e : Expr} {es : List Expr} {f : EM} {pos : Pos}
/-! ### calls -/
def callM (g : List D → Option D) (f : AM) : EM := fun r => (f r).bind fun p => (g p.1).map fun d => (d, p.2)
theorem se_call {k : Nat} {fa : Addr} {fd : FuncData} {ps : List Str} {g : List D → Option D} {x : Str} {p : Pos} {fs : AM} (G : FnOk X.prog X.w X.K X.mg X.base CX0 k fa fd ps (spF X.K ps.length g)) (hr : Room k X.A) (hg : Gl X x) (hm : X.mg x = some (.ref fa)) (hk : PySem.W.keepIn X.K (.ref fa) = true) (hb : Binds X.K fd ps [])
    (ha : SA X (e :: es) fs) (hps : ps.length = (e :: es).length) (hdb : (x == ("__debug__" : Str)) = false := by decide) (he : starEach (e :: es) X.env = (false, eval e X.env) :: starEach es X.env := by rfl) (hpl : (backTo pos (starEach es X.env)).any (·.1) = false := by rfl) :
    SE X (.Call (.Name x p) (e :: es) [] pos) (callM g fs) := ⟨pe_imp (pe_call G hr hg hm hk hb .nil pass0 ha.pa hdb he hpl) fun s H Q ⟨z, r, F, d, r', R, e, k⟩ => by
  unfold callM at e
  simp only [Option.bind_eq_some_iff, Option.map_eq_some_iff] at e
  obtain ⟨⟨ds, r1⟩, e1, d', e2, e3⟩ := e
  cases e3
  refine ⟨z, r, F, ds, _, R, e1, fun vs H1 F1 R1 sb dv => ?_⟩
  show spF X.K ps.length g (vs ++ []) H1 Q E0
  rw [List.append_nil]
  exact ⟨by rw [dpa_len dv, hps]; exact ha.len _ _ _ e1, F1, ds, d, R1.fh, dv, e2, fun v H' F' G dd => k v H' F' (R1.grow G) (sb.trans G.ff) dd⟩⟩
/-- arguments, the j-th the own list in slot i -/
def liftAr (K : PySem.W.Frag) (f : AM) (i j : Nat) : TA := fun s H Q => ∃ z r F ds r', Rep K z r s H F ∧ f r = some (ds, r') ∧
  ∀ vs H' F', Rep K z r' s H' F' → SubH F F' → (∃ a, s[i]? = some (some (V.ref a)) ∧ vs[j]? = some (V.ref a)) → DpAll K F' (vs.eraseIdx j) ds → Q vs H'
structure SAr (X : Cx) (es : List Expr) (f : AM) (i j : Nat) : Prop where
  pa : PA X es (liftAr X.K f i j)
  len : ∀ r ds r', f r = some (ds, r') → ds.length + 1 = es.length
  lt : j < es.length
def hereM (i : Nat) (f : AM) : AM := fun r => (ownM i r).bind fun _ => f r
theorem sar_here (i : Nat) {x : Str} {p : Pos} {f : AM} (hr : SA X es f) (hN : X.N[i]? = some x := by rfl) (hv : Vis X.env.scope x := by first | exact Or.inl rfl | exact Or.inr (Or.inl rfl) | exact Or.inr (Or.inr rfl)) (hd : (x == ("__debug__" : Str)) = false := by decide)
    (hcd : (x == ("__classdict__" : Str)) = false := by decide) (hs : starEach (.Name x p :: es) X.env = (false, eval (.Name x p) X.env) :: starEach es X.env := by rfl) : SAr X (.Name x p :: es) (hereM i f) i 0 :=
  ⟨pa_imp (pa_cons (pe_var hN hv hd hcd) hr.pa hs) fun s H Q ⟨z, r, F, d, r', R, e, k⟩ => by
    unfold hereM at e
    simp only [Option.bind_eq_some_iff] at e
    obtain ⟨⟨p0, r0⟩, e0, e1⟩ := e
    obtain ⟨bb, xs, f1, _, _⟩ := ownM_some e0
    obtain ⟨v, h1, a, vs, rfl, h2, h3, h4, h5, h6⟩ := R.slots i _ f1
    exact ⟨_, h1, z, r, F, d, r', R, e1, fun vs H' F' R' sb dv => k _ H' F' R' sb ⟨a, h1, rfl⟩ dv⟩, fun r ds r' e => by
    unfold hereM at e
    simp only [Option.bind_eq_some_iff] at e
    obtain ⟨_, _, e1⟩ := e
    rw [hr.len _ _ _ e1]; rfl, by simp⟩
theorem sar_there {i j : Nat} {g : AM} (ha : SE X e f) (hr : SAr X es g i j) (hs : starEach (e :: es) X.env = (false, eval e X.env) :: starEach es X.env := by rfl) : SAr X (e :: es) (consM f g) i (j + 1) :=
  ⟨pa_imp (pa_cons ha.pe hr.pa hs) fun s H Q ⟨z, r, F, d, r', R, e, k⟩ => by
    obtain ⟨x, r1, xs, e1, e2, rfl⟩ := consM_some e
    exact ⟨z, r, F, x, r1, R, e1, fun v H1 F1 R1 sb1 dv => ⟨z, r1, F1, xs, r', R1, e2, fun vs H2 F2 R2 sb2 ⟨a, q1, q2⟩ dvs => k (v :: vs) H2 F2 R2 (sb1.trans sb2) ⟨a, q1, by simpa using q2⟩ (.cons (dp_mono sb2 dv) dvs)⟩⟩, fun r ds r' e => by
    obtain ⟨x, r1, xs, e1, e2, rfl⟩ := consM_some e
    have := hr.len _ _ _ e2
    simp only [List.length_cons]; omega, by have := hr.lt; simp only [List.length_cons]; omega⟩
def callRM (i : Nat) (g : List D → List D → Option (D × List D)) (f : AM) : EM := fun r => (f r).bind fun p => match p.2[i]? with
  | some (some (.l b xs)) => (g p.1 xs).map fun q => (q.1, p.2.set i (some (.l b q.2)))
  | _ => none
theorem se_callR {k : Nat} {fa : Addr} {fd : FuncData} {ps : List Str} {i j : Nat} {g : List D → List D → Option (D × List D)} {x : Str} {p : Pos} {fs : AM} (G : FnOk X.prog X.w X.K X.mg X.base CX0 k fa fd ps (spR X.K ps.length j g)) (hr : Room k X.A) (hg : Gl X x) (hm : X.mg x = some (.ref fa)) (hk : PySem.W.keepIn X.K (.ref fa) = true) (hb : Binds X.K fd ps [])
    (ha : SAr X (e :: es) fs i j) (hps : ps.length = (e :: es).length) (hdb : (x == ("__debug__" : Str)) = false := by decide) (he : starEach (e :: es) X.env = (false, eval e X.env) :: starEach es X.env := by rfl) (hpl : (backTo pos (starEach es X.env)).any (·.1) = false := by rfl) :
    SE X (.Call (.Name x p) (e :: es) [] pos) (callRM i g fs) := ⟨pe_imp (pe_call G hr hg hm hk hb .nil pass0 ha.pa hdb he hpl) fun s H Q ⟨z, r, F, d, r', R, e, k⟩ => by
  unfold callRM at e
  simp only [Option.bind_eq_some_iff] at e
  obtain ⟨⟨ds, r1⟩, e1, e2⟩ := e
  split at e2
  · rename_i bb xs hxs
    have hxs : r1[i]? = some (some (.l bb xs)) := hxs
    simp only [Option.map_eq_some_iff] at e2
    obtain ⟨⟨d', xs'⟩, e3, e4⟩ := e2
    cases e4
    refine ⟨z, r, F, ds, _, R, e1, fun vs H1 F1 R1 sb ⟨a, q1, q2⟩ dv => ?_⟩
    show spR X.K ps.length j g (vs ++ []) H1 Q E0
    rw [List.append_nil]
    obtain ⟨v', h1', a', us, rfl, h2', h3', h4', h5', h6'⟩ := R1.slots i _ hxs
    have ea : a' = a := by have := q1.symm.trans h1'; cases this; rfl
    subst ea
    have hl := dpa_len dv
    have hlen := ha.len _ _ _ e1
    have hjl : j < vs.length := (List.getElem?_eq_some_iff.mp q2).1
    rw [List.length_eraseIdx_of_lt hjl] at hl
    refine ⟨by rw [hps]; omega, F1, ds, a', us, xs, d', xs', R1.fh, q2, dv, h2', h3', h5', e3, fun v H' F' us' keep ff fh nw ha' dus dd => k v H' F' ?_ (sb.trans ff) dd⟩
    have own : OwnAt r1 s a' := ⟨i, _, hxs, rfl, h1'⟩
    refine ⟨fh, fun b o q => ?_, R1.f0.trans ff, fun b o q => ?_, fun m sv q => ?_, fun m n x y c e1 e2 o1 o2 s1 s2 => ?_, by simpa using R1.len⟩
    · refine keep b o (fun e => ?_) (R1.old b o q)
      rw [e, h4'] at q; cases q
    · rcases nw b o q with h | h | h
      · exact R1.nw b o h
      · exact .inr (.inl (R1.old.none h))
      · exact .inr (.inr h)
    · rcases get_set_cases q with ⟨rfl, e⟩ | ⟨ne, q⟩
      · cases e
        refine ⟨_, h1', a', us', rfl, ha', ?_, h4', dus, h6'⟩
        cases qq : F' a' with
        | none => rfl
        | some o =>
          rcases nw a' o qq with h | h | ⟨ob, ws, rfl⟩
          · rw [h3'] at h; cases h
          · rw [h2'] at h; cases h
          · have q2 := fh a' _ qq
            rw [ha'] at q2; exact (tupHO_lst q2).elim
      · obtain ⟨v2, q1', q2'⟩ := R1.slots m sv q
        refine ⟨v2, q1', q2'.mono ff (fun a2 e hown u hu => ?_) fun a2 o ho hf _ hown e => ?_⟩
        · refine keep a2 u (fun z => ne (R1.apart m i sv _ a' q hxs hown rfl (by rw [q1', e, z]) h1')) hu
        · cases qq : F' a2 with
          | none => rfl
          | some o2 =>
            rcases nw a2 o2 qq with h | h | ⟨ob, ws, rfl⟩
            · rw [hf] at h; cases h
            · rw [ho] at h; cases h
            · have q2 := fh a2 _ qq
              rw [keep a2 o (fun z => ne (R1.apart m i sv _ a' q hxs hown rfl (by rw [q1', e, z]) h1')) ho] at q2; cases q2
              exact absurd ⟨_, _, ho⟩ (q2'.noTup hown e)
    · have cv : ∀ {m : Nat} {x : SV}, (r1.set i (some (.l bb xs')))[m]? = some (some x) → x.own = true → ∃ x', r1[m]? = some (some x') ∧ x'.own = true := fun {m x} e o => by
        rcases get_set_cases e with ⟨rfl, e⟩ | ⟨ne, q⟩
        · exact ⟨_, hxs, rfl⟩
        · exact ⟨x, q, o⟩
      obtain ⟨x', e1', o1'⟩ := cv e1 o1
      obtain ⟨y', e2', o2'⟩ := cv e2 o2
      exact R1.apart m n x' y' c e1' e2' o1' o2' s1 s2
  · cases e2⟩
end
end DL
namespace DL
open PySem L2 PyProof.Rows PySem.Spec PySem.W
/-! ### sorted -/
def tupCons : D → Bool
  | .tuple (_ :: _) => true
  | _ => false
def nonTup : D → Bool
  | .none => false
  | .tuple _ => false
  | _ => true
def sortOk (ds : List D) : Bool := (ds.all fun d => ds.all fun e => alike d e) && (ds.all tupCons || ds.all nonTup) && szOk ds.length && ds.all fun d => decide (d.depth ≤ 60)
def sortL (ds : List D) : List D := ds.mergeSort (dataLe false id)
theorem sortOk_facts {ds : List D} (h : sortOk ds = true) : AllAlike (ds.map id) ∧ Sortable (ds.map id) ∧ ds.length ≤ sizeLine ∧ ∀ d ∈ ds, d.depth ≤ 60 := by
  unfold sortOk at h
  simp only [Bool.and_eq_true, List.all_eq_true, Bool.or_eq_true, decide_eq_true_eq] at h
  obtain ⟨⟨⟨h1, h2⟩, h3⟩, h4⟩ := h
  rw [List.map_id]
  refine ⟨fun d hd e he => h1 d hd e he, ?_, szOk_le h3, h4⟩
  rcases h2 with h2 | h2
  · left
    intro d hd
    have := h2 d hd
    unfold tupCons at this
    split at this
    · exact ⟨_, _, rfl⟩
    · cases this
  · right
    intro d hd
    have := h2 d hd
    unfold nonTup at this
    split at this
    · cases this
    · cases this
    · rename_i n1 n2
      exact ⟨fun e => n1 e, fun xs e => n2 xs e⟩
section
variable {X : Cx}
theorem each_of {K : PySem.W.Frag} {F : Hp} : ∀ {vs : List V} {us : List Value} {ds : List D}, Vals vs us → DpAll K F vs ds → EachIs (fun u d => ∃ x, RelV x u ∧ Dp K F x d) us ds
  | _, _, _, .nil, .nil => .nil
  | _, _, _, .cons r rs, .cons d ds => .cons ⟨_, r, d⟩ (each_of rs ds)
theorem of_each {K : PySem.W.Frag} {F : Hp} : ∀ {us : List Value} {ds : List D}, EachIs (fun u d => ∃ x, RelV x u ∧ Dp K F x d) us ds → ∃ vs, Vals vs us ∧ DpAll K F vs ds
  | _, _, .nil => ⟨[], .nil, .nil⟩
  | _, _, .cons ⟨x, r, d⟩ t => by
    obtain ⟨vs, h1, h2⟩ := of_each t
    exact ⟨x :: vs, .cons r h1, .cons d h2⟩
theorem each_reads {pins : List (Addr × Obj)} {σ : L2.St} {H F : Hp} {s : Shared} (I : L2.Inv X pins σ H s) (sb : SubH F H) : ∀ {vs : List V} {us : List Value} {ds : List D}, Vals vs us → DpAll X.K F vs ds → EachIs (fun v b => ∃ as, Reads s.heap v b as) us ds
  | _, _, _, .nil, .nil => .nil
  | _, _, _, .cons r1 rs, .cons d1 d2 => .cons (L2.Dp.reads I _ _ _ (dp_old (dp_mono sb d1)) r1) (each_reads I sb rs d2)
def sortD : D → Option D
  | .list ds => if sortOk ds then some (.list (sortL ds)) else none
  | _ => none
theorem cr_sortD (hu : X.A.units + 100 < cLine) : CallR X (.builtin "sorted") (liftC1 X.K sortD) := by
  intro pins s σ H vs us Q I r h
  obtain ⟨F, x, d, o, rfl, sb, dx, eo, k⟩ := h
  unfold sortD at eo
  split at eo
  · split at eo
    · rename_i ds ok
      cases eo
      obtain ⟨a, vs, rfl, h1, h2⟩ := dv_lst sb dx
      obtain ⟨u, rfl, ru⟩ := vals1 r
      obtain rfl : u = Value.ref a := ru
      obtain ⟨its, rv, hl, hz⟩ := I.list h1
      obtain ⟨hal, hso, hL, hdp⟩ := sortOk_facts ok
      refine sorted_data (enc := id) (R := fun u d => ∃ x, RelV x u ∧ Dp X.K F x d) hl.isList (each_of rv h2) (each_reads I sb rv h2) hal hso hL (fun b hb => ?_) fun out hol he => ?_
      · have := hdp b hb
        simp only [id]
        omega
      · obtain ⟨ws, r1, d1⟩ := of_each he
        have hwl : ws.length = ds.length := by
          have q1 := r1.length
          omega
        obtain ⟨n, e2⟩ := sortedAll_at s.heap its (List.toArray out)
        have hfr : H (s.heap.objs.size + 1) = none := I.hok.fresh (Nat.le_succ _)
        obtain ⟨G, q⟩ := new_lst sb hfr d1
        refine ⟨.ref (s.heap.objs.size + 1), upd H (s.heap.objs.size + 1) (.lst ws), ?_, rfl, k _ _ _ G q⟩
        refine I.laid (t' := s.toks) (fun b ob e => sortedAll_old e) (Nat.le_succ _) ⟨by rw [hwl]; exact hL, out, n, r1, ?_⟩
        exact e2
    · cases eo
  · cases eo
end
end DL
namespace DL
open PySem L2 PyProof.Rows PySem.Spec PySem.W
/-! ### own dicts -/
def keyOf : D → Option Key
  | .int i => some (.inl i)
  | .str x => some (.inr x)
  | _ => none
def keysOf : List D → Option (List Key)
  | [] => some []
  | d :: ds => (keyOf d).bind fun k => (keysOf ds).map (k :: ·)
def dkOf (t : Bool) (d : D) : Option DK := if t then (match d with
  | .tuple ds => (keysOf ds).map .inr
  | _ => none) else (keyOf d).map .inl
def dkD : DK → D
  | .inl k => keyD k
  | .inr ks => .tuple (ks.map keyD)
/-- a value put under a key: where the key stands, or behind all -/
def putG {α β : Type} [DecidableEq α] (kvs : List (α × β)) (k : α) (v : β) : List (α × β) :=
  if k ∈ kvs.map Prod.fst then kvs.map (fun kv => (kv.1, if kv.1 = k then v else kv.2)) else kvs ++ [(k, v)]
theorem keyOf_rel {K : PySem.W.Frag} {F : Hp} {v : V} {d : D} {k : Key} (x : Dp K F v d) (h : keyOf d = some k) : v = kV k := by
  unfold keyOf at h
  split at h
  · cases h; exact x.inv
  · cases h; exact x.inv
  · cases h
theorem keysOf_rel {K : PySem.W.Frag} {F : Hp} : ∀ {vs : List V} {ds : List D} {ks : List Key}, DpAll K F vs ds → keysOf ds = some ks → vs = ks.map kV
  | _, [], _, .nil, h => by cases h; rfl
  | _, d :: ds, ks, .cons x t, h => by
    simp only [keysOf, Option.bind_eq_some_iff, Option.map_eq_some_iff] at h
    obtain ⟨k, h1, ks', h2, rfl⟩ := h
    rw [keyOf_rel x h1, keysOf_rel t h2]; rfl
theorem kD_dp {K : PySem.W.Frag} {F : Hp} (k : Key) : Dp K F (kV k) (keyD k) := by
  cases k with
  | inl i => exact .int i
  | inr x => exact .str x
theorem kDs_dp {K : PySem.W.Frag} {F : Hp} : ∀ ks : List Key, DpAll K F (ks.map kV) (ks.map keyD)
  | [] => .nil
  | k :: ks => .cons (kD_dp k) (kDs_dp ks)
section
variable {K : PySem.W.Frag} {z : Fx} {r : Rho} {s : L2.St} {H F : Hp}
theorem paired_keys {α : Type} {g : α → DK} : ∀ {ks : List (α × V)} {kvs : List (DK × D)}, Paired (fun (p : α × V) (q : DK × D) => q.1 = g p.1 ∧ Dp K F p.2 q.2) ks kvs → kvs.map Prod.fst = ks.map fun p => g p.1
  | _, _, .nil => rfl
  | _, _, .cons ⟨e, _⟩ t => by rw [List.map_cons, List.map_cons, paired_keys t, e]
theorem paired_map {α : Type} [DecidableEq α] {g : α → DK} (hg : ∀ x y, g x = g y → x = y) {k : α} {v : V} {d : D} (hv : Dp K F v d) : ∀ {ks : List (α × V)} {kvs : List (DK × D)}, Paired (fun (p : α × V) (q : DK × D) => q.1 = g p.1 ∧ Dp K F p.2 q.2) ks kvs →
    Paired (fun (p : α × V) (q : DK × D) => q.1 = g p.1 ∧ Dp K F p.2 q.2) (ks.map fun kv => if kv.1 = k then (kv.1, v) else kv) (kvs.map fun kv => (kv.1, if kv.1 = g k then d else kv.2))
  | _, _, .nil => .nil
  | _, _, .cons (a := p) (b := q) ⟨e, e2⟩ t => by
    refine .cons ?_ (paired_map hg hv t)
    dsimp only
    by_cases h : p.1 = k
    · rw [if_pos h, if_pos (e.trans (congrArg g h))]; exact ⟨e, hv⟩
    · rw [if_neg h, if_neg fun q => h (hg _ _ (e.symm.trans q))]; exact ⟨e, e2⟩
theorem paired_app {α β : Type} {R : α → β → Prop} : ∀ {as bs : List α} {cs ds : List β}, Paired R as cs → Paired R bs ds → Paired R (as ++ bs) (cs ++ ds)
  | _, _, _, _, .nil, h => h
  | _, _, _, _, .cons a t, h => .cons a (paired_app t h)
theorem paired_put {α : Type} [DecidableEq α] {g : α → DK} (hg : ∀ x y, g x = g y → x = y) {k : α} {v : V} {d : D} (hv : Dp K F v d) {ks : List (α × V)} {kvs : List (DK × D)} (h : Paired (fun (p : α × V) (q : DK × D) => q.1 = g p.1 ∧ Dp K F p.2 q.2) ks kvs) :
    Paired (fun (p : α × V) (q : DK × D) => q.1 = g p.1 ∧ Dp K F p.2 q.2) (putK ks k v) (putG kvs (g k) d) := by
  have same : g k ∈ kvs.map Prod.fst ↔ (ks.any fun kv => decide (kv.1 = k)) = true := by
    rw [paired_keys h, List.mem_map, List.any_eq_true]
    exact ⟨fun ⟨p, m, e⟩ => ⟨p, m, decide_eq_true (hg _ _ e)⟩, fun ⟨p, m, e⟩ => ⟨p, m, congrArg g (of_decide_eq_true e)⟩⟩
  unfold putK putG
  by_cases there : g k ∈ kvs.map Prod.fst
  · rw [if_pos there, if_pos (same.mp there)]; exact paired_map hg hv h
  · rw [if_neg there, if_neg fun q => there (same.mpr q)]; exact paired_app h (.cons ⟨rfl, hv⟩ .nil)
end
theorem paired_mem2 {α β : Type} {R : α → β → Prop} : ∀ {as : List α} {bs : List β} {b : β}, Paired R as bs → b ∈ bs → ∃ a, a ∈ as ∧ R a b
  | _, _, _, .nil, h => nomatch h
  | _, _, b, .cons (a := a) r t, h => by
    rcases List.mem_cons.mp h with e | h
    · subst e; exact ⟨a, by simp, r⟩
    · obtain ⟨a', h1, h2⟩ := paired_mem2 t h
      exact ⟨a', by simp [h1], h2⟩
theorem dk_map {K : PySem.W.Frag} {F : Hp} : ∀ {ks : List (List Key × V)} {kvs : List (DK × D)}, Paired (fun (p : List Key × V) (q : DK × D) => q.1 = .inr p.1 ∧ Dp K F p.2 q.2) ks kvs → (kvs.map fun kv => dkD kv.1) = ks.map fun kv => dkD (.inr kv.1)
  | _, _, .nil => rfl
  | _, _, .cons ⟨e, _⟩ t => by rw [List.map_cons, List.map_cons, dk_map t, e]
/-- a key's tuple is flat -/
theorem kV_flat (k : List Key) : (k.map kV).all noRef = true := by
  rw [List.all_map, List.all_eq_true]
  intro x _
  cases x <;> rfl
theorem tupAt_key {H : Hp} {b : Addr} {k : List Key} : TupAt H b (k.map kV) ↔ H b = some (.tup (k.map kV)) :=
  ⟨fun ⟨_, _, e⟩ => by rwa [tupHO_flat (kV_flat k)] at e, fun e => ⟨tupObj [], rfl, by rw [tupHO_flat (kV_flat k)]; exact e⟩⟩
mutual
theorem reads_lt {h : Heap} : ∀ (d : PyData) (v : Value) (as : List Addr), alike d d = true → Reads h v d as → ∀ a ∈ as, a < h.objs.size
  | .none, _, _, _, .none, a, hm => nomatch hm
  | .bool _, _, _, _, .bool _, a, hm => nomatch hm
  | .int _, _, _, _, .int _ _, a, hm => nomatch hm
  | .str _, _, _, _, .str _ _, a, hm => nomatch hm
  | .list xs, _, _, al, .list h1 _ _ h4, a, hm => by
    rcases List.mem_cons.mp hm with e | hm
    · subst e; exact Heap.lt_size h1
    · exact reads_ltAll xs _ _ (by simpa [alike] using al) h4 a hm
  | .tuple xs, _, _, al, .tuple h1 _ _ h4, a, hm => reads_ltAll xs _ _ (by simpa [alike] using al) h4 a hm
  | .dict kvs, _, _, al, _, a, hm => by simp [alike] at al
theorem reads_ltAll {h : Heap} : ∀ (ds : List PyData) (vs : List Value) (as : List Addr), alikeAll ds ds = true → ReadsAll h vs ds as → ∀ a ∈ as, a < h.objs.size
  | [], _, _, _, .nil, a, hm => nomatch hm
  | d :: ds, _, _, al, .cons h1 h2, a, hm => by
    obtain ⟨a1, a2⟩ := alike_all_cons al
    rcases List.mem_append.mp hm with hm | hm
    · exact reads_lt d _ _ a1 h1 a hm
    · exact reads_ltAll ds _ _ a2 h2 a hm
end
section
variable {X : Cx} {W : String → Hp → Prop} {a b c e : Expr} {f g : EM} {pos : Pos}
def newDM (i : Nat) (t : Bool) : SM := fun r => some (.nx (r.set i (some (.m false t []))))
/-- d[k] = v: the value, the dict, the key -/
def putM (i : Nat) (fk fv : EM) : SM := fun r => (fv r).bind fun p => match p.2[i]? with
  | some (some (.m _ _ _)) => (fk p.2).bind fun q => (match q.2[i]? with
    | some (some (.m b t kvs)) => (dkOf t q.1).bind fun k => if szOk kvs.length then some (.nx (q.2.set i (some (.m b t (putG kvs k p.1))))) else none
    | _ => none)
  | _ => none
/-- len(d) -/
def lenDM (i : Nat) : EM := fun r => match r[i]? with
  | some (some (.m _ true kvs)) => some (.int kvs.length, r)
  | _ => none
/-- sorted(d), the keys tuples -/
def sortDM (i : Nat) : EM := fun r => match r[i]? with
  | some (some (.m _ true kvs)) => if sortOk (kvs.map fun kv => dkD kv.1) then some (.list (sortL (kvs.map fun kv => dkD kv.1)), r) else none
  | _ => none
/-- what a walk over a dict with tuple keys collects: the key tuples, in order -/
theorem collect_dT {A : Around} {E : Value → Shared → Prop} {pins : List (Addr × Obj)} {s : Shared} {σ : L2.St} {H : Hp} {d : Addr} {kvs : List (List Key × V)} {R : List Value → Shared → Prop} (calm : A.handled = none) (I : L2.Inv X pins σ H s) (hd : H d = some (.dT kvs))
    (out : ∀ (h' : Heap) (tk : Nat) (bs : List Addr), (∀ b o, s.heap.get? b = some o → h'.get? b = some o) → IsKeys H kvs bs → R (bs.map Value.ref) { s with heap := h', toks := tk }) : wpAny (model X.prog X.w) A (collect (.ref d)) R E s := by
  have ok : ObjOk X.prog X.w H s.heap d (.dT kvs) := I.hok d _ hd
  obtain ⟨small, own, rows, pr, o, es, ep, stands, exact', data, entries, -⟩ := ok
  have many : es.size = kvs.length := (size_of_entries entries).trans (Paired.length pr).symm
  refine PySem.W.kdu_collect (kdl_raw own exact' data) calm stands (by omega) fun h' tk acc keeps items => ?_
  have all : acc.toList = (rows.map fun x => x.2.1).map Value.ref := by
    refine List.ext_getElem (by simp [items.1, size_of_entries entries]) fun n l1 l2 => ?_
    obtain ⟨en, at_, key⟩ := items.2 n acc.toList[n] (by simp at l1 ⊢)
    rw [entry_at entries n] at at_
    obtain ⟨row, hr, rfl⟩ := Option.map_eq_some_iff.mp at_
    rw [key]
    simp [(List.getElem?_eq_some_iff.mp hr).2, entryOfKey, tupleKind]
  rw [all]
  exact out h' tk _ keeps (isKeys_of pr)
end
section
variable {X : Cx}
/-- key tuples are frozen -/
theorem keys_frozen {F H : Hp} {kvs : List (List Key × V)} : ∀ {bs : List Addr}, IsKeys H kvs bs → SubH F H → ∃ F1, Grow F H F1 H ∧ DpAll X.K F1 (bs.map V.ref) (kvs.map fun kv => dkD (.inr kv.1)) := by
  classical
  intro bs keys sb
  refine ⟨fun b => if b ∈ bs then H b else F b, ⟨fun b o e => ?_, .refl _, fun b o e => ?_, fun b o e => ?_⟩, ?_⟩
  · by_cases m : b ∈ bs
    · simpa [m] using sb b o e
    · simpa [m] using e
  · by_cases m : b ∈ bs
    · simpa [m] using e
    · exact sb b o (by simpa [m] using e)
  · by_cases m : b ∈ bs
    · obtain ⟨p, -, hp⟩ := paired_mem2 keys m
      have e : H b = some o := by simpa [m] using e
      rw [hp] at e
      exact .inr (.inr ⟨tupObj [], _, ((tupHO_flat (kV_flat _)).trans (Option.some.inj e)).symm⟩)
    · exact .inl (by simpa [m] using e)
  · have each : ∀ {kvs' : List (List Key × V)} {bs' : List Addr}, IsKeys H kvs' bs' → (∀ b ∈ bs', b ∈ bs) → DpAll X.K (fun b => if b ∈ bs then H b else F b) (bs'.map V.ref) (kvs'.map fun kv => dkD (.inr kv.1)) := by
      intro kvs' bs' k
      unfold IsKeys at k
      induction k with
      | nil => exact fun _ => .nil
      | cons h _ ih =>
        intro m
        refine .cons (.tup ?_ (kDs_dp _)) (ih fun b hb => m b (List.mem_cons_of_mem _ hb))
        refine tupAt_key.mpr ?_
        rw [if_pos (m _ List.mem_cons_self)]
        exact h
    exact each keys fun _ m => m
/-- sorted of what may be collected -/
theorem sorted_from {pins : List (Addr × Obj)} {s : Shared} {σ : L2.St} {H F : Hp} {v : Value} {ds : List D} {Q : VK} (hu : X.A.units + 100 < cLine) (I : L2.Inv X pins σ H s) (ok : sortOk ds = true)
    (col : ∀ {R : List Value → Shared → Prop}, (∀ (h1 : Heap) (tk : Nat) (us : List Value) (vs : List V) (F1 : Hp), (∀ b o, s.heap.get? b = some o → h1.get? b = some o) → Vals vs us → Grow F H F1 H → DpAll X.K F1 vs ds → R us { s with heap := h1, toks := tk }) → wpAny (model X.prog X.w) X.A.in1 (collect v) R X.xe s)
    (give : ∀ w H' F', Grow F H F' H' → Dp X.K F' w (.list (sortL ds)) → Q w H') : wpAny (model X.prog X.w) X.A (call (.builtin "sorted") [v]) (EP X pins σ Q) X.xe s := by
  obtain ⟨alikes, sortable, short, flat⟩ := sortOk_facts ok
  apply Calls.call_function_entry PyProof.Rows.kind_sorted PyProof.Rows.plain_sorted PyProof.Rows.entry_sorted (PyProof.Rows.args_sorted1 _)
  delta Builtin.«sorted»
  apply wpAny_bind; apply wpAny_pure
  apply wpAny_bind
  refine col fun h1 tk us vs F1 keeps vals grown data => ?_
  have I1 : L2.Inv X pins σ H { s with heap := h1, toks := tk } := I.kept keeps
  have len : us.length ≤ sizeLine := by rw [← vals.length, dpa_len data]; exact short
  apply wpAny_bind
  refine wpAny_newList ?_ len
  have stands := Heap.get?_push_size h1 (o := seqObj "list" us.toArray 0) rfl
  have reads : EachIs (fun v b => ∃ as, Reads (h1.push (seqObj "list" us.toArray 0)) v (id b) as ∧ h1.objs.size ∉ as) us ds := by
    refine (each_mem (each_reads I1 grown.fh vals data)).mono ?_
    rintro v b ⟨⟨as, r⟩, mb⟩
    refine ⟨as, PyProof.Rows.Reads.keeps (fun _ _ old => Heap.get?_push_of_some _ old) r, fun inn => ?_⟩
    have mb' : b ∈ ds.map id := by rwa [List.map_id]
    exact Nat.lt_irrefl _ (reads_lt _ _ _ (alikes b mb' b mb') r _ inn)
  apply wpAny_bind; apply wpAny_holding
  refine list_sort_data (A := X.A.in1) (s := { s with heap := h1.push (seqObj "list" us.toArray 0), toks := tk }) (enc := id) (R := fun u d => ∃ x, RelV x u ∧ Dp X.K F1 x d) stands (each_of vals data) reads alikes sortable short (fun b mb => ?_) fun out outLen outIs => ?_
  · have := flat b mb
    show X.A.units + 1 + 1 + _ < _
    simp only [id]
    omega
  · obtain ⟨ws, wv, wd⟩ := of_each outIs
    obtain ⟨n, sortedAt⟩ := PyProof.Rows.sortedHeap_at (vs := us) (out := out.toArray) stands
    have new : H h1.objs.size = none := I1.hok.fresh (Nat.le_refl _)
    obtain ⟨laid, dp⟩ := new_lst grown.fh new wd
    have wlen : ws.length ≤ sizeLine := by
      have e1 := wv.length
      omega
    apply wpAny_pure
    refine ⟨_, rfl, .ref h1.objs.size, upd H h1.objs.size (.lst ws), I1.laid (t' := tk) (fun b o old => ?_) (Nat.le_refl _) ⟨wlen, out, n, wv, sortedAt⟩, rfl, give _ _ _ (grown.trans laid) dp⟩
    have older : b < h1.objs.size := Heap.lt_size old
    rw [PyProof.Rows.sortedHeap_old (Nat.ne_of_lt older) (by rw [size_push']; exact Nat.lt_succ_of_lt older)]
    exact Heap.get?_push_of_some _ old
/-- sorted(d), the keys tuples -/
theorem call_sortedT (hu : X.A.units + 100 < cLine) (hc : X.calm = true) : CallR X (.builtin "sorted") (fun xs H Q => ∃ (d : Addr) (kvs : List (List Key × V)) (F : Hp), xs = [V.ref d] ∧ SubH F H ∧ H d = some (.dT kvs) ∧ sortOk (kvs.map fun kv => dkD (.inr kv.1)) = true ∧
    ∀ v H' F', Grow F H F' H' → Dp X.K F' v (.list (sortL (kvs.map fun kv => dkD (.inr kv.1)))) → Q v H') := by
  rintro pins s σ H xs us Q I rel ⟨d, kvs, F, rfl, sb, hd, ok, give⟩
  obtain ⟨u, rfl, ru⟩ := vals1 rel
  cases ru
  refine sorted_from hu I ok (fun {R} go => ?_) give
  refine collect_dT (A := X.A.in1) (I.ok.hd hc) I hd fun h1 tk bs keeps keys => ?_
  obtain ⟨F1, grown, data⟩ := keys_frozen (X := X) keys sb
  exact go h1 tk _ _ F1 keeps (vals_refs bs) grown data
/-- sorted(t), t a tuple -/
theorem call_sortedU (hu : X.A.units + 100 < cLine) : CallR X (.builtin "sorted") (fun xs H Q => ∃ (p : Addr) (vs : List V) (ds : List D) (F : Hp), xs = [V.ref p] ∧ SubH F H ∧ SqT X.K H p vs ∧ DpAll X.K F vs ds ∧ sortOk ds = true ∧
    ∀ v H' F', Grow F H F' H' → Dp X.K F' v (.list (sortL ds)) → Q v H') := by
  rintro pins s σ H xs us Q I rel ⟨p, vs, ds, F, rfl, sb, tup, data, ok, give⟩
  obtain ⟨u, rfl, ru⟩ := vals1 rel
  cases ru
  obtain ⟨its, vals, ⟨ob, stands, isT, n, isS⟩, fits⟩ := I.tuple tup
  refine sorted_from hu I ok (fun {R} go => ?_) give
  exact wpAny_collect_seq p (.inr rfl) stands isT isS (fun h1 keeps => go h1 s.toks _ _ F keeps vals (.refl sb) data) (by rw [List.size_toArray, ← vals.length]; exact fits)
/-- sorted of a list or a tuple -/
def sortD2 : D → Option D
  | .list ds => if sortOk ds then some (.list (sortL ds)) else none
  | .tuple ds => if sortOk ds then some (.list (sortL ds)) else none
  | _ => none
theorem cr_sortD2 (hu : X.A.units + 100 < cLine) : CallR X (.builtin "sorted") (liftC1 X.K sortD2) := by
  rintro pins s σ H xs us Q I rel ⟨F, x, d, o, rfl, sb, dx, eo, k⟩
  cases d with
  | list ds => exact cr_sortD hu pins s σ H _ us Q I rel ⟨F, x, .list ds, o, rfl, sb, dx, eo, k⟩
  | tuple ds =>
    unfold sortD2 at eo
    dsimp only at eo
    split at eo
    · rename_i ok
      cases eo
      obtain ⟨p, vs, rfl, tup, each⟩ := dv_tup dx
      exact call_sortedU hu pins s σ H _ us Q I rel ⟨p, vs, ds, F, rfl, sb, sb.sqt (sqt_of tup), each, ok, k⟩
    · cases eo
  | _ => cases eo
end
end DL
namespace DL
open PySem L2 PyProof.Rows PySem.Spec PySem.W
/-! ### t[::-1] -/
section
variable {prog : Program} {w : World} {A : Around} {E : Value → Shared → Prop} {s : Shared}
theorem sliceApplied_rev {sl : Addr} {vl vu vs : Value} {n : Nat} {Q : Int × Int × Nat → Shared → Prop} (hs : s.heap.IsSliceOf sl vl vu vs) (pl : IsPart vl none) (pu : IsPart vu none) (ps : IsPart vs (some (-1)))
    (h : Q ((n : Int) - 1, -1, n) s) : wpAny (model prog w) A (Builtin.Slice.sliceApplied (.ref sl) (pure (n : Int))) Q E s := by
  rcases hs with ⟨obj, stands, -, parts⟩
  have ends : Builtin.Slice.sliceAdjust none none (-1) (n : Int) = ((n : Int) - 1, -1) := by simp [Builtin.Slice.sliceAdjust]
  have many : Builtin.Slice.slicePlaces ((n : Int) - 1) (-1) (-1) = n := by
    simp [Builtin.Slice.slicePlaces]
    omega
  delta Builtin.Slice.sliceApplied Builtin.Slice.sliceFields
  wp_walk using wpAny_field (i := 0) (x := vl) stands parts rfl, wpAny_field (i := 1) (x := vu) stands parts rfl, wpAny_field (i := 2) (x := vs) stands parts rfl, HT.slicePart_ pl, HT.slicePart_ pu, HT.slicePart_ ps
  simp only [Option.getD_some, ends, many]
  wp_walk
  exact h
theorem pick_rev (xs : Array Value) : ((List.range xs.size).filterMap fun (m : Nat) => xs[(((xs.size : Int) - 1) + (m : Int) * (-1)).toNat]?).toArray = xs.toList.reverse.toArray := by
  congr 1
  have e : ∀ m ∈ List.range xs.size, xs[(((xs.size : Int) - 1) + (m : Int) * (-1)).toNat]? = some (xs.toList.reverse.getD m .none) := by
    intro m hm
    have hm := List.mem_range.mp hm
    have : (((xs.size : Int) - 1) + (m : Int) * (-1)).toNat = xs.size - 1 - m := by omega
    rw [this]
    have h2 : xs.size - 1 - m < xs.size := by omega
    rw [Array.getElem?_eq_getElem h2, List.getD_eq_getElem?_getD, List.getElem?_reverse (by simpa using hm)]
    simp [h2]
  have : ∀ (l : List Nat) (f : Nat → Option Value) (g : Nat → Value), (∀ m ∈ l, f m = some (g m)) → l.filterMap f = l.map g := by
    intro l f g h
    induction l with
    | nil => rfl
    | cons a l ih => rw [List.filterMap_cons, h a (by simp), List.map_cons, ih fun m hm => h m (by simp [hm])]
  rw [this _ _ _ e]
  apply List.ext_getElem?
  intro j
  rw [List.getElem?_map]
  by_cases hj : j < xs.size
  · rw [List.getElem?_range hj]
    simp [hj]
  · rw [List.getElem?_eq_none (by simpa using hj), List.getElem?_eq_none (by simpa using hj)]
    rfl
/-- tuple.__getitem__ at a slice that goes backwards through all -/
theorem meets_tupBack (t sl : Addr) (items : Array Value) (vl vu vs : Value) (pl : IsPart vl none) (pu : IsPart vu none) (ps : IsPart vs (some (-1))) (fits : items.size ≤ sizeLine) :
    Meets (Builtin.«tuple.__getitem__» ⟨[.ref t, .ref sl], []⟩) (fun _ R s => IsTup s.heap t items ∧ s.heap.IsSliceOf sl vl vu vs ∧
      R (.ok (.ret (.ref s.heap.objs.size))) { s with heap := s.heap.push { cls := .type "tuple", data := .seq items.toList.reverse.toArray } }) := by
  refine .of_wp fun prog w A R s ⟨isT, isS, done⟩ => ?_
  have tyS : s.TypeIs (.ref sl) "slice" := let ⟨o, g, c, _⟩ := isS; ⟨o, g, c⟩
  have small : sizeOk (.seq items.toList.reverse.toArray) := by simpa [sizeOk] using fits
  wp_walk using tupleItemsOf_ isT, wpAny_typeOf tyS, sliceApplied_rev (A := A.in1) (n := items.size) isS pl pu ps
  have room : ¬ items.toList.reverse.toArray.size > sizeLine := by simpa using fits
  rw [pick_rev, if_neg room]
  wp_walk
  exact ⟨_, rfl, done⟩
end
section
variable {X : Cx} {a b c e : Expr} {f g : EM} {pos : Pos}
/-- a slice display of three parts: a new slice with these parts -/
theorem slice3 {lo hi st : Option Expr} {tl th ts : TO} {p : Pos} (hl : PO X lo tl) (hh : PO X hi th) (hs : PO X st ts) {pins : List (Addr × Obj)} {s : Shared} {σ : L2.St} {H : Hp} {Q : Option Int → Option Int → Option Int → Hp → Prop}
    (I : L2.Inv X pins σ H s) (q : tl σ H fun l H1 => th σ H1 fun h H2 => ts σ H2 fun d H3 => Q l h d H3) :
    wpAny (model X.prog X.w) X.A (eval (.Slice lo hi st p) X.env) (fun v s' => ∃ sl u1 u2 u3 l h d H', v = .ref sl ∧ s'.heap.IsSliceOf sl u1 u2 u3 ∧ IsPart u1 l ∧ IsPart u2 h ∧ IsPart u3 d ∧ L2.Inv X pins σ H' s' ∧ Q l h d H') X.xe s := by
  apply wpAny_Slice
  refine thn (hl.run pins s σ H _ I q) ?_
  rintro u1 s1 ⟨l, H1, I1, part1, q1⟩
  refine thn (hh.run pins s1 σ H1 _ I1 q1) ?_
  rintro u2 s2 ⟨h, H2, I2, part2, q2⟩
  refine thn (hs.run pins s2 σ H2 _ I2 q2) ?_
  rintro u3 s3 ⟨d, H3, I3, part3, q3⟩
  exact ⟨_, u1, u2, u3, l, h, d, H3, rfl, Heap.IsSliceOf.new _ u1 u2 u3, part1, part2, part3, I3.kept (t' := s3.toks) (fun _ _ old => Heap.get?_push_of_some _ old), q3⟩
def tRevT (K : PySem.W.Frag) (te : TE) : TE := fun σ H Q => te σ H fun x H1 => ∃ a xs, x = .ref a ∧ SqT K H1 a xs ∧ Laid H1 xs.reverse Q
theorem pe_revT {e : Expr} {te : TE} {k : Nat} {p1 p2 p3 pos : Pos} (he : PE X e te) : PE X (.Subscript e (.Slice none none (some (.UnaryOp .USub (.Constant (.int 1) k p1) p2)) p3) pos) (tRevT X.K te) := by
  constructor
  intro pins s σ H Q I want
  apply Subscript_
  refine thn (he.run pins s σ H _ I want) ?_
  rintro v s1 ⟨x, H1, I1, rel, a, xs, rfl, tup, give⟩
  cases rel
  refine thn (slice3 po_none po_none (po_some (pe_un un_neg pe_int)) I1 (Q := fun l h d H' => l = none ∧ h = none ∧ d = some (-1) ∧ H' = H1) ⟨1, rfl, -1, rfl, rfl, rfl, rfl, rfl⟩) ?_
  rintro v2 s2 ⟨sl, u1, u2, u3, l, h, d, H2, rfl, isS, part1, part2, part3, I2, rfl, rfl, rfl, rfl⟩
  obtain ⟨its, vals, isT, len⟩ := I2.tuple tup
  have fits : its.toArray.size ≤ sizeLine := by rw [List.size_toArray, ← vals.length]; exact len
  refine tail_any (T := "tuple") (id := "tuple.__getitem__") (ops := [.ref a, .ref sl]) isT.typeIs PySem.F.slot_tuple_getitem.lookup ?_ (by with_unfolding_all rfl)
  refine getItem_meets isT.typeIs (by decide) PySem.F.slot_tuple_getitem PySem.F.entry_tuple_getitem (PySem.F.args_tuple_getitem_2 _ _) (meets_tupBack a sl its.toArray u1 u2 u3 part1 part2 part3 fits) ⟨isT, isS, ?_⟩
  exact laid_ep I2 vals.reverse (by simpa using len) give
def revD : D → Option D
  | .tuple ds => some (.tuple ds.reverse)
  | .list ds => some (.list ds.reverse)
  | _ => none
theorem se_rev {k : Nat} {p1 p2 p3 : Pos} (he : SE X e f) : SE X (.Subscript e (.Slice none none (some (.UnaryOp .USub (.Constant (.int 1) k p1) p2)) p3) pos) (unM revD f) := ⟨⟨fun pins s σ H Q I h => by
  obtain ⟨z, r, F, d, r', R, e, k⟩ := h
  obtain ⟨x, e1, e2⟩ := unM_some e
  unfold revD at e2
  split at e2
  · cases e2
    refine (pe_revT he.pe).run pins s σ H Q I ⟨z, r, F, _, r', R, e1, fun v H' F' R' sb dv => ?_⟩
    obtain ⟨_, _, rfl, h1, h2⟩ := dv.inv
    refine ⟨_, _, rfl, R'.fh.sqt (sqt_of h1), fun p ob nd hp => ?_⟩
    obtain ⟨G, q⟩ := new_tup nd R'.fh hp (dpa_rev h2)
    exact k _ _ _ (R'.grow G) (sb.trans G.ff) q
  · cases e2
    refine (pe_revL he.pe).run pins s σ H Q I ⟨z, r, F, _, r', R, e1, fun v H' F' R' sb dv => ?_⟩
    obtain ⟨_, _, rfl, h1, h2⟩ := dv.inv
    refine ⟨_, _, rfl, R'.fh.sql h1, fun p hp => ?_⟩
    obtain ⟨G, q⟩ := new_lst R'.fh hp (dpa_rev h2)
    exact k _ _ _ (R'.grow G) (sb.trans G.ff) q
  · cases e2⟩⟩
/-! ### own + row: a new list -/
end
/-! ### what a body is worth -/
def runF (N : List Str) (body : SM) (ds : List D) : Option D := match body (startD N ds) with
  | some (.rt d _) => some d
  | some (.nx _) => some .none
  | _ => none
def runR (N : List Str) (j : Nat) (body : SM) (ds xs : List D) : Option (D × List D) := match body (startR N j ds xs) with
  | some (.rt d r) => (endR j r).map fun ys => (d, ys)
  | some (.nx r) => (endR j r).map fun ys => (.none, ys)
  | _ => none
section
variable {P : Program} {w : World} {K : PySem.W.Frag} {mg : Str → Option Value} {base : Heap}
theorem fn_run {x qual : Str} {st : Stmt} {f : Addr} {fd : FuncData} {N ps : List Str} {k : Nat} {body : SM} (F : Fun K x qual st f fd) (S : FnScope N ps (defScope st))
    (hb : ∀ (cdv : Value) (A : Around) (outer : List Env) (s : Shared) (H : Hp) (E : XK), Room k (A.deeper (envOfC qual (defScope st) s.heap.objs.size f cdv)) →
      SSs (cxOf CX0 P w K mg base N qual (defScope st) f cdv A outer s H E).nox (fun _ _ => False) (defBody st) body) : FnOk P w K mg base CX0 (k + 1) f fd ps (spF K ps.length (runF N body)) :=
  fn_ok F S (runF N body) body hb fun ds d e => by
    unfold runF at e
    split at e
    · rename_i d' r' h; cases e; exact .inl ⟨r', h⟩
    · rename_i r' h; cases e; exact .inr ⟨rfl, r', h⟩
    · cases e
theorem fn_runR {x qual : Str} {st : Stmt} {f : Addr} {fd : FuncData} {N ps : List Str} {k : Nat} {body : SM} (j : Nat) (F : Fun K x qual st f fd) (S : FnScope N ps (defScope st))
    (hb : ∀ (cdv : Value) (A : Around) (outer : List Env) (s : Shared) (H : Hp) (E : XK), Room k (A.deeper (envOfC qual (defScope st) s.heap.objs.size f cdv)) →
      SSs (cxOf CX0 P w K mg base N qual (defScope st) f cdv A outer s H E).nox (fun _ _ => False) (defBody st) body) : FnOk P w K mg base CX0 (k + 1) f fd ps (spR K ps.length j (runR N j body)) :=
  fn_okR j F S (runR N j body) body hb fun ds xs d xs' e => by
    unfold runR at e
    split at e
    · rename_i d' r' h
      simp only [Option.map_eq_some_iff] at e
      obtain ⟨ys, e1, e2⟩ := e
      cases e2; exact ⟨r', .inl h, e1⟩
    · rename_i r' h
      simp only [Option.map_eq_some_iff] at e
      obtain ⟨ys, e1, e2⟩ := e
      cases e2; exact ⟨r', .inr ⟨rfl, h⟩, e1⟩
    · cases e
/-- a promise of nothing -/
theorem spF_none {f : Addr} {fd : FuncData} {ps : List Str} {k : Nat} : FnOk P w K mg base CX0 k f fd ps (spF K ps.length fun _ => none) :=
  ⟨fun vs H Q E h => h.1, fun A outer s H args us vs Q E _ _ _ _ h => by obtain ⟨_, _, _, _, _, _, e, _⟩ := h; cases e⟩
end
/-- room in units -/
structure Un1 (A : Around) : Prop where
  c0 : A.units < cLine
  c1 : A.units + 1 < cLine
  c64 : A.units + 64 < cLine
  c65 : A.units + 65 < cLine
  c100 : A.units + 100 < cLine
theorem un1 {k : Nat} {A : Around} (hr : Room k A) : Un1 A := by
  have := hr.un
  exact ⟨by omega, by omega, by omega, by omega, by omega⟩
end DL
namespace DL
open PySem L2 PyProof.Rows PySem.Spec PySem.W
/-- the law's end -/
theorem law_end {K : PySem.W.Frag} {H : Hp} {a : Addr} {ns : List Int} {g : List D → Option D} {E : XK} (h : g [.list (ns.map PyData.int)] = some (.bool true)) (hS : SqL K H a (ns.map V.int)) : spF K 1 g [.ref a] H (fun v _ => v = .bl true) E :=
  ⟨rfl, H, [.list (ns.map PyData.int)], .bool true, .refl _, .cons (.lst hS (dpa_ints_mk ns)) .nil, h, fun _ _ _ _ dd => dd.inv⟩
end DL
namespace DL
open PySem L2 PyProof.Rows PySem.Spec
/-! ### t.index(x), t a tuple that holds no flat things alone -/
end DL
namespace DL
open PySem L2 PyProof.Rows PySem.Spec
/-! ### a set made of a tuple of ints, of which only the length is asked -/
def dedup : List Int → List Int
  | [] => []
  | a :: as => if a ∈ as then dedup as else a :: dedup as
theorem mem_dedup {a : Int} : ∀ {as : List Int}, a ∈ dedup as ↔ a ∈ as
  | [] => by simp [dedup]
  | b :: as => by
    unfold dedup
    split
    · rename_i h
      rw [mem_dedup, List.mem_cons]
      exact ⟨.inr, fun q => q.elim (fun e => e ▸ h) id⟩
    · rw [List.mem_cons, List.mem_cons, mem_dedup]
theorem dedup_nodup : ∀ as : List Int, (dedup as).Nodup
  | [] => by simp [dedup]
  | b :: as => by
    unfold dedup
    split
    · exact dedup_nodup as
    · rename_i h
      rw [List.nodup_cons]
      exact ⟨fun m => h (mem_dedup.mp m), dedup_nodup as⟩
theorem dedup_len {as bs : List Int} (h1 : bs.Nodup) (h2 : ∀ k, k ∈ bs ↔ k ∈ as) : bs.length = (dedup as).length :=
  ((List.perm_ext_iff_of_nodup h1 (dedup_nodup as)).mpr fun k => by rw [h2, mem_dedup]).length_eq
/-- the set of these ints stands at a -/
def setHO (w : World) (a : Addr) (ns : List Int) : HO := .ext fun h => ∃ c, SetR w h a (fun j => decide (j ∈ ns)) c ∧ c ≤ ns.length
section
variable {X : Cx} {a : Expr} {f : EM}
theorem cr_setT (calm : X.calm = true) : CallR X (.type "set") (fun xs H Q => ∃ p ns, xs = [.ref p] ∧ SqT X.K H p (ns.map V.int) ∧ ns.length ≤ 1000 ∧ ∀ q, H q = none → Q (.ref q) (upd H q (setHO X.w q ns))) := by
  rintro pins s σ H xs us Q I rel ⟨p, ns, rfl, tup, short, give⟩
  obtain ⟨u, rfl, ru⟩ := vals1 rel
  cases ru
  obtain ⟨its, vals, isT, _⟩ := I.tuple tup
  have room : ns.length + 1 < scanBound := by unfold scanBound; omega
  refine call_set_tupI ns (I.ok.hd calm) isT (ints_of_vals vals) room fun h1 tk c made le keeps => ?_
  have old : H s.heap.objs.size = none := I.hok.fresh (Nat.le_refl _)
  refine ⟨.ref s.heap.objs.size, _, I.laid keeps (Nat.le_refl _) (o := setHO X.w s.heap.objs.size ns) ⟨⟨c, made, le⟩, ?_, ?_⟩, rfl, give _ old⟩
  · obtain ⟨ob, _, _, _, at_, _⟩ := made
    exact ⟨ob, at_⟩
  · rintro h2 h3 ⟨c', m, l⟩ same
    exact ⟨c', m.at same, l⟩
theorem cr_lenS : CallR X (.builtin "len") (fun xs H Q => ∃ p ns, xs = [.ref p] ∧ H p = some (setHO X.w p ns) ∧ ns.length ≤ 1000 ∧ Q (.int (dedup ns).length) H) := by
  rintro pins s σ H xs us Q I rel ⟨p, ns, rfl, stands, short, q⟩
  obtain ⟨u, rfl, ru⟩ := vals1 rel
  cases ru
  obtain ⟨⟨c, ⟨ob, es, ep, tab, at_, isSet, data, _, distinct, members, _, fits, size, _⟩, le⟩, _⟩ := (show ObjOk X.prog X.w H s.heap p (setHO X.w p ns) from I.hok p _ stands)
  have many : es.size = (dedup ns).length := by
    rw [← dedup_len distinct fun k => by rw [← members k, decide_eq_true_eq]]
    simp
  exact call_len_set at_ isSet data fits (by omega) ⟨.int (dedup ns).length, H, I.tok _, ⟨_, by rw [many]⟩, q⟩
def lenSetD : D → Option D
  | .tuple ds => (intsOf ds).bind fun ns => if ns.length ≤ 1000 then some (.int (dedup ns).length) else none
  | _ => none
theorem se_lenSet {p p2 q pos : Pos} (calm : X.calm = true) (hg : Gl X "len") (hm : X.mg "len" = none) (hg2 : Gl X "set") (hm2 : X.mg "set" = none) (ha : SE X a f)
    (star : starEach [a] X.env = [(false, eval a X.env)] := by rfl) (star2 : starEach [.Call (.Name "set" p2) [a] [] q] X.env = [(false, eval (.Call (.Name "set" p2) [a] [] q) X.env)] := by rfl) (b1 : bootBuiltins "len" = some (.builtin "len") := by decide +kernel) (b2 : bootBuiltins "set" = some (.type "set") := by decide +kernel) :
    SE X (.Call (.Name "len" p) [.Call (.Name "set" p2) [a] [] q] [] pos) (unM lenSetD f) :=
  ⟨pe_imp (pe_callB cr_lenS hg hm b1 (pa_cons (pe_callTy (cr_setT calm) hg2 hm2 b2 (pa_cons ha.pe pa_nil star) (by decide) (by decide) star rfl) pa_nil star2) (by decide) (by decide) star2 rfl) fun s H Q ⟨z, r, F, d, r', R, e, k⟩ => by
    obtain ⟨x, e1, e2⟩ := unM_some e
    cases x with
    | tuple ds =>
      obtain ⟨ns, e3, e4⟩ := Option.bind_eq_some_iff.mp e2
      split at e4
      · rename_i short
        cases e4
        cases intsOf_some e3
        refine ⟨z, r, F, _, r', R, e1, fun v H1 F1 R1 sb dv => ?_⟩
        obtain ⟨t, vs, rfl, tup, each⟩ := dv.inv
        cases dpa_ints each
        refine ⟨t, ns, rfl, R1.fh.sqt (sqt_of tup), short, fun b new => ⟨b, ns, rfl, upd_same, short, ?_⟩⟩
        exact k _ _ _ (R1.grow (.loose R1.fh new)) sb (.int _)
      · cases e4
    | _ => cases e2⟩
end
end DL
namespace DL
open PySem L2 PyProof.Rows PySem.Spec
/-! ### enumerate(t), t a tuple or a list -/
/-- numbered things of the tuple at a, each in a new pair -/
def enumIt (K : PySem.W.Frag) (a : Addr) : It where
  go i H := ∃ xs, SqT K H a xs ∧ i < xs.length
  stop i H := ∃ xs, SqT K H a xs ∧ i = xs.length
  yld i H v H' := ∃ T x, v = .ref T ∧ H T = none ∧ H' = upd H T (.tup [.int (i : Nat), x]) ∧ ∀ xs, SqT K H a xs → xs[i]? = some x
theorem walk_enumIt {K : PySem.W.Frag} {a : Addr} {xs : List V} : Walk (enumIt K a) xs.length (fun H => SqT K H a xs) (YPair (fun i => some (.int (i : Nat))) (fun i => xs[i]?)) where
  goes m H lt tup := ⟨xs, tup, lt⟩
  stops H tup := ⟨xs, tup, rfl⟩
  yields := by
    rintro m H v H' - tup ⟨T, x, ev, new, eH, at_⟩
    exact ⟨T, _, x, ev, new, eH, rfl, at_ xs tup⟩
/-- the library's walk of an enumerate object over what a tuple's iterator draws -/
theorem walks_enum {P : Program} {w : World} {A : Around} (calm : A.handled = none) {a e it : Addr} (h1 : e ≠ it) (h2 : e ≠ a) (h3 : a ≠ it) (items : Array Value) :
    WalksT P w A e [e, it, a] [e, it] items.size (fun i vals => ∃ t x, items[i]? = some x ∧ vals = #[.int i t, x]) (fun i h => (∃ old, IsEnum h e it i old) ∧ h.IsTupleIter it a i ∧ h.IsTuple a items)
      (fun i T h => (∃ x, IsEnumOut h e it ((i : Int) + 1) x T) ∧ (h.IsTupleIter it a (i + 1) ∧ h.IsTuple a items) ∧ T ≠ e ∧ T ≠ it) :=
  WalksT.enumerateD (Draws.tuple (show A.in1.handled = none from calm) it a h3 items) e h1 (by simp [h1, h2]) (by simp)
theorem turn_enumT {P : Program} {w : World} {K : PySem.W.Frag} {elts : List Expr} {kk : Nat} {tpos : Pos} {a e it : Addr} (h1 : e ≠ it) (h2 : e ≠ a) (h3 : a ≠ it) :
    Turn P w K (.Tuple elts kk tpos) (enumIt K a) [e, it] e (fun i h => (∃ old, IsEnum h e it (i : Nat) old) ∧ h.IsTupleIter it a i) where
  mem := List.mem_cons_self
  obj := by
    rintro i h ⟨⟨old, en⟩, ⟨ob, at_, _, data⟩⟩ b mb
    rcases List.mem_cons.mp mb with rfl | mb
    · exact ⟨_, en, nofun⟩
    · cases List.mem_singleton.mp mb
      exact ⟨ob, at_, fun v q => by rw [data] at q; cases q⟩
  keep := by
    rintro i h h' ⟨⟨old, en⟩, iter⟩ same
    exact ⟨⟨old, same e (by simp) _ en⟩, iter.at (same it (by simp))⟩
  item := by
    rintro X rfl rfl rfl calm i pins s σ H E I own ⟨en, iter⟩ ⟨xs, tup, lt⟩
    obtain ⟨its, vals, isT, _⟩ := I.tuple tup
    have W := walks_enum (P := X.prog) (w := X.w) (I.ok.hd calm) h1 h2 h3 its.toArray
    have lt' : i < its.toArray.size := by simpa [← vals.length] using lt
    refine W.item i s _ _ lt' ⟨en, iter, isT⟩ ?_
    rintro T row g1 tk ⟨t, x, hx, rfl⟩ newer isRow mid same1
    refine ⟨.ref T, rfl, W.go elts kk tpos i T _ _ _ mid fun g2 st same2 => ?_⟩
    have other := W.apart i T _ mid
    obtain ⟨u, hu, ru⟩ := vals.get (List.getElem?_eq_getElem lt)
    have exu : x = u := by
      have : its[i]? = some x := by simpa using hx
      rw [hu] at this; exact (Option.some.inj this).symm
    subst exu
    have pair : g2.IsTuple T #[.int i t, x] := isRow.at fun o q => same2 T o other q
    have made : ObjOk X.prog X.w (upd H T (.tup [.int (i : Nat), xs[i]])) g2 T (.tup [.int (i : Nat), xs[i]]) :=
      ⟨by show 2 ≤ sizeLine; decide, [.int i t, x], .cons ⟨_, rfl⟩ (.cons ru .nil), pair⟩
    have I2 := I.turnedNew (t' := tk) (ch := [e, it]) (fun b o nb q => same2 b o nb (same1 b o nb q)) own newer made
    refine ⟨.ref T, _, I2, rfl, ⟨T, xs[i], rfl, I.hok.fresh newer, rfl, fun ys ty => ?_⟩, ⟨by simpa using st.1, st.2.1⟩, fun b mb => ?_⟩
    · rw [I.tuple_inj ty tup]; exact List.getElem?_eq_getElem lt
    · have ne : b ≠ T := fun q => other (q ▸ mb)
      rw [upd_ne ne]
      exact (own b mb).1
  done := by
    rintro X rfl rfl rfl calm i pins s σ H E I own ⟨en, iter⟩ ⟨xs, tup, rfl⟩
    obtain ⟨its, vals, isT, _⟩ := I.tuple tup
    have W := walks_enum (P := X.prog) (w := X.w) (I.ok.hd calm) h1 h2 h3 its.toArray
    have all : its.toArray.size = xs.length := by simp [vals.length]
    refine W.done s _ _ ?_ fun g tk same => ⟨rfl, I.turnedL (t' := tk) (ch := [e, it]) same own⟩
    rw [all]
    exact ⟨en, iter, isT⟩
  self A i s Q E st q := let ⟨⟨_, en⟩, _⟩ := st; wpAny_pyIter_enum en q
/-- enumerate.__new__ of anything that an iterator begins at -/
theorem meets_enumNew {v : Value} {o : Obj} {G : Heap → Prop} (B : Begins v o G) : Meets (Builtin.«enumerate.__new__» ⟨[.type "enumerate", v], []⟩) (fun _ R s => G s.heap ∧
    R (.ok (.ret (.ref (s.heap.objs.size + 1)))) { s with heap := (s.heap.push o).push { cls := .type "enumerate", data := .fields #[.none, .bool false, .ref s.heap.objs.size, rawInt 0, .none, .none] } }) := by
  refine .of_wp fun prog w A R s ⟨begins, done⟩ => ?_
  have own := sub_enumerate
  have iter := fun {A' : Around} {E' : Value → Shared → Prop} {Q' : Value → Shared → Prop} => B.iter prog w A' E' s Q' begins
  wp_walk using iter
  apply wpAny_stack_any
  intro calls
  apply wpAny_pure
  have size : (s.heap.push o).objs.size = s.heap.objs.size + 1 := Heap.size_push ..
  rw [← size] at done
  dsimp only
  by_cases short : (match List.drop 1 calls with | (Code.builtin "type.__call__" { pos := c :: tail, kw := kw }, snd) :: tail_1 => c == Value.type "enumerate" | x => false) = true
  · erw [if_pos short]
    wp_walk using iter
    exact ⟨_, rfl, done⟩
  · erw [if_neg short]
    wp_walk using iter
    exact ⟨_, rfl, done⟩
/-- what enumerate(t) of a tuple makes -/
theorem call_enumT {prog : Program} {w : World} {A : Around} {E : Value → Shared → Prop} {s : Shared} {a : Addr} {items : Array Value} {Q : Value → Shared → Prop} (isT : s.heap.IsTuple a items)
    (q : ∀ g, IsEnum g (s.heap.objs.size + 1) s.heap.objs.size (0 : Nat) .none → g.IsTupleIter s.heap.objs.size a 0 → (∀ b o, s.heap.get? b = some o → g.get? b = some o) → Q (.ref (s.heap.objs.size + 1)) { s with heap := g }) : wpAny (model prog w) A (call (.type "enumerate") [.ref a]) Q E s := by
  have B := begins_tuple a items
  refine callType_new F.called_enumerate (by decide) (F.typeCall_enumerate_1 _) (F.newCall_enumerate_1 _) (fun obj => F.args_object_init_2 obj _) F.entry_enumerate_new (meets_enumNew B) ⟨isT, ?_⟩
  have size : (s.heap.push { cls := .type "tuple_iterator", data := .fields #[.ref a, .int 0 0] }).objs.size = s.heap.objs.size + 1 := Heap.size_push ..
  have en := Heap.get?_push_size (s.heap.push { cls := .type "tuple_iterator", data := .fields #[.ref a, .int 0 0] }) (o := { cls := .type "enumerate", data := .fields #[.none, .bool false, .ref s.heap.objs.size, rawInt 0, .none, .none] }) rfl
  rw [size] at en
  have two := fun b o (old : s.heap.get? b = some o) => Heap.get?_push_of_some { cls := .type "enumerate", data := .fields #[.none, .bool false, .ref s.heap.objs.size, rawInt 0, .none, .none] } (Heap.get?_push_of_some { cls := .type "tuple_iterator", data := .fields #[.ref a, .int 0 0] } old)
  exact ⟨⟨_, en, rfl⟩, q _ en ⟨_, Heap.get?_push_of_some _ (Heap.get?_push_size _ B.free), rfl, rfl⟩ two⟩
def tEnum (K : PySem.W.Frag) (ta : TA) : TI := fun σ H R => ta σ H fun vs H1 => ∃ a xs, vs = [.ref a] ∧ SqT K H1 a xs ∧ R (enumIt K a) H1
theorem pi_enumT {X : Cx} {e : Expr} {ta : TA} {p pos tpos : Pos} {elts : List Expr} {kk : Nat} (hg : Gl X "enumerate") (hm : X.mg "enumerate" = none) (ha : PA X [e] ta) (star : starEach [e] X.env = [(false, eval e X.env)]) :
    PI X (.Tuple elts kk tpos) (.Call (.Name "enumerate" p) [e] [] pos) (tEnum X.K ta) := by
  constructor
  intro pins s σ H R I want
  refine Call_ (ld_blt I hg hm boot_enumerate ?_)
  refine PyProof.Rows.callWith_type1 (thn (ha.run pos pins s σ H _ I want) ?_) star rfl
  rintro us s1 ⟨vs, H1, I1, rel, a, xs, rfl, tup, r⟩
  obtain ⟨u, rfl, ru⟩ := vals1 rel
  cases ru
  obtain ⟨its, _, isT, _⟩ := I1.tuple tup
  have older : a < s1.heap.objs.size := let ⟨_, at_, _⟩ := isT; Heap.lt_size at_
  refine call_enumT (items := its.toArray) isT fun g en iter same => wpAny_pyIter_enum en ?_
  refine ⟨_, _, _, _, H1, rfl, I1.kept (t' := s1.toks) same, turn_enumT (Nat.succ_ne_self _) (Nat.ne_of_gt (Nat.lt_succ_of_lt older)) (Nat.ne_of_lt older), ⟨⟨_, en⟩, iter⟩, fun b mb => ?_, r⟩
  have new : s1.heap.objs.size ≤ b := by
    rcases List.mem_cons.mp mb with rfl | mb
    · exact Nat.le_succ _
    · exact Nat.le_of_eq (List.mem_singleton.mp mb).symm
  exact I1.fpOk new (I1.hok.fresh new)
/-- numbered things -/
def enumL (ds : List D) : List D := zipL ((List.range ds.length).map fun (i : Nat) => PyData.int (i : Int)) ds
theorem walkD_enum {K : PySem.W.Frag} {F : Hp} {J : It} {vs : List V} {ds : List D} (each : DpAll K F vs ds) (w : Walk J vs.length (fun H => SubH F H) (YPair (fun i => some (.int (i : Nat))) (fun i => vs[i]?))) : WalkD K true F J (enumL ds) := by
  have many : (enumL ds).length = vs.length := by simp [enumL, zipL, dpa_len each]
  refine ⟨⟨_, many ▸ w, ?_⟩⟩
  rintro i H x H' ⟨T, n, y, rfl, new, rfl, hn, hy⟩ F' sb sh
  cases hn
  obtain ⟨d, at_, dy⟩ := dpa_at each hy
  obtain ⟨F2, G, q⟩ := pair_step sh new (.int (i : Nat)) (dp_mono sb dy)
  have lt := (List.getElem?_eq_some_iff.mp at_).1
  exact ⟨F2, _, zipL_get (by simp [lt]) at_, G, q⟩
def enumM (f : EM) : AM := fun r => (f r).bind fun p => (itemsOf p.1).map fun ds => (enumL ds, p.2)
section
variable {X : Cx} {a : Expr} {f : EM} {pos : Pos}
theorem si_enum {p tpos : Pos} {elts : List Expr} {kk : Nat} (hg : Gl X "enumerate") (hm : X.mg "enumerate" = none) (ha : SE X a f) (star : starEach [a] X.env = [(false, eval a X.env)] := by rfl) :
    SI X true (.Tuple elts kk tpos) (.Call (.Name "enumerate" p) [a] [] pos) (enumM f) := ⟨⟨fun pins s σ H R I ⟨z, r, F, ds, r', Rr, e, k⟩ => by
  obtain ⟨⟨x, r1⟩, e1, e2⟩ := Option.bind_eq_some_iff.mp e
  obtain ⟨row, e3, e4⟩ := Option.map_eq_some_iff.mp e2
  cases e4
  have args := pa_cons ha.pe pa_nil star
  cases x with
  | tuple l =>
    cases e3
    refine (pi_enumT hg hm args star).run pins s σ H R I ⟨z, r, F, _, _, Rr, e1, fun v H1 F1 R1 sb dv => ?_⟩
    obtain ⟨t, vs, rfl, tup, each⟩ := dv.inv
    exact ⟨t, vs, rfl, R1.fh.sqt (sqt_of tup), k _ _ _ R1 sb (walkD_enum each (walk_enumIt.mono (fun _ sub => sub.sqt (sqt_of tup)) fun _ _ _ _ _ _ y => y))⟩
  | list l =>
    cases e3
    refine (pi_enum hg hm args star).run pins s σ H R I ⟨z, r, F, _, _, Rr, e1, fun v H1 F1 R1 sb dv => ?_⟩
    obtain ⟨t, vs, rfl, lst, each⟩ := dv.inv
    exact ⟨t, vs, rfl, R1.fh.sql lst, k _ _ _ R1 sb (walkD_enum each (walk_enum.mono (fun _ sub => sub.sql lst) fun _ _ _ _ _ _ y => y))⟩
  | _ => cases e3⟩⟩
end
/-! ### raise, where no one takes it -/
end DL
namespace DL
open PySem L2 PyProof.Rows PySem.Spec
/-! ### a new list said so often: [x] * n -/
theorem dpa_rep {K : PySem.W.Frag} {F : Hp} {vs : List V} {ds : List D} (h : DpAll K F vs ds) : ∀ n : Nat, DpAll K F (List.replicate n vs).flatten (List.replicate n ds).flatten
  | 0 => .nil
  | n + 1 => by
    rw [List.replicate_succ, List.replicate_succ, List.flatten_cons, List.flatten_cons]
    exact dpa_app h (dpa_rep h n)
end DL
namespace DL
open PySem L2 PyProof.Rows PySem.Spec
/-! ### own dicts: a display of one pair, in, sorted keys -/
section
variable {X : Cx} {W : String → Hp → Prop} {a b e : Expr} {f g : EM} {pos : Pos}
theorem sorted_is {ys ks : List Int} (p : ys.Perm ks) (up : ys.Pairwise (· ≤ ·)) : ys = ks.mergeSort fun a b => decide (a ≤ b) := by
  have up2 := List.pairwise_mergeSort (le := fun a b : Int => decide (a ≤ b)) (by simp; omega) (by simp; omega) ks
  refine (p.trans (List.mergeSort_perm ks _).symm).eq_of_pairwise ?_ up (up2.imp fun h => of_decide_eq_true h)
  intro a b _ _ h1 h2
  exact Int.le_antisymm h1 h2
end
end DL
namespace DL
open PySem L2 PyProof.Rows PySem.Spec
/-! ### what is raised: classes of the program's own, made with no argument -/
/-! ### a def that may raise -/
/-! ### x = f(..) in a try with one clause -/
end DL
namespace DL
open PySem L2 PyProof.Rows PySem.Spec
/-! ### tuple(range(n)), list(range(n)) -/
end DL
/-! slots that are forgotten; a, b = x, y -/
namespace DL
open PySem L2
section
variable {X : Cx} {W : String → Hp → Prop} {a b c e : Expr} {st : Stmt} {sts : List Stmt} {f g : SM} {pos : Pos}
theorem Rep.forget {K : PySem.W.Frag} {z : Fx} {r : Rho} {s : L2.St} {H F : Hp} (R : Rep K z r s H F) (is : List Nat) : Rep K z (wipeR r is) s H F :=
  R.weaken (by rw [wipeR_length, R.len]) fun j sv e => ⟨(wipeR_get e).1, fun _ h => h⟩
def wipO (is : List Nat) : Out → Out
  | .nx r => .nx (wipeR r is)
  | .ct r => .ct (wipeR r is)
  | .bk r => .bk (wipeR r is)
  | o => o
/-- what was in some slots is forgotten at the end -/
def wipM (is : List Nat) (f : SM) : SM := fun r => (f r).map (wipO is)
theorem wip_core {is : List Nat} {D : Ends} {s : L2.St} {H : Hp} (q : liftS X.K W (wipM is f) D s H) : liftS X.K W f D s H := by
  obtain ⟨z, r, F, o, R, e, k⟩ := q
  unfold wipM at e
  simp only [Option.map_eq_some_iff] at e
  obtain ⟨o1, e1, rfl⟩ := e
  refine ⟨z, r, F, o1, R, e1, ?_⟩
  cases o1 with
  | nx r1 => exact fun s' H' F' R' sb => k s' H' F' (R'.forget is) sb
  | ct r1 => exact fun s' H' F' R' sb => k s' H' F' (R'.forget is) sb
  | bk r1 => exact fun s' H' F' R' sb => k s' H' F' (R'.forget is) sb
  | rt d r1 => exact k
  | ex c r1 => exact k
theorem sss_wip (is : List Nat) (h : SSs X W sts f) : SSs X W sts (wipM is f) := ⟨pss_imp h.ps fun D s H q => wip_core q⟩
/-- .. ahead -/
def preM (is : List Nat) (f : SM) : SM := fun r => f (wipeR r is)
theorem ss_pre (is : List Nat) (h : SS X W st f) : SS X W st (preM is f) := ⟨ps_imp h.ps fun D s H ⟨z, r, F, o, R, e, k⟩ => ⟨z, wipeR r is, F, o, R.forget is, e, k⟩⟩
/-! two stores at once -/
def two (i j : Nat) (r : Rho) : List D → Option Out
  | [d, e] => some (.nx ((r.set i (some (.d d))).set j (some (.d e))))
  | _ => none
/-- the second one a fresh list -/
def parLM (i j : Nat) (f : EM) (g : AM) : SM := fun r => (f r).bind fun p => (g p.2).map fun q => .nx ((q.2.set i (some (.d p.1))).set j (some (.l false q.1)))
theorem ownAt_put {r : Rho} {s : L2.St} {i : Nat} {d : D} {v : V} {p : Addr} (h : OwnAt (r.set i (some (.d d))) (s.set i (some v)) p) : OwnAt r s p := by
  obtain ⟨k, sv, h1, h2, h3⟩ := h
  rcases get_set_cases h1 with ⟨rfl, e⟩ | ⟨ne, h1⟩
  · cases e; cases h2
  · rw [List.getElem?_set_ne (Ne.symm ne)] at h3
    exact ⟨k, sv, h1, h2, h3⟩
theorem ss_parL (i j : Nat) {x y : Str} {px py pt : Pos} {kt k2 pt2} {f : EM} {g : AM} (hc : X.calm = true) (hN : X.N.Nodup) (ha : SE X a f) (hb : SL X b g) (hi : X.N[i]? = some x := by rfl) (hj : X.N[j]? = some y := by rfl) (hij : i ≠ j := by decide)
    (hx : X.env.scope.names.lookup x = some .local := by rfl) (hy : X.env.scope.names.lookup y = some .local := by rfl)
    (hw : swappedStores [.Tuple [.Name x px, .Name y py] kt pt] (.Tuple [a, b] k2 pt2) X.env = pure (some [x, y]) := by rfl)
    (hs : swapsWithSole [.Tuple [.Name x px, .Name y py] kt pt] (.Tuple [a, b] k2 pt2) pos.line X.env = pure false := by rfl)
    (he : starEach [a, b] X.env = (false, eval a X.env) :: starEach [b] X.env := by rfl) (he2 : starEach [b] X.env = (false, eval b X.env) :: starEach [] X.env := by rfl) :
    SS X W (.Assign [.Tuple [.Name x px, .Name y py] kt pt] (.Tuple [a, b] k2 pt2) pos) (parLM i j f g) :=
  ⟨ps_imp (ps_par hc hN hi hj hij hx hy (pa_cons ha.pe (pa_cons hb.pe pa_nil he2) he) hw hs) fun D s H ⟨z, r, F, o, R, e, k⟩ => by
    unfold parLM at e
    simp only [Option.bind_eq_some_iff, Option.map_eq_some_iff] at e
    obtain ⟨⟨d, r1⟩, e1, ⟨ds, r2⟩, e2, e3⟩ := e
    cases e3
    refine ⟨z, r, F, d, r1, R, e1, fun v H1 F1 R1 sb1 dv => ⟨z, r1, F1, ds, r2, R1, e2, fun p vs H2 F2 R2 sb2 h1 h2 h3 h4 h5 => ?_⟩⟩
    exact ⟨_, _, rfl, k _ H2 F2 ((R2.put (dp_mono sb2 dv)).putOwn h1 h2 h3 (fun q => h4 (ownAt_put q)) h5) (sb1.trans sb2)⟩⟩
end
end DL
/-! sorted(dict(ps)), len(dict(ps)): ps a list of pairs whose first is an int -/
namespace DL
open PySem L2
def headI : D → Option (Int × D)
  | .tuple [.int k, v] => some (k, v)
  | _ => none
def headsI : List D → Option (List (Int × D))
  | [] => some []
  | d :: ds => (headI d).bind fun p => (headsI ds).map (p :: ·)
theorem headI_some {d : D} {p : Int × D} (h : headI d = some p) : d = .tuple [.int p.1, p.2] := by
  unfold headI at h
  split at h
  · cases h; rfl
  · cases h
theorem mergeK_keys : ∀ (more kvs : List (Key × V)), (kvs.map (·.1)).Nodup → ((mergeK kvs more).map (·.1)).Nodup ∧ ∀ k, k ∈ (mergeK kvs more).map (·.1) ↔ k ∈ kvs.map (·.1) ∨ k ∈ more.map (·.1)
  | [], kvs, h => ⟨h, fun k => by simp [mergeK]⟩
  | (k0, v0) :: more, kvs, h => by
    have step : ((putK kvs k0 v0).map (·.1)).Nodup ∧ ∀ k, k ∈ (putK kvs k0 v0).map (·.1) ↔ k ∈ kvs.map (·.1) ∨ k = k0 := by
      unfold putK
      split
      · rename_i there
        have e : (kvs.map fun kv => if kv.1 = k0 then (kv.1, v0) else kv).map (·.1) = kvs.map (·.1) := by
          rw [List.map_map]
          refine List.map_congr_left fun kv _ => ?_
          simp only [Function.comp]
          split <;> rfl
        rw [e]
        refine ⟨h, fun k => ⟨.inl, fun q => ?_⟩⟩
        rcases q with q | rfl
        · exact q
        · obtain ⟨kv, m, ek⟩ := List.any_eq_true.mp there
          exact List.mem_map.mpr ⟨kv, m, of_decide_eq_true ek⟩
      · rename_i no
        rw [List.map_append]
        refine ⟨List.nodup_append.mpr ⟨h, by simp, fun a ma b mb => ?_⟩, fun k => by simp⟩
        simp at mb; subst mb
        intro e; subst e
        obtain ⟨kv, m, ek⟩ := List.mem_map.mp ma
        exact no (List.any_eq_true.mpr ⟨kv, m, decide_eq_true ek⟩)
    obtain ⟨h1, h2⟩ := mergeK_keys more (putK kvs k0 v0) step.1
    refine ⟨h1, fun k => ?_⟩
    show k ∈ (mergeK (putK kvs k0 v0) more).map (·.1) ↔ _
    rw [h2 k, step.2 k]
    simp [or_assoc]
/-- the keys of the dict, as ints -/
theorem merged_ints {ns : List Int} {kvs : List (Key × V)} (h : kvs.map (·.1) = ns.map Sum.inl) : ∃ ks : List Int, (mergeK [] kvs).map (·.1) = ks.map Sum.inl ∧ ks.Perm (dedup ns) := by
  obtain ⟨h1, h2⟩ := mergeK_keys kvs [] (by simp)
  have key : ∀ l : List Key, (∀ k ∈ l, ∃ i : Int, k = Sum.inl i) → ∃ ks : List Int, l = ks.map Sum.inl := by
    intro l
    induction l with
    | nil => exact fun _ => ⟨[], rfl⟩
    | cons a l ih =>
      intro hl
      obtain ⟨i, rfl⟩ := hl a (by simp)
      obtain ⟨ks, rfl⟩ := ih fun k m => hl k (List.mem_cons_of_mem _ m)
      exact ⟨i :: ks, rfl⟩
  obtain ⟨ks, hk⟩ := key ((mergeK [] kvs).map (·.1)) fun k m => by
    have := (h2 k).mp m
    rw [h] at this
    simp at this
    obtain ⟨a, _, e⟩ := this
    exact ⟨a, e.symm⟩
  refine ⟨ks, hk, (List.perm_ext_iff_of_nodup ?_ (dedup_nodup ns)).mpr fun a => ?_⟩
  · rw [hk] at h1
    have := List.pairwise_map.mp h1
    exact this.imp fun q e => q (congrArg _ e)
  · rw [mem_dedup]
    have := h2 (Sum.inl a)
    rw [hk, h] at this
    simpa using this
section
variable {X : Cx} {W : String → Hp → Prop} {a b e : Expr} {f g : EM} {pos : Pos}
theorem heads_rel {K : PySem.W.Frag} {F H : Hp} (sb : SubH F H) : ∀ {ds : List D} {ps : List (Int × D)} {vs : List V}, DpAll K F vs ds → headsI ds = some ps →
    ∃ (as : List Addr) (kvs : List (Key × V)), vs = as.map V.ref ∧ Paired (fun p kv => SqT K H p [kV kv.1, kv.2]) as kvs ∧ kvs.map (·.1) = (ps.map (·.1)).map Sum.inl
  | [], _, [], _, e => by cases e; exact ⟨[], [], rfl, .nil, rfl⟩
  | d :: ds, ps, v :: vs, h, e => by
    cases h with
    | cons x t =>
      obtain ⟨p, e1, e2⟩ := Option.bind_eq_some_iff.mp e
      obtain ⟨qs, e3, rfl⟩ := Option.map_eq_some_iff.mp e2
      obtain ⟨as, kvs, rfl, h1, h2⟩ := heads_rel sb t e3
      cases headI_some e1
      obtain ⟨q, ws, rfl, at_, each⟩ := x.inv
      cases each with
      | cons y1 t1 =>
        cases t1 with
        | cons y2 t2 =>
          cases t2
          cases y1.inv
          exact ⟨q :: as, (Sum.inl p.1, _) :: kvs, rfl, .cons (sb.sqt (sqt_of at_)) h1, by rw [List.map_cons, List.map_cons, List.map_cons, h2]⟩
  | [], _, _ :: _, h, _ => nomatch h
  | _ :: _, _, [], h, _ => nomatch h
/-- dict(ps) as a loose object -/
theorem cr_dictI (calm : X.calm = true) : CallR X (.type "dict") (fun xs H Q => ∃ F v ds ps, xs = [v] ∧ SubH F H ∧ Dp X.K F v (.list ds) ∧ headsI ds = some ps ∧
    ∀ (p : Addr) (kvs : List (Key × V)) (ks : List Int), H p = none → kvs.map (·.1) = ks.map Sum.inl → ks.Perm (dedup (ps.map (·.1))) → Q (.ref p) (upd H p (.dK kvs))) := by
  intro pins s σ H xs us Q I r ⟨F, v, ds, ps, e, sb, dv, hh, k⟩
  subst e
  obtain ⟨p, vs, rfl, at_, each⟩ := dv.inv
  obtain ⟨as, kvs, rfl, h1, h2⟩ := heads_rel sb each hh
  obtain ⟨ks, g1, g2⟩ := merged_ints h2
  exact call_dictP calm pins s σ H _ us Q I r ⟨p, as, kvs, rfl, sb.sql at_, h1, fun q hq => k q _ ks hq g1 g2⟩
def sortDictD : D → Option D
  | .list ds => (headsI ds).bind fun ps => if (dedup (ps.map (·.1))).length < 64 then some (.list (((dedup (ps.map (·.1))).mergeSort fun a b => decide (a ≤ b)).map .int)) else none
  | _ => none
def lenDictD : D → Option D
  | .list ds => (headsI ds).map fun ps => .int (dedup (ps.map (·.1))).length
  | _ => none
theorem se_sortDict {p p2 q : Pos} (calm : X.calm = true) (hg : Gl X "sorted") (hm : X.mg "sorted" = none) (hg2 : Gl X "dict") (hm2 : X.mg "dict" = none) (ha : SE X a f)
    (star : starEach [a] X.env = [(false, eval a X.env)] := by rfl) (star2 : starEach [.Call (.Name "dict" p2) [a] [] q] X.env = [(false, eval (.Call (.Name "dict" p2) [a] [] q) X.env)] := by rfl) (b1 : bootBuiltins "sorted" = some (.builtin "sorted") := by decide +kernel) (b2 : bootBuiltins "dict" = some (.type "dict") := by decide +kernel) :
    SE X (.Call (.Name "sorted" p) [.Call (.Name "dict" p2) [a] [] q] [] pos) (unM sortDictD f) :=
  ⟨pe_imp (pe_callB (call_sortedDI calm) hg hm b1 (pa_cons (pe_callTy (cr_dictI calm) hg2 hm2 b2 (pa_cons ha.pe pa_nil star) (by decide) (by decide) star rfl) pa_nil star2) (by decide) (by decide) star2 rfl) fun s H Q ⟨z, r, F, d, r', R, e, k⟩ => by
    obtain ⟨x, e1, e2⟩ := unM_some e
    cases x with
    | list ds =>
      obtain ⟨ps, e3, e4⟩ := Option.bind_eq_some_iff.mp e2
      split at e4
      · rename_i few
        cases e4
        refine ⟨z, r, F, _, r', R, e1, fun v H1 F1 R1 sb dv => ⟨F1, v, ds, ps, rfl, R1.fh, dv, e3, fun q kvs ks new hk pm => ?_⟩⟩
        refine ⟨q, kvs, ks, rfl, .inl upd_same, hk, by rw [pm.length_eq]; exact few, fun ys y pm2 up new2 => ?_⟩
        cases sorted_is (pm2.trans pm) up
        have R2 := R1.grow (.loose (o := .dK kvs) R1.fh new)
        obtain ⟨G, dd⟩ := new_lst R2.fh new2 (dpa_ints_mk (K := X.K) (F := F1) ((dedup (ps.map (·.1))).mergeSort fun a b => decide (a ≤ b)))
        exact k _ _ _ (R2.grow G) (sb.trans G.ff) dd
      · cases e4
    | _ => cases e2⟩
theorem cr_lenK : CallR X (.builtin "len") (fun xs H Q => ∃ (p : Addr) (kvs : List (Key × V)), xs = [.ref p] ∧ H p = some (.dK kvs) ∧ Q (.int kvs.length) H) := by
  intro pins s σ H xs us Q I r ⟨p, kvs, e, hp, k⟩
  subst e
  cases r with
  | cons h t =>
    cases t
    cases h
    exact d_len I (.inl hp) fun t s' I' => ⟨.int kvs.length, H, I', ⟨t, rfl⟩, k⟩
theorem se_lenDict {p p2 q : Pos} (calm : X.calm = true) (hg : Gl X "len") (hm : X.mg "len" = none) (hg2 : Gl X "dict") (hm2 : X.mg "dict" = none) (ha : SE X a f)
    (star : starEach [a] X.env = [(false, eval a X.env)] := by rfl) (star2 : starEach [.Call (.Name "dict" p2) [a] [] q] X.env = [(false, eval (.Call (.Name "dict" p2) [a] [] q) X.env)] := by rfl) (b1 : bootBuiltins "len" = some (.builtin "len") := by decide +kernel) (b2 : bootBuiltins "dict" = some (.type "dict") := by decide +kernel) :
    SE X (.Call (.Name "len" p) [.Call (.Name "dict" p2) [a] [] q] [] pos) (unM lenDictD f) :=
  ⟨pe_imp (pe_callB cr_lenK hg hm b1 (pa_cons (pe_callTy (cr_dictI calm) hg2 hm2 b2 (pa_cons ha.pe pa_nil star) (by decide) (by decide) star rfl) pa_nil star2) (by decide) (by decide) star2 rfl) fun s H Q ⟨z, r, F, d, r', R, e, k⟩ => by
    obtain ⟨x, e1, e2⟩ := unM_some e
    cases x with
    | list ds =>
      obtain ⟨ps, e3, e4⟩ := Option.map_eq_some_iff.mp e2
      cases e4
      refine ⟨z, r, F, _, r', R, e1, fun v H1 F1 R1 sb dv => ⟨F1, v, ds, ps, rfl, R1.fh, dv, e3, fun q kvs ks new hk pm => ⟨q, kvs, rfl, upd_same, ?_⟩⟩⟩
      have R2 := R1.grow (.loose (o := .dK kvs) R1.fh new)
      have hl : kvs.length = (dedup (ps.map (·.1))).length := by
        rw [← pm.length_eq, ← List.length_map (f := (·.1)), hk, List.length_map]
      rw [hl]
      exact k _ _ _ R2 sb (.int _)
    | _ => cases e2⟩
end
end DL
/-! an own list of own lists: filled, its lists grown in a walk, and then let go as a datum -/
namespace DL
open PySem L2
structure LL (K : PySem.W.Frag) (z : Fx) (r : Rho) (s : L2.St) (H F : Hp) (i : Nat) (p : Addr) (as : List Addr) (rows : List (List D)) : Prop where
  here : s[i]? = some (some (.ref p))
  out : H p = some (.lst (as.map V.ref))
  len : as.length = rows.length
  ins : ∀ (k : Nat) (a : Addr) (xs : List D), as[k]? = some a → rows[k]? = some xs → ∃ vs, H a = some (.lst vs) ∧ DpAll K F vs xs
  free : ∀ a ∈ p :: as, F a = none ∧ z.H0 a = none ∧ ¬ OwnAt r s a
  nd : (p :: as).Nodup
section
variable {K : PySem.W.Frag} {z : Fx} {r r' : Rho} {s s' : L2.St} {H F H' F' : Hp} {i j : Nat} {p : Addr} {as : List Addr} {rows : List (List D)}
theorem LL.there (L : LL K z r s H F i p as rows) {a : Addr} (m : a ∈ as) : ∃ (k : Nat) (vs : List V) (xs : List D), as[k]? = some a ∧ rows[k]? = some xs ∧ H a = some (.lst vs) ∧ DpAll K F vs xs := by
  obtain ⟨k, hk, e⟩ := List.getElem_of_mem m
  have e1 : as[k]? = some a := by rw [List.getElem?_eq_getElem hk, e]
  have hk2 : k < rows.length := by rw [← L.len]; exact hk
  obtain ⟨vs, h1, h2⟩ := L.ins k a rows[k] e1 (List.getElem?_eq_getElem hk2)
  exact ⟨k, vs, _, e1, List.getElem?_eq_getElem hk2, h1, h2⟩
theorem LL.isl (L : LL K z r s H F i p as rows) {a : Addr} (m : a ∈ p :: as) : ∃ vs, H a = some (.lst vs) := by
  rcases List.mem_cons.mp m with rfl | m
  · exact ⟨_, L.out⟩
  · obtain ⟨_, vs, _, _, _, h, _⟩ := L.there m; exact ⟨vs, h⟩
/-- what a step over the bare base leaves -/
theorem LL.kept (L : LL K z r s H F i p as rows) (R : Rep K z r s H F) (R' : Rep K ⟨bare r s H, F, z.rf⟩ r' s' H' F') (hi : s'[i]? = s[i]?) : LL K z r' s' H' F' i p as rows := by
  have key : ∀ a ∈ p :: as, ∀ vs, H a = some (.lst vs) → H' a = some (.lst vs) ∧ F' a = none ∧ ¬ OwnAt r' s' a := fun a m vs h =>
    R.loose_kept R' h (L.free a m).1 (L.free a m).2.2 not_tu
  refine ⟨by rw [hi]; exact L.here, (key p (by simp) _ L.out).1, L.len, fun k a xs e1 e2 => ?_, fun a m => ?_, L.nd⟩
  · obtain ⟨vs, h1, h2⟩ := L.ins k a xs e1 e2
    exact ⟨vs, (key a (List.mem_cons_of_mem _ (List.mem_of_getElem? e1)) vs h1).1, dpa_mono R'.f0 h2⟩
  · obtain ⟨vs, h⟩ := L.isl m
    exact ⟨(key a m vs h).2.1, (L.free a m).2.1, (key a m vs h).2.2⟩
theorem LL.grow (L : LL K z r s H F i p as rows) (G : Grow F H F' H') : LL K z r s H' F' i p as rows := by
  refine ⟨L.here, G.hh _ _ L.out, L.len, fun k a xs e1 e2 => ?_, fun a m => ?_, L.nd⟩
  · obtain ⟨vs, h1, h2⟩ := L.ins k a xs e1 e2
    exact ⟨vs, G.hh _ _ h1, dpa_mono G.ff h2⟩
  · refine ⟨?_, (L.free a m).2⟩
    obtain ⟨vs, h⟩ := L.isl m
    cases q : F' a with
    | none => rfl
    | some u =>
      rcases G.nw a u q with h1 | h1 | ⟨ob, ws, rfl⟩
      · rw [(L.free a m).1] at h1; cases h1
      · rw [h] at h1; cases h1
      · have q2 := G.fh a _ q
        rw [G.hh _ _ h] at q2; exact (tupHO_lst q2).elim
/-- all of them frozen -/
theorem freeze_all : ∀ (as : List Addr) {F : Hp}, Rep K z r s H F → (∀ a ∈ as, (∃ vs, H a = some (.lst vs)) ∧ F a = none ∧ z.H0 a = none ∧ ¬ OwnAt r s a) → as.Nodup →
    ∃ F', Rep K z r s H F' ∧ SubH F F' ∧ (∀ a ∈ as, F' a = H a) ∧ ∀ b, b ∉ as → F' b = F b
  | [], F, R, _, _ => ⟨F, R, .refl _, by simp, fun _ _ => rfl⟩
  | a :: as, F, R, h, nd => by
    obtain ⟨⟨vs, h1⟩, h2, h3, h4⟩ := h a (by simp)
    have nd' := List.nodup_cons.mp nd
    have R1 := R.freeze1 h1 h2 h3 h4
    obtain ⟨F2, R2, s2, g1, g2⟩ := freeze_all as R1 (fun b m => by
      obtain ⟨q1, q2, q3, q4⟩ := h b (List.mem_cons_of_mem _ m)
      exact ⟨q1, by
        have ne : b ≠ a := fun e => nd'.1 (e ▸ m)
        rw [upd_ne ne]; exact q2, q3, q4⟩) nd'.2
    refine ⟨F2, R2, (SubH.new h2).trans s2, fun b m => ?_, fun b nb => ?_⟩
    · rcases List.mem_cons.mp m with rfl | m
      · rw [g2 b nd'.1, upd_same, h1]
      · exact g1 b m
    · simp only [List.mem_cons, not_or] at nb
      rw [g2 b nb.2, upd_ne nb.1]
theorem LL.done (L : LL K z r s H F i p as rows) (R : Rep K z r s H F) : ∃ F', Rep K z (r.set i (some (.d (.list (rows.map .list))))) s H F' ∧ SubH F F' := by
  obtain ⟨F2, R2, s2, g1, g2⟩ := freeze_all (p :: as) R (fun a m => ⟨L.isl m, L.free a m⟩) L.nd
  have dp : Dp K F2 (.ref p) (.list (rows.map .list)) := by
    refine .lst (.inl (.inl (by rw [g1 p (by simp)]; exact L.out))) (dpa_of (by simp [L.len]) fun k v d e1 e2 => ?_)
    rw [List.getElem?_map] at e1 e2
    obtain ⟨a, e3, rfl⟩ := Option.map_eq_some_iff.mp e1
    obtain ⟨xs, e4, rfl⟩ := Option.map_eq_some_iff.mp e2
    obtain ⟨vs, h1, h2⟩ := L.ins k a xs e3 e4
    exact .lst (.inl (.inl (by rw [g1 a (List.mem_cons_of_mem _ (List.mem_of_getElem? e3))]; exact h1))) (dpa_mono s2 h2)
  have R3 := R2.put (i := i) dp
  have e : s.set i (some (V.ref p)) = s := by
    have hl := (List.getElem?_eq_some_iff.mp L.here)
    obtain ⟨h1, h2⟩ := hl
    rw [← h2]
    exact List.set_getElem_self h1
  rw [e] at R3
  exact ⟨F2, R3, s2⟩
theorem LL.forget (L : LL K z r s H F i p as rows) : LL K z (r.set j none) s H F i p as rows :=
  ⟨L.here, L.out, L.len, L.ins, fun a m => ⟨(L.free a m).1, (L.free a m).2.1, fun ⟨k, sv, e1, e2, e3⟩ => by
    rcases get_set_cases e1 with ⟨rfl, e⟩ | ⟨ne, e1⟩
    · cases e
    · exact (L.free a m).2.2 ⟨k, sv, e1, e2, e3⟩⟩, L.nd⟩
theorem LL.start (R : Rep K z r s H F) {b : Bool} (h : r[i]? = some (some (.l b []))) : ∃ p, LL K z (r.set i none) s H F i p [] [] := by
  obtain ⟨v, h1, q, vs, rfl, h2, h3, h4, h5, h6⟩ := R.slots i _ h
  cases h5
  refine ⟨q, h1, h2, rfl, fun k a xs e => by simp at e, fun a m => ?_, by simp⟩
  simp only [List.mem_cons, List.not_mem_nil, or_false] at m
  subst m
  refine ⟨h3, h4, fun ⟨k, sv, e1, e2, e3⟩ => ?_⟩
  rcases get_set_cases e1 with ⟨rfl, e⟩ | ⟨ne, e1⟩
  · cases e
  · exact ne (R.apart k i sv _ a e1 h e2 rfl e3 h1)
end
/-! ### statements over it -/
/-- a statement that stores nothing -/
abbrev CM := Rho → Option Rho
def liftC (K : PySem.W.Frag) (f : CM) : TS := fun D s H => ∃ z r F r', Rep K z r s H F ∧ f r = some r' ∧ ∀ H' F', Rep K z r' s H' F' → SubH F F' → D.nx s H'
structure SC (X : Cx) (st : Stmt) (f : CM) : Prop where
  ps : PS X st (liftC X.K f)
end DL
/-! xs.count(x) of a list; forgotten slots ahead of a list of lists -/
namespace DL
open PySem L2 PyProof.Rows PySem.Spec
end DL
/-! all(t), any(t) of a tuple of truths -/
namespace DL
open PySem L2
def allT : D → Option D
  | .tuple ds => (blsOf ds).map fun bs => .bool (bs.all id)
  | _ => none
end DL
/-! t * n of a tuple that has something -/
namespace DL
open PySem L2 PyProof.Rows PySem.Spec
set_option maxHeartbeats 2000000 in
theorem mul_one_tup (l : Addr) (items : Array Value) (n : Nat) (dd : Option Addr) (sl : Array (Option Value)) (u : Tok) :
    Meets (Builtin.«tuple.__mul__» ⟨[.ref l, .int 1 u], []⟩) (fun _ R s => s.heap.get? l = some { cls := .type "tuple", dict := dd, data := .seq items n, slots := sl } ∧ R (.ok (.ret (.ref l))) s) :=
  .of_wp fun prog w A R s h => by
    obtain ⟨hp, g, d, tk, os⟩ := s
    obtain ⟨hl, h⟩ := h
    have f1 := AutoSeq1.idx_int
    wp_walk using wpAny_loadPart' hl
    exact ⟨_, rfl, h⟩
set_option maxHeartbeats 2000000 in
theorem mul_none_tup (l : Addr) (items : Array Value) (n : Nat) (dd : Option Addr) (sl : Array (Option Value)) (u : Tok) (hi : items.isEmpty = false) :
    Meets (Builtin.«tuple.__mul__» ⟨[.ref l, .int 0 u], []⟩) (fun _ R s => s.heap.get? l = some { cls := .type "tuple", dict := dd, data := .seq items n, slots := sl } ∧ R (.ok (.ret (.ref s.heap.objs.size))) { s with heap := s.heap.push (tupObj []) }) :=
  .of_wp fun prog w A R s h => by
    obtain ⟨hp, g, d, tk, os⟩ := s
    obtain ⟨hl, h⟩ := h
    have f1 := AutoSeq1.idx_int
    wp_walk using wpAny_loadPart' hl
    exact ⟨_, rfl, h⟩
def repTD : D → D → Option D
  | .tuple ds, .int k => if ds.isEmpty then none else if k = 0 then some (.tuple []) else if k = 1 then some (.tuple ds) else if 2 ≤ k ∧ k ≤ 1000 ∧ ds.length ≤ 1000 then some (.tuple (List.replicate k.toNat ds).flatten) else none
  | _, _ => none
section
variable {X : Cx}
theorem or_repT : OpR X (binaryOp .Mult) (liftO X.K repTD) := by
  rintro pins s σ H x y v u Q I rx ry ⟨F, d, e, o, sb, dx, dy, h, want⟩
  unfold repTD at h
  split at h
  · rename_i ds k
    obtain ⟨a, vs, rfl, tup, each⟩ := dv_tup dx
    cases dv_int dy
    cases rx
    obtain ⟨t, rfl⟩ := ry
    obtain ⟨us, vals, ⟨⟨c, dd, dt, sl⟩, stands, isT, n, isS⟩, _⟩ := I.tuple (sb.sqt (sqt_of (K := X.K) tup))
    cases isT; cases isS
    have ty : s.TypeIs (.ref a) "tuple" := ⟨_, stands, rfl⟩
    have lens : us.length = ds.length := by rw [← vals.length, dpa_len each]
    have run := fun S (g : Meets (Builtin.«tuple.__mul__» ⟨[.ref a, .int k t], []⟩) S) (q : S X.A (wants (EP X pins σ Q) X.xe) s) =>
      wpAny_binaryOp_repeat_ref (M := model X.prog X.w) (T := "tuple") (U := "int") (by decide) ty (fun s' => typeIs_int s' k t) noFill_tuple_mul PySem.F.fills_int_mul PySem.F.slot_int_rmul repeat_tuple PySem.F.slot_int_index.lookup
        (call_meets PySem.F.slot_int_rmul (typeIs_int s k t) PySem.F.entry_int_rmul (PySem.F.args_int_rmul_2 _ _) (int_rmul_tuple k t a us.toArray n dd sl)
          ⟨stands, rfl, ty, call_meets PySem.F.slot_tuple_mul ty PySem.F.entry_tuple_mul (PySem.F.args_tuple_mul_2 _ _) g q⟩)
    split at h
    · cases h
    · rename_i some'
      have ne : us.toArray.isEmpty = false := by
        cases us with
        | nil => cases ds with
          | nil => exact absurd rfl some'
          | cons _ _ => simp at lens
        | cons _ _ => rfl
      split at h
      · rename_i k0
        cases h; subst k0
        refine run _ (mul_none_tup a us.toArray n dd sl t ne) ⟨stands, ?_⟩
        refine laid_ep I (vs := []) (its := []) .nil (by simp) fun p ob nd new => ?_
        obtain ⟨G, dd'⟩ := new_tup nd sb new (show DpAll X.K F [] [] from .nil)
        exact want _ _ _ G dd'
      · split at h
        · rename_i k1
          cases h; subst k1
          refine run _ (mul_one_tup a us.toArray n dd sl t) ⟨stands, .ref a, H, I, rfl, ?_⟩
          exact want _ H F (.refl sb) (.tup tup each)
        · rename_i n0 n1
          split at h
          · rename_i b
            cases h
            obtain ⟨b1, b2, b3⟩ := b
            have size : us.toArray.size = ds.length := by rw [List.size_toArray, lens]
            have prod : ((us.toArray.size : Nat) : Int) * k ≤ 1000000 := by
              rw [size]
              have := Int.mul_le_mul_of_nonneg_right (show ((ds.length : Nat) : Int) ≤ 1000 by omega) (show 0 ≤ k by omega)
              omega
            have fl : (List.replicate k.toNat us).flatten.length ≤ sizeLine := by
              have e : (List.replicate k.toNat us).flatten.length = k.toNat * us.length := by simp
              rw [e, lens, sizeLine_eq]
              have := Nat.mul_le_mul (show k.toNat ≤ 1000 by omega) b3
              omega
            have g := tuple_mulW a us.toArray n dd sl k t (by rw [decide_eq_false (by omega), decide_eq_false (by omega)]; rfl) (by rw [ne, Bool.false_or]; exact beq_eq_false_iff_ne.mpr n1) (by rw [ne, Bool.or_false]; exact decide_eq_false (by omega)) (by omega)
              (by unfold Builtin.Tuple.tupleTooMany; rw [sizeLine_eq]; exact decide_eq_false (by omega)) (by rw [size_rep, List.size_toArray]; exact fl)
            rw [size_rep] at g
            refine run _ g ⟨stands, ?_⟩
            refine laid_ep I (vals.rep k.toNat) (by rw [(vals.rep k.toNat).length]; exact fl) fun p ob nd new => ?_
            obtain ⟨G, dd'⟩ := new_tup nd sb new (dpa_rep each k.toNat)
            exact want _ _ _ G dd'
          · cases h
  · cases h
end
end DL
/-! return f(..) in a try with one clause; a, b, c = x, y, z -/
namespace DL
open PySem L2
end DL
/-! range(i, j, -1) -/
namespace DL
open PySem L2
end DL
/-! d[k] of an own dict -/
namespace DL
open PySem L2
end DL
/-! t > u of tuples -/
namespace DL
open PySem L2 PyProof.Rows PySem.SeqAt
section
variable {X : Cx}
def gtD : D → D → Option Bool
  | .int i, .int j => some (decide (j < i))
  | .tuple xs, .tuple ys => if (PySem.W.alike (.tuple xs) (.tuple ys) && decide (PyData.depth (.tuple xs) ≤ 60)) = true then some (PySem.W.dataLt (.tuple ys) (.tuple xs)) else none
  | _, _ => none
theorem or_gtD (hu : X.A.units + 64 < cLine) : OpR X (compareOp .Gt) (liftO X.K (bD gtD)) := by
  intro pins s σ H x y v u Q I rx ry h
  obtain ⟨F, d, e, o, sb, dx, dy, eo, k⟩ := h
  obtain ⟨bb, e9, rfl⟩ := bD_some eo
  unfold gtD at e9
  split at e9
  · cases e9
    cases dv_int dx; cases dv_int dy
    exact op_gt pins s σ H _ _ v u Q I rx ry ⟨_, _, rfl, rfl, k _ H F (.refl sb) (.bl _)⟩
  · split at e9
    · rename_i xs ys c
      cases e9
      rw [Bool.and_eq_true, decide_eq_true_eq] at c
      obtain ⟨as, ra⟩ := L2.Dp.reads I _ _ _ (dp_old (dx.dp sb)) rx
      obtain ⟨bs, rb⟩ := L2.Dp.reads I _ _ _ (dp_old (dy.dp sb)) ry
      have := PySem.W.rcGt_alike _ _ X.A s v u as bs ra rb c.1 (by simp) (Nat.lt_of_le_of_lt (Nat.add_le_add_left (Nat.le_trans (Nat.min_le_left _ _) (Nat.le_trans c.2 (by omega : 60 ≤ 64))) _) hu) X.prog X.w X.xe (EP X pins σ Q) ⟨.bl _, H, I, rfl, k _ H F (.refl sb) (.bl _)⟩
      exact this
    · cases e9
  · cases e9
end
end DL
/-! set(t), t a tuple -/
namespace DL
open PySem L2 PySem.Spec PyProof.Rows PySem.SeqAt
end DL
/-! sorted(set(t)), t a tuple of pairs -/
namespace DL
open PySem L2 PyProof.Rows PySem.Spec
end DL
namespace DL
open PySem L2 PyProof.Rows PySem.Spec
abbrev PLt (t u : Int × Int) : Prop := t.1 < u.1 ∨ (t.1 = u.1 ∧ t.2 < u.2)
def insP (t : Int × Int) : List (Int × Int) → List (Int × Int)
  | [] => [t]
  | u :: us => if t = u then u :: us else if t.1 < u.1 ∨ (t.1 = u.1 ∧ t.2 < u.2) then t :: u :: us else u :: insP t us
def canonP : List (Int × Int) → List (Int × Int)
  | [] => []
  | p :: ps => insP p (canonP ps)
theorem mem_insP {x t : Int × Int} : ∀ {us : List (Int × Int)}, x ∈ insP t us ↔ x = t ∨ x ∈ us
  | [] => by simp [insP]
  | u :: us => by
    unfold insP
    split
    · rename_i h; subst h; simp
    · split
      · simp
      · rw [List.mem_cons, mem_insP, List.mem_cons]
        exact ⟨fun h => h.elim (fun h => .inr (.inl h)) fun h => h.elim .inl fun h => .inr (.inr h), fun h => h.elim (fun h => .inr (.inl h)) fun h => h.elim .inl fun h => .inr (.inr h)⟩
theorem up_insP {t : Int × Int} : ∀ {us : List (Int × Int)}, us.Pairwise PLt → (insP t us).Pairwise PLt
  | [], _ => by simp [insP]
  | u :: us, h => by
    obtain ⟨h1, h2⟩ := List.pairwise_cons.mp h
    unfold insP
    split
    · exact h
    · split
      · rename_i ne lt
        refine List.pairwise_cons.mpr ⟨fun x m => ?_, h⟩
        rcases List.mem_cons.mp m with rfl | m
        · exact lt
        · have := h1 x m
          unfold PLt at *
          omega
      · rename_i ne nl
        refine List.pairwise_cons.mpr ⟨fun x m => ?_, up_insP h2⟩
        rcases mem_insP.mp m with rfl | m
        · have : ¬ (x.1 = u.1 ∧ x.2 = u.2) := fun q => ne (Prod.ext q.1 q.2)
          unfold PLt
          omega
        · exact h1 x m
theorem mem_canonP {x : Int × Int} : ∀ {ps : List (Int × Int)}, x ∈ canonP ps ↔ x ∈ ps
  | [] => by simp [canonP]
  | p :: ps => by rw [canonP, mem_insP, mem_canonP, List.mem_cons]
theorem up_canonP : ∀ ps : List (Int × Int), (canonP ps).Pairwise PLt
  | [] => by simp [canonP]
  | p :: ps => by rw [canonP]; exact up_insP (up_canonP ps)
theorem up_ext {xs ys : List (Int × Int)} (h1 : xs.Pairwise PLt) (h2 : ys.Pairwise PLt) (h : ∀ x, x ∈ xs ↔ x ∈ ys) : xs = ys := by
  have nd : ∀ {zs : List (Int × Int)}, zs.Pairwise PLt → zs.Nodup := fun q => List.Pairwise.imp (fun {a b} (q : PLt a b) (e : a = b) => by subst e; unfold PLt at q; omega) q
  refine List.Perm.eq_of_pairwise (le := PLt) (fun a b _ _ p q => ?_) h1 h2 ((List.perm_ext_iff_of_nodup (nd h1) (nd h2)).mpr h)
  unfold PLt at p q
  omega
end DL
/-! dict(ps), ps a list of pairs whose first is a flat tuple -/
namespace DL
open PySem L2
/-- a pair's place, its key, the key's place, its value -/
structure PEn where
  at_ : Addr
  key : List Key
  kat : Addr
  val : V
section
variable {X : Cx}
def dictOf (es : List PEn) : List (List Key × V) := es.foldl (fun m e => putK m e.key e.val) []
theorem put_len' {α : Type} [DecidableEq α] (kvs : List (α × V)) (k : α) (v : V) : (putK kvs k v).length ≤ kvs.length + 1 := by
  unfold putK
  split <;> simp
theorem fold_len : ∀ (es : List PEn) (m : List (List Key × V)), (es.foldl (fun m e => putK m e.key e.val) m).length ≤ m.length + es.length
  | [], m => by simp
  | e :: es, m => by
    have h1 := fold_len es (putK m e.key e.val)
    have h2 := put_len' m e.key e.val
    simp only [List.foldl_cons, List.length_cons]
    omega
/-- the values that stand in the pairs -/
theorem vals_in {pins : List (Addr × Obj)} {s : Shared} {σ : L2.St} {H : Hp} (I : L2.Inv X pins σ H s) : ∀ {es : List PEn}, (∀ e ∈ es, SqT X.K H e.at_ [.ref e.kat, e.val] ∧ H e.kat = some (.tup (e.key.map kV))) →
    ∃ us : List Value, us.length = es.length ∧ (∀ (j : Nat) (e : PEn) (u : Value), es[j]? = some e → us[j]? = some u → s.heap.IsTuple e.at_ #[.ref e.kat, u] ∧ RelV e.val u)
  | [], _ => ⟨[], rfl, fun j e u h => by simp at h⟩
  | e :: es, h => by
    obtain ⟨us, l, r⟩ := vals_in I fun x m => h x (List.mem_cons_of_mem _ m)
    obtain ⟨its, rv, isT, _⟩ := I.tuple (h e (by simp)).1
    cases rv with
    | cons r1 t1 =>
      cases t1 with
      | cons r2 t2 =>
        cases t2
        cases r1
        rename_i u
        refine ⟨u :: us, by simp [l], fun j e' u' h1 h2 => ?_⟩
        cases j with
        | zero =>
          simp at h1 h2
          subst h1 h2
          exact ⟨isT, r2⟩
        | succ j => exact r j e' u' (by simpa using h1) (by simpa using h2)
theorem kt_fold {H : Hp} : ∀ {es : List PEn} {us : List Value} {m : List (List Key × V)} {xs : List (List Key × Addr × Value)}, us.length = es.length → (∀ (j : Nat) (e : PEn) (u : Value), es[j]? = some e → us[j]? = some u → H e.kat = some (.tup (e.key.map kV)) ∧ RelV e.val u) → KT H m xs →
    KT H (es.foldl (fun m e => putK m e.key e.val) m) (storedAllH xs ((es.zip us).map fun p => (p.1.key, p.1.kat, p.2)))
  | [], us, m, xs, l, _, r => by simpa [storedAllH] using r
  | e :: es, [], m, xs, l, _, r => by simp at l
  | e :: es, u :: us, m, xs, l, h, r => by
    obtain ⟨h1, h2⟩ := h 0 e u rfl rfl
    exact kt_fold (es := es) (us := us) (by simpa using l) (fun j e' u' a b => h (j + 1) e' u' (by simpa using a) (by simpa using b)) (r.put e.key h1 h2)
theorem zip_at2 {es : List PEn} {us : List Value} {j : Nat} {e : PEn} {u : Value} (h : (es.zip us)[j]? = some (e, u)) : es[j]? = some e ∧ us[j]? = some u := by
  rw [List.getElem?_zip_eq_some] at h
  exact h
theorem cr_dictT (calm : X.calm = true) (hu : X.A.units + 64 < cLine) : CallR X (.type "dict") (fun xs H Q => ∃ (a : Addr) (es : List PEn), xs = [.ref a] ∧ SqL X.K H a (es.map fun e => V.ref e.at_) ∧ (∀ e ∈ es, SqT X.K H e.at_ [.ref e.kat, e.val] ∧ H e.kat = some (.tup (e.key.map kV))) ∧
    ∀ p, H p = none → Q (.ref p) (upd H p (.dT (dictOf es)))) := by
  rintro pins s σ H xs us0 Q I rel ⟨a, es, rfl, hl, each, give⟩
  obtain ⟨u0, rfl, ru⟩ := vals1 rel
  cases ru
  obtain ⟨its, rv, ⟨o, n, ho, hc, hd, hdat⟩, hz⟩ := I.list hl
  have ei : its = es.map fun e => Value.ref e.at_ := by
    have := refs_at (ps := es.map (·.at_)) (us := its) (by rw [List.map_map]; exact rv)
    rw [this, List.map_map]; rfl
  subst ei
  rw [List.length_map] at hz
  obtain ⟨us, l, r⟩ := vals_in I each
  have zl : (es.zip us).length = es.length := by rw [List.length_zip, l, Nat.min_self]
  have rows : ∀ (j : Nat) (e : PEn) (u : Value), (es.zip us)[j]? = some (e, u) → e ∈ es ∧ s.heap.IsTuple e.at_ #[.ref e.kat, u] ∧ RelV e.val u := fun j e u h => by
    obtain ⟨h1, h2⟩ := zip_at2 h
    exact ⟨List.mem_of_getElem? h1, r j e u h1 h2⟩
  have P := PySem.PairArg.list (prog := X.prog) (w := X.w) a (es.map fun e => Value.ref e.at_).toArray (fun j => ((es[j]?).map (·.at_)).getD 0) ((es.zip us).map fun p => (Value.ref p.1.kat, p.2))
  refine call_dict_pairsH (knd := tupleKind (mixKind X.prog X.w)) (ps := (es.zip us).map fun p => (p.1.key, p.1.kat, p.2)) P (I.ok.hd calm) (by show _ < _; simp; omega) ⟨⟨o, n, ho, hc, hd, hdat⟩, ?_⟩ ⟨by simp, ?_⟩ ?_ (by simp [l]; exact hz) fun h' tk hd' keep => ?_
  · refine ⟨by simp [l], fun j k v h => ?_⟩
    rw [List.getElem?_map, Option.map_eq_some_iff] at h
    obtain ⟨⟨e, u⟩, h1, h2⟩ := h
    cases h2
    obtain ⟨g1, g2⟩ := zip_at2 h1
    obtain ⟨_, g3, _⟩ := rows j e u h1
    have ea : ((es[j]?).map (·.at_)).getD 0 = e.at_ := by rw [g1]; rfl
    refine ⟨?_, .inl ?_⟩
    · show _ = some (Value.ref (((es[j]?).map (·.at_)).getD 0))
      rw [ea]
      simp [g1]
    · show s.heap.IsTuple (((es[j]?).map (·.at_)).getD 0) _
      rw [ea]
      exact g3
  · intro i key v h
    have h : ((es.zip us).map fun p => (Value.ref p.1.kat, p.2))[i]? = some (key, v) := h
    rw [List.getElem?_map, Option.map_eq_some_iff] at h
    obtain ⟨⟨e, u⟩, h1, h2⟩ := h
    cases h2
    exact ⟨e.key, e.kat, by rw [List.getElem?_map, h1]; rfl, rfl⟩
  · intro h' hk x mx
    obtain ⟨⟨e, u⟩, m, rfl⟩ := List.mem_map.mp mx
    obtain ⟨j, hj⟩ := List.getElem?_of_mem m
    obtain ⟨o, items, n, g1, g2⟩ := key_of (P := X.prog) (w := X.w) I.hok (each e (rows j e u hj).1).2
    exact ⟨o, items, n, hk _ _ (Nat.ne_of_lt (Heap.lt_size g1)) (by simp) g1, g2⟩
  · have hm : (s.heap.objs.size == sysModules) = false := beq_eq_false_iff_ne.mpr (Nat.ne_of_gt I.big)
    have len : (dictOf es).length ≤ sizeLine := Nat.le_trans (fold_len es []) (by simpa using hz)
    have kt := kt_fold (H := H) (es := es) (us := us) (m := []) (xs := []) l (fun j e u h1 h2 => ⟨(each e (List.mem_of_getElem? h1)).2, (r j e u h1 h2).2⟩) .nil
    obtain ⟨o', es', ep, q1, q2, q3, q4, q5, q6⟩ := hd'
    have new : H s.heap.objs.size = none := I.hok.fresh (Nat.le_refl _)
    refine ⟨.ref s.heap.objs.size, upd H s.heap.objs.size (.dT (dictOf es)), I.laid (t' := tk) (fun b o e => keep b o (by simp) e) (Nat.le_refl _) (show ObjOk X.prog X.w _ _ _ (.dT (dictOf es)) from ⟨len, hm, _, ?_, o', es', ep, q1, q2, q3, q4, q6⟩), rfl, give _ new⟩
    exact KT.keeps kt fun b ys e => by rw [upd_ne (fun z => by rw [z, new] at e; cases e)]; exact e
end
end DL
/-! sorted(dict(ps)): ps a list of pairs whose first is a flat tuple -/
namespace DL
open PySem L2
def headT : D → Option (List Key × D)
  | .tuple [.tuple ks, v] => (keysOf ks).map (·, v)
  | _ => none
def headsT : List D → Option (List (List Key × D))
  | [] => some []
  | d :: ds => (headT d).bind fun p => (headsT ds).map (p :: ·)
def dictTD (ps : List (List Key × D)) : List (DK × D) := ps.foldl (fun m p => putG m (.inr p.1) p.2) []
def sortDictT : D → Option D
  | .list ds => (headsT ds).bind fun ps => if sortOk ((dictTD ps).map fun kv => dkD kv.1) then some (.list (sortL ((dictTD ps).map fun kv => dkD kv.1))) else none
  | _ => none
theorem heads_at {K : PySem.W.Frag} {F : Hp} : ∀ {vs : List V} {ds : List D} {ps : List (List Key × D)}, DpAll K F vs ds → headsT ds = some ps → ∃ es : List PEn, vs = es.map (fun e => V.ref e.at_) ∧
    (∀ e ∈ es, TupAt F e.at_ [.ref e.kat, e.val] ∧ F e.kat = some (.tup (e.key.map kV))) ∧ Paired (fun (e : PEn) (p : List Key × D) => e.key = p.1 ∧ Dp K F e.val p.2) es ps
  | _, _, _, .nil, h => by cases h; exact ⟨[], rfl, by simp, .nil⟩
  | _, _, _, .cons h1 h2, h => by
    simp only [headsT, Option.bind_eq_some_iff, Option.map_eq_some_iff] at h
    obtain ⟨p, e1, ps, e2, rfl⟩ := h
    obtain ⟨es, a1, a2, a3⟩ := heads_at h2 e2
    unfold headT at e1
    split at e1
    · rename_i ks v
      obtain ⟨kk, ek, rfl⟩ := Option.map_eq_some_iff.mp e1
      obtain ⟨t, us, rfl, tup, each⟩ := id h1.inv
      cases each with
      | cons y1 t1 =>
        cases t1 with
        | cons y2 t2 =>
          cases t2
          obtain ⟨q, ws, rfl, at2, each2⟩ := id y1.inv
          cases keysOf_rel each2 ek
          refine ⟨⟨t, kk, q, _⟩ :: es, by rw [a1]; rfl, fun e m => ?_, .cons ⟨rfl, y2⟩ a3⟩
          rcases List.mem_cons.mp m with rfl | m
          · exact ⟨tup, tupAt_key.mp at2⟩
          · exact a2 e m
    · cases e1
theorem dict_fold {K : PySem.W.Frag} {F : Hp} : ∀ {es : List PEn} {ps : List (List Key × D)} {m : List (List Key × V)} {n : List (DK × D)}, Paired (fun (e : PEn) (p : List Key × D) => e.key = p.1 ∧ Dp K F e.val p.2) es ps →
    Paired (fun (p : List Key × V) (q : DK × D) => q.1 = .inr p.1 ∧ Dp K F p.2 q.2) m n →
    Paired (fun (p : List Key × V) (q : DK × D) => q.1 = .inr p.1 ∧ Dp K F p.2 q.2) (es.foldl (fun m e => putK m e.key e.val) m) (ps.foldl (fun m p => putG m (.inr p.1) p.2) n)
  | _, _, _, _, .nil, h => h
  | _, _, _, _, .cons (a := e) (b := p) ⟨e1, e2⟩ t, h => by
    rw [List.foldl_cons, List.foldl_cons, ← e1]
    exact dict_fold t (paired_put (g := Sum.inr) (fun _ _ q => Sum.inr.inj q) e2 h)
section
variable {X : Cx} {a : Expr} {f : EM}
theorem se_sortDictT {p p2 q pos : Pos} (calm : X.calm = true) (hu : X.A.units + 100 < cLine) (hg : Gl X "sorted") (hm : X.mg "sorted" = none) (hg2 : Gl X "dict") (hm2 : X.mg "dict" = none) (ha : SE X a f)
    (star : starEach [a] X.env = [(false, eval a X.env)] := by rfl) (star2 : starEach [.Call (.Name "dict" p2) [a] [] q] X.env = [(false, eval (.Call (.Name "dict" p2) [a] [] q) X.env)] := by rfl) (b1 : bootBuiltins "sorted" = some (.builtin "sorted") := by decide +kernel) (b2 : bootBuiltins "dict" = some (.type "dict") := by decide +kernel) :
    SE X (.Call (.Name "sorted" p) [.Call (.Name "dict" p2) [a] [] q] [] pos) (unM sortDictT f) :=
  ⟨pe_imp (pe_callB (call_sortedT hu calm) hg hm b1 (pa_cons (pe_callTy (cr_dictT calm (by omega)) hg2 hm2 b2 (pa_cons ha.pe pa_nil star) (by decide) (by decide) star rfl) pa_nil star2) (by decide) (by decide) star2 rfl) fun s H Q ⟨z, r, F, d, r', R, e, k⟩ => by
    obtain ⟨x, e1, e2⟩ := unM_some e
    cases x with
    | list ds =>
      obtain ⟨ps, e3, e4⟩ := Option.bind_eq_some_iff.mp e2
      split at e4
      · rename_i ok
        cases e4
        refine ⟨z, r, F, _, r', R, e1, fun v H1 F1 R1 sb dv => ?_⟩
        obtain ⟨t, vs, rfl, at_, each⟩ := dv.inv
        obtain ⟨es, rfl, e5, e6⟩ := heads_at each e3
        refine ⟨t, es, rfl, R1.fh.sql at_, fun e m => ⟨R1.fh.sqt (sqt_of (e5 e m).1), R1.fh _ _ (e5 e m).2⟩, fun b new => ?_⟩
        have R2 : Rep X.K z r' s (upd H1 b (.dT (dictOf es))) F1 := R1.grow (.loose R1.fh new)
        have dk := dk_map (dict_fold (K := X.K) (F := F1) e6 (m := []) (n := []) .nil)
        have dk' : ((dictTD ps).map fun kv => dkD kv.1) = (dictOf es).map fun kv => dkD (.inr kv.1) := dk
        rw [dk'] at ok k
        exact ⟨b, dictOf es, F1, rfl, R2.fh, upd_same, ok, fun v H' F' G dd => k _ _ _ (R2.grow G) (sb.trans G.ff) dd⟩
      · cases e4
    | _ => cases e2⟩
end
end DL
/-! sorted(dict(ps)): the keys ints, or flat tuples -/
namespace DL
open PySem L2
def sortDictB (d : D) : Option D := match sortDictD d with
  | some o => some o
  | none => sortDictT d
theorem se_either {X : Cx} {a : Expr} {f : EM} {h1 h2 h : D → Option D} (e : ∀ d o, h d = some o → h1 d = some o ∨ h2 d = some o) (s1 : SE X a (unM h1 f)) (s2 : SE X a (unM h2 f)) : SE X a (unM h f) :=
  ⟨⟨fun pins s σ H Q I ⟨z, r, F, d, r', R, eq, k⟩ => by
    obtain ⟨x, e1, e2⟩ := unM_some eq
    rcases e x d e2 with q | q
    · exact s1.pe.run pins s σ H Q I ⟨z, r, F, d, r', R, by unfold unM; rw [e1]; simp [q], k⟩
    · exact s2.pe.run pins s σ H Q I ⟨z, r, F, d, r', R, by unfold unM; rw [e1]; simp [q], k⟩⟩⟩
theorem sortDictB_or (d o : D) (h : sortDictB d = some o) : sortDictD d = some o ∨ sortDictT d = some o := by
  unfold sortDictB at h
  split at h
  · rename_i x e
    exact .inl (e.trans h)
  · exact .inr h
end DL
/-! x = dict(pairs), the keys flat tuples: an own dict -/
namespace DL
open PySem L2
end DL
/-! sum(rows, []), rows a list of lists -/
namespace DL
open PySem L2 PySem.Spec PyProof.Rows
end DL
/-! sum(rows, []) as an expression -/
namespace DL
open PySem L2 PySem.Spec PyProof.Rows
end DL
/-! str(n) -/
namespace DL
open PySem L2
def strD : D → Option D
  | .int i => if i.natAbs.log2 < 1920 then some (.str (toString i)) else none
  | _ => none
section
variable {X : Cx}
theorem cr_str : CallR X (.type "str") (liftC1 X.K strD) := by
  intro pins s σ H vs us Q I r h
  obtain ⟨F, x, d, o, rfl, sb, dx, eo, k⟩ := h
  unfold strD at eo
  split at eo
  · split at eo
    · rename_i small
      cases eo
      cases dv_int dx
      exact call_str_int pins s σ H _ us Q I r ⟨_, rfl, small, k _ H F (.refl sb) (.str _)⟩
    · cases eo
  · cases eo
end
end DL
/-! t * 2, t maybe empty -/
namespace DL
open PySem L2 PyProof.Rows PySem.Spec
set_option maxHeartbeats 2000000 in
theorem mul_two_nil (l : Addr) (n : Nat) (dd : Option Addr) (sl : Array (Option Value)) (u : Tok) :
    Meets (Builtin.«tuple.__mul__» ⟨[.ref l, .int 2 u], []⟩) (fun _ R s => s.heap.get? l = some { cls := .type "tuple", dict := dd, data := .seq #[] n, slots := sl } ∧ R (.ok (.ret (.ref l))) s) :=
  .of_wp fun prog w A R s h => by
    obtain ⟨hp, g, d, tk, os⟩ := s
    obtain ⟨hl, h⟩ := h
    have f1 := AutoSeq1.idx_int
    wp_walk using wpAny_loadPart' hl
    exact ⟨_, rfl, h⟩
def repQD : D → D → Option D
  | .tuple [], .int 2 => some (.tuple [])
  | d, e => repTD d e
section
variable {X : Cx}
theorem or_repQ : OpR X (binaryOp .Mult) (liftO X.K repQD) := by
  rintro pins s σ H x y v u Q I rx ry ⟨F, d, e, o, sb, dx, dy, h, want⟩
  unfold repQD at h
  split at h
  · cases h
    obtain ⟨a, vs, rfl, tup, each⟩ := dv_tup dx
    cases dv_int dy
    cases rx
    obtain ⟨t, rfl⟩ := ry
    obtain ⟨us, vals, ⟨⟨c, dd, dt, sl⟩, stands, isT, n, isS⟩, _⟩ := I.tuple (sb.sqt (sqt_of (K := X.K) tup))
    cases isT; cases isS
    have ty : s.TypeIs (.ref a) "tuple" := ⟨_, stands, rfl⟩
    have lens : us.length = 0 := by rw [← vals.length, dpa_len each]; rfl
    cases List.length_eq_zero_iff.mp lens
    refine wpAny_binaryOp_repeat_ref (M := model X.prog X.w) (T := "tuple") (U := "int") (by decide) ty (fun s' => typeIs_int s' 2 t) noFill_tuple_mul PySem.F.fills_int_mul PySem.F.slot_int_rmul repeat_tuple PySem.F.slot_int_index.lookup
        (call_meets PySem.F.slot_int_rmul (typeIs_int s 2 t) PySem.F.entry_int_rmul (PySem.F.args_int_rmul_2 _ _) (int_rmul_tuple 2 t a #[] n dd sl)
          ⟨stands, rfl, ty, call_meets PySem.F.slot_tuple_mul ty PySem.F.entry_tuple_mul (PySem.F.args_tuple_mul_2 _ _) (mul_two_nil a n dd sl t) ⟨stands, .ref a, H, I, rfl, ?_⟩⟩)
    exact want _ H F (.refl sb) (.tup tup each)
  · exact or_repT pins s σ H x y v u Q I rx ry ⟨F, d, e, o, sb, dx, dy, h, want⟩
end
end DL
/-! evaluation of combinator terms at rows of slots that are written out -/
namespace DL
open PySem L2
theorem ob_some {α β : Type} (a : α) (f : α → Option β) : (some a).bind f = f a := (rfl)
theorem om_some {α β : Type} (a : α) (f : α → β) : (some a).map f = some (f a) := (rfl)
/-! slots -/
def SV.dat : SV → Option D
  | .d x => some x
  | _ => none
def SV.lis : SV → Option (Bool × List D)
  | .l b xs => some (b, xs)
  | _ => none
def SV.dic : SV → Option (Bool × Bool × List (DK × D))
  | .m b t xs => some (b, t, xs)
  | _ => none
theorem dat_d (x : D) : (SV.d x).dat = some x := (rfl)
theorem lis_l (b : Bool) (x : List D) : (SV.l b x).lis = some (b, x) := (rfl)
theorem dic_m (b t : Bool) (x : List (DK × D)) : (SV.m b t x).dic = some (b, t, x) := (rfl)
def gt (r : Rho) (i : Nat) : Option SV := r[i]?.bind id
theorem gt_0 (o : Option SV) (r : Rho) : gt (o :: r) 0 = o := (rfl)
theorem gt_1 (a o : Option SV) (r : Rho) : gt (a :: o :: r) 1 = o := (rfl)
theorem gt_2 (a b o : Option SV) (r : Rho) : gt (a :: b :: o :: r) 2 = o := (rfl)
theorem gt_3 (a b c o : Option SV) (r : Rho) : gt (a :: b :: c :: o :: r) 3 = o := (rfl)
theorem gt_4 (a b c d o : Option SV) (r : Rho) : gt (a :: b :: c :: d :: o :: r) 4 = o := (rfl)
theorem gt_5 (a b c d e o : Option SV) (r : Rho) : gt (a :: b :: c :: d :: e :: o :: r) 5 = o := (rfl)
theorem gt_6 (a b c d e f o : Option SV) (r : Rho) : gt (a :: b :: c :: d :: e :: f :: o :: r) 6 = o := (rfl)
theorem gt_7 (a b c d e f g o : Option SV) (r : Rho) : gt (a :: b :: c :: d :: e :: f :: g :: o :: r) 7 = o := (rfl)
theorem gt_b (a b c d e f g h : Option SV) (r : Rho) (i : Nat) : gt (a :: b :: c :: d :: e :: f :: g :: h :: r) (i + 8) = gt r i := by unfold gt; simp
theorem st_0 (o x : Option SV) (r : Rho) : List.set (o :: r) 0 x = x :: r := (rfl)
theorem st_s (o x : Option SV) (r : Rho) (i : Nat) : List.set (o :: r) (i + 1) x = o :: List.set r i x := (rfl)
def plG : Option SV → Bool
  | some sv => !sv.own
  | none => true
theorem plG_d (x : D) : plG (some (.d x)) = true := (rfl)
theorem plG_n : plG none = true := (rfl)
theorem plainAt_a (r : Rho) (is : List Nat) : plainAt r is = is.all fun i => plG (gt r i) := by
  unfold plainAt plG gt
  congr 1; funext i
  cases r[i]? with
  | none => rfl
  | some o => cases o <;> rfl
/-! expressions -/
theorem varM_a (i : Nat) (r : Rho) : varM i r = (gt r i).bind fun s => s.dat.map fun x => (x, r) := by
  unfold varM gt
  cases r[i]? with
  | none => rfl
  | some o => cases o with
    | none => rfl
    | some s => cases s <;> rfl
theorem ownM_a (i : Nat) (r : Rho) : ownM i r = (gt r i).bind fun s => s.lis.map fun x => (.list x.2, r) := by
  unfold ownM gt
  cases r[i]? with
  | none => rfl
  | some o => cases o with
    | none => rfl
    | some s => cases s <;> rfl
theorem cM_a (d : D) (r : Rho) : cM d r = some (d, r) := (rfl)
theorem ofL_a (f : AM) (r : Rho) : ofL f r = (f r).map fun p => (.list p.1, p.2) := (rfl)
theorem opM_a (h : D → D → Option D) (f g : EM) (r : Rho) : opM h f g r = (f r).bind fun p => (g p.2).bind fun q => (h p.1 q.1).map fun d => (d, q.2) := (rfl)
theorem unM_a (h : D → Option D) (f : EM) (r : Rho) : unM h f r = (f r).bind fun p => (h p.1).map fun d => (d, p.2) := (rfl)
theorem truM_a (f : EM) (r : Rho) : truM f r = (f r).bind fun p => (truD p.1).map fun b => (b, p.2) := (rfl)
theorem tstM_a (h : D → D → Option Bool) (f g : EM) (r : Rho) : tstM h f g r = (f r).bind fun p => (g p.2).bind fun q => (h p.1 q.1).map fun b => (b, q.2) := (rfl)
theorem notM_a (f : TM) (r : Rho) : notM f r = (f r).map fun p => (!p.1, p.2) := (rfl)
def cnd {α : Type} (b : Bool) (x y : Unit → α) : α := if b = true then x () else y ()
theorem cnd_t {α : Type} (x y : Unit → α) : cnd true x y = x () := (rfl)
theorem cnd_f {α : Type} (x y : Unit → α) : cnd false x y = y () := (rfl)
theorem andM_a (f g : TM) (r : Rho) : andM f g r = (f r).bind fun p => cnd p.1 (fun _ => g p.2) (fun _ => some (false, p.2)) := (rfl)
theorem orM_a (f g : TM) (r : Rho) : orM f g r = (f r).bind fun p => cnd p.1 (fun _ => some (true, p.2)) (fun _ => g p.2) := (rfl)
theorem andVM_a (f g : EM) (r : Rho) : andVM f g r = (f r).bind fun p => (truD p.1).bind fun b => cnd b (fun _ => g p.2) (fun _ => some (p.1, p.2)) := (rfl)
theorem orVM_a (f g : EM) (r : Rho) : orVM f g r = (f r).bind fun p => (truD p.1).bind fun b => cnd b (fun _ => some (p.1, p.2)) (fun _ => g p.2) := (rfl)
theorem notVM_a (f : EM) (r : Rho) : notVM f r = (f r).bind fun p => (truD p.1).map fun b => (.bool (!b), p.2) := (rfl)
theorem chM_a (h1 h2 : D → D → Option Bool) (f g k : EM) (r : Rho) : chM h1 h2 f g k r = (f r).bind fun p => (g p.2).bind fun q => (h1 p.1 q.1).bind fun b => cnd b (fun _ => (k q.2).bind fun w => (h2 q.1 w.1).map fun c => (.bool c, w.2)) (fun _ => some (.bool false, q.2)) := (rfl)
theorem nilM_a (r : Rho) : nilM r = some ([], r) := (rfl)
theorem consM_a (f : EM) (g : AM) (r : Rho) : consM f g r = (f r).bind fun p => (g p.2).map fun q => (p.1 :: q.1, q.2) := (rfl)
def guard' {α : Type} (b : Bool) (x : Unit → Option α) : Option α := if b = true then x () else none
theorem guard_tt {α : Type} (x : Unit → Option α) : guard' true x = x () := (rfl)
theorem tupM_a (f : AM) (r : Rho) : tupM f r = (f r).bind fun p => guard' (szOk p.1.length) fun _ => some (.tuple p.1, p.2) := (rfl)
theorem lstM_a (f : AM) (r : Rho) : lstM f r = (f r).bind fun p => guard' (szOk p.1.length) fun _ => some p := (rfl)
theorem noM_a (r : Rho) : noM r = some (none, r) := (rfl)
def intV : D → Option Int
  | .int i => some i
  | _ => none
theorem intV_i (i : Int) : intV (.int i) = some i := (rfl)
theorem someM_a (f : EM) (r : Rho) : someM f r = (f r).bind fun p => (intV p.1).map fun i => (some i, p.2) := by
  unfold someM
  cases f r with
  | none => rfl
  | some p => obtain ⟨d, r1⟩ := p; cases d <;> rfl
theorem slM_a (f : EM) (l u : OM) (r : Rho) : slM f l u r = (f r).bind fun p => (l p.2).bind fun q => (u q.2).bind fun w => (slD p.1 q.1 w.1).map fun d => (d, w.2) := (rfl)
theorem rng1M_a (f : EM) (r : Rho) : rng1M f r = (f r).bind fun p => (intV p.1).bind fun j => guard' (rngOk j) fun _ => some (rngL 0 j, p.2) := by
  unfold rng1M
  cases f r with
  | none => rfl
  | some p => obtain ⟨d, r1⟩ := p; cases d <;> rfl
theorem rng2M_a (f g : EM) (r : Rho) : rng2M f g r = (f r).bind fun p => (g p.2).bind fun q => (intV p.1).bind fun i => (intV q.1).bind fun j => guard' (rngOk i && rngOk j) fun _ => some (rngL i j, q.2) := by
  unfold rng2M
  cases f r with
  | none => rfl
  | some p =>
    obtain ⟨d, r1⟩ := p
    simp only [ob_some]
    cases g r1 with
    | none => rfl
    | some q => obtain ⟨e, r2⟩ := q; cases d <;> cases e <;> rfl
def zipV : D → D → Option (List D)
  | .tuple xs, .tuple ys => some (zipL xs ys)
  | .list xs, .list ys => some (zipL xs ys)
  | _, _ => none
theorem zipV_t (xs ys : List D) : zipV (.tuple xs) (.tuple ys) = some (zipL xs ys) := (rfl)
theorem zipV_l (xs ys : List D) : zipV (.list xs) (.list ys) = some (zipL xs ys) := (rfl)
theorem zipM_a (f g : EM) (r : Rho) : zipM f g r = (f r).bind fun p => (g p.2).bind fun q => (zipV p.1 q.1).map fun z => (z, q.2) := by
  unfold zipM
  cases f r with
  | none => rfl
  | some p =>
    obtain ⟨d, r1⟩ := p
    simp only [ob_some]
    cases g r1 with
    | none => rfl
    | some q => obtain ⟨e, r2⟩ := q; cases d <;> cases e <;> rfl
theorem seqM_a (f : EM) (r : Rho) : seqM f r = (f r).bind fun p => (itemsOf p.1).map fun ds => (ds, p.2) := (rfl)
theorem callM_a (g : List D → Option D) (f : AM) (r : Rho) : callM g f r = (f r).bind fun p => (g p.1).map fun d => (d, p.2) := (rfl)
theorem hereM_a (i : Nat) (f : AM) (r : Rho) : hereM i f r = (ownM i r).bind fun _ => f r := (rfl)
theorem callRM_a (i : Nat) (g : List D → List D → Option (D × List D)) (f : AM) (r : Rho) : callRM i g f r = (f r).bind fun p => (gt p.2 i).bind fun s => s.lis.bind fun x => (g p.1 x.2).map fun q => (q.1, p.2.set i (some (.l x.1 q.2))) := by
  unfold callRM gt
  cases f r with
  | none => rfl
  | some p =>
    simp only [ob_some]
    cases p.2[i]? with
    | none => rfl
    | some o => cases o with
      | none => rfl
      | some s => cases s <;> rfl
theorem appM_a (i : Nat) (f : EM) (r : Rho) : appM i f r = (ownM i r).bind fun _ => (f r).bind fun p => (gt p.2 i).bind fun s => s.lis.bind fun x => guard' (szOk x.2.length) fun _ => some (.none, p.2.set i (some (.l x.1 (x.2 ++ [p.1])))) := by
  unfold appM gt
  congr 1; funext _
  congr 1; funext p
  cases p.2[i]? with
  | none => rfl
  | some o => cases o with
    | none => rfl
    | some s => cases s <;> rfl
def lisV : D → Option (List D)
  | .list x => some x
  | _ => none
theorem lisV_l (x : List D) : lisV (.list x) = some x := (rfl)
theorem extM_a (i : Nat) (f : EM) (r : Rho) : extM i f r = (ownM i r).bind fun _ => (f r).bind fun p => (gt p.2 i).bind fun s => s.lis.bind fun x => (lisV p.1).bind fun y => guard' (szOk (x.2.length + y.length)) fun _ => some (.none, p.2.set i (some (.l x.1 (x.2 ++ y)))) := by
  unfold extM gt
  congr 1; funext _
  congr 1; funext p
  cases p.2[i]? with
  | none => rfl
  | some o => cases o with
    | none => rfl
    | some s => cases s with
      | l b xs => obtain ⟨d, r1⟩ := p; cases d <;> rfl
      | _ => obtain ⟨d, r1⟩ := p; cases d <;> rfl
theorem popAtM_a (i : Nat) (f : EM) (r : Rho) : popAtM i f r = (ownM i r).bind fun _ => (f r).bind fun p => (gt p.2 i).bind fun s => s.lis.bind fun x => (intV p.1).bind fun j => guard' (decide (0 ≤ j ∧ j < 1000000)) fun _ => (x.2[j.toNat]?).map fun d => (d, p.2.set i (some (.l x.1 (x.2.eraseIdx j.toNat)))) := by
  unfold popAtM gt
  congr 1; funext _
  congr 1; funext p
  cases p.2[i]? with
  | none => rfl
  | some o => cases o with
    | none => rfl
    | some s => cases s with
      | l b xs => obtain ⟨d, r1⟩ := p; cases d <;> (try rfl); simp [guard', SV.lis, intV]
      | _ => obtain ⟨d, r1⟩ := p; cases d <;> rfl
theorem newDM_a (i : Nat) (t : Bool) (r : Rho) : newDM i t r = some (.nx (r.set i (some (.m false t [])))) := (rfl)
theorem putM_a (i : Nat) (fk fv : EM) (r : Rho) : putM i fk fv r = (fv r).bind fun p => (gt p.2 i).bind fun s => s.dic.bind fun _ => (fk p.2).bind fun q => (gt q.2 i).bind fun s => s.dic.bind fun x => (dkOf x.2.1 q.1).bind fun k => guard' (szOk x.2.2.length) fun _ => some (.nx (q.2.set i (some (.m x.1 x.2.1 (putG x.2.2 k p.1))))) := by
  unfold putM gt
  congr 1; funext p
  cases p.2[i]? with
  | none => rfl
  | some o => cases o with
    | none => rfl
    | some s => cases s with
      | m b t xs =>
        simp only [ob_some, id, SV.dic]
        congr 1; funext q
        cases q.2[i]? with
        | none => rfl
        | some o => cases o with
          | none => rfl
          | some s => cases s <;> rfl
      | _ => rfl
theorem lenDM_a (i : Nat) (r : Rho) : lenDM i r = (gt r i).bind fun s => s.dic.bind fun x => guard' x.2.1 fun _ => some (.int x.2.2.length, r) := by
  unfold lenDM gt
  cases r[i]? with
  | none => rfl
  | some o => cases o with
    | none => rfl
    | some s => cases s with
      | m b t xs => cases t <;> rfl
      | _ => rfl
theorem sortDM_a (i : Nat) (r : Rho) : sortDM i r = (gt r i).bind fun s => s.dic.bind fun x => guard' x.2.1 fun _ => guard' (sortOk (x.2.2.map fun kv => dkD kv.1)) fun _ => some (.list (sortL (x.2.2.map fun kv => dkD kv.1)), r) := by
  unfold sortDM gt
  cases r[i]? with
  | none => rfl
  | some o => cases o with
    | none => rfl
    | some s => cases s with
      | m b t xs => cases t <;> rfl
      | _ => rfl
/-! targets -/
theorem nameG_a (i : Nat) (r : Rho) (d : D) : nameG i r d = some (r.set i (some (.d d))) := (rfl)
theorem nilG_a (r : Rho) : nilG r [] = some r := (rfl)
theorem consG_a (t : GM) (u : GMs) (r : Rho) (d : D) (ds : List D) : consG t u r (d :: ds) = (t r d).bind fun r1 => u r1 ds := (rfl)
theorem tupG_a (n : Nat) (t : GMs) (r : Rho) (ds : List D) : tupG n t r (.tuple ds) = guard' (decide (ds.length = n)) fun _ => t r ds := by
  unfold tupG guard'
  simp only [decide_eq_true_eq]
/-! statements -/
def seqK (g : SM) : Out → Option Out
  | .nx r1 => g r1
  | o => some o
theorem seqS_a (f g : SM) (r : Rho) : seqS f g r = (f r).bind (seqK g) := by
  unfold seqS
  cases f r with
  | none => rfl
  | some o => cases o <;> rfl
theorem seqK_nx (g : SM) (r : Rho) : seqK g (.nx r) = g r := (rfl)
theorem seqK_rt (g : SM) (d : D) (r : Rho) : seqK g (.rt d r) = some (.rt d r) := (rfl)
theorem seqK_ct (g : SM) (r : Rho) : seqK g (.ct r) = some (.ct r) := (rfl)
theorem skipM_a (r : Rho) : skipM r = some (.nx r) := (rfl)
theorem asgM_a (i : Nat) (f : EM) (r : Rho) : asgM i f r = (f r).map fun p => .nx (p.2.set i (some (.d p.1))) := (rfl)
theorem asgG_a (g : GM) (f : EM) (r : Rho) : asgG g f r = (f r).bind fun p => (g p.2 p.1).map .nx := (rfl)
theorem newM_a (i : Nat) (f : AM) (r : Rho) : newM i f r = (f r).map fun p => .nx (p.2.set i (some (.l false p.1))) := (rfl)
theorem asgLM_a (i : Nat) (f : AM) (r : Rho) : asgLM i f r = (f r).map fun p => .nx (p.2.set i (some (.d (.list p.1)))) := (rfl)
theorem retM_a (f : EM) (r : Rho) : retM f r = (f r).map fun p => .rt p.1 p.2 := (rfl)
theorem exprM_a (f : EM) (r : Rho) : exprM f r = (f r).map fun p => .nx p.2 := (rfl)
theorem ifM_a (t : TM) (f g : SM) (r : Rho) : ifM t f g r = (t r).bind fun p => cnd p.1 (fun _ => f p.2) (fun _ => g p.2) := (rfl)
theorem forM_a (it : AM) (g : GM) (f : SM) (r : Rho) : forM it g f r = (it r).bind fun p => forL g f p.1 p.2 := (rfl)
theorem frzM_a (i : Nat) (f : SM) (r : Rho) : frzM i f r = (gt r i).bind fun s => s.lis.bind fun x => f (r.set i (some (.d (.list x.2)))) := by
  unfold frzM frzR gt
  cases r[i]? with
  | none => rfl
  | some o => cases o with
    | none => rfl
    | some s => cases s <;> rfl
def finF : Out → Option D
  | .rt d _ => some d
  | .nx _ => some .none
  | _ => none
theorem runF_a (N : List Str) (b : SM) (ds : List D) : runF N b ds = (b (startD N ds)).bind finF := by
  unfold runF
  cases b (startD N ds) with
  | none => rfl
  | some o => cases o <;> rfl
theorem finF_rt (d : D) (r : Rho) : finF (.rt d r) = some d := (rfl)
theorem finF_nx (r : Rho) : finF (.nx r) = some .none := (rfl)
def finR (j : Nat) : Out → Option (D × List D)
  | .rt d r => (gt r j).bind fun s => s.lis.bind fun x => guard' x.1 fun _ => some (d, x.2)
  | .nx r => (gt r j).bind fun s => s.lis.bind fun x => guard' x.1 fun _ => some (.none, x.2)
  | _ => none
theorem endR_a (j : Nat) (r : Rho) (d : D) : (endR j r).map (fun ys => (d, ys)) = (gt r j).bind fun s => s.lis.bind fun x => guard' x.1 fun _ => some (d, x.2) := by
  unfold endR gt
  cases r[j]? with
  | none => rfl
  | some o => cases o with
    | none => rfl
    | some s => cases s with
      | l b xs => cases b <;> rfl
      | _ => rfl
theorem runR_a (N : List Str) (j : Nat) (b : SM) (ds xs : List D) : runR N j b ds xs = (b (startR N j ds xs)).bind (finR j) := by
  unfold runR
  cases b (startR N j ds xs) with
  | none => rfl
  | some o => cases o <;> first | rfl | exact endR_a _ _ _
theorem finR_rt (j : Nat) (d : D) (r : Rho) : finR j (.rt d r) = (gt r j).bind fun s => s.lis.bind fun x => guard' x.1 fun _ => some (d, x.2) := (rfl)
theorem finR_nx (j : Nat) (r : Rho) : finR j (.nx r) = (gt r j).bind fun s => s.lis.bind fun x => guard' x.1 fun _ => some (.none, x.2) := (rfl)
/-! data -/
theorem szOk_of {n : Nat} (h : n ≤ 1000000) : szOk n = true := decide_eq_true h
theorem sz_0 : szOk 0 = true := by decide
theorem sz_1 : szOk 1 = true := by decide
theorem sz_2 : szOk 2 = true := by decide
theorem sz_3 : szOk 3 = true := by decide
theorem sz_4 : szOk 4 = true := by decide
theorem sz_5 : szOk 5 = true := by decide
theorem sz_6 : szOk 6 = true := by decide
theorem sz_7 : szOk 7 = true := by decide
theorem sz_8 : szOk 8 = true := by decide
theorem sz_9 : szOk 9 = true := by decide
theorem sz_10 : szOk 10 = true := by decide
theorem sz_11 : szOk 11 = true := by decide
theorem sz_12 : szOk 12 = true := by decide
theorem sz_13 : szOk 13 = true := by decide
theorem sz_14 : szOk 14 = true := by decide
theorem sz_15 : szOk 15 = true := by decide
theorem sz_16 : szOk 16 = true := by decide
theorem sz_17 : szOk 17 = true := by decide
theorem sz_18 : szOk 18 = true := by decide
theorem sz_19 : szOk 19 = true := by decide
theorem sz_20 : szOk 20 = true := by decide
theorem sz_21 : szOk 21 = true := by decide
theorem sz_22 : szOk 22 = true := by decide
theorem sz_23 : szOk 23 = true := by decide
theorem sz_24 : szOk 24 = true := by decide
theorem sz_25 : szOk 25 = true := by decide
theorem sz_26 : szOk 26 = true := by decide
theorem sz_27 : szOk 27 = true := by decide
theorem sz_28 : szOk 28 = true := by decide
theorem sz_29 : szOk 29 = true := by decide
theorem sz_30 : szOk 30 = true := by decide
theorem nc_0 : ((0 : Nat) : Int) = 0 := (rfl)
theorem nc_1 : ((1 : Nat) : Int) = 1 := (rfl)
theorem nc_2 : ((2 : Nat) : Int) = 2 := (rfl)
theorem nc_3 : ((3 : Nat) : Int) = 3 := (rfl)
theorem nc_4 : ((4 : Nat) : Int) = 4 := (rfl)
theorem nc_5 : ((5 : Nat) : Int) = 5 := (rfl)
theorem nc_6 : ((6 : Nat) : Int) = 6 := (rfl)
theorem nc_7 : ((7 : Nat) : Int) = 7 := (rfl)
theorem nc_8 : ((8 : Nat) : Int) = 8 := (rfl)
theorem nc_9 : ((9 : Nat) : Int) = 9 := (rfl)
theorem nc_10 : ((10 : Nat) : Int) = 10 := (rfl)
theorem nc_11 : ((11 : Nat) : Int) = 11 := (rfl)
theorem nc_12 : ((12 : Nat) : Int) = 12 := (rfl)
theorem nc_13 : ((13 : Nat) : Int) = 13 := (rfl)
theorem nc_14 : ((14 : Nat) : Int) = 14 := (rfl)
theorem nc_15 : ((15 : Nat) : Int) = 15 := (rfl)
theorem nc_16 : ((16 : Nat) : Int) = 16 := (rfl)
theorem nc_17 : ((17 : Nat) : Int) = 17 := (rfl)
theorem nc_18 : ((18 : Nat) : Int) = 18 := (rfl)
theorem nc_19 : ((19 : Nat) : Int) = 19 := (rfl)
theorem nc_20 : ((20 : Nat) : Int) = 20 := (rfl)
theorem nc_21 : ((21 : Nat) : Int) = 21 := (rfl)
theorem nc_22 : ((22 : Nat) : Int) = 22 := (rfl)
theorem nc_23 : ((23 : Nat) : Int) = 23 := (rfl)
theorem nc_24 : ((24 : Nat) : Int) = 24 := (rfl)
theorem nc_25 : ((25 : Nat) : Int) = 25 := (rfl)
theorem nc_26 : ((26 : Nat) : Int) = 26 := (rfl)
theorem nc_27 : ((27 : Nat) : Int) = 27 := (rfl)
theorem nc_28 : ((28 : Nat) : Int) = 28 := (rfl)
theorem nc_29 : ((29 : Nat) : Int) = 29 := (rfl)
theorem nc_30 : ((30 : Nat) : Int) = 30 := (rfl)
theorem addD_i (i j : Int) : addD (.int i) (.int j) = some (.int (i + j)) := (rfl)
theorem addD_t (xs ys : List D) : addD (.tuple xs) (.tuple ys) = guard' (szOk (xs.length + ys.length)) fun _ => some (.tuple (xs ++ ys)) := (rfl)
theorem addD_l (xs ys : List D) : addD (.list xs) (.list ys) = guard' (szOk (xs.length + ys.length)) fun _ => some (.list (xs ++ ys)) := (rfl)
theorem subD_i (i j : Int) : subD (.int i) (.int j) = some (.int (i - j)) := (rfl)
theorem modD_i (i j : Int) : modD (.int i) (.int j) = guard' (decide (0 < j)) fun _ => some (.int (i % j)) := by simp [modD, guard']
theorem fdivD_i (i j : Int) : fdivD (.int i) (.int j) = guard' (decide (0 < j ∧ j < 1073741824)) fun _ => some (.int (i / j)) := by simp [fdivD, guard']
def mulOk (i j : Int) : Bool := decide ((-(2 ^ 64) < i ∧ i < 2 ^ 64) ∨ (-(2 ^ 64) < j ∧ j < 2 ^ 64))
theorem mulD_i (i j : Int) : mulD (.int i) (.int j) = guard' (mulOk i j) fun _ => some (.int (i * j)) := by simp [mulD, guard', mulOk]
theorem lenD_t (x : List D) : lenD (.tuple x) = some (.int x.length) := (rfl)
theorem lenD_l (x : List D) : lenD (.list x) = some (.int x.length) := (rfl)
theorem tupleD_t (x : List D) : tupleD (.tuple x) = some (.tuple x) := (rfl)
theorem tupleD_l (x : List D) : tupleD (.list x) = some (.tuple x) := (rfl)
theorem listD_t (x : List D) : listD (.tuple x) = some (.list x) := (rfl)
theorem listD_l (x : List D) : listD (.list x) = some (.list x) := (rfl)
theorem truD_i (i : Int) : truD (.int i) = some (i != 0) := (rfl)
theorem truD_b (b : Bool) : truD (.bool b) = some b := (rfl)
theorem truD_n : truD .none = some false := (rfl)
theorem truD_l (x : List D) : truD (.list x) = some (!x.isEmpty) := (rfl)
theorem truD_t (x : List D) : truD (.tuple x) = some (!x.isEmpty) := (rfl)
theorem ixD_t (x : List D) (i : Int) : ixD (.tuple x) (.int i) = atI x i := (rfl)
theorem ixD_l (x : List D) (i : Int) : ixD (.list x) (.int i) = atI x i := (rfl)
theorem negD_i (i : Int) : negD (.int i) = some (.int (-i)) := (rfl)
theorem bD_a (h : D → D → Option Bool) (d e : D) : bD h d e = (h d e).map .bool := (rfl)
theorem ltB_i (i j : Int) : ltB (.int i) (.int j) = some (decide (i < j)) := (rfl)
theorem leB_i (i j : Int) : leB (.int i) (.int j) = some (decide (i ≤ j)) := (rfl)
theorem geB_i (i j : Int) : geB (.int i) (.int j) = some (decide (j ≤ i)) := (rfl)
theorem eqB_i (i j : Int) : eqB (.int i) (.int j) = some (i == j) := (rfl)
theorem neB_i (i j : Int) : neB (.int i) (.int j) = some (!(i == j)) := (rfl)
theorem min2D_i (i j : Int) : min2D (.int i) (.int j) = some (.int (min i j)) := by
  unfold min2D; simp only [Option.some.injEq, PyData.int.injEq]; split <;> omega
theorem max2D_i (i j : Int) : max2D (.int i) (.int j) = some (.int (max i j)) := by
  unfold max2D; simp only [Option.some.injEq, PyData.int.injEq]; split <;> omega
theorem items_t (x : List D) : itemsOf (.tuple x) = some x := (rfl)
theorem items_l (x : List D) : itemsOf (.list x) = some x := (rfl)
theorem isNN : isB .none .none = some true := (rfl)
theorem slD_t (x : List D) (l u : Option Int) : slD (.tuple x) l u = some (.tuple (cutD x l u)) := (rfl)
theorem slD_l (x : List D) (l u : Option Int) : slD (.list x) l u = some (.list (cutD x l u)) := (rfl)
theorem rng_ok {i : Int} (h1 : -1000000 ≤ i) (h2 : i ≤ 1000000) : rngOk i = true := by unfold rngOk; simp [h1, h2]
theorem sortD2_l (xs : List D) : sortD2 (.list xs) = guard' (sortOk xs) fun _ => some (.list (sortL xs)) := (rfl)
theorem sortD2_t (xs : List D) : sortD2 (.tuple xs) = guard' (sortOk xs) fun _ => some (.list (sortL xs)) := (rfl)
/-! plain steps -/
theorem p_ge0 {α : Type} (a : α) (l : List α) : (a :: l)[0]? = some a := (rfl)
theorem p_geS {α : Type} (a : α) (l : List α) (i : Nat) : (a :: l)[i + 1]? = l[i]? := (rfl)
theorem p_tk0 {α : Type} (l : List α) : l.take 0 = [] := by cases l <;> rfl
theorem p_tkS {α : Type} (a : α) (l : List α) (i : Nat) : (a :: l).take (i + 1) = a :: l.take i := (rfl)
theorem p_tkN {α : Type} (i : Nat) : ([] : List α).take i = [] := by cases i <;> rfl
theorem p_dr0 {α : Type} (l : List α) : l.drop 0 = l := by cases l <;> rfl
theorem p_drS {α : Type} (a : α) (l : List α) (i : Nat) : (a :: l).drop (i + 1) = l.drop i := (rfl)
theorem p_drN {α : Type} (i : Nat) : ([] : List α).drop i = [] := by cases i <;> rfl
theorem p_mpC {α β : Type} (f : α → β) (a : α) (l : List α) : (a :: l).map f = f a :: l.map f := (rfl)
theorem p_mpN {α β : Type} (f : α → β) : ([] : List α).map f = [] := (rfl)
theorem p_apC {α : Type} (a : α) (l m : List α) : a :: l ++ m = a :: (l ++ m) := (rfl)
theorem p_apN {α : Type} (l : List α) : [] ++ l = l := (rfl)
theorem p_lnC {α : Type} (a : α) (l : List α) : (a :: l).length = l.length + 1 := (rfl)
theorem p_lnN {α : Type} : ([] : List α).length = 0 := (rfl)
theorem p_rpS {α : Type} (n : Nat) (a : α) : List.replicate (n + 1) a = a :: List.replicate n a := (rfl)
theorem p_rp0 {α : Type} (a : α) : List.replicate 0 a = [] := (rfl)
theorem p_alC {α : Type} (p : α → Bool) (a : α) (l : List α) : (a :: l).all p = (p a && l.all p) := (rfl)
theorem p_alN {α : Type} (p : α → Bool) : ([] : List α).all p = true := (rfl)
theorem p_gdS {α : Type} (a b : α) : (some a).getD b = a := (rfl)
theorem p_gdN {α : Type} (b : α) : (none : Option α).getD b = b := (rfl)
theorem p_tlS {α : Type} (a : α) : (some a).toList = [a] := (rfl)
theorem p_tlN {α : Type} : (none : Option α).toList = [] := (rfl)
theorem p_ieC {α : Type} (a : α) (l : List α) : (a :: l).isEmpty = false := (rfl)
theorem p_ieN {α : Type} : ([] : List α).isEmpty = true := (rfl)
theorem p_nt : (!true) = false := (rfl)
theorem p_nf : (!false) = true := (rfl)
theorem p_atb (b : Bool) : (true && b) = b := (rfl)
theorem p_afb (b : Bool) : (false && b) = false := (rfl)
theorem p_abt (b : Bool) : (b && true) = b := by cases b <;> rfl
theorem p_abf (b : Bool) : (b && false) = false := by cases b <;> rfl
theorem p_eqS {α : Sort _} (a : α) : (a = a) = True := eq_true rfl
theorem p_dT {h : Decidable True} : @decide True h = true := by simp
theorem p_dF {h : Decidable False} : @decide False h = false := by simp
theorem p_TA (p : Prop) : (True ∧ p) = p := by simp
theorem p_AT (p : Prop) : (p ∧ True) = p := by simp
theorem p_TO (p : Prop) : (True ∨ p) = True := by simp
theorem p_OT (p : Prop) : (p ∨ True) = True := by simp
theorem p_startD (N : List Str) (ds : List D) : startD N ds = ds.map (fun d => some (.d d)) ++ List.replicate (N.length - ds.length) none := (rfl)
theorem p_startR (N : List Str) (j : Nat) (ds : List D) (xs : List D) : startR N j ds xs = (ds.take j).map (fun d => some (.d d)) ++ some (.l true xs) :: ((ds.drop j).map (fun d => some (.d d)) ++ List.replicate (N.length - (ds.length + 1)) none) := (rfl)
end DL
local macro_rules | `(tactic| simp_arith [$xs,*]) => `(tactic| simp only [DL.ob_some, DL.om_some, DL.dat_d, DL.lis_l, DL.dic_m, DL.gt_0, DL.gt_1, DL.gt_2, DL.gt_3, DL.gt_4, DL.gt_5, DL.gt_6, DL.gt_7, DL.gt_b, DL.st_0, DL.st_s, DL.plG_d, DL.plG_n, DL.plainAt_a, DL.varM_a, DL.ownM_a, DL.cM_a, DL.ofL_a, DL.opM_a, DL.unM_a, DL.truM_a, DL.tstM_a, DL.notM_a, DL.cnd_t, DL.cnd_f, DL.andM_a, DL.orM_a, DL.andVM_a, DL.orVM_a, DL.notVM_a, DL.chM_a, DL.nilM_a, DL.consM_a, DL.guard_tt, DL.tupM_a, DL.lstM_a, DL.noM_a, DL.intV_i, DL.someM_a, DL.slM_a, DL.rng1M_a, DL.rng2M_a, DL.zipV_t, DL.zipV_l, DL.zipM_a, DL.seqM_a, DL.callM_a, DL.hereM_a, DL.callRM_a, DL.appM_a, DL.lisV_l, DL.extM_a, DL.popAtM_a, DL.newDM_a, DL.putM_a, DL.lenDM_a, DL.sortDM_a, DL.nameG_a, DL.nilG_a, DL.consG_a, DL.tupG_a, DL.seqS_a, DL.seqK_nx, DL.seqK_rt, DL.seqK_ct, DL.skipM_a, DL.asgM_a, DL.asgG_a, DL.newM_a, DL.asgLM_a, DL.retM_a, DL.exprM_a, DL.ifM_a, DL.forM_a, DL.frzM_a, DL.runF_a, DL.finF_rt, DL.finF_nx, DL.runR_a, DL.finR_rt, DL.finR_nx, DL.sz_0, DL.sz_1, DL.sz_2, DL.sz_3, DL.sz_4, DL.sz_5, DL.sz_6, DL.sz_7, DL.sz_8, DL.sz_9, DL.sz_10, DL.sz_11, DL.sz_12, DL.sz_13, DL.sz_14, DL.sz_15, DL.sz_16, DL.sz_17, DL.sz_18, DL.sz_19, DL.sz_20, DL.sz_21, DL.sz_22, DL.sz_23, DL.sz_24, DL.sz_25, DL.sz_26, DL.sz_27, DL.sz_28, DL.sz_29, DL.sz_30, DL.nc_0, DL.nc_1, DL.nc_2, DL.nc_3, DL.nc_4, DL.nc_5, DL.nc_6, DL.nc_7, DL.nc_8, DL.nc_9, DL.nc_10, DL.nc_11, DL.nc_12, DL.nc_13, DL.nc_14, DL.nc_15, DL.nc_16, DL.nc_17, DL.nc_18, DL.nc_19, DL.nc_20, DL.nc_21, DL.nc_22, DL.nc_23, DL.nc_24, DL.nc_25, DL.nc_26, DL.nc_27, DL.nc_28, DL.nc_29, DL.nc_30, DL.addD_i, DL.addD_t, DL.addD_l, DL.subD_i, DL.modD_i, DL.fdivD_i, DL.mulD_i, DL.lenD_t, DL.lenD_l, DL.tupleD_t, DL.tupleD_l, DL.listD_t, DL.listD_l, DL.truD_i, DL.truD_b, DL.truD_n, DL.truD_l, DL.truD_t, DL.ixD_t, DL.ixD_l, DL.negD_i, DL.bD_a, DL.ltB_i, DL.leB_i, DL.geB_i, DL.eqB_i, DL.neB_i, DL.min2D_i, DL.max2D_i, DL.items_t, DL.items_l, DL.isNN, DL.slD_t, DL.slD_l, DL.sortD2_l, DL.sortD2_t, DL.p_ge0, DL.p_geS, DL.p_tk0, DL.p_tkS, DL.p_tkN, DL.p_dr0, DL.p_drS, DL.p_drN, DL.p_mpC, DL.p_mpN, DL.p_apC, DL.p_apN, DL.p_lnC, DL.p_lnN, DL.p_rpS, DL.p_rp0, DL.p_alC, DL.p_alN, DL.p_gdS, DL.p_gdN, DL.p_tlS, DL.p_tlN, DL.p_ieC, DL.p_ieN, DL.p_nt, DL.p_nf, DL.p_atb, DL.p_afb, DL.p_abt, DL.p_abf, DL.p_eqS, DL.p_dT, DL.p_dF, DL.p_TA, DL.p_AT, DL.p_TO, DL.p_OT, DL.p_startD, DL.p_startR, Nat.reduceAdd, Nat.reduceSub, Nat.reduceMul, Int.reduceLT, Int.reduceLE, Int.reducePow, Int.reduceNeg, Int.reduceAdd, Int.reduceSub, Int.reduceMul, Int.reduceBEq, Int.reduceBNe, Int.reduceToNat, $xs,*])
namespace DL
open PySem L2
theorem atI_lt {α : Type} {xs : List α} {i : Int} (h0 : 0 ≤ i) (h1 : i < xs.length) : ∃ x, atI xs i = some x ∧ xs[i.toNat]? = some x := by
  have hl : i.toNat < xs.length := by omega
  refine ⟨xs[i.toNat], ?_, by simp [hl]⟩
  unfold atI ixN
  rw [if_pos h0, if_pos h1]
  simp [hl]
theorem atI_mem {α : Type} {xs : List α} {i : Int} (h0 : 0 ≤ i) (h1 : i < xs.length) : ∃ x ∈ xs, atI xs i = some x := by
  obtain ⟨x, h, g⟩ := atI_lt h0 h1
  exact ⟨x, List.mem_of_getElem? g, h⟩
theorem atI_map {α β : Type} (f : α → β) (xs : List α) (i : Int) : atI (xs.map f) i = (atI xs i).map f := by
  unfold atI
  rw [List.length_map]
  cases ixN xs.length i <;> simp
theorem mulOk_of {i j : Int} (h1 : -18446744073709551616 < i) (h2 : i < 18446744073709551616) : mulOk i j = true := by
  unfold mulOk
  have e : (2 : Int) ^ 64 = 18446744073709551616 := by decide
  rw [e]
  exact decide_eq_true (.inl ⟨h1, h2⟩)
theorem mulOk_a (j : Int) : mulOk 104729 j = true := mulOk_of (by decide) (by decide)
theorem mulOk_b (x j : Int) : mulOk (x % 4294967291) j = true := mulOk_of (by have := Int.emod_nonneg x (b := 4294967291) (by decide); omega) (by have := Int.emod_lt_of_pos x (b := 4294967291) (by decide); omega)
theorem mulOk_c (x j : Int) : mulOk (x % 4294967279) j = true := mulOk_of (by have := Int.emod_nonneg x (b := 4294967279) (by decide); omega) (by have := Int.emod_lt_of_pos x (b := 4294967279) (by decide); omega)
end DL
namespace GT
/-! plain lists -/
section
variable {α β : Type}
/-- two rows that rise, with the same things, are one -/
theorem sorted_ext (lt : α → α → Prop) (irr : ∀ a, ¬ lt a a) (tr : ∀ a b c, lt a b → lt b c → lt a c) :
    ∀ (xs ys : List α), xs.Pairwise lt → ys.Pairwise lt → (∀ a, a ∈ xs ↔ a ∈ ys) → xs = ys
  | [], [], _, _, _ => rfl
  | [], y :: ys, _, _, h => by have := (h y).mpr (by simp); simp at this
  | x :: xs, [], _, _, h => by have := (h x).mp (by simp); simp at this
  | x :: xs, y :: ys, hx, hy, h => by
    rw [List.pairwise_cons] at hx hy
    have exy : x = y := by
      have h1 := (h x).mp (by simp)
      have h2 := (h y).mpr (by simp)
      rcases List.mem_cons.mp h1 with e | m1
      · exact e
      · rcases List.mem_cons.mp h2 with e | m2
        · exact e.symm
        · exact absurd (tr _ _ _ (hx.1 y m2) (hy.1 x m1)) (irr x)
    subst exy
    congr 1
    refine sorted_ext lt irr tr xs ys hx.2 hy.2 fun a => ⟨fun m => ?_, fun m => ?_⟩
    · rcases List.mem_cons.mp ((h a).mp (List.mem_cons_of_mem _ m)) with e | q
      · subst e; exact absurd (hx.1 a m) (irr a)
      · exact q
    · rcases List.mem_cons.mp ((h a).mpr (List.mem_cons_of_mem _ m)) with e | q
      · subst e; exact absurd (hy.1 a m) (irr a)
      · exact q
theorem sorted_extI (xs ys : List Int) (h1 : xs.Pairwise (· < ·)) (h2 : ys.Pairwise (· < ·)) (h : ∀ a, a ∈ xs ↔ a ∈ ys) : xs = ys :=
  sorted_ext (· < ·) (fun a => Int.lt_irrefl a) (fun a b c => Int.lt_trans) xs ys h1 h2 h
theorem nodup_len_le [DecidableEq α] : ∀ (xs ys : List α), xs.Nodup → (∀ a ∈ xs, a ∈ ys) → xs.length ≤ ys.length
  | [], ys, _, _ => by simp
  | x :: xs, ys, hn, h => by
    rw [List.nodup_cons] at hn
    have h1 := nodup_len_le xs (ys.erase x) hn.2 fun a m => by
      have ne : a ≠ x := fun e => hn.1 (e ▸ m)
      exact (List.mem_erase_of_ne ne).mpr (h a (List.mem_cons_of_mem _ m))
    have h2 := List.length_erase_of_mem (h x (by simp))
    have h3 : 0 < ys.length := List.length_pos_of_mem (h x (by simp))
    simp only [List.length_cons]; omega
theorem nodup_of_lt {lt : α → α → Prop} (irr : ∀ a, ¬ lt a a) {xs : List α} (h : xs.Pairwise lt) : xs.Nodup :=
  List.Pairwise.imp (fun {a b} q (e : a = b) => irr a (by subst e; exact q)) h
end
/-- 0, 1, .., n - 1 -/
def ir (n : Nat) : List Int := (List.range n).map fun (i : Nat) => (i : Int)
theorem mem_ir {n : Nat} {a : Int} : a ∈ ir n ↔ 0 ≤ a ∧ a < n := by
  unfold ir
  simp only [List.mem_map, List.mem_range]
  constructor
  · rintro ⟨i, h, rfl⟩; omega
  · rintro ⟨h1, h2⟩; exact ⟨a.toNat, by omega, by omega⟩
theorem ir_len (n : Nat) : (ir n).length = n := by simp [ir]
theorem ir_sorted (n : Nat) : (ir n).Pairwise (· < ·) := by
  unfold ir
  rw [List.pairwise_map]
  exact List.pairwise_lt_range.imp fun h => by omega
theorem ir_nodup (n : Nat) : (ir n).Nodup := nodup_of_lt (fun a => Int.lt_irrefl a) (ir_sorted n)
/-- sorted ints -/
def sortI (xs : List Int) : List Int := xs.mergeSort fun a b => decide (a ≤ b)
theorem sortI_perm (xs : List Int) : (sortI xs).Perm xs := List.mergeSort_perm xs _
theorem mem_sortI {xs : List Int} {a : Int} : a ∈ sortI xs ↔ a ∈ xs := (sortI_perm xs).mem_iff
theorem sortI_le (xs : List Int) : (sortI xs).Pairwise (· ≤ ·) := by
  have h := List.pairwise_mergeSort (le := fun a b : Int => decide (a ≤ b)) (fun a b c h1 h2 => by simp at *; omega) (fun a b => by simp; omega) xs
  exact h.imp fun q => by simpa using q
theorem sortI_lt {xs : List Int} (h : xs.Nodup) : (sortI xs).Pairwise (· < ·) := by
  have h2 : (sortI xs).Nodup := (sortI_perm xs).nodup_iff.mpr h
  have h1 := sortI_le xs
  exact (List.pairwise_and_iff.mpr ⟨h1, h2⟩).imp fun ⟨a, b⟩ => by omega
/-! nets -/
abbrev Tie := Int × Int
structure Net where
  n : Nat
  ties : List Tie
  rim : List Int
def tlt (a b : Tie) : Prop := a.1 < b.1 ∨ (a.1 = b.1 ∧ a.2 < b.2)
instance : DecidableRel tlt := fun a b => by unfold tlt; exact inferInstance
theorem tlt_tr (a b c : Tie) (h1 : tlt a b) (h2 : tlt b c) : tlt a c := by unfold tlt at *; omega
structure Net.WF (N : Net) : Prop where
  pos : 1 ≤ N.n
  small : N.n ≤ 7
  tie : ∀ t ∈ N.ties, 0 ≤ t.1 ∧ t.1 < t.2 ∧ t.2 < N.n
  up : N.ties.Pairwise tlt
  rimIn : ∀ k ∈ N.rim, 0 ≤ k ∧ k < N.n
  rimUp : N.rim.Pairwise (· < ·)
def pr (a b : Int) : Tie := (min a b, max a b)
theorem pr_comm (a b : Int) : pr a b = pr b a := by unfold pr; rw [Int.min_comm, Int.max_comm]
def adj (N : Net) (a b : Int) : Bool := decide (pr a b ∈ N.ties)
theorem adj_comm (N : Net) (a b : Int) : adj N a b = adj N b a := by unfold adj; rw [pr_comm]
theorem adj_in {N : Net} (w : N.WF) {a b : Int} (h : adj N a b = true) : (0 ≤ a ∧ a < N.n) ∧ (0 ≤ b ∧ b < N.n) ∧ a ≠ b := by
  unfold adj at h
  have := w.tie _ (of_decide_eq_true h)
  unfold pr at this
  simp only at this
  omega
def nb (N : Net) (k : Int) : List Int := (ir N.n).filter fun o => adj N k o
theorem mem_nb {N : Net} {w : N.WF} {a b : Int} : b ∈ nb N a ↔ adj N a b = true := by
  unfold nb
  rw [List.mem_filter, mem_ir]
  exact ⟨fun h => h.2, fun h => ⟨(adj_in w h).2.1, h⟩⟩
theorem nb_sorted (N : Net) (k : Int) : (nb N k).Pairwise (· < ·) := (ir_sorted _).filter _
/-- ties by their numbers left out -/
def keepF (B : List Int) (ts : List Tie) (i : Nat) : List Tie := ((ts.zipIdx i).filter fun p => !(B.contains (p.2 : Int))).map (·.1)
def without (N : Net) (B : List Int) : Net := { N with ties := keepF B N.ties 0 }
/-! reaching -/
inductive Reach (N : Net) (a : Int) : Int → Prop
  | refl : Reach N a a
  | step {b c : Int} : Reach N a b → adj N b c = true → Reach N a c
theorem Reach.trans {N : Net} {a b c : Int} (h1 : Reach N a b) (h2 : Reach N b c) : Reach N a c := by
  induction h2 with
  | refl => exact h1
  | step _ e ih => exact ih.step e
theorem Reach.head {N : Net} {a b c : Int} (h1 : adj N a b = true) (h2 : Reach N b c) : Reach N a c := (Reach.refl.step h1).trans h2
theorem Reach.symm {N : Net} {a b : Int} (h : Reach N a b) : Reach N b a := by
  induction h with
  | refl => exact .refl
  | step _ e ih => exact Reach.head (by rw [adj_comm]; exact e) ih
theorem Reach.mono {N M : Net} (hs : ∀ a b, adj N a b = true → adj M a b = true) {a b : Int} (h : Reach N a b) : Reach M a b := by
  induction h with
  | refl => exact .refl
  | step _ e ih => exact ih.step (hs _ _ e)
open Classical in
noncomputable def reached (N : Net) (k : Int) : List Int := (ir N.n).filter fun x => decide (Reach N k x)
end GT
namespace GT
/-! rows of ints in order -/
def llt : List Int → List Int → Bool
  | [], [] => false
  | [], _ :: _ => true
  | _ :: _, [] => false
  | x :: xs, y :: ys => if x = y then llt xs ys else decide (x < y)
theorem llt_irr : ∀ a : List Int, ¬ llt a a = true
  | [] => by simp [llt]
  | x :: xs => by simpa [llt] using llt_irr xs
theorem llt_tr : ∀ a b c : List Int, llt a b = true → llt b c = true → llt a c = true
  | [], [], _, h, _ => by simp [llt] at h
  | [], _ :: _, [], _, h => by simp [llt] at h
  | [], _ :: _, _ :: _, _, _ => by simp [llt]
  | _ :: _, [], _, h, _ => by simp [llt] at h
  | _ :: _, _ :: _, [], _, h => by simp [llt] at h
  | x :: xs, y :: ys, z :: zs, h1, h2 => by
    simp only [llt] at *
    by_cases e1 : x = y
    · subst e1
      rw [if_pos rfl] at h1
      by_cases e2 : x = z
      · subst e2; rw [if_pos rfl] at h2 ⊢; exact llt_tr xs ys zs h1 h2
      · rw [if_neg e2] at h2 ⊢; exact h2
    · rw [if_neg e1] at h1
      by_cases e2 : y = z
      · subst e2; rw [if_neg e1]; exact h1
      · rw [if_neg e2] at h2
        simp only [decide_eq_true_eq] at h1 h2
        rw [if_neg (by omega)]
        simp only [decide_eq_true_eq]; omega
theorem llt_total : ∀ a b : List Int, a = b ∨ llt a b = true ∨ llt b a = true
  | [], [] => .inl rfl
  | [], _ :: _ => .inr (.inl rfl)
  | _ :: _, [] => .inr (.inr rfl)
  | x :: xs, y :: ys => by
    simp only [llt]
    by_cases e : x = y
    · subst e
      rw [if_pos rfl, if_pos rfl]
      rcases llt_total xs ys with h | h | h
      · exact .inl (by rw [h])
      · exact .inr (.inl h)
      · exact .inr (.inr h)
    · rw [if_neg e, if_neg (fun h => e h.symm)]
      simp only [decide_eq_true_eq]; omega
def lle (a b : List Int) : Bool := !llt b a
theorem lle_tr (a b c : List Int) (h1 : lle a b = true) (h2 : lle b c = true) : lle a c = true := by
  unfold lle at *
  simp only [Bool.not_eq_true'] at *
  rcases llt_total a b with e | h | h
  · subst e; exact h2
  · rcases llt_total b c with e | g | g
    · subst e; exact h1
    · have := llt_tr _ _ _ h g
      cases q : llt c a with
      | false => rfl
      | true => exact absurd (llt_tr _ _ _ this q) (llt_irr _)
    · rw [g] at h2; cases h2
  · rw [h] at h1; cases h1
theorem lle_total (a b : List Int) : (lle a b || lle b a) = true := by
  unfold lle
  rcases llt_total a b with e | h | h
  · subst e; simp [llt_irr a]
  · have : llt b a = false := by
      cases q : llt b a with
      | false => rfl
      | true => exact absurd (llt_tr _ _ _ h q) (llt_irr _)
    simp [this]
  · have : llt a b = false := by
      cases q : llt a b with
      | false => rfl
      | true => exact absurd (llt_tr _ _ _ h q) (llt_irr _)
    simp [this]
def sortR (xs : List (List Int)) : List (List Int) := xs.mergeSort lle
theorem sortR_perm (xs : List (List Int)) : (sortR xs).Perm xs := List.mergeSort_perm xs _
theorem mem_sortR {xs : List (List Int)} {a : List Int} : a ∈ sortR xs ↔ a ∈ xs := (sortR_perm xs).mem_iff
theorem llt_of_lle {a b : List Int} (h : lle a b = true) (n : a ≠ b) : llt a b = true := by
  unfold lle at h
  rcases llt_total a b with e | g | g
  · exact absurd e n
  · exact g
  · rw [g] at h; cases h
theorem sortR_len (xs : List (List Int)) : (sortR xs).length = xs.length := (sortR_perm xs).length_eq
/-! routes -/
def linked (N : Net) : List Int → Bool
  | a :: b :: r => adj N a b && linked N (b :: r)
  | _ => true
theorem linked_cons {N : Net} {a b : Int} {r : List Int} : linked N (a :: b :: r) = true ↔ adj N a b = true ∧ linked N (b :: r) = true := by
  simp [linked]
theorem linked_snoc {N : Net} {b : Int} : ∀ {r : List Int} {a : Int}, r.getLast? = some a → (linked N (r ++ [b]) = true ↔ linked N r = true ∧ adj N a b = true)
  | [], a, h => by simp at h
  | [c], a, h => by simp at h; subst h; simp [linked]
  | c :: d :: r, a, h => by
    have h' : (d :: r).getLast? = some a := by simpa [List.getLast?_cons_cons] using h
    have ih := linked_snoc (N := N) (b := b) h'
    simp only [List.cons_append] at ih ⊢
    rw [linked_cons, linked_cons, ih]
    exact and_assoc.symm
theorem linked_of_snoc {N : Net} {b : Int} : ∀ {r : List Int}, linked N (r ++ [b]) = true → linked N r = true
  | [], _ => rfl
  | [c], _ => rfl
  | c :: d :: r, h => by
    simp only [List.cons_append] at h
    rw [linked_cons] at h ⊢
    exact ⟨h.1, linked_of_snoc (r := d :: r) h.2⟩
theorem linked_in {N : Net} (w : N.WF) : ∀ {r : List Int}, 2 ≤ r.length → linked N r = true → ∀ x ∈ r, 0 ≤ x ∧ x < N.n
  | [], h, _, _, _ => by simp at h
  | [_], h, _, _, _ => by simp at h
  | [a, b], _, h, x, m => by
    rw [linked_cons] at h
    have := adj_in w h.1
    rcases List.mem_cons.mp m with rfl | m
    · exact this.1
    · rcases List.mem_cons.mp m with rfl | m
      · exact this.2.1
      · cases m
  | a :: b :: c :: r, _, h, x, m => by
    rw [linked_cons] at h
    rcases List.mem_cons.mp m with rfl | m
    · exact (adj_in w h.1).1
    · exact linked_in w (by simp) h.2 x m
structure IsRoute (N : Net) (r : List Int) : Prop where
  two : 2 ≤ r.length
  nd : r.Nodup
  lk : linked N r = true
  ends : ∃ a b, r.head? = some a ∧ r.getLast? = some b ∧ a ∈ N.rim ∧ b ∈ N.rim ∧ a < b
/-- the ways from a way on -/
def isEnd (N : Net) (way : List Int) : Bool := match way.head?, way.getLast? with
  | some a, some b => decide (1 < way.length) && decide (b ∈ N.rim) && decide (a < b)
  | _, _ => false
def ledOn (N : Net) : Nat → List Int → List (List Int)
  | 0, _ => []
  | f + 1, way => (if isEnd N way then [way] else []) ++ (((nb N (way.getLast?.getD 0)).filter fun k => decide (k ∉ way)).flatMap fun k => ledOn N f (way ++ [k]))
theorem ledOn_pre {N : Net} : ∀ (f : Nat) (way r : List Int), r ∈ ledOn N f way → way <+: r
  | 0, _, _, h => by simp [ledOn] at h
  | f + 1, way, r, h => by
    simp only [ledOn, List.mem_append, List.mem_flatMap] at h
    rcases h with h | ⟨k, _, h⟩
    · split at h
      · simp at h; subst h; exact List.prefix_refl _
      · simp at h
    · exact (List.prefix_append way [k]).trans (ledOn_pre f _ _ h)
theorem mem_ledOn {N : Net} (w : N.WF) : ∀ (f : Nat) (way r : List Int), way ≠ [] → way.Nodup → linked N way = true → (∀ x ∈ way, 0 ≤ x ∧ x < N.n) → N.n < f + way.length →
    (r ∈ ledOn N f way ↔ way <+: r ∧ r.Nodup ∧ linked N r = true ∧ isEnd N r = true)
  | 0, way, r, h0, hn, hl, hi, hf => by
    have := nodup_len_le way (ir N.n) hn fun a m => mem_ir.mpr (hi a m)
    rw [ir_len] at this
    omega
  | f + 1, way, r, h0, hn, hl, hi, hf => by
    obtain ⟨b, hb⟩ : ∃ b, way.getLast? = some b := by
      cases e : way.getLast? with
      | none => exact absurd (List.getLast?_eq_none_iff.mp e) h0
      | some b => exact ⟨b, rfl⟩
    simp only [ledOn, hb, Option.getD_some, List.mem_append, List.mem_flatMap, List.mem_filter, decide_eq_true_eq]
    constructor
    · rintro (h | ⟨k, ⟨hk, hkw⟩, h⟩)
      · split at h
        · rename_i he
          simp at h; subst h
          exact ⟨List.prefix_refl _, hn, hl, he⟩
        · simp at h
      · have hadj := (mem_nb (w := w)).mp hk
        have := (mem_ledOn w f (way ++ [k]) r (by simp) (List.nodup_append.mpr ⟨hn, by simp, fun a m c mc => by simp at mc; subst mc; exact fun e => hkw (e ▸ m)⟩) ((linked_snoc hb).mpr ⟨hl, hadj⟩)
          (fun x m => by
            rcases List.mem_append.mp m with m | m
            · exact hi x m
            · simp at m; subst m; exact (adj_in w hadj).2.1) (by simp; omega)).mp h
        exact ⟨(List.prefix_append way [k]).trans this.1, this.2⟩
    · rintro ⟨hp, hrn, hrl, hre⟩
      obtain ⟨t, rfl⟩ := hp
      cases t with
      | nil => left; rw [List.append_nil] at hre ⊢; rw [if_pos hre]; simp
      | cons k t =>
        right
        have hkw : k ∉ way := fun m => by
          have := (List.nodup_append.mp hrn).2.2 k m k (by simp)
          exact this rfl
        have hl2 : linked N (way ++ [k]) = true := by
          have : ∀ (t : List Int), linked N (way ++ k :: t) = true → linked N (way ++ [k]) = true := by
            intro t h
            have : ∀ (m : Nat) (t : List Int), t.length = m → linked N (way ++ k :: t) = true → linked N (way ++ [k]) = true := by
              intro m
              induction m with
              | zero => intro t ht h; cases t with
                | nil => exact h
                | cons _ _ => simp at ht
              | succ m ih =>
                intro t ht h
                have e : way ++ k :: t = (way ++ k :: t.dropLast) ++ [t.getLast (by intro e; subst e; simp at ht)] := by simp [List.dropLast_concat_getLast]
                rw [e] at h
                exact ih t.dropLast (by simp; omega) (linked_of_snoc h)
            exact this _ t rfl h
          exact this t hrl
        have hadj := ((linked_snoc hb).mp hl2).2
        refine ⟨k, ⟨(mem_nb (w := w)).mpr hadj, hkw⟩, ?_⟩
        refine (mem_ledOn w f (way ++ [k]) _ (by simp) (List.nodup_append.mpr ⟨hn, by simp, fun a m c mc => by simp at mc; subst mc; exact fun e => hkw (e ▸ m)⟩) hl2 (fun x m => by
            rcases List.mem_append.mp m with m | m
            · exact hi x m
            · simp at m; subst m; exact (adj_in w hadj).2.1) (by simp; omega)).mpr ⟨⟨t, by simp⟩, hrn, hrl, hre⟩
def routes (N : Net) : List (List Int) := sortR (N.rim.flatMap fun k => ledOn N 8 [k])
end GT
namespace DL
open PySem L2 GT
/-! loops -/
def forK (g : GM) (f : SM) (xs : List D) : Out → Option Out
  | .nx r2 => forL g f xs r2
  | .ct r2 => forL g f xs r2
  | .bk r2 => some (.nx r2)
  | o => some o
theorem forL_nil (g : GM) (f : SM) (r : Rho) : forL g f [] r = some (.nx r) := (rfl)
theorem forL_cons (g : GM) (f : SM) (x : D) (xs : List D) (r : Rho) : forL g f (x :: xs) r = ((g r x).bind f).bind (forK g f xs) := by
  rw [forL]
  cases g r x with
  | none => rfl
  | some r1 =>
    simp only [ob_some]
    cases f r1 with
    | none => rfl
    | some o => cases o <;> rfl
theorem forK_nx (g : GM) (f : SM) (xs : List D) (r : Rho) : forK g f xs (.nx r) = forL g f xs r := (rfl)
theorem forK_ct (g : GM) (f : SM) (xs : List D) (r : Rho) : forK g f xs (.ct r) = forL g f xs r := (rfl)
theorem forK_rt (g : GM) (f : SM) (xs : List D) (d : D) (r : Rho) : forK g f xs (.rt d r) = some (.rt d r) := (rfl)
theorem forL_inv {A : Type} {g : GM} {f : SM} (enc : A → D) (P : List A → Rho → Prop)
    (step : ∀ a as r, P (a :: as) r → ∃ r2, ((g r (enc a)).bind f = some (.nx r2) ∨ (g r (enc a)).bind f = some (.ct r2)) ∧ P as r2) :
    ∀ as r, P as r → ∃ r', forL g f (as.map enc) r = some (.nx r') ∧ P [] r'
  | [], r, h => ⟨r, rfl, h⟩
  | a :: as, r, h => by
    obtain ⟨r2, h1, h3⟩ := step a as r h
    obtain ⟨r', h4, h5⟩ := forL_inv enc P step as r2 h3
    refine ⟨r', ?_, h5⟩
    rw [List.map_cons, forL_cons]
    rcases h1 with h1 | h1 <;> (rw [h1, ob_some]; exact h4)
/-- one turn of a comprehension -/
def it1 (g : GM) (t : TM) (el : EM) (is : List Nat) (r : Rho) (x : D) : Option (Option D × Rho) :=
  (g r x).bind fun r1 => (t r1).bind fun p => cnd p.1 (fun _ => (el p.2).map fun q => (some q.1, wipeR q.2 is)) (fun _ => some (none, wipeR p.2 is))
theorem compL_cons (g : GM) (t : TM) (el : EM) (is : List Nat) (r : Rho) (x : D) (xs : List D) :
    compL g t el is (x :: xs) r = (it1 g t el is r x).bind fun q => (compL g t el is xs q.2).map fun w => (q.1.toList ++ w.1, w.2) := by
  unfold it1
  rw [compL]
  cases g r x with
  | none => rfl
  | some r1 =>
    simp only [ob_some]
    cases t r1 with
    | none => rfl
    | some p =>
      obtain ⟨b, r2⟩ := p
      cases b with
      | false =>
        simp only [ob_some, cnd_f, Bool.false_eq_true, if_false]
        cases compL g t el is xs (wipeR r2 is) <;> rfl
      | true =>
        simp only [ob_some, cnd_t, if_true]
        cases el r2 with
        | none => rfl
        | some q => rfl
/-- a comprehension with a state: what each turn gives is of a kind -/
theorem compL_inv {A : Type} {g : GM} {t : TM} {el : EM} {is : List Nat} (enc : A → D) (Q : A → D → Prop) (P : List A → Rho → Prop)
    (step : ∀ a as r, P (a :: as) r → ∃ o r', it1 g t el is r (enc a) = some (o, r') ∧ (∀ d, o = some d → Q a d) ∧ P as r') :
    ∀ as r, P as r → ∃ (bs : List (A × D)) (r' : Rho), (bs.map (·.1)).Sublist as ∧ (∀ b ∈ bs, Q b.1 b.2) ∧ compL g t el is (as.map enc) r = some (bs.map (·.2), r') ∧ P [] r'
  | [], r, h => ⟨[], r, .slnil, by simp, rfl, h⟩
  | a :: as, r, h => by
    obtain ⟨o, r1, h1, h2, h3⟩ := step a as r h
    obtain ⟨bs, r', s1, s2, s3, s4⟩ := compL_inv enc Q P step as _ h3
    cases o with
    | none =>
      refine ⟨bs, r', .cons a s1, s2, ?_, s4⟩
      rw [List.map_cons, compL_cons, h1, ob_some, s3]; rfl
    | some d =>
      refine ⟨(a, d) :: bs, r', .cons_cons a s1, fun b m => ?_, ?_, s4⟩
      · rcases List.mem_cons.mp m with rfl | m
        · exact h2 d rfl
        · exact s2 b m
      · rw [List.map_cons, compL_cons, h1, ob_some, s3]; rfl
/-- a comprehension that changes nothing -/
theorem compL_pure {A : Type} {g : GM} {t : TM} {el : EM} {is : List Nat} {r : Rho} (enc e : A → D) (p : A → Bool) :
    ∀ as : List A, (∀ a ∈ as, it1 g t el is r (enc a) = some (if p a = true then some (e a) else none, r)) →
    compL g t el is (as.map enc) r = some ((as.filter p).map e, r)
  | [], _ => rfl
  | a :: as, h => by
    have h1 := h a (by simp)
    have ih := compL_pure enc e p as fun b m => h b (List.mem_cons_of_mem _ m)
    rw [List.map_cons, compL_cons, h1, ob_some, ih]
    cases q : p a with
    | false => rw [List.filter_cons_of_neg (by simp [q])]; rfl
    | true => rw [List.filter_cons_of_pos (by simp [q])]; rfl
theorem compL_map {A : Type} {g : GM} {el : EM} {is : List Nat} {r : Rho} (enc e : A → D) (as : List A) (h : ∀ a ∈ as, it1 g yesM el is r (enc a) = some (some (e a), r)) :
    compL g yesM el is (as.map enc) r = some (as.map e, r) := by
  have := compL_pure (g := g) (t := yesM) (el := el) (is := is) (r := r) enc e (fun _ => true) as fun a m => by rw [h a m]; rfl
  rwa [List.filter_eq_self.mpr (by simp)] at this
theorem yesM_a (r : Rho) : yesM r = some (true, r) := (rfl)
theorem it1_a (g : GM) (t : TM) (el : EM) (is : List Nat) (r : Rho) (x : D) : it1 g t el is r x =
  (g r x).bind fun r1 => (t r1).bind fun p => cnd p.1 (fun _ => (el p.2).map fun q => (some q.1, wipeR q.2 is)) (fun _ => some (none, wipeR p.2 is)) := (rfl)
theorem compM_a (is : List Nat) (it : AM) (g : GM) (t : TM) (el : EM) (r : Rho) : compM is it g t el r = (it r).bind fun p => guard' (plainAt p.2 is && szOk p.1.length) fun _ => (compL g t el is p.1 (wipeR p.2 is)).map fun w => (w.1, restR w.2 p.2 is) := (rfl)
theorem wipeR_c (r : Rho) (i : Nat) (is : List Nat) : wipeR r (i :: is) = (wipeR r is).set i none := (rfl)
theorem wipeR_n (r : Rho) : wipeR r [] = r := (rfl)
theorem restR_c (r r1 : Rho) (i : Nat) (is : List Nat) : restR r r1 (i :: is) = (restR r r1 is).set i (r1[i]?.getD none) := (rfl)
theorem restR_n (r r1 : Rho) : restR r r1 [] = r := (rfl)
/-! the kinds of data -/
abbrev I (n : Int) : D := .int n
abbrev TI (xs : List Int) : D := .tuple (xs.map .int)
abbrev encT (t : Tie) : D := .tuple [.int t.1, .int t.2]
def encN (N : Net) : D := .tuple [.int N.n, .tuple (N.ties.map encT), TI N.rim]
theorem rngL_ir (n : Nat) : rngL 0 (n : Int) = (ir n).map .int := by
  unfold rngL ir
  simp [List.map_map]
theorem rngL_eq (a b : Int) : rngL a b = ((List.range (b - a).toNat).map fun (i : Nat) => a + (i : Int)).map .int := by
  unfold rngL
  simp [List.map_map]
theorem mem_rg {a b x : Int} : x ∈ ((List.range (b - a).toNat).map fun (i : Nat) => a + (i : Int)) ↔ a ≤ x ∧ x < b := by
  simp only [List.mem_map, List.mem_range]
  constructor
  · rintro ⟨i, h, rfl⟩; omega
  · rintro ⟨h1, h2⟩; exact ⟨(x - a).toNat, by omega, by omega⟩
end DL
local macro_rules | `(tactic| simp_arith [$xs,*]) => `(tactic| simp only [DL.ob_some, DL.om_some, DL.dat_d, DL.lis_l, DL.dic_m, DL.gt_0, DL.gt_1, DL.gt_2, DL.gt_3, DL.gt_4, DL.gt_5, DL.gt_6, DL.gt_7, DL.gt_b, DL.st_0, DL.st_s, DL.plG_d, DL.plG_n, DL.plainAt_a, DL.varM_a, DL.ownM_a, DL.cM_a, DL.ofL_a, DL.opM_a, DL.unM_a, DL.truM_a, DL.tstM_a, DL.notM_a, DL.cnd_t, DL.cnd_f, DL.andM_a, DL.orM_a, DL.andVM_a, DL.orVM_a, DL.notVM_a, DL.chM_a, DL.nilM_a, DL.consM_a, DL.guard_tt, DL.tupM_a, DL.lstM_a, DL.noM_a, DL.intV_i, DL.someM_a, DL.slM_a, DL.rng1M_a, DL.rng2M_a, DL.zipV_t, DL.zipV_l, DL.zipM_a, DL.seqM_a, DL.callM_a, DL.hereM_a, DL.callRM_a, DL.appM_a, DL.lisV_l, DL.extM_a, DL.popAtM_a, DL.newDM_a, DL.putM_a, DL.lenDM_a, DL.sortDM_a, DL.nameG_a, DL.nilG_a, DL.consG_a, DL.tupG_a, DL.seqS_a, DL.seqK_nx, DL.seqK_rt, DL.seqK_ct, DL.skipM_a, DL.asgM_a, DL.asgG_a, DL.newM_a, DL.asgLM_a, DL.retM_a, DL.exprM_a, DL.ifM_a, DL.forM_a, DL.frzM_a, DL.runF_a, DL.finF_rt, DL.finF_nx, DL.runR_a, DL.finR_rt, DL.finR_nx, DL.sz_0, DL.sz_1, DL.sz_2, DL.sz_3, DL.sz_4, DL.sz_5, DL.sz_6, DL.sz_7, DL.sz_8, DL.sz_9, DL.sz_10, DL.sz_11, DL.sz_12, DL.sz_13, DL.sz_14, DL.sz_15, DL.sz_16, DL.sz_17, DL.sz_18, DL.sz_19, DL.sz_20, DL.sz_21, DL.sz_22, DL.sz_23, DL.sz_24, DL.sz_25, DL.sz_26, DL.sz_27, DL.sz_28, DL.sz_29, DL.sz_30, DL.nc_0, DL.nc_1, DL.nc_2, DL.nc_3, DL.nc_4, DL.nc_5, DL.nc_6, DL.nc_7, DL.nc_8, DL.nc_9, DL.nc_10, DL.nc_11, DL.nc_12, DL.nc_13, DL.nc_14, DL.nc_15, DL.nc_16, DL.nc_17, DL.nc_18, DL.nc_19, DL.nc_20, DL.nc_21, DL.nc_22, DL.nc_23, DL.nc_24, DL.nc_25, DL.nc_26, DL.nc_27, DL.nc_28, DL.nc_29, DL.nc_30, DL.addD_i, DL.addD_t, DL.addD_l, DL.subD_i, DL.modD_i, DL.fdivD_i, DL.mulD_i, DL.lenD_t, DL.lenD_l, DL.tupleD_t, DL.tupleD_l, DL.listD_t, DL.listD_l, DL.truD_i, DL.truD_b, DL.truD_n, DL.truD_l, DL.truD_t, DL.ixD_t, DL.ixD_l, DL.negD_i, DL.bD_a, DL.ltB_i, DL.leB_i, DL.geB_i, DL.eqB_i, DL.neB_i, DL.min2D_i, DL.max2D_i, DL.items_t, DL.items_l, DL.isNN, DL.slD_t, DL.slD_l, DL.sortD2_l, DL.sortD2_t, DL.p_ge0, DL.p_geS, DL.p_tk0, DL.p_tkS, DL.p_tkN, DL.p_dr0, DL.p_drS, DL.p_drN, DL.p_mpC, DL.p_mpN, DL.p_apC, DL.p_apN, DL.p_lnC, DL.p_lnN, DL.p_rpS, DL.p_rp0, DL.p_alC, DL.p_alN, DL.p_gdS, DL.p_gdN, DL.p_tlS, DL.p_tlN, DL.p_ieC, DL.p_ieN, DL.p_nt, DL.p_nf, DL.p_atb, DL.p_afb, DL.p_abt, DL.p_abf, DL.p_eqS, DL.p_dT, DL.p_dF, DL.p_TA, DL.p_AT, DL.p_TO, DL.p_OT, DL.p_startD, DL.p_startR, DL.forK_nx, DL.forK_ct, DL.forK_rt, DL.yesM_a, DL.it1_a, DL.compM_a, DL.wipeR_c, DL.wipeR_n, DL.restR_c, DL.restR_n, Nat.reduceAdd, Nat.reduceSub, Nat.reduceMul, Int.reduceLT, Int.reduceLE, Int.reducePow, Int.reduceNeg, Int.reduceAdd, Int.reduceSub, Int.reduceMul, Int.reduceBEq, Int.reduceBNe, Int.reduceToNat, $xs,*])
namespace DL
open PySem L2 GT PySem.W
/-! order of rows of ints -/
theorem alikeAll_ints : ∀ a b : List Int, alikeAll (a.map PyData.int) (b.map PyData.int) = true
  | [], _ => by simp [alikeAll]
  | _ :: _, [] => by simp [alikeAll]
  | x :: a, y :: b => by simp [alikeAll, alike, alikeAll_ints a b]
theorem alike_TI (a b : List Int) : alike (TI a) (TI b) = true := by simp [alike, alikeAll_ints]
theorem dataLt_TI : ∀ a b : List Int, dataLt (TI a) (TI b) = llt a b
  | [], [] => by decide
  | [], y :: b => by
    rw [dataLt_tuple, List.map_cons, toks_all_cons]; rfl
  | x :: a, [] => by
    rw [dataLt_tuple, List.map_cons, toks_all_cons]; rfl
  | x :: a, y :: b => by
    rw [dataLt_tuple]
    simp only [List.map_cons, llt]
    by_cases e : x = y
    · subst e
      rw [if_pos rfl, dataLt_all_yes (x := PyData.int x) (y := PyData.int x) (by simp [alike]) (by simp [PyData.eqv]), ← dataLt_tuple]
      exact dataLt_TI a b
    · rw [if_neg e, dataLt_all_no (x := PyData.int x) (y := PyData.int y) (by simp [alike]) (by simp [PyData.eqv, e]), dataLt_int]
theorem dataLe_TI (a b : List Int) : dataLe false id (TI a) (TI b) = lle a b := by
  rw [dataLe_eq]
  simp only [cond_false, id]
  rw [dataLt_TI]; rfl
theorem sortL_TI (xs : List (List Int)) : sortL (xs.map TI) = (sortR xs).map TI := by
  unfold sortL sortR
  exact (List.map_mergeSort (fun a _ b _ => (dataLe_TI a b).symm)).symm
theorem depth_ints : ∀ xs : List Int, PyData.depthAll (xs.map PyData.int) ≤ 1
  | [] => by simp [PyData.depthAll]
  | x :: xs => by have := depth_ints xs; simp [PyData.depthAll, PyData.depth]; omega
theorem sortOk_TI {xs : List (List Int)} (h : xs.length ≤ 1000000) (hn : ∀ x ∈ xs, x ≠ []) : sortOk (xs.map TI) = true := by
  unfold sortOk
  have h1 : (xs.map TI).all (fun d => (xs.map TI).all fun e => alike d e) = true := by simp [List.all_eq_true, alike_TI]
  have h2 : (xs.map TI).all tupCons = true := by
    simp only [List.all_eq_true, List.mem_map]
    rintro d ⟨x, m, rfl⟩
    cases x with
    | nil => exact absurd rfl (hn _ m)
    | cons a x => rfl
  have h3 : (xs.map TI).all (fun d => decide (d.depth ≤ 60)) = true := by
    simp only [List.all_eq_true, List.mem_map, decide_eq_true_eq]
    rintro d ⟨x, m, rfl⟩
    have := depth_ints x
    simp only [PyData.depth]; omega
  rw [h1, h2, h3, List.length_map, szOk_of h]
  simp
/-! ties -/
theorem llt_pair (a b : Tie) : llt [a.1, a.2] [b.1, b.2] = true ↔ tlt a b := by
  unfold tlt
  simp only [llt]
  by_cases e : a.1 = b.1
  · rw [if_pos e]
    by_cases e2 : a.2 = b.2
    · simp [e2, e]
    · simp only [if_neg e2, decide_eq_true_eq]; omega
  · simp only [if_neg e, decide_eq_true_eq]; omega
def tle (a b : Tie) : Bool := lle [a.1, a.2] [b.1, b.2]
def sortT (xs : List Tie) : List Tie := xs.mergeSort tle
theorem sortL_T (xs : List Tie) : sortL (xs.map encT) = (sortT xs).map encT := by
  unfold sortL sortT
  exact (List.map_mergeSort (fun a _ b _ => (dataLe_TI [a.1, a.2] [b.1, b.2]).symm)).symm
theorem sortT_perm (xs : List Tie) : (sortT xs).Perm xs := List.mergeSort_perm xs _
theorem mem_sortT {xs : List Tie} {a : Tie} : a ∈ sortT xs ↔ a ∈ xs := (sortT_perm xs).mem_iff
theorem sortT_lt {xs : List Tie} (h : xs.Nodup) : (sortT xs).Pairwise tlt := by
  have h2 : (sortT xs).Nodup := (sortT_perm xs).nodup_iff.mpr h
  have h1 := List.pairwise_mergeSort (le := tle) (fun a b c => lle_tr _ _ _) (fun a b => lle_total _ _) xs
  exact (List.pairwise_and_iff.mpr ⟨h1, h2⟩).imp fun {a b} ⟨p, q⟩ => (llt_pair a b).mp (llt_of_lle p fun e => q (by
    obtain ⟨a1, a2⟩ := a; obtain ⟨b1, b2⟩ := b; simpa using e))
theorem sortOk_T {xs : List Tie} (h : xs.length ≤ 1000000) : sortOk (xs.map encT) = true := by
  have e : xs.map encT = (xs.map fun t => [t.1, t.2]).map TI := by simp [List.map_map]
  rw [e]
  exact sortOk_TI (by simpa using h) fun x m => by
    obtain ⟨t, _, rfl⟩ := List.mem_map.mp m
    simp
/-! dicts with ties as keys -/
def dkT (t : Tie) : DK := .inr [.inl t.1, .inl t.2]
theorem dkT_inj {a b : Tie} (h : dkT a = dkT b) : a = b := by
  unfold dkT at h
  obtain ⟨a1, a2⟩ := a; obtain ⟨b1, b2⟩ := b
  simpa using h
def dicT (ks : List Tie) : List (DK × D) := ks.map fun t => (dkT t, .int 0)
theorem dicT_put (ks : List Tie) (t : Tie) : putG (dicT ks) (dkT t) (.int 0) = dicT (if t ∈ ks then ks else ks ++ [t]) := by
  have there : dkT t ∈ (dicT ks).map Prod.fst ↔ t ∈ ks := by
    simp only [dicT, List.map_map, List.mem_map, Function.comp]
    exact ⟨fun ⟨a, m, e⟩ => dkT_inj e ▸ m, fun m => ⟨t, m, rfl⟩⟩
  unfold putG
  by_cases h : t ∈ ks
  · rw [if_pos (there.mpr h), if_pos h]
    simp [dicT, Function.comp_def]
  · rw [if_neg fun q => h (there.mp q), if_neg h]
    simp [dicT]
theorem dicT_keys (ks : List Tie) : (dicT ks).map (fun kv => dkD kv.1) = ks.map encT := by
  unfold dicT; rw [List.map_map]; rfl
end DL
namespace DL
open PySem L2 GT
theorem gtD_i (i j : Int) : gtD (.int i) (.int j) = some (decide (j < i)) := (rfl)
theorem gtD_T (a b : List Int) : gtD (TI a) (TI b) = some (llt b a) := by
  have h1 := alike_TI a b
  have h2 : decide (PyData.depth (TI a) ≤ 60) = true := by
    have := depth_ints a
    rw [decide_eq_true_eq]
    simp only [PyData.depth]; omega
  show (if (PySem.W.alike (TI a) (TI b) && decide (PyData.depth (TI a) ≤ 60)) = true then some (PySem.W.dataLt (TI b) (TI a)) else none) = _
  rw [h1, h2, Bool.and_self, if_pos rfl]
  exact congrArg some (dataLt_TI b a)
/-! what an evaluation comes to -/
def wp {α : Type} (e : Option α) (Q : α → Prop) : Prop := ∃ a, e = some a ∧ Q a
theorem wp_ok {α : Type} {a : α} {Q : α → Prop} (h : Q a) : wp (some a) Q := ⟨a, rfl, h⟩
theorem wp_bind {α β : Type} {e : Option α} {K : α → Option β} {P : α → Prop} {Q : β → Prop} (h : wp e P) (k : ∀ a, P a → wp (K a) Q) : wp (e.bind K) Q := by
  obtain ⟨a, rfl, ha⟩ := h
  exact k a ha
theorem wp_mono {α : Type} {e : Option α} {P Q : α → Prop} (h : wp e P) (k : ∀ a, P a → Q a) : wp e Q := by
  obtain ⟨a, e, ha⟩ := h
  exact ⟨a, e, k a ha⟩
theorem wp_val {α : Type} {e : Option α} {a : α} (h : wp e (· = a)) : e = some a := by
  obtain ⟨b, e, rfl⟩ := h; exact e
theorem ob_assoc {α β γ : Type} (x : Option α) (f : α → Option β) (g : β → Option γ) : (x.bind f).bind g = x.bind fun a => (f a).bind g := by cases x <;> rfl
theorem om_bind {α β γ : Type} (x : Option α) (f : α → β) (g : β → Option γ) : (x.map f).bind g = x.bind fun a => g (f a) := by cases x <;> rfl
theorem ob_map {α β γ : Type} (x : Option α) (f : α → Option β) (g : β → γ) : (x.bind f).map g = x.bind fun a => (f a).map g := by cases x <;> rfl
theorem om_map {α β γ : Type} (x : Option α) (f : α → β) (g : β → γ) : (x.map f).map g = x.map fun a => g (f a) := by cases x <;> rfl
theorem cnd_bind {α β : Type} (b : Bool) (x y : Unit → Option α) (f : α → Option β) : (cnd b x y).bind f = cnd b (fun u => (x u).bind f) (fun u => (y u).bind f) := by cases b <;> rfl
theorem cnd_map {α β : Type} (b : Bool) (x y : Unit → Option α) (f : α → β) : (cnd b x y).map f = cnd b (fun u => (x u).map f) (fun u => (y u).map f) := by cases b <;> rfl
theorem guard_bind {α β : Type} (b : Bool) (x : Unit → Option α) (f : α → Option β) : (guard' b x).bind f = guard' b fun u => (x u).bind f := by cases b <;> rfl
theorem guard_map {α β : Type} (b : Bool) (x : Unit → Option α) (f : α → β) : (guard' b x).map f = guard' b fun u => (x u).map f := by cases b <;> rfl
theorem wp_cnd {α : Type} {b : Bool} {x y : Unit → Option α} {Q : α → Prop} (h1 : b = true → wp (x ()) Q) (h2 : b = false → wp (y ()) Q) : wp (cnd b x y) Q := by
  cases b with
  | true => exact h1 rfl
  | false => exact h2 rfl
theorem atI_nat {α : Type} (xs : List α) (k : Nat) : atI xs (k : Int) = xs[k]? := by
  by_cases h : k < xs.length
  · obtain ⟨x, h1, h2⟩ := atI_lt (xs := xs) (i := (k : Int)) (by omega) (by omega)
    rw [h1, ← h2]; simp
  · unfold atI ixN
    rw [if_pos (by omega), if_neg (by omega)]
    exact (List.getElem?_eq_none (by omega)).symm
theorem atI_c0 {α : Type} (a : α) (l : List α) : atI (a :: l) 0 = some a := atI_nat (a :: l) 0
theorem atI_c1 {α : Type} (a b : α) (l : List α) : atI (a :: b :: l) 1 = some b := atI_nat (a :: b :: l) 1
theorem atI_c2 {α : Type} (a b c : α) (l : List α) : atI (a :: b :: c :: l) 2 = some c := atI_nat (a :: b :: c :: l) 2
theorem atI_c3 {α : Type} (a b c d : α) (l : List α) : atI (a :: b :: c :: d :: l) 3 = some d := atI_nat (a :: b :: c :: d :: l) 3
/-- a net's parts -/
theorem encN_0 (N : Net) : ixD (encN N) (.int 0) = some (.int N.n) := (rfl)
theorem encN_1 (N : Net) : ixD (encN N) (.int 1) = some (.tuple (N.ties.map encT)) := (rfl)
theorem encN_2 (N : Net) : ixD (encN N) (.int 2) = some (TI N.rim) := (rfl)
theorem encN_u (N : Net) (n : Nat) (t : GMs) (r : Rho) : tupG n t r (encN N) = tupG n t r (.tuple [.int N.n, .tuple (N.ties.map encT), TI N.rim]) := (rfl)
theorem revD_t (l : List D) : revD (.tuple l) = some (.tuple l.reverse) := (rfl)
theorem revD_l (l : List D) : revD (.list l) = some (.list l.reverse) := (rfl)
/-- what a turn leaves -/
def goesOn (P : Rho → Prop) : Out → Prop
  | .nx r => P r
  | .ct r => P r
  | _ => False
theorem wp_for {A β : Type} {g : GM} {f : SM} {as : List A} {r : Rho} {K : Out → Option β} {Q : β → Prop} (enc : A → D) (P : List A → Rho → Prop) (h0 : P as r)
    (step : ∀ a as r, P (a :: as) r → wp ((g r (enc a)).bind f) (goesOn (P as)))
    (k : ∀ r, P [] r → wp (K (.nx r)) Q) : wp ((forL g f (as.map enc) r).bind K) Q := by
  obtain ⟨r', h1, h2⟩ := forL_inv (g := g) (f := f) enc P (fun a as r h => by
    obtain ⟨o, e, ho⟩ := step a as r h
    cases o with
    | nx r2 => exact ⟨r2, .inl e, ho⟩
    | ct r2 => exact ⟨r2, .inr e, ho⟩
    | rt _ _ => exact ho.elim
    | bk _ => exact ho.elim
    | ex _ _ => exact ho.elim) as r h0
  rw [h1]; exact k r' h2
end DL
local macro_rules | `(tactic| simp_arith [$xs,*]) => `(tactic| simp only [DL.ob_some, DL.om_some, DL.dat_d, DL.lis_l, DL.dic_m, DL.gt_0, DL.gt_1, DL.gt_2, DL.gt_3, DL.gt_4, DL.gt_5, DL.gt_6, DL.gt_7, DL.gt_b, DL.st_0, DL.st_s, DL.plG_d, DL.plG_n, DL.plainAt_a, DL.varM_a, DL.ownM_a, DL.cM_a, DL.ofL_a, DL.opM_a, DL.unM_a, DL.truM_a, DL.tstM_a, DL.notM_a, DL.cnd_t, DL.cnd_f, DL.andM_a, DL.orM_a, DL.andVM_a, DL.orVM_a, DL.notVM_a, DL.chM_a, DL.nilM_a, DL.consM_a, DL.guard_tt, DL.tupM_a, DL.lstM_a, DL.noM_a, DL.intV_i, DL.someM_a, DL.slM_a, DL.rng1M_a, DL.rng2M_a, DL.zipV_t, DL.zipV_l, DL.zipM_a, DL.seqM_a, DL.callM_a, DL.hereM_a, DL.callRM_a, DL.appM_a, DL.lisV_l, DL.extM_a, DL.popAtM_a, DL.newDM_a, DL.putM_a, DL.lenDM_a, DL.sortDM_a, DL.nameG_a, DL.nilG_a, DL.consG_a, DL.tupG_a, DL.seqS_a, DL.seqK_nx, DL.seqK_rt, DL.seqK_ct, DL.skipM_a, DL.asgM_a, DL.asgG_a, DL.newM_a, DL.asgLM_a, DL.retM_a, DL.exprM_a, DL.ifM_a, DL.forM_a, DL.frzM_a, DL.runF_a, DL.finF_rt, DL.finF_nx, DL.runR_a, DL.finR_rt, DL.finR_nx, DL.sz_0, DL.sz_1, DL.sz_2, DL.sz_3, DL.sz_4, DL.sz_5, DL.sz_6, DL.sz_7, DL.sz_8, DL.sz_9, DL.sz_10, DL.sz_11, DL.sz_12, DL.sz_13, DL.sz_14, DL.sz_15, DL.sz_16, DL.sz_17, DL.sz_18, DL.sz_19, DL.sz_20, DL.sz_21, DL.sz_22, DL.sz_23, DL.sz_24, DL.sz_25, DL.sz_26, DL.sz_27, DL.sz_28, DL.sz_29, DL.sz_30, DL.nc_0, DL.nc_1, DL.nc_2, DL.nc_3, DL.nc_4, DL.nc_5, DL.nc_6, DL.nc_7, DL.nc_8, DL.nc_9, DL.nc_10, DL.nc_11, DL.nc_12, DL.nc_13, DL.nc_14, DL.nc_15, DL.nc_16, DL.nc_17, DL.nc_18, DL.nc_19, DL.nc_20, DL.nc_21, DL.nc_22, DL.nc_23, DL.nc_24, DL.nc_25, DL.nc_26, DL.nc_27, DL.nc_28, DL.nc_29, DL.nc_30, DL.addD_i, DL.addD_t, DL.addD_l, DL.subD_i, DL.modD_i, DL.fdivD_i, DL.mulD_i, DL.lenD_t, DL.lenD_l, DL.tupleD_t, DL.tupleD_l, DL.listD_t, DL.listD_l, DL.truD_i, DL.truD_b, DL.truD_n, DL.truD_l, DL.truD_t, DL.ixD_t, DL.ixD_l, DL.negD_i, DL.bD_a, DL.ltB_i, DL.leB_i, DL.geB_i, DL.eqB_i, DL.neB_i, DL.min2D_i, DL.max2D_i, DL.items_t, DL.items_l, DL.isNN, DL.slD_t, DL.slD_l, DL.sortD2_l, DL.sortD2_t, DL.p_ge0, DL.p_geS, DL.p_tk0, DL.p_tkS, DL.p_tkN, DL.p_dr0, DL.p_drS, DL.p_drN, DL.p_mpC, DL.p_mpN, DL.p_apC, DL.p_apN, DL.p_lnC, DL.p_lnN, DL.p_rpS, DL.p_rp0, DL.p_alC, DL.p_alN, DL.p_gdS, DL.p_gdN, DL.p_tlS, DL.p_tlN, DL.p_ieC, DL.p_ieN, DL.p_nt, DL.p_nf, DL.p_atb, DL.p_afb, DL.p_abt, DL.p_abf, DL.p_eqS, DL.p_dT, DL.p_dF, DL.p_TA, DL.p_AT, DL.p_TO, DL.p_OT, DL.p_startD, DL.p_startR, DL.forK_nx, DL.forK_ct, DL.forK_rt, DL.yesM_a, DL.it1_a, DL.compM_a, DL.wipeR_c, DL.wipeR_n, DL.restR_c, DL.restR_n, DL.gtD_i, DL.gtD_T, DL.ob_assoc, DL.om_bind, DL.ob_map, DL.om_map, DL.cnd_bind, DL.cnd_map, DL.guard_bind, DL.guard_map, DL.atI_c0, DL.atI_c1, DL.atI_c2, DL.atI_c3, DL.encN_0, DL.encN_1, DL.encN_2, DL.encN_u, DL.revD_t, DL.revD_l, Nat.reduceAdd, Nat.reduceSub, Nat.reduceMul, Int.reduceLT, Int.reduceLE, Int.reducePow, Int.reduceNeg, Int.reduceAdd, Int.reduceSub, Int.reduceMul, Int.reduceBEq, Int.reduceBNe, Int.reduceToNat, $xs,*])
namespace DL
open PySem L2 GT
/-! kinds of data by their encoder -/
structure EncF {α : Type} [DecidableEq α] (k : Nat) (f : α → D) : Prop where
  lay : ∀ a, (f a).canLay0 = true
  dep : ∀ a, (f a).depth ≤ k
  eqv : ∀ a b, PyData.eqv (f a) (f b) = decide (a = b)
theorem layAll {α : Type} [DecidableEq α] {k : Nat} {f : α → D} (h : EncF k f) : ∀ xs : List α, PyData.canLayAll0 (xs.map f) = true
  | [] => rfl
  | a :: xs => by simp [PyData.canLayAll0, h.lay a, layAll h xs]
theorem depAll {α : Type} [DecidableEq α] {k : Nat} {f : α → D} (h : EncF k f) : ∀ xs : List α, PyData.depthAll (xs.map f) ≤ k
  | [] => by simp [PyData.depthAll]
  | a :: xs => by have h1 := h.dep a; have h2 := depAll h xs; simp only [List.map_cons, PyData.depthAll]; omega
theorem eqvAll_map {α : Type} [DecidableEq α] {k : Nat} {f : α → D} (h : EncF k f) : ∀ xs ys : List α, PyData.eqvAll (xs.map f) (ys.map f) = decide (xs = ys)
  | [], [] => by simp [PyData.eqvAll]
  | [], _ :: _ => by simp [PyData.eqvAll]
  | _ :: _, [] => by simp [PyData.eqvAll]
  | a :: xs, b :: ys => by simp only [List.map_cons, PyData.eqvAll, h.eqv, eqvAll_map h xs ys, List.cons.injEq, Bool.decide_and]
theorem encF_int : EncF 1 PyData.int := ⟨fun _ => rfl, fun _ => by simp [PyData.depth], fun a b => by simp only [PyData.eqv]; by_cases h : a = b <;> simp [h]⟩
theorem encF_bool : EncF 1 PyData.bool := ⟨fun _ => rfl, fun _ => by simp [PyData.depth], fun a b => by simp only [PyData.eqv]; cases a <;> cases b <;> rfl⟩
theorem encF_tup {α : Type} [DecidableEq α] {k : Nat} {f : α → D} (h : EncF k f) : EncF (k + 1) (fun xs : List α => PyData.tuple (xs.map f)) :=
  ⟨fun xs => by simpa [PyData.canLay0] using layAll h xs, fun xs => by have := depAll h xs; simp only [PyData.depth]; omega, fun xs ys => by simp only [PyData.eqv]; exact eqvAll_map h xs ys⟩
theorem encF_TI : EncF 2 TI := encF_tup encF_int
theorem encF_T : EncF 2 encT := ⟨fun t => by simp [PyData.canLay0, PyData.canLayAll0], fun t => by simp [PyData.depth, PyData.depthAll], fun a b => by
  obtain ⟨a1, a2⟩ := a; obtain ⟨b1, b2⟩ := b
  simp only [PyData.eqv, PyData.eqvAll, Bool.and_true, Prod.mk.injEq, Bool.decide_and]
  by_cases h1 : a1 = b1 <;> by_cases h2 : a2 = b2 <;> simp [h1, h2]⟩
section
variable {α : Type} [DecidableEq α] {k : Nat} {f : α → D}
theorem sh_mk {d : D} (l : d.canLay0 = true) (h : d.depth ≤ 64) : SeqAt.shaped d = true := by
  unfold SeqAt.shaped
  rw [l, decide_eq_true h]; rfl
theorem sh_one (h : EncF k f) (hk : k ≤ 60) (a : α) : SeqAt.shaped (f a) = true := sh_mk (h.lay a) (Nat.le_trans (h.dep a) (by omega))
theorem sh_tup (h : EncF k f) (hk : k ≤ 60) (xs : List α) : SeqAt.shaped (.tuple (xs.map f)) = true :=
  sh_mk ((encF_tup h).lay xs) (Nat.le_trans ((encF_tup h).dep xs) (by omega))
theorem sh_lst (h : EncF k f) (hk : k ≤ 60) (xs : List α) : SeqAt.shaped (.list (xs.map f)) = true :=
  sh_mk ((encF_tup h).lay xs) (Nat.le_trans ((encF_tup h).dep xs) (by omega))
theorem any_eqv (h : EncF k f) (a : α) (xs : List α) : ((xs.map f).any fun z => PyData.eqv z (f a)) = decide (a ∈ xs) := by
  induction xs with
  | nil => simp
  | cons b xs ih =>
    simp only [List.map_cons, List.any_cons, ih, h.eqv, List.mem_cons]
    by_cases e : b = a
    · simp [e]
    · simp [e, Ne.symm e]
theorem eq_one (h : EncF k f) (hk : k ≤ 60) (a b : α) : eqB (f a) (f b) = some (decide (a = b)) := by
  unfold eqB; simp [sh_one h hk, h.eqv]
theorem ne_one (h : EncF k f) (hk : k ≤ 60) (a b : α) : neB (f a) (f b) = some (!decide (a = b)) := by
  unfold neB; simp [sh_one h hk, h.eqv]
theorem in_tup (h : EncF k f) (hk : k ≤ 60) (a : α) (xs : List α) : inB (f a) (.tuple (xs.map f)) = some (decide (a ∈ xs)) := by
  unfold inB
  rw [show itemsOf (.tuple (xs.map f)) = some (xs.map f) from rfl]
  simp only [Option.bind_some, sh_one h hk, sh_tup h hk, Bool.and_self, if_true, any_eqv h]
theorem in_lst (h : EncF k f) (hk : k ≤ 60) (a : α) (xs : List α) : inB (f a) (.list (xs.map f)) = some (decide (a ∈ xs)) := by
  unfold inB
  rw [show itemsOf (.list (xs.map f)) = some (xs.map f) from rfl]
  simp only [Option.bind_some, sh_one h hk, sh_lst h hk, Bool.and_self, if_true, any_eqv h]
end
theorem eq_TI (a b : List Int) : eqB (TI a) (TI b) = some (decide (a = b)) := eq_one encF_TI (by decide) a b
theorem ne_TI (a b : List Int) : neB (TI a) (TI b) = some (!decide (a = b)) := ne_one encF_TI (by decide) a b
theorem in_I (a : Int) (xs : List Int) : inB (.int a) (.tuple (xs.map .int)) = some (decide (a ∈ xs)) := in_tup encF_int (by decide) a xs
theorem in_Il (a : Int) (xs : List Int) : inB (.int a) (.list (xs.map .int)) = some (decide (a ∈ xs)) := in_lst encF_int (by decide) a xs
theorem in_T (a b : Int) (xs : List Tie) : inB (.tuple [.int a, .int b]) (.tuple (xs.map encT)) = some (decide ((a, b) ∈ xs)) := (in_tup encF_T (by decide) (a, b) xs).trans (by congr)
theorem in_R (a : List Int) (xs : List (List Int)) : inB (TI a) (.tuple (xs.map TI)) = some (decide (a ∈ xs)) := (in_tup encF_TI (by decide) a xs).trans (by congr)
theorem notInB_a (d e : D) : notInB d e = (inB d e).map fun b => !b := (rfl)
theorem enumM_a (f : EM) (r : Rho) : enumM f r = (f r).bind fun p => (itemsOf p.1).map fun ds => (enumL ds, p.2) := (rfl)
theorem seqK_ex (g : SM) (c : String) (r : Rho) : seqK g (.ex c r) = some (.ex c r) := (rfl)
theorem finF_ex (c : String) (r : Rho) : finF (.ex c r) = none := (rfl)
theorem forK_ex (g : GM) (f : SM) (xs : List D) (c : String) (r : Rho) : forK g f xs (.ex c r) = some (.ex c r) := (rfl)
theorem tri_no {α β : Type} (f : α → Option β) : (none : Option α).bind f = none := (rfl)
theorem trm_no {α β : Type} (f : α → β) : (none : Option α).map f = none := (rfl)
theorem atI_neg1 {α : Type} (xs : List α) : atI xs (-1) = xs.getLast? := by
  cases xs with
  | nil => rfl
  | cons a l =>
    unfold atI ixN
    rw [if_neg (by decide), if_pos (by simp only [List.length_cons]; omega)]
    simp only [Option.bind_some, List.length_cons]
    rw [show ((-1 : Int) + ((l.length + 1 : Nat) : Int)).toNat = l.length by omega, List.getLast?_eq_getElem?]
    simp
theorem enumL_map {α : Type} (f : α → D) (xs : List α) : enumL (xs.map f) = (xs.zipIdx).map fun p => pairD (.int (p.2 : Nat)) (f p.1) := by
  unfold enumL zipL
  apply List.ext_getElem?
  intro i
  simp only [List.getElem?_zipWith, List.getElem?_map, List.getElem?_zipIdx, List.length_map, Nat.zero_add]
  cases h : xs[i]? with
  | none => simp
  | some a =>
    have hl := (List.getElem?_eq_some_iff.mp h).1
    simp [hl]
end DL
local macro_rules | `(tactic| simp_arith [$xs,*]) => `(tactic| simp only [DL.ob_some, DL.om_some, DL.dat_d, DL.lis_l, DL.dic_m, DL.gt_0, DL.gt_1, DL.gt_2, DL.gt_3, DL.gt_4, DL.gt_5, DL.gt_6, DL.gt_7, DL.gt_b, DL.st_0, DL.st_s, DL.plG_d, DL.plG_n, DL.plainAt_a, DL.varM_a, DL.ownM_a, DL.cM_a, DL.ofL_a, DL.opM_a, DL.unM_a, DL.truM_a, DL.tstM_a, DL.notM_a, DL.cnd_t, DL.cnd_f, DL.andM_a, DL.orM_a, DL.andVM_a, DL.orVM_a, DL.notVM_a, DL.chM_a, DL.nilM_a, DL.consM_a, DL.guard_tt, DL.tupM_a, DL.lstM_a, DL.noM_a, DL.intV_i, DL.someM_a, DL.slM_a, DL.rng1M_a, DL.rng2M_a, DL.zipV_t, DL.zipV_l, DL.zipM_a, DL.seqM_a, DL.callM_a, DL.hereM_a, DL.callRM_a, DL.appM_a, DL.lisV_l, DL.extM_a, DL.popAtM_a, DL.newDM_a, DL.putM_a, DL.lenDM_a, DL.sortDM_a, DL.nameG_a, DL.nilG_a, DL.consG_a, DL.tupG_a, DL.seqS_a, DL.seqK_nx, DL.seqK_rt, DL.seqK_ct, DL.skipM_a, DL.asgM_a, DL.asgG_a, DL.newM_a, DL.asgLM_a, DL.retM_a, DL.exprM_a, DL.ifM_a, DL.forM_a, DL.frzM_a, DL.runF_a, DL.finF_rt, DL.finF_nx, DL.runR_a, DL.finR_rt, DL.finR_nx, DL.sz_0, DL.sz_1, DL.sz_2, DL.sz_3, DL.sz_4, DL.sz_5, DL.sz_6, DL.sz_7, DL.sz_8, DL.sz_9, DL.sz_10, DL.sz_11, DL.sz_12, DL.sz_13, DL.sz_14, DL.sz_15, DL.sz_16, DL.sz_17, DL.sz_18, DL.sz_19, DL.sz_20, DL.sz_21, DL.sz_22, DL.sz_23, DL.sz_24, DL.sz_25, DL.sz_26, DL.sz_27, DL.sz_28, DL.sz_29, DL.sz_30, DL.nc_0, DL.nc_1, DL.nc_2, DL.nc_3, DL.nc_4, DL.nc_5, DL.nc_6, DL.nc_7, DL.nc_8, DL.nc_9, DL.nc_10, DL.nc_11, DL.nc_12, DL.nc_13, DL.nc_14, DL.nc_15, DL.nc_16, DL.nc_17, DL.nc_18, DL.nc_19, DL.nc_20, DL.nc_21, DL.nc_22, DL.nc_23, DL.nc_24, DL.nc_25, DL.nc_26, DL.nc_27, DL.nc_28, DL.nc_29, DL.nc_30, DL.addD_i, DL.addD_t, DL.addD_l, DL.subD_i, DL.modD_i, DL.fdivD_i, DL.mulD_i, DL.lenD_t, DL.lenD_l, DL.tupleD_t, DL.tupleD_l, DL.listD_t, DL.listD_l, DL.truD_i, DL.truD_b, DL.truD_n, DL.truD_l, DL.truD_t, DL.ixD_t, DL.ixD_l, DL.negD_i, DL.bD_a, DL.ltB_i, DL.leB_i, DL.geB_i, DL.eqB_i, DL.neB_i, DL.min2D_i, DL.max2D_i, DL.items_t, DL.items_l, DL.isNN, DL.slD_t, DL.slD_l, DL.sortD2_l, DL.sortD2_t, DL.p_ge0, DL.p_geS, DL.p_tk0, DL.p_tkS, DL.p_tkN, DL.p_dr0, DL.p_drS, DL.p_drN, DL.p_mpC, DL.p_mpN, DL.p_apC, DL.p_apN, DL.p_lnC, DL.p_lnN, DL.p_rpS, DL.p_rp0, DL.p_alC, DL.p_alN, DL.p_gdS, DL.p_gdN, DL.p_tlS, DL.p_tlN, DL.p_ieC, DL.p_ieN, DL.p_nt, DL.p_nf, DL.p_atb, DL.p_afb, DL.p_abt, DL.p_abf, DL.p_eqS, DL.p_dT, DL.p_dF, DL.p_TA, DL.p_AT, DL.p_TO, DL.p_OT, DL.p_startD, DL.p_startR, DL.forK_nx, DL.forK_ct, DL.forK_rt, DL.yesM_a, DL.it1_a, DL.compM_a, DL.wipeR_c, DL.wipeR_n, DL.restR_c, DL.restR_n, DL.gtD_i, DL.gtD_T, DL.ob_assoc, DL.om_bind, DL.ob_map, DL.om_map, DL.cnd_bind, DL.cnd_map, DL.guard_bind, DL.guard_map, DL.atI_c0, DL.atI_c1, DL.atI_c2, DL.atI_c3, DL.encN_0, DL.encN_1, DL.encN_2, DL.encN_u, DL.revD_t, DL.revD_l, DL.eq_TI, DL.ne_TI, DL.in_I, DL.in_Il, DL.in_T, DL.in_R, DL.notInB_a, DL.enumM_a, DL.seqK_ex, DL.finF_ex, DL.forK_ex, DL.tri_no, DL.trm_no, DL.atI_neg1, Nat.reduceAdd, Nat.reduceSub, Nat.reduceMul, Int.reduceLT, Int.reduceLE, Int.reducePow, Int.reduceNeg, Int.reduceAdd, Int.reduceSub, Int.reduceMul, Int.reduceBEq, Int.reduceBNe, Int.reduceToNat, $xs,*])
namespace DL
open PySem L2 GT
theorem wipO_nx (is : List Nat) (r : Rho) : wipO is (.nx r) = .nx (wipeR r is) := (rfl)
theorem wipO_ct (is : List Nat) (r : Rho) : wipO is (.ct r) = .ct (wipeR r is) := (rfl)
theorem wipO_bk (is : List Nat) (r : Rho) : wipO is (.bk r) = .bk (wipeR r is) := (rfl)
theorem wipO_rt (is : List Nat) (d : D) (r : Rho) : wipO is (.rt d r) = .rt d r := (rfl)
theorem wipO_ex (is : List Nat) (c : String) (r : Rho) : wipO is (.ex c r) = .ex c r := (rfl)
theorem wipM_a (is : List Nat) (f : SM) (r : Rho) : wipM is f r = (f r).map (wipO is) := (rfl)
theorem preM_a (is : List Nat) (f : SM) (r : Rho) : preM is f r = f (wipeR r is) := (rfl)
theorem two_a (i j : Nat) (r : Rho) (d e : D) : two i j r [d, e] = some (.nx ((r.set i (some (.d d))).set j (some (.d e)))) := (rfl)
theorem parLM_a (i j : Nat) (f : EM) (g : AM) (r : Rho) : parLM i j f g r = (f r).bind fun p => (g p.2).map fun q => .nx ((q.2.set i (some (.d p.1))).set j (some (.l false q.1))) := (rfl)
theorem finR_ex (j : Nat) (c : String) (r : Rho) : finR j (.ex c r) = none := (rfl)
theorem len_map {α β : Type} (f : α → β) (xs : List α) : (xs.map f).length = xs.length := by simp
theorem len_app {α : Type} (xs ys : List α) : (xs ++ ys).length = xs.length + ys.length := by simp
theorem len_ir (n : Nat) : (ir n).length = n := ir_len n
theorem len_rev {α : Type} (xs : List α) : xs.reverse.length = xs.length := by simp
theorem sz_c {n : Nat} (h : n ≤ 1000000) : szOk n = true := szOk_of h
theorem rng_c {i : Int} (h1 : -1000000 ≤ i) (h2 : i ≤ 1000000) : rngOk i = true := rng_ok h1 h2
theorem rngL_n (n : Nat) : rngL 0 (n : Int) = (ir n).map .int := rngL_ir n
theorem forM_a' (it : AM) (g : GM) (f : SM) (r : Rho) : forM it g f r = (it r).bind fun p => forL g f p.1 p.2 := (rfl)
theorem rev_map {α β : Type} (f : α → β) (xs : List α) : (xs.map f).reverse = xs.reverse.map f := by simp
theorem seqK_bk (g : SM) (r : Rho) : seqK g (.bk r) = some (.bk r) := (rfl)
theorem forK_bk (g : GM) (f : SM) (xs : List D) (r : Rho) : forK g f xs (.bk r) = some (.nx r) := (rfl)
theorem enum_m {α : Type} (f : α → D) (xs : List α) : enumL (xs.map f) = (xs.zipIdx).map fun p => .tuple [.int (p.2 : Nat), f p.1] := enumL_map f xs
theorem emp_map {α β : Type} (f : α → β) (xs : List α) : (xs.map f).isEmpty = xs.isEmpty := by cases xs <;> rfl
/-! steps of an evaluation -/
theorem wp_last {α : Type} {e : Option α} {Q : α → Prop} (h : wp (e.bind some) Q) : wp e Q := by
  cases e with
  | none => exact h
  | some a => exact h
/-- a loop that changes nothing -/
theorem wp_all {A β : Type} {g : GM} {f : SM} {as : List A} {r : Rho} {K : Out → Option β} {Q : β → Prop} {enc : A → D}
    (step : ∀ a ∈ as, wp ((g r (enc a)).bind f) (goesOn (· = r))) (k : wp (K (.nx r)) Q) : wp ((forL g f (as.map enc) r).bind K) Q := by
  refine wp_for enc (fun bs q => (∀ b ∈ bs, b ∈ as) ∧ q = r) ⟨fun _ h => h, rfl⟩ ?_ ?_
  · rintro a bs q ⟨h, rfl⟩
    refine wp_mono (step a (h a (by simp))) fun o ho => ?_
    cases o with
    | nx r2 => exact ⟨fun b m => h b (List.mem_cons_of_mem _ m), ho⟩
    | ct r2 => exact ⟨fun b m => h b (List.mem_cons_of_mem _ m), ho⟩
    | _ => exact ho.elim
  · rintro q ⟨_, rfl⟩; exact k
/-- a loop that draws: each turn at most c times -/
theorem wp_town {A β : Type} {g : GM} {f : SM} {as : List A} {K : Out → Option β} {Q : β → Prop} {enc : A → D} (st : List D → Rho) (c : Nat) (tw0 : List D)
    (step : ∀ a ∈ as, ∀ tw : List D, tw.length ≤ tw0.length + c * as.length → wp ((g (st tw) (enc a)).bind f) (goesOn fun r => ∃ tw' : List D, tw'.length ≤ tw.length + c ∧ r = st tw'))
    (k : ∀ tw : List D, tw.length ≤ tw0.length + c * as.length → wp (K (.nx (st tw))) Q) : wp ((forL g f (as.map enc) (st tw0)).bind K) Q := by
  refine wp_for enc (fun bs q => (∀ b ∈ bs, b ∈ as) ∧ ∃ tw : List D, tw.length + c * bs.length ≤ tw0.length + c * as.length ∧ q = st tw) ⟨fun _ h => h, tw0, Nat.le_refl _, rfl⟩ ?_ ?_
  · rintro a bs q ⟨h, tw, hl, rfl⟩
    simp only [List.length_cons, Nat.mul_add, Nat.mul_one] at hl
    refine wp_mono (step a (h a (by simp)) tw (by omega)) fun o ho => ?_
    cases o with
    | nx r2 => obtain ⟨tw', h1, h2⟩ := ho; exact ⟨fun b m => h b (List.mem_cons_of_mem _ m), tw', by omega, h2⟩
    | ct r2 => obtain ⟨tw', h1, h2⟩ := ho; exact ⟨fun b m => h b (List.mem_cons_of_mem _ m), tw', by omega, h2⟩
    | _ => exact ho.elim
  · rintro q ⟨_, tw, hl, rfl⟩; exact k tw (by simpa using hl)
/-- a loop whose state is a function of what it has seen -/
theorem wp_fold {A S β : Type} {g : GM} {f : SM} {as : List A} {K : Out → Option β} {Q : β → Prop} {enc : A → D} (st : S → Rho) (up : S → A → S) (s0 : S)
    (step : ∀ pre a post, as = pre ++ a :: post → wp ((g (st (pre.foldl up s0)) (enc a)).bind f) (goesOn (· = st (up (pre.foldl up s0) a))))
    (k : wp (K (.nx (st (as.foldl up s0)))) Q) : wp ((forL g f (as.map enc) (st s0)).bind K) Q := by
  refine wp_for enc (fun bs q => ∃ pre, as = pre ++ bs ∧ q = st (pre.foldl up s0)) ⟨[], rfl, rfl⟩ ?_ ?_
  · rintro a bs q ⟨pre, h, rfl⟩
    refine wp_mono (step pre a bs h) fun o ho => ?_
    cases o with
    | nx r2 => exact ⟨pre ++ [a], by simp [h], by rw [List.foldl_append]; exact ho⟩
    | ct r2 => exact ⟨pre ++ [a], by simp [h], by rw [List.foldl_append]; exact ho⟩
    | _ => exact ho.elim
  · rintro q ⟨pre, h, rfl⟩
    rw [List.append_nil] at h; subst h; exact k
/-- .. of a list that is filled -/
theorem wp_fill {A B β : Type} {g : GM} {f : SM} {as : List A} {K : Out → Option β} {Q : β → Prop} {enc : A → D} (st : List B → Rho) (e : A → List B)
    (step : ∀ pre a post, as = pre ++ a :: post → wp ((g (st (pre.flatMap e)) (enc a)).bind f) (goesOn (· = st (pre.flatMap e ++ e a))))
    (k : wp (K (.nx (st (as.flatMap e)))) Q) : wp ((forL g f (as.map enc) (st [])).bind K) Q := by
  have key : ∀ (xs : List A) (s : List B), xs.foldl (fun s a => s ++ e a) s = s ++ xs.flatMap e := by
    intro xs
    induction xs with
    | nil => simp
    | cons a xs ih => intro s; simp [ih]
  refine wp_fold st (fun s a => s ++ e a) [] ?_ (by rw [key, List.nil_append]; exact k)
  intro pre a post h
  rw [key, List.nil_append]
  exact step pre a post h
/-- a loop that may find: the first for which it returns -/
theorem wp_find {A β : Type} {g : GM} {f : SM} {as : List A} {r : Rho} {K : Out → Option β} {Q : β → Prop} {enc : A → D} (p : A → Bool) (v : A → D)
    (step : ∀ a ∈ as, wp ((g r (enc a)).bind f) (fun o => if p a = true then ∃ r', o = .rt (v a) r' else goesOn (· = r) o))
    (k1 : ∀ a r', as.find? p = some a → wp (K (.rt (v a) r')) Q) (k2 : as.find? p = none → wp (K (.nx r)) Q) : wp ((forL g f (as.map enc) r).bind K) Q := by
  induction as with
  | nil => exact k2 rfl
  | cons a as ih =>
    rw [List.map_cons, forL_cons]
    obtain ⟨o, e, ho⟩ := step a (by simp)
    rw [e, ob_some]
    cases h : p a with
    | true =>
      rw [h, if_pos rfl] at ho
      obtain ⟨r', rfl⟩ := ho
      exact k1 a r' (by simp [h])
    | false =>
      rw [h, if_neg (by simp)] at ho
      have ih' := ih (fun b m => step b (List.mem_cons_of_mem _ m)) (fun b r' hb => k1 b r' (by simp [h, hb])) (fun hb => k2 (by simp [h, hb]))
      cases o with
      | nx r2 => cases ho; exact ih'
      | ct r2 => cases ho; exact ih'
      | _ => exact ho.elim
/-- comprehensions -/
theorem wp_cmap {A β : Type} {g : GM} {el : EM} {is : List Nat} {as : List A} {r : Rho} {K : List D × Rho → Option β} {Q : β → Prop} {enc : A → D} (e : A → D)
    (step : ∀ a ∈ as, wp (it1 g yesM el is r (enc a)) (· = (some (e a), r))) (k : wp (K (as.map e, r)) Q) : wp ((compL g yesM el is (as.map enc) r).bind K) Q := by
  rw [compL_map enc e as fun a m => wp_val (step a m)]; exact k
/-- a comprehension that draws -/
theorem wp_ctown {A β : Type} {g : GM} {t : TM} {el : EM} {is : List Nat} {as : List A} {K : List D × Rho → Option β} {Q : β → Prop} {enc : A → D} (st : List D → Rho) (c : Nat) (tw0 : List D) (G : A → D → Prop)
    (step : ∀ a ∈ as, ∀ tw : List D, tw.length ≤ tw0.length + c * as.length → wp (it1 g t el is (st tw) (enc a)) (fun q => (∃ tw' : List D, tw'.length ≤ tw.length + c ∧ q.2 = st tw') ∧ ∀ d, q.1 = some d → G a d))
    (k : ∀ (bs : List (A × D)) (tw : List D), (bs.map (·.1)).Sublist as → (∀ b ∈ bs, G b.1 b.2) → tw.length ≤ tw0.length + c * as.length → wp (K (bs.map (·.2), st tw)) Q) : wp ((compL g t el is (as.map enc) (st tw0)).bind K) Q := by
  obtain ⟨bs, r', h1, h2, h3, _, tw, h4, rfl⟩ := compL_inv (g := g) (t := t) (el := el) (is := is) enc G (fun bs q => (∀ b ∈ bs, b ∈ as) ∧ ∃ tw : List D, tw.length + c * bs.length ≤ tw0.length + c * as.length ∧ q = st tw) (fun a bs q ⟨h, tw, hl, hq⟩ => by
    subst hq
    simp only [List.length_cons, Nat.mul_add, Nat.mul_one] at hl
    obtain ⟨⟨o, r1⟩, e, ⟨tw', h1, h2⟩, h3⟩ := step a (h a (by simp)) tw (by omega)
    exact ⟨o, r1, e, h3, fun b m => h b (List.mem_cons_of_mem _ m), tw', by omega, h2⟩) as (st tw0) ⟨fun _ h => h, tw0, Nat.le_refl _, rfl⟩
  rw [h3]
  exact k bs tw h1 h2 (by simpa using h4)
/-- the parts of a row without one -/
theorem cut_from {α : Type} (xs : List α) (k : Nat) : cutD xs (some (k : Int)) none = xs.drop k := by
  unfold cutD
  rw [HT.sIx_none, HT.sIx_nat]
  rcases Nat.le_total k xs.length with h | h
  · rw [Nat.min_eq_left h]
    exact List.take_of_length_le (by simp)
  · rw [Nat.min_eq_right h, List.drop_of_length_le h]
    simp
theorem cut_to {α : Type} (xs : List α) (k : Nat) : cutD xs none (some (k : Int)) = xs.take k := by
  unfold cutD
  rw [HT.sIx_none, HT.sIx_nat, List.drop_zero, Nat.sub_zero]
  rcases Nat.le_total k xs.length with h | h
  · rw [Nat.min_eq_left h]
  · rw [Nat.min_eq_right h, List.take_length, List.take_of_length_le h]
theorem cut_from1 {α : Type} (xs : List α) (k : Nat) : cutD xs (some ((k : Int) + 1)) none = xs.drop (k + 1) := by
  rw [show ((k : Int) + 1) = ((k + 1 : Nat) : Int) by omega]; exact cut_from xs (k + 1)
end DL
namespace PG
open PySem L2 DL
def N_is_whole : List Str := ["thing", "low", "high"]
def b_is_whole : SM :=
    (retM (andVM (unM (isiD .int) (varM 0)) (andVM (notVM (unM (isiD .bool) (varM 0))) (chM leB leB (varM 1) (varM 0) (varM 2)))))
def g_is_whole : List D → Option D := runF N_is_whole b_is_whole
def N_are_rising : List Str := ["row", "one", "two"]
def Ce_are_rising_1 : EM :=
    (opM (bD ltB) (varM 1) (varM 2))
def b_are_rising : SM :=
    (retM (unM allD (ofL (compM [1, 2] (zipM (slM (varM 0) noM (someM (unM negD (cM (PyData.int 1))))) (slM (varM 0) (someM (cM (PyData.int 1))) noM)) (tupG 2 (consG (nameG 1) (consG (nameG 2) nilG))) yesM Ce_are_rising_1))))
def g_are_rising : List D → Option D := runF N_are_rising b_are_rising
def N_is_tie : List Str := ["thing", "many", "one"]
def Ce_is_tie_1 : EM :=
    (callM g_is_whole (consM (varM 2) (consM (cM (PyData.int 0)) (consM (opM subD (varM 1) (cM (PyData.int 1))) nilM))))
def b_is_tie : SM :=
    (seqS (ifM (orM (notM (truM (unM (isiD .tuple) (varM 0)))) (orM (tstM neB (unM lenD (varM 0)) (cM (PyData.int 2))) (notM (truM (unM allD (ofL (compM [2] (seqM (varM 0)) (nameG 2) yesM Ce_is_tie_1))))))) (retM (cM (PyData.bool false))) skipM)
    (retM (opM (bD ltB) (opM ixD (varM 0) (cM (PyData.int 0))) (opM ixD (varM 0) (cM (PyData.int 1))))))
def g_is_tie : List D → Option D := runF N_is_tie b_is_tie
def N_is_net : List Str := ["thing", "many", "ties", "rim", "tie", "knot"]
def Ce_is_net_1 : EM :=
    (callM g_is_tie (consM (varM 4) (consM (varM 1) nilM)))
def Ce_is_net_2 : EM :=
    (callM g_is_whole (consM (varM 5) (consM (cM (PyData.int 0)) (consM (opM subD (varM 1) (cM (PyData.int 1))) nilM))))
def b_is_net : SM :=
    (seqS (ifM (orM (notM (truM (unM (isiD .tuple) (varM 0)))) (orM (tstM neB (unM lenD (varM 0)) (cM (PyData.int 3))) (notM (truM (callM g_is_whole (consM (opM ixD (varM 0) (cM (PyData.int 0))) (consM (cM (PyData.int 1)) (consM (cM (PyData.int 7)) nilM)))))))) (retM (cM (PyData.bool false))) skipM)
    (seqS (asgG (tupG 3 (consG (nameG 1) (consG (nameG 2) (consG (nameG 3) nilG)))) (varM 0))
    (seqS (ifM (orM (notM (truM (unM (isiD .tuple) (varM 2)))) (orM (tstM gtD (unM lenD (varM 2)) (cM (PyData.int 9))) (notM (truM (unM allD (ofL (compM [4] (seqM (varM 2)) (nameG 4) yesM Ce_is_net_1))))))) (retM (cM (PyData.bool false))) skipM)
    (seqS (ifM (orM (notM (truM (unM (isiD .tuple) (varM 3)))) (orM (tstM eqB (varM 3) (tupM nilM)) (notM (truM (unM allD (ofL (compM [5] (seqM (varM 3)) (nameG 5) yesM Ce_is_net_2))))))) (retM (cM (PyData.bool false))) skipM)
    (retM (andVM (callM g_are_rising (consM (varM 2) nilM)) (callM g_are_rising (consM (varM 3) nilM))))))))
def g_is_net : List D → Option D := runF N_is_net b_is_net
def N_beside : List Str := ["net", "knot", "found", "other"]
def Ct_beside_1 : TM :=
    (tstM inB (tupM (consM (opM min2D (varM 1) (varM 3)) (consM (opM max2D (varM 1) (varM 3)) nilM))) (opM ixD (varM 0) (cM (PyData.int 1))))
def Ce_beside_1 : EM :=
    (varM 3)
def b_beside : SM :=
    (seqS (asgLM 2 (compM [3] (rng1M (opM ixD (varM 0) (cM (PyData.int 0)))) (nameG 3) Ct_beside_1 Ce_beside_1))
    (retM (unM tupleD (varM 2))))
def g_beside : List D → Option D := runF N_beside b_beside
def N_led_on : List Str := ["net", "way", "found", "knot"]
def F_led_on_1 (hh : List D → Option D) : SM :=
    (ifM (tstM notInB (varM 3) (varM 1)) (exprM (extM 2 (callM hh (consM (varM 0) (consM (opM addD (varM 1) (tupM (consM (varM 3) nilM))) nilM))))) skipM)
def b_led_on (hh : List D → Option D) : SM :=
    (seqS (newM 2 (lstM nilM))
    (seqS (ifM (andM (tstM gtD (unM lenD (varM 1)) (cM (PyData.int 1))) (andM (tstM inB (opM ixD (varM 1) (unM negD (cM (PyData.int 1)))) (opM ixD (varM 0) (cM (PyData.int 2)))) (tstM ltB (opM ixD (varM 1) (cM (PyData.int 0))) (opM ixD (varM 1) (unM negD (cM (PyData.int 1))))))) (exprM (appM 2 (varM 1))) skipM)
    (seqS (forM (seqM (callM g_beside (consM (varM 0) (consM (opM ixD (varM 1) (unM negD (cM (PyData.int 1)))) nilM)))) (nameG 3) (F_led_on_1 hh))
    (frzM 2 (retM (varM 2))))))
def gr_led_on : Nat → List D → Option D
  | 0 => fun _ => none
  | nn + 1 => runF N_led_on (b_led_on (gr_led_on nn))
def g_led_on : List D → Option D := gr_led_on 40
def N_routes : List Str := ["net", "found", "knot"]
def F_routes_1 : SM :=
    (exprM (extM 1 (callM g_led_on (consM (varM 0) (consM (tupM (consM (varM 2) nilM)) nilM)))))
def b_routes : SM :=
    (seqS (newM 1 (lstM nilM))
    (seqS (forM (seqM (opM ixD (varM 0) (cM (PyData.int 2)))) (nameG 2) F_routes_1)
    (retM (unM tupleD (unM sortD2 (ownM 1))))))
def g_routes : List D → Option D := runF N_routes b_routes
def N_is_route : List Str := ["net", "thing", "one", "other"]
def Ce_is_route_1 : EM :=
    (callM g_is_whole (consM (varM 2) (consM (cM (PyData.int 0)) (consM (opM subD (opM ixD (varM 0) (cM (PyData.int 0))) (cM (PyData.int 1))) nilM))))
def Ce_is_route_2 : EM :=
    (opM (bD inB) (varM 3) (callM g_beside (consM (varM 0) (consM (varM 2) nilM))))
def b_is_route : SM :=
    (seqS (ifM (orM (notM (truM (unM (isiD .tuple) (varM 1)))) (orM (tstM ltB (unM lenD (varM 1)) (cM (PyData.int 2))) (notM (truM (unM allD (ofL (compM [2] (seqM (varM 1)) (nameG 2) yesM Ce_is_route_1))))))) (retM (cM (PyData.bool false))) skipM)
    (seqS (ifM (orM (tstM neB (unM lenSetD (varM 1)) (unM lenD (varM 1))) (orM (tstM notInB (opM ixD (varM 1) (cM (PyData.int 0))) (opM ixD (varM 0) (cM (PyData.int 2)))) (orM (tstM notInB (opM ixD (varM 1) (unM negD (cM (PyData.int 1)))) (opM ixD (varM 0) (cM (PyData.int 2)))) (tstM gtD (opM ixD (varM 1) (cM (PyData.int 0))) (opM ixD (varM 1) (unM negD (cM (PyData.int 1)))))))) (retM (cM (PyData.bool false))) skipM)
    (retM (unM allD (ofL (compM [2, 3] (zipM (slM (varM 1) noM (someM (unM negD (cM (PyData.int 1))))) (slM (varM 1) (someM (cM (PyData.int 1))) noM)) (tupG 2 (consG (nameG 2) (consG (nameG 3) nilG))) yesM Ce_is_route_2))))))
def g_is_route : List D → Option D := runF N_is_route b_is_route
end PG
local macro_rules | `(tactic| simp_arith [$xs,*]) => `(tactic| simp only [DL.ob_some, DL.om_some, DL.dat_d, DL.lis_l, DL.dic_m, DL.gt_0, DL.gt_1, DL.gt_2, DL.gt_3, DL.gt_4, DL.gt_5, DL.gt_6, DL.gt_7, DL.gt_b, DL.st_0, DL.st_s, DL.plG_d, DL.plG_n, DL.plainAt_a, DL.varM_a, DL.ownM_a, DL.cM_a, DL.ofL_a, DL.opM_a, DL.unM_a, DL.truM_a, DL.tstM_a, DL.notM_a, DL.cnd_t, DL.cnd_f, DL.andM_a, DL.orM_a, DL.andVM_a, DL.orVM_a, DL.notVM_a, DL.chM_a, DL.nilM_a, DL.consM_a, DL.guard_tt, DL.tupM_a, DL.lstM_a, DL.noM_a, DL.intV_i, DL.someM_a, DL.slM_a, DL.rng1M_a, DL.rng2M_a, DL.zipV_t, DL.zipV_l, DL.zipM_a, DL.seqM_a, DL.callM_a, DL.hereM_a, DL.callRM_a, DL.appM_a, DL.lisV_l, DL.extM_a, DL.popAtM_a, DL.newDM_a, DL.putM_a, DL.lenDM_a, DL.sortDM_a, DL.nameG_a, DL.nilG_a, DL.consG_a, DL.tupG_a, DL.seqS_a, DL.seqK_nx, DL.seqK_rt, DL.seqK_ct, DL.skipM_a, DL.asgM_a, DL.asgG_a, DL.newM_a, DL.asgLM_a, DL.retM_a, DL.exprM_a, DL.ifM_a, DL.forM_a, DL.frzM_a, DL.runF_a, DL.finF_rt, DL.finF_nx, DL.runR_a, DL.finR_rt, DL.finR_nx, DL.sz_0, DL.sz_1, DL.sz_2, DL.sz_3, DL.sz_4, DL.sz_5, DL.sz_6, DL.sz_7, DL.sz_8, DL.sz_9, DL.sz_10, DL.sz_11, DL.sz_12, DL.sz_13, DL.sz_14, DL.sz_15, DL.sz_16, DL.sz_17, DL.sz_18, DL.sz_19, DL.sz_20, DL.sz_21, DL.sz_22, DL.sz_23, DL.sz_24, DL.sz_25, DL.sz_26, DL.sz_27, DL.sz_28, DL.sz_29, DL.sz_30, DL.nc_0, DL.nc_1, DL.nc_2, DL.nc_3, DL.nc_4, DL.nc_5, DL.nc_6, DL.nc_7, DL.nc_8, DL.nc_9, DL.nc_10, DL.nc_11, DL.nc_12, DL.nc_13, DL.nc_14, DL.nc_15, DL.nc_16, DL.nc_17, DL.nc_18, DL.nc_19, DL.nc_20, DL.nc_21, DL.nc_22, DL.nc_23, DL.nc_24, DL.nc_25, DL.nc_26, DL.nc_27, DL.nc_28, DL.nc_29, DL.nc_30, DL.addD_i, DL.addD_t, DL.addD_l, DL.subD_i, DL.modD_i, DL.fdivD_i, DL.mulD_i, DL.lenD_t, DL.lenD_l, DL.tupleD_t, DL.tupleD_l, DL.listD_t, DL.listD_l, DL.truD_i, DL.truD_b, DL.truD_n, DL.truD_l, DL.truD_t, DL.ixD_t, DL.ixD_l, DL.negD_i, DL.bD_a, DL.ltB_i, DL.leB_i, DL.geB_i, DL.eqB_i, DL.neB_i, DL.min2D_i, DL.max2D_i, DL.items_t, DL.items_l, DL.isNN, DL.slD_t, DL.slD_l, DL.sortD2_l, DL.sortD2_t, DL.p_ge0, DL.p_geS, DL.p_tk0, DL.p_tkS, DL.p_tkN, DL.p_dr0, DL.p_drS, DL.p_drN, DL.p_mpC, DL.p_mpN, DL.p_apC, DL.p_apN, DL.p_lnC, DL.p_lnN, DL.p_rpS, DL.p_rp0, DL.p_alC, DL.p_alN, DL.p_gdS, DL.p_gdN, DL.p_tlS, DL.p_tlN, DL.p_ieC, DL.p_ieN, DL.p_nt, DL.p_nf, DL.p_atb, DL.p_afb, DL.p_abt, DL.p_abf, DL.p_eqS, DL.p_dT, DL.p_dF, DL.p_TA, DL.p_AT, DL.p_TO, DL.p_OT, DL.p_startD, DL.p_startR, DL.forK_nx, DL.forK_ct, DL.forK_rt, DL.yesM_a, DL.it1_a, DL.compM_a, DL.wipeR_c, DL.wipeR_n, DL.restR_c, DL.restR_n, DL.gtD_i, DL.gtD_T, DL.ob_assoc, DL.om_bind, DL.ob_map, DL.om_map, DL.cnd_bind, DL.cnd_map, DL.guard_bind, DL.guard_map, DL.atI_c0, DL.atI_c1, DL.atI_c2, DL.atI_c3, DL.encN_0, DL.encN_1, DL.encN_2, DL.encN_u, DL.revD_t, DL.revD_l, Nat.reduceAdd, Nat.reduceSub, Nat.reduceMul, Int.reduceLT, Int.reduceLE, Int.reducePow, Int.reduceNeg, Int.reduceAdd, Int.reduceSub, Int.reduceMul, Int.reduceBEq, Int.reduceBNe, Int.reduceToNat, $xs,*])
namespace DL
open PySem L2 GT
def wholeD (d : D) (lo hi : Int) : Bool := match d with
  | .int i => decide (lo ≤ i) && decide (i ≤ hi)
  | _ => false
theorem isi_int (d : D) : isiD .int d = some (.bool (match d with | .int _ => true | .bool _ => true | _ => false)) := by cases d <;> rfl
theorem isi_bool (d : D) : isiD .bool d = some (.bool (match d with | .bool _ => true | _ => false)) := by cases d <;> rfl
theorem isi_tuple (d : D) : isiD .tuple d = some (.bool (match d with | .tuple _ => true | _ => false)) := by cases d <;> rfl
theorem cut_init {α : Type} (xs : List α) : cutD xs none (some (-1)) = xs.dropLast := by
  unfold cutD
  have e : HT.sIx xs.length xs.length (some (-1)) = xs.length - 1 := by
    show (if (-1 : Int) < 0 then ((-1 : Int) + (xs.length : Int)).toNat else min (-1 : Int).toNat xs.length) = _
    rw [if_pos (by decide)]; omega
  rw [e, HT.sIx_none, List.drop_zero, Nat.sub_zero, List.dropLast_eq_take]
theorem cut_tail {α : Type} (xs : List α) : cutD xs (some 1) none = xs.tail := by
  unfold cutD
  have e : HT.sIx xs.length 0 (some 1) = min 1 xs.length := HT.sIx_nat xs.length 0 1
  rw [e, HT.sIx_none]
  cases xs with
  | nil => rfl
  | cons x xs => simp
/-- neighbours rise -/
def upB {α : Type} (lt : α → α → Bool) : List α → Bool
  | a :: b :: r => lt a b && upB lt (b :: r)
  | _ => true
theorem upB_zip {α : Type} (lt : α → α → Bool) : ∀ xs : List α, ((xs.dropLast.zip xs.tail).all fun p => lt p.1 p.2) = upB lt xs
  | [] => rfl
  | [_] => rfl
  | a :: b :: r => by
    have ih := upB_zip lt (b :: r)
    simp only [List.dropLast_cons_cons, List.tail_cons, List.zip_cons_cons, List.all_cons, upB] at ih ⊢
    rw [ih]
theorem zipL_enc {α : Type} (enc : α → D) (xs ys : List α) : zipL (xs.map enc) (ys.map enc) = (xs.zip ys).map fun p => pairD (enc p.1) (enc p.2) := by
  unfold zipL
  rw [List.zipWith_map, List.zip, List.map_zipWith]
theorem allD_b (bs : List Bool) : allD (.list (bs.map .bool)) = some (.bool (bs.all id)) := by
  show (blsOf (bs.map .bool)).map _ = _
  rw [show blsOf (bs.map PyData.bool) = some bs from by induction bs with
    | nil => rfl
    | cons b bs ih => simp [blsOf, ih]]
  rfl
theorem allD_map {α : Type} (p : α → Bool) (xs : List α) : allD (.list (xs.map fun x => .bool (p x))) = some (.bool (xs.all p)) := by
  have := allD_b (xs.map p)
  rw [List.map_map] at this
  rw [show (fun x => PyData.bool (p x)) = PyData.bool ∘ p from rfl, this]
  simp [List.all_map]
end DL
namespace PG
open PySem L2 DL GT
theorem whole_eval (d : D) (lo hi : Int) : g_is_whole [d, .int lo, .int hi] = some (.bool (wholeD d lo hi)) := by
  unfold g_is_whole b_is_whole N_is_whole
  cases d with
  | int i =>
    simp_arith [isi_int, isi_bool]
    by_cases h : lo ≤ i
    · simp_arith [h, wholeD]
    · simp_arith [h, wholeD]
  | _ => simp_arith [isi_int, isi_bool, wholeD]
theorem rising_eval (lt : D → D → Bool) (xs : List D) (hl : xs.length ≤ 1000) (hlt : ∀ x ∈ xs, ∀ y ∈ xs, ltB x y = some (lt x y)) : g_are_rising [.tuple xs] = some (.bool (upB lt xs)) := by
  unfold g_are_rising b_are_rising N_are_rising
  have hc := compL_map (g := tupG 2 (consG (nameG 1) (consG (nameG 2) nilG))) (el := Ce_are_rising_1) (is := [1, 2]) (r := [some (.d (.tuple xs)), none, none]) (fun p : D × D => pairD p.1 p.2) (fun p => .bool (lt p.1 p.2)) (xs.dropLast.zip xs.tail) (fun p m => by
    have h1 : p.1 ∈ xs := List.dropLast_subset _ (List.of_mem_zip m).1
    have h2 : p.2 ∈ xs := List.mem_of_mem_tail (List.of_mem_zip m).2
    unfold Ce_are_rising_1 pairD
    simp_arith [hlt p.1 h1 p.2 h2])
  have hz : zipL xs.dropLast xs.tail = (xs.dropLast.zip xs.tail).map (fun p : D × D => pairD p.1 p.2) := by
    have := zipL_enc id xs.dropLast xs.tail
    simpa using this
  have hs : szOk (zipL xs.dropLast xs.tail).length = true := szOk_of (by rw [hz]; simp; omega)
  rw [← hz] at hc
  simp_arith [cut_init, cut_tail, hs, hc, allD_map, upB_zip]
end PG
namespace DL
open PySem L2 GT
/-- data not too deep, not too long -/
def nice : Nat → D → Bool
  | _, .none => true
  | _, .bool _ => true
  | _, .int _ => true
  | _, .str x => PyData.strOk x && decide (x.length ≤ 1000)
  | k + 1, .tuple xs => decide (xs.length ≤ 1000) && xs.all (nice k)
  | k + 1, .list xs => decide (xs.length ≤ 1000) && xs.all (nice k)
  | _, _ => false
theorem nice_all {k : Nat} {xs : List D} (ih : ∀ d, nice k d = true → d.canLay0 = true ∧ d.depth ≤ k) : xs.all (nice k) = true → PyData.canLayAll0 xs = true ∧ PyData.depthAll xs ≤ k := by
  induction xs with
  | nil => intro _; simp [PyData.canLayAll0, PyData.depthAll]
  | cons x xs ihx =>
    intro h
    simp only [List.all_cons, Bool.and_eq_true] at h
    have h1 := ih x h.1
    have h2 := ihx h.2
    simp only [PyData.canLayAll0, PyData.depthAll, h1.1, h2.1, Bool.and_self, true_and]
    omega
theorem nice_lay : ∀ (k : Nat) (d : D), nice k d = true → d.canLay0 = true ∧ d.depth ≤ k
  | k, .none, _ => by simp [PyData.canLay0, PyData.depth]
  | k, .bool _, _ => by simp [PyData.canLay0, PyData.depth]
  | k, .int _, _ => by simp [PyData.canLay0, PyData.depth]
  | k, .str x, h => by cases k <;> (simp [nice] at h; simp [PyData.canLay0, PyData.depth, h.1])
  | 0, .tuple xs, h => by simp [nice] at h
  | k + 1, .tuple xs, h => by
    simp only [nice, Bool.and_eq_true] at h
    have := nice_all (nice_lay k) h.2
    simp only [PyData.canLay0, PyData.depth]; exact ⟨this.1, by omega⟩
  | 0, .list xs, h => by simp [nice] at h
  | k + 1, .list xs, h => by
    simp only [nice, Bool.and_eq_true] at h
    have := nice_all (nice_lay k) h.2
    simp only [PyData.canLay0, PyData.depth]; exact ⟨this.1, by omega⟩
  | 0, .dict _, h => by simp [nice] at h
  | _ + 1, .dict _, h => by simp [nice] at h
theorem nice_shaped {k : Nat} {d : D} (h : nice k d = true) (hk : k ≤ 60) : SeqAt.shaped d = true := by
  have := nice_lay k d h
  unfold SeqAt.shaped
  rw [this.1, decide_eq_true (by omega)]; rfl
theorem nice_tup {k : Nat} {xs : List D} (h : nice k (.tuple xs) = true) : xs.length ≤ 1000 ∧ ∃ j, k = j + 1 ∧ ∀ x ∈ xs, nice j x = true := by
  cases k with
  | zero => simp [nice] at h
  | succ j => simp only [nice, Bool.and_eq_true, decide_eq_true_eq, List.all_eq_true] at h; exact ⟨h.1, j, rfl, h.2⟩
theorem eqB_nil {xs : List D} (h : SeqAt.shaped (.tuple xs) = true) : eqB (.tuple xs) (.tuple []) = some xs.isEmpty := by
  unfold eqB
  rw [h]
  cases xs <;> rfl
def tieD (m : Int) (d : D) : Bool := match d with
  | .tuple [.int x, .int y] => (decide (0 ≤ x) && decide (x ≤ m - 1)) && ((decide (0 ≤ y) && decide (y ≤ m - 1)) && decide (x < y))
  | _ => false
def ltD (x y : D) : Bool := (ltB x y).getD false
def netD (d : D) : Bool := match d with
  | .tuple [.int m, .tuple ts, .tuple rim] => (decide (1 ≤ m) && decide (m ≤ 7)) && (decide (ts.length ≤ 9) && (ts.all (tieD m) && (!rim.isEmpty && (rim.all (wholeD · 0 (m - 1)) && (upB ltD ts && upB ltD rim)))))
  | _ => false
theorem tieD_lt {m : Int} {x y : D} (hx : tieD m x = true) (hy : tieD m y = true) : ltB x y = some (ltD x y) := by
  unfold tieD at hx hy
  split at hx
  · split at hy
    · rfl
    · cases hy
  · cases hx
theorem wholeD_lt {a b : Int} {x y : D} (hx : wholeD x a b = true) (hy : wholeD y a b = true) : ltB x y = some (ltD x y) := by
  unfold wholeD at hx hy
  split at hx
  · split at hy
    · rfl
    · cases hy
  · cases hx
theorem len3 {xs : List D} (h : xs.length = 3) : ∃ a b c, xs = [a, b, c] := by
  match xs, h with
  | [a, b, c], _ => exact ⟨a, b, c, rfl⟩
theorem len2 {xs : List D} (h : xs.length = 2) : ∃ a b, xs = [a, b] := by
  match xs, h with
  | [a, b], _ => exact ⟨a, b, rfl⟩
theorem atI_0 {α : Type} (a : α) (xs : List α) : atI (a :: xs) 0 = some a := by
  unfold atI ixN; simp
theorem atI_1 {α : Type} (a b : α) (xs : List α) : atI (a :: b :: xs) 1 = some b := by
  unfold atI ixN
  rw [if_pos (by decide), if_pos (by simp only [List.length_cons]; omega)]; rfl
end DL
namespace PG
open PySem L2 DL GT
theorem tie_eval (d : D) (m : Int) : g_is_tie [d, .int m] = some (.bool (tieD m d)) := by
  unfold g_is_tie b_is_tie N_is_tie
  cases d with
  | tuple ds =>
    by_cases hl : ds.length = 2
    · obtain ⟨a, b, rfl⟩ := len2 hl
      have hc := compL_map (g := nameG 2) (el := Ce_is_tie_1) (is := [2]) (r := [some (.d (.tuple [a, b])), some (.d (.int m)), none]) id (fun x => .bool (wholeD x 0 (m - 1))) [a, b] (fun x _ => by
        unfold Ce_is_tie_1
        simp_arith [whole_eval, id])
      rw [List.map_id] at hc
      simp_arith [isi_tuple, hc, allD_map, atI_0, atI_1]
      have ha : allD (.list [.bool (wholeD a 0 (m - 1)), .bool (wholeD b 0 (m - 1))]) = some (.bool (wholeD a 0 (m - 1) && wholeD b 0 (m - 1))) := by
        have := allD_b [wholeD a 0 (m - 1), wholeD b 0 (m - 1)]
        simpa using this
      simp_arith [ha]
      cases h1 : wholeD a 0 (m - 1) with
      | false =>
        simp_arith [Bool.false_and]
        unfold tieD wholeD at *
        split
        · rename_i e; cases e; simp only at h1; rw [h1]; rfl
        · rfl
      | true =>
        cases h2 : wholeD b 0 (m - 1) with
        | false =>
          simp_arith [Bool.and_false]
          unfold tieD wholeD at *
          split
          · rename_i e; cases e; simp only at h1 h2; rw [h1, h2]; rfl
          · rfl
        | true =>
          simp_arith [Bool.and_true]
          unfold wholeD at h1 h2
          split at h1
          · split at h2
            · simp_arith [atI_0, atI_1, tieD]
              rw [h1, h2]; rfl
            · cases h2
          · cases h1
    · have hb : ((ds.length : Int) == 2) = false := by simp; omega
      simp_arith [isi_tuple, hb]
      unfold tieD
      split
      · rename_i e; cases e; exact absurd rfl hl
      · rfl
  | _ => simp_arith [isi_tuple, tieD]
theorem netD_no {d : D} (h : ∀ m ts rim, d ≠ .tuple [.int m, .tuple ts, .tuple rim]) : netD d = false := by
  unfold netD
  split
  · exact absurd rfl (h _ _ _)
  · rfl
theorem net_eval (d : D) (hn : nice 20 d = true) : g_is_net [d] = some (.bool (netD d)) := by
  unfold g_is_net b_is_net N_is_net
  cases d with
  | tuple ds =>
    by_cases hl : ds.length = 3
    · obtain ⟨a, b, c, rfl⟩ := len3 hl
      cases hw : wholeD a 1 7 with
      | false =>
        simp_arith [isi_tuple, atI_0, whole_eval, hw]
        unfold netD wholeD at *
        split
        · rename_i e; cases e; simp only at hw; rw [hw]; rfl
        · rfl
      | true =>
        obtain ⟨m, rfl⟩ : ∃ m, a = .int m := by
          unfold wholeD at hw; split at hw
          · exact ⟨_, rfl⟩
          · cases hw
        have hw' : (decide (1 ≤ m) && decide (m ≤ 7)) = true := hw
        cases b with
        | tuple ts =>
          by_cases h9 : ts.length ≤ 9
          · have h9' : decide ((9 : Int) < (ts.length : Nat)) = false := decide_eq_false (by omega)
            have hc := compL_map (g := nameG 4) (el := Ce_is_net_1) (is := [4]) (r := [some (.d (.tuple [.int m, .tuple ts, c])), some (.d (.int m)), some (.d (.tuple ts)), some (.d c), none, none]) id (fun x => .bool (tieD m x)) ts (fun x _ => by
              unfold Ce_is_net_1
              simp_arith [tie_eval, id])
            rw [List.map_id] at hc
            have hz : szOk ts.length = true := szOk_of (by omega)
            cases ht : ts.all (tieD m) with
            | false =>
              simp_arith [isi_tuple, atI_0, whole_eval, hw, h9', hz, hc, allD_map, ht]
              unfold netD
              split
              · rename_i e; cases e; rw [ht]; simp
              · rfl
            | true =>
              cases c with
              | tuple rim =>
                obtain ⟨_, j, ej, hsub⟩ := nice_tup hn
                have hr := hsub (.tuple rim) (by simp)
                have hsh := nice_shaped hr (by omega)
                have hlen := (nice_tup hr).1
                have hz2 : szOk rim.length = true := szOk_of (by omega)
                have hc2 := compL_map (g := nameG 5) (el := Ce_is_net_2) (is := [5]) (r := [some (.d (.tuple [.int m, .tuple ts, .tuple rim])), some (.d (.int m)), some (.d (.tuple ts)), some (.d (.tuple rim)), none, none]) id (fun x => .bool (wholeD x 0 (m - 1))) rim (fun x _ => by
                  unfold Ce_is_net_2
                  simp_arith [whole_eval, id])
                rw [List.map_id] at hc2
                cases he : rim.isEmpty with
                | true =>
                  simp_arith [isi_tuple, atI_0, whole_eval, hw, h9', hz, hc, allD_map, ht, eqB_nil hsh, he]
                  unfold netD
                  simp [he]
                | false =>
                  cases hk : rim.all (wholeD · 0 (m - 1)) with
                  | false =>
                    simp_arith [isi_tuple, atI_0, whole_eval, hw, h9', hz, hc, allD_map, ht, eqB_nil hsh, he, hz2, hc2, hk]
                    unfold netD
                    simp [hk]
                  | true =>
                    have u1 := rising_eval ltD ts (by omega) fun x mx y my => tieD_lt (List.all_eq_true.mp ht x mx) (List.all_eq_true.mp ht y my)
                    have u2 := rising_eval ltD rim hlen fun x mx y my => wholeD_lt (List.all_eq_true.mp hk x mx) (List.all_eq_true.mp hk y my)
                    have hN : netD (.tuple [.int m, .tuple ts, .tuple rim]) = (upB ltD ts && upB ltD rim) := by
                      simp only [netD]
                      rw [hw', ht, hk, he, decide_eq_true h9]; rfl
                    rw [hN]
                    cases hu : upB ltD ts with
                    | false =>
                      simp_arith [isi_tuple, atI_0, whole_eval, hw, h9', hz, hc, allD_map, ht, eqB_nil hsh, he, hz2, hc2, hk, u1, u2, hu, Bool.false_and]
                    | true =>
                      simp_arith [isi_tuple, atI_0, whole_eval, hw, h9', hz, hc, allD_map, ht, eqB_nil hsh, he, hz2, hc2, hk, u1, u2, hu, Bool.true_and]
              | _ =>
                simp_arith [isi_tuple, atI_0, whole_eval, hw, h9', hz, hc, allD_map, ht]
                rw [netD_no (by intro _ _ _ e; cases e)]
          · have h9' : decide ((9 : Int) < (ts.length : Nat)) = true := decide_eq_true (by omega)
            simp_arith [isi_tuple, atI_0, whole_eval, hw, h9']
            unfold netD
            split
            · rename_i e; cases e; rw [decide_eq_false h9]; simp
            · rfl
        | _ =>
          simp_arith [isi_tuple, atI_0, whole_eval, hw]
          rw [netD_no (by intro _ _ _ e; cases e)]
    · have hb : ((ds.length : Int) == 3) = false := by simp; omega
      simp_arith [isi_tuple, hb]
      rw [netD_no (by intro _ _ _ e; cases e; exact hl rfl)]
  | _ =>
    simp_arith [isi_tuple]
    rw [netD_no (by intro _ _ _ e; cases e)]
end PG
local macro_rules | `(tactic| simp_arith [$xs,*]) => `(tactic| simp (maxSteps := 2000000) (disch := omega) only [DL.ob_some, DL.om_some, DL.dat_d, DL.lis_l, DL.dic_m, DL.gt_0, DL.gt_1, DL.gt_2, DL.gt_3, DL.gt_4, DL.gt_5, DL.gt_6, DL.gt_7, DL.gt_b, DL.st_0, DL.st_s, DL.plG_d, DL.plG_n, DL.plainAt_a, DL.varM_a, DL.ownM_a, DL.cM_a, DL.ofL_a, DL.opM_a, DL.unM_a, DL.truM_a, DL.tstM_a, DL.notM_a, DL.cnd_t, DL.cnd_f, DL.andM_a, DL.orM_a, DL.andVM_a, DL.orVM_a, DL.notVM_a, DL.chM_a, DL.nilM_a, DL.consM_a, DL.guard_tt, DL.tupM_a, DL.lstM_a, DL.noM_a, DL.intV_i, DL.someM_a, DL.slM_a, DL.rng1M_a, DL.rng2M_a, DL.zipV_t, DL.zipV_l, DL.zipM_a, DL.seqM_a, DL.callM_a, DL.hereM_a, DL.callRM_a, DL.appM_a, DL.lisV_l, DL.extM_a, DL.popAtM_a, DL.newDM_a, DL.putM_a, DL.lenDM_a, DL.sortDM_a, DL.nameG_a, DL.nilG_a, DL.consG_a, DL.tupG_a, DL.seqS_a, DL.seqK_nx, DL.seqK_rt, DL.seqK_ct, DL.skipM_a, DL.asgM_a, DL.asgG_a, DL.newM_a, DL.asgLM_a, DL.retM_a, DL.exprM_a, DL.ifM_a, DL.forM_a, DL.frzM_a, DL.runF_a, DL.finF_rt, DL.finF_nx, DL.runR_a, DL.finR_rt, DL.finR_nx, DL.sz_0, DL.sz_1, DL.sz_2, DL.sz_3, DL.sz_4, DL.sz_5, DL.sz_6, DL.sz_7, DL.sz_8, DL.sz_9, DL.sz_10, DL.sz_11, DL.sz_12, DL.sz_13, DL.sz_14, DL.sz_15, DL.sz_16, DL.sz_17, DL.sz_18, DL.sz_19, DL.sz_20, DL.sz_21, DL.sz_22, DL.sz_23, DL.sz_24, DL.sz_25, DL.sz_26, DL.sz_27, DL.sz_28, DL.sz_29, DL.sz_30, DL.nc_0, DL.nc_1, DL.nc_2, DL.nc_3, DL.nc_4, DL.nc_5, DL.nc_6, DL.nc_7, DL.nc_8, DL.nc_9, DL.nc_10, DL.nc_11, DL.nc_12, DL.nc_13, DL.nc_14, DL.nc_15, DL.nc_16, DL.nc_17, DL.nc_18, DL.nc_19, DL.nc_20, DL.nc_21, DL.nc_22, DL.nc_23, DL.nc_24, DL.nc_25, DL.nc_26, DL.nc_27, DL.nc_28, DL.nc_29, DL.nc_30, DL.addD_i, DL.addD_t, DL.addD_l, DL.subD_i, DL.modD_i, DL.fdivD_i, DL.mulD_i, DL.lenD_t, DL.lenD_l, DL.tupleD_t, DL.tupleD_l, DL.listD_t, DL.listD_l, DL.truD_i, DL.truD_b, DL.truD_n, DL.truD_l, DL.truD_t, DL.ixD_t, DL.ixD_l, DL.negD_i, DL.bD_a, DL.ltB_i, DL.leB_i, DL.geB_i, DL.eqB_i, DL.neB_i, DL.min2D_i, DL.max2D_i, DL.items_t, DL.items_l, DL.isNN, DL.slD_t, DL.slD_l, DL.sortD2_l, DL.sortD2_t, DL.p_ge0, DL.p_geS, DL.p_tk0, DL.p_tkS, DL.p_tkN, DL.p_dr0, DL.p_drS, DL.p_drN, DL.p_mpC, DL.p_mpN, DL.p_apC, DL.p_apN, DL.p_lnC, DL.p_lnN, DL.p_rpS, DL.p_rp0, DL.p_alC, DL.p_alN, DL.p_gdS, DL.p_gdN, DL.p_tlS, DL.p_tlN, DL.p_ieC, DL.p_ieN, DL.p_nt, DL.p_nf, DL.p_atb, DL.p_afb, DL.p_abt, DL.p_abf, DL.p_eqS, DL.p_dT, DL.p_dF, DL.p_TA, DL.p_AT, DL.p_TO, DL.p_OT, DL.p_startD, DL.p_startR, DL.forK_nx, DL.forK_ct, DL.forK_rt, DL.yesM_a, DL.it1_a, DL.compM_a, DL.wipeR_c, DL.wipeR_n, DL.restR_c, DL.restR_n, DL.gtD_i, DL.gtD_T, DL.ob_assoc, DL.om_bind, DL.ob_map, DL.om_map, DL.cnd_bind, DL.cnd_map, DL.guard_bind, DL.guard_map, DL.atI_c0, DL.atI_c1, DL.atI_c2, DL.atI_c3, DL.encN_0, DL.encN_1, DL.encN_2, DL.encN_u, DL.revD_t, DL.revD_l, DL.eq_TI, DL.ne_TI, DL.in_I, DL.in_Il, DL.in_T, DL.in_R, DL.notInB_a, DL.enumM_a, DL.seqK_ex, DL.finF_ex, DL.forK_ex, DL.tri_no, DL.trm_no, DL.atI_neg1, DL.wipO_nx, DL.wipO_ct, DL.wipO_bk, DL.wipO_rt, DL.wipO_ex, DL.wipM_a, DL.preM_a, DL.two_a, DL.parLM_a, DL.finR_ex, DL.len_map, DL.len_app, DL.len_ir, DL.len_rev, DL.sz_c, DL.rng_c, DL.rngL_n, DL.forM_a', DL.rev_map, DL.seqK_bk, DL.forK_bk, DL.enum_m, DL.emp_map, Nat.reduceAdd, Nat.reduceSub, Nat.reduceMul, Int.reduceLT, Int.reduceLE, Int.reducePow, Int.reduceNeg, Int.reduceAdd, Int.reduceSub, Int.reduceMul, Int.reduceBEq, Int.reduceBNe, Int.reduceToNat, $xs,*])
namespace DL
open PySem L2 GT
theorem encF_lst {α : Type} [DecidableEq α] {k : Nat} {f : α → D} (h : EncF k f) : EncF (k + 1) (fun xs : List α => PyData.list (xs.map f)) :=
  ⟨fun xs => by simpa [PyData.canLay0] using layAll h xs, fun xs => by have := depAll h xs; simp only [PyData.depth]; omega, fun xs ys => by simp only [PyData.eqv]; exact eqvAll_map h xs ys⟩
theorem eq_LI (a b : List Int) : eqB (.list (a.map .int)) (.list (b.map .int)) = some (decide (a = b)) := eq_one (encF_lst encF_int) (by decide) a b
theorem ne_LI (a b : List Int) : neB (.list (a.map .int)) (.list (b.map .int)) = some (!decide (a = b)) := ne_one (encF_lst encF_int) (by decide) a b
theorem eq_LI0 (a : List Int) : eqB (.list (a.map .int)) (.list []) = some a.isEmpty := (eq_one (encF_lst encF_int) (by decide) a []).trans (by cases a <;> rfl)
theorem ne_LI0 (a : List Int) : neB (.list (a.map .int)) (.list []) = some (!a.isEmpty) := (ne_one (encF_lst encF_int) (by decide) a []).trans (by cases a <;> rfl)
theorem eq_LT (a b : List Tie) : eqB (.list (a.map encT)) (.list (b.map encT)) = some (decide (a = b)) := eq_one (encF_lst encF_T) (by decide) a b
theorem ne_LT (a b : List Tie) : neB (.list (a.map encT)) (.list (b.map encT)) = some (!decide (a = b)) := ne_one (encF_lst encF_T) (by decide) a b
theorem eq_LR (a b : List (List Int)) : eqB (.list (a.map TI)) (.list (b.map TI)) = some (decide (a = b)) := eq_one (encF_lst encF_TI) (by decide) a b
theorem ne_LR (a b : List (List Int)) : neB (.list (a.map TI)) (.list (b.map TI)) = some (!decide (a = b)) := ne_one (encF_lst encF_TI) (by decide) a b
theorem eq_TR (a b : List (List Int)) : eqB (.tuple (a.map TI)) (.tuple (b.map TI)) = some (decide (a = b)) := eq_one (encF_tup encF_TI) (by decide) a b
theorem ne_TR (a b : List (List Int)) : neB (.tuple (a.map TI)) (.tuple (b.map TI)) = some (!decide (a = b)) := ne_one (encF_tup encF_TI) (by decide) a b
theorem eq_B (a b : Bool) : eqB (.bool a) (.bool b) = some (decide (a = b)) := eq_one encF_bool (by decide) a b
theorem ne_B (a b : Bool) : neB (.bool a) (.bool b) = some (!decide (a = b)) := ne_one encF_bool (by decide) a b
theorem wp_mapE {α β : Type} (e : Option α) (f : α → β) (Q : β → Prop) : wp (e.map f) Q = wp (e.bind fun a => some (f a)) Q := by cases e <;> rfl
theorem heads_map {α : Type} (k : α → Int) (v : α → D) : ∀ xs : List α, headsI (xs.map fun a => .tuple [.int (k a), v a]) = some (xs.map fun a => (k a, v a))
  | [] => rfl
  | a :: xs => by rw [List.map_cons, headsI, heads_map k v xs]; rfl
theorem sortDict_map0 {α : Type} (k : α → Int) (v : α → D) (xs : List α) : sortDictD (.list (xs.map fun a => .tuple [.int (k a), v a])) = guard' (decide ((dedup (xs.map k)).length < 64)) fun _ => some (.list ((GT.sortI (dedup (xs.map k))).map .int)) := by
  show (headsI _).bind _ = _
  rw [heads_map]
  have e : (xs.map fun a => (k a, v a)).map (·.1) = xs.map k := by simp
  simp only [Option.bind_some, e]
  unfold guard'
  simp only [decide_eq_true_eq]
  rfl
theorem sortDict_map {α : Type} (k : α → Int) (v : α → D) (xs : List α) : sortDictB (.list (xs.map fun a => .tuple [.int (k a), v a])) = guard' (decide ((dedup (xs.map k)).length < 64)) fun _ => some (.list ((GT.sortI (dedup (xs.map k))).map .int)) := by
  unfold sortDictB
  rw [sortDict_map0]
  by_cases h : (dedup (xs.map k)).length < 64
  · rw [decide_eq_true h]; rfl
  · rw [decide_eq_false h]
    cases xs with
    | nil => simp [dedup] at h
    | cons x xs => rfl
theorem lenDict_map {α : Type} (k : α → Int) (v : α → D) (xs : List α) : lenDictD (.list (xs.map fun a => .tuple [.int (k a), v a])) = some (.int (dedup (xs.map k)).length) := by
  show (headsI _).map _ = _
  rw [heads_map]
  have e : (xs.map fun a => (k a, v a)).map (·.1) = xs.map k := by simp
  simp only [Option.map_some, e]
theorem dedup_of_nodup {xs : List Int} (h : xs.Nodup) : (dedup xs).length = xs.length := (dedup_len h fun _ => Iff.rfl).symm
theorem sort_dedup {xs : List Int} (h : xs.Pairwise (· < ·)) : GT.sortI (dedup xs) = xs :=
  sorted_extI _ _ (sortI_lt (dedup_nodup xs)) h fun a => by rw [mem_sortI, mem_dedup]
theorem sort_dedup_iff {xs : List Int} : xs = GT.sortI (dedup xs) ↔ xs.Pairwise (· < ·) :=
  ⟨fun h => by rw [h]; exact sortI_lt (dedup_nodup xs), fun h => (sort_dedup h).symm⟩
theorem map_id_int (xs : List Int) : (xs.map fun a => a) = xs := by simp
theorem cut_f {α : Type} (xs : List α) (k : Nat) : cutD xs (some (k : Int)) none = xs.drop k := DL.cut_from xs k
theorem cut_t {α : Type} (xs : List α) (k : Nat) : cutD xs none (some (k : Int)) = xs.take k := DL.cut_to xs k
theorem cut_f1 {α : Type} (xs : List α) (k : Nat) : cutD xs (some ((k : Int) + 1)) none = xs.drop (k + 1) := DL.cut_from1 xs k
theorem map_drop' {α β : Type} (f : α → β) (xs : List α) (k : Nat) : (xs.map f).drop k = (xs.drop k).map f := List.map_drop.symm
theorem map_take' {α β : Type} (f : α → β) (xs : List α) (k : Nat) : (xs.map f).take k = (xs.take k).map f := List.map_take.symm
theorem map_app' {α β : Type} (f : α → β) (xs ys : List α) : xs.map f ++ ys.map f = (xs ++ ys).map f := List.map_append.symm
theorem len_zip {α : Type} (xs : List α) (i : Nat) : (xs.zipIdx i).length = xs.length := by simp
theorem zip_at {α : Type} {xs : List α} {p : α × Nat} (m : p ∈ xs.zipIdx) : xs[p.2]? = some p.1 := List.mem_zipIdx_iff_getElem?.mp m
theorem zip_lt {α : Type} {xs : List α} {p : α × Nat} (m : p ∈ xs.zipIdx) : p.2 < xs.length := (List.getElem?_eq_some_iff.mp (zip_at m)).1
end DL
local macro_rules | `(tactic| simp_arith [$xs,*]) => `(tactic| simp only [DL.ob_some, DL.om_some, DL.dat_d, DL.lis_l, DL.dic_m, DL.gt_0, DL.gt_1, DL.gt_2, DL.gt_3, DL.gt_4, DL.gt_5, DL.gt_6, DL.gt_7, DL.gt_b, DL.st_0, DL.st_s, DL.plG_d, DL.plG_n, DL.plainAt_a, DL.varM_a, DL.ownM_a, DL.cM_a, DL.ofL_a, DL.opM_a, DL.unM_a, DL.truM_a, DL.tstM_a, DL.notM_a, DL.cnd_t, DL.cnd_f, DL.andM_a, DL.orM_a, DL.andVM_a, DL.orVM_a, DL.notVM_a, DL.chM_a, DL.nilM_a, DL.consM_a, DL.guard_tt, DL.tupM_a, DL.lstM_a, DL.noM_a, DL.intV_i, DL.someM_a, DL.slM_a, DL.rng1M_a, DL.rng2M_a, DL.zipV_t, DL.zipV_l, DL.zipM_a, DL.seqM_a, DL.callM_a, DL.hereM_a, DL.callRM_a, DL.appM_a, DL.lisV_l, DL.extM_a, DL.popAtM_a, DL.newDM_a, DL.putM_a, DL.lenDM_a, DL.sortDM_a, DL.nameG_a, DL.nilG_a, DL.consG_a, DL.tupG_a, DL.seqS_a, DL.seqK_nx, DL.seqK_rt, DL.seqK_ct, DL.skipM_a, DL.asgM_a, DL.asgG_a, DL.newM_a, DL.asgLM_a, DL.retM_a, DL.exprM_a, DL.ifM_a, DL.forM_a, DL.frzM_a, DL.runF_a, DL.finF_rt, DL.finF_nx, DL.runR_a, DL.finR_rt, DL.finR_nx, DL.sz_0, DL.sz_1, DL.sz_2, DL.sz_3, DL.sz_4, DL.sz_5, DL.sz_6, DL.sz_7, DL.sz_8, DL.sz_9, DL.sz_10, DL.sz_11, DL.sz_12, DL.sz_13, DL.sz_14, DL.sz_15, DL.sz_16, DL.sz_17, DL.sz_18, DL.sz_19, DL.sz_20, DL.sz_21, DL.sz_22, DL.sz_23, DL.sz_24, DL.sz_25, DL.sz_26, DL.sz_27, DL.sz_28, DL.sz_29, DL.sz_30, DL.nc_0, DL.nc_1, DL.nc_2, DL.nc_3, DL.nc_4, DL.nc_5, DL.nc_6, DL.nc_7, DL.nc_8, DL.nc_9, DL.nc_10, DL.nc_11, DL.nc_12, DL.nc_13, DL.nc_14, DL.nc_15, DL.nc_16, DL.nc_17, DL.nc_18, DL.nc_19, DL.nc_20, DL.nc_21, DL.nc_22, DL.nc_23, DL.nc_24, DL.nc_25, DL.nc_26, DL.nc_27, DL.nc_28, DL.nc_29, DL.nc_30, DL.addD_i, DL.addD_t, DL.addD_l, DL.subD_i, DL.modD_i, DL.fdivD_i, DL.mulD_i, DL.lenD_t, DL.lenD_l, DL.tupleD_t, DL.tupleD_l, DL.listD_t, DL.listD_l, DL.truD_i, DL.truD_b, DL.truD_n, DL.truD_l, DL.truD_t, DL.ixD_t, DL.ixD_l, DL.negD_i, DL.bD_a, DL.ltB_i, DL.leB_i, DL.geB_i, DL.eqB_i, DL.neB_i, DL.min2D_i, DL.max2D_i, DL.items_t, DL.items_l, DL.isNN, DL.slD_t, DL.slD_l, DL.sortD2_l, DL.sortD2_t, DL.p_ge0, DL.p_geS, DL.p_tk0, DL.p_tkS, DL.p_tkN, DL.p_dr0, DL.p_drS, DL.p_drN, DL.p_mpC, DL.p_mpN, DL.p_apC, DL.p_apN, DL.p_lnC, DL.p_lnN, DL.p_rpS, DL.p_rp0, DL.p_alC, DL.p_alN, DL.p_gdS, DL.p_gdN, DL.p_tlS, DL.p_tlN, DL.p_ieC, DL.p_ieN, DL.p_nt, DL.p_nf, DL.p_atb, DL.p_afb, DL.p_abt, DL.p_abf, DL.p_eqS, DL.p_dT, DL.p_dF, DL.p_TA, DL.p_AT, DL.p_TO, DL.p_OT, DL.p_startD, DL.p_startR, DL.forK_nx, DL.forK_ct, DL.forK_rt, DL.yesM_a, DL.it1_a, DL.compM_a, DL.wipeR_c, DL.wipeR_n, DL.restR_c, DL.restR_n, DL.gtD_i, DL.gtD_T, DL.ob_assoc, DL.om_bind, DL.ob_map, DL.om_map, DL.cnd_bind, DL.cnd_map, DL.guard_bind, DL.guard_map, DL.atI_c0, DL.atI_c1, DL.atI_c2, DL.atI_c3, DL.encN_0, DL.encN_1, DL.encN_2, DL.encN_u, DL.revD_t, DL.revD_l, DL.eq_TI, DL.ne_TI, DL.in_I, DL.in_Il, DL.in_T, DL.in_R, DL.notInB_a, DL.enumM_a, DL.seqK_ex, DL.finF_ex, DL.forK_ex, DL.tri_no, DL.trm_no, DL.atI_neg1, Nat.reduceAdd, Nat.reduceSub, Nat.reduceMul, Int.reduceLT, Int.reduceLE, Int.reducePow, Int.reduceNeg, Int.reduceAdd, Int.reduceSub, Int.reduceMul, Int.reduceBEq, Int.reduceBNe, Int.reduceToNat, $xs,*])
namespace DL
open PySem L2 GT
theorem rk {n : Nat} (h : n ≤ 1000) : rngOk (n : Int) = true := rng_ok (by omega) (by omega)
theorem sk {n : Nat} (h : n ≤ 1000) : szOk n = true := szOk_of (by omega)
theorem rl {n : Nat} (h : n ≤ 1000) : szOk (rngL 0 (n : Int)).length = true := by rw [rngL_ir, List.length_map, ir_len]; exact sk h
end DL
namespace PG
open PySem L2 DL GT
theorem beside_eval {N : Net} (w : N.WF) (k : Int) : g_beside [encN N, .int k] = some (TI (nb N k)) := by
  have := w.small
  unfold g_beside b_beside N_beside
  simp_arith [rk (show N.n ≤ 1000 by omega), rl (show N.n ≤ 1000 by omega)]
  rw [rngL_ir, compL_pure PyData.int PyData.int (fun o => adj N k o) (ir N.n) (fun o _ => by
    unfold Ct_beside_1 Ce_beside_1 adj pr
    simp_arith [DL.p_nt]
    cases decide ((min k o, max k o) ∈ N.ties) <;> rfl)]
  simp_arith [DL.p_nt]
  rfl
theorem md {α β : Type} (f : α → β) (xs : List α) : (xs.map f).dropLast = xs.dropLast.map f := (List.map_dropLast ..).symm
theorem mt' {α β : Type} (f : α → β) (xs : List α) : (xs.map f).tail = xs.tail.map f := (List.map_tail ..).symm
/-- all that begin so, the ends first -/
theorem F1_led {N : Net} (w : N.WF) {f : Nat} {way : List Int} (hl : way.length ≤ 50) : ∀ (ks : List Int) (acc : List (List Int)) (x3 : Option SV),
    (∀ k ∈ ks, k ∉ way → gr_led_on f [encN N, TI (way ++ [k])] = some (.list ((ledOn N f (way ++ [k])).map TI))) →
    acc.length + ((ks.filter fun k => decide (k ∉ way)).flatMap fun k => ledOn N f (way ++ [k])).length ≤ 1000000 →
    ∃ x3', forL (nameG 3) (F_led_on_1 (gr_led_on f)) (ks.map .int) [some (.d (encN N)), some (.d (TI way)), some (.l false (acc.map TI)), x3] =
      some (.nx [some (.d (encN N)), some (.d (TI way)), some (.l false ((acc ++ (ks.filter fun k => decide (k ∉ way)).flatMap fun k => ledOn N f (way ++ [k])).map TI)), x3'])
  | [], acc, x3, _, _ => ⟨x3, by simp [forL_nil]⟩
  | k :: ks, acc, x3, hrec, hz => by
    rw [List.map_cons, forL_cons]
    unfold F_led_on_1
    by_cases m : k ∈ way
    · obtain ⟨x3', e⟩ := F1_led w hl ks acc (some (.d (.int k))) (fun j mj => hrec j (List.mem_cons_of_mem _ mj)) (by simpa [m] using hz)
      refine ⟨x3', ?_⟩
      unfold F_led_on_1 at e
      simp_arith [m]
      simpa [m] using e
    · have h1 := hrec k (by simp) m
      rw [List.filter_cons_of_pos (by simpa using m), List.flatMap_cons] at hz ⊢
      simp only [List.length_append] at hz
      obtain ⟨x3', e⟩ := F1_led w hl ks (acc ++ ledOn N f (way ++ [k])) (some (.d (.int k))) (fun j mj => hrec j (List.mem_cons_of_mem _ mj)) (by simp only [List.length_append]; omega)
      refine ⟨x3', ?_⟩
      unfold F_led_on_1 at e
      have e0 : addD (TI way) (.tuple [.int k]) = some (TI (way ++ [k])) := by
        simp_arith [sk (show (way.map PyData.int).length + 1 ≤ 1000 by simp; omega)]
        simp
      have z : szOk ((acc.map TI).length + ((ledOn N f (way ++ [k])).map TI).length) = true := szOk_of (by simp; omega)
      simp_arith [m, e0, h1, z, lisV]
      rw [← List.map_append, e, List.append_assoc]
/-- how many ways there can be with so many knots left -/
def cap : Nat → Nat
  | 0 => 1
  | m + 1 => 1 + (m + 1) * cap m
theorem flat_le {α β : Type} {f : α → List β} {c : Nat} : ∀ {xs : List α}, (∀ x ∈ xs, (f x).length ≤ c) → (xs.flatMap f).length ≤ xs.length * c
  | [], _ => by simp
  | x :: xs, h => by
    have h1 := h x (by simp)
    have h2 := flat_le (f := f) (c := c) (xs := xs) fun y m => h y (List.mem_cons_of_mem _ m)
    rw [List.flatMap_cons, List.length_append, List.length_cons, Nat.succ_mul]
    omega
theorem flat_congr {α β : Type} {f g : α → List β} {xs : List α} (h : ∀ x ∈ xs, f x = g x) : xs.flatMap f = xs.flatMap g := by
  rw [List.flatMap_def, List.flatMap_def, List.map_congr_left h]
theorem fresh_few {N : Net} (w : N.WF) {way : List Int} (hn : way.Nodup) (hi : ∀ x ∈ way, 0 ≤ x ∧ x < N.n) (a : Int) : ((nb N a).filter fun k => decide (k ∉ way)).length + way.length ≤ 7 := by
  have h1 : ((nb N a).filter fun k => decide (k ∉ way)).Nodup := (nodup_of_lt (fun a => Int.lt_irrefl a) (nb_sorted N a)).filter _
  have h2 : (((nb N a).filter fun k => decide (k ∉ way)) ++ way).Nodup := by
    rw [List.nodup_append]
    refine ⟨h1, hn, fun x m y my e => ?_⟩
    subst e
    have := (List.mem_filter.mp m).2
    simp at this
    exact this my
  have h3 := nodup_len_le _ (ir N.n) h2 fun x m => by
    rcases List.mem_append.mp m with m | m
    · exact (List.mem_filter.mp (List.mem_filter.mp m).1).1
    · exact mem_ir.mpr (hi x m)
  rw [ir_len, List.length_append] at h3
  have := w.small
  omega
theorem longer_ok {N : Net} {way : List Int} {a k : Int} (hn : way.Nodup) (hi : ∀ x ∈ way, 0 ≤ x ∧ x < N.n) (m : k ∈ (nb N a).filter fun k => decide (k ∉ way)) : (way ++ [k]).Nodup ∧ (∀ x ∈ way ++ [k], 0 ≤ x ∧ x < N.n) := by
  obtain ⟨m1, m2⟩ := List.mem_filter.mp m
  have m3 := mem_ir.mp (List.mem_filter.mp m1).1
  have m2 : k ∉ way := by simpa using m2
  constructor
  · rw [List.nodup_append]
    exact ⟨hn, by simp, fun x mx y my e => by simp at my; subst my; exact m2 (e ▸ mx)⟩
  · intro x mx
    rcases List.mem_append.mp mx with mx | mx
    · exact hi x mx
    · simp at mx; subst mx; exact m3
theorem ledOn_cap {N : Net} (w : N.WF) : ∀ (f m : Nat) (way : List Int), way.Nodup → (∀ x ∈ way, 0 ≤ x ∧ x < N.n) → way.length + m = 7 → (ledOn N f way).length ≤ cap m
  | 0, m, way, _, _, _ => by simp [ledOn]
  | f + 1, m, way, hn, hi, hm => by
    have few := fresh_few w hn hi (way.getLast?.getD 0)
    rw [ledOn, List.length_append]
    have h1 : (if isEnd N way = true then [way] else []).length ≤ 1 := by split <;> simp
    cases m with
    | zero =>
      have e : ((nb N (way.getLast?.getD 0)).filter fun k => decide (k ∉ way)) = [] := List.eq_nil_of_length_eq_zero (by omega)
      rw [e]
      simp only [List.flatMap_nil, List.length_nil, cap]; omega
    | succ m =>
      have h2 := flat_le (c := cap m) (f := fun k => ledOn N f (way ++ [k])) (xs := (nb N (way.getLast?.getD 0)).filter fun k => decide (k ∉ way)) fun k mk => by
        obtain ⟨a, b⟩ := longer_ok hn hi mk
        exact ledOn_cap w f m _ a b (by simp; omega)
      have h3 : ((nb N (way.getLast?.getD 0)).filter fun k => decide (k ∉ way)).length * cap m ≤ (m + 1) * cap m := Nat.mul_le_mul_right _ (by omega)
      rw [cap]
      omega
theorem cap_le : ∀ m, m ≤ 6 → cap m ≤ 1957 := by decide
theorem ledOn_small {N : Net} (w : N.WF) (f : Nat) {way : List Int} (h0 : way ≠ []) (hn : way.Nodup) (hi : ∀ x ∈ way, 0 ≤ x ∧ x < N.n) : (ledOn N f way).length ≤ 1957 := by
  have h1 := nodup_len_le way (ir N.n) hn fun x m => mem_ir.mpr (hi x m)
  rw [ir_len] at h1
  have h2 := w.small
  have h3 := List.length_pos_iff.mpr h0
  exact Nat.le_trans (ledOn_cap w f (7 - way.length) way hn hi (by omega)) (cap_le _ (by omega))
theorem ledOn_fuel {N : Net} (w : N.WF) : ∀ (f g : Nat) (way : List Int), way.Nodup → (∀ x ∈ way, 0 ≤ x ∧ x < N.n) → N.n < f + way.length → N.n < g + way.length → ledOn N f way = ledOn N g way
  | 0, _, way, hn, hi, hf, _ => by
    have := nodup_len_le way (ir N.n) hn fun x m => mem_ir.mpr (hi x m)
    rw [ir_len] at this; omega
  | _ + 1, 0, way, hn, hi, _, hg => by
    have := nodup_len_le way (ir N.n) hn fun x m => mem_ir.mpr (hi x m)
    rw [ir_len] at this; omega
  | f + 1, g + 1, way, hn, hi, hf, hg => by
    rw [ledOn, ledOn]
    congr 1
    apply flat_congr
    intro k mk
    obtain ⟨a, b⟩ := longer_ok hn hi mk
    exact ledOn_fuel w f g _ a b (by simp; omega) (by simp; omega)
theorem led_on_eval {N : Net} (w : N.WF) : ∀ (f : Nat) (way : List Int), way ≠ [] → way.Nodup → (∀ x ∈ way, 0 ≤ x ∧ x < N.n) → N.n < f + way.length → gr_led_on f [encN N, TI way] = some (.list ((ledOn N f way).map TI))
  | 0, way, _, hn, hi, hf => by
    have := nodup_len_le way (ir N.n) hn fun x m => mem_ir.mpr (hi x m)
    rw [ir_len] at this; omega
  | f + 1, way, h0, hn, hi, hf => by
    have small := ledOn_small w (f + 1) h0 hn hi
    have len : way.length ≤ 7 := by
      have := nodup_len_le way (ir N.n) hn fun x m => mem_ir.mpr (hi x m)
      rw [ir_len] at this; have := w.small; omega
    obtain ⟨a, ha⟩ : ∃ a, way.head? = some a := by
      cases way with
      | nil => exact absurd rfl h0
      | cons a l => exact ⟨a, rfl⟩
    obtain ⟨b, last⟩ : ∃ b, way.getLast? = some b := ⟨_, List.getLast?_eq_some_getLast h0⟩
    have ie : isEnd N way = (decide (1 < way.length) && decide (b ∈ N.rim) && decide (a < b)) := by unfold isEnd; rw [ha, last]
    have recs : ∀ k ∈ nb N b, k ∉ way → gr_led_on f [encN N, TI (way ++ [k])] = some (.list ((ledOn N f (way ++ [k])).map TI)) := fun k mk nk => by
      obtain ⟨x, y⟩ := longer_ok (a := b) hn hi (List.mem_filter.mpr ⟨mk, by simpa using nk⟩)
      exact led_on_eval w f _ (by simp) x y (by simp at hf ⊢; omega)
    rw [ledOn, last, Option.getD_some, List.length_append] at small
    show runF N_led_on (b_led_on (gr_led_on f)) _ = _
    unfold b_led_on N_led_on
    rw [ledOn, last, Option.getD_some]
    obtain ⟨x3', g⟩ := F1_led w (by omega) (nb N b) (if isEnd N way = true then [way] else []) none recs (by omega)
    have e1 : ixD (TI way) (.int 0) = some (.int a) := by
      cases way with
      | nil => exact absurd rfl h0
      | cons c l => cases ha; simp_arith [DL.p_nt]
    have e2 : ixD (TI way) (.int (-1)) = some (.int b) := by
      simp_arith [DL.p_nt]
      rw [List.getLast?_map, last]; rfl
    have e3 : decide ((1 : Int) < ((way.map PyData.int).length : Nat)) = decide (1 < way.length) := by simp; omega
    have bes := beside_eval w b
    cases ee : isEnd N way with
    | true =>
      rw [ee, if_pos rfl] at g
      rw [ie] at ee
      simp only [Bool.and_eq_true] at ee
      rw [if_pos rfl]
      have z0 : szOk 0 = true := by decide
      simp_arith [e1, e2, e3, ee.1.1, ee.1.2, ee.2, bes, forM_a, z0]
      rw [List.map_cons, List.map_nil] at g
      rw [g]
      simp_arith [DL.p_nt]
    | false =>
      rw [ee, if_neg (by simp)] at g
      rw [ie] at ee
      rw [if_neg (by simp)]
      by_cases h1 : 1 < way.length
      · by_cases h2 : b ∈ N.rim
        · have h3 : decide (a < b) = false := by simpa [h1, h2] using ee
          simp_arith [e1, e2, e3, decide_eq_true h1, decide_eq_true h2, h3, bes, forM_a]
          rw [List.map_nil] at g
          rw [g]
          simp_arith [DL.p_nt]
        · simp_arith [e1, e2, e3, decide_eq_true h1, decide_eq_false h2, bes, forM_a]
          rw [List.map_nil] at g
          rw [g]
          simp_arith [DL.p_nt]
      · simp_arith [e1, e2, e3, decide_eq_false h1, bes, forM_a]
        rw [List.map_nil] at g
        rw [g]
        simp_arith [DL.p_nt]
theorem F1_routes {N : Net} (w : N.WF) : ∀ (ks : List Int) (acc : List (List Int)) (x2 : Option SV), (∀ k ∈ ks, 0 ≤ k ∧ k < N.n) → acc.length + 1957 * ks.length ≤ 1000000 →
    ∃ x2', forL (nameG 2) F_routes_1 (ks.map .int) [some (.d (encN N)), some (.l false (acc.map TI)), x2] = some (.nx [some (.d (encN N)), some (.l false ((acc ++ ks.flatMap fun k => ledOn N 8 [k]).map TI)), x2'])
  | [], acc, x2, _, _ => ⟨x2, by simp [forL_nil]⟩
  | k :: ks, acc, x2, hk, hz => by
    have sm := w.small
    have h0 := hk k (by simp)
    have one : ∀ x ∈ [k], 0 ≤ x ∧ x < N.n := by simpa using h0
    have e1 : g_led_on [encN N, .tuple [.int k]] = some (.list ((ledOn N 8 [k]).map TI)) := by
      rw [← ledOn_fuel w 40 8 [k] (by simp) one (by simp; omega) (by simp; omega)]
      exact led_on_eval w 40 [k] (by simp) (by simp) one (by simp; omega)
    have few := ledOn_small w 8 (way := [k]) (by simp) (by simp) one
    simp only [List.length_cons] at hz
    obtain ⟨x2', e⟩ := F1_routes w ks (acc ++ ledOn N 8 [k]) (some (.d (.int k))) (fun j m => hk j (List.mem_cons_of_mem _ m)) (by simp only [List.length_append]; omega)
    refine ⟨x2', ?_⟩
    rw [List.map_cons, forL_cons]
    unfold F_routes_1 at e ⊢
    have z : szOk ((acc.map TI).length + ((ledOn N 8 [k]).map TI).length) = true := szOk_of (by simp; omega)
    simp_arith [e1, z, lisV]
    rw [← List.map_append, e, List.flatMap_cons, List.append_assoc]
theorem rim_len {N : Net} (w : N.WF) : N.rim.length ≤ 7 := by
  have := nodup_len_le N.rim (ir N.n) (nodup_of_lt (fun a => Int.lt_irrefl a) w.rimUp) fun a m => mem_ir.mpr (w.rimIn a m)
  rw [ir_len] at this
  have := w.small
  omega
theorem ledOn_ne {N : Net} {f : Nat} {way r : List Int} (m : r ∈ ledOn N f way) (h : way ≠ []) : r ≠ [] := fun e => by
  have := ledOn_pre f way r m
  rw [e] at this
  exact h (List.prefix_nil.mp this)
theorem routes_many {N : Net} (w : N.WF) : (routes N).length ≤ 13699 := by
  have h1 := rim_len w
  have h2 := flat_le (f := fun k => ledOn N 8 [k]) (c := 1957) (xs := N.rim) fun k m => ledOn_small w 8 (by simp) (by simp) (by simpa using w.rimIn k m)
  unfold routes
  rw [sortR_len]
  have : N.rim.length * 1957 ≤ 7 * 1957 := Nat.mul_le_mul_right _ h1
  omega
theorem routes_eval {N : Net} (w : N.WF) : g_routes [encN N] = some (.tuple ((routes N).map TI)) := by
  have h1 := rim_len w
  obtain ⟨x2', e⟩ := F1_routes w N.rim [] none w.rimIn (by simp; omega)
  have many := routes_many w
  unfold routes at many
  rw [sortR_len] at many
  have so : sortOk ((N.rim.flatMap fun k => ledOn N 8 [k]).map TI) = true := sortOk_TI (by omega) fun r m => by
    obtain ⟨k, _, mk⟩ := List.mem_flatMap.mp m
    exact ledOn_ne mk (by simp)
  unfold g_routes b_routes N_routes
  rw [List.map_nil] at e
  simp_arith [forM_a, e, List.nil_append, so, sortL_TI]
  rfl
end PG
namespace GT
theorem mem_routes {N : Net} (w : N.WF) {r : List Int} : r ∈ routes N ↔ IsRoute N r := by
  have sm := w.small
  unfold routes
  rw [mem_sortR, List.mem_flatMap]
  constructor
  · rintro ⟨k, mk, m⟩
    obtain ⟨h1, h2, h3, h4⟩ := (mem_ledOn w 8 [k] r (by simp) (by simp) rfl (by simpa using w.rimIn k mk) (by simp; omega)).mp m
    unfold isEnd at h4
    split at h4
    · rename_i a b ha hb
      simp only [Bool.and_eq_true, decide_eq_true_eq] at h4
      have ka : a = k := by
        obtain ⟨t, e⟩ := h1
        rw [← e] at ha; simpa using ha.symm
      exact ⟨by omega, h2, h3, a, b, ha, hb, ka ▸ mk, h4.1.2, h4.2⟩
    · cases h4
  · rintro ⟨two, nd, lk, a, b, ha, hb, ra, rb, lt⟩
    refine ⟨a, ra, (mem_ledOn w 8 [a] r (by simp) (by simp) rfl (by simpa using w.rimIn a ra) (by simp; omega)).mpr ⟨?_, nd, lk, ?_⟩⟩
    · cases r with
      | nil => simp at ha
      | cons c t => simp at ha; subst ha; exact ⟨t, rfl⟩
    · unfold isEnd
      rw [ha, hb]
      simp only [Bool.and_eq_true, decide_eq_true_eq]
      exact ⟨⟨by omega, rb⟩, lt⟩
/-- a route, as a truth -/
def isRouteB (N : Net) (r : List Int) : Bool :=
  decide (2 ≤ r.length) && r.all (fun x => decide (0 ≤ x ∧ x < N.n)) && decide (r.Nodup) && (match r.head?, r.getLast? with | some a, some b => decide (a ∈ N.rim) && decide (b ∈ N.rim) && decide (a ≤ b) | _, _ => false) && (r.dropLast.zip r.tail).all fun p => adj N p.1 p.2
theorem linked_all {N : Net} : ∀ r : List Int, ((r.dropLast.zip r.tail).all fun p => adj N p.1 p.2) = linked N r
  | [] => rfl
  | [_] => rfl
  | a :: b :: r => by
    have ih := linked_all (N := N) (b :: r)
    simp only [List.dropLast_cons_cons, List.tail_cons, List.zip_cons_cons, List.all_cons, linked] at ih ⊢
    rw [ih]
theorem isRouteB_iff {N : Net} (w : N.WF) {r : List Int} : isRouteB N r = true ↔ IsRoute N r := by
  unfold isRouteB
  rw [linked_all]
  simp only [Bool.and_eq_true, decide_eq_true_eq]
  constructor
  · rintro ⟨⟨⟨⟨two, _⟩, nd⟩, ends⟩, lk⟩
    split at ends
    · rename_i a b ha hb
      simp only [Bool.and_eq_true, decide_eq_true_eq] at ends
      refine ⟨two, nd, lk, a, b, ha, hb, ends.1.1, ends.1.2, ?_⟩
      rcases Int.lt_or_eq_of_le ends.2 with h | h
      · exact h
      · exfalso
        subst h
        match r, two, nd, ha, hb with
        | c :: d :: t, _, nd, ha, hb =>
          simp only [List.head?_cons, Option.some.injEq] at ha
          subst ha
          have : c ∈ d :: t := by
            rw [List.getLast?_cons_cons] at hb
            exact List.mem_of_getLast? hb
          exact (List.nodup_cons.mp nd).1 this
    · cases ends
  · rintro ⟨two, nd, lk, a, b, ha, hb, ra, rb, lt⟩
    rw [ha, hb]
    refine ⟨⟨⟨⟨two, ?_⟩, nd⟩, ?_⟩, lk⟩
    · rw [List.all_eq_true]
      intro x m
      exact decide_eq_true (linked_in w two lk x m)
    · simp only [Bool.and_eq_true, decide_eq_true_eq]
      exact ⟨⟨ra, rb⟩, by omega⟩
end GT
namespace PG
open PySem L2 DL GT
theorem dedup_eq {r : List Int} : (dedup r).length = r.length ↔ r.Nodup := by
  induction r with
  | nil => simp [dedup]
  | cons a r ih =>
    unfold dedup
    split
    · rename_i m
      have : (dedup r).length ≤ r.length := nodup_len_le _ _ (dedup_nodup r) fun x mx => mem_dedup.mp mx
      simp only [List.length_cons, List.nodup_cons, m, not_true, false_and, iff_false]; omega
    · rename_i m
      simp [m, ih]
theorem is_route_TI {N : Net} (w : N.WF) (r : List Int) (hr : r.length ≤ 900) : g_is_route [encN N, TI r] = some (.bool (isRouteB N r)) := by
  have sm := w.small
  have sz : szOk (r.map PyData.int).length = true := sk (by simp; omega)
  have c1 : compL (nameG 2) yesM Ce_is_route_1 [2] (r.map PyData.int) [some (.d (encN N)), some (.d (TI r)), none, none] = some (r.map fun x => .bool (wholeD (.int x) 0 ((N.n : Int) - 1)), [some (.d (encN N)), some (.d (TI r)), none, none]) :=
    compL_map PyData.int (fun x => .bool (wholeD (.int x) 0 ((N.n : Int) - 1))) r fun x _ => by
      unfold Ce_is_route_1
      simp_arith [whole_eval]
  have c2 : compL (tupG 2 (consG (nameG 2) (consG (nameG 3) nilG))) yesM Ce_is_route_2 [2, 3] ((r.dropLast.zip r.tail).map fun p => pairD (.int p.1) (.int p.2)) [some (.d (encN N)), some (.d (TI r)), none, none] = some ((r.dropLast.zip r.tail).map fun p => .bool (adj N p.1 p.2), [some (.d (encN N)), some (.d (TI r)), none, none]) :=
    compL_map (fun p : Int × Int => pairD (.int p.1) (.int p.2)) (fun p => .bool (adj N p.1 p.2)) _ fun p _ => by
      unfold Ce_is_route_2 pairD
      have mm : decide (p.2 ∈ nb N p.1) = adj N p.1 p.2 := by
        by_cases h : adj N p.1 p.2 = true
        · rw [h]; exact decide_eq_true ((mem_nb (w := w)).mpr h)
        · rw [Bool.not_eq_true] at h; rw [h]; exact decide_eq_false fun q => by rw [(mem_nb (w := w)).mp q] at h; cases h
      simp_arith [beside_eval w, mm]
  have all1 : allD (.list (r.map fun x => .bool (wholeD (.int x) 0 ((N.n : Int) - 1)))) = some (.bool (r.all fun x => decide (0 ≤ x ∧ x < N.n))) := by
    rw [allD_map]
    congr 2
    congr 1
    funext x
    simp only [wholeD]
    by_cases h1 : 0 ≤ x <;> by_cases h2 : x < N.n <;> simp [h1, h2] <;> omega
  have all2 : allD (.list ((r.dropLast.zip r.tail).map fun p => .bool (adj N p.1 p.2))) = some (.bool ((r.dropLast.zip r.tail).all fun p => adj N p.1 p.2)) := allD_map _ _
  have z2 : szOk ((r.dropLast.zip r.tail).map fun p => pairD (.int p.1) (.int p.2)).length = true := sk (by simp; omega)
  unfold g_is_route b_is_route N_is_route isRouteB
  by_cases h2 : 2 ≤ r.length
  · have d2 : decide (((r.map PyData.int).length : Int) < 2) = false := decide_eq_false (by simp; omega)
    rw [decide_eq_true h2, Bool.true_and]
    cases hA : r.all fun x => decide (0 ≤ x ∧ x < N.n) with
    | false => simp_arith [isi_tuple, d2, sz, c1, all1, hA]
    | true =>
      have ls : lenSetD (TI r) = some (.int (dedup r).length) := by
        show (intsOf (r.map .int)).bind _ = _
        rw [intsOf_map]
        simp only [Option.bind_some]
        rw [if_pos (by omega)]
      by_cases hN : r.Nodup
      · have dn : ((((dedup r).length : Nat) : Int) == ((r.map PyData.int).length : Nat)) = true := by rw [dedup_eq.mpr hN]; simp
        obtain ⟨a, ha⟩ : ∃ a, r.head? = some a := by
          cases r with
          | nil => simp at h2
          | cons a l => exact ⟨a, rfl⟩
        obtain ⟨b, last⟩ : ∃ b, r.getLast? = some b := ⟨_, List.getLast?_eq_some_getLast (by intro e; simp [e] at h2)⟩
        have e1 : ixD (TI r) (.int 0) = some (.int a) := by
          cases r with
          | nil => simp at h2
          | cons c l => cases ha; simp_arith [DL.p_nt]
        have e2 : ixD (TI r) (.int (-1)) = some (.int b) := by
          simp_arith [DL.p_nt]
          rw [List.getLast?_map, last]; rfl
        rw [decide_eq_true hN, Bool.true_and, ha, last, Bool.true_and]
        dsimp only
        by_cases h3 : a ∈ N.rim
        · by_cases h4 : b ∈ N.rim
          · by_cases h5 : b < a
            · simp_arith [isi_tuple, d2, sz, c1, all1, hA, ls, dn, e1, e2, decide_eq_true h3, decide_eq_true h4, decide_eq_true h5]
              simp [h3, h4]; omega
            · simp_arith [isi_tuple, d2, sz, c1, all1, hA, ls, dn, e1, e2, decide_eq_true h3, decide_eq_true h4, decide_eq_false h5, cut_init, cut_tail, md, mt', zipL_enc, z2, c2, all2]
              have : a ≤ b := by omega
              simp [h3, h4, this]
          · simp_arith [isi_tuple, d2, sz, c1, all1, hA, ls, dn, e1, e2, decide_eq_true h3, decide_eq_false h4]
        · simp_arith [isi_tuple, d2, sz, c1, all1, hA, ls, dn, e1, e2, decide_eq_false h3]
      · have dn : ((((dedup r).length : Nat) : Int) == ((r.map PyData.int).length : Nat)) = false := by
          rw [beq_eq_false_iff_ne]
          intro q
          rw [List.length_map] at q
          exact hN (dedup_eq.mp (by omega))
        rw [decide_eq_false hN]
        simp_arith [isi_tuple, d2, sz, c1, all1, hA, ls, dn]
  · have d2 : decide (((r.map PyData.int).length : Int) < 2) = true := decide_eq_true (by simp; omega)
    rw [decide_eq_false h2]
    simp_arith [isi_tuple, d2]
end PG
namespace DL
open PySem L2 GT
/-! dicts with ints as keys -/
theorem dkOf_i (i : Int) : dkOf false (.int i) = some (.inl (.inl i)) := (rfl)
theorem keyOf_i (i : Int) : keyOf (.int i) = some (.inl i) := (rfl)
end DL
local macro_rules | `(tactic| simp_arith [$xs,*]) => `(tactic| simp only [DL.ob_some, DL.om_some, DL.dat_d, DL.lis_l, DL.dic_m, DL.gt_0, DL.gt_1, DL.gt_2, DL.gt_3, DL.gt_4, DL.gt_5, DL.gt_6, DL.gt_7, DL.gt_b, DL.st_0, DL.st_s, DL.plG_d, DL.plG_n, DL.plainAt_a, DL.varM_a, DL.ownM_a, DL.cM_a, DL.ofL_a, DL.opM_a, DL.unM_a, DL.truM_a, DL.tstM_a, DL.notM_a, DL.cnd_t, DL.cnd_f, DL.andM_a, DL.orM_a, DL.andVM_a, DL.orVM_a, DL.notVM_a, DL.chM_a, DL.nilM_a, DL.consM_a, DL.guard_tt, DL.tupM_a, DL.lstM_a, DL.noM_a, DL.intV_i, DL.someM_a, DL.slM_a, DL.rng1M_a, DL.rng2M_a, DL.zipV_t, DL.zipV_l, DL.zipM_a, DL.seqM_a, DL.callM_a, DL.hereM_a, DL.callRM_a, DL.appM_a, DL.lisV_l, DL.extM_a, DL.popAtM_a, DL.newDM_a, DL.putM_a, DL.lenDM_a, DL.sortDM_a, DL.nameG_a, DL.nilG_a, DL.consG_a, DL.tupG_a, DL.seqS_a, DL.seqK_nx, DL.seqK_rt, DL.seqK_ct, DL.skipM_a, DL.asgM_a, DL.asgG_a, DL.newM_a, DL.asgLM_a, DL.retM_a, DL.exprM_a, DL.ifM_a, DL.forM_a, DL.frzM_a, DL.runF_a, DL.finF_rt, DL.finF_nx, DL.runR_a, DL.finR_rt, DL.finR_nx, DL.sz_0, DL.sz_1, DL.sz_2, DL.sz_3, DL.sz_4, DL.sz_5, DL.sz_6, DL.sz_7, DL.sz_8, DL.sz_9, DL.sz_10, DL.sz_11, DL.sz_12, DL.sz_13, DL.sz_14, DL.sz_15, DL.sz_16, DL.sz_17, DL.sz_18, DL.sz_19, DL.sz_20, DL.sz_21, DL.sz_22, DL.sz_23, DL.sz_24, DL.sz_25, DL.sz_26, DL.sz_27, DL.sz_28, DL.sz_29, DL.sz_30, DL.nc_0, DL.nc_1, DL.nc_2, DL.nc_3, DL.nc_4, DL.nc_5, DL.nc_6, DL.nc_7, DL.nc_8, DL.nc_9, DL.nc_10, DL.nc_11, DL.nc_12, DL.nc_13, DL.nc_14, DL.nc_15, DL.nc_16, DL.nc_17, DL.nc_18, DL.nc_19, DL.nc_20, DL.nc_21, DL.nc_22, DL.nc_23, DL.nc_24, DL.nc_25, DL.nc_26, DL.nc_27, DL.nc_28, DL.nc_29, DL.nc_30, DL.addD_i, DL.addD_t, DL.addD_l, DL.subD_i, DL.modD_i, DL.fdivD_i, DL.mulD_i, DL.lenD_t, DL.lenD_l, DL.tupleD_t, DL.tupleD_l, DL.listD_t, DL.listD_l, DL.truD_i, DL.truD_b, DL.truD_n, DL.truD_l, DL.truD_t, DL.ixD_t, DL.ixD_l, DL.negD_i, DL.bD_a, DL.ltB_i, DL.leB_i, DL.geB_i, DL.eqB_i, DL.neB_i, DL.min2D_i, DL.max2D_i, DL.items_t, DL.items_l, DL.isNN, DL.slD_t, DL.slD_l, DL.sortD2_l, DL.sortD2_t, DL.p_ge0, DL.p_geS, DL.p_tk0, DL.p_tkS, DL.p_tkN, DL.p_dr0, DL.p_drS, DL.p_drN, DL.p_mpC, DL.p_mpN, DL.p_apC, DL.p_apN, DL.p_lnC, DL.p_lnN, DL.p_rpS, DL.p_rp0, DL.p_alC, DL.p_alN, DL.p_gdS, DL.p_gdN, DL.p_tlS, DL.p_tlN, DL.p_ieC, DL.p_ieN, DL.p_nt, DL.p_nf, DL.p_atb, DL.p_afb, DL.p_abt, DL.p_abf, DL.p_eqS, DL.p_dT, DL.p_dF, DL.p_TA, DL.p_AT, DL.p_TO, DL.p_OT, DL.p_startD, DL.p_startR, DL.forK_nx, DL.forK_ct, DL.forK_rt, DL.yesM_a, DL.it1_a, DL.compM_a, DL.wipeR_c, DL.wipeR_n, DL.restR_c, DL.restR_n, DL.gtD_i, DL.gtD_T, DL.ob_assoc, DL.om_bind, DL.ob_map, DL.om_map, DL.cnd_bind, DL.cnd_map, DL.guard_bind, DL.guard_map, DL.atI_c0, DL.atI_c1, DL.atI_c2, DL.atI_c3, DL.encN_0, DL.encN_1, DL.encN_2, DL.encN_u, DL.revD_t, DL.revD_l, DL.eq_TI, DL.ne_TI, DL.in_I, DL.in_Il, DL.in_T, DL.in_R, DL.notInB_a, DL.enumM_a, DL.seqK_ex, DL.finF_ex, DL.forK_ex, DL.tri_no, DL.trm_no, DL.atI_neg1, DL.dkOf_i, DL.keyOf_i, Nat.reduceAdd, Nat.reduceSub, Nat.reduceMul, Int.reduceLT, Int.reduceLE, Int.reducePow, Int.reduceNeg, Int.reduceAdd, Int.reduceSub, Int.reduceMul, Int.reduceBEq, Int.reduceBNe, Int.reduceToNat, $xs,*])
open PySem L2 GT
namespace PG
open PySem L2 DL GT
theorem route_lk {N : Net} (w : N.WF) {r : List Int} (m : r ∈ routes N) : linked N r = true ∧ r.length ≤ 7 := by
  have h := (mem_routes w).mp m
  have := nodup_len_le r (ir N.n) h.nd fun x mx => mem_ir.mpr (linked_in w h.two h.lk x mx)
  rw [ir_len] at this
  have := w.small
  exact ⟨h.lk, by omega⟩
end PG
namespace GT
end GT
namespace PG
open PySem L2 DL GT
end PG
local macro_rules | `(tactic| simp_arith [$xs,*]) => `(tactic| simp only [Nat.reduceAdd, Nat.reduceSub, Nat.reduceMul, Int.reduceLT, Int.reduceLE, Int.reducePow, Int.reduceNeg, Int.reduceAdd, Int.reduceSub, Int.reduceMul, Int.reduceBEq, Int.reduceBNe, Int.reduceToNat, $xs,*])
namespace FA
open PySem L2 DL PG
def N__law_draw : List Str := ["_law_script", "_law_town", "_law_many", "_law_k", "_law_cell", "_law_number"]
def b__law_draw : SM :=
    (seqS (exprM (appM 1 (cM (PyData.int 0))))
    (seqS (asgM 3 (unM lenD (ownM 1)))
    (seqS (asgM 4 (cM (PyData.int 0)))
    (seqS (ifM (truM (varM 0)) (asgM 4 (opM ixD (varM 0) (opM modD (varM 3) (unM lenD (varM 0))))) skipM)
    (seqS (asgM 5 (opM modD (opM addD (varM 4) (opM mulD (cM (PyData.int 104729)) (varM 3))) (cM (PyData.int 4294967291))))
    (seqS (asgM 5 (opM modD (opM mulD (opM modD (opM mulD (varM 5) (varM 5)) (cM (PyData.int 4294967279))) (cM (PyData.int 48271))) (cM (PyData.int 4294967291))))
    (retM (opM modD (opM fdivD (varM 5) (cM (PyData.int 64))) (varM 2)))))))))
def g__law_draw : List D → List D → Option (D × List D) := runR N__law_draw 1 b__law_draw
def N__law_pick : List Str := ["_law_script", "_law_town", "_law_some"]
def b__law_pick : SM :=
    (retM (opM ixD (varM 2) (callRM 1 g__law_draw (consM (varM 0) (hereM 1 (consM (unM lenD (varM 2)) nilM))))))
def g__law_pick : List D → List D → Option (D × List D) := runR N__law_pick 1 b__law_pick
def N__law_net : List Str := ["_law_script", "_law_town", "_law_high", "_law_wide", "_law_many", "_law_every", "_law_one", "_law_ties_here", "_law_k", "_law_rim", "_law_knot", "_law_other"]
def Ce__law_net_1 : EM :=
    (tupM (consM (varM 6) (consM (varM 11) nilM)))
def F__law_net_1 : SM :=
    (asgM 5 (opM addD (varM 5) (ofL (compM [11] (rng2M (opM addD (varM 6) (cM (PyData.int 1))) (varM 4)) (nameG 11) yesM Ce__law_net_1))))
def F__law_net_2 : SM :=
    (seqS (asgM 11 (callRM 1 g__law_draw (consM (varM 0) (hereM 1 (consM (varM 10) nilM)))))
    (putM 7 (tupM (consM (varM 11) (consM (varM 10) nilM))) (cM (PyData.int 0))))
def F__law_net_3 : SM :=
    (ifM (andM (truM (varM 5)) (tstM ltB (lenDM 7) (varM 3))) (putM 7 (callRM 1 g__law_pick (consM (varM 0) (hereM 1 (consM (varM 5) nilM)))) (cM (PyData.int 0))) skipM)
def Ct__law_net_1 : TM :=
    (tstM eqB (callRM 1 g__law_draw (consM (varM 0) (hereM 1 (consM (cM (PyData.int 2)) nilM)))) (cM (PyData.int 0)))
def Ce__law_net_2 : EM :=
    (varM 10)
def b__law_net : SM :=
    (seqS (asgM 4 (opM addD (cM (PyData.int 1)) (callRM 1 g__law_draw (consM (varM 0) (hereM 1 (consM (varM 2) nilM))))))
    (seqS (asgM 5 (ofL (lstM nilM)))
    (seqS (forM (rng1M (varM 4)) (nameG 6) F__law_net_1)
    (seqS (newDM 7 true)
    (seqS (ifM (tstM gtD (callRM 1 g__law_draw (consM (varM 0) (hereM 1 (consM (cM (PyData.int 3)) nilM)))) (cM (PyData.int 0))) (forM (rng2M (cM (PyData.int 1)) (varM 4)) (nameG 10) F__law_net_2) skipM)
    (seqS (forM (rng1M (callRM 1 g__law_draw (consM (varM 0) (hereM 1 (consM (opM addD (varM 3) (cM (PyData.int 1))) nilM))))) (nameG 8) F__law_net_3)
    (seqS (asgLM 9 (compM [10] (rng1M (varM 4)) (nameG 10) Ct__law_net_1 Ce__law_net_2))
    (seqS (ifM (notM (truM (varM 9))) (asgM 9 (ofL (lstM (consM (callRM 1 g__law_draw (consM (varM 0) (hereM 1 (consM (varM 4) nilM)))) nilM)))) skipM)
    (retM (tupM (consM (varM 4) (consM (slM (unM tupleD (sortDM 7)) noM (someM (varM 3))) (consM (unM tupleD (varM 9)) nilM)))))))))))))
def g__law_net : List D → List D → Option (D × List D) := runR N__law_net 1 b__law_net
end FA
local macro_rules | `(tactic| simp_arith [$xs,*]) => `(tactic| simp only [DL.ob_some, DL.om_some, DL.dat_d, DL.lis_l, DL.dic_m, DL.gt_0, DL.gt_1, DL.gt_2, DL.gt_3, DL.gt_4, DL.gt_5, DL.gt_6, DL.gt_7, DL.gt_b, DL.st_0, DL.st_s, DL.plG_d, DL.plG_n, DL.plainAt_a, DL.varM_a, DL.ownM_a, DL.cM_a, DL.ofL_a, DL.opM_a, DL.unM_a, DL.truM_a, DL.tstM_a, DL.notM_a, DL.cnd_t, DL.cnd_f, DL.andM_a, DL.orM_a, DL.andVM_a, DL.orVM_a, DL.notVM_a, DL.chM_a, DL.nilM_a, DL.consM_a, DL.guard_tt, DL.tupM_a, DL.lstM_a, DL.noM_a, DL.intV_i, DL.someM_a, DL.slM_a, DL.rng1M_a, DL.rng2M_a, DL.zipV_t, DL.zipV_l, DL.zipM_a, DL.seqM_a, DL.callM_a, DL.hereM_a, DL.callRM_a, DL.appM_a, DL.lisV_l, DL.extM_a, DL.popAtM_a, DL.newDM_a, DL.putM_a, DL.lenDM_a, DL.sortDM_a, DL.nameG_a, DL.nilG_a, DL.consG_a, DL.tupG_a, DL.seqS_a, DL.seqK_nx, DL.seqK_rt, DL.seqK_ct, DL.skipM_a, DL.asgM_a, DL.asgG_a, DL.newM_a, DL.asgLM_a, DL.retM_a, DL.exprM_a, DL.ifM_a, DL.forM_a, DL.frzM_a, DL.runF_a, DL.finF_rt, DL.finF_nx, DL.runR_a, DL.finR_rt, DL.finR_nx, DL.sz_0, DL.sz_1, DL.sz_2, DL.sz_3, DL.sz_4, DL.sz_5, DL.sz_6, DL.sz_7, DL.sz_8, DL.sz_9, DL.sz_10, DL.sz_11, DL.sz_12, DL.sz_13, DL.sz_14, DL.sz_15, DL.sz_16, DL.sz_17, DL.sz_18, DL.sz_19, DL.sz_20, DL.sz_21, DL.sz_22, DL.sz_23, DL.sz_24, DL.sz_25, DL.sz_26, DL.sz_27, DL.sz_28, DL.sz_29, DL.sz_30, DL.nc_0, DL.nc_1, DL.nc_2, DL.nc_3, DL.nc_4, DL.nc_5, DL.nc_6, DL.nc_7, DL.nc_8, DL.nc_9, DL.nc_10, DL.nc_11, DL.nc_12, DL.nc_13, DL.nc_14, DL.nc_15, DL.nc_16, DL.nc_17, DL.nc_18, DL.nc_19, DL.nc_20, DL.nc_21, DL.nc_22, DL.nc_23, DL.nc_24, DL.nc_25, DL.nc_26, DL.nc_27, DL.nc_28, DL.nc_29, DL.nc_30, DL.addD_i, DL.addD_t, DL.addD_l, DL.subD_i, DL.modD_i, DL.fdivD_i, DL.mulD_i, DL.lenD_t, DL.lenD_l, DL.tupleD_t, DL.tupleD_l, DL.listD_t, DL.listD_l, DL.truD_i, DL.truD_b, DL.truD_n, DL.truD_l, DL.truD_t, DL.ixD_t, DL.ixD_l, DL.negD_i, DL.bD_a, DL.ltB_i, DL.leB_i, DL.geB_i, DL.eqB_i, DL.neB_i, DL.min2D_i, DL.max2D_i, DL.items_t, DL.items_l, DL.isNN, DL.slD_t, DL.slD_l, DL.sortD2_l, DL.sortD2_t, DL.p_ge0, DL.p_geS, DL.p_tk0, DL.p_tkS, DL.p_tkN, DL.p_dr0, DL.p_drS, DL.p_drN, DL.p_mpC, DL.p_mpN, DL.p_apC, DL.p_apN, DL.p_lnC, DL.p_lnN, DL.p_rpS, DL.p_rp0, DL.p_alC, DL.p_alN, DL.p_gdS, DL.p_gdN, DL.p_tlS, DL.p_tlN, DL.p_ieC, DL.p_ieN, DL.p_nt, DL.p_nf, DL.p_atb, DL.p_afb, DL.p_abt, DL.p_abf, DL.p_eqS, DL.p_dT, DL.p_dF, DL.p_TA, DL.p_AT, DL.p_TO, DL.p_OT, DL.p_startD, DL.p_startR, DL.forK_nx, DL.forK_ct, DL.forK_rt, DL.yesM_a, DL.it1_a, DL.compM_a, DL.wipeR_c, DL.wipeR_n, DL.restR_c, DL.restR_n, DL.gtD_i, DL.gtD_T, DL.ob_assoc, DL.om_bind, DL.ob_map, DL.om_map, DL.cnd_bind, DL.cnd_map, DL.guard_bind, DL.guard_map, DL.atI_c0, DL.atI_c1, DL.atI_c2, DL.atI_c3, DL.encN_0, DL.encN_1, DL.encN_2, DL.encN_u, DL.revD_t, DL.revD_l, Nat.reduceAdd, Nat.reduceSub, Nat.reduceMul, Int.reduceLT, Int.reduceLE, Int.reducePow, Int.reduceNeg, Int.reduceAdd, Int.reduceSub, Int.reduceMul, Int.reduceBEq, Int.reduceBNe, Int.reduceToNat, $xs,*])
local macro_rules | `(tactic| simp_arith [$xs,*]) => `(tactic| simp only [DL.ob_some, DL.om_some, DL.dat_d, DL.lis_l, DL.dic_m, DL.gt_0, DL.gt_1, DL.gt_2, DL.gt_3, DL.gt_4, DL.gt_5, DL.gt_6, DL.gt_7, DL.gt_b, DL.st_0, DL.st_s, DL.plG_d, DL.plG_n, DL.plainAt_a, DL.varM_a, DL.ownM_a, DL.cM_a, DL.ofL_a, DL.opM_a, DL.unM_a, DL.truM_a, DL.tstM_a, DL.notM_a, DL.cnd_t, DL.cnd_f, DL.andM_a, DL.orM_a, DL.andVM_a, DL.orVM_a, DL.notVM_a, DL.chM_a, DL.nilM_a, DL.consM_a, DL.guard_tt, DL.tupM_a, DL.lstM_a, DL.noM_a, DL.intV_i, DL.someM_a, DL.slM_a, DL.rng1M_a, DL.rng2M_a, DL.zipV_t, DL.zipV_l, DL.zipM_a, DL.seqM_a, DL.callM_a, DL.hereM_a, DL.callRM_a, DL.appM_a, DL.lisV_l, DL.extM_a, DL.popAtM_a, DL.newDM_a, DL.putM_a, DL.lenDM_a, DL.sortDM_a, DL.nameG_a, DL.nilG_a, DL.consG_a, DL.tupG_a, DL.seqS_a, DL.seqK_nx, DL.seqK_rt, DL.seqK_ct, DL.skipM_a, DL.asgM_a, DL.asgG_a, DL.newM_a, DL.asgLM_a, DL.retM_a, DL.exprM_a, DL.ifM_a, DL.forM_a, DL.frzM_a, DL.runF_a, DL.finF_rt, DL.finF_nx, DL.runR_a, DL.finR_rt, DL.finR_nx, DL.sz_0, DL.sz_1, DL.sz_2, DL.sz_3, DL.sz_4, DL.sz_5, DL.sz_6, DL.sz_7, DL.sz_8, DL.sz_9, DL.sz_10, DL.sz_11, DL.sz_12, DL.sz_13, DL.sz_14, DL.sz_15, DL.sz_16, DL.sz_17, DL.sz_18, DL.sz_19, DL.sz_20, DL.sz_21, DL.sz_22, DL.sz_23, DL.sz_24, DL.sz_25, DL.sz_26, DL.sz_27, DL.sz_28, DL.sz_29, DL.sz_30, DL.nc_0, DL.nc_1, DL.nc_2, DL.nc_3, DL.nc_4, DL.nc_5, DL.nc_6, DL.nc_7, DL.nc_8, DL.nc_9, DL.nc_10, DL.nc_11, DL.nc_12, DL.nc_13, DL.nc_14, DL.nc_15, DL.nc_16, DL.nc_17, DL.nc_18, DL.nc_19, DL.nc_20, DL.nc_21, DL.nc_22, DL.nc_23, DL.nc_24, DL.nc_25, DL.nc_26, DL.nc_27, DL.nc_28, DL.nc_29, DL.nc_30, DL.addD_i, DL.addD_t, DL.addD_l, DL.subD_i, DL.modD_i, DL.fdivD_i, DL.mulD_i, DL.lenD_t, DL.lenD_l, DL.tupleD_t, DL.tupleD_l, DL.listD_t, DL.listD_l, DL.truD_i, DL.truD_b, DL.truD_n, DL.truD_l, DL.truD_t, DL.ixD_t, DL.ixD_l, DL.negD_i, DL.bD_a, DL.ltB_i, DL.leB_i, DL.geB_i, DL.eqB_i, DL.neB_i, DL.min2D_i, DL.max2D_i, DL.items_t, DL.items_l, DL.isNN, DL.slD_t, DL.slD_l, DL.sortD2_l, DL.sortD2_t, DL.p_ge0, DL.p_geS, DL.p_tk0, DL.p_tkS, DL.p_tkN, DL.p_dr0, DL.p_drS, DL.p_drN, DL.p_mpC, DL.p_mpN, DL.p_apC, DL.p_apN, DL.p_lnC, DL.p_lnN, DL.p_rpS, DL.p_rp0, DL.p_alC, DL.p_alN, DL.p_gdS, DL.p_gdN, DL.p_tlS, DL.p_tlN, DL.p_ieC, DL.p_ieN, DL.p_nt, DL.p_nf, DL.p_atb, DL.p_afb, DL.p_abt, DL.p_abf, DL.p_eqS, DL.p_dT, DL.p_dF, DL.p_TA, DL.p_AT, DL.p_TO, DL.p_OT, DL.p_startD, DL.p_startR, DL.forK_nx, DL.forK_ct, DL.forK_rt, DL.yesM_a, DL.it1_a, DL.compM_a, DL.wipeR_c, DL.wipeR_n, DL.restR_c, DL.restR_n, DL.gtD_i, DL.gtD_T, DL.ob_assoc, DL.om_bind, DL.ob_map, DL.om_map, DL.cnd_bind, DL.cnd_map, DL.guard_bind, DL.guard_map, DL.atI_c0, DL.atI_c1, DL.atI_c2, DL.atI_c3, DL.encN_0, DL.encN_1, DL.encN_2, DL.encN_u, DL.revD_t, DL.revD_l, DL.eq_TI, DL.ne_TI, DL.in_I, DL.in_Il, DL.in_T, DL.in_R, DL.notInB_a, DL.enumM_a, DL.seqK_ex, DL.finF_ex, DL.forK_ex, DL.tri_no, DL.trm_no, DL.atI_neg1, Nat.reduceAdd, Nat.reduceSub, Nat.reduceMul, Int.reduceLT, Int.reduceLE, Int.reducePow, Int.reduceNeg, Int.reduceAdd, Int.reduceSub, Int.reduceMul, Int.reduceBEq, Int.reduceBNe, Int.reduceToNat, $xs,*])
namespace DL
open PySem L2 GT
end DL
namespace DL
open PySem L2 GT
end DL
namespace GT
/-- a way longer by a tie that leads on -/
def leads (row : List Int) (b : Int) (t : Tie) : Bool := decide (b ∈ [t.1, t.2]) && (decide (t.1 ∉ row) || decide (t.2 ∉ row))
def ext (N : Net) (row : List Int) : List (List Int) := (N.ties.filter (leads row (row.getLast?.getD 0))).map fun t => row ++ [t.1 + t.2 - row.getLast?.getD 0]
end GT
namespace DL
open PySem L2 GT
def whileK (t : TM) (f : SM) (n : Nat) : Out → Option Out
  | .nx r => whileL t f n r
  | .ct r => whileL t f n r
  | .bk r => some (.nx r)
  | o => some o
theorem whileL_s (t : TM) (f : SM) (n : Nat) (r : Rho) : whileL t f (n + 1) r = (t r).bind fun p => cnd p.1 (fun _ => (f p.2).bind (whileK t f n)) (fun _ => some (.nx p.2)) := by
  rw [whileL]
  cases t r with
  | none => rfl
  | some p =>
    obtain ⟨b, r1⟩ := p
    cases b with
    | false => rfl
    | true =>
      simp only [ob_some, cnd_t, if_true]
      cases f r1 with
      | none => rfl
      | some o => cases o <;> rfl
theorem whileK_nx (t : TM) (f : SM) (n : Nat) (r : Rho) : whileK t f n (.nx r) = whileL t f n r := (rfl)
end DL
local macro_rules | `(tactic| simp_arith [$xs,*]) => `(tactic| simp only [DL.ob_some, DL.om_some, DL.dat_d, DL.lis_l, DL.dic_m, DL.gt_0, DL.gt_1, DL.gt_2, DL.gt_3, DL.gt_4, DL.gt_5, DL.gt_6, DL.gt_7, DL.gt_b, DL.st_0, DL.st_s, DL.plG_d, DL.plG_n, DL.plainAt_a, DL.varM_a, DL.ownM_a, DL.cM_a, DL.ofL_a, DL.opM_a, DL.unM_a, DL.truM_a, DL.tstM_a, DL.notM_a, DL.cnd_t, DL.cnd_f, DL.andM_a, DL.orM_a, DL.andVM_a, DL.orVM_a, DL.notVM_a, DL.chM_a, DL.nilM_a, DL.consM_a, DL.guard_tt, DL.tupM_a, DL.lstM_a, DL.noM_a, DL.intV_i, DL.someM_a, DL.slM_a, DL.rng1M_a, DL.rng2M_a, DL.zipV_t, DL.zipV_l, DL.zipM_a, DL.seqM_a, DL.callM_a, DL.hereM_a, DL.callRM_a, DL.appM_a, DL.lisV_l, DL.extM_a, DL.popAtM_a, DL.newDM_a, DL.putM_a, DL.lenDM_a, DL.sortDM_a, DL.nameG_a, DL.nilG_a, DL.consG_a, DL.tupG_a, DL.seqS_a, DL.seqK_nx, DL.seqK_rt, DL.seqK_ct, DL.skipM_a, DL.asgM_a, DL.asgG_a, DL.newM_a, DL.asgLM_a, DL.retM_a, DL.exprM_a, DL.ifM_a, DL.forM_a, DL.frzM_a, DL.runF_a, DL.finF_rt, DL.finF_nx, DL.runR_a, DL.finR_rt, DL.finR_nx, DL.sz_0, DL.sz_1, DL.sz_2, DL.sz_3, DL.sz_4, DL.sz_5, DL.sz_6, DL.sz_7, DL.sz_8, DL.sz_9, DL.sz_10, DL.sz_11, DL.sz_12, DL.sz_13, DL.sz_14, DL.sz_15, DL.sz_16, DL.sz_17, DL.sz_18, DL.sz_19, DL.sz_20, DL.sz_21, DL.sz_22, DL.sz_23, DL.sz_24, DL.sz_25, DL.sz_26, DL.sz_27, DL.sz_28, DL.sz_29, DL.sz_30, DL.nc_0, DL.nc_1, DL.nc_2, DL.nc_3, DL.nc_4, DL.nc_5, DL.nc_6, DL.nc_7, DL.nc_8, DL.nc_9, DL.nc_10, DL.nc_11, DL.nc_12, DL.nc_13, DL.nc_14, DL.nc_15, DL.nc_16, DL.nc_17, DL.nc_18, DL.nc_19, DL.nc_20, DL.nc_21, DL.nc_22, DL.nc_23, DL.nc_24, DL.nc_25, DL.nc_26, DL.nc_27, DL.nc_28, DL.nc_29, DL.nc_30, DL.addD_i, DL.addD_t, DL.addD_l, DL.subD_i, DL.modD_i, DL.fdivD_i, DL.mulD_i, DL.lenD_t, DL.lenD_l, DL.tupleD_t, DL.tupleD_l, DL.listD_t, DL.listD_l, DL.truD_i, DL.truD_b, DL.truD_n, DL.truD_l, DL.truD_t, DL.ixD_t, DL.ixD_l, DL.negD_i, DL.bD_a, DL.ltB_i, DL.leB_i, DL.geB_i, DL.eqB_i, DL.neB_i, DL.min2D_i, DL.max2D_i, DL.items_t, DL.items_l, DL.isNN, DL.slD_t, DL.slD_l, DL.sortD2_l, DL.sortD2_t, DL.p_ge0, DL.p_geS, DL.p_tk0, DL.p_tkS, DL.p_tkN, DL.p_dr0, DL.p_drS, DL.p_drN, DL.p_mpC, DL.p_mpN, DL.p_apC, DL.p_apN, DL.p_lnC, DL.p_lnN, DL.p_rpS, DL.p_rp0, DL.p_alC, DL.p_alN, DL.p_gdS, DL.p_gdN, DL.p_tlS, DL.p_tlN, DL.p_ieC, DL.p_ieN, DL.p_nt, DL.p_nf, DL.p_atb, DL.p_afb, DL.p_abt, DL.p_abf, DL.p_eqS, DL.p_dT, DL.p_dF, DL.p_TA, DL.p_AT, DL.p_TO, DL.p_OT, DL.p_startD, DL.p_startR, DL.forK_nx, DL.forK_ct, DL.forK_rt, DL.yesM_a, DL.it1_a, DL.compM_a, DL.wipeR_c, DL.wipeR_n, DL.restR_c, DL.restR_n, DL.gtD_i, DL.gtD_T, DL.ob_assoc, DL.om_bind, DL.ob_map, DL.om_map, DL.cnd_bind, DL.cnd_map, DL.guard_bind, DL.guard_map, DL.atI_c0, DL.atI_c1, DL.atI_c2, DL.atI_c3, DL.encN_0, DL.encN_1, DL.encN_2, DL.encN_u, DL.revD_t, DL.revD_l, DL.eq_TI, DL.ne_TI, DL.in_I, DL.in_Il, DL.in_T, DL.in_R, DL.notInB_a, DL.enumM_a, DL.seqK_ex, DL.finF_ex, DL.forK_ex, DL.tri_no, DL.trm_no, DL.atI_neg1, DL.dkOf_i, DL.keyOf_i, DL.whileK_nx, Nat.reduceAdd, Nat.reduceSub, Nat.reduceMul, Int.reduceLT, Int.reduceLE, Int.reducePow, Int.reduceNeg, Int.reduceAdd, Int.reduceSub, Int.reduceMul, Int.reduceBEq, Int.reduceBNe, Int.reduceToNat, $xs,*])
namespace PG
open PySem L2 DL GT
structure RInv (L : Net) (k : Int) (ks td : List Int) : Prop where
  nd : ks.Nodup
  tnd : td.Nodup
  at_ : k ∈ ks
  sub : ∀ x ∈ td, x ∈ ks
  sound : ∀ x ∈ ks, Reach L k x
  closed : ∀ b ∈ ks, b ∉ td → ∀ c, adj L b c = true → c ∈ ks
theorem RInv.step {L : Net} (w : L.WF) {k b : Int} {ks td new : List Int} (h : RInv L k ks (td ++ [b])) (hn : ∀ x, x ∈ new ↔ x ∈ nb L b ∧ x ∉ ks) (nn : new.Nodup) : RInv L k (ks ++ new) (td ++ new) where
  nd := List.nodup_append.mpr ⟨h.nd, nn, fun x m y my e => ((hn y).mp my).2 (e ▸ m)⟩
  tnd := List.nodup_append.mpr ⟨(List.nodup_append.mp h.tnd).1, nn, fun x m y my e => ((hn y).mp my).2 (e ▸ h.sub x (List.mem_append_left _ m))⟩
  at_ := List.mem_append_left _ h.at_
  sub := fun x m => by
    rcases List.mem_append.mp m with m | m
    · exact List.mem_append_left _ (h.sub x (List.mem_append_left _ m))
    · exact List.mem_append_right _ m
  sound := fun x m => by
    rcases List.mem_append.mp m with m | m
    · exact h.sound x m
    · exact (h.sound b (h.sub b (by simp))).step ((mem_nb (w := w)).mp ((hn x).mp m).1)
  closed := fun x m no c ha => by
    have no1 : x ∉ td := fun z => no (List.mem_append_left _ z)
    have no2 : x ∉ new := fun z => no (List.mem_append_right _ z)
    have mk : x ∈ ks := (List.mem_append.mp m).resolve_right no2
    by_cases e : x = b
    · subst e
      by_cases q : c ∈ ks
      · exact List.mem_append_left _ q
      · exact List.mem_append_right _ ((hn c).mpr ⟨(mem_nb (w := w)).mpr ha, q⟩)
    · exact List.mem_append_left _ (h.closed x mk (by simp [no1, e]) c ha)
end PG
namespace GT
end GT
namespace DL
open PySem L2 GT
end DL
local macro_rules | `(tactic| simp_arith [$xs,*]) => `(tactic| simp only [DL.ob_some, DL.om_some, DL.dat_d, DL.lis_l, DL.dic_m, DL.gt_0, DL.gt_1, DL.gt_2, DL.gt_3, DL.gt_4, DL.gt_5, DL.gt_6, DL.gt_7, DL.gt_b, DL.st_0, DL.st_s, DL.plG_d, DL.plG_n, DL.plainAt_a, DL.varM_a, DL.ownM_a, DL.cM_a, DL.ofL_a, DL.opM_a, DL.unM_a, DL.truM_a, DL.tstM_a, DL.notM_a, DL.cnd_t, DL.cnd_f, DL.andM_a, DL.orM_a, DL.andVM_a, DL.orVM_a, DL.notVM_a, DL.chM_a, DL.nilM_a, DL.consM_a, DL.guard_tt, DL.tupM_a, DL.lstM_a, DL.noM_a, DL.intV_i, DL.someM_a, DL.slM_a, DL.rng1M_a, DL.rng2M_a, DL.zipV_t, DL.zipV_l, DL.zipM_a, DL.seqM_a, DL.callM_a, DL.hereM_a, DL.callRM_a, DL.appM_a, DL.lisV_l, DL.extM_a, DL.popAtM_a, DL.newDM_a, DL.putM_a, DL.lenDM_a, DL.sortDM_a, DL.nameG_a, DL.nilG_a, DL.consG_a, DL.tupG_a, DL.seqS_a, DL.seqK_nx, DL.seqK_rt, DL.seqK_ct, DL.skipM_a, DL.asgM_a, DL.asgG_a, DL.newM_a, DL.asgLM_a, DL.retM_a, DL.exprM_a, DL.ifM_a, DL.forM_a, DL.frzM_a, DL.runF_a, DL.finF_rt, DL.finF_nx, DL.runR_a, DL.finR_rt, DL.finR_nx, DL.sz_0, DL.sz_1, DL.sz_2, DL.sz_3, DL.sz_4, DL.sz_5, DL.sz_6, DL.sz_7, DL.sz_8, DL.sz_9, DL.sz_10, DL.sz_11, DL.sz_12, DL.sz_13, DL.sz_14, DL.sz_15, DL.sz_16, DL.sz_17, DL.sz_18, DL.sz_19, DL.sz_20, DL.sz_21, DL.sz_22, DL.sz_23, DL.sz_24, DL.sz_25, DL.sz_26, DL.sz_27, DL.sz_28, DL.sz_29, DL.sz_30, DL.nc_0, DL.nc_1, DL.nc_2, DL.nc_3, DL.nc_4, DL.nc_5, DL.nc_6, DL.nc_7, DL.nc_8, DL.nc_9, DL.nc_10, DL.nc_11, DL.nc_12, DL.nc_13, DL.nc_14, DL.nc_15, DL.nc_16, DL.nc_17, DL.nc_18, DL.nc_19, DL.nc_20, DL.nc_21, DL.nc_22, DL.nc_23, DL.nc_24, DL.nc_25, DL.nc_26, DL.nc_27, DL.nc_28, DL.nc_29, DL.nc_30, DL.addD_i, DL.addD_t, DL.addD_l, DL.subD_i, DL.modD_i, DL.fdivD_i, DL.mulD_i, DL.lenD_t, DL.lenD_l, DL.tupleD_t, DL.tupleD_l, DL.listD_t, DL.listD_l, DL.truD_i, DL.truD_b, DL.truD_n, DL.truD_l, DL.truD_t, DL.ixD_t, DL.ixD_l, DL.negD_i, DL.bD_a, DL.ltB_i, DL.leB_i, DL.geB_i, DL.eqB_i, DL.neB_i, DL.min2D_i, DL.max2D_i, DL.items_t, DL.items_l, DL.isNN, DL.slD_t, DL.slD_l, DL.sortD2_l, DL.sortD2_t, DL.p_ge0, DL.p_geS, DL.p_tk0, DL.p_tkS, DL.p_tkN, DL.p_dr0, DL.p_drS, DL.p_drN, DL.p_mpC, DL.p_mpN, DL.p_apC, DL.p_apN, DL.p_lnC, DL.p_lnN, DL.p_rpS, DL.p_rp0, DL.p_alC, DL.p_alN, DL.p_gdS, DL.p_gdN, DL.p_tlS, DL.p_tlN, DL.p_ieC, DL.p_ieN, DL.p_nt, DL.p_nf, DL.p_atb, DL.p_afb, DL.p_abt, DL.p_abf, DL.p_eqS, DL.p_dT, DL.p_dF, DL.p_TA, DL.p_AT, DL.p_TO, DL.p_OT, DL.p_startD, DL.p_startR, DL.forK_nx, DL.forK_ct, DL.forK_rt, DL.yesM_a, DL.it1_a, DL.compM_a, DL.wipeR_c, DL.wipeR_n, DL.restR_c, DL.restR_n, DL.gtD_i, DL.gtD_T, DL.ob_assoc, DL.om_bind, DL.ob_map, DL.om_map, DL.cnd_bind, DL.cnd_map, DL.guard_bind, DL.guard_map, DL.atI_c0, DL.atI_c1, DL.atI_c2, DL.atI_c3, DL.encN_0, DL.encN_1, DL.encN_2, DL.encN_u, DL.revD_t, DL.revD_l, DL.eq_TI, DL.ne_TI, DL.in_I, DL.in_Il, DL.in_T, DL.in_R, DL.notInB_a, DL.enumM_a, DL.seqK_ex, DL.finF_ex, DL.forK_ex, DL.tri_no, DL.trm_no, DL.atI_neg1, DL.dkOf_i, DL.keyOf_i, DL.whileK_nx, Nat.reduceAdd, Nat.reduceSub, Nat.reduceMul, Int.reduceLT, Int.reduceLE, Int.reducePow, Int.reduceNeg, Int.reduceAdd, Int.reduceSub, Int.reduceMul, Int.reduceBEq, Int.reduceBNe, Int.reduceToNat, $xs,*])
open PySem L2 GT
namespace PG
open PySem L2 DL GT
theorem cut_from {α : Type} (xs : List α) (k : Nat) : cutD xs (some (k : Int)) none = xs.drop k := by
  unfold cutD
  rw [HT.sIx_none, HT.sIx_nat]
  rcases Nat.le_total k xs.length with h | h
  · rw [Nat.min_eq_left h, List.take_of_length_le (by simp)]
  · rw [Nat.min_eq_right h, List.drop_of_length_le h]
    simp
noncomputable def parts (N : Net) (p : Tie × Nat) : Bool := !decide (p.1.2 ∈ GT.reached (GT.without N [(p.2 : Int)]) p.1.1)
end PG
local macro_rules | `(tactic| simp_arith [$xs,*]) => `(tactic| simp (maxSteps := 2000000) (disch := omega) only [DL.ob_some, DL.om_some, DL.dat_d, DL.lis_l, DL.dic_m, DL.gt_0, DL.gt_1, DL.gt_2, DL.gt_3, DL.gt_4, DL.gt_5, DL.gt_6, DL.gt_7, DL.gt_b, DL.st_0, DL.st_s, DL.plG_d, DL.plG_n, DL.plainAt_a, DL.varM_a, DL.ownM_a, DL.cM_a, DL.ofL_a, DL.opM_a, DL.unM_a, DL.truM_a, DL.tstM_a, DL.notM_a, DL.cnd_t, DL.cnd_f, DL.andM_a, DL.orM_a, DL.andVM_a, DL.orVM_a, DL.notVM_a, DL.chM_a, DL.nilM_a, DL.consM_a, DL.guard_tt, DL.tupM_a, DL.lstM_a, DL.noM_a, DL.intV_i, DL.someM_a, DL.slM_a, DL.rng1M_a, DL.rng2M_a, DL.zipV_t, DL.zipV_l, DL.zipM_a, DL.seqM_a, DL.callM_a, DL.hereM_a, DL.callRM_a, DL.appM_a, DL.lisV_l, DL.extM_a, DL.popAtM_a, DL.newDM_a, DL.putM_a, DL.lenDM_a, DL.sortDM_a, DL.nameG_a, DL.nilG_a, DL.consG_a, DL.tupG_a, DL.seqS_a, DL.seqK_nx, DL.seqK_rt, DL.seqK_ct, DL.skipM_a, DL.asgM_a, DL.asgG_a, DL.newM_a, DL.asgLM_a, DL.retM_a, DL.exprM_a, DL.ifM_a, DL.forM_a, DL.frzM_a, DL.runF_a, DL.finF_rt, DL.finF_nx, DL.runR_a, DL.finR_rt, DL.finR_nx, DL.sz_0, DL.sz_1, DL.sz_2, DL.sz_3, DL.sz_4, DL.sz_5, DL.sz_6, DL.sz_7, DL.sz_8, DL.sz_9, DL.sz_10, DL.sz_11, DL.sz_12, DL.sz_13, DL.sz_14, DL.sz_15, DL.sz_16, DL.sz_17, DL.sz_18, DL.sz_19, DL.sz_20, DL.sz_21, DL.sz_22, DL.sz_23, DL.sz_24, DL.sz_25, DL.sz_26, DL.sz_27, DL.sz_28, DL.sz_29, DL.sz_30, DL.nc_0, DL.nc_1, DL.nc_2, DL.nc_3, DL.nc_4, DL.nc_5, DL.nc_6, DL.nc_7, DL.nc_8, DL.nc_9, DL.nc_10, DL.nc_11, DL.nc_12, DL.nc_13, DL.nc_14, DL.nc_15, DL.nc_16, DL.nc_17, DL.nc_18, DL.nc_19, DL.nc_20, DL.nc_21, DL.nc_22, DL.nc_23, DL.nc_24, DL.nc_25, DL.nc_26, DL.nc_27, DL.nc_28, DL.nc_29, DL.nc_30, DL.addD_i, DL.addD_t, DL.addD_l, DL.subD_i, DL.modD_i, DL.fdivD_i, DL.mulD_i, DL.lenD_t, DL.lenD_l, DL.tupleD_t, DL.tupleD_l, DL.listD_t, DL.listD_l, DL.truD_i, DL.truD_b, DL.truD_n, DL.truD_l, DL.truD_t, DL.ixD_t, DL.ixD_l, DL.negD_i, DL.bD_a, DL.ltB_i, DL.leB_i, DL.geB_i, DL.eqB_i, DL.neB_i, DL.min2D_i, DL.max2D_i, DL.items_t, DL.items_l, DL.isNN, DL.slD_t, DL.slD_l, DL.sortD2_l, DL.sortD2_t, DL.p_ge0, DL.p_geS, DL.p_tk0, DL.p_tkS, DL.p_tkN, DL.p_dr0, DL.p_drS, DL.p_drN, DL.p_mpC, DL.p_mpN, DL.p_apC, DL.p_apN, DL.p_lnC, DL.p_lnN, DL.p_rpS, DL.p_rp0, DL.p_alC, DL.p_alN, DL.p_gdS, DL.p_gdN, DL.p_tlS, DL.p_tlN, DL.p_ieC, DL.p_ieN, DL.p_nt, DL.p_nf, DL.p_atb, DL.p_afb, DL.p_abt, DL.p_abf, DL.p_eqS, DL.p_dT, DL.p_dF, DL.p_TA, DL.p_AT, DL.p_TO, DL.p_OT, DL.p_startD, DL.p_startR, DL.forK_nx, DL.forK_ct, DL.forK_rt, DL.yesM_a, DL.it1_a, DL.compM_a, DL.wipeR_c, DL.wipeR_n, DL.restR_c, DL.restR_n, DL.gtD_i, DL.gtD_T, DL.ob_assoc, DL.om_bind, DL.ob_map, DL.om_map, DL.cnd_bind, DL.cnd_map, DL.guard_bind, DL.guard_map, DL.atI_c0, DL.atI_c1, DL.atI_c2, DL.atI_c3, DL.encN_0, DL.encN_1, DL.encN_2, DL.encN_u, DL.revD_t, DL.revD_l, DL.eq_TI, DL.ne_TI, DL.in_I, DL.in_Il, DL.in_T, DL.in_R, DL.notInB_a, DL.enumM_a, DL.seqK_ex, DL.finF_ex, DL.forK_ex, DL.tri_no, DL.trm_no, DL.atI_neg1, DL.wipO_nx, DL.wipO_ct, DL.wipO_bk, DL.wipO_rt, DL.wipO_ex, DL.wipM_a, DL.preM_a, DL.two_a, DL.parLM_a, DL.finR_ex, DL.len_map, DL.len_app, DL.len_ir, DL.len_rev, DL.sz_c, DL.rng_c, DL.rngL_n, DL.forM_a', DL.rev_map, DL.seqK_bk, DL.forK_bk, DL.enum_m, DL.emp_map, DL.eq_LI, DL.ne_LI, DL.eq_LI0, DL.ne_LI0, DL.eq_LT, DL.ne_LT, DL.eq_LR, DL.ne_LR, DL.eq_TR, DL.ne_TR, DL.eq_B, DL.ne_B, DL.wp_mapE, DL.sortDict_map, DL.lenDict_map, DL.map_id_int, DL.cut_f, DL.cut_t, DL.cut_f1, DL.map_drop', DL.map_take', DL.map_app', DL.len_zip, DL.dkOf_i, DL.keyOf_i, DL.whileK_nx, Nat.reduceAdd, Nat.reduceSub, Nat.reduceMul, Int.reduceLT, Int.reduceLE, Int.reducePow, Int.reduceNeg, Int.reduceAdd, Int.reduceSub, Int.reduceMul, Int.reduceBEq, Int.reduceBNe, Int.reduceToNat, $xs,*])
namespace RX
open PySem L2 DL GT PG
/-! plain: nets without ties -/
/-! a drawn net is one -/
theorem upB_T : ∀ {ts : List Tie}, ts.Pairwise tlt → upB ltD (ts.map encT) = true
  | [], _ => rfl
  | [_], _ => rfl
  | a :: b :: ts, h => by
    have h' := List.pairwise_cons.mp h
    have ih := upB_T h'.2
    have : ltD (encT a) (encT b) = true := by
      have := h'.1 b (by simp)
      unfold ltD ltB
      simp only [encT, intsOf]
      have e := (llt_pair a b).mpr this
      unfold tlt at this
      rcases this with q | ⟨q1, q2⟩
      · simp [HT.lexLt, q]; omega
      · simp [HT.lexLt, q1, q2]; omega
    simp only [List.map_cons] at ih ⊢
    unfold upB
    rw [this, ih]; rfl
theorem upB_I : ∀ {ks : List Int}, ks.Pairwise (· < ·) → upB ltD (ks.map .int) = true
  | [], _ => rfl
  | [_], _ => rfl
  | a :: b :: ks, h => by
    have h' := List.pairwise_cons.mp h
    have ih := upB_I h'.2
    have : ltD (.int a) (.int b) = true := by
      have := h'.1 b (by simp)
      simp [ltD, ltB, this]
    simp only [List.map_cons] at ih ⊢
    unfold upB
    rw [this, ih]; rfl
theorem netD_enc {N : Net} (w : N.WF) (ht : N.ties.length ≤ 9) (hr : N.rim ≠ []) : netD (encN N) = true := by
  have h1 : (N.ties.map encT).all (tieD N.n) = true := by
    rw [List.all_map, List.all_eq_true]
    intro t m
    have := w.tie t m
    simp [tieD]; omega
  have h2 : (N.rim.map PyData.int).all (wholeD · 0 (N.n - 1)) = true := by
    rw [List.all_map, List.all_eq_true]
    intro k m
    have := w.rimIn k m
    simp [wholeD]; omega
  have h3 : (N.rim.map PyData.int).isEmpty = false := by
    cases q : N.rim with
    | nil => exact absurd q hr
    | cons a l => rfl
  have := w.pos; have := w.small
  show ((decide ((1 : Int) ≤ N.n) && decide ((N.n : Int) ≤ 7)) && (decide ((N.ties.map encT).length ≤ 9) && ((N.ties.map encT).all (tieD N.n) && (!(N.rim.map PyData.int).isEmpty && ((N.rim.map PyData.int).all (wholeD · 0 (N.n - 1)) && (upB ltD (N.ties.map encT) && upB ltD (N.rim.map PyData.int))))))) = true
  rw [h1, h2, h3, upB_T w.up, upB_I w.rimUp, List.length_map, decide_eq_true ht, decide_eq_true (show (1 : Int) ≤ N.n by omega), decide_eq_true (show (N.n : Int) ≤ 7 by omega)]
  rfl
theorem nice_net {N : Net} (w : N.WF) (ht : N.ties.length ≤ 100) : nice 20 (encN N) = true := by
  have := rim_len w
  simp [nice, encN, List.all_eq_true]; omega
theorem is_net_enc {N : Net} (w : N.WF) (ht : N.ties.length ≤ 9) (hr : N.rim ≠ []) : g_is_net [encN N] = some (.bool true) := by
  rw [net_eval _ (nice_net w (by omega)), netD_enc w ht hr]
end RX
namespace PG
open PySem L2 DL GT RX
/-! what probes show -/
theorem allD_map' {α : Type} (p : α → Bool) (xs : List α) : allD (.list (xs.map fun x => .bool (p x))) = some (.bool (xs.all p)) := allD_map p xs
end PG
local macro_rules | `(tactic| simp_arith [$xs,*]) => `(tactic| simp (maxSteps := 2000000) (disch := omega) only [DL.ob_some, DL.om_some, DL.dat_d, DL.lis_l, DL.dic_m, DL.gt_0, DL.gt_1, DL.gt_2, DL.gt_3, DL.gt_4, DL.gt_5, DL.gt_6, DL.gt_7, DL.gt_b, DL.st_0, DL.st_s, DL.plG_d, DL.plG_n, DL.plainAt_a, DL.varM_a, DL.ownM_a, DL.cM_a, DL.ofL_a, DL.opM_a, DL.unM_a, DL.truM_a, DL.tstM_a, DL.notM_a, DL.cnd_t, DL.cnd_f, DL.andM_a, DL.orM_a, DL.andVM_a, DL.orVM_a, DL.notVM_a, DL.chM_a, DL.nilM_a, DL.consM_a, DL.guard_tt, DL.tupM_a, DL.lstM_a, DL.noM_a, DL.intV_i, DL.someM_a, DL.slM_a, DL.rng1M_a, DL.rng2M_a, DL.zipV_t, DL.zipV_l, DL.zipM_a, DL.seqM_a, DL.callM_a, DL.hereM_a, DL.callRM_a, DL.appM_a, DL.lisV_l, DL.extM_a, DL.popAtM_a, DL.newDM_a, DL.putM_a, DL.lenDM_a, DL.sortDM_a, DL.nameG_a, DL.nilG_a, DL.consG_a, DL.tupG_a, DL.seqS_a, DL.seqK_nx, DL.seqK_rt, DL.seqK_ct, DL.skipM_a, DL.asgM_a, DL.asgG_a, DL.newM_a, DL.asgLM_a, DL.retM_a, DL.exprM_a, DL.ifM_a, DL.forM_a, DL.frzM_a, DL.runF_a, DL.finF_rt, DL.finF_nx, DL.runR_a, DL.finR_rt, DL.finR_nx, DL.sz_0, DL.sz_1, DL.sz_2, DL.sz_3, DL.sz_4, DL.sz_5, DL.sz_6, DL.sz_7, DL.sz_8, DL.sz_9, DL.sz_10, DL.sz_11, DL.sz_12, DL.sz_13, DL.sz_14, DL.sz_15, DL.sz_16, DL.sz_17, DL.sz_18, DL.sz_19, DL.sz_20, DL.sz_21, DL.sz_22, DL.sz_23, DL.sz_24, DL.sz_25, DL.sz_26, DL.sz_27, DL.sz_28, DL.sz_29, DL.sz_30, DL.nc_0, DL.nc_1, DL.nc_2, DL.nc_3, DL.nc_4, DL.nc_5, DL.nc_6, DL.nc_7, DL.nc_8, DL.nc_9, DL.nc_10, DL.nc_11, DL.nc_12, DL.nc_13, DL.nc_14, DL.nc_15, DL.nc_16, DL.nc_17, DL.nc_18, DL.nc_19, DL.nc_20, DL.nc_21, DL.nc_22, DL.nc_23, DL.nc_24, DL.nc_25, DL.nc_26, DL.nc_27, DL.nc_28, DL.nc_29, DL.nc_30, DL.addD_i, DL.addD_t, DL.addD_l, DL.subD_i, DL.modD_i, DL.fdivD_i, DL.mulD_i, DL.lenD_t, DL.lenD_l, DL.tupleD_t, DL.tupleD_l, DL.listD_t, DL.listD_l, DL.truD_i, DL.truD_b, DL.truD_n, DL.truD_l, DL.truD_t, DL.ixD_t, DL.ixD_l, DL.negD_i, DL.bD_a, DL.ltB_i, DL.leB_i, DL.geB_i, DL.eqB_i, DL.neB_i, DL.min2D_i, DL.max2D_i, DL.items_t, DL.items_l, DL.isNN, DL.slD_t, DL.slD_l, DL.sortD2_l, DL.sortD2_t, DL.p_ge0, DL.p_geS, DL.p_tk0, DL.p_tkS, DL.p_tkN, DL.p_dr0, DL.p_drS, DL.p_drN, DL.p_mpC, DL.p_mpN, DL.p_apC, DL.p_apN, DL.p_lnC, DL.p_lnN, DL.p_rpS, DL.p_rp0, DL.p_alC, DL.p_alN, DL.p_gdS, DL.p_gdN, DL.p_tlS, DL.p_tlN, DL.p_ieC, DL.p_ieN, DL.p_nt, DL.p_nf, DL.p_atb, DL.p_afb, DL.p_abt, DL.p_abf, DL.p_eqS, DL.p_dT, DL.p_dF, DL.p_TA, DL.p_AT, DL.p_TO, DL.p_OT, DL.p_startD, DL.p_startR, DL.forK_nx, DL.forK_ct, DL.forK_rt, DL.yesM_a, DL.it1_a, DL.compM_a, DL.wipeR_c, DL.wipeR_n, DL.restR_c, DL.restR_n, DL.gtD_i, DL.gtD_T, DL.ob_assoc, DL.om_bind, DL.ob_map, DL.om_map, DL.cnd_bind, DL.cnd_map, DL.guard_bind, DL.guard_map, DL.atI_c0, DL.atI_c1, DL.atI_c2, DL.atI_c3, DL.encN_0, DL.encN_1, DL.encN_2, DL.encN_u, DL.revD_t, DL.revD_l, DL.eq_TI, DL.ne_TI, DL.in_I, DL.in_Il, DL.in_T, DL.in_R, DL.notInB_a, DL.enumM_a, DL.seqK_ex, DL.finF_ex, DL.forK_ex, DL.tri_no, DL.trm_no, DL.atI_neg1, DL.wipO_nx, DL.wipO_ct, DL.wipO_bk, DL.wipO_rt, DL.wipO_ex, DL.wipM_a, DL.preM_a, DL.two_a, DL.parLM_a, DL.finR_ex, DL.len_map, DL.len_app, DL.len_ir, DL.len_rev, DL.sz_c, DL.rng_c, DL.rngL_n, DL.forM_a', DL.rev_map, DL.seqK_bk, DL.forK_bk, DL.enum_m, DL.emp_map, DL.eq_LI, DL.ne_LI, DL.eq_LI0, DL.ne_LI0, DL.eq_LT, DL.ne_LT, DL.eq_LR, DL.ne_LR, DL.eq_TR, DL.ne_TR, DL.eq_B, DL.ne_B, DL.wp_mapE, DL.sortDict_map, DL.lenDict_map, DL.map_id_int, DL.cut_f, DL.cut_t, DL.cut_f1, DL.map_drop', DL.map_take', DL.map_app', DL.len_zip, DL.dkOf_i, DL.keyOf_i, DL.whileK_nx, PG.allD_map', Nat.reduceAdd, Nat.reduceSub, Nat.reduceMul, Int.reduceLT, Int.reduceLE, Int.reducePow, Int.reduceNeg, Int.reduceAdd, Int.reduceSub, Int.reduceMul, Int.reduceBEq, Int.reduceBNe, Int.reduceToNat, $xs,*])
namespace PG
open PySem L2 DL GT RX
theorem enum_ir {m : Nat} (g : Int → D) : enumL ((ir m).map g) = (ir m).map fun t => .tuple [.int t, g t] := by
  unfold ir
  rw [List.map_map, List.map_map]
  unfold enumL zipL
  apply List.ext_getElem?
  intro i
  simp only [List.getElem?_zipWith, List.getElem?_map, List.getElem?_range, List.length_map, List.length_range]
  by_cases h : i < m
  · simp [h, pairD]
  · simp [h]
end PG
local macro_rules | `(tactic| simp_arith [$xs,*]) => `(tactic| simp (maxSteps := 2000000) (disch := omega) only [DL.ob_some, DL.om_some, DL.dat_d, DL.lis_l, DL.dic_m, DL.gt_0, DL.gt_1, DL.gt_2, DL.gt_3, DL.gt_4, DL.gt_5, DL.gt_6, DL.gt_7, DL.gt_b, DL.st_0, DL.st_s, DL.plG_d, DL.plG_n, DL.plainAt_a, DL.varM_a, DL.ownM_a, DL.cM_a, DL.ofL_a, DL.opM_a, DL.unM_a, DL.truM_a, DL.tstM_a, DL.notM_a, DL.cnd_t, DL.cnd_f, DL.andM_a, DL.orM_a, DL.andVM_a, DL.orVM_a, DL.notVM_a, DL.chM_a, DL.nilM_a, DL.consM_a, DL.guard_tt, DL.tupM_a, DL.lstM_a, DL.noM_a, DL.intV_i, DL.someM_a, DL.slM_a, DL.rng1M_a, DL.rng2M_a, DL.zipV_t, DL.zipV_l, DL.zipM_a, DL.seqM_a, DL.callM_a, DL.hereM_a, DL.callRM_a, DL.appM_a, DL.lisV_l, DL.extM_a, DL.popAtM_a, DL.newDM_a, DL.putM_a, DL.lenDM_a, DL.sortDM_a, DL.nameG_a, DL.nilG_a, DL.consG_a, DL.tupG_a, DL.seqS_a, DL.seqK_nx, DL.seqK_rt, DL.seqK_ct, DL.skipM_a, DL.asgM_a, DL.asgG_a, DL.newM_a, DL.asgLM_a, DL.retM_a, DL.exprM_a, DL.ifM_a, DL.forM_a, DL.frzM_a, DL.runF_a, DL.finF_rt, DL.finF_nx, DL.runR_a, DL.finR_rt, DL.finR_nx, DL.sz_0, DL.sz_1, DL.sz_2, DL.sz_3, DL.sz_4, DL.sz_5, DL.sz_6, DL.sz_7, DL.sz_8, DL.sz_9, DL.sz_10, DL.sz_11, DL.sz_12, DL.sz_13, DL.sz_14, DL.sz_15, DL.sz_16, DL.sz_17, DL.sz_18, DL.sz_19, DL.sz_20, DL.sz_21, DL.sz_22, DL.sz_23, DL.sz_24, DL.sz_25, DL.sz_26, DL.sz_27, DL.sz_28, DL.sz_29, DL.sz_30, DL.nc_0, DL.nc_1, DL.nc_2, DL.nc_3, DL.nc_4, DL.nc_5, DL.nc_6, DL.nc_7, DL.nc_8, DL.nc_9, DL.nc_10, DL.nc_11, DL.nc_12, DL.nc_13, DL.nc_14, DL.nc_15, DL.nc_16, DL.nc_17, DL.nc_18, DL.nc_19, DL.nc_20, DL.nc_21, DL.nc_22, DL.nc_23, DL.nc_24, DL.nc_25, DL.nc_26, DL.nc_27, DL.nc_28, DL.nc_29, DL.nc_30, DL.addD_i, DL.addD_t, DL.addD_l, DL.subD_i, DL.modD_i, DL.fdivD_i, DL.mulD_i, DL.lenD_t, DL.lenD_l, DL.tupleD_t, DL.tupleD_l, DL.listD_t, DL.listD_l, DL.truD_i, DL.truD_b, DL.truD_n, DL.truD_l, DL.truD_t, DL.ixD_t, DL.ixD_l, DL.negD_i, DL.bD_a, DL.ltB_i, DL.leB_i, DL.geB_i, DL.eqB_i, DL.neB_i, DL.min2D_i, DL.max2D_i, DL.items_t, DL.items_l, DL.isNN, DL.slD_t, DL.slD_l, DL.sortD2_l, DL.sortD2_t, DL.p_ge0, DL.p_geS, DL.p_tk0, DL.p_tkS, DL.p_tkN, DL.p_dr0, DL.p_drS, DL.p_drN, DL.p_mpC, DL.p_mpN, DL.p_apC, DL.p_apN, DL.p_lnC, DL.p_lnN, DL.p_rpS, DL.p_rp0, DL.p_alC, DL.p_alN, DL.p_gdS, DL.p_gdN, DL.p_tlS, DL.p_tlN, DL.p_ieC, DL.p_ieN, DL.p_nt, DL.p_nf, DL.p_atb, DL.p_afb, DL.p_abt, DL.p_abf, DL.p_eqS, DL.p_dT, DL.p_dF, DL.p_TA, DL.p_AT, DL.p_TO, DL.p_OT, DL.p_startD, DL.p_startR, DL.forK_nx, DL.forK_ct, DL.forK_rt, DL.yesM_a, DL.it1_a, DL.compM_a, DL.wipeR_c, DL.wipeR_n, DL.restR_c, DL.restR_n, DL.gtD_i, DL.gtD_T, DL.ob_assoc, DL.om_bind, DL.ob_map, DL.om_map, DL.cnd_bind, DL.cnd_map, DL.guard_bind, DL.guard_map, DL.atI_c0, DL.atI_c1, DL.atI_c2, DL.atI_c3, DL.encN_0, DL.encN_1, DL.encN_2, DL.encN_u, DL.revD_t, DL.revD_l, DL.eq_TI, DL.ne_TI, DL.in_I, DL.in_Il, DL.in_T, DL.in_R, DL.notInB_a, DL.enumM_a, DL.seqK_ex, DL.finF_ex, DL.forK_ex, DL.tri_no, DL.trm_no, DL.atI_neg1, DL.wipO_nx, DL.wipO_ct, DL.wipO_bk, DL.wipO_rt, DL.wipO_ex, DL.wipM_a, DL.preM_a, DL.two_a, DL.parLM_a, DL.finR_ex, DL.len_map, DL.len_app, DL.len_ir, DL.len_rev, DL.sz_c, DL.rng_c, DL.rngL_n, DL.forM_a', DL.rev_map, DL.seqK_bk, DL.forK_bk, DL.enum_m, DL.emp_map, DL.eq_LI, DL.ne_LI, DL.eq_LI0, DL.ne_LI0, DL.eq_LT, DL.ne_LT, DL.eq_LR, DL.ne_LR, DL.eq_TR, DL.ne_TR, DL.eq_B, DL.ne_B, DL.wp_mapE, DL.sortDict_map, DL.lenDict_map, DL.map_id_int, DL.cut_f, DL.cut_t, DL.cut_f1, DL.map_drop', DL.map_take', DL.map_app', DL.len_zip, DL.dkOf_i, DL.keyOf_i, DL.whileK_nx, PG.allD_map', PG.enum_ir, Nat.reduceAdd, Nat.reduceSub, Nat.reduceMul, Int.reduceLT, Int.reduceLE, Int.reducePow, Int.reduceNeg, Int.reduceAdd, Int.reduceSub, Int.reduceMul, Int.reduceBEq, Int.reduceBNe, Int.reduceToNat, $xs,*])
namespace PG
open PySem L2 DL GT RX
/-! groups -/
end PG
namespace DL
open PySem L2 GT
end DL
local macro_rules | `(tactic| simp_arith [$xs,*]) => `(tactic| simp (maxSteps := 2000000) (disch := omega) only [DL.ob_some, DL.om_some, DL.dat_d, DL.lis_l, DL.dic_m, DL.gt_0, DL.gt_1, DL.gt_2, DL.gt_3, DL.gt_4, DL.gt_5, DL.gt_6, DL.gt_7, DL.gt_b, DL.st_0, DL.st_s, DL.plG_d, DL.plG_n, DL.plainAt_a, DL.varM_a, DL.ownM_a, DL.cM_a, DL.ofL_a, DL.opM_a, DL.unM_a, DL.truM_a, DL.tstM_a, DL.notM_a, DL.cnd_t, DL.cnd_f, DL.andM_a, DL.orM_a, DL.andVM_a, DL.orVM_a, DL.notVM_a, DL.chM_a, DL.nilM_a, DL.consM_a, DL.guard_tt, DL.tupM_a, DL.lstM_a, DL.noM_a, DL.intV_i, DL.someM_a, DL.slM_a, DL.rng1M_a, DL.rng2M_a, DL.zipV_t, DL.zipV_l, DL.zipM_a, DL.seqM_a, DL.callM_a, DL.hereM_a, DL.callRM_a, DL.appM_a, DL.lisV_l, DL.extM_a, DL.popAtM_a, DL.newDM_a, DL.putM_a, DL.lenDM_a, DL.sortDM_a, DL.nameG_a, DL.nilG_a, DL.consG_a, DL.tupG_a, DL.seqS_a, DL.seqK_nx, DL.seqK_rt, DL.seqK_ct, DL.skipM_a, DL.asgM_a, DL.asgG_a, DL.newM_a, DL.asgLM_a, DL.retM_a, DL.exprM_a, DL.ifM_a, DL.forM_a, DL.frzM_a, DL.runF_a, DL.finF_rt, DL.finF_nx, DL.runR_a, DL.finR_rt, DL.finR_nx, DL.sz_0, DL.sz_1, DL.sz_2, DL.sz_3, DL.sz_4, DL.sz_5, DL.sz_6, DL.sz_7, DL.sz_8, DL.sz_9, DL.sz_10, DL.sz_11, DL.sz_12, DL.sz_13, DL.sz_14, DL.sz_15, DL.sz_16, DL.sz_17, DL.sz_18, DL.sz_19, DL.sz_20, DL.sz_21, DL.sz_22, DL.sz_23, DL.sz_24, DL.sz_25, DL.sz_26, DL.sz_27, DL.sz_28, DL.sz_29, DL.sz_30, DL.nc_0, DL.nc_1, DL.nc_2, DL.nc_3, DL.nc_4, DL.nc_5, DL.nc_6, DL.nc_7, DL.nc_8, DL.nc_9, DL.nc_10, DL.nc_11, DL.nc_12, DL.nc_13, DL.nc_14, DL.nc_15, DL.nc_16, DL.nc_17, DL.nc_18, DL.nc_19, DL.nc_20, DL.nc_21, DL.nc_22, DL.nc_23, DL.nc_24, DL.nc_25, DL.nc_26, DL.nc_27, DL.nc_28, DL.nc_29, DL.nc_30, DL.addD_i, DL.addD_t, DL.addD_l, DL.subD_i, DL.modD_i, DL.fdivD_i, DL.mulD_i, DL.lenD_t, DL.lenD_l, DL.tupleD_t, DL.tupleD_l, DL.listD_t, DL.listD_l, DL.truD_i, DL.truD_b, DL.truD_n, DL.truD_l, DL.truD_t, DL.ixD_t, DL.ixD_l, DL.negD_i, DL.bD_a, DL.ltB_i, DL.leB_i, DL.geB_i, DL.eqB_i, DL.neB_i, DL.min2D_i, DL.max2D_i, DL.items_t, DL.items_l, DL.isNN, DL.slD_t, DL.slD_l, DL.sortD2_l, DL.sortD2_t, DL.p_ge0, DL.p_geS, DL.p_tk0, DL.p_tkS, DL.p_tkN, DL.p_dr0, DL.p_drS, DL.p_drN, DL.p_mpC, DL.p_mpN, DL.p_apC, DL.p_apN, DL.p_lnC, DL.p_lnN, DL.p_rpS, DL.p_rp0, DL.p_alC, DL.p_alN, DL.p_gdS, DL.p_gdN, DL.p_tlS, DL.p_tlN, DL.p_ieC, DL.p_ieN, DL.p_nt, DL.p_nf, DL.p_atb, DL.p_afb, DL.p_abt, DL.p_abf, DL.p_eqS, DL.p_dT, DL.p_dF, DL.p_TA, DL.p_AT, DL.p_TO, DL.p_OT, DL.p_startD, DL.p_startR, DL.forK_nx, DL.forK_ct, DL.forK_rt, DL.yesM_a, DL.it1_a, DL.compM_a, DL.wipeR_c, DL.wipeR_n, DL.restR_c, DL.restR_n, DL.gtD_i, DL.gtD_T, DL.ob_assoc, DL.om_bind, DL.ob_map, DL.om_map, DL.cnd_bind, DL.cnd_map, DL.guard_bind, DL.guard_map, DL.atI_c0, DL.atI_c1, DL.atI_c2, DL.atI_c3, DL.encN_0, DL.encN_1, DL.encN_2, DL.encN_u, DL.revD_t, DL.revD_l, DL.eq_TI, DL.ne_TI, DL.in_I, DL.in_Il, DL.in_T, DL.in_R, DL.notInB_a, DL.enumM_a, DL.seqK_ex, DL.finF_ex, DL.forK_ex, DL.tri_no, DL.trm_no, DL.atI_neg1, DL.wipO_nx, DL.wipO_ct, DL.wipO_bk, DL.wipO_rt, DL.wipO_ex, DL.wipM_a, DL.preM_a, DL.two_a, DL.parLM_a, DL.finR_ex, DL.len_map, DL.len_app, DL.len_ir, DL.len_rev, DL.sz_c, DL.rng_c, DL.rngL_n, DL.forM_a', DL.rev_map, DL.seqK_bk, DL.forK_bk, DL.enum_m, DL.emp_map, DL.eq_LI, DL.ne_LI, DL.eq_LI0, DL.ne_LI0, DL.eq_LT, DL.ne_LT, DL.eq_LR, DL.ne_LR, DL.eq_TR, DL.ne_TR, DL.eq_B, DL.ne_B, DL.wp_mapE, DL.sortDict_map, DL.lenDict_map, DL.map_id_int, DL.cut_f, DL.cut_t, DL.cut_f1, DL.map_drop', DL.map_take', DL.map_app', DL.len_zip, DL.dkOf_i, DL.keyOf_i, DL.whileK_nx, PG.allD_map', PG.enum_ir, Nat.reduceAdd, Nat.reduceSub, Nat.reduceMul, Int.reduceLT, Int.reduceLE, Int.reducePow, Int.reduceNeg, Int.reduceAdd, Int.reduceSub, Int.reduceMul, Int.reduceBEq, Int.reduceBNe, Int.reduceToNat, $xs,*])
namespace PG
open PySem L2 DL GT RX
/-! suspects -/
theorem eq_BB (a b : List Bool) : eqB (.tuple (a.map .bool)) (.tuple (b.map .bool)) = some (decide (a = b)) := eq_one (encF_tup encF_bool) (by decide) a b
theorem ne_BB (a b : List Bool) : neB (.tuple (a.map .bool)) (.tuple (b.map .bool)) = some (!decide (a = b)) := ne_one (encF_tup encF_bool) (by decide) a b
theorem bls_map : ∀ bs : List Bool, blsOf (bs.map .bool) = some bs
  | [] => rfl
  | b :: bs => by rw [List.map_cons, blsOf, bls_map bs]; rfl
theorem allT_t (bs : List Bool) : allT (.tuple (bs.map .bool)) = some (.bool (bs.all id)) := by
  show (blsOf _).map _ = _
  rw [bls_map]; rfl
end PG
local macro_rules | `(tactic| simp_arith [$xs,*]) => `(tactic| simp (maxSteps := 2000000) (disch := omega) only [DL.ob_some, DL.om_some, DL.dat_d, DL.lis_l, DL.dic_m, DL.gt_0, DL.gt_1, DL.gt_2, DL.gt_3, DL.gt_4, DL.gt_5, DL.gt_6, DL.gt_7, DL.gt_b, DL.st_0, DL.st_s, DL.plG_d, DL.plG_n, DL.plainAt_a, DL.varM_a, DL.ownM_a, DL.cM_a, DL.ofL_a, DL.opM_a, DL.unM_a, DL.truM_a, DL.tstM_a, DL.notM_a, DL.cnd_t, DL.cnd_f, DL.andM_a, DL.orM_a, DL.andVM_a, DL.orVM_a, DL.notVM_a, DL.chM_a, DL.nilM_a, DL.consM_a, DL.guard_tt, DL.tupM_a, DL.lstM_a, DL.noM_a, DL.intV_i, DL.someM_a, DL.slM_a, DL.rng1M_a, DL.rng2M_a, DL.zipV_t, DL.zipV_l, DL.zipM_a, DL.seqM_a, DL.callM_a, DL.hereM_a, DL.callRM_a, DL.appM_a, DL.lisV_l, DL.extM_a, DL.popAtM_a, DL.newDM_a, DL.putM_a, DL.lenDM_a, DL.sortDM_a, DL.nameG_a, DL.nilG_a, DL.consG_a, DL.tupG_a, DL.seqS_a, DL.seqK_nx, DL.seqK_rt, DL.seqK_ct, DL.skipM_a, DL.asgM_a, DL.asgG_a, DL.newM_a, DL.asgLM_a, DL.retM_a, DL.exprM_a, DL.ifM_a, DL.forM_a, DL.frzM_a, DL.runF_a, DL.finF_rt, DL.finF_nx, DL.runR_a, DL.finR_rt, DL.finR_nx, DL.sz_0, DL.sz_1, DL.sz_2, DL.sz_3, DL.sz_4, DL.sz_5, DL.sz_6, DL.sz_7, DL.sz_8, DL.sz_9, DL.sz_10, DL.sz_11, DL.sz_12, DL.sz_13, DL.sz_14, DL.sz_15, DL.sz_16, DL.sz_17, DL.sz_18, DL.sz_19, DL.sz_20, DL.sz_21, DL.sz_22, DL.sz_23, DL.sz_24, DL.sz_25, DL.sz_26, DL.sz_27, DL.sz_28, DL.sz_29, DL.sz_30, DL.nc_0, DL.nc_1, DL.nc_2, DL.nc_3, DL.nc_4, DL.nc_5, DL.nc_6, DL.nc_7, DL.nc_8, DL.nc_9, DL.nc_10, DL.nc_11, DL.nc_12, DL.nc_13, DL.nc_14, DL.nc_15, DL.nc_16, DL.nc_17, DL.nc_18, DL.nc_19, DL.nc_20, DL.nc_21, DL.nc_22, DL.nc_23, DL.nc_24, DL.nc_25, DL.nc_26, DL.nc_27, DL.nc_28, DL.nc_29, DL.nc_30, DL.addD_i, DL.addD_t, DL.addD_l, DL.subD_i, DL.modD_i, DL.fdivD_i, DL.mulD_i, DL.lenD_t, DL.lenD_l, DL.tupleD_t, DL.tupleD_l, DL.listD_t, DL.listD_l, DL.truD_i, DL.truD_b, DL.truD_n, DL.truD_l, DL.truD_t, DL.ixD_t, DL.ixD_l, DL.negD_i, DL.bD_a, DL.ltB_i, DL.leB_i, DL.geB_i, DL.eqB_i, DL.neB_i, DL.min2D_i, DL.max2D_i, DL.items_t, DL.items_l, DL.isNN, DL.slD_t, DL.slD_l, DL.sortD2_l, DL.sortD2_t, DL.p_ge0, DL.p_geS, DL.p_tk0, DL.p_tkS, DL.p_tkN, DL.p_dr0, DL.p_drS, DL.p_drN, DL.p_mpC, DL.p_mpN, DL.p_apC, DL.p_apN, DL.p_lnC, DL.p_lnN, DL.p_rpS, DL.p_rp0, DL.p_alC, DL.p_alN, DL.p_gdS, DL.p_gdN, DL.p_tlS, DL.p_tlN, DL.p_ieC, DL.p_ieN, DL.p_nt, DL.p_nf, DL.p_atb, DL.p_afb, DL.p_abt, DL.p_abf, DL.p_eqS, DL.p_dT, DL.p_dF, DL.p_TA, DL.p_AT, DL.p_TO, DL.p_OT, DL.p_startD, DL.p_startR, DL.forK_nx, DL.forK_ct, DL.forK_rt, DL.yesM_a, DL.it1_a, DL.compM_a, DL.wipeR_c, DL.wipeR_n, DL.restR_c, DL.restR_n, DL.gtD_i, DL.gtD_T, DL.ob_assoc, DL.om_bind, DL.ob_map, DL.om_map, DL.cnd_bind, DL.cnd_map, DL.guard_bind, DL.guard_map, DL.atI_c0, DL.atI_c1, DL.atI_c2, DL.atI_c3, DL.encN_0, DL.encN_1, DL.encN_2, DL.encN_u, DL.revD_t, DL.revD_l, DL.eq_TI, DL.ne_TI, DL.in_I, DL.in_Il, DL.in_T, DL.in_R, DL.notInB_a, DL.enumM_a, DL.seqK_ex, DL.finF_ex, DL.forK_ex, DL.tri_no, DL.trm_no, DL.atI_neg1, DL.wipO_nx, DL.wipO_ct, DL.wipO_bk, DL.wipO_rt, DL.wipO_ex, DL.wipM_a, DL.preM_a, DL.two_a, DL.parLM_a, DL.finR_ex, DL.len_map, DL.len_app, DL.len_ir, DL.len_rev, DL.sz_c, DL.rng_c, DL.rngL_n, DL.forM_a', DL.rev_map, DL.seqK_bk, DL.forK_bk, DL.enum_m, DL.emp_map, DL.eq_LI, DL.ne_LI, DL.eq_LI0, DL.ne_LI0, DL.eq_LT, DL.ne_LT, DL.eq_LR, DL.ne_LR, DL.eq_TR, DL.ne_TR, DL.eq_B, DL.ne_B, DL.wp_mapE, DL.sortDict_map, DL.lenDict_map, DL.map_id_int, DL.cut_f, DL.cut_t, DL.cut_f1, DL.map_drop', DL.map_take', DL.map_app', DL.len_zip, DL.dkOf_i, DL.keyOf_i, DL.whileK_nx, PG.allD_map', PG.enum_ir, PG.eq_BB, PG.ne_BB, PG.allT_t, Nat.reduceAdd, Nat.reduceSub, Nat.reduceMul, Int.reduceLT, Int.reduceLE, Int.reducePow, Int.reduceNeg, Int.reduceAdd, Int.reduceSub, Int.reduceMul, Int.reduceBEq, Int.reduceBNe, Int.reduceToNat, $xs,*])
namespace PG
open PySem L2 DL GT RX
end PG
namespace DL
open PySem L2 GT
theorem isN_i (i : Int) : isB (.int i) .none = some false := (rfl)
theorem isNotN_i (i : Int) : isNotB (.int i) .none = some true := (rfl)
theorem isNotN_n : isNotB .none .none = some false := (rfl)
def rg (a b : Int) : List Int := (List.range (b - a).toNat).map fun (i : Nat) => a + (i : Int)
theorem rngL_g1 (a b : Int) : rngL (a + 1) b = (rg (a + 1) b).map .int := rngL_eq (a + 1) b
end DL
local macro_rules | `(tactic| simp_arith [$xs,*]) => `(tactic| simp (maxSteps := 2000000) (disch := omega) only [DL.ob_some, DL.om_some, DL.dat_d, DL.lis_l, DL.dic_m, DL.gt_0, DL.gt_1, DL.gt_2, DL.gt_3, DL.gt_4, DL.gt_5, DL.gt_6, DL.gt_7, DL.gt_b, DL.st_0, DL.st_s, DL.plG_d, DL.plG_n, DL.plainAt_a, DL.varM_a, DL.ownM_a, DL.cM_a, DL.ofL_a, DL.opM_a, DL.unM_a, DL.truM_a, DL.tstM_a, DL.notM_a, DL.cnd_t, DL.cnd_f, DL.andM_a, DL.orM_a, DL.andVM_a, DL.orVM_a, DL.notVM_a, DL.chM_a, DL.nilM_a, DL.consM_a, DL.guard_tt, DL.tupM_a, DL.lstM_a, DL.noM_a, DL.intV_i, DL.someM_a, DL.slM_a, DL.rng1M_a, DL.rng2M_a, DL.zipV_t, DL.zipV_l, DL.zipM_a, DL.seqM_a, DL.callM_a, DL.hereM_a, DL.callRM_a, DL.appM_a, DL.lisV_l, DL.extM_a, DL.popAtM_a, DL.newDM_a, DL.putM_a, DL.lenDM_a, DL.sortDM_a, DL.nameG_a, DL.nilG_a, DL.consG_a, DL.tupG_a, DL.seqS_a, DL.seqK_nx, DL.seqK_rt, DL.seqK_ct, DL.skipM_a, DL.asgM_a, DL.asgG_a, DL.newM_a, DL.asgLM_a, DL.retM_a, DL.exprM_a, DL.ifM_a, DL.forM_a, DL.frzM_a, DL.runF_a, DL.finF_rt, DL.finF_nx, DL.runR_a, DL.finR_rt, DL.finR_nx, DL.sz_0, DL.sz_1, DL.sz_2, DL.sz_3, DL.sz_4, DL.sz_5, DL.sz_6, DL.sz_7, DL.sz_8, DL.sz_9, DL.sz_10, DL.sz_11, DL.sz_12, DL.sz_13, DL.sz_14, DL.sz_15, DL.sz_16, DL.sz_17, DL.sz_18, DL.sz_19, DL.sz_20, DL.sz_21, DL.sz_22, DL.sz_23, DL.sz_24, DL.sz_25, DL.sz_26, DL.sz_27, DL.sz_28, DL.sz_29, DL.sz_30, DL.nc_0, DL.nc_1, DL.nc_2, DL.nc_3, DL.nc_4, DL.nc_5, DL.nc_6, DL.nc_7, DL.nc_8, DL.nc_9, DL.nc_10, DL.nc_11, DL.nc_12, DL.nc_13, DL.nc_14, DL.nc_15, DL.nc_16, DL.nc_17, DL.nc_18, DL.nc_19, DL.nc_20, DL.nc_21, DL.nc_22, DL.nc_23, DL.nc_24, DL.nc_25, DL.nc_26, DL.nc_27, DL.nc_28, DL.nc_29, DL.nc_30, DL.addD_i, DL.addD_t, DL.addD_l, DL.subD_i, DL.modD_i, DL.fdivD_i, DL.mulD_i, DL.lenD_t, DL.lenD_l, DL.tupleD_t, DL.tupleD_l, DL.listD_t, DL.listD_l, DL.truD_i, DL.truD_b, DL.truD_n, DL.truD_l, DL.truD_t, DL.ixD_t, DL.ixD_l, DL.negD_i, DL.bD_a, DL.ltB_i, DL.leB_i, DL.geB_i, DL.eqB_i, DL.neB_i, DL.min2D_i, DL.max2D_i, DL.items_t, DL.items_l, DL.isNN, DL.slD_t, DL.slD_l, DL.sortD2_l, DL.sortD2_t, DL.p_ge0, DL.p_geS, DL.p_tk0, DL.p_tkS, DL.p_tkN, DL.p_dr0, DL.p_drS, DL.p_drN, DL.p_mpC, DL.p_mpN, DL.p_apC, DL.p_apN, DL.p_lnC, DL.p_lnN, DL.p_rpS, DL.p_rp0, DL.p_alC, DL.p_alN, DL.p_gdS, DL.p_gdN, DL.p_tlS, DL.p_tlN, DL.p_ieC, DL.p_ieN, DL.p_nt, DL.p_nf, DL.p_atb, DL.p_afb, DL.p_abt, DL.p_abf, DL.p_eqS, DL.p_dT, DL.p_dF, DL.p_TA, DL.p_AT, DL.p_TO, DL.p_OT, DL.p_startD, DL.p_startR, DL.forK_nx, DL.forK_ct, DL.forK_rt, DL.yesM_a, DL.it1_a, DL.compM_a, DL.wipeR_c, DL.wipeR_n, DL.restR_c, DL.restR_n, DL.gtD_i, DL.gtD_T, DL.ob_assoc, DL.om_bind, DL.ob_map, DL.om_map, DL.cnd_bind, DL.cnd_map, DL.guard_bind, DL.guard_map, DL.atI_c0, DL.atI_c1, DL.atI_c2, DL.atI_c3, DL.encN_0, DL.encN_1, DL.encN_2, DL.encN_u, DL.revD_t, DL.revD_l, DL.eq_TI, DL.ne_TI, DL.in_I, DL.in_Il, DL.in_T, DL.in_R, DL.notInB_a, DL.enumM_a, DL.seqK_ex, DL.finF_ex, DL.forK_ex, DL.tri_no, DL.trm_no, DL.atI_neg1, DL.wipO_nx, DL.wipO_ct, DL.wipO_bk, DL.wipO_rt, DL.wipO_ex, DL.wipM_a, DL.preM_a, DL.two_a, DL.parLM_a, DL.finR_ex, DL.len_map, DL.len_app, DL.len_ir, DL.len_rev, DL.sz_c, DL.rng_c, DL.rngL_n, DL.forM_a', DL.rev_map, DL.seqK_bk, DL.forK_bk, DL.enum_m, DL.emp_map, DL.eq_LI, DL.ne_LI, DL.eq_LI0, DL.ne_LI0, DL.eq_LT, DL.ne_LT, DL.eq_LR, DL.ne_LR, DL.eq_TR, DL.ne_TR, DL.eq_B, DL.ne_B, DL.wp_mapE, DL.sortDict_map, DL.lenDict_map, DL.map_id_int, DL.cut_f, DL.cut_t, DL.cut_f1, DL.map_drop', DL.map_take', DL.map_app', DL.len_zip, DL.dkOf_i, DL.keyOf_i, DL.whileK_nx, PG.allD_map', PG.enum_ir, PG.eq_BB, PG.ne_BB, PG.allT_t, DL.isN_i, DL.isNotN_i, DL.isNotN_n, DL.rngL_g1, Nat.reduceAdd, Nat.reduceSub, Nat.reduceMul, Int.reduceLT, Int.reduceLE, Int.reducePow, Int.reduceNeg, Int.reduceAdd, Int.reduceSub, Int.reduceMul, Int.reduceBEq, Int.reduceBNe, Int.reduceToNat, $xs,*])
namespace PG
open PySem L2 DL GT RX
/-! untold pairs -/
end PG
namespace PG
open PySem L2 DL GT RX PySem.W
theorem rep_one (d : D) (n : Nat) (h : n ≤ 1000) : repTD (.tuple [d]) (.int (n : Int)) = some (.tuple (List.replicate n d)) := by
  show (if ([d] : List D).isEmpty then none else if (n : Int) = 0 then some (PyData.tuple []) else if (n : Int) = 1 then some (PyData.tuple [d]) else if 2 ≤ (n : Int) ∧ (n : Int) ≤ 1000 ∧ ([d] : List D).length ≤ 1000 then some (PyData.tuple (List.replicate (n : Int).toNat [d]).flatten) else none) = _
  rw [if_neg (by simp)]
  by_cases h0 : n = 0
  · subst h0; rfl
  · rw [if_neg (by omega)]
    by_cases h1 : n = 1
    · subst h1; rfl
    · rw [if_neg (by omega), if_pos (by simp; omega)]
      have : (List.replicate n [d]).flatten = List.replicate n d := by
        have key : ∀ m : Nat, (List.replicate m [d]).flatten = List.replicate m d := by
          intro m
          induction m with
          | zero => rfl
          | succ m ih => rw [List.replicate_succ, List.flatten_cons, ih]; rfl
        exact key n
      rw [show ((n : Int)).toNat = n by omega, this]
theorem rep_bool (d : D) (b : Bool) : repTD (.tuple [d]) (.int (if b = true then 1 else 0)) = some (.tuple (if b = true then [d] else [])) := by
  cases b
  · exact rep_one d 0 (by omega)
  · exact rep_one d 1 (by omega)
/-! what one tie shows -/
/-! untold pairs: the order -/
end PG
local macro_rules | `(tactic| simp_arith [$xs,*]) => `(tactic| simp (maxSteps := 2000000) (disch := omega) only [DL.ob_some, DL.om_some, DL.dat_d, DL.lis_l, DL.dic_m, DL.gt_0, DL.gt_1, DL.gt_2, DL.gt_3, DL.gt_4, DL.gt_5, DL.gt_6, DL.gt_7, DL.gt_b, DL.st_0, DL.st_s, DL.plG_d, DL.plG_n, DL.plainAt_a, DL.varM_a, DL.ownM_a, DL.cM_a, DL.ofL_a, DL.opM_a, DL.unM_a, DL.truM_a, DL.tstM_a, DL.notM_a, DL.cnd_t, DL.cnd_f, DL.andM_a, DL.orM_a, DL.andVM_a, DL.orVM_a, DL.notVM_a, DL.chM_a, DL.nilM_a, DL.consM_a, DL.guard_tt, DL.tupM_a, DL.lstM_a, DL.noM_a, DL.intV_i, DL.someM_a, DL.slM_a, DL.rng1M_a, DL.rng2M_a, DL.zipV_t, DL.zipV_l, DL.zipM_a, DL.seqM_a, DL.callM_a, DL.hereM_a, DL.callRM_a, DL.appM_a, DL.lisV_l, DL.extM_a, DL.popAtM_a, DL.newDM_a, DL.putM_a, DL.lenDM_a, DL.sortDM_a, DL.nameG_a, DL.nilG_a, DL.consG_a, DL.tupG_a, DL.seqS_a, DL.seqK_nx, DL.seqK_rt, DL.seqK_ct, DL.skipM_a, DL.asgM_a, DL.asgG_a, DL.newM_a, DL.asgLM_a, DL.retM_a, DL.exprM_a, DL.ifM_a, DL.forM_a, DL.frzM_a, DL.runF_a, DL.finF_rt, DL.finF_nx, DL.runR_a, DL.finR_rt, DL.finR_nx, DL.sz_0, DL.sz_1, DL.sz_2, DL.sz_3, DL.sz_4, DL.sz_5, DL.sz_6, DL.sz_7, DL.sz_8, DL.sz_9, DL.sz_10, DL.sz_11, DL.sz_12, DL.sz_13, DL.sz_14, DL.sz_15, DL.sz_16, DL.sz_17, DL.sz_18, DL.sz_19, DL.sz_20, DL.sz_21, DL.sz_22, DL.sz_23, DL.sz_24, DL.sz_25, DL.sz_26, DL.sz_27, DL.sz_28, DL.sz_29, DL.sz_30, DL.nc_0, DL.nc_1, DL.nc_2, DL.nc_3, DL.nc_4, DL.nc_5, DL.nc_6, DL.nc_7, DL.nc_8, DL.nc_9, DL.nc_10, DL.nc_11, DL.nc_12, DL.nc_13, DL.nc_14, DL.nc_15, DL.nc_16, DL.nc_17, DL.nc_18, DL.nc_19, DL.nc_20, DL.nc_21, DL.nc_22, DL.nc_23, DL.nc_24, DL.nc_25, DL.nc_26, DL.nc_27, DL.nc_28, DL.nc_29, DL.nc_30, DL.addD_i, DL.addD_t, DL.addD_l, DL.subD_i, DL.modD_i, DL.fdivD_i, DL.mulD_i, DL.lenD_t, DL.lenD_l, DL.tupleD_t, DL.tupleD_l, DL.listD_t, DL.listD_l, DL.truD_i, DL.truD_b, DL.truD_n, DL.truD_l, DL.truD_t, DL.ixD_t, DL.ixD_l, DL.negD_i, DL.bD_a, DL.ltB_i, DL.leB_i, DL.geB_i, DL.eqB_i, DL.neB_i, DL.min2D_i, DL.max2D_i, DL.items_t, DL.items_l, DL.isNN, DL.slD_t, DL.slD_l, DL.sortD2_l, DL.sortD2_t, DL.p_ge0, DL.p_geS, DL.p_tk0, DL.p_tkS, DL.p_tkN, DL.p_dr0, DL.p_drS, DL.p_drN, DL.p_mpC, DL.p_mpN, DL.p_apC, DL.p_apN, DL.p_lnC, DL.p_lnN, DL.p_rpS, DL.p_rp0, DL.p_alC, DL.p_alN, DL.p_gdS, DL.p_gdN, DL.p_tlS, DL.p_tlN, DL.p_ieC, DL.p_ieN, DL.p_nt, DL.p_nf, DL.p_atb, DL.p_afb, DL.p_abt, DL.p_abf, DL.p_eqS, DL.p_dT, DL.p_dF, DL.p_TA, DL.p_AT, DL.p_TO, DL.p_OT, DL.p_startD, DL.p_startR, DL.forK_nx, DL.forK_ct, DL.forK_rt, DL.yesM_a, DL.it1_a, DL.compM_a, DL.wipeR_c, DL.wipeR_n, DL.restR_c, DL.restR_n, DL.gtD_i, DL.gtD_T, DL.ob_assoc, DL.om_bind, DL.ob_map, DL.om_map, DL.cnd_bind, DL.cnd_map, DL.guard_bind, DL.guard_map, DL.atI_c0, DL.atI_c1, DL.atI_c2, DL.atI_c3, DL.encN_0, DL.encN_1, DL.encN_2, DL.encN_u, DL.revD_t, DL.revD_l, DL.eq_TI, DL.ne_TI, DL.in_I, DL.in_Il, DL.in_T, DL.in_R, DL.notInB_a, DL.enumM_a, DL.seqK_ex, DL.finF_ex, DL.forK_ex, DL.tri_no, DL.trm_no, DL.atI_neg1, DL.wipO_nx, DL.wipO_ct, DL.wipO_bk, DL.wipO_rt, DL.wipO_ex, DL.wipM_a, DL.preM_a, DL.two_a, DL.parLM_a, DL.finR_ex, DL.len_map, DL.len_app, DL.len_ir, DL.len_rev, DL.sz_c, DL.rng_c, DL.rngL_n, DL.forM_a', DL.rev_map, DL.seqK_bk, DL.forK_bk, DL.enum_m, DL.emp_map, DL.eq_LI, DL.ne_LI, DL.eq_LI0, DL.ne_LI0, DL.eq_LT, DL.ne_LT, DL.eq_LR, DL.ne_LR, DL.eq_TR, DL.ne_TR, DL.eq_B, DL.ne_B, DL.wp_mapE, DL.sortDict_map, DL.lenDict_map, DL.map_id_int, DL.cut_f, DL.cut_t, DL.cut_f1, DL.map_drop', DL.map_take', DL.map_app', DL.len_zip, DL.dkOf_i, DL.keyOf_i, DL.whileK_nx, PG.allD_map', PG.enum_ir, PG.eq_BB, PG.ne_BB, PG.allT_t, DL.isN_i, DL.isNotN_i, DL.isNotN_n, DL.rngL_g1, PG.rep_one, PG.rep_bool, Nat.reduceAdd, Nat.reduceSub, Nat.reduceMul, Int.reduceLT, Int.reduceLE, Int.reducePow, Int.reduceNeg, Int.reduceAdd, Int.reduceSub, Int.reduceMul, Int.reduceBEq, Int.reduceBNe, Int.reduceToNat, $xs,*])
namespace PG
open PySem L2 DL GT RX
/-! probes as a set -/
/-! short -/
end PG
local macro_rules | `(tactic| simp_arith [$xs,*]) => `(tactic| simp (maxSteps := 2000000) (disch := omega) only [DL.ob_some, DL.om_some, DL.dat_d, DL.lis_l, DL.dic_m, DL.gt_0, DL.gt_1, DL.gt_2, DL.gt_3, DL.gt_4, DL.gt_5, DL.gt_6, DL.gt_7, DL.gt_b, DL.st_0, DL.st_s, DL.plG_d, DL.plG_n, DL.plainAt_a, DL.varM_a, DL.ownM_a, DL.cM_a, DL.ofL_a, DL.opM_a, DL.unM_a, DL.truM_a, DL.tstM_a, DL.notM_a, DL.cnd_t, DL.cnd_f, DL.andM_a, DL.orM_a, DL.andVM_a, DL.orVM_a, DL.notVM_a, DL.chM_a, DL.nilM_a, DL.consM_a, DL.guard_tt, DL.tupM_a, DL.lstM_a, DL.noM_a, DL.intV_i, DL.someM_a, DL.slM_a, DL.rng1M_a, DL.rng2M_a, DL.zipV_t, DL.zipV_l, DL.zipM_a, DL.seqM_a, DL.callM_a, DL.hereM_a, DL.callRM_a, DL.appM_a, DL.lisV_l, DL.extM_a, DL.popAtM_a, DL.newDM_a, DL.putM_a, DL.lenDM_a, DL.sortDM_a, DL.nameG_a, DL.nilG_a, DL.consG_a, DL.tupG_a, DL.seqS_a, DL.seqK_nx, DL.seqK_rt, DL.seqK_ct, DL.skipM_a, DL.asgM_a, DL.asgG_a, DL.newM_a, DL.asgLM_a, DL.retM_a, DL.exprM_a, DL.ifM_a, DL.forM_a, DL.frzM_a, DL.runF_a, DL.finF_rt, DL.finF_nx, DL.runR_a, DL.finR_rt, DL.finR_nx, DL.sz_0, DL.sz_1, DL.sz_2, DL.sz_3, DL.sz_4, DL.sz_5, DL.sz_6, DL.sz_7, DL.sz_8, DL.sz_9, DL.sz_10, DL.sz_11, DL.sz_12, DL.sz_13, DL.sz_14, DL.sz_15, DL.sz_16, DL.sz_17, DL.sz_18, DL.sz_19, DL.sz_20, DL.sz_21, DL.sz_22, DL.sz_23, DL.sz_24, DL.sz_25, DL.sz_26, DL.sz_27, DL.sz_28, DL.sz_29, DL.sz_30, DL.nc_0, DL.nc_1, DL.nc_2, DL.nc_3, DL.nc_4, DL.nc_5, DL.nc_6, DL.nc_7, DL.nc_8, DL.nc_9, DL.nc_10, DL.nc_11, DL.nc_12, DL.nc_13, DL.nc_14, DL.nc_15, DL.nc_16, DL.nc_17, DL.nc_18, DL.nc_19, DL.nc_20, DL.nc_21, DL.nc_22, DL.nc_23, DL.nc_24, DL.nc_25, DL.nc_26, DL.nc_27, DL.nc_28, DL.nc_29, DL.nc_30, DL.addD_i, DL.addD_t, DL.addD_l, DL.subD_i, DL.modD_i, DL.fdivD_i, DL.mulD_i, DL.lenD_t, DL.lenD_l, DL.tupleD_t, DL.tupleD_l, DL.listD_t, DL.listD_l, DL.truD_i, DL.truD_b, DL.truD_n, DL.truD_l, DL.truD_t, DL.ixD_t, DL.ixD_l, DL.negD_i, DL.bD_a, DL.ltB_i, DL.leB_i, DL.geB_i, DL.eqB_i, DL.neB_i, DL.min2D_i, DL.max2D_i, DL.items_t, DL.items_l, DL.isNN, DL.slD_t, DL.slD_l, DL.sortD2_l, DL.sortD2_t, DL.p_ge0, DL.p_geS, DL.p_tk0, DL.p_tkS, DL.p_tkN, DL.p_dr0, DL.p_drS, DL.p_drN, DL.p_mpC, DL.p_mpN, DL.p_apC, DL.p_apN, DL.p_lnC, DL.p_lnN, DL.p_rpS, DL.p_rp0, DL.p_alC, DL.p_alN, DL.p_gdS, DL.p_gdN, DL.p_tlS, DL.p_tlN, DL.p_ieC, DL.p_ieN, DL.p_nt, DL.p_nf, DL.p_atb, DL.p_afb, DL.p_abt, DL.p_abf, DL.p_eqS, DL.p_dT, DL.p_dF, DL.p_TA, DL.p_AT, DL.p_TO, DL.p_OT, DL.p_startD, DL.p_startR, DL.forK_nx, DL.forK_ct, DL.forK_rt, DL.yesM_a, DL.it1_a, DL.compM_a, DL.wipeR_c, DL.wipeR_n, DL.restR_c, DL.restR_n, DL.gtD_i, DL.gtD_T, DL.ob_assoc, DL.om_bind, DL.ob_map, DL.om_map, DL.cnd_bind, DL.cnd_map, DL.guard_bind, DL.guard_map, DL.atI_c0, DL.atI_c1, DL.atI_c2, DL.atI_c3, DL.encN_0, DL.encN_1, DL.encN_2, DL.encN_u, DL.revD_t, DL.revD_l, DL.eq_TI, DL.ne_TI, DL.in_I, DL.in_Il, DL.in_T, DL.in_R, DL.notInB_a, DL.enumM_a, DL.seqK_ex, DL.finF_ex, DL.forK_ex, DL.tri_no, DL.trm_no, DL.atI_neg1, DL.wipO_nx, DL.wipO_ct, DL.wipO_bk, DL.wipO_rt, DL.wipO_ex, DL.wipM_a, DL.preM_a, DL.two_a, DL.parLM_a, DL.finR_ex, DL.len_map, DL.len_app, DL.len_ir, DL.len_rev, DL.sz_c, DL.rng_c, DL.rngL_n, DL.forM_a', DL.rev_map, DL.seqK_bk, DL.forK_bk, DL.enum_m, DL.emp_map, DL.eq_LI, DL.ne_LI, DL.eq_LI0, DL.ne_LI0, DL.eq_LT, DL.ne_LT, DL.eq_LR, DL.ne_LR, DL.eq_TR, DL.ne_TR, DL.eq_B, DL.ne_B, DL.wp_mapE, DL.sortDict_map, DL.lenDict_map, DL.map_id_int, DL.cut_f, DL.cut_t, DL.cut_f1, DL.map_drop', DL.map_take', DL.map_app', DL.len_zip, DL.dkOf_i, DL.keyOf_i, DL.whileK_nx, PG.allD_map', PG.enum_ir, PG.eq_BB, PG.ne_BB, PG.allT_t, DL.isN_i, DL.isNotN_i, DL.isNotN_n, DL.rngL_g1, PG.rep_one, PG.rep_bool, Nat.reduceAdd, Nat.reduceSub, Nat.reduceMul, Int.reduceLT, Int.reduceLE, Int.reducePow, Int.reduceNeg, Int.reduceAdd, Int.reduceSub, Int.reduceMul, Int.reduceBEq, Int.reduceBNe, Int.reduceToNat, $xs,*])
namespace PG
open PySem L2 DL GT RX
end PG
namespace DL
open PySem L2 GT
end DL
namespace PG
open PySem L2 DL GT RX
/-! groups -/
end PG
/-! plain: as many ties part two knots as there are ways without a tie together (flows of ones) -/
namespace GT
/-! sums over a list -/
def S {α : Type} (l : List α) (g : α → Int) : Int := (l.map g).sum
section
variable {α β : Type}
theorem S_nil (g : α → Int) : S [] g = 0 := rfl
theorem S_cons (a : α) (l : List α) (g : α → Int) : S (a :: l) g = g a + S l g := by simp [S]
theorem S_add (l : List α) (g h : α → Int) : S l (fun x => g x + h x) = S l g + S l h := by
  induction l with
  | nil => rfl
  | cons a l ih => simp only [S_cons, ih]; omega
theorem S_neg (l : List α) (g : α → Int) : S l (fun x => - g x) = - S l g := by
  induction l with
  | nil => rfl
  | cons a l ih => simp only [S_cons, ih]; omega
theorem S_congr {l : List α} {g h : α → Int} (e : ∀ x ∈ l, g x = h x) : S l g = S l h := by
  induction l with
  | nil => rfl
  | cons a l ih => rw [S_cons, S_cons, e a (by simp), ih fun x m => e x (List.mem_cons_of_mem _ m)]
theorem S_zero {l : List α} {g : α → Int} (e : ∀ x ∈ l, g x = 0) : S l g = 0 := by
  rw [S_congr e]
  induction l with
  | nil => rfl
  | cons a l ih => rw [S_cons, ih fun x m => e x (List.mem_cons_of_mem _ m)]; rfl
theorem S_mul (l : List α) (c : Int) (g : α → Int) : S l (fun x => c * g x) = c * S l g := by
  induction l with
  | nil => simp [S_nil]
  | cons a l ih => simp only [S_cons, ih, Int.mul_add]
theorem S_swap (l : List α) (m : List β) (g : α → β → Int) : S l (fun x => S m (g x)) = S m (fun y => S l (fun x => g x y)) := by
  induction l with
  | nil => rw [S_nil, S_zero]; intro y _; rfl
  | cons a l ih =>
    rw [S_cons, ih, ← S_add]
    exact S_congr fun y _ => by rw [S_cons]
theorem S_one [DecidableEq α] {l : List α} (nd : l.Nodup) (a : α) (c : Int) : S l (fun x => if x = a then c else 0) = if a ∈ l then c else 0 := by
  induction l with
  | nil => simp [S_nil]
  | cons b l ih =>
    have nd' := List.nodup_cons.mp nd
    rw [S_cons, ih nd'.2]
    by_cases e : b = a
    · subst e
      rw [if_pos rfl, if_neg nd'.1, if_pos (by simp)]; omega
    · rw [if_neg e]
      by_cases m : a ∈ l
      · rw [if_pos m, if_pos (List.mem_cons_of_mem _ m)]; omega
      · rw [if_neg m, if_neg (by simp [m, Ne.symm e])]; omega
end
/-! ways by a relation -/
/-! flows of ones -/
abbrev Fl := Int → Int → Int
structure Flow (N : Net) (a b : Int) (f : Fl) (k : Int) : Prop where
  anti : ∀ u v : Int, f u v = - f v u
  sup : ∀ u v : Int, f u v ≠ 0 → adj N u v = true
  bd : ∀ u v : Int, f u v ≤ 1
  cons : ∀ u : Int, 0 ≤ u → u < N.n → u ≠ a → u ≠ b → S (ir N.n) (f u) = 0
  val : S (ir N.n) (f a) = k
/-! more along a way that has room -/
/-! what goes out of a set of knots -/
open Classical in
noncomputable def ch (X : Int → Prop) (x : Int) : Int := if X x then 1 else 0
theorem ch_cases (X : Int → Prop) (x : Int) : (X x ∧ ch X x = 1) ∨ (¬ X x ∧ ch X x = 0) := by
  unfold ch
  by_cases h : X x
  · exact .inl ⟨h, if_pos h⟩
  · exact .inr ⟨h, if_neg h⟩
theorem inner_zero {l : List Int} {f : Fl} (anti : ∀ u v, f u v = - f v u) (c : Int → Int) : S l (fun u => S l (fun v => c u * c v * f u v)) = 0 := by
  have e1 : S l (fun u => S l (fun v => c u * c v * f u v)) = S l (fun v => S l (fun u => c u * c v * f u v)) := S_swap l l _
  have e2 : S l (fun v => S l (fun u => c u * c v * f u v)) = S l (fun v => - S l (fun u => c v * c u * f v u)) := S_congr fun v _ => by
    rw [← S_neg]
    refine S_congr fun u _ => ?_
    rw [anti u v, Int.mul_comm (c u) (c v), Int.mul_neg]
  rw [S_neg] at e2
  omega
theorem Flow.out {N : Net} {a b : Int} (ha : 0 ≤ a ∧ a < N.n) {f : Fl} {k : Int} (F : Flow N a b f k) {X : Int → Prop} (xa : X a) (xb : ¬ X b) :
    S (ir N.n) (fun u => S (ir N.n) (fun v => ch X u * (1 - ch X v) * f u v)) = k := by
  have ca : ch X a = 1 := (ch_cases X a).elim (·.2) (fun h => absurd xa h.1)
  have cb : ch X b = 0 := (ch_cases X b).elim (fun h => absurd h.1 xb) (·.2)
  have h1 : S (ir N.n) (fun u => ch X u * S (ir N.n) (f u)) = k := by
    have e : ∀ u ∈ ir N.n, ch X u * S (ir N.n) (f u) = if u = a then k else 0 := fun u mu => by
      have hu := mem_ir.mp mu
      by_cases c : u = a
      · subst c; rw [if_pos rfl, ca, F.val]; omega
      · rw [if_neg c]
        by_cases c2 : u = b
        · subst c2; rw [cb]; omega
        · rw [F.cons u hu.1 hu.2 c c2]; omega
    rw [S_congr e, S_one (ir_nodup _), if_pos (mem_ir.mpr ha)]
  have h2 : S (ir N.n) (fun u => ch X u * S (ir N.n) (f u)) = S (ir N.n) (fun u => S (ir N.n) (fun v => ch X u * ch X v * f u v)) + S (ir N.n) (fun u => S (ir N.n) (fun v => ch X u * (1 - ch X v) * f u v)) := by
    rw [← S_add]
    refine S_congr fun u _ => ?_
    rw [← S_add, ← S_mul]
    refine S_congr fun v _ => ?_
    rcases ch_cases X u with ⟨_, c1⟩ | ⟨_, c1⟩ <;> rcases ch_cases X v with ⟨_, c2⟩ | ⟨_, c2⟩ <;> rw [c1, c2] <;> omega
  rw [inner_zero F.anti (ch X)] at h2
  omega
end GT
namespace GT
/-! ways out of a flow -/
/-! the ties that go out -/
end GT
namespace PG
open PySem L2 DL GT RX
/-! choices -/
/-! the least cut -/
end PG
namespace PG
open PySem L2 DL GT RX
end PG
namespace PG
open PySem L2 DL GT RX
end PG
namespace PG
open PySem L2 DL GT RX
end PG
namespace PG
open PySem L2 DL GT RX
end PG
namespace PG
open PySem L2 DL GT RX
/-! a net with one more tie -/
end PG
namespace PG
open PySem L2 DL GT RX
section
variable {N : Net} {t : Tie}
theorem canon_ties {xs ys : List Tie} (h : ys.Pairwise tlt) (e : ∀ x, x ∈ xs ↔ x ∈ ys) : canonP xs = ys :=
  up_ext (up_canonP xs) h fun x => by rw [mem_canonP, e x]
end
end PG
namespace PG
open PySem L2 DL GT RX
end PG
namespace DL
open PySem L2 GT
/-! sorted(dict([(tie, 0) ..])) -/
def ddT (ts ks : List Tie) : List Tie := ts.foldl (fun ks t => if t ∈ ks then ks else ks ++ [t]) ks
theorem ddT_spec : ∀ (ts ks : List Tie), ks.Nodup → (ddT ts ks).Nodup ∧ (∀ t, t ∈ ddT ts ks ↔ t ∈ ks ∨ t ∈ ts) ∧ (ddT ts ks).length ≤ ks.length + ts.length
  | [], ks, h => ⟨h, fun t => by simp [ddT], by simp [ddT]⟩
  | t :: ts, ks, h => by
    have e : ddT (t :: ts) ks = ddT ts (if t ∈ ks then ks else ks ++ [t]) := rfl
    rw [e]
    by_cases m : t ∈ ks
    · rw [if_pos m]
      obtain ⟨h1, h2, h3⟩ := ddT_spec ts ks h
      refine ⟨h1, fun u => ?_, by rw [List.length_cons]; omega⟩
      rw [h2, List.mem_cons]
      constructor
      · rintro (q | q)
        · exact .inl q
        · exact .inr (.inr q)
      · rintro (q | rfl | q)
        · exact .inl q
        · exact .inl m
        · exact .inr q
    · rw [if_neg m]
      have nd : (ks ++ [t]).Nodup := by
        rw [List.nodup_append]
        refine ⟨h, by simp, fun a ha b hb e => ?_⟩
        rw [List.mem_singleton] at hb
        exact m (hb ▸ e ▸ ha)
      obtain ⟨h1, h2, h3⟩ := ddT_spec ts _ nd
      refine ⟨h1, fun u => ?_, by rw [List.length_append, List.length_singleton] at h3; rw [List.length_cons]; omega⟩
      rw [h2, List.mem_cons, List.mem_append, List.mem_singleton]
      exact or_assoc
theorem headsT_T : ∀ ts : List Tie, headsT (ts.map fun t => .tuple [encT t, .int 0]) = some (ts.map fun t => ([.inl t.1, .inl t.2], .int 0))
  | [] => rfl
  | t :: ts => by
    rw [List.map_cons]
    simp only [headsT]
    rw [headsT_T ts]
    rfl
theorem dictTD_T (ts : List Tie) : ∀ ks : List Tie, (ts.map fun t => (([.inl t.1, .inl t.2] : List Key), PyData.int 0)).foldl (fun m p => putG m (.inr p.1) p.2) (dicT ks) = dicT (ddT ts ks) := by
  induction ts with
  | nil => intro ks; rfl
  | cons t ts ih =>
    intro ks
    rw [List.map_cons, List.foldl_cons]
    have : putG (dicT ks) (.inr [.inl t.1, .inl t.2]) (PyData.int 0) = dicT (if t ∈ ks then ks else ks ++ [t]) := dicT_put ks t
    rw [this, ih]
    rfl
theorem sortDictB_T {ts : List Tie} (few : ts.length ≤ 1000) : sortDictB (.list (ts.map fun t => .tuple [encT t, .int 0])) = some (.list ((canonP ts).map encT)) := by
  cases ts with
  | nil => simp [sortDictB, sortDictD, headsI, dedup, canonP]
  | cons t l =>
    have h0 : sortDictD (.list ((t :: l).map fun t => .tuple [encT t, .int 0])) = none := rfl
    unfold sortDictB
    rw [h0]
    simp only [sortDictT]
    rw [headsT_T]
    obtain ⟨h1, h2, h3⟩ := ddT_spec (t :: l) [] List.nodup_nil
    have e : dictTD ((t :: l).map fun t => (([.inl t.1, .inl t.2] : List Key), PyData.int 0)) = dicT (ddT (t :: l) []) := dictTD_T (t :: l) []
    simp only [Option.bind_some]
    rw [e, dicT_keys, sortOk_T (by simp at h3 few; omega), if_pos rfl, sortL_T]
    have : sortT (ddT (t :: l) []) = canonP (t :: l) := up_ext (sortT_lt h1) (up_canonP _) fun x => by
      rw [mem_sortT, h2, mem_canonP]; simp
    rw [this]
/-! nets compared -/
theorem shaped_net (N : Net) : SeqAt.shaped (encN N) = true := by
  refine sh_mk ?_ ?_
  · simp [encN, PyData.canLay0, PyData.canLayAll0, layAll encF_T, layAll encF_int]
  · have h1 := depAll encF_T N.ties
    have h2 := depAll encF_int N.rim
    simp only [encN, PyData.depth, PyData.depthAll]
    omega
def netEq (A B : Net) : Bool := decide (A.n = B.n) && decide (A.ties = B.ties) && decide (A.rim = B.rim)
theorem eqv_net (A B : Net) : PyData.eqv (encN A) (encN B) = netEq A B := by
  have h1 := eqvAll_map encF_T A.ties B.ties
  have h2 := eqvAll_map encF_int A.rim B.rim
  have h3 := encF_int.eqv (A.n : Int) (B.n : Int)
  simp only [encN, PyData.eqv, PyData.eqvAll] at h1 h2 h3 ⊢
  rw [h1, h2, h3, netEq, Bool.eq_iff_iff]
  simp [and_assoc]
  omega
theorem eq_NN (A B : Net) : eqB (encN A) (encN B) = some (netEq A B) := by
  unfold eqB; rw [shaped_net, shaped_net, eqv_net]; rfl
theorem ne_NN (A B : Net) : neB (encN A) (encN B) = some (!netEq A B) := by
  unfold neB; rw [shaped_net, shaped_net, eqv_net]; rfl
theorem encF_TT : EncF 3 (fun xs : List Tie => PyData.tuple (xs.map encT)) := encF_tup encF_T
theorem eq_TT (a b : List Tie) : eqB (.tuple (a.map encT)) (.tuple (b.map encT)) = some (decide (a = b)) := eq_one encF_TT (by omega) a b
theorem ne_TT (a b : List Tie) : neB (.tuple (a.map encT)) (.tuple (b.map encT)) = some (!decide (a = b)) := ne_one encF_TT (by omega) a b
theorem eq_TT0 (a : List Tie) : eqB (.tuple (a.map encT)) (.tuple []) = some (decide (a = [])) := eq_TT a []
theorem ne_TI0 (a : List Int) : neB (.tuple (a.map .int)) (.tuple []) = some (!decide (a = [])) := ne_TI a []
theorem eq_TI0 (a : List Int) : eqB (.tuple (a.map .int)) (.tuple []) = some (decide (a = [])) := eq_TI a []
end DL
namespace PG
open PySem L2 DL GT RX
end PG
local macro_rules | `(tactic| simp_arith [$xs,*]) => `(tactic| simp (maxSteps := 2000000) (disch := omega) only [DL.ob_some, DL.om_some, DL.dat_d, DL.lis_l, DL.dic_m, DL.gt_0, DL.gt_1, DL.gt_2, DL.gt_3, DL.gt_4, DL.gt_5, DL.gt_6, DL.gt_7, DL.gt_b, DL.st_0, DL.st_s, DL.plG_d, DL.plG_n, DL.plainAt_a, DL.varM_a, DL.ownM_a, DL.cM_a, DL.ofL_a, DL.opM_a, DL.unM_a, DL.truM_a, DL.tstM_a, DL.notM_a, DL.cnd_t, DL.cnd_f, DL.andM_a, DL.orM_a, DL.andVM_a, DL.orVM_a, DL.notVM_a, DL.chM_a, DL.nilM_a, DL.consM_a, DL.guard_tt, DL.tupM_a, DL.lstM_a, DL.noM_a, DL.intV_i, DL.someM_a, DL.slM_a, DL.rng1M_a, DL.rng2M_a, DL.zipV_t, DL.zipV_l, DL.zipM_a, DL.seqM_a, DL.callM_a, DL.hereM_a, DL.callRM_a, DL.appM_a, DL.lisV_l, DL.extM_a, DL.popAtM_a, DL.newDM_a, DL.putM_a, DL.lenDM_a, DL.sortDM_a, DL.nameG_a, DL.nilG_a, DL.consG_a, DL.tupG_a, DL.seqS_a, DL.seqK_nx, DL.seqK_rt, DL.seqK_ct, DL.skipM_a, DL.asgM_a, DL.asgG_a, DL.newM_a, DL.asgLM_a, DL.retM_a, DL.exprM_a, DL.ifM_a, DL.forM_a, DL.frzM_a, DL.runF_a, DL.finF_rt, DL.finF_nx, DL.runR_a, DL.finR_rt, DL.finR_nx, DL.sz_0, DL.sz_1, DL.sz_2, DL.sz_3, DL.sz_4, DL.sz_5, DL.sz_6, DL.sz_7, DL.sz_8, DL.sz_9, DL.sz_10, DL.sz_11, DL.sz_12, DL.sz_13, DL.sz_14, DL.sz_15, DL.sz_16, DL.sz_17, DL.sz_18, DL.sz_19, DL.sz_20, DL.sz_21, DL.sz_22, DL.sz_23, DL.sz_24, DL.sz_25, DL.sz_26, DL.sz_27, DL.sz_28, DL.sz_29, DL.sz_30, DL.nc_0, DL.nc_1, DL.nc_2, DL.nc_3, DL.nc_4, DL.nc_5, DL.nc_6, DL.nc_7, DL.nc_8, DL.nc_9, DL.nc_10, DL.nc_11, DL.nc_12, DL.nc_13, DL.nc_14, DL.nc_15, DL.nc_16, DL.nc_17, DL.nc_18, DL.nc_19, DL.nc_20, DL.nc_21, DL.nc_22, DL.nc_23, DL.nc_24, DL.nc_25, DL.nc_26, DL.nc_27, DL.nc_28, DL.nc_29, DL.nc_30, DL.addD_i, DL.addD_t, DL.addD_l, DL.subD_i, DL.modD_i, DL.fdivD_i, DL.mulD_i, DL.lenD_t, DL.lenD_l, DL.tupleD_t, DL.tupleD_l, DL.listD_t, DL.listD_l, DL.truD_i, DL.truD_b, DL.truD_n, DL.truD_l, DL.truD_t, DL.ixD_t, DL.ixD_l, DL.negD_i, DL.bD_a, DL.ltB_i, DL.leB_i, DL.geB_i, DL.eqB_i, DL.neB_i, DL.min2D_i, DL.max2D_i, DL.items_t, DL.items_l, DL.isNN, DL.slD_t, DL.slD_l, DL.sortD2_l, DL.sortD2_t, DL.p_ge0, DL.p_geS, DL.p_tk0, DL.p_tkS, DL.p_tkN, DL.p_dr0, DL.p_drS, DL.p_drN, DL.p_mpC, DL.p_mpN, DL.p_apC, DL.p_apN, DL.p_lnC, DL.p_lnN, DL.p_rpS, DL.p_rp0, DL.p_alC, DL.p_alN, DL.p_gdS, DL.p_gdN, DL.p_tlS, DL.p_tlN, DL.p_ieC, DL.p_ieN, DL.p_nt, DL.p_nf, DL.p_atb, DL.p_afb, DL.p_abt, DL.p_abf, DL.p_eqS, DL.p_dT, DL.p_dF, DL.p_TA, DL.p_AT, DL.p_TO, DL.p_OT, DL.p_startD, DL.p_startR, DL.forK_nx, DL.forK_ct, DL.forK_rt, DL.yesM_a, DL.it1_a, DL.compM_a, DL.wipeR_c, DL.wipeR_n, DL.restR_c, DL.restR_n, DL.gtD_i, DL.gtD_T, DL.ob_assoc, DL.om_bind, DL.ob_map, DL.om_map, DL.cnd_bind, DL.cnd_map, DL.guard_bind, DL.guard_map, DL.atI_c0, DL.atI_c1, DL.atI_c2, DL.atI_c3, DL.encN_0, DL.encN_1, DL.encN_2, DL.encN_u, DL.revD_t, DL.revD_l, DL.eq_TI, DL.ne_TI, DL.in_I, DL.in_Il, DL.in_T, DL.in_R, DL.notInB_a, DL.enumM_a, DL.seqK_ex, DL.finF_ex, DL.forK_ex, DL.tri_no, DL.trm_no, DL.atI_neg1, DL.wipO_nx, DL.wipO_ct, DL.wipO_bk, DL.wipO_rt, DL.wipO_ex, DL.wipM_a, DL.preM_a, DL.two_a, DL.parLM_a, DL.finR_ex, DL.len_map, DL.len_app, DL.len_ir, DL.len_rev, DL.sz_c, DL.rng_c, DL.rngL_n, DL.forM_a', DL.rev_map, DL.seqK_bk, DL.forK_bk, DL.enum_m, DL.emp_map, DL.eq_LI, DL.ne_LI, DL.eq_LI0, DL.ne_LI0, DL.eq_LT, DL.ne_LT, DL.eq_LR, DL.ne_LR, DL.eq_TR, DL.ne_TR, DL.eq_B, DL.ne_B, DL.wp_mapE, DL.sortDict_map, DL.lenDict_map, DL.map_id_int, DL.cut_f, DL.cut_t, DL.cut_f1, DL.map_drop', DL.map_take', DL.map_app', DL.len_zip, DL.dkOf_i, DL.keyOf_i, DL.whileK_nx, PG.allD_map', PG.enum_ir, PG.eq_BB, PG.ne_BB, PG.allT_t, DL.isN_i, DL.isNotN_i, DL.isNotN_n, DL.rngL_g1, PG.rep_one, PG.rep_bool, DL.eq_NN, DL.ne_NN, DL.eq_TT, DL.ne_TT, DL.eq_TT0, DL.ne_TI0, DL.eq_TI0, Nat.reduceAdd, Nat.reduceSub, Nat.reduceMul, Int.reduceLT, Int.reduceLE, Int.reducePow, Int.reduceNeg, Int.reduceAdd, Int.reduceSub, Int.reduceMul, Int.reduceBEq, Int.reduceBNe, Int.reduceToNat, $xs,*])
namespace PG
open PySem L2 DL GT RX
end PG
local macro_rules | `(tactic| simp_arith [$xs,*]) => `(tactic| simp (maxSteps := 2000000) (disch := omega) only [DL.ob_some, DL.om_some, DL.dat_d, DL.lis_l, DL.dic_m, DL.gt_0, DL.gt_1, DL.gt_2, DL.gt_3, DL.gt_4, DL.gt_5, DL.gt_6, DL.gt_7, DL.gt_b, DL.st_0, DL.st_s, DL.plG_d, DL.plG_n, DL.plainAt_a, DL.varM_a, DL.ownM_a, DL.cM_a, DL.ofL_a, DL.opM_a, DL.unM_a, DL.truM_a, DL.tstM_a, DL.notM_a, DL.cnd_t, DL.cnd_f, DL.andM_a, DL.orM_a, DL.andVM_a, DL.orVM_a, DL.notVM_a, DL.chM_a, DL.nilM_a, DL.consM_a, DL.guard_tt, DL.tupM_a, DL.lstM_a, DL.noM_a, DL.intV_i, DL.someM_a, DL.slM_a, DL.rng1M_a, DL.rng2M_a, DL.zipV_t, DL.zipV_l, DL.zipM_a, DL.seqM_a, DL.callM_a, DL.hereM_a, DL.callRM_a, DL.appM_a, DL.lisV_l, DL.extM_a, DL.popAtM_a, DL.newDM_a, DL.putM_a, DL.lenDM_a, DL.sortDM_a, DL.nameG_a, DL.nilG_a, DL.consG_a, DL.tupG_a, DL.seqS_a, DL.seqK_nx, DL.seqK_rt, DL.seqK_ct, DL.skipM_a, DL.asgM_a, DL.asgG_a, DL.newM_a, DL.asgLM_a, DL.retM_a, DL.exprM_a, DL.ifM_a, DL.forM_a, DL.frzM_a, DL.runF_a, DL.finF_rt, DL.finF_nx, DL.runR_a, DL.finR_rt, DL.finR_nx, DL.sz_0, DL.sz_1, DL.sz_2, DL.sz_3, DL.sz_4, DL.sz_5, DL.sz_6, DL.sz_7, DL.sz_8, DL.sz_9, DL.sz_10, DL.sz_11, DL.sz_12, DL.sz_13, DL.sz_14, DL.sz_15, DL.sz_16, DL.sz_17, DL.sz_18, DL.sz_19, DL.sz_20, DL.sz_21, DL.sz_22, DL.sz_23, DL.sz_24, DL.sz_25, DL.sz_26, DL.sz_27, DL.sz_28, DL.sz_29, DL.sz_30, DL.nc_0, DL.nc_1, DL.nc_2, DL.nc_3, DL.nc_4, DL.nc_5, DL.nc_6, DL.nc_7, DL.nc_8, DL.nc_9, DL.nc_10, DL.nc_11, DL.nc_12, DL.nc_13, DL.nc_14, DL.nc_15, DL.nc_16, DL.nc_17, DL.nc_18, DL.nc_19, DL.nc_20, DL.nc_21, DL.nc_22, DL.nc_23, DL.nc_24, DL.nc_25, DL.nc_26, DL.nc_27, DL.nc_28, DL.nc_29, DL.nc_30, DL.addD_i, DL.addD_t, DL.addD_l, DL.subD_i, DL.modD_i, DL.fdivD_i, DL.mulD_i, DL.lenD_t, DL.lenD_l, DL.tupleD_t, DL.tupleD_l, DL.listD_t, DL.listD_l, DL.truD_i, DL.truD_b, DL.truD_n, DL.truD_l, DL.truD_t, DL.ixD_t, DL.ixD_l, DL.negD_i, DL.bD_a, DL.ltB_i, DL.leB_i, DL.geB_i, DL.eqB_i, DL.neB_i, DL.min2D_i, DL.max2D_i, DL.items_t, DL.items_l, DL.isNN, DL.slD_t, DL.slD_l, DL.sortD2_l, DL.sortD2_t, DL.p_ge0, DL.p_geS, DL.p_tk0, DL.p_tkS, DL.p_tkN, DL.p_dr0, DL.p_drS, DL.p_drN, DL.p_mpC, DL.p_mpN, DL.p_apC, DL.p_apN, DL.p_lnC, DL.p_lnN, DL.p_rpS, DL.p_rp0, DL.p_alC, DL.p_alN, DL.p_gdS, DL.p_gdN, DL.p_tlS, DL.p_tlN, DL.p_ieC, DL.p_ieN, DL.p_nt, DL.p_nf, DL.p_atb, DL.p_afb, DL.p_abt, DL.p_abf, DL.p_eqS, DL.p_dT, DL.p_dF, DL.p_TA, DL.p_AT, DL.p_TO, DL.p_OT, DL.p_startD, DL.p_startR, DL.forK_nx, DL.forK_ct, DL.forK_rt, DL.yesM_a, DL.it1_a, DL.compM_a, DL.wipeR_c, DL.wipeR_n, DL.restR_c, DL.restR_n, DL.gtD_i, DL.gtD_T, DL.ob_assoc, DL.om_bind, DL.ob_map, DL.om_map, DL.cnd_bind, DL.cnd_map, DL.guard_bind, DL.guard_map, DL.atI_c0, DL.atI_c1, DL.atI_c2, DL.atI_c3, DL.encN_0, DL.encN_1, DL.encN_2, DL.encN_u, DL.revD_t, DL.revD_l, DL.eq_TI, DL.ne_TI, DL.in_I, DL.in_Il, DL.in_T, DL.in_R, DL.notInB_a, DL.enumM_a, DL.seqK_ex, DL.finF_ex, DL.forK_ex, DL.tri_no, DL.trm_no, DL.atI_neg1, DL.wipO_nx, DL.wipO_ct, DL.wipO_bk, DL.wipO_rt, DL.wipO_ex, DL.wipM_a, DL.preM_a, DL.two_a, DL.parLM_a, DL.finR_ex, DL.len_map, DL.len_app, DL.len_ir, DL.len_rev, DL.sz_c, DL.rng_c, DL.rngL_n, DL.forM_a', DL.rev_map, DL.seqK_bk, DL.forK_bk, DL.enum_m, DL.emp_map, DL.eq_LI, DL.ne_LI, DL.eq_LI0, DL.ne_LI0, DL.eq_LT, DL.ne_LT, DL.eq_LR, DL.ne_LR, DL.eq_TR, DL.ne_TR, DL.eq_B, DL.ne_B, DL.wp_mapE, DL.sortDict_map, DL.lenDict_map, DL.map_id_int, DL.cut_f, DL.cut_t, DL.cut_f1, DL.map_drop', DL.map_take', DL.map_app', DL.len_zip, DL.dkOf_i, DL.keyOf_i, DL.whileK_nx, PG.allD_map', PG.enum_ir, PG.eq_BB, PG.ne_BB, PG.allT_t, DL.isN_i, DL.isNotN_i, DL.isNotN_n, DL.rngL_g1, PG.rep_one, PG.rep_bool, Nat.reduceAdd, Nat.reduceSub, Nat.reduceMul, Int.reduceLT, Int.reduceLE, Int.reducePow, Int.reduceNeg, Int.reduceAdd, Int.reduceSub, Int.reduceMul, Int.reduceBEq, Int.reduceBNe, Int.reduceToNat, $xs,*])
namespace PG
open PySem L2 DL GT RX
/-! any thing as a row of whole numbers -/
def intsT : D → Option (List Int)
  | .tuple xs => intsOf xs
  | _ => none
theorem intsT_some {d : D} {r : List Int} (h : intsT d = some r) : d = TI r := by
  unfold intsT at h
  split at h
  · rw [intsOf_some h]
  · cases h
theorem intsT_TI (r : List Int) : intsT (TI r) = some r := intsOf_map r
theorem not_ints : ∀ {xs : List D}, intsOf xs = none → ∃ x ∈ xs, ∀ i, x ≠ .int i
  | [], h => by cases h
  | x :: xs, h => by
    cases x with
    | int i =>
      have h' : (intsOf xs).map (i :: ·) = none := h
      rw [Option.map_eq_none_iff] at h'
      obtain ⟨y, m, hy⟩ := not_ints h'
      exact ⟨y, List.mem_cons_of_mem _ m, hy⟩
    | none => exact ⟨PyData.none, List.mem_cons_self, fun i e => PyData.noConfusion e⟩
    | bool b => exact ⟨(PyData.bool b), List.mem_cons_self, fun i e => PyData.noConfusion e⟩
    | str s => exact ⟨(PyData.str s), List.mem_cons_self, fun i e => PyData.noConfusion e⟩
    | list l => exact ⟨(PyData.list l), List.mem_cons_self, fun i e => PyData.noConfusion e⟩
    | tuple l => exact ⟨(PyData.tuple l), List.mem_cons_self, fun i e => PyData.noConfusion e⟩
    | dict l => exact ⟨(PyData.dict l), List.mem_cons_self, fun i e => PyData.noConfusion e⟩
theorem whole_no {d : D} (h : ∀ i, d ≠ .int i) (a b : Int) : wholeD d a b = false := by
  cases d with
  | int i => exact absurd rfl (h i)
  | _ => rfl
theorem all_no {xs : List D} (h : intsOf xs = none) (a b : Int) : xs.all (wholeD · a b) = false := by
  obtain ⟨x, m, hx⟩ := not_ints h
  rw [List.all_eq_false]
  exact ⟨x, m, by simp [whole_no hx]⟩
def routeD (N : Net) (d : D) : Bool := match intsT d with
  | some r => isRouteB N r
  | none => false
theorem routeD_TI (N : Net) (r : List Int) : routeD N (TI r) = isRouteB N r := by unfold routeD; rw [intsT_TI]
/-- small: no row is long -/
def short1 (d : D) : Prop := ∀ xs, d = .tuple xs → xs.length ≤ 900
theorem is_route_D {N : Net} (w : N.WF) (d : D) (hs : short1 d) : g_is_route [encN N, d] = some (.bool (routeD N d)) := by
  cases q : intsT d with
  | some r =>
    have e := intsT_some q
    subst e
    rw [routeD_TI]
    exact is_route_TI w r (by have := hs _ rfl; simpa using this)
  | none =>
    have e : routeD N d = false := by unfold routeD; rw [q]
    rw [e]
    cases d with
    | tuple xs =>
      have hl := hs xs rfl
      have al := all_no (show intsOf xs = none from q) 0 ((N.n : Int) - 1)
      refine wp_val ?_
      unfold g_is_route b_is_route N_is_route
      by_cases h2 : decide (((xs.length : Nat) : Int) < 2) = true
      · simp_arith [isi_tuple, h2]
        exact wp_ok rfl
      · have h2' : decide (((xs.length : Nat) : Int) < 2) = false := by simpa using h2
        simp_arith [isi_tuple, h2']
        have c := wp_cmap (g := nameG 2) (el := Ce_is_route_1) (is := [2]) (as := xs) (r := [some (.d (encN N)), some (.d (.tuple xs)), none, none]) (K := some) (Q := (· = (xs.map fun x => PyData.bool (wholeD x 0 ((N.n : Int) - 1)), [some (.d (encN N)), some (.d (.tuple xs)), none, none]))) (enc := id) (fun x => .bool (wholeD x 0 ((N.n : Int) - 1))) (fun x _ => by
          unfold Ce_is_route_1
          simp_arith [whole_eval, id]
          exact wp_ok rfl) (wp_ok rfl)
        rw [List.map_id] at c
        have c' := wp_last c
        refine wp_bind c' ?_
        rintro _ rfl
        simp_arith [al]
        exact wp_ok rfl
    | _ =>
      unfold g_is_route b_is_route N_is_route
      simp_arith [isi_tuple]
/-! cuts -/
/-! barrings -/
end PG
namespace PG
open PySem L2 DL GT RX
end PG
local macro_rules | `(tactic| simp_arith [$xs,*]) => `(tactic| simp (maxSteps := 2000000) (disch := omega) only [DL.ob_some, DL.om_some, DL.dat_d, DL.lis_l, DL.dic_m, DL.gt_0, DL.gt_1, DL.gt_2, DL.gt_3, DL.gt_4, DL.gt_5, DL.gt_6, DL.gt_7, DL.gt_b, DL.st_0, DL.st_s, DL.plG_d, DL.plG_n, DL.plainAt_a, DL.varM_a, DL.ownM_a, DL.cM_a, DL.ofL_a, DL.opM_a, DL.unM_a, DL.truM_a, DL.tstM_a, DL.notM_a, DL.cnd_t, DL.cnd_f, DL.andM_a, DL.orM_a, DL.andVM_a, DL.orVM_a, DL.notVM_a, DL.chM_a, DL.nilM_a, DL.consM_a, DL.guard_tt, DL.tupM_a, DL.lstM_a, DL.noM_a, DL.intV_i, DL.someM_a, DL.slM_a, DL.rng1M_a, DL.rng2M_a, DL.zipV_t, DL.zipV_l, DL.zipM_a, DL.seqM_a, DL.callM_a, DL.hereM_a, DL.callRM_a, DL.appM_a, DL.lisV_l, DL.extM_a, DL.popAtM_a, DL.newDM_a, DL.putM_a, DL.lenDM_a, DL.sortDM_a, DL.nameG_a, DL.nilG_a, DL.consG_a, DL.tupG_a, DL.seqS_a, DL.seqK_nx, DL.seqK_rt, DL.seqK_ct, DL.skipM_a, DL.asgM_a, DL.asgG_a, DL.newM_a, DL.asgLM_a, DL.retM_a, DL.exprM_a, DL.ifM_a, DL.forM_a, DL.frzM_a, DL.runF_a, DL.finF_rt, DL.finF_nx, DL.runR_a, DL.finR_rt, DL.finR_nx, DL.sz_0, DL.sz_1, DL.sz_2, DL.sz_3, DL.sz_4, DL.sz_5, DL.sz_6, DL.sz_7, DL.sz_8, DL.sz_9, DL.sz_10, DL.sz_11, DL.sz_12, DL.sz_13, DL.sz_14, DL.sz_15, DL.sz_16, DL.sz_17, DL.sz_18, DL.sz_19, DL.sz_20, DL.sz_21, DL.sz_22, DL.sz_23, DL.sz_24, DL.sz_25, DL.sz_26, DL.sz_27, DL.sz_28, DL.sz_29, DL.sz_30, DL.nc_0, DL.nc_1, DL.nc_2, DL.nc_3, DL.nc_4, DL.nc_5, DL.nc_6, DL.nc_7, DL.nc_8, DL.nc_9, DL.nc_10, DL.nc_11, DL.nc_12, DL.nc_13, DL.nc_14, DL.nc_15, DL.nc_16, DL.nc_17, DL.nc_18, DL.nc_19, DL.nc_20, DL.nc_21, DL.nc_22, DL.nc_23, DL.nc_24, DL.nc_25, DL.nc_26, DL.nc_27, DL.nc_28, DL.nc_29, DL.nc_30, DL.addD_i, DL.addD_t, DL.addD_l, DL.subD_i, DL.modD_i, DL.fdivD_i, DL.mulD_i, DL.lenD_t, DL.lenD_l, DL.tupleD_t, DL.tupleD_l, DL.listD_t, DL.listD_l, DL.truD_i, DL.truD_b, DL.truD_n, DL.truD_l, DL.truD_t, DL.ixD_t, DL.ixD_l, DL.negD_i, DL.bD_a, DL.ltB_i, DL.leB_i, DL.geB_i, DL.eqB_i, DL.neB_i, DL.min2D_i, DL.max2D_i, DL.items_t, DL.items_l, DL.isNN, DL.slD_t, DL.slD_l, DL.sortD2_l, DL.sortD2_t, DL.p_ge0, DL.p_geS, DL.p_tk0, DL.p_tkS, DL.p_tkN, DL.p_dr0, DL.p_drS, DL.p_drN, DL.p_mpC, DL.p_mpN, DL.p_apC, DL.p_apN, DL.p_lnC, DL.p_lnN, DL.p_rpS, DL.p_rp0, DL.p_alC, DL.p_alN, DL.p_gdS, DL.p_gdN, DL.p_tlS, DL.p_tlN, DL.p_ieC, DL.p_ieN, DL.p_nt, DL.p_nf, DL.p_atb, DL.p_afb, DL.p_abt, DL.p_abf, DL.p_eqS, DL.p_dT, DL.p_dF, DL.p_TA, DL.p_AT, DL.p_TO, DL.p_OT, DL.p_startD, DL.p_startR, DL.forK_nx, DL.forK_ct, DL.forK_rt, DL.yesM_a, DL.it1_a, DL.compM_a, DL.wipeR_c, DL.wipeR_n, DL.restR_c, DL.restR_n, DL.gtD_i, DL.gtD_T, DL.ob_assoc, DL.om_bind, DL.ob_map, DL.om_map, DL.cnd_bind, DL.cnd_map, DL.guard_bind, DL.guard_map, DL.atI_c0, DL.atI_c1, DL.atI_c2, DL.atI_c3, DL.encN_0, DL.encN_1, DL.encN_2, DL.encN_u, DL.revD_t, DL.revD_l, DL.eq_TI, DL.ne_TI, DL.in_I, DL.in_Il, DL.in_T, DL.in_R, DL.notInB_a, DL.enumM_a, DL.seqK_ex, DL.finF_ex, DL.forK_ex, DL.tri_no, DL.trm_no, DL.atI_neg1, DL.wipO_nx, DL.wipO_ct, DL.wipO_bk, DL.wipO_rt, DL.wipO_ex, DL.wipM_a, DL.preM_a, DL.two_a, DL.parLM_a, DL.finR_ex, DL.len_map, DL.len_app, DL.len_ir, DL.len_rev, DL.sz_c, DL.rng_c, DL.rngL_n, DL.forM_a', DL.rev_map, DL.seqK_bk, DL.forK_bk, DL.enum_m, DL.emp_map, DL.eq_LI, DL.ne_LI, DL.eq_LI0, DL.ne_LI0, DL.eq_LT, DL.ne_LT, DL.eq_LR, DL.ne_LR, DL.eq_TR, DL.ne_TR, DL.eq_B, DL.ne_B, DL.wp_mapE, DL.sortDict_map, DL.lenDict_map, DL.map_id_int, DL.cut_f, DL.cut_t, DL.cut_f1, DL.map_drop', DL.map_take', DL.map_app', DL.len_zip, DL.dkOf_i, DL.keyOf_i, DL.whileK_nx, PG.allD_map', PG.enum_ir, PG.eq_BB, PG.ne_BB, PG.allT_t, DL.isN_i, DL.isNotN_i, DL.isNotN_n, DL.rngL_g1, PG.rep_one, PG.rep_bool, DL.eq_NN, DL.ne_NN, DL.eq_TT, DL.ne_TT, DL.eq_TT0, DL.ne_TI0, DL.eq_TI0, Nat.reduceAdd, Nat.reduceSub, Nat.reduceMul, Int.reduceLT, Int.reduceLE, Int.reducePow, Int.reduceNeg, Int.reduceAdd, Int.reduceSub, Int.reduceMul, Int.reduceBEq, Int.reduceBNe, Int.reduceToNat, $xs,*])
namespace DL
open PySem L2 GT
/-! dict(pairs) with tuples as keys -/
end DL
namespace PG
open PySem L2 DL GT RX
end PG
local macro_rules | `(tactic| simp_arith [$xs,*]) => `(tactic| simp only [Nat.reduceAdd, Nat.reduceSub, Nat.reduceMul, Int.reduceLT, Int.reduceLE, Int.reducePow, Int.reduceNeg, Int.reduceAdd, Int.reduceSub, Int.reduceMul, Int.reduceBEq, Int.reduceBNe, Int.reduceToNat, $xs,*])
namespace FB
open PySem L2 DL PG
def N__law_draw : List Str := ["_law_script", "_law_town", "_law_many", "_law_k", "_law_cell", "_law_number", "_law_more"]
def Sq__law_draw_1 : SM :=
    (retM (opM modD (opM addD (opM mulD (opM fdivD (varM 5) (cM (PyData.int 64))) (cM (PyData.int 67108864))) (opM fdivD (varM 6) (cM (PyData.int 64)))) (varM 2)))
theorem Sq__law_draw_1_a (rr : Rho) : Sq__law_draw_1 rr = (retM (opM modD (opM addD (opM mulD (opM fdivD (varM 5) (cM (PyData.int 64))) (cM (PyData.int 67108864))) (opM fdivD (varM 6) (cM (PyData.int 64)))) (varM 2))) rr := (rfl)
def Sq__law_draw_2 : SM :=
    (seqS (asgM 6 (opM modD (opM mulD (opM modD (opM mulD (varM 5) (varM 5)) (cM (PyData.int 4294967279))) (cM (PyData.int 69621))) (cM (PyData.int 4294967291))))
    Sq__law_draw_1)
theorem Sq__law_draw_2_a (rr : Rho) : Sq__law_draw_2 rr = (seqS (asgM 6 (opM modD (opM mulD (opM modD (opM mulD (varM 5) (varM 5)) (cM (PyData.int 4294967279))) (cM (PyData.int 69621))) (cM (PyData.int 4294967291))))
    Sq__law_draw_1) rr := (rfl)
def Sq__law_draw_3 : SM :=
    (seqS (asgM 5 (opM modD (opM mulD (opM modD (opM mulD (varM 5) (varM 5)) (cM (PyData.int 4294967279))) (cM (PyData.int 48271))) (cM (PyData.int 4294967291))))
    Sq__law_draw_2)
theorem Sq__law_draw_3_a (rr : Rho) : Sq__law_draw_3 rr = (seqS (asgM 5 (opM modD (opM mulD (opM modD (opM mulD (varM 5) (varM 5)) (cM (PyData.int 4294967279))) (cM (PyData.int 48271))) (cM (PyData.int 4294967291))))
    Sq__law_draw_2) rr := (rfl)
def Sq__law_draw_4 : SM :=
    (seqS (asgM 5 (opM modD (opM addD (varM 4) (opM mulD (cM (PyData.int 104729)) (varM 3))) (cM (PyData.int 4294967291))))
    Sq__law_draw_3)
theorem Sq__law_draw_4_a (rr : Rho) : Sq__law_draw_4 rr = (seqS (asgM 5 (opM modD (opM addD (varM 4) (opM mulD (cM (PyData.int 104729)) (varM 3))) (cM (PyData.int 4294967291))))
    Sq__law_draw_3) rr := (rfl)
def Sq__law_draw_5 : SM :=
    (seqS (ifM (truM (varM 0)) (asgM 4 (opM ixD (varM 0) (opM modD (varM 3) (unM lenD (varM 0))))) skipM)
    Sq__law_draw_4)
theorem Sq__law_draw_5_a (rr : Rho) : Sq__law_draw_5 rr = (seqS (ifM (truM (varM 0)) (asgM 4 (opM ixD (varM 0) (opM modD (varM 3) (unM lenD (varM 0))))) skipM)
    Sq__law_draw_4) rr := (rfl)
def Sq__law_draw_6 : SM :=
    (seqS (asgM 3 (unM lenD (ownM 1)))
    (seqS (asgM 4 (cM (PyData.int 0)))
    Sq__law_draw_5))
theorem Sq__law_draw_6_a (rr : Rho) : Sq__law_draw_6 rr = (seqS (asgM 3 (unM lenD (ownM 1)))
    (seqS (asgM 4 (cM (PyData.int 0)))
    Sq__law_draw_5)) rr := (rfl)
def b__law_draw : SM :=
    (seqS (exprM (appM 1 (cM (PyData.int 0))))
    Sq__law_draw_6)
def g__law_draw : List D → List D → Option (D × List D) := runR N__law_draw 1 b__law_draw
def N__law_pick : List Str := ["_law_script", "_law_town", "_law_some"]
def b__law_pick : SM :=
    (retM (opM ixD (varM 2) (callRM 1 g__law_draw (consM (varM 0) (hereM 1 (consM (unM lenD (varM 2)) nilM))))))
def g__law_pick : List D → List D → Option (D × List D) := runR N__law_pick 1 b__law_pick
def N__law_net : List Str := ["_law_script", "_law_town", "_law_knots", "_law_ties", "_law_one", "_law_rim", "_law_many", "_law_some", "_law_knot", "_law_other"]
def Ce__law_net_1 : EM :=
    (tupM (consM (varM 4) (consM (varM 9) nilM)))
def F__law_net_1 : SM :=
    (wipM [4, 9] (exprM (extM 7 (ofL (compM [9] (rng2M (opM addD (varM 4) (cM (PyData.int 1))) (varM 6)) (nameG 9) yesM Ce__law_net_1)))))
def Wt__law_net_1 : TM :=
    (orM (tstM gtD (unM lenD (ownM 7)) (varM 3)) (andM (truM (ownM 7)) (tstM eqB (callRM 1 g__law_draw (consM (varM 0) (hereM 1 (consM (cM (PyData.int 5)) nilM)))) (cM (PyData.int 0)))))
def Wb__law_net_1 : SM :=
    (exprM (popAtM 7 (callRM 1 g__law_draw (consM (varM 0) (hereM 1 (consM (unM lenD (ownM 7)) nilM))))))
def Ct__law_net_1 : TM :=
    (truM (callRM 1 g__law_draw (consM (varM 0) (hereM 1 (consM (cM (PyData.int 3)) nilM)))))
def Ce__law_net_2 : EM :=
    (varM 8)
def Sq__law_net_1 : SM :=
    (retM (tupM (consM (varM 6) (consM (unM tupleD (ownM 7)) (consM (unM tupleD (orVM (varM 5) (ofL (lstM (consM (callRM 1 g__law_draw (consM (varM 0) (hereM 1 (consM (varM 6) nilM)))) nilM))))) nilM)))))
theorem Sq__law_net_1_a (rr : Rho) : Sq__law_net_1 rr = (retM (tupM (consM (varM 6) (consM (unM tupleD (ownM 7)) (consM (unM tupleD (orVM (varM 5) (ofL (lstM (consM (callRM 1 g__law_draw (consM (varM 0) (hereM 1 (consM (varM 6) nilM)))) nilM))))) nilM))))) rr := (rfl)
def Sq__law_net_2 : SM :=
    (seqS (asgLM 5 (compM [8] (rng1M (varM 6)) (nameG 8) Ct__law_net_1 Ce__law_net_2))
    Sq__law_net_1)
theorem Sq__law_net_2_a (rr : Rho) : Sq__law_net_2 rr = (seqS (asgLM 5 (compM [8] (rng1M (varM 6)) (nameG 8) Ct__law_net_1 Ce__law_net_2))
    Sq__law_net_1) rr := (rfl)
def Sq__law_net_3 : SM :=
    (seqS (whileL Wt__law_net_1 Wb__law_net_1 1000)
    Sq__law_net_2)
theorem Sq__law_net_3_a (rr : Rho) : Sq__law_net_3 rr = (seqS (whileL Wt__law_net_1 Wb__law_net_1 1000)
    Sq__law_net_2) rr := (rfl)
def Sq__law_net_4 : SM :=
    (seqS (preM [4, 9] (forM (rng1M (varM 6)) (nameG 4) F__law_net_1))
    Sq__law_net_3)
theorem Sq__law_net_4_a (rr : Rho) : Sq__law_net_4 rr = (seqS (preM [4, 9] (forM (rng1M (varM 6)) (nameG 4) F__law_net_1))
    Sq__law_net_3) rr := (rfl)
def b__law_net : SM :=
    (seqS (parLM 6 7 (opM addD (cM (PyData.int 1)) (callRM 1 g__law_draw (consM (varM 0) (hereM 1 (consM (varM 2) nilM))))) (lstM nilM))
    Sq__law_net_4)
def g__law_net : List D → List D → Option (D × List D) := runR N__law_net 1 b__law_net
end FB
local macro_rules | `(tactic| simp_arith [$xs,*]) => `(tactic| simp (maxSteps := 2000000) (disch := omega) only [DL.ob_some, DL.om_some, DL.dat_d, DL.lis_l, DL.dic_m, DL.gt_0, DL.gt_1, DL.gt_2, DL.gt_3, DL.gt_4, DL.gt_5, DL.gt_6, DL.gt_7, DL.gt_b, DL.st_0, DL.st_s, DL.plG_d, DL.plG_n, DL.plainAt_a, DL.varM_a, DL.ownM_a, DL.cM_a, DL.ofL_a, DL.opM_a, DL.unM_a, DL.truM_a, DL.tstM_a, DL.notM_a, DL.cnd_t, DL.cnd_f, DL.andM_a, DL.orM_a, DL.andVM_a, DL.orVM_a, DL.notVM_a, DL.chM_a, DL.nilM_a, DL.consM_a, DL.guard_tt, DL.tupM_a, DL.lstM_a, DL.noM_a, DL.intV_i, DL.someM_a, DL.slM_a, DL.rng1M_a, DL.rng2M_a, DL.zipV_t, DL.zipV_l, DL.zipM_a, DL.seqM_a, DL.callM_a, DL.hereM_a, DL.callRM_a, DL.appM_a, DL.lisV_l, DL.extM_a, DL.popAtM_a, DL.newDM_a, DL.putM_a, DL.lenDM_a, DL.sortDM_a, DL.nameG_a, DL.nilG_a, DL.consG_a, DL.tupG_a, DL.seqS_a, DL.seqK_nx, DL.seqK_rt, DL.seqK_ct, DL.skipM_a, DL.asgM_a, DL.asgG_a, DL.newM_a, DL.asgLM_a, DL.retM_a, DL.exprM_a, DL.ifM_a, DL.forM_a, DL.frzM_a, DL.runF_a, DL.finF_rt, DL.finF_nx, DL.runR_a, DL.finR_rt, DL.finR_nx, DL.sz_0, DL.sz_1, DL.sz_2, DL.sz_3, DL.sz_4, DL.sz_5, DL.sz_6, DL.sz_7, DL.sz_8, DL.sz_9, DL.sz_10, DL.sz_11, DL.sz_12, DL.sz_13, DL.sz_14, DL.sz_15, DL.sz_16, DL.sz_17, DL.sz_18, DL.sz_19, DL.sz_20, DL.sz_21, DL.sz_22, DL.sz_23, DL.sz_24, DL.sz_25, DL.sz_26, DL.sz_27, DL.sz_28, DL.sz_29, DL.sz_30, DL.nc_0, DL.nc_1, DL.nc_2, DL.nc_3, DL.nc_4, DL.nc_5, DL.nc_6, DL.nc_7, DL.nc_8, DL.nc_9, DL.nc_10, DL.nc_11, DL.nc_12, DL.nc_13, DL.nc_14, DL.nc_15, DL.nc_16, DL.nc_17, DL.nc_18, DL.nc_19, DL.nc_20, DL.nc_21, DL.nc_22, DL.nc_23, DL.nc_24, DL.nc_25, DL.nc_26, DL.nc_27, DL.nc_28, DL.nc_29, DL.nc_30, DL.addD_i, DL.addD_t, DL.addD_l, DL.subD_i, DL.modD_i, DL.fdivD_i, DL.mulD_i, DL.lenD_t, DL.lenD_l, DL.tupleD_t, DL.tupleD_l, DL.listD_t, DL.listD_l, DL.truD_i, DL.truD_b, DL.truD_n, DL.truD_l, DL.truD_t, DL.ixD_t, DL.ixD_l, DL.negD_i, DL.bD_a, DL.ltB_i, DL.leB_i, DL.geB_i, DL.eqB_i, DL.neB_i, DL.min2D_i, DL.max2D_i, DL.items_t, DL.items_l, DL.isNN, DL.slD_t, DL.slD_l, DL.sortD2_l, DL.sortD2_t, DL.p_ge0, DL.p_geS, DL.p_tk0, DL.p_tkS, DL.p_tkN, DL.p_dr0, DL.p_drS, DL.p_drN, DL.p_mpC, DL.p_mpN, DL.p_apC, DL.p_apN, DL.p_lnC, DL.p_lnN, DL.p_rpS, DL.p_rp0, DL.p_alC, DL.p_alN, DL.p_gdS, DL.p_gdN, DL.p_tlS, DL.p_tlN, DL.p_ieC, DL.p_ieN, DL.p_nt, DL.p_nf, DL.p_atb, DL.p_afb, DL.p_abt, DL.p_abf, DL.p_eqS, DL.p_dT, DL.p_dF, DL.p_TA, DL.p_AT, DL.p_TO, DL.p_OT, DL.p_startD, DL.p_startR, DL.forK_nx, DL.forK_ct, DL.forK_rt, DL.yesM_a, DL.it1_a, DL.compM_a, DL.wipeR_c, DL.wipeR_n, DL.restR_c, DL.restR_n, DL.gtD_i, DL.gtD_T, DL.ob_assoc, DL.om_bind, DL.ob_map, DL.om_map, DL.cnd_bind, DL.cnd_map, DL.guard_bind, DL.guard_map, DL.atI_c0, DL.atI_c1, DL.atI_c2, DL.atI_c3, DL.encN_0, DL.encN_1, DL.encN_2, DL.encN_u, DL.revD_t, DL.revD_l, DL.eq_TI, DL.ne_TI, DL.in_I, DL.in_Il, DL.in_T, DL.in_R, DL.notInB_a, DL.enumM_a, DL.seqK_ex, DL.finF_ex, DL.forK_ex, DL.tri_no, DL.trm_no, DL.atI_neg1, DL.wipO_nx, DL.wipO_ct, DL.wipO_bk, DL.wipO_rt, DL.wipO_ex, DL.wipM_a, DL.preM_a, DL.two_a, DL.parLM_a, DL.finR_ex, DL.len_map, DL.len_app, DL.len_ir, DL.len_rev, DL.sz_c, DL.rng_c, DL.rngL_n, DL.forM_a', DL.rev_map, DL.seqK_bk, DL.forK_bk, DL.enum_m, DL.emp_map, FB.Sq__law_draw_1_a, FB.Sq__law_draw_2_a, FB.Sq__law_draw_3_a, FB.Sq__law_draw_4_a, FB.Sq__law_draw_5_a, FB.Sq__law_draw_6_a, FB.Sq__law_net_1_a, FB.Sq__law_net_2_a, FB.Sq__law_net_3_a, FB.Sq__law_net_4_a, DL.dkOf_i, DL.keyOf_i, DL.whileK_nx, Nat.reduceAdd, Nat.reduceSub, Nat.reduceMul, Int.reduceLT, Int.reduceLE, Int.reducePow, Int.reduceNeg, Int.reduceAdd, Int.reduceSub, Int.reduceMul, Int.reduceBEq, Int.reduceBNe, Int.reduceToNat, $xs,*])
namespace FB
open PySem L2 DL GT PG
abbrev SC (ns : List Int) : D := .list (ns.map .int)
theorem draw_spec (ns : List Int) (town : List D) (m : Int) (hm : 0 < m) (hl : town.length < 900000) : ∃ v, 0 ≤ v ∧ v < m ∧ g__law_draw [SC ns, .int m] town = some (.int v, town ++ [.int 0]) := by
  have hz : szOk town.length = true := szOk_of (by omega)
  have key : ∀ x : Int, 0 ≤ x % m ∧ x % m < m := fun x => ⟨Int.emod_nonneg _ (by omega), Int.emod_lt_of_pos _ hm⟩
  have mo : ∀ x : Int, mulOk (x % 4294967291 / 64) 67108864 = true := fun x => mulOk_of (by have := Int.emod_nonneg x (b := 4294967291) (by decide); omega) (by have := Int.emod_lt_of_pos x (b := 4294967291) (by decide); omega)
  have goal : wp (g__law_draw [SC ns, .int m] town) (fun q => ∃ v, 0 ≤ v ∧ v < m ∧ q = (.int v, town ++ [.int 0])) := by
    unfold g__law_draw b__law_draw N__law_draw
    cases ns with
    | nil =>
      simp_arith [hz, mulOk_a, mulOk_b, mulOk_c, hm, mo]
      exact wp_ok ⟨_, (key _).1, (key _).2, rfl⟩
    | cons a as =>
      have hpos : (0 : Int) < ((a :: as).length : Nat) := by simp only [List.length_cons]; omega
      obtain ⟨c, _, hc⟩ := atI_mem (xs := a :: as) (i := ((town.length + 1 : Nat) : Int) % ((a :: as).length : Nat)) (Int.emod_nonneg _ (by omega)) (Int.emod_lt_of_pos _ hpos)
      have hne : (List.map PyData.int (a :: as)).isEmpty = false := rfl
      have hlen : (List.map PyData.int (a :: as)).length = (a :: as).length := List.length_map ..
      have hix : ixD (.list (List.map PyData.int (a :: as))) (.int (((town.length + 1 : Nat) : Int) % ((a :: as).length : Nat))) = some (.int c) := by
        rw [ixD_l, atI_map, hc]; rfl
      show wp (runR _ _ _ [.list (List.map PyData.int (a :: as)), .int m] town) _
      generalize hA : List.map PyData.int (a :: as) = A at *
      generalize hB : (a :: as).length = B at *
      simp_arith [hz, hne, mulOk_a, mulOk_b, mulOk_c, hm, hlen, hpos, hix, mo]
      exact wp_ok ⟨_, (key _).1, (key _).2, rfl⟩
  obtain ⟨q, e, v, v0, v1, rfl⟩ := goal
  exact ⟨v, v0, v1, e⟩
/-! a net by cells -/
def rg (a b : Int) : List Int := (List.range (b - a).toNat).map fun (i : Nat) => a + (i : Int)
theorem rngL_rg (a b : Int) : rngL a b = (rg a b).map .int := rngL_eq a b
theorem mem_rg' {a b x : Int} : x ∈ rg a b ↔ a ≤ x ∧ x < b := mem_rg
theorem rg_len (a b : Int) : (rg a b).length = (b - a).toNat := by simp [rg]
theorem rg_up (a b : Int) : (rg a b).Pairwise (· < ·) := by
  unfold rg
  exact List.pairwise_map.mpr (List.pairwise_lt_range.imp fun h => by omega)
def rowT (n : Nat) (a : Int) : List Tie := (rg (a + 1) n).map fun b => (a, b)
def allT (n : Nat) : List Tie := (ir n).flatMap (rowT n)
theorem mem_rowT {n : Nat} {a : Int} {t : Tie} : t ∈ rowT n a ↔ t.1 = a ∧ a < t.2 ∧ t.2 < n := by
  unfold rowT
  simp only [List.mem_map, mem_rg']
  constructor
  · rintro ⟨b, h, rfl⟩; exact ⟨rfl, by show a < b; omega, h.2⟩
  · rintro ⟨rfl, h1, h2⟩; exact ⟨t.2, by omega, rfl⟩
theorem mem_allT {n : Nat} {t : Tie} : t ∈ allT n ↔ 0 ≤ t.1 ∧ t.1 < t.2 ∧ t.2 < n := by
  unfold allT
  simp only [List.mem_flatMap, mem_rowT, mem_ir]
  constructor
  · rintro ⟨a, h, rfl, h2⟩; omega
  · rintro h; exact ⟨t.1, by omega, rfl, by omega⟩
theorem flat_up : ∀ {as : List Int} {f : Int → List Tie}, as.Pairwise (· < ·) → (∀ a ∈ as, (f a).Pairwise tlt ∧ ∀ t ∈ f a, t.1 = a) → (as.flatMap f).Pairwise tlt
  | [], _, _, _ => by simp
  | a :: as, f, h, hf => by
    rw [List.flatMap_cons, List.pairwise_append]
    have h' := List.pairwise_cons.mp h
    refine ⟨(hf a (by simp)).1, flat_up h'.2 fun b m => hf b (List.mem_cons_of_mem _ m), fun t mt u mu => ?_⟩
    obtain ⟨b, mb, mu⟩ := List.mem_flatMap.mp mu
    have e1 := (hf a (by simp)).2 t mt
    have e2 := (hf b (List.mem_cons_of_mem _ mb)).2 u mu
    have := h'.1 b mb
    unfold tlt; omega
theorem allT_up (n : Nat) : (allT n).Pairwise tlt := flat_up (ir_sorted n) fun a _ => ⟨by
  unfold rowT
  exact List.pairwise_map.mpr ((rg_up _ _).imp fun h => .inr ⟨rfl, h⟩), fun t m => (mem_rowT.mp m).1⟩
theorem flat_len {α β : Type} {f : α → List β} {c : Nat} : ∀ {xs : List α}, (∀ x ∈ xs, (f x).length ≤ c) → (xs.flatMap f).length ≤ c * xs.length
  | [], _ => by simp
  | a :: xs, h => by
    rw [List.flatMap_cons, List.length_append, List.length_cons, Nat.mul_add]
    have := h a (by simp); have := flat_len fun x m => h x (List.mem_cons_of_mem a m); omega
theorem allT_len {n : Nat} (h : n ≤ 7) : (allT n).length ≤ 49 := by
  have := flat_len (f := rowT n) (c := 7) (xs := ir n) fun a m => by
    unfold rowT; rw [List.length_map, rg_len]; have := mem_ir.mp m; omega
  rw [ir_len] at this
  unfold allT; omega
theorem erase_map {α β : Type} (f : α → β) : ∀ (xs : List α) (i : Nat), (xs.map f).eraseIdx i = (xs.eraseIdx i).map f
  | [], _ => rfl
  | _ :: _, 0 => rfl
  | x :: xs, i + 1 => by simp [erase_map f xs i]
abbrev stN (ns : List Int) (high wide n : Nat) (tw : List D) (ts : List Tie) : Rho := [some (.d (SC ns)), some (.l true tw), some (.d (.int high)), some (.d (.int wide)), none, none, some (.d (.int n)), some (.l false (ts.map encT)), none, none]
theorem W_net {ns : List Int} {high wide n : Nat} : ∀ (fuel : Nat) (ts : List Tie) (tw : List D), ts.length < fuel → ts.length ≤ 100 → tw.length + 2 * ts.length < 800000 →
    wp (whileL Wt__law_net_1 Wb__law_net_1 fuel (stN ns high wide n tw ts)) (fun o => ∃ ts' tw', o = .nx (stN ns high wide n tw' ts') ∧ ts'.Sublist ts ∧ ts'.length ≤ wide ∧ tw'.length ≤ tw.length + 2 * ts.length + 1)
  | 0, ts, tw, h, _, _ => by omega
  | fuel + 1, ts, tw, h, h100, hl => by
    rw [whileL_s]
    obtain ⟨v, v0, v1, e1⟩ := draw_spec ns tw 5 (by omega) (by omega)
    have body : ∀ tw1 : List D, tw1.length ≤ tw.length + 1 → 0 < ts.length → wp ((Wb__law_net_1 (stN ns high wide n tw1 ts)).bind (whileK Wt__law_net_1 Wb__law_net_1 fuel)) (fun o => ∃ ts' tw', o = .nx (stN ns high wide n tw' ts') ∧ ts'.Sublist ts ∧ ts'.length ≤ wide ∧ tw'.length ≤ tw.length + 2 * ts.length + 1) := fun tw1 h1 hp => by
      obtain ⟨u, u0, u1, e2⟩ := draw_spec ns tw1 ts.length (by omega) (by omega)
      have g1 : decide (0 ≤ u ∧ u < 1000000) = true := decide_eq_true ⟨u0, by omega⟩
      have g2 : (ts.map encT)[u.toNat]? = some (encT (ts[u.toNat]'(by omega))) := by
        rw [List.getElem?_map, List.getElem?_eq_getElem (by omega)]; rfl
      have g3 : (ts.map encT).eraseIdx u.toNat = (ts.eraseIdx u.toNat).map encT := erase_map encT ts _
      have g4 : (ts.eraseIdx u.toNat).length = ts.length - 1 := List.length_eraseIdx_of_lt (by omega)
      have ih := W_net (ns := ns) (high := high) (wide := wide) (n := n) fuel (ts.eraseIdx u.toNat) (tw1 ++ [.int 0]) (by omega) (by omega) (by simp; omega)
      have st : Wb__law_net_1 (stN ns high wide n tw1 ts) = some (.nx (stN ns high wide n (tw1 ++ [.int 0]) (ts.eraseIdx u.toNat))) := by
        unfold Wb__law_net_1 stN
        simp_arith [e2, g1, g2, g3]
      rw [st, ob_some]
      refine wp_mono ih ?_
      rintro o ⟨ts', tw', rfl, i1, i2, i3⟩
      exact ⟨ts', tw', rfl, i1.trans (List.eraseIdx_sublist ..), i2, by simp at i3; omega⟩
    by_cases c1 : (wide : Int) < ((ts.length : Nat) : Int)
    · have t : Wt__law_net_1 (stN ns high wide n tw ts) = some (true, stN ns high wide n tw ts) := by
        unfold Wt__law_net_1 stN
        simp_arith [c1]
      rw [t, ob_some, cnd_t]
      exact body tw (by omega) (by omega)
    · by_cases c0 : ts = []
      · subst c0
        have t : Wt__law_net_1 (stN ns high wide n tw []) = some (false, stN ns high wide n tw []) := by
          have c2 : decide ((wide : Int) < 0) = false := decide_eq_false (by omega)
          unfold Wt__law_net_1 stN
          simp_arith [c2]
        rw [t, ob_some, cnd_f]
        exact wp_ok ⟨[], tw, rfl, .slnil, by simp, by omega⟩
      · have ne : ts.isEmpty = false := by cases ts with
          | nil => exact absurd rfl c0
          | cons _ _ => rfl
        have lp : 0 < ts.length := List.length_pos_iff.mpr c0
        have t : Wt__law_net_1 (stN ns high wide n tw ts) = some (v == 0, stN ns high wide n (tw ++ [.int 0]) ts) := by
          unfold Wt__law_net_1 stN
          simp_arith [c1, ne, e1]
        cases hv : v == 0 <;> rw [hv] at t
        · rw [t, ob_some, cnd_f]
          exact wp_ok ⟨ts, tw ++ [.int 0], rfl, List.Sublist.refl _, by omega, by simp⟩
        · rw [t, ob_some, cnd_t]
          have b := body (tw ++ [PyData.int 0]) (by simp) lp
          exact b
end FB
namespace FB
open PySem L2 DL GT PG
theorem net_spec (ns : List Int) (town : List D) (high wide : Nat) (h1 : 1 ≤ high) (h2 : high ≤ 7) (h3 : wide ≤ 20) (hl : town.length < 700000) :
    ∃ (N : Net) (town' : List D), N.WF ∧ N.n ≤ high ∧ N.ties.length ≤ wide ∧ N.rim ≠ [] ∧ town'.length ≤ town.length + 150 ∧ g__law_net [SC ns, .int high, .int wide] town = some (encN N, town') := by
  have goal : wp (g__law_net [SC ns, .int high, .int wide] town) (fun q => ∃ N : Net, N.WF ∧ N.n ≤ high ∧ N.ties.length ≤ wide ∧ N.rim ≠ [] ∧ q.2.length ≤ town.length + 150 ∧ q.1 = encN N) := by
    obtain ⟨v, v0, v1, e1⟩ := draw_spec ns town high (by omega) (by omega)
    obtain ⟨n, rfl⟩ : ∃ n : Nat, v = n := ⟨v.toNat, by omega⟩
    have hn1 : ((1 : Int) + (n : Int)) = ((n + 1 : Nat) : Int) := by omega
    unfold g__law_net b__law_net N__law_net
    simp_arith [e1, hn1]
    refine wp_fill (B := Tie) (enc := PyData.int) (fun l => stN ns high wide (n + 1) (town ++ [.int 0]) l) (rowT (n + 1)) ?_ ?_
    · intro pre a post h
      have ma := mem_ir.mp (show a ∈ ir (n + 1) by rw [h]; simp)
      have pl : (pre.flatMap (rowT (n + 1))).length ≤ 49 := by
        have := allT_len (n := n + 1) (by omega)
        unfold allT at this
        rw [h, List.flatMap_append, List.length_append] at this
        omega
      have rl : (rowT (n + 1) a).length ≤ 7 := by unfold rowT; rw [List.length_map, rg_len]; omega
      have rl2 : (rg (a + 1) ((n + 1 : Nat) : Int)).length ≤ 7 := by rw [rg_len]; omega
      unfold F__law_net_1 stN
      simp_arith [rngL_rg]
      refine wp_cmap (fun b => encT (a, b)) (fun b _ => ?_) ?_
      · unfold Ce__law_net_1
        simp_arith [DL.p_nt]
        exact wp_ok rfl
      · simp_arith [DL.p_nt]
        refine wp_ok ?_
        show _ = _
        unfold rowT
        simp [List.map_map, Function.comp_def]
    · have al := allT_len (n := n + 1) (by omega)
      rw [show (ir (n + 1)).flatMap (rowT (n + 1)) = allT (n + 1) from rfl]
      simp_arith [DL.p_nt]
      have wl := W_net (ns := ns) (high := high) (wide := wide) (n := n + 1) 1000 (allT (n + 1)) (town ++ [PyData.int 0]) (by omega) (by omega) (by simp; omega)
      refine wp_bind wl ?_
      rintro _ ⟨ts, tw, rfl, s1, s2, s3⟩
      simp only [List.length_append, List.length_cons, List.length_nil] at s3
      have tl : ts.length ≤ 49 := Nat.le_trans s1.length_le al
      unfold stN
      simp_arith [DL.p_nt]
      refine wp_ctown (A := Int) (enc := PyData.int) (fun tw => [some (.d (SC ns)), some (.l true tw), some (.d (.int high)), some (.d (.int wide)), none, none, some (.d (.int ((n + 1 : Nat) : Int))), some (.l false (ts.map encT)), none, none]) 1 tw (fun a d => d = .int a) ?_ ?_
      · intro a _ tw1 hw
        rw [ir_len] at hw
        obtain ⟨u, u0, u1, e2⟩ := draw_spec ns tw1 3 (by omega) (by omega)
        unfold Ct__law_net_1 Ce__law_net_2
        simp_arith [e2]
        refine wp_cnd (fun _ => ?_) (fun _ => ?_)
        · exact wp_ok ⟨⟨tw1 ++ [.int 0], by simp, rfl⟩, fun d e => by cases e; rfl⟩
        · exact wp_ok ⟨⟨tw1 ++ [.int 0], by simp, rfl⟩, fun d e => by cases e⟩
      · intro bs tw1 b1 b2 hw
        rw [ir_len] at hw
        have e3 : bs.map (·.2) = (bs.map (·.1)).map PyData.int := by
          rw [List.map_map]
          exact List.map_congr_left fun b m => b2 b m
        rw [e3]
        generalize bs.map (·.1) = cs at b1
        have cl : cs.length ≤ n + 1 := by have := b1.length_le; rwa [ir_len] at this
        have fin : ∀ (rim : List Int) (tw2 : List D), rim ≠ [] → (∀ k ∈ rim, 0 ≤ k ∧ k < ((n + 1 : Nat) : Int)) → rim.Pairwise (· < ·) → tw2.length ≤ town.length + 150 →
            ∃ N : Net, N.WF ∧ N.n ≤ high ∧ N.ties.length ≤ wide ∧ N.rim ≠ [] ∧ tw2.length ≤ town.length + 150 ∧ PyData.tuple [.int ((n + 1 : Nat) : Int), .tuple (ts.map encT), .tuple (rim.map .int)] = encN N := fun rim tw2 r1 r2 r3 r4 =>
          ⟨⟨n + 1, ts, rim⟩, ⟨by simp, by simp; omega, fun t mt => by
            have := mem_allT.mp (s1.subset mt); exact this, (allT_up _).sublist s1, r2, r3⟩, by simp; omega, s2, r1, r4, rfl⟩
        cases cs with
        | nil =>
          obtain ⟨q, q0, q1, e4⟩ := draw_spec ns tw1 ((n + 1 : Nat) : Int) (by omega) (by omega)
          simp_arith [e4]
          exact wp_ok (fin [q] (tw1 ++ [PyData.int 0]) (by simp) (by simp; omega) (by simp) (by simp; omega))
        | cons c cs =>
          simp_arith [DL.p_nt]
          exact wp_ok (fin (c :: cs) tw1 (by simp) (fun k m => mem_ir.mp (b1.subset m)) ((ir_sorted _).sublist b1) (by omega))
  obtain ⟨⟨d, tw⟩, e, N, a1, a2, a3, a4, a5, rfl⟩ := goal
  exact ⟨N, tw, a1, a2, a3, a4, a5, e⟩
end FB
local macro_rules | `(tactic| simp_arith [$xs,*]) => `(tactic| simp only [FB.Sq__law_draw_1_a, FB.Sq__law_draw_2_a, FB.Sq__law_draw_3_a, FB.Sq__law_draw_4_a, FB.Sq__law_draw_5_a, FB.Sq__law_draw_6_a, FB.Sq__law_net_1_a, FB.Sq__law_net_2_a, FB.Sq__law_net_3_a, FB.Sq__law_net_4_a, Nat.reduceAdd, Nat.reduceSub, Nat.reduceMul, Int.reduceLT, Int.reduceLE, Int.reducePow, Int.reduceNeg, Int.reduceAdd, Int.reduceSub, Int.reduceMul, Int.reduceBEq, Int.reduceBNe, Int.reduceToNat, $xs,*])
namespace L_k37
open PySem L2 DL FB PG
def N__law_whole : List Str := ["_law_thing", "_law_low", "_law_high"]
def b__law_whole : SM :=
    (retM (andVM (unM (isiD .int) (varM 0)) (andVM (notVM (unM (isiD .bool) (varM 0))) (chM leB leB (varM 1) (varM 0) (varM 2)))))
def g__law_whole : List D → Option D := runF N__law_whole b__law_whole
def N__law_rises : List Str := ["_law_line", "_law_one"]
def Ce__law_rises_1 : EM :=
    (tupM (consM (varM 1) (consM (cM (PyData.int 0)) nilM)))
def b__law_rises : SM :=
    (retM (opM (bD eqB) (unM listD (varM 0)) (unM sortDictB (ofL (compM [1] (seqM (varM 0)) (nameG 1) yesM Ce__law_rises_1)))))
def g__law_rises : List D → Option D := runF N__law_rises b__law_rises
def N__law_is_net : List Str := ["_law_thing", "_law_tie", "_law_many", "_law_ties", "_law_rim", "_law_knot", "_law_one"]
def Ce__law_is_net_1 : EM :=
    (callM g__law_whole (consM (varM 6) (consM (cM (PyData.int 0)) (consM (opM subD (varM 2) (cM (PyData.int 1))) nilM))))
def Sq__law_is_net_1 : SM :=
    (ifM (tstM geB (opM ixD (varM 1) (cM (PyData.int 0))) (opM ixD (varM 1) (cM (PyData.int 1)))) (retM (cM (PyData.bool false))) skipM)
theorem Sq__law_is_net_1_a (rr : Rho) : Sq__law_is_net_1 rr = (ifM (tstM geB (opM ixD (varM 1) (cM (PyData.int 0))) (opM ixD (varM 1) (cM (PyData.int 1)))) (retM (cM (PyData.bool false))) skipM) rr := (rfl)
def F__law_is_net_1 : SM :=
    (wipM [1, 6] (seqS (ifM (orM (notM (truM (unM (isiD .tuple) (varM 1)))) (orM (tstM neB (unM lenD (varM 1)) (cM (PyData.int 2))) (notM (truM (unM allD (ofL (compM [6] (seqM (varM 1)) (nameG 6) yesM Ce__law_is_net_1))))))) (retM (cM (PyData.bool false))) skipM)
    Sq__law_is_net_1))
def Ce__law_is_net_2 : EM :=
    (callM g__law_whole (consM (varM 5) (consM (cM (PyData.int 0)) (consM (opM subD (varM 2) (cM (PyData.int 1))) nilM))))
def Sq__law_is_net_2 : SM :=
    (retM (andVM (unM allD (ofL (compM [5] (seqM (varM 4)) (nameG 5) yesM Ce__law_is_net_2))) (andVM (callM g__law_rises (consM (varM 4) nilM)) (callM g__law_rises (consM (varM 3) nilM)))))
theorem Sq__law_is_net_2_a (rr : Rho) : Sq__law_is_net_2 rr = (retM (andVM (unM allD (ofL (compM [5] (seqM (varM 4)) (nameG 5) yesM Ce__law_is_net_2))) (andVM (callM g__law_rises (consM (varM 4) nilM)) (callM g__law_rises (consM (varM 3) nilM))))) rr := (rfl)
def Sq__law_is_net_3 : SM :=
    (seqS (preM [1, 6] (forM (seqM (varM 3)) (nameG 1) F__law_is_net_1))
    Sq__law_is_net_2)
theorem Sq__law_is_net_3_a (rr : Rho) : Sq__law_is_net_3 rr = (seqS (preM [1, 6] (forM (seqM (varM 3)) (nameG 1) F__law_is_net_1))
    Sq__law_is_net_2) rr := (rfl)
def Sq__law_is_net_4 : SM :=
    (seqS (ifM (orM (notM (truM (unM (isiD .tuple) (varM 3)))) (orM (tstM gtD (unM lenD (varM 3)) (cM (PyData.int 9))) (orM (notM (truM (unM (isiD .tuple) (varM 4)))) (tstM eqB (varM 4) (tupM nilM))))) (retM (cM (PyData.bool false))) skipM)
    Sq__law_is_net_3)
theorem Sq__law_is_net_4_a (rr : Rho) : Sq__law_is_net_4 rr = (seqS (ifM (orM (notM (truM (unM (isiD .tuple) (varM 3)))) (orM (tstM gtD (unM lenD (varM 3)) (cM (PyData.int 9))) (orM (notM (truM (unM (isiD .tuple) (varM 4)))) (tstM eqB (varM 4) (tupM nilM))))) (retM (cM (PyData.bool false))) skipM)
    Sq__law_is_net_3) rr := (rfl)
def Sq__law_is_net_5 : SM :=
    (seqS (asgG (tupG 3 (consG (nameG 2) (consG (nameG 3) (consG (nameG 4) nilG)))) (varM 0))
    Sq__law_is_net_4)
theorem Sq__law_is_net_5_a (rr : Rho) : Sq__law_is_net_5 rr = (seqS (asgG (tupG 3 (consG (nameG 2) (consG (nameG 3) (consG (nameG 4) nilG)))) (varM 0))
    Sq__law_is_net_4) rr := (rfl)
def b__law_is_net : SM :=
    (seqS (ifM (orM (notM (truM (unM (isiD .tuple) (varM 0)))) (orM (tstM neB (unM lenD (varM 0)) (cM (PyData.int 3))) (notM (truM (callM g__law_whole (consM (opM ixD (varM 0) (cM (PyData.int 0))) (consM (cM (PyData.int 1)) (consM (cM (PyData.int 7)) nilM)))))))) (retM (cM (PyData.bool false))) skipM)
    Sq__law_is_net_5)
def g__law_is_net : List D → Option D := runF N__law_is_net b__law_is_net
def N__law_is_route : List Str := ["_law_net_here", "_law_thing", "_law_one", "_law_other", "_law_knot"]
def Ce__law_is_route_1 : EM :=
    (callM g__law_whole (consM (varM 2) (consM (cM (PyData.int 0)) (consM (opM subD (opM ixD (varM 0) (cM (PyData.int 0))) (cM (PyData.int 1))) nilM))))
def Ce__law_is_route_2 : EM :=
    (tupM (consM (varM 4) (consM (cM (PyData.int 0)) nilM)))
def Ce__law_is_route_3 : EM :=
    (opM (bD inB) (tupM (consM (opM min2D (varM 2) (varM 3)) (consM (opM max2D (varM 2) (varM 3)) nilM))) (opM ixD (varM 0) (cM (PyData.int 1))))
def Sq__law_is_route_1 : SM :=
    (retM (unM allD (ofL (compM [2, 3] (zipM (slM (varM 1) noM (someM (unM negD (cM (PyData.int 1))))) (slM (varM 1) (someM (cM (PyData.int 1))) noM)) (tupG 2 (consG (nameG 2) (consG (nameG 3) nilG))) yesM Ce__law_is_route_3))))
theorem Sq__law_is_route_1_a (rr : Rho) : Sq__law_is_route_1 rr = (retM (unM allD (ofL (compM [2, 3] (zipM (slM (varM 1) noM (someM (unM negD (cM (PyData.int 1))))) (slM (varM 1) (someM (cM (PyData.int 1))) noM)) (tupG 2 (consG (nameG 2) (consG (nameG 3) nilG))) yesM Ce__law_is_route_3)))) rr := (rfl)
def Sq__law_is_route_2 : SM :=
    (seqS (ifM (orM (tstM notInB (opM ixD (varM 1) (cM (PyData.int 0))) (opM ixD (varM 0) (cM (PyData.int 2)))) (tstM notInB (opM ixD (varM 1) (unM negD (cM (PyData.int 1)))) (opM ixD (varM 0) (cM (PyData.int 2))))) (retM (cM (PyData.bool false))) skipM)
    Sq__law_is_route_1)
theorem Sq__law_is_route_2_a (rr : Rho) : Sq__law_is_route_2 rr = (seqS (ifM (orM (tstM notInB (opM ixD (varM 1) (cM (PyData.int 0))) (opM ixD (varM 0) (cM (PyData.int 2)))) (tstM notInB (opM ixD (varM 1) (unM negD (cM (PyData.int 1)))) (opM ixD (varM 0) (cM (PyData.int 2))))) (retM (cM (PyData.bool false))) skipM)
    Sq__law_is_route_1) rr := (rfl)
def Sq__law_is_route_3 : SM :=
    (seqS (ifM (orM (tstM neB (unM lenDictD (ofL (compM [4] (seqM (varM 1)) (nameG 4) yesM Ce__law_is_route_2))) (unM lenD (varM 1))) (tstM geB (opM ixD (varM 1) (cM (PyData.int 0))) (opM ixD (varM 1) (unM negD (cM (PyData.int 1)))))) (retM (cM (PyData.bool false))) skipM)
    Sq__law_is_route_2)
theorem Sq__law_is_route_3_a (rr : Rho) : Sq__law_is_route_3 rr = (seqS (ifM (orM (tstM neB (unM lenDictD (ofL (compM [4] (seqM (varM 1)) (nameG 4) yesM Ce__law_is_route_2))) (unM lenD (varM 1))) (tstM geB (opM ixD (varM 1) (cM (PyData.int 0))) (opM ixD (varM 1) (unM negD (cM (PyData.int 1)))))) (retM (cM (PyData.bool false))) skipM)
    Sq__law_is_route_2) rr := (rfl)
def b__law_is_route : SM :=
    (seqS (ifM (orM (notM (truM (unM (isiD .tuple) (varM 1)))) (orM (tstM ltB (unM lenD (varM 1)) (cM (PyData.int 2))) (notM (truM (unM allD (ofL (compM [2] (seqM (varM 1)) (nameG 2) yesM Ce__law_is_route_1))))))) (retM (cM (PyData.bool false))) skipM)
    Sq__law_is_route_3)
def g__law_is_route : List D → Option D := runF N__law_is_route b__law_is_route
def N__law_bent : List Str := ["_law_thing", "_law_got", "_law_at", "_law_part", "_law_bad"]
def Ce__law_bent_1 : EM :=
    (opM addD (opM addD (slM (varM 0) noM (someM (varM 2))) (tupM (consM (varM 4) nilM))) (slM (varM 0) (someM (opM addD (varM 2) (cM (PyData.int 1)))) noM))
def F__law_bent_1 (hh : List D → Option D) : SM :=
    (wipM [2, 3, 4] (exprM (extM 1 (ofL (compM [4] (seqM (callM hh (consM (varM 3) nilM))) (nameG 4) yesM Ce__law_bent_1)))))
def Sq__law_bent_1 (hh : List D → Option D) : SM :=
    (seqS (preM [2, 3, 4] (forM (enumM (varM 0)) (tupG 2 (consG (nameG 2) (consG (nameG 3) nilG))) (F__law_bent_1 hh)))
    (frzM 1 (retM (varM 1))))
theorem Sq__law_bent_1_a (hh : List D → Option D) (rr : Rho) : Sq__law_bent_1 hh rr = (seqS (preM [2, 3, 4] (forM (enumM (varM 0)) (tupG 2 (consG (nameG 2) (consG (nameG 3) nilG))) (F__law_bent_1 hh)))
    (frzM 1 (retM (varM 1)))) rr := (rfl)
def Sq__law_bent_2 (hh : List D → Option D) : SM :=
    (seqS (newM 1 (lstM (consM (unM listD (varM 0)) (consM (unM revD (varM 0)) (consM (slM (varM 0) (someM (cM (PyData.int 1))) noM) (consM (opM addD (varM 0) (slM (varM 0) noM (someM (cM (PyData.int 1))))) (consM (opM repQD (slM (varM 0) noM (someM (cM (PyData.int 1)))) (cM (PyData.int 2))) (consM (tupM (consM (varM 0) nilM)) (consM (cM PyData.none) (consM (tupM nilM) (consM (opM addD (varM 0) (tupM (consM (cM PyData.none) nilM))) nilM)))))))))))
    (Sq__law_bent_1 hh))
theorem Sq__law_bent_2_a (hh : List D → Option D) (rr : Rho) : Sq__law_bent_2 hh rr = (seqS (newM 1 (lstM (consM (unM listD (varM 0)) (consM (unM revD (varM 0)) (consM (slM (varM 0) (someM (cM (PyData.int 1))) noM) (consM (opM addD (varM 0) (slM (varM 0) noM (someM (cM (PyData.int 1))))) (consM (opM repQD (slM (varM 0) noM (someM (cM (PyData.int 1)))) (cM (PyData.int 2))) (consM (tupM (consM (varM 0) nilM)) (consM (cM PyData.none) (consM (tupM nilM) (consM (opM addD (varM 0) (tupM (consM (cM PyData.none) nilM))) nilM)))))))))))
    (Sq__law_bent_1 hh)) rr := (rfl)
def b__law_bent (hh : List D → Option D) : SM :=
    (seqS (ifM (notM (truM (unM (isiD .tuple) (varM 0)))) (retM (ofL (lstM (consM (opM addD (varM 0) (cM (PyData.int 1))) (consM (opM subD (varM 0) (cM (PyData.int 1))) (consM (cM (PyData.bool true)) (consM (cM (PyData.bool false)) (consM (cM PyData.none) (consM (unM strD (varM 0)) (consM (tupM (consM (varM 0) nilM)) (consM (cM (PyData.int 8)) (consM (ofL (lstM (consM (varM 0) nilM))) nilM)))))))))))) skipM)
    (Sq__law_bent_2 hh))
def gr__law_bent : Nat → List D → Option D
  | 0 => fun _ => none
  | nn + 1 => runF N__law_bent (b__law_bent (gr__law_bent nn))
def g__law_bent : List D → Option D := gr__law_bent 40
def N_law : List Str := ["_law_script", "_law_town", "_law_k", "_law_net_here", "_law_bad", "_law_every", "_law_route", "_law_wide", "_law_one", "_law_many", "_law_other"]
def F_law_1 : SM :=
    (wipM [4] (ifM (tstM neB (callM g_is_net (consM (varM 4) nilM)) (callM g__law_is_net (consM (varM 4) nilM))) (retM (cM (PyData.bool false))) skipM))
def F_law_2 : SM :=
    (wipM [4] (ifM (tstM neB (callM g_is_route (consM (varM 3) (consM (varM 4) nilM))) (callM g__law_is_route (consM (varM 3) (consM (varM 4) nilM)))) (retM (cM (PyData.bool false))) skipM))
def F_law_3 : SM :=
    (wipM [4, 6] (preM [4] (forM (seqM (callM g__law_bent (consM (varM 6) nilM))) (nameG 4) F_law_2)))
def Ce_law_1 : EM :=
    (tupM (consM (varM 8) (consM (varM 10) nilM)))
def F_law_4 : SM :=
    (wipM [8, 10] (exprM (extM 7 (ofL (compM [10] (rng2M (opM addD (varM 8) (cM (PyData.int 1))) (cM (PyData.int 6))) (nameG 10) yesM Ce_law_1)))))
def F_law_5 : SM :=
    (wipM [9] (ifM (tstM neB (callM g_is_net (consM (tupM (consM (cM (PyData.int 6)) (consM (unM tupleD (slM (varM 7) noM (someM (varM 9)))) (consM (tupM (consM (cM (PyData.int 0)) nilM)) nilM)))) nilM)) (opM (bD ltB) (varM 9) (cM (PyData.int 10)))) (retM (cM (PyData.bool false))) skipM))
def Sq_law_1 : SM :=
    (ifM (orM (truM (callM g_is_net (consM (tupM (consM (cM (PyData.int 8)) (consM (tupM nilM) (consM (tupM (consM (cM (PyData.int 0)) nilM)) nilM)))) nilM))) (orM (truM (callM g_is_net (consM (tupM (consM (cM (PyData.int 0)) (consM (tupM nilM) (consM (tupM (consM (cM (PyData.int 0)) nilM)) nilM)))) nilM))) (notM (truM (callM g_is_net (consM (tupM (consM (cM (PyData.int 7)) (consM (tupM nilM) (consM (tupM (consM (cM (PyData.int 6)) nilM)) nilM)))) nilM)))))) (retM (cM (PyData.bool false))) skipM)
theorem Sq_law_1_a (rr : Rho) : Sq_law_1 rr = (ifM (orM (truM (callM g_is_net (consM (tupM (consM (cM (PyData.int 8)) (consM (tupM nilM) (consM (tupM (consM (cM (PyData.int 0)) nilM)) nilM)))) nilM))) (orM (truM (callM g_is_net (consM (tupM (consM (cM (PyData.int 0)) (consM (tupM nilM) (consM (tupM (consM (cM (PyData.int 0)) nilM)) nilM)))) nilM))) (notM (truM (callM g_is_net (consM (tupM (consM (cM (PyData.int 7)) (consM (tupM nilM) (consM (tupM (consM (cM (PyData.int 6)) nilM)) nilM)))) nilM)))))) (retM (cM (PyData.bool false))) skipM) rr := (rfl)
def Sq_law_2 : SM :=
    (seqS (frzM 7 (preM [9] (forM (seqM (tupM (consM (cM (PyData.int 8)) (consM (cM (PyData.int 9)) (consM (cM (PyData.int 10)) nilM))))) (nameG 9) F_law_5)))
    Sq_law_1)
theorem Sq_law_2_a (rr : Rho) : Sq_law_2 rr = (seqS (frzM 7 (preM [9] (forM (seqM (tupM (consM (cM (PyData.int 8)) (consM (cM (PyData.int 9)) (consM (cM (PyData.int 10)) nilM))))) (nameG 9) F_law_5)))
    Sq_law_1) rr := (rfl)
def Sq_law_3 : SM :=
    (seqS (preM [8, 10] (forM (rng1M (cM (PyData.int 6))) (nameG 8) F_law_4))
    Sq_law_2)
theorem Sq_law_3_a (rr : Rho) : Sq_law_3 rr = (seqS (preM [8, 10] (forM (rng1M (cM (PyData.int 6))) (nameG 8) F_law_4))
    Sq_law_2) rr := (rfl)
def Sq_law_4 : SM :=
    (seqS (preM [4, 6] (forM (seqM (opM addD (slM (varM 5) noM (someM (cM (PyData.int 3)))) (slM (varM 5) (someM (unM negD (cM (PyData.int 2)))) noM))) (nameG 6) F_law_3))
    (seqS (newM 7 (lstM nilM))
    Sq_law_3))
theorem Sq_law_4_a (rr : Rho) : Sq_law_4 rr = (seqS (preM [4, 6] (forM (seqM (opM addD (slM (varM 5) noM (someM (cM (PyData.int 3)))) (slM (varM 5) (someM (unM negD (cM (PyData.int 2)))) noM))) (nameG 6) F_law_3))
    (seqS (newM 7 (lstM nilM))
    Sq_law_3)) rr := (rfl)
def Sq_law_5 : SM :=
    (seqS (asgM 5 (callM g_routes (consM (varM 3) nilM)))
    Sq_law_4)
theorem Sq_law_5_a (rr : Rho) : Sq_law_5 rr = (seqS (asgM 5 (callM g_routes (consM (varM 3) nilM)))
    Sq_law_4) rr := (rfl)
def Sq_law_6 : SM :=
    (seqS (preM [4] (forM (seqM (callM g__law_bent (consM (varM 3) nilM))) (nameG 4) F_law_1))
    Sq_law_5)
theorem Sq_law_6_a (rr : Rho) : Sq_law_6 rr = (seqS (preM [4] (forM (seqM (callM g__law_bent (consM (varM 3) nilM))) (nameG 4) F_law_1))
    Sq_law_5) rr := (rfl)
def Sq_law_7 : SM :=
    (seqS (ifM (tstM isNotB (callM g_is_net (consM (varM 3) nilM)) (cM (PyData.bool true))) (retM (cM (PyData.bool false))) skipM)
    Sq_law_6)
theorem Sq_law_7_a (rr : Rho) : Sq_law_7 rr = (seqS (ifM (tstM isNotB (callM g_is_net (consM (varM 3) nilM)) (cM (PyData.bool true))) (retM (cM (PyData.bool false))) skipM)
    Sq_law_6) rr := (rfl)
def F_law_6 : SM :=
    (wipM [2, 3, 4, 5, 6, 7, 8, 9, 10] (seqS (asgM 3 (callRM 1 g__law_net (consM (varM 0) (hereM 1 (consM (cM (PyData.int 7)) (consM (cM (PyData.int 9)) nilM))))))
    Sq_law_7))
def Sq_law_8 : SM :=
    (seqS (preM [2, 3, 4, 5, 6, 7, 8, 9, 10] (forM (rng1M (cM (PyData.int 3))) (nameG 2) F_law_6))
    (retM (cM (PyData.bool true))))
theorem Sq_law_8_a (rr : Rho) : Sq_law_8 rr = (seqS (preM [2, 3, 4, 5, 6, 7, 8, 9, 10] (forM (rng1M (cM (PyData.int 3))) (nameG 2) F_law_6))
    (retM (cM (PyData.bool true)))) rr := (rfl)
def b_law : SM :=
    (seqS (newM 1 (lstM nilM))
    Sq_law_8)
def g_law : List D → Option D := runF N_law b_law
end L_k37
local macro_rules | `(tactic| simp_arith [$xs,*]) => `(tactic| simp (maxSteps := 2000000) (disch := omega) only [DL.ob_some, DL.om_some, DL.dat_d, DL.lis_l, DL.dic_m, DL.gt_0, DL.gt_1, DL.gt_2, DL.gt_3, DL.gt_4, DL.gt_5, DL.gt_6, DL.gt_7, DL.gt_b, DL.st_0, DL.st_s, DL.plG_d, DL.plG_n, DL.plainAt_a, DL.varM_a, DL.ownM_a, DL.cM_a, DL.ofL_a, DL.opM_a, DL.unM_a, DL.truM_a, DL.tstM_a, DL.notM_a, DL.cnd_t, DL.cnd_f, DL.andM_a, DL.orM_a, DL.andVM_a, DL.orVM_a, DL.notVM_a, DL.chM_a, DL.nilM_a, DL.consM_a, DL.guard_tt, DL.tupM_a, DL.lstM_a, DL.noM_a, DL.intV_i, DL.someM_a, DL.slM_a, DL.rng1M_a, DL.rng2M_a, DL.zipV_t, DL.zipV_l, DL.zipM_a, DL.seqM_a, DL.callM_a, DL.hereM_a, DL.callRM_a, DL.appM_a, DL.lisV_l, DL.extM_a, DL.popAtM_a, DL.newDM_a, DL.putM_a, DL.lenDM_a, DL.sortDM_a, DL.nameG_a, DL.nilG_a, DL.consG_a, DL.tupG_a, DL.seqS_a, DL.seqK_nx, DL.seqK_rt, DL.seqK_ct, DL.skipM_a, DL.asgM_a, DL.asgG_a, DL.newM_a, DL.asgLM_a, DL.retM_a, DL.exprM_a, DL.ifM_a, DL.forM_a, DL.frzM_a, DL.runF_a, DL.finF_rt, DL.finF_nx, DL.runR_a, DL.finR_rt, DL.finR_nx, DL.sz_0, DL.sz_1, DL.sz_2, DL.sz_3, DL.sz_4, DL.sz_5, DL.sz_6, DL.sz_7, DL.sz_8, DL.sz_9, DL.sz_10, DL.sz_11, DL.sz_12, DL.sz_13, DL.sz_14, DL.sz_15, DL.sz_16, DL.sz_17, DL.sz_18, DL.sz_19, DL.sz_20, DL.sz_21, DL.sz_22, DL.sz_23, DL.sz_24, DL.sz_25, DL.sz_26, DL.sz_27, DL.sz_28, DL.sz_29, DL.sz_30, DL.nc_0, DL.nc_1, DL.nc_2, DL.nc_3, DL.nc_4, DL.nc_5, DL.nc_6, DL.nc_7, DL.nc_8, DL.nc_9, DL.nc_10, DL.nc_11, DL.nc_12, DL.nc_13, DL.nc_14, DL.nc_15, DL.nc_16, DL.nc_17, DL.nc_18, DL.nc_19, DL.nc_20, DL.nc_21, DL.nc_22, DL.nc_23, DL.nc_24, DL.nc_25, DL.nc_26, DL.nc_27, DL.nc_28, DL.nc_29, DL.nc_30, DL.addD_i, DL.addD_t, DL.addD_l, DL.subD_i, DL.modD_i, DL.fdivD_i, DL.mulD_i, DL.lenD_t, DL.lenD_l, DL.tupleD_t, DL.tupleD_l, DL.listD_t, DL.listD_l, DL.truD_i, DL.truD_b, DL.truD_n, DL.truD_l, DL.truD_t, DL.ixD_t, DL.ixD_l, DL.negD_i, DL.bD_a, DL.ltB_i, DL.leB_i, DL.geB_i, DL.eqB_i, DL.neB_i, DL.min2D_i, DL.max2D_i, DL.items_t, DL.items_l, DL.isNN, DL.slD_t, DL.slD_l, DL.sortD2_l, DL.sortD2_t, DL.p_ge0, DL.p_geS, DL.p_tk0, DL.p_tkS, DL.p_tkN, DL.p_dr0, DL.p_drS, DL.p_drN, DL.p_mpC, DL.p_mpN, DL.p_apC, DL.p_apN, DL.p_lnC, DL.p_lnN, DL.p_rpS, DL.p_rp0, DL.p_alC, DL.p_alN, DL.p_gdS, DL.p_gdN, DL.p_tlS, DL.p_tlN, DL.p_ieC, DL.p_ieN, DL.p_nt, DL.p_nf, DL.p_atb, DL.p_afb, DL.p_abt, DL.p_abf, DL.p_eqS, DL.p_dT, DL.p_dF, DL.p_TA, DL.p_AT, DL.p_TO, DL.p_OT, DL.p_startD, DL.p_startR, DL.forK_nx, DL.forK_ct, DL.forK_rt, DL.yesM_a, DL.it1_a, DL.compM_a, DL.wipeR_c, DL.wipeR_n, DL.restR_c, DL.restR_n, DL.gtD_i, DL.gtD_T, DL.ob_assoc, DL.om_bind, DL.ob_map, DL.om_map, DL.cnd_bind, DL.cnd_map, DL.guard_bind, DL.guard_map, DL.atI_c0, DL.atI_c1, DL.atI_c2, DL.atI_c3, DL.encN_0, DL.encN_1, DL.encN_2, DL.encN_u, DL.revD_t, DL.revD_l, DL.eq_TI, DL.ne_TI, DL.in_I, DL.in_Il, DL.in_T, DL.in_R, DL.notInB_a, DL.enumM_a, DL.seqK_ex, DL.finF_ex, DL.forK_ex, DL.tri_no, DL.trm_no, DL.atI_neg1, DL.wipO_nx, DL.wipO_ct, DL.wipO_bk, DL.wipO_rt, DL.wipO_ex, DL.wipM_a, DL.preM_a, DL.two_a, DL.parLM_a, DL.finR_ex, DL.len_map, DL.len_app, DL.len_ir, DL.len_rev, DL.sz_c, DL.rng_c, DL.rngL_n, DL.forM_a', DL.rev_map, DL.seqK_bk, DL.forK_bk, DL.enum_m, DL.emp_map, DL.eq_LI, DL.ne_LI, DL.eq_LI0, DL.ne_LI0, DL.eq_LT, DL.ne_LT, DL.eq_LR, DL.ne_LR, DL.eq_TR, DL.ne_TR, DL.eq_B, DL.ne_B, DL.wp_mapE, DL.sortDict_map, DL.lenDict_map, DL.map_id_int, DL.cut_f, DL.cut_t, DL.cut_f1, DL.map_drop', DL.map_take', DL.map_app', DL.len_zip, DL.dkOf_i, DL.keyOf_i, DL.whileK_nx, PG.allD_map', PG.enum_ir, PG.eq_BB, PG.ne_BB, PG.allT_t, DL.isN_i, DL.isNotN_i, DL.isNotN_n, DL.rngL_g1, PG.rep_one, PG.rep_bool, DL.eq_NN, DL.ne_NN, DL.eq_TT, DL.ne_TT, DL.eq_TT0, DL.ne_TI0, DL.eq_TI0, FB.Sq__law_draw_1_a, FB.Sq__law_draw_2_a, FB.Sq__law_draw_3_a, FB.Sq__law_draw_4_a, FB.Sq__law_draw_5_a, FB.Sq__law_draw_6_a, FB.Sq__law_net_1_a, FB.Sq__law_net_2_a, FB.Sq__law_net_3_a, FB.Sq__law_net_4_a, L_k37.Sq__law_is_net_1_a, L_k37.Sq__law_is_net_2_a, L_k37.Sq__law_is_net_3_a, L_k37.Sq__law_is_net_4_a, L_k37.Sq__law_is_net_5_a, L_k37.Sq__law_is_route_1_a, L_k37.Sq__law_is_route_2_a, L_k37.Sq__law_is_route_3_a, L_k37.Sq__law_bent_1_a, L_k37.Sq__law_bent_2_a, L_k37.Sq_law_1_a, L_k37.Sq_law_2_a, L_k37.Sq_law_3_a, L_k37.Sq_law_4_a, L_k37.Sq_law_5_a, L_k37.Sq_law_6_a, L_k37.Sq_law_7_a, L_k37.Sq_law_8_a, Nat.reduceAdd, Nat.reduceSub, Nat.reduceMul, Int.reduceLT, Int.reduceLE, Int.reducePow, Int.reduceNeg, Int.reduceAdd, Int.reduceSub, Int.reduceMul, Int.reduceBEq, Int.reduceBNe, Int.reduceToNat, $xs,*])
namespace L_k37
open PySem L2 DL GT PG FB RX
theorem lwhole_eval (d : D) (lo hi : Int) : g__law_whole [d, .int lo, .int hi] = some (.bool (wholeD d lo hi)) := by
  unfold g__law_whole b__law_whole N__law_whole
  cases d with
  | int i =>
    simp_arith [isi_int, isi_bool]
    by_cases h : lo ≤ i
    · simp_arith [h, wholeD]
    · simp_arith [h, wholeD]
  | _ => simp_arith [isi_int, isi_bool, wholeD]
/-- a comprehension over data -/
theorem wp_cmapD {β : Type} {g : GM} {el : EM} {is : List Nat} {as : List D} {r : Rho} {K : List D × Rho → Option β} {Q : β → Prop} (e : D → D) (step : ∀ a ∈ as, wp (it1 g yesM el is r a) (· = (some (e a), r))) (k : wp (K (as.map e, r)) Q) : wp ((compL g yesM el is as r).bind K) Q := by
  have := wp_cmap (enc := id) e step k
  rwa [List.map_id] at this
theorem wp_allD {β : Type} {g : GM} {f : SM} {as : List D} {r : Rho} {K : Out → Option β} {Q : β → Prop} (step : ∀ a ∈ as, wp ((g r a).bind f) (goesOn (· = r))) (k : wp (K (.nx r)) Q) : wp ((forL g f as r).bind K) Q := by
  have := wp_all (enc := id) step k
  rwa [List.map_id] at this
theorem wp_findD {β : Type} {g : GM} {f : SM} {as : List D} {r : Rho} {K : Out → Option β} {Q : β → Prop} (p : D → Bool) (v : D → D)
    (step : ∀ a ∈ as, wp ((g r a).bind f) (fun o => if p a = true then ∃ r', o = .rt (v a) r' else goesOn (· = r) o)) (k1 : ∀ a r', as.find? p = some a → wp (K (.rt (v a) r')) Q) (k2 : as.find? p = none → wp (K (.nx r)) Q) : wp ((forL g f as r).bind K) Q := by
  have := wp_find (enc := id) p v step k1 k2
  rwa [List.map_id] at this
/-! what rises -/
theorem upB_up {α : Type} {lt : α → α → Bool} (tr : ∀ a b c, lt a b = true → lt b c = true → lt a c = true) : ∀ {xs : List α}, upB lt xs = true → xs.Pairwise fun a b => lt a b = true
  | [], _ => .nil
  | [_], _ => List.pairwise_singleton _ _
  | x :: y :: r, h => by
    simp only [upB, Bool.and_eq_true] at h
    have ih := upB_up tr h.2
    refine List.pairwise_cons.mpr ⟨fun z mz => ?_, ih⟩
    rcases List.mem_cons.mp mz with rfl | mz
    · exact h.1
    · exact tr _ _ _ h.1 ((List.pairwise_cons.mp ih).1 z mz)
theorem ltD_I (a b : Int) : ltD (.int a) (.int b) = decide (a < b) := rfl
theorem upB_map {α β : Type} (f : α → β) (lt : β → β → Bool) : ∀ xs : List α, upB lt (xs.map f) = upB (fun a b => lt (f a) (f b)) xs
  | [] => rfl
  | [_] => rfl
  | x :: y :: r => by
    have := upB_map f lt (y :: r)
    simp only [List.map_cons, upB] at this ⊢
    rw [this]
theorem upB_I_iff {ks : List Int} : upB ltD (ks.map .int) = true ↔ ks.Pairwise (· < ·) := by
  constructor
  · intro h
    rw [upB_map] at h
    exact (upB_up (fun a b c h1 h2 => by simp only [ltD_I, decide_eq_true_eq] at *; omega) h).imp fun h => by simpa [ltD_I] using h
  · exact upB_I
theorem upB_T_iff {m : Int} {ts : List Tie} (h : ∀ t ∈ ts, tieD m (encT t) = true) : upB ltD (ts.map encT) = true ↔ ts.Pairwise tlt := by
  have lt : ∀ a b : Tie, ltD (encT a) (encT b) = true ↔ tlt a b := fun a b => by
    constructor
    · intro q
      refine Classical.byContradiction fun no => ?_
      have tot : a = b ∨ tlt b a := by
        unfold tlt at no ⊢
        by_cases e : a = b
        · exact .inl e
        · refine .inr ?_
          have : ¬ (a.1 = b.1 ∧ a.2 = b.2) := fun ⟨h1, h2⟩ => e (Prod.ext h1 h2)
          omega
      have e : ltD (encT a) (encT b) = HT.lexLt [a.1, a.2] [b.1, b.2] := rfl
      rw [e] at q
      unfold tlt at no
      unfold tlt at tot
      have ne : ¬ (a.1 < b.1 ∨ (a.1 = b.1 ∧ a.2 < b.2)) := no
      simp only [HT.lexLt] at q
      split at q
      · rename_i h1
        split at q
        · cases q
        · have := of_decide_eq_true q
          omega
      · have := of_decide_eq_true q
        omega
    · intro q
      have := upB_T (ts := [a, b]) (by simpa using q)
      simpa [upB] using this
  constructor
  · intro q
    rw [upB_map] at q
    exact (upB_up (fun a b c h1 h2 => by rw [lt] at *; exact tlt_tr a b c h1 h2) q).imp fun h => (lt _ _).mp h
  · exact upB_T
theorem rises_I {ks : List Int} (long : ks.length ≤ 1000) (few : (dedup ks).length < 64) : g__law_rises [TI ks] = some (.bool (upB ltD (ks.map .int))) := by
  have d1 : decide ((dedup ks).length < 64) = true := decide_eq_true few
  refine wp_val ?_
  unfold g__law_rises b__law_rises N__law_rises
  simp_arith [DL.p_nt]
  refine wp_cmap (fun k => .tuple [.int k, .int 0]) (fun k _ => ?_) ?_
  · unfold Ce__law_rises_1
    simp_arith [DL.p_nt]
    exact wp_ok rfl
  simp_arith [d1]
  refine wp_ok ?_
  congr 1
  rw [Bool.eq_iff_iff, decide_eq_true_eq, sort_dedup_iff, upB_I_iff]
theorem rises_T {m : Int} {ts : List Tie} (h : ∀ t ∈ ts, tieD m (encT t) = true) (few : ts.length < 60) : g__law_rises [.tuple (ts.map encT)] = some (.bool (upB ltD (ts.map encT))) := by
  have sd := sortDictB_T (ts := ts) (by omega)
  refine wp_val ?_
  unfold g__law_rises b__law_rises N__law_rises
  simp_arith [DL.p_nt]
  refine wp_cmap (fun t => .tuple [encT t, .int 0]) (fun k _ => ?_) ?_
  · unfold Ce__law_rises_1
    simp_arith [DL.p_nt]
    exact wp_ok rfl
  simp_arith [sd]
  refine wp_ok ?_
  congr 1
  rw [Bool.eq_iff_iff, decide_eq_true_eq, upB_T_iff h]
  constructor
  · intro e
    rw [e]
    exact up_canonP ts
  · intro u
    exact (canon_ties u fun x => Iff.rfl).symm
theorem ints_all {a b : Int} : ∀ {xs : List D}, xs.all (wholeD · a b) = true → ∃ ks : List Int, xs = ks.map .int
  | [], _ => ⟨[], rfl⟩
  | d :: xs, h => by
    rw [List.all_cons, Bool.and_eq_true] at h
    obtain ⟨ks, e⟩ := ints_all h.2
    obtain ⟨i, rfl⟩ : ∃ i, d = .int i := by
      have h1 := h.1
      unfold wholeD at h1
      split at h1
      · exact ⟨_, rfl⟩
      · cases h1
    exact ⟨i :: ks, by rw [e]; rfl⟩
theorem ties_all {m : Int} : ∀ {xs : List D}, xs.all (tieD m) = true → ∃ ts : List Tie, xs = ts.map encT
  | [], _ => ⟨[], rfl⟩
  | d :: xs, h => by
    rw [List.all_cons, Bool.and_eq_true] at h
    obtain ⟨ts, e⟩ := ties_all h.2
    obtain ⟨x, y, rfl⟩ : ∃ x y, d = .tuple [.int x, .int y] := by
      have h1 := h.1
      unfold tieD at h1
      split at h1
      · exact ⟨_, _, rfl⟩
      · cases h1
    exact ⟨(x, y) :: ts, by rw [e]; rfl⟩
/-- one tie looked at -/
theorem tie_turn {x0 x3 x4 : Option SV} {m : Int} (t : D) (ln : ∀ xs, t = .tuple xs → xs.length ≤ 1000) : wp ((nameG 1 [x0, none, some (.d (.int m)), x3, x4, none, none] t).bind F__law_is_net_1)
    (fun o => if (!tieD m t) = true then ∃ r', o = .rt (.bool false) r' else goesOn (· = [x0, none, some (.d (.int m)), x3, x4, none, none]) o) := by
  unfold F__law_is_net_1
  cases t with
  | tuple xs =>
    have hl := ln xs rfl
    by_cases h2 : xs.length = 2
    · obtain ⟨a, b, rfl⟩ := len2 h2
      have n2 : (((0 + 1 + 1 : Nat) : Int) == 2) = true := by simp
      simp_arith [isi_tuple]
      refine wp_cmapD (fun x => .bool (wholeD x 0 (m - 1))) (fun x _ => ?_) ?_
      · unfold Ce__law_is_net_1
        simp_arith [lwhole_eval]
        exact wp_ok rfl
      · have al : ∀ p q : Bool, allD (.list [.bool p, .bool q]) = some (.bool (p && q)) := fun p q => (allD_b [p, q]).trans (by simp)
        have no : (wholeD a 0 (m - 1) && wholeD b 0 (m - 1)) = false → tieD m (.tuple [a, b]) = false := fun h => by
          unfold tieD
          split
          · rename_i x y e
            cases e
            have h : ((decide (0 ≤ x) && decide (x ≤ m - 1)) && (decide (0 ≤ y) && decide (y ≤ m - 1))) = false := h
            rw [← Bool.and_assoc, h]; rfl
          · rfl
        cases wab : (wholeD a 0 (m - 1) && wholeD b 0 (m - 1)) with
        | false =>
          rw [no wab]
          simp_arith [al, wab]
          exact wp_ok (by simp)
        | true =>
          have wab2 := wab
          rw [Bool.and_eq_true] at wab2
          obtain ⟨ks, e⟩ := ints_all (xs := [a, b]) (a := 0) (b := m - 1) (by simp [wab2.1, wab2.2])
          match ks, e with
          | [x, y], e =>
            cases e
            have tf : tieD m (.tuple [.int x, .int y]) = decide (x < y) := by
              have h1 : (decide (0 ≤ x) && decide (x ≤ m - 1)) = true := wab2.1
              have h2 : (decide (0 ≤ y) && decide (y ≤ m - 1)) = true := wab2.2
              simp only [tieD]
              rw [h1, h2]; rfl
            rw [tf]
            by_cases lt : x < y
            · have : decide (y ≤ x) = false := decide_eq_false (by omega)
              simp_arith [al, wab, this]
              exact wp_ok (by simp [goesOn, lt])
            · have : decide (y ≤ x) = true := decide_eq_true (by omega)
              simp_arith [al, wab, this]
              exact wp_ok (by simp [lt])
    · have tf : tieD m (.tuple xs) = false := by
        unfold tieD
        split
        · rename_i e; cases e; simp at h2
        · rfl
      have n2 : ((xs.length : Int) == 2) = false := by
        rw [beq_eq_false_iff_ne]; omega
      rw [tf]
      simp_arith [isi_tuple, n2]
      exact wp_ok (by simp)
  | _ =>
    simp_arith [isi_tuple]
    exact wp_ok (by simp [tieD])
theorem find_none_all {α : Type} {p : α → Bool} {xs : List α} (h : xs.find? (fun x => !p x) = none) : xs.all p = true := by
  rw [List.find?_eq_none] at h
  rw [List.all_eq_true]
  exact fun x m => by simpa using h x m
theorem find_some_all {α : Type} {p : α → Bool} {xs : List α} {a : α} (h : xs.find? (fun x => !p x) = some a) : xs.all p = false := by
  rw [Bool.eq_false_iff]
  intro q
  have m := List.mem_of_find?_eq_some h
  have := List.find?_some h
  rw [List.all_eq_true.mp q a m] at this
  cases this
theorem lnet_eval (d : D) (hn : nice 20 d = true) : g__law_is_net [d] = some (.bool (netD d)) := by
  refine wp_val ?_
  unfold g__law_is_net b__law_is_net N__law_is_net
  cases d with
  | tuple ds =>
    by_cases hl : ds.length = 3
    · obtain ⟨a, b, c, rfl⟩ := len3 hl
      obtain ⟨_, j, ej, hsub⟩ := nice_tup hn
      cases hw : wholeD a 1 7 with
      | false =>
        have nf : netD (.tuple [a, b, c]) = false := by
          unfold netD
          split
          · rename_i m ts rim e
            cases e
            have : (decide (1 ≤ m) && decide (m ≤ 7)) = false := hw
            rw [this]; rfl
          · rfl
        simp_arith [isi_tuple, lwhole_eval, hw]
        exact wp_ok (by rw [nf])
      | true =>
        obtain ⟨m, rfl⟩ : ∃ m, a = .int m := by
          unfold wholeD at hw; split at hw
          · exact ⟨_, rfl⟩
          · cases hw
        have hw' : (decide (1 ≤ m) && decide (m ≤ 7)) = true := hw
        simp_arith [-L_k37.Sq__law_is_net_4_a, isi_tuple, lwhole_eval, hw]
        cases b with
        | tuple ts =>
          have hts := hsub (.tuple ts) (by simp)
          by_cases h9 : ts.length ≤ 9
          · have h9' : decide ((9 : Int) < (ts.length : Nat)) = false := decide_eq_false (by omega)
            cases c with
            | tuple rim =>
              have hr := hsub (.tuple rim) (by simp)
              have hsh := nice_shaped hr (by omega)
              have hlen := (nice_tup hr).1
              cases he : rim.isEmpty with
              | true =>
                have nf : netD (.tuple [.int m, .tuple ts, .tuple rim]) = false := by
                  simp only [netD]; rw [he]; simp
                simp_arith [isi_tuple, h9', eqB_nil hsh, he]
                exact wp_ok (by rw [nf])
              | false =>
                simp_arith [-L_k37.Sq__law_is_net_2_a, isi_tuple, h9', eqB_nil hsh, he]
                refine wp_findD (fun t => !tieD m t) (fun _ => .bool false) (fun t mt => tie_turn t fun xs e => ?_) (fun t r' ft => ?_) (fun fn => ?_)
                · obtain ⟨_, j2, _, h2⟩ := nice_tup hts
                  have := h2 t mt
                  rw [e] at this
                  exact (nice_tup this).1
                · have nf : netD (.tuple [.int m, .tuple ts, .tuple rim]) = false := by
                    simp only [netD]; rw [find_some_all ft]; simp
                  simp_arith [DL.p_nt]
                  exact wp_ok (by rw [nf])
                · have ta := find_none_all fn
                  obtain ⟨us, rfl⟩ := ties_all ta
                  simp_arith [DL.p_nt]
                  refine wp_cmapD (fun x => .bool (wholeD x 0 (m - 1))) (fun x _ => ?_) ?_
                  · unfold Ce__law_is_net_2
                    simp_arith [lwhole_eval]
                    exact wp_ok rfl
                  · have al := allD_map (fun x => wholeD x 0 (m - 1)) rim
                    have nd : netD (.tuple [.int m, .tuple (us.map encT), .tuple rim]) = (rim.all (wholeD · 0 (m - 1)) && (upB ltD (us.map encT) && upB ltD rim)) := by
                      simp only [netD]
                      rw [hw', ta, he, decide_eq_true h9]
                      simp
                    cases wr : rim.all (wholeD · 0 (m - 1)) with
                    | false =>
                      rw [wr] at nd al
                      simp_arith [al]
                      exact wp_ok (by rw [nd]; rfl)
                    | true =>
                      rw [wr] at nd al
                      obtain ⟨ks, rfl⟩ := ints_all wr
                      have tm : ∀ t ∈ us, tieD m (encT t) = true := fun t mt => List.all_eq_true.mp ta _ (List.mem_map.mpr ⟨t, mt, rfl⟩)
                      have m7 : m ≤ 7 := by
                        rw [Bool.and_eq_true, decide_eq_true_eq, decide_eq_true_eq] at hw'
                        exact hw'.2
                      have few : (dedup ks).length ≤ (ir 7).length := nodup_len_le _ _ (dedup_nodup ks) fun k mk => by
                        have := List.all_eq_true.mp wr (.int k) (List.mem_map.mpr ⟨k, mem_dedup.mp mk, rfl⟩)
                        have : (decide (0 ≤ k) && decide (k ≤ m - 1)) = true := this
                        rw [Bool.and_eq_true, decide_eq_true_eq, decide_eq_true_eq] at this
                        exact mem_ir.mpr (by omega)
                      rw [ir_len] at few
                      have r1 := rises_I (ks := ks) (by rw [List.length_map] at hlen; omega) (by omega)
                      have r2 := rises_T tm (by rw [List.length_map] at h9; omega)
                      rw [Bool.true_and] at nd
                      cases u1 : upB ltD (ks.map PyData.int) with
                      | false =>
                        rw [u1] at r1 nd
                        simp_arith [al, r1]
                        exact wp_ok (by rw [nd]; simp)
                      | true =>
                        rw [u1] at r1 nd
                        simp_arith [al, r1, r2]
                        exact wp_ok (by rw [nd]; simp)
            | _ =>
              have nf : ∀ c : D, (∀ xs, c ≠ .tuple xs) → netD (.tuple [.int m, .tuple ts, c]) = false := fun c h => netD_no fun m ts rim e => by
                cases e; exact h _ rfl
              simp_arith [isi_tuple, h9']
              exact wp_ok (by rw [nf _ (by intro xs e; cases e)])
          · have h9' : decide ((9 : Int) < (ts.length : Nat)) = true := decide_eq_true (by omega)
            have nf : netD (.tuple [.int m, .tuple ts, c]) = false := by
              unfold netD
              split
              · rename_i e
                cases e
                rw [decide_eq_false h9]; simp
              · rfl
            simp_arith [isi_tuple, h9']
            exact wp_ok (by rw [nf])
        | _ =>
          have nf : ∀ b : D, (∀ xs, b ≠ .tuple xs) → netD (.tuple [.int m, b, c]) = false := fun b h => netD_no fun m ts rim e => by
            cases e; exact h _ rfl
          simp_arith [isi_tuple]
          exact wp_ok (by rw [nf _ (by intro xs e; cases e)])
    · have n3 : ((ds.length : Int) == 3) = false := by rw [beq_eq_false_iff_ne]; omega
      have nf : netD (.tuple ds) = false := netD_no fun m ts rim e => by
        cases e; simp at hl
      simp_arith [isi_tuple, n3]
      exact wp_ok (by rw [nf])
  | _ =>
    simp_arith [isi_tuple]
    exact wp_ok rfl
/-- is_route by hand -/
theorem lroute_eval {N : Net} (w : N.WF) (d : D) (hs : short1 d) : g__law_is_route [encN N, d] = some (.bool (routeD N d)) := by
  refine wp_val ?_
  unfold g__law_is_route b__law_is_route N__law_is_route
  cases d with
  | tuple xs =>
    have hl := hs xs rfl
    by_cases h2 : xs.length < 2
    · have d2 : decide ((xs.length : Int) < 2) = true := decide_eq_true (by omega)
      have nf : routeD N (.tuple xs) = false := by
        unfold routeD
        split
        · rename_i r e
          have := intsT_some e
          cases this
          rw [List.length_map] at h2
          simp [isRouteB]
          omega
        · rfl
      simp_arith [isi_tuple, d2]
      exact wp_ok (by rw [nf])
    · have d2 : decide ((xs.length : Int) < 2) = false := decide_eq_false (by omega)
      simp_arith [-L_k37.Sq__law_is_route_3_a, isi_tuple, d2]
      refine wp_cmapD (fun x => .bool (wholeD x 0 ((N.n : Int) - 1))) (fun x _ => ?_) ?_
      · unfold Ce__law_is_route_1
        simp_arith [lwhole_eval]
        exact wp_ok rfl
      have al := allD_map (fun x => wholeD x 0 ((N.n : Int) - 1)) xs
      cases wr : xs.all (wholeD · 0 ((N.n : Int) - 1)) with
      | false =>
        rw [wr] at al
        have nf : routeD N (.tuple xs) = false := by
          unfold routeD
          split
          · rename_i r e
            have := intsT_some e
            cases this
            unfold isRouteB
            have : (r.all fun x => decide (0 ≤ x ∧ x < (N.n : Int))) = false := by
              rw [← wr, List.all_map]
              have e : (fun x => decide (0 ≤ x ∧ x < (N.n : Int))) = (fun x => wholeD x 0 ((N.n : Int) - 1)) ∘ PyData.int := funext fun x => by
                simp only [Function.comp_apply, wholeD]
                rw [Bool.eq_iff_iff]
                simp
                omega
              rw [e]
            rw [this]
            simp
          · rfl
        simp_arith [al]
        exact wp_ok (by rw [nf])
      | true =>
        rw [wr] at al
        obtain ⟨r, rfl⟩ := ints_all wr
        rw [List.length_map] at hl h2
        have inn : ∀ x ∈ r, 0 ≤ x ∧ x < (N.n : Int) := fun x mx => by
          have := List.all_eq_true.mp wr (.int x) (List.mem_map.mpr ⟨x, mx, rfl⟩)
          have : (decide (0 ≤ x) && decide (x ≤ (N.n : Int) - 1)) = true := this
          rw [Bool.and_eq_true, decide_eq_true_eq, decide_eq_true_eq] at this
          omega
        rw [show (PyData.tuple (r.map .int)) = TI r from rfl, routeD_TI]
        obtain ⟨c, l, ec⟩ : ∃ c l, r = c :: l := by
          cases r with
          | nil => simp at h2
          | cons c l => exact ⟨c, l, rfl⟩
        obtain ⟨dd, ed⟩ : ∃ dd, r.getLast? = some dd := by
          cases e : r.getLast? with
          | none => rw [List.getLast?_eq_none_iff] at e; rw [e] at h2; simp at h2
          | some x => exact ⟨x, rfl⟩
        have i0 : ixD (TI r) (.int 0) = some (.int c) := by rw [ec]; simp_arith [DL.p_nt]
        have i1 : ixD (TI r) (.int (-1)) = some (.int dd) := by
          simp_arith [DL.p_nt]
          rw [List.getLast?_map, ed]; rfl
        have hd : r.head? = some c := by rw [ec]; rfl
        have ib : isRouteB N r = (decide (r.Nodup) && (decide (c < dd) && (decide (c ∈ N.rim) && (decide (dd ∈ N.rim) && linked N r)))) := by
          rw [Bool.eq_iff_iff, isRouteB_iff w]
          simp only [Bool.and_eq_true, decide_eq_true_eq]
          constructor
          · intro q
            obtain ⟨a, b, h1, h2, h3, h4, h5⟩ := q.ends
            rw [hd] at h1; rw [ed] at h2
            cases h1; cases h2
            exact ⟨q.nd, h5, h3, h4, q.lk⟩
          · rintro ⟨h1, h3, h4, h5, h6⟩
            exact ⟨by omega, h1, h6, c, dd, hd, ed, h4, h5, h3⟩
        rw [ib]
        simp_arith [-L_k37.Sq__law_is_route_2_a, al]
        refine wp_cmap (fun k => .tuple [.int k, .int 0]) (fun k _ => ?_) ?_
        · unfold Ce__law_is_route_2
          simp_arith [DL.p_nt]
          exact wp_ok rfl
        have zz : (r.dropLast.zip r.tail).length ≤ 1000 := by simp; omega
        by_cases nd : r.Nodup
        · have e1 : (((dedup r).length : Int) == (r.length : Int)) = true := by rw [dedup_of_nodup nd]; simp
          by_cases lt : c < dd
          · have g1 : geB (.int c) (.int dd) = some false := by rw [geB_i, decide_eq_false (by omega)]
            by_cases m1 : c ∈ N.rim
            · by_cases m2 : dd ∈ N.rim
              · simp_arith [-DL.ixD_t, -L_k37.Sq__law_is_route_1_a, e1, i0, i1, g1, decide_eq_true m1, decide_eq_true m2]
                simp_arith [cut_init, cut_tail, md, mt', zipL_enc]
                refine wp_cmap (fun p : Int × Int => .bool (adj N p.1 p.2)) (fun p _ => ?_) ?_
                · unfold Ce__law_is_route_3 pairD
                  simp_arith [DL.p_nt]
                  exact wp_ok rfl
                · have al2 := allD_map (fun p : Int × Int => adj N p.1 p.2) (r.dropLast.zip r.tail)
                  simp_arith [al2, linked_all]
                  exact wp_ok (by simp [nd, lt])
              · simp_arith [-DL.ixD_t, e1, i0, i1, g1, decide_eq_true m1, decide_eq_false m2]
                exact wp_ok (by simp)
            · simp_arith [-DL.ixD_t, e1, i0, i1, g1, decide_eq_false m1]
              exact wp_ok (by simp)
          · have g1 : geB (.int c) (.int dd) = some true := by rw [geB_i, decide_eq_true (by omega)]
            simp_arith [-DL.ixD_t, e1, i0, i1, g1]
            exact wp_ok (by simp [lt])
        · have e1 : (((dedup r).length : Int) == (r.length : Int)) = false := by
            rw [beq_eq_false_iff_ne]
            intro e
            exact nd (dedup_eq.mp (by omega))
          simp_arith [e1]
          exact wp_ok (by simp [nd])
  | _ =>
    simp_arith [isi_tuple]
    exact wp_ok rfl
end L_k37
namespace L_k37
open PySem L2 DL GT PG FB RX
/-- small numbers, and tuples of such -/
def small : Nat → D → Bool
  | _, .int i => decide (0 ≤ i ∧ i ≤ 7)
  | k + 1, .tuple xs => decide (xs.length ≤ 9) && xs.all (small k)
  | _, _ => false
theorem nice_mono : ∀ (k : Nat) (d : D), nice k d = true → nice (k + 1) d = true
  | _, .none, _ => by simp [nice]
  | _, .bool _, _ => by simp [nice]
  | _, .int _, _ => by simp [nice]
  | 0, .str _, h => by simpa [nice] using h
  | k + 1, .str _, h => by simpa [nice] using h
  | k + 1, .tuple xs, h => by
    simp only [nice, Bool.and_eq_true, List.all_eq_true] at h ⊢
    exact ⟨h.1, fun x m => nice_mono k x (h.2 x m)⟩
  | k + 1, .list xs, h => by
    simp only [nice, Bool.and_eq_true, List.all_eq_true] at h ⊢
    exact ⟨h.1, fun x m => nice_mono k x (h.2 x m)⟩
  | 0, .tuple _, h => by simp [nice] at h
  | 0, .list _, h => by simp [nice] at h
  | 0, .dict _, h => by simp [nice] at h
  | _ + 1, .dict _, h => by simp [nice] at h
theorem nice_le {k l : Nat} (h : k ≤ l) {d : D} (q : nice k d = true) : nice l d = true := by
  induction h with
  | refl => exact q
  | step _ ih => exact nice_mono _ _ ih
theorem nice_small : ∀ (k : Nat) (d : D), small k d = true → nice k d = true
  | 0, .int _, _ => rfl
  | k + 1, .int _, _ => rfl
  | k + 1, .tuple xs, h => by
    simp only [small, nice, Bool.and_eq_true, List.all_eq_true, decide_eq_true_eq] at h ⊢
    exact ⟨by omega, fun x m => nice_small k x (h.2 x m)⟩
theorem nice_T {k : Nat} {xs : List D} (h1 : xs.length ≤ 1000) (h2 : ∀ x ∈ xs, nice k x = true) : nice (k + 1) (.tuple xs) = true := by
  simp only [nice, Bool.and_eq_true, List.all_eq_true, decide_eq_true_eq]
  exact ⟨h1, h2⟩
theorem nice_L {k : Nat} {xs : List D} (h1 : xs.length ≤ 1000) (h2 : ∀ x ∈ xs, nice k x = true) : nice (k + 1) (.list xs) = true := by
  simp only [nice, Bool.and_eq_true, List.all_eq_true, decide_eq_true_eq]
  exact ⟨h1, h2⟩
/-- what is bent: nice, and short -/
def Bent (k : Nat) (x : D) : Prop := nice k x = true ∧ ∀ xs, x = .tuple xs → xs.length ≤ 20
theorem enumD (xs : List D) : enumL xs = xs.zipIdx.map fun p => .tuple [.int (p.2 : Int), p.1] := by
  have := enum_m id xs
  rwa [List.map_id] at this
theorem str_small {i : Int} (h0 : 0 ≤ i) (h7 : i ≤ 7) : strD (.int i) = some (.str (toString i)) ∧ nice 1 (.str (toString i)) = true := by
  have e : ∀ i : Int, i.natAbs.log2 < 1920 → strD (.int i) = some (.str (toString i)) := fun i h => by simp only [strD]; rw [if_pos h]
  have : i = 0 ∨ i = 1 ∨ i = 2 ∨ i = 3 ∨ i = 4 ∨ i = 5 ∨ i = 6 ∨ i = 7 := by omega
  rcases this with rfl | rfl | rfl | rfl | rfl | rfl | rfl | rfl <;> exact ⟨e _ (by decide +kernel), by decide +kernel⟩
theorem bent_int {i : Int} (h0 : 0 ≤ i) (h7 : i ≤ 7) (f : Nat) : ∃ ds : List D, gr__law_bent (f + 1) [.int i] = some (.list ds) ∧ ds.length ≤ 9 ∧ ∀ x ∈ ds, Bent 3 x := by
  obtain ⟨s1, s2⟩ := str_small h0 h7
  refine ⟨[.int (i + 1), .int (i - 1), .bool true, .bool false, .none, .str (toString i), .tuple [.int i], .int 8, .list [.int i]], wp_val ?_, by simp, ?_⟩
  · show wp (runF N__law_bent (b__law_bent (gr__law_bent f)) [.int i]) _
    unfold b__law_bent N__law_bent
    simp_arith [isi_tuple, s1]
    exact wp_ok rfl
  · intro x mx
    simp only [List.mem_cons, List.not_mem_nil, or_false] at mx
    rcases mx with rfl | rfl | rfl | rfl | rfl | rfl | rfl | rfl | rfl
    · exact ⟨rfl, fun xs e => by cases e⟩
    · exact ⟨rfl, fun xs e => by cases e⟩
    · exact ⟨rfl, fun xs e => by cases e⟩
    · exact ⟨rfl, fun xs e => by cases e⟩
    · exact ⟨rfl, fun xs e => by cases e⟩
    · exact ⟨nice_le (by omega) s2, fun xs e => by cases e⟩
    · exact ⟨rfl, fun xs e => by cases e; simp⟩
    · exact ⟨rfl, fun xs e => by cases e⟩
    · exact ⟨rfl, fun xs e => by cases e⟩
theorem rep_two (xs : List D) (h : xs.length ≤ 1) : repQD (.tuple xs) (.int 2) = some (.tuple (xs ++ xs)) := by
  match xs, h with
  | [], _ => rfl
  | [x], _ => rfl
def most : Nat → Nat
  | 0 => 9
  | k + 1 => 9 + 9 * most k
theorem bent_spec : ∀ (k : Nat) (d : D), k ≤ 3 → small k d = true → ∀ f : Nat, k ≤ f → ∃ ds : List D, gr__law_bent (f + 1) [d] = some (.list ds) ∧ ds.length ≤ most k ∧ ∀ x ∈ ds, Bent (k + 3) x
  | 0, .int i, _, h, f, _ => by
    have h := of_decide_eq_true h
    obtain ⟨ds, h1, h2, h3⟩ := bent_int h.1 h.2 f
    exact ⟨ds, h1, h2, h3⟩
  | k + 1, .int i, hk, h, f, _ => by
    have h := of_decide_eq_true h
    obtain ⟨ds, h1, h2, h3⟩ := bent_int h.1 h.2 f
    refine ⟨ds, h1, ?_, fun x m => ⟨nice_le (by omega) (h3 x m).1, (h3 x m).2⟩⟩
    simp only [most]
    omega
  | k + 1, .tuple xs, hk, h, f, hf => by
    have sm := h
    simp only [small, Bool.and_eq_true, List.all_eq_true, decide_eq_true_eq] at h
    obtain ⟨hl, hx⟩ := h
    have nx : ∀ x ∈ xs, nice k x = true := fun x m => nice_small k x (hx x m)
    have nx2 : ∀ x ∈ xs, nice (k + 3) x = true := fun x m => nice_le (by omega) (nx x m)
    have mk : most k ≤ 10000 := by
      match k, hk with
      | 0, _ => simp [most]
      | 1, _ => simp [most]
      | 2, _ => simp [most]
    obtain ⟨f', rfl⟩ : ∃ f', f = f' + 1 := ⟨f - 1, by omega⟩
    have c1 : ∀ ys : List D, cutD ys none (some 1) = ys.take 1 := fun ys => cut_to ys 1
    have tl : (xs.take 1).length ≤ 1 := by rw [List.length_take]; omega
    have tm : ∀ x ∈ xs.take 1, x ∈ xs := fun x m => List.mem_of_mem_take m
    have rp := rep_two (xs.take 1) tl
    suffices hh : wp (runF N__law_bent (b__law_bent (gr__law_bent (f' + 1))) [.tuple xs]) (fun d => ∃ ds : List D, d = .list ds ∧ ds.length ≤ most (k + 1) ∧ ∀ x ∈ ds, Bent (k + 1 + 3) x) by
      obtain ⟨d, e, ds, rfl, h1, h2⟩ := hh
      exact ⟨ds, e, h1, h2⟩
    unfold b__law_bent N__law_bent
    simp_arith [-L_k37.Sq__law_bent_1_a, isi_tuple, c1, cut_tail, rp]
    simp_arith [enumD]
    have base : ∀ x ∈ [PyData.list xs, PyData.tuple xs.reverse, PyData.tuple xs.tail, PyData.tuple (xs ++ xs.take 1), PyData.tuple (xs.take 1 ++ xs.take 1), PyData.tuple [PyData.tuple xs], PyData.none, PyData.tuple [], PyData.tuple (xs ++ [PyData.none])], Bent (k + 1 + 3) x := by
      intro x mx
      simp only [List.mem_cons, List.not_mem_nil, or_false] at mx
      rcases mx with rfl | rfl | rfl | rfl | rfl | rfl | rfl | rfl | rfl
      · exact ⟨nice_L (by omega) nx2, fun xs e => by cases e⟩
      · exact ⟨nice_T (by rw [List.length_reverse]; omega) fun x m => nx2 x (List.mem_reverse.mp m), fun ys e => by cases e; rw [List.length_reverse]; omega⟩
      · exact ⟨nice_T (by rw [List.length_tail]; omega) fun x m => nx2 x (List.mem_of_mem_tail m), fun ys e => by cases e; rw [List.length_tail]; omega⟩
      · refine ⟨nice_T (by rw [List.length_append]; omega) fun x m => ?_, fun ys e => by cases e; rw [List.length_append]; omega⟩
        rcases List.mem_append.mp m with m | m
        · exact nx2 x m
        · exact nx2 x (tm x m)
      · refine ⟨nice_T (by rw [List.length_append]; omega) fun x m => ?_, fun ys e => by cases e; rw [List.length_append]; omega⟩
        rcases List.mem_append.mp m with m | m
        · exact nx2 x (tm x m)
        · exact nx2 x (tm x m)
      · refine ⟨nice_T (by simp) fun x m => ?_, fun ys e => by cases e; simp⟩
        cases List.mem_singleton.mp m
        exact nice_le (by omega) (nice_small (k + 1) _ sm)
      · exact ⟨rfl, fun ys e => by cases e⟩
      · exact ⟨nice_T (by simp) (by simp), fun ys e => by cases e; simp⟩
      · refine ⟨nice_T (by rw [List.length_append, List.length_singleton]; omega) fun x m => ?_, fun ys e => by cases e; rw [List.length_append, List.length_singleton]; omega⟩
        rcases List.mem_append.mp m with m | m
        · exact nx2 x m
        · cases List.mem_singleton.mp m
          rfl
    refine wp_for (A := D × Nat) (fun p => .tuple [.int (p.2 : Int), p.1]) (fun rest q => ∃ acc : List D, (∀ p ∈ rest, p ∈ xs.zipIdx) ∧ acc.length + most k * rest.length ≤ most (k + 1) ∧ (∀ x ∈ acc, Bent (k + 1 + 3) x) ∧ q = [some (.d (.tuple xs)), some (.l false acc), none, none, none]) ?_ ?_ ?_
    · refine ⟨_, fun p m => m, ?_, base, rfl⟩
      rw [List.length_zipIdx]
      simp only [List.length_cons, List.length_nil, most]
      have : most k * xs.length ≤ most k * 9 := Nat.mul_le_mul_left _ hl
      omega
    · rintro p rest q ⟨acc, h1, h2, h3, rfl⟩
      have mp := h1 p (by simp)
      have at_ := zip_at mp
      have lt := zip_lt mp
      have mx := List.mem_of_getElem? at_
      obtain ⟨ds, g1, g2, g3⟩ := bent_spec k p.1 (by omega) (hx p.1 mx) f' (by omega)
      have al : acc.length ≤ 100000 := by
        have : most (k + 1) = 9 + 9 * most k := rfl
        omega
      have tk : (xs.take p.2).length ≤ 9 := by rw [List.length_take]; omega
      have dr : (xs.drop (p.2 + 1)).length ≤ 9 := by rw [List.length_drop]; omega
      unfold F__law_bent_1
      simp_arith [g1]
      refine wp_cmapD (fun bad => .tuple (xs.take p.2 ++ [bad] ++ xs.drop (p.2 + 1))) (fun bad mb => ?_) ?_
      · unfold Ce__law_bent_1
        simp_arith [DL.p_nt]
        exact wp_ok rfl
      · simp_arith [DL.p_nt]
        refine wp_ok ?_
        refine ⟨acc ++ ds.map fun bad => .tuple (xs.take p.2 ++ [bad] ++ xs.drop (p.2 + 1)), fun q m => h1 q (List.mem_cons_of_mem _ m), ?_, fun x m => ?_, rfl⟩
        · rw [List.length_append, List.length_map]
          rw [List.length_cons, Nat.mul_succ] at h2
          omega
        · rcases List.mem_append.mp m with m | m
          · exact h3 x m
          · obtain ⟨bad, mb, rfl⟩ := List.mem_map.mp m
            refine ⟨nice_T (by simp only [List.length_append, List.length_singleton]; omega) fun y my => ?_, fun ys e => by cases e; simp only [List.length_append, List.length_singleton]; omega⟩
            rcases List.mem_append.mp my with my | my
            · rcases List.mem_append.mp my with my | my
              · exact nx2 y (List.mem_of_mem_take my)
              · cases List.mem_singleton.mp my
                exact (g3 bad mb).1
            · exact nx2 y (List.mem_of_mem_drop my)
    · rintro r ⟨acc, h1, h2, h3, rfl⟩
      simp_arith [DL.p_nt]
      exact wp_ok ⟨acc, rfl, by simpa using h2, h3⟩
theorem small_net {N : Net} (w : N.WF) (ht : N.ties.length ≤ 9) : small 3 (encN N) = true := by
  have hn := w.small
  have hr := rim_len w
  unfold encN
  simp only [small, Bool.and_eq_true, List.all_eq_true, decide_eq_true_eq]
  refine ⟨by simp, fun x mx => ?_⟩
  simp only [List.mem_cons, List.not_mem_nil, or_false] at mx
  rcases mx with rfl | rfl | rfl
  · simp only [small, decide_eq_true_eq]; omega
  · simp only [small, Bool.and_eq_true, List.all_eq_true, decide_eq_true_eq, List.length_map]
    refine ⟨ht, fun x mx => ?_⟩
    obtain ⟨t, mt, rfl⟩ := List.mem_map.mp mx
    have := w.tie t mt
    simp only [small, Bool.and_eq_true, List.all_eq_true, decide_eq_true_eq]
    refine ⟨by simp, fun x mx => ?_⟩
    simp only [List.mem_cons, List.not_mem_nil, or_false] at mx
    rcases mx with rfl | rfl
    · simp only [small, decide_eq_true_eq]; omega
    · simp only [small, decide_eq_true_eq]; omega
  · simp only [small, Bool.and_eq_true, List.all_eq_true, decide_eq_true_eq, List.length_map]
    refine ⟨by omega, fun x mx => ?_⟩
    obtain ⟨k, mk, rfl⟩ := List.mem_map.mp mx
    have := w.rimIn k mk
    simp only [small, decide_eq_true_eq]; omega
theorem small_route {N : Net} (w : N.WF) {r : List Int} (m : r ∈ routes N) : small 1 (TI r) = true := by
  have hn := w.small
  obtain ⟨lk, rl⟩ := route_lk w m
  have inn := linked_in w ((mem_routes w).mp m).two lk
  simp only [small, Bool.and_eq_true, List.all_eq_true, decide_eq_true_eq, List.length_map]
  refine ⟨by omega, fun x mx => ?_⟩
  obtain ⟨k, mk, rfl⟩ := List.mem_map.mp mx
  have := inn k mk
  simp only [small, decide_eq_true_eq]; omega
/-- the nets of the law's own -/
def wideN (k : Nat) : Net := ⟨6, (allT 6).take k, [0]⟩
theorem wide_wf (k : Nat) : (wideN k).WF where
  pos := by show 1 ≤ 6; omega
  small := by show 6 ≤ 7; omega
  tie := fun t m => mem_allT.mp (List.mem_of_mem_take m)
  up := (allT_up 6).sublist (List.take_sublist _ _)
  rimIn := fun k m => by cases List.mem_singleton.mp m; show 0 ≤ 0 ∧ (0 : Int) < (6 : Nat); omega
  rimUp := List.pairwise_singleton _ _
abbrev st37 (ns : List Int) (tw : List D) : Rho := [some (.d (SC ns)), some (.l false tw), none, none, none, none, none, none, none, none, none]
set_option maxHeartbeats 1000000 in
theorem turn {ns : List Int} (tw : List D) (h : tw.length < 500000) (a : Int) :
    wp ((nameG 2 (st37 ns tw) (.int a)).bind F_law_6) (goesOn fun r => ∃ tw' : List D, tw'.length ≤ tw.length + 300 ∧ r = st37 ns tw') := by
  obtain ⟨N, tw1, w, n2, n3, n4, n5, n6⟩ := net_spec ns tw 7 9 (by omega) (by omega) (by omega) (by omega)
  have n6' : g__law_net [SC ns, .int 7, .int 9] tw = some (encN N, tw1) := n6
  have rm := routes_many w
  obtain ⟨ds, b1, b2, b3⟩ := bent_spec 3 (encN N) (by omega) (small_net w n3) 39 (by omega)
  have b1' : g__law_bent [encN N] = some (.list ds) := b1
  have itt : isNotB (.bool true) (.bool true) = some false := rfl
  unfold F_law_6 st37
  simp_arith [-L_k37.Sq_law_5_a, n6', is_net_enc w n3 n4, itt, b1']
  refine wp_allD (fun bad mb => ?_) ?_
  · have nb := nice_le (show 3 + 3 ≤ 20 by omega) (b3 bad mb).1
    have e : decide (netD bad = netD bad) = true := by simp
    unfold F_law_1
    simp_arith [net_eval bad nb, lnet_eval bad nb, e]
    exact wp_ok rfl
  have c3 : ∀ ys : List D, cutD ys none (some 3) = ys.take 3 := fun ys => cut_to ys 3
  have c2 : ∀ ys : List D, cutD ys (some (-2)) none = ys.drop (ys.length - 2) := fun ys => by
    unfold cutD
    have e : HT.sIx ys.length 0 (some (-2)) = ys.length - 2 := by
      show (if (-2 : Int) < 0 then ((-2 : Int) + (ys.length : Int)).toNat else min (-2 : Int).toNat ys.length) = _
      rw [if_pos (by decide)]; omega
    rw [e, HT.sIx_none, List.take_of_length_le (by rw [List.length_drop]; omega)]
  have tk : ((routes N).take 3).length ≤ 3 := by rw [List.length_take]; omega
  have dr : ((routes N).drop ((routes N).length - 2)).length ≤ 2 := by rw [List.length_drop]; omega
  simp_arith [-L_k37.Sq_law_3_a, routes_eval w, c3, c2]
  refine wp_all (fun r mr => ?_) ?_
  · have mr2 : r ∈ routes N := by
      rcases List.mem_append.mp mr with m | m
      · exact List.mem_of_mem_take m
      · exact List.mem_of_mem_drop m
    obtain ⟨es, c1, c2, c3⟩ := bent_spec 1 (TI r) (by omega) (small_route w mr2) 39 (by omega)
    have c1' : g__law_bent [TI r] = some (.list es) := c1
    unfold F_law_3
    simp_arith [c1']
    refine wp_allD (fun bad mb => ?_) ?_
    · have sh : short1 bad := fun xs e => by have := (c3 bad mb).2 xs e; omega
      have e : decide (routeD N bad = routeD N bad) = true := by simp
      unfold F_law_2
      simp_arith [is_route_D w bad sh, lroute_eval w bad sh, e]
      exact wp_ok rfl
    · simp_arith [DL.p_nt]
      exact wp_ok rfl
  · have r6 : rngL 0 6 = (ir 6).map .int := rngL_ir 6
    simp_arith [-L_k37.Sq_law_2_a, r6]
    refine wp_fill (B := Tie) (fun l => [some (.d (SC ns)), some (.l false tw1), some (.d (.int a)), some (.d (encN N)), none, some (.d (.tuple ((routes N).map TI))), none, some (.l false (l.map encT)), none, none, none]) (fun x : Int => rowT 6 x) ?_ ?_
    · intro pre x post hx
      have mx : x ∈ ir 6 := by rw [hx]; simp
      have bx := mem_ir.mp mx
      have rl : (FB.rg (x + 1) 6).length ≤ 6 := by rw [FB.rg_len]; omega
      have pl : (pre.flatMap (rowT 6)).length ≤ 49 := by
        have h1 := allT_len (n := 6) (by omega)
        have h2 : (allT 6).length = ((pre ++ x :: post).flatMap (rowT 6)).length := by
          show ((ir 6).flatMap (rowT 6)).length = _
          rw [hx]
        rw [List.flatMap_append, List.length_append] at h2
        omega
      have pl' : (pre.flatMap fun x : Int => rowT 6 x).length ≤ 49 := pl
      have rq : rngL (x + 1) 6 = (FB.rg (x + 1) 6).map .int := FB.rngL_rg (x + 1) 6
      unfold F_law_4
      simp_arith [-DL.rngL_g1, rq]
      refine wp_cmap (fun y => encT (x, y)) (fun y _ => ?_) ?_
      · unfold Ce_law_1
        simp_arith [DL.p_nt]
        exact wp_ok rfl
      · have er : (FB.rg (x + 1) 6).map (fun y => encT (x, y)) = (rowT 6 x).map encT := by
          unfold rowT
          rw [List.map_map]
          rfl
        rw [er]
        have l2 : (rowT 6 x).length ≤ 6 := by unfold rowT; rw [List.length_map]; exact rl
        simp_arith [DL.p_nt]
        exact wp_ok rfl
    · have wl := allT_len (n := 6) (by omega)
      have all6 : (ir 6).flatMap (fun x : Int => rowT 6 x) = allT 6 := rfl
      rw [all6]
      simp_arith [-L_k37.Sq_law_1_a]
      have n8 : g_is_net [.tuple [.int 8, .tuple [], .tuple [.int 0]]] = some (.bool false) := (net_eval _ (by decide +kernel)).trans (by rfl)
      have n0 : g_is_net [.tuple [.int 0, .tuple [], .tuple [.int 0]]] = some (.bool false) := (net_eval _ (by decide +kernel)).trans (by rfl)
      have n7 : g_is_net [.tuple [.int 7, .tuple [], .tuple [.int 6]]] = some (.bool true) := (net_eval _ (by decide +kernel)).trans (by rfl)
      refine wp_all (as := [8, 9, 10]) (enc := fun k : Nat => PyData.int (k : Int)) (fun k mk => ?_) ?_
      · have ck : ∀ ys : List D, cutD ys none (some (k : Int)) = ys.take k := fun ys => cut_to ys k
        have en : PyData.tuple [.int 6, .tuple (((allT 6).take k).map encT), .tuple [.int 0]] = encN (wideN k) := rfl
        have kl : k ≤ 10 := by
          simp at mk; omega
        have tl : ((allT 6).take k).length ≤ 10 := by rw [List.length_take]; omega
        have ne := net_eval (encN (wideN k)) (RX.nice_net (wide_wf k) (by show ((allT 6).take k).length ≤ 100; omega))
        have dec : netD (encN (wideN k)) = decide ((k : Int) < 10) := by
          by_cases q : k < 10
          · rw [netD_enc (wide_wf k) (by show ((allT 6).take k).length ≤ 9; rw [List.length_take]; omega) (by simp [wideN]), decide_eq_true (by omega)]
          · have k10 : k = 10 := by omega
            subst k10
            decide +kernel
        have e : decide (netD (encN (wideN k)) = decide ((k : Int) < 10)) = true := decide_eq_true dec
        unfold F_law_5
        simp_arith [ck, en, ne, e]
        exact wp_ok rfl
      · simp_arith [n8, n0, n7]
        exact wp_ok ⟨tw1, by omega, rfl⟩
theorem law_true (ns : List Int) (hl : ns.length ≤ 63) : g_law [.list (ns.map .int)] = some (.bool true) := by
  refine wp_val ?_
  unfold g_law b_law N_law
  have e5 : rngL 0 3 = (ir 3).map .int := rngL_ir 3
  simp_arith [e5]
  refine wp_town (st37 ns) 300 [] (fun a _ tw h => ?_) (fun tw h => ?_)
  · simp [ir_len] at h
    exact turn tw (by omega) a
  · simp_arith [DL.p_nt]
    exact wp_ok rfl
end L_k37
namespace L_k37
open PySem L2 DL PyProof.Rows FB PG
def topS (i : Nat) : Stmt := PySem.Challenge.pw_probeties_k37_whole_things_bent.main.body.getD i (.Pass ⟨0, 0, 0, 0⟩)
abbrev s_is_whole : Stmt := topS 3
abbrev s_are_rising : Stmt := topS 4
abbrev s_is_tie : Stmt := topS 5
abbrev s_is_net : Stmt := topS 6
abbrev s_beside : Stmt := topS 7
abbrev s_led_on : Stmt := topS 9
abbrev s_routes : Stmt := topS 10
abbrev s_is_route : Stmt := topS 11
abbrev s__law_draw : Stmt := topS 13
abbrev s__law_net : Stmt := topS 15
abbrev s__law_whole : Stmt := topS 17
abbrev s__law_rises : Stmt := topS 18
abbrev s__law_is_net : Stmt := topS 19
abbrev s__law_is_route : Stmt := topS 20
abbrev s__law_bent : Stmt := topS 21
abbrev s_law : Stmt := topS 22
theorem sc_is_whole : FnScope N_is_whole ["thing", "low", "high"] (defScope s_is_whole) := ⟨rfl, rfl, rfl, by decide +kernel, rfl, by decide +kernel, by decide +kernel⟩
theorem sc_are_rising : FnScope N_are_rising ["row"] (defScope s_are_rising) := ⟨rfl, rfl, rfl, by decide +kernel, rfl, by decide +kernel, by decide +kernel⟩
theorem sc_is_tie : FnScope N_is_tie ["thing", "many"] (defScope s_is_tie) := ⟨rfl, rfl, rfl, by decide +kernel, rfl, by decide +kernel, by decide +kernel⟩
theorem sc_is_net : FnScope N_is_net ["thing"] (defScope s_is_net) := ⟨rfl, rfl, rfl, by decide +kernel, rfl, by decide +kernel, by decide +kernel⟩
theorem sc_beside : FnScope N_beside ["net", "knot"] (defScope s_beside) := ⟨rfl, rfl, rfl, by decide +kernel, rfl, by decide +kernel, by decide +kernel⟩
theorem sc_led_on : FnScope N_led_on ["net", "way"] (defScope s_led_on) := ⟨rfl, rfl, rfl, by decide +kernel, rfl, by decide +kernel, by decide +kernel⟩
theorem sc_routes : FnScope N_routes ["net"] (defScope s_routes) := ⟨rfl, rfl, rfl, by decide +kernel, rfl, by decide +kernel, by decide +kernel⟩
theorem sc_is_route : FnScope N_is_route ["net", "thing"] (defScope s_is_route) := ⟨rfl, rfl, rfl, by decide +kernel, rfl, by decide +kernel, by decide +kernel⟩
theorem sc__law_draw : FnScope N__law_draw ["_law_script", "_law_town", "_law_many"] (defScope s__law_draw) := ⟨rfl, rfl, rfl, by decide +kernel, rfl, by decide +kernel, by decide +kernel⟩
theorem sc__law_net : FnScope N__law_net ["_law_script", "_law_town", "_law_knots", "_law_ties"] (defScope s__law_net) := ⟨rfl, rfl, rfl, by decide +kernel, rfl, by decide +kernel, by decide +kernel⟩
theorem sc__law_whole : FnScope N__law_whole ["_law_thing", "_law_low", "_law_high"] (defScope s__law_whole) := ⟨rfl, rfl, rfl, by decide +kernel, rfl, by decide +kernel, by decide +kernel⟩
theorem sc__law_rises : FnScope N__law_rises ["_law_line"] (defScope s__law_rises) := ⟨rfl, rfl, rfl, by decide +kernel, rfl, by decide +kernel, by decide +kernel⟩
theorem sc__law_is_net : FnScope N__law_is_net ["_law_thing"] (defScope s__law_is_net) := ⟨rfl, rfl, rfl, by decide +kernel, rfl, by decide +kernel, by decide +kernel⟩
theorem sc__law_is_route : FnScope N__law_is_route ["_law_net_here", "_law_thing"] (defScope s__law_is_route) := ⟨rfl, rfl, rfl, by decide +kernel, rfl, by decide +kernel, by decide +kernel⟩
theorem sc__law_bent : FnScope N__law_bent ["_law_thing"] (defScope s__law_bent) := ⟨rfl, rfl, rfl, by decide +kernel, rfl, by decide +kernel, by decide +kernel⟩
theorem sc_law : FnScope N_law ["_law_script"] (defScope s_law) := ⟨rfl, rfl, rfl, by decide +kernel, rfl, by decide +kernel, by decide +kernel⟩
structure Tx (mg : Str → Option Value) : Prop where
  z_all : mg "all" = none
  z_bool : mg "bool" = none
  z_dict : mg "dict" = none
  z_enumerate : mg "enumerate" = none
  z_int : mg "int" = none
  z_isinstance : mg "isinstance" = none
  z_len : mg "len" = none
  z_list : mg "list" = none
  z_max : mg "max" = none
  z_min : mg "min" = none
  z_range : mg "range" = none
  z_set : mg "set" = none
  z_sorted : mg "sorted" = none
  z_str : mg "str" = none
  z_tuple : mg "tuple" = none
  z_zip : mg "zip" = none
  m_KNOTS_MOST : ∃ t, mg "KNOTS_MOST" = some (.int 7 t)
  m_TIES_MOST : ∃ t, mg "TIES_MOST" = some (.int 9 t)
structure Ad where
  a_is_whole : Addr
  d_is_whole : FuncData
  a_are_rising : Addr
  d_are_rising : FuncData
  a_is_tie : Addr
  d_is_tie : FuncData
  a_is_net : Addr
  d_is_net : FuncData
  a_beside : Addr
  d_beside : FuncData
  a_led_on : Addr
  d_led_on : FuncData
  a_routes : Addr
  d_routes : FuncData
  a_is_route : Addr
  d_is_route : FuncData
  a__law_draw : Addr
  d__law_draw : FuncData
  a__law_net : Addr
  d__law_net : FuncData
  a__law_whole : Addr
  d__law_whole : FuncData
  a__law_rises : Addr
  d__law_rises : FuncData
  a__law_is_net : Addr
  d__law_is_net : FuncData
  a__law_is_route : Addr
  d__law_is_route : FuncData
  a__law_bent : Addr
  d__law_bent : FuncData
  a_law : Addr
  d_law : FuncData
structure Cx1 (K : PySem.W.Frag) (mg : Str → Option Value) (Z : Ad) : Prop where
  f_is_whole : Fun K "is_whole" "is_whole" s_is_whole Z.a_is_whole Z.d_is_whole
  b_is_whole : Binds K Z.d_is_whole ["thing", "low", "high"] []
  g_is_whole : mg "is_whole" = some (.ref Z.a_is_whole)
  f_are_rising : Fun K "are_rising" "are_rising" s_are_rising Z.a_are_rising Z.d_are_rising
  b_are_rising : Binds K Z.d_are_rising ["row"] []
  g_are_rising : mg "are_rising" = some (.ref Z.a_are_rising)
  f_is_tie : Fun K "is_tie" "is_tie" s_is_tie Z.a_is_tie Z.d_is_tie
  b_is_tie : Binds K Z.d_is_tie ["thing", "many"] []
  g_is_tie : mg "is_tie" = some (.ref Z.a_is_tie)
  f_is_net : Fun K "is_net" "is_net" s_is_net Z.a_is_net Z.d_is_net
  b_is_net : Binds K Z.d_is_net ["thing"] []
  g_is_net : mg "is_net" = some (.ref Z.a_is_net)
  f_beside : Fun K "beside" "beside" s_beside Z.a_beside Z.d_beside
  b_beside : Binds K Z.d_beside ["net", "knot"] []
  g_beside : mg "beside" = some (.ref Z.a_beside)
  f_led_on : Fun K "led_on" "led_on" s_led_on Z.a_led_on Z.d_led_on
  b_led_on : Binds K Z.d_led_on ["net", "way"] []
  g_led_on : mg "led_on" = some (.ref Z.a_led_on)
  f_routes : Fun K "routes" "routes" s_routes Z.a_routes Z.d_routes
  b_routes : Binds K Z.d_routes ["net"] []
  g_routes : mg "routes" = some (.ref Z.a_routes)
  f_is_route : Fun K "is_route" "is_route" s_is_route Z.a_is_route Z.d_is_route
  b_is_route : Binds K Z.d_is_route ["net", "thing"] []
  g_is_route : mg "is_route" = some (.ref Z.a_is_route)
  f__law_draw : Fun K "_law_draw" "_law_draw" s__law_draw Z.a__law_draw Z.d__law_draw
  b__law_draw : Binds K Z.d__law_draw ["_law_script", "_law_town", "_law_many"] []
  g__law_draw : mg "_law_draw" = some (.ref Z.a__law_draw)
  f__law_net : Fun K "_law_net" "_law_net" s__law_net Z.a__law_net Z.d__law_net
  b__law_net : Binds K Z.d__law_net ["_law_script", "_law_town", "_law_knots", "_law_ties"] []
  g__law_net : mg "_law_net" = some (.ref Z.a__law_net)
  f__law_whole : Fun K "_law_whole" "_law_whole" s__law_whole Z.a__law_whole Z.d__law_whole
  b__law_whole : Binds K Z.d__law_whole ["_law_thing", "_law_low", "_law_high"] []
  g__law_whole : mg "_law_whole" = some (.ref Z.a__law_whole)
  f__law_rises : Fun K "_law_rises" "_law_rises" s__law_rises Z.a__law_rises Z.d__law_rises
  b__law_rises : Binds K Z.d__law_rises ["_law_line"] []
  g__law_rises : mg "_law_rises" = some (.ref Z.a__law_rises)
  f__law_is_net : Fun K "_law_is_net" "_law_is_net" s__law_is_net Z.a__law_is_net Z.d__law_is_net
  b__law_is_net : Binds K Z.d__law_is_net ["_law_thing"] []
  g__law_is_net : mg "_law_is_net" = some (.ref Z.a__law_is_net)
  f__law_is_route : Fun K "_law_is_route" "_law_is_route" s__law_is_route Z.a__law_is_route Z.d__law_is_route
  b__law_is_route : Binds K Z.d__law_is_route ["_law_net_here", "_law_thing"] []
  g__law_is_route : mg "_law_is_route" = some (.ref Z.a__law_is_route)
  f__law_bent : Fun K "_law_bent" "_law_bent" s__law_bent Z.a__law_bent Z.d__law_bent
  b__law_bent : Binds K Z.d__law_bent ["_law_thing"] []
  g__law_bent : mg "_law_bent" = some (.ref Z.a__law_bent)
  f_law : Fun K "law" "law" s_law Z.a_law Z.d_law
  b_law : Binds K Z.d_law ["_law_script"] []
  g_law : mg "law" = some (.ref Z.a_law)
section
variable {P : Program} {w : World} {K : PySem.W.Frag} {mg : Str → Option Value} {base : Heap} {Z : Ad}
set_option maxHeartbeats 4000000 in
theorem ok_is_whole (C : Cx1 K mg Z) (T : Tx mg) : FnOk P w K mg base CX0 1 Z.a_is_whole Z.d_is_whole ["thing", "low", "high"] (spF K 3 g_is_whole) := by
  have sc := sc_is_whole
  refine fn_run (k := 0) (N := N_is_whole) C.f_is_whole sc_is_whole fun cdv A outer s H E hr => ?_
  have hU := un1 hr
  exact ((sss_one (ss_ret (se_and (se_isi .int (by rfl) T.z_isinstance (by rfl) T.z_int (by decide +kernel) (SE.sw (se_var 0))) (se_and (se_not (SE.sw (se_isi .bool (by rfl) T.z_isinstance (by rfl) T.z_bool (by decide +kernel) (SE.sw (se_var 0))))) (se_one (se_chain (or_leB hU.c0) (or_leB hU.c0) (se_var 1) (se_var 0) (SE.sw (se_var 2)))))))))
set_option maxHeartbeats 4000000 in
theorem ok_are_rising (C : Cx1 K mg Z) (T : Tx mg) : FnOk P w K mg base CX0 1 Z.a_are_rising Z.d_are_rising ["row"] (spF K 1 g_are_rising) := by
  have sc := sc_are_rising
  refine fn_run (k := 0) (N := N_are_rising) C.f_are_rising sc_are_rising fun cdv A outer s H E hr => ?_
  have hU := un1 hr
  exact ((sss_one (ss_ret (se_b1 (cr_allD (by rfl)) (by rfl) T.z_all (by decide +kernel) (SE.sw (SL.se (sl_comp (own := [("one", 1), ("two", 2)]) (by rfl) sc.nd (si_zip (by rfl) T.z_zip (se_sl (se_var 0) sp_none (sp_some (se_neg se_int))) (se_sl (se_var 0) (sp_some se_int) sp_none)) (blkOk_by (own := [("one", 1), ("two", 2)]) (by rfl)) (fun _ _ _ _ _ => (sg_tup (by rfl) (sgs_cons (sg_name 1 sc.nd (by rfl) (by first | exact Or.inl rfl | exact Or.inr rfl) (by decide)) (sgs_cons (sg_name 2 sc.nd (by rfl) (by first | exact Or.inl rfl | exact Or.inr rfl) (by decide)) sgs_nil)))) (fun _ _ _ _ _ => sts_nil) (fun _ _ _ _ _ => (se_cmp (or_ltB hU.c0) (se_var 1) (SE.sw (se_var 2)))))))))))
set_option maxHeartbeats 4000000 in
theorem ok_is_tie (C : Cx1 K mg Z) (T : Tx mg) : FnOk P w K mg base CX0 2 Z.a_is_tie Z.d_is_tie ["thing", "many"] (spF K 2 g_is_tie) := by
  have sc := sc_is_tie
  refine fn_run (k := 1) (N := N_is_tie) C.f_is_tie sc_is_tie fun cdv A outer s H E hr => ?_
  have hU := un1 hr
  exact ((sss_cons (ss_if (SWt.st (sw_or (st_not (st_val (SE.sw (se_isi .tuple (by rfl) T.z_isinstance (by rfl) T.z_tuple (by decide +kernel) (SE.sw (se_var 0)))))) (sw_or (st_cmp (or_neB hU.c64) (se_b1 cr_len (by rfl) T.z_len (by decide +kernel) (SE.sw (se_var 0))) (SE.sw se_int)) (sw_or1 (st_not (st_val (SE.sw (se_b1 (cr_allD (by rfl)) (by rfl) T.z_all (by decide +kernel) (SE.sw (SL.se (sl_comp (own := [("one", 2)]) (by rfl) sc.nd (si_seq (se_var 0)) (blkOk_by (own := [("one", 2)]) (by rfl)) (fun _ _ _ _ _ => (sg_name 2 sc.nd (by rfl) (by first | exact Or.inl rfl | exact Or.inr rfl) (by decide))) (fun _ _ _ _ _ => sts_nil) (fun _ _ _ _ _ => (se_call (ok_is_whole C T) (hr.mono (by omega)) (by rfl) C.g_is_whole C.f_is_whole.kp C.b_is_whole (sa_cons (se_var 2) (sa_cons se_int (sa_cons (se_op or_subD (se_var 1) (SE.sw se_int)) sa_nil))) (by rfl)))))))))))))) (sss_one (ss_ret se_bl)) sss_nil)
      (sss_one (ss_ret (se_cmp (or_ltB hU.c0) (se_ix (se_var 0) se_int) (SE.sw (se_ix (se_var 0) se_int)))))))
set_option maxHeartbeats 4000000 in
theorem ok_is_net (C : Cx1 K mg Z) (T : Tx mg) : FnOk P w K mg base CX0 3 Z.a_is_net Z.d_is_net ["thing"] (spF K 1 g_is_net) := by
  have sc := sc_is_net
  refine fn_run (k := 2) (N := N_is_net) C.f_is_net sc_is_net fun cdv A outer s H E hr => ?_
  have hU := un1 hr
  exact ((sss_cons (ss_if (SWt.st (sw_or (st_not (st_val (SE.sw (se_isi .tuple (by rfl) T.z_isinstance (by rfl) T.z_tuple (by decide +kernel) (SE.sw (se_var 0)))))) (sw_or (st_cmp (or_neB hU.c64) (se_b1 cr_len (by rfl) T.z_len (by decide +kernel) (SE.sw (se_var 0))) (SE.sw se_int)) (sw_or1 (st_not (st_val (SE.sw (se_call (ok_is_whole C T) (hr.mono (by omega)) (by rfl) C.g_is_whole C.f_is_whole.kp C.b_is_whole (sa_cons (se_ix (se_var 0) se_int) (sa_cons se_int (sa_cons (se_globI (by rfl) T.m_KNOTS_MOST) sa_nil))) (by rfl))))))))) (sss_one (ss_ret se_bl)) sss_nil)
      (sss_cons (ss_asgG (is := [1, 2, 3]) (se_var 0) (sg_tup (by rfl) (sgs_cons (sg_name 1 sc.nd (by rfl) (by first | exact Or.inl rfl | exact Or.inr rfl) (by decide)) (sgs_cons (sg_name 2 sc.nd (by rfl) (by first | exact Or.inl rfl | exact Or.inr rfl) (by decide)) (sgs_cons (sg_name 3 sc.nd (by rfl) (by first | exact Or.inl rfl | exact Or.inr rfl) (by decide)) sgs_nil)))))
      (sss_cons (ss_if (SWt.st (sw_or (st_not (st_val (SE.sw (se_isi .tuple (by rfl) T.z_isinstance (by rfl) T.z_tuple (by decide +kernel) (SE.sw (se_var 2)))))) (sw_or (st_cmp (or_gtD hU.c64) (se_b1 cr_len (by rfl) T.z_len (by decide +kernel) (SE.sw (se_var 2))) (SE.sw (se_globI (by rfl) T.m_TIES_MOST))) (sw_or1 (st_not (st_val (SE.sw (se_b1 (cr_allD (by rfl)) (by rfl) T.z_all (by decide +kernel) (SE.sw (SL.se (sl_comp (own := [("tie", 4)]) (by rfl) sc.nd (si_seq (se_var 2)) (blkOk_by (own := [("tie", 4)]) (by rfl)) (fun _ _ _ _ _ => (sg_name 4 sc.nd (by rfl) (by first | exact Or.inl rfl | exact Or.inr rfl) (by decide))) (fun _ _ _ _ _ => sts_nil) (fun _ _ _ _ _ => (se_call (ok_is_tie C T) (hr.mono (by omega)) (by rfl) C.g_is_tie C.f_is_tie.kp C.b_is_tie (sa_cons (se_var 4) (sa_cons (se_var 1) sa_nil)) (by rfl)))))))))))))) (sss_one (ss_ret se_bl)) sss_nil)
      (sss_cons (ss_if (SWt.st (sw_or (st_not (st_val (SE.sw (se_isi .tuple (by rfl) T.z_isinstance (by rfl) T.z_tuple (by decide +kernel) (SE.sw (se_var 3)))))) (sw_or (st_cmp (or_eqB hU.c64) (se_var 3) (SE.sw (se_tup sa_nil))) (sw_or1 (st_not (st_val (SE.sw (se_b1 (cr_allD (by rfl)) (by rfl) T.z_all (by decide +kernel) (SE.sw (SL.se (sl_comp (own := [("knot", 5)]) (by rfl) sc.nd (si_seq (se_var 3)) (blkOk_by (own := [("knot", 5)]) (by rfl)) (fun _ _ _ _ _ => (sg_name 5 sc.nd (by rfl) (by first | exact Or.inl rfl | exact Or.inr rfl) (by decide))) (fun _ _ _ _ _ => sts_nil) (fun _ _ _ _ _ => (se_call (ok_is_whole C T) (hr.mono (by omega)) (by rfl) C.g_is_whole C.f_is_whole.kp C.b_is_whole (sa_cons (se_var 5) (sa_cons se_int (sa_cons (se_op or_subD (se_var 1) (SE.sw se_int)) sa_nil))) (by rfl)))))))))))))) (sss_one (ss_ret se_bl)) sss_nil)
      (sss_one (ss_ret (se_and (se_call (ok_are_rising C T) (hr.mono (by omega)) (by rfl) C.g_are_rising C.f_are_rising.kp C.b_are_rising (sa_cons (se_var 2) sa_nil) (by rfl)) (se_one (se_call (ok_are_rising C T) (hr.mono (by omega)) (by rfl) C.g_are_rising C.f_are_rising.kp C.b_are_rising (sa_cons (se_var 3) sa_nil) (by rfl)))))))))))
set_option maxHeartbeats 4000000 in
theorem ok_beside (C : Cx1 K mg Z) (T : Tx mg) : FnOk P w K mg base CX0 1 Z.a_beside Z.d_beside ["net", "knot"] (spF K 2 g_beside) := by
  have sc := sc_beside
  refine fn_run (k := 0) (N := N_beside) C.f_beside sc_beside fun cdv A outer s H E hr => ?_
  have hU := un1 hr
  exact ((sss_cons (ss_compD 2 (own := [("other", 3)]) (by rfl) sc.nd (si_range1 (by rfl) T.z_range (se_ix (se_var 0) se_int)) (blkOk_by (own := [("other", 3)]) (by rfl)) (fun _ _ _ _ _ => (sg_name 3 sc.nd (by rfl) (by first | exact Or.inl rfl | exact Or.inr rfl) (by decide))) (fun _ _ _ _ _ => (sts_one (st_cmp (or_inB hU.c65) (se_tup (sa_cons (se_b2 (cr_min2 (by rfl)) (by rfl) T.z_min (by decide +kernel) (se_var 1) (SE.sw (se_var 3))) (sa_cons (se_b2 (cr_max2 (by rfl)) (by rfl) T.z_max (by decide +kernel) (se_var 1) (SE.sw (se_var 3))) sa_nil))) (SE.sw (se_ix (se_var 0) se_int))))) (fun _ _ _ _ _ => (se_var 3)) (sw_true (by rfl) (by rfl) (by rfl) (by decide +kernel)))
      (sss_one (ss_ret (se_t1 cr_tuple (by rfl) T.z_tuple (by decide +kernel) (SE.sw (se_var 2)))))))
set_option maxHeartbeats 4000000 in
theorem okr_led_on (C : Cx1 K mg Z) (T : Tx mg) : ∀ n, FnOk P w K mg base CX0 (1 + n) Z.a_led_on Z.d_led_on ["net", "way"] (spF K 2 (gr_led_on n))
  | 0 => spF_none
  | n + 1 => by
    have G := okr_led_on C T n
    have sc := sc_led_on
    refine fn_run (k := 1 + n) (N := N_led_on) C.f_led_on sc_led_on fun cdv A outer s H E hr => ?_
    have hU := un1 hr
    exact ((sss_cons (ss_new 2 sc.nd (sl_lst sa_nil))
      (sss_cons (ss_if (SWt.st (sw_and (st_cmp (or_gtD hU.c64) (se_b1 cr_len (by rfl) T.z_len (by decide +kernel) (SE.sw (se_var 1))) (SE.sw se_int)) (sw_and (st_cmp (or_inB hU.c65) (se_ix (se_var 1) (se_neg se_int)) (SE.sw (se_ix (se_var 0) se_int))) (sw_and1 (st_cmp (or_ltB hU.c0) (se_ix (se_var 1) se_int) (SE.sw (se_ix (se_var 1) (se_neg se_int)))))))) (sss_one (ss_expr (se_app 2 (se_var 1)))) sss_nil)
      (sss_cons (ss_for (is := [3]) PassesOwn.never (by rfl) (si_seq (se_call (ok_beside C T) (hr.mono (by omega)) (by rfl) C.g_beside C.f_beside.kp C.b_beside (sa_cons (se_var 0) (sa_cons (se_ix (se_var 1) (se_neg se_int)) sa_nil)) (by rfl))) (sg_name 3 sc.nd (by rfl) (by first | exact Or.inl rfl | exact Or.inr rfl) (by decide)) (sss_one (ss_if (st_cmp (or_notInB hU.c65) (se_var 3) (SE.sw (se_var 1))) (sss_one (ss_expr (se_ext 2 (se_call G hr (by rfl) C.g_led_on C.f_led_on.kp C.b_led_on (sa_cons (se_var 0) (sa_cons (se_op or_addD (se_var 1) (SE.sw (se_tup (sa_cons (se_var 3) sa_nil)))) sa_nil)) (by rfl))))) sss_nil)))
      (sss_one (ss_frz 2 (ss_ret (se_var 2))))))))
theorem ok_led_on (C : Cx1 K mg Z) (T : Tx mg) : FnOk P w K mg base CX0 41 Z.a_led_on Z.d_led_on ["net", "way"] (spF K 2 g_led_on) := okr_led_on C T 40
set_option maxHeartbeats 4000000 in
theorem ok_routes (C : Cx1 K mg Z) (T : Tx mg) : FnOk P w K mg base CX0 42 Z.a_routes Z.d_routes ["net"] (spF K 1 g_routes) := by
  have sc := sc_routes
  refine fn_run (k := 41) (N := N_routes) C.f_routes sc_routes fun cdv A outer s H E hr => ?_
  have hU := un1 hr
  exact ((sss_cons (ss_new 1 sc.nd (sl_lst sa_nil))
      (sss_cons (ss_for (is := [2]) PassesOwn.never (by rfl) (si_seq (se_ix (se_var 0) se_int)) (sg_name 2 sc.nd (by rfl) (by first | exact Or.inl rfl | exact Or.inr rfl) (by decide)) (sss_one (ss_expr (se_ext 1 (se_call (ok_led_on C T) (hr.mono (by omega)) (by rfl) C.g_led_on C.f_led_on.kp C.b_led_on (sa_cons (se_var 0) (sa_cons (se_tup (sa_cons (se_var 2) sa_nil)) sa_nil)) (by rfl))))))
      (sss_one (ss_ret (se_t1 cr_tuple (by rfl) T.z_tuple (by decide +kernel) (SE.sw (se_b1 (cr_sortD2 hU.c100) (by rfl) T.z_sorted (by decide +kernel) (sw_own 1)))))))))
set_option maxHeartbeats 4000000 in
theorem ok_is_route (C : Cx1 K mg Z) (T : Tx mg) : FnOk P w K mg base CX0 2 Z.a_is_route Z.d_is_route ["net", "thing"] (spF K 2 g_is_route) := by
  have sc := sc_is_route
  refine fn_run (k := 1) (N := N_is_route) C.f_is_route sc_is_route fun cdv A outer s H E hr => ?_
  have hU := un1 hr
  exact ((sss_cons (ss_if (SWt.st (sw_or (st_not (st_val (SE.sw (se_isi .tuple (by rfl) T.z_isinstance (by rfl) T.z_tuple (by decide +kernel) (SE.sw (se_var 1)))))) (sw_or (st_cmp (or_ltB hU.c0) (se_b1 cr_len (by rfl) T.z_len (by decide +kernel) (SE.sw (se_var 1))) (SE.sw se_int)) (sw_or1 (st_not (st_val (SE.sw (se_b1 (cr_allD (by rfl)) (by rfl) T.z_all (by decide +kernel) (SE.sw (SL.se (sl_comp (own := [("one", 2)]) (by rfl) sc.nd (si_seq (se_var 1)) (blkOk_by (own := [("one", 2)]) (by rfl)) (fun _ _ _ _ _ => (sg_name 2 sc.nd (by rfl) (by first | exact Or.inl rfl | exact Or.inr rfl) (by decide))) (fun _ _ _ _ _ => sts_nil) (fun _ _ _ _ _ => (se_call (ok_is_whole C T) (hr.mono (by omega)) (by rfl) C.g_is_whole C.f_is_whole.kp C.b_is_whole (sa_cons (se_var 2) (sa_cons se_int (sa_cons (se_op or_subD (se_ix (se_var 0) se_int) (SE.sw se_int)) sa_nil))) (by rfl)))))))))))))) (sss_one (ss_ret se_bl)) sss_nil)
      (sss_cons (ss_if (SWt.st (sw_or (st_cmp (or_neB hU.c64) (se_lenSet (by rfl) (by rfl) T.z_len (by rfl) T.z_set (se_var 1)) (SE.sw (se_b1 cr_len (by rfl) T.z_len (by decide +kernel) (SE.sw (se_var 1))))) (sw_or (st_cmp (or_notInB hU.c65) (se_ix (se_var 1) se_int) (SE.sw (se_ix (se_var 0) se_int))) (sw_or (st_cmp (or_notInB hU.c65) (se_ix (se_var 1) (se_neg se_int)) (SE.sw (se_ix (se_var 0) se_int))) (sw_or1 (st_cmp (or_gtD hU.c64) (se_ix (se_var 1) se_int) (SE.sw (se_ix (se_var 1) (se_neg se_int))))))))) (sss_one (ss_ret se_bl)) sss_nil)
      (sss_one (ss_ret (se_b1 (cr_allD (by rfl)) (by rfl) T.z_all (by decide +kernel) (SE.sw (SL.se (sl_comp (own := [("one", 2), ("other", 3)]) (by rfl) sc.nd (si_zip (by rfl) T.z_zip (se_sl (se_var 1) sp_none (sp_some (se_neg se_int))) (se_sl (se_var 1) (sp_some se_int) sp_none)) (blkOk_by (own := [("one", 2), ("other", 3)]) (by rfl)) (fun _ _ _ _ _ => (sg_tup (by rfl) (sgs_cons (sg_name 2 sc.nd (by rfl) (by first | exact Or.inl rfl | exact Or.inr rfl) (by decide)) (sgs_cons (sg_name 3 sc.nd (by rfl) (by first | exact Or.inl rfl | exact Or.inr rfl) (by decide)) sgs_nil)))) (fun _ _ _ _ _ => sts_nil) (fun _ _ _ _ _ => (se_cmp (or_inB hU.c65) (se_var 3) (SE.sw (se_call (ok_beside C T) (hr.mono (by omega)) (by rfl) C.g_beside C.f_beside.kp C.b_beside (sa_cons (se_var 0) (sa_cons (se_var 2) sa_nil)) (by rfl))))))))))))))
set_option maxHeartbeats 4000000 in
theorem ok__law_draw (C : Cx1 K mg Z) (T : Tx mg) : FnOk P w K mg base CX0 1 Z.a__law_draw Z.d__law_draw ["_law_script", "_law_town", "_law_many"] (spR K 3 1 g__law_draw) := by
  have sc := sc__law_draw
  refine fn_runR 1 (k := 0) (N := N__law_draw) C.f__law_draw sc__law_draw fun cdv A outer s H E hr => ?_
  have hU := un1 hr
  exact ((sss_cons (ss_expr (se_app 1 se_int))
      (sss_cons (ss_asg 3 sc.nd (se_b1 cr_len (by rfl) T.z_len (by decide +kernel) (sw_own 1)))
      (sss_cons (ss_asg 4 sc.nd se_int)
      (sss_cons (ss_if (st_val (SE.sw (se_var 0))) (sss_one (ss_asg 4 sc.nd (se_ix (se_var 0) (se_op or_modD (se_var 3) (SE.sw (se_b1 cr_len (by rfl) T.z_len (by decide +kernel) (SE.sw (se_var 0)))))))) sss_nil)
      (sss_cons (ss_asg 5 sc.nd (se_op or_modD (se_op or_addD (se_var 4) (SE.sw (se_op or_mulD se_int (SE.sw (se_var 3))))) (SE.sw se_int)))
      (sss_cons (ss_asg 5 sc.nd (se_op or_modD (se_op or_mulD (se_op or_modD (se_op or_mulD (se_var 5) (SE.sw (se_var 5))) (SE.sw se_int)) (SE.sw se_int)) (SE.sw se_int)))
      (sss_cons (ss_asg 6 sc.nd (se_op or_modD (se_op or_mulD (se_op or_modD (se_op or_mulD (se_var 5) (SE.sw (se_var 5))) (SE.sw se_int)) (SE.sw se_int)) (SE.sw se_int)))
      (sss_one (ss_ret (se_op or_modD (se_op or_addD (se_op or_mulD (se_op or_fdivD (se_var 5) (SE.sw se_int)) (SE.sw se_int)) (SE.sw (se_op or_fdivD (se_var 6) (SE.sw se_int)))) (SE.sw (se_var 2)))))))))))))
set_option maxHeartbeats 4000000 in
theorem ok__law_net (C : Cx1 K mg Z) (T : Tx mg) : FnOk P w K mg base CX0 2 Z.a__law_net Z.d__law_net ["_law_script", "_law_town", "_law_knots", "_law_ties"] (spR K 4 1 g__law_net) := by
  have sc := sc__law_net
  refine fn_runR 1 (k := 1) (N := N__law_net) C.f__law_net sc__law_net fun cdv A outer s H E hr => ?_
  have hU := un1 hr
  exact ((sss_cons (ss_parL 6 7 (by rfl) sc.nd (se_op or_addD se_int (SE.sw (se_callR (ok__law_draw C T) (hr.mono (by omega)) (by rfl) C.g__law_draw C.f__law_draw.kp C.b__law_draw (sar_there (se_var 0) (sar_here 1 (sa_cons (se_var 2) sa_nil))) (by rfl)))) (sl_lst sa_nil))
      (sss_cons (ss_pre [4, 9] (ss_for (is := [4]) PassesOwn.never (by rfl) (si_range1 (by rfl) T.z_range (se_var 6)) (sg_name 4 sc.nd (by rfl) (by first | exact Or.inl rfl | exact Or.inr rfl) (by decide)) (sss_wip [4, 9] (sss_one (ss_expr (se_ext 7 (SL.se (sl_comp (own := [("_law_other", 9)]) (by rfl) sc.nd (si_range2 (by rfl) T.z_range (se_op or_addD (se_var 4) (SE.sw se_int)) (se_var 6)) (blkOk_by (own := [("_law_other", 9)]) (by rfl)) (fun _ _ _ _ _ => (sg_name 9 sc.nd (by rfl) (by first | exact Or.inl rfl | exact Or.inr rfl) (by decide))) (fun _ _ _ _ _ => sts_nil) (fun _ _ _ _ _ => (se_tup (sa_cons (se_var 4) (sa_cons (se_var 9) sa_nil))))))))))))
      (sss_cons (ss_while 1000 PassesOwn.never (SWt.st (sw_or (st_cmp (or_gtD hU.c64) (se_b1 cr_len (by rfl) T.z_len (by decide +kernel) (sw_own 7)) (SE.sw (se_var 3))) (sw_or1 (SWt.st (sw_and (st_val (sw_own 7)) (sw_and1 (st_cmp (or_eqB hU.c64) (se_callR (ok__law_draw C T) (hr.mono (by omega)) (by rfl) C.g__law_draw C.f__law_draw.kp C.b__law_draw (sar_there (se_var 0) (sar_here 1 (sa_cons se_int sa_nil))) (by rfl)) (SE.sw se_int)))))))) (sss_one (ss_expr (se_popAt 7 (se_callR (ok__law_draw C T) (hr.mono (by omega)) (by rfl) C.g__law_draw C.f__law_draw.kp C.b__law_draw (sar_there (se_var 0) (sar_here 1 (sa_cons (se_b1 cr_len (by rfl) T.z_len (by decide +kernel) (sw_own 7)) sa_nil))) (by rfl))))))
      (sss_cons (ss_compD 5 (own := [("_law_knot", 8)]) (by rfl) sc.nd (si_range1 (by rfl) T.z_range (se_var 6)) (blkOk_by (own := [("_law_knot", 8)]) (by rfl)) (fun _ _ _ _ _ => (sg_name 8 sc.nd (by rfl) (by first | exact Or.inl rfl | exact Or.inr rfl) (by decide))) (fun _ _ _ _ _ => (sts_one (st_val (SE.sw (se_callR (ok__law_draw C T) (hr.mono (by omega)) (by rfl) C.g__law_draw C.f__law_draw.kp C.b__law_draw (sar_there (se_var 0) (sar_here 1 (sa_cons se_int sa_nil))) (by rfl)))))) (fun _ _ _ _ _ => (se_var 8)) (sw_true (by rfl) (by rfl) (by rfl) (by decide +kernel)))
      (sss_one (ss_ret (se_tup (sa_cons (se_var 6) (sa_cons (se_t1 cr_tuple (by rfl) T.z_tuple (by decide +kernel) (sw_own 7)) (sa_cons (se_t1 cr_tuple (by rfl) T.z_tuple (by decide +kernel) (SE.sw (se_or (se_var 5) (se_one (SL.se (sl_lst (sa_cons (se_callR (ok__law_draw C T) (hr.mono (by omega)) (by rfl) C.g__law_draw C.f__law_draw.kp C.b__law_draw (sar_there (se_var 0) (sar_here 1 (sa_cons (se_var 6) sa_nil))) (by rfl)) sa_nil))))))) sa_nil)))))))))))
set_option maxHeartbeats 4000000 in
theorem ok__law_whole (C : Cx1 K mg Z) (T : Tx mg) : FnOk P w K mg base CX0 1 Z.a__law_whole Z.d__law_whole ["_law_thing", "_law_low", "_law_high"] (spF K 3 g__law_whole) := by
  have sc := sc__law_whole
  refine fn_run (k := 0) (N := N__law_whole) C.f__law_whole sc__law_whole fun cdv A outer s H E hr => ?_
  have hU := un1 hr
  exact ((sss_one (ss_ret (se_and (se_isi .int (by rfl) T.z_isinstance (by rfl) T.z_int (by decide +kernel) (SE.sw (se_var 0))) (se_and (se_not (SE.sw (se_isi .bool (by rfl) T.z_isinstance (by rfl) T.z_bool (by decide +kernel) (SE.sw (se_var 0))))) (se_one (se_chain (or_leB hU.c0) (or_leB hU.c0) (se_var 1) (se_var 0) (SE.sw (se_var 2)))))))))
set_option maxHeartbeats 4000000 in
theorem ok__law_rises (C : Cx1 K mg Z) (T : Tx mg) : FnOk P w K mg base CX0 1 Z.a__law_rises Z.d__law_rises ["_law_line"] (spF K 1 g__law_rises) := by
  have sc := sc__law_rises
  refine fn_run (k := 0) (N := N__law_rises) C.f__law_rises sc__law_rises fun cdv A outer s H E hr => ?_
  have hU := un1 hr
  exact ((sss_one (ss_ret (se_cmp (or_eqB hU.c64) (se_t1 cr_list (by rfl) T.z_list (by decide +kernel) (SE.sw (se_var 0))) (SE.sw (se_either sortDictB_or (se_sortDict (by rfl) (by rfl) T.z_sorted (by rfl) T.z_dict (SL.se (sl_comp (own := [("_law_one", 1)]) (by rfl) sc.nd (si_seq (se_var 0)) (blkOk_by (own := [("_law_one", 1)]) (by rfl)) (fun _ _ _ _ _ => (sg_name 1 sc.nd (by rfl) (by first | exact Or.inl rfl | exact Or.inr rfl) (by decide))) (fun _ _ _ _ _ => sts_nil) (fun _ _ _ _ _ => (se_tup (sa_cons (se_var 1) (sa_cons se_int sa_nil))))))) (se_sortDictT (by rfl) hU.c100 (by rfl) T.z_sorted (by rfl) T.z_dict (SL.se (sl_comp (own := [("_law_one", 1)]) (by rfl) sc.nd (si_seq (se_var 0)) (blkOk_by (own := [("_law_one", 1)]) (by rfl)) (fun _ _ _ _ _ => (sg_name 1 sc.nd (by rfl) (by first | exact Or.inl rfl | exact Or.inr rfl) (by decide))) (fun _ _ _ _ _ => sts_nil) (fun _ _ _ _ _ => (se_tup (sa_cons (se_var 1) (sa_cons se_int sa_nil)))))))))))))
set_option maxHeartbeats 4000000 in
theorem ok__law_is_net (C : Cx1 K mg Z) (T : Tx mg) : FnOk P w K mg base CX0 2 Z.a__law_is_net Z.d__law_is_net ["_law_thing"] (spF K 1 g__law_is_net) := by
  have sc := sc__law_is_net
  refine fn_run (k := 1) (N := N__law_is_net) C.f__law_is_net sc__law_is_net fun cdv A outer s H E hr => ?_
  have hU := un1 hr
  exact ((sss_cons (ss_if (SWt.st (sw_or (st_not (st_val (SE.sw (se_isi .tuple (by rfl) T.z_isinstance (by rfl) T.z_tuple (by decide +kernel) (SE.sw (se_var 0)))))) (sw_or (st_cmp (or_neB hU.c64) (se_b1 cr_len (by rfl) T.z_len (by decide +kernel) (SE.sw (se_var 0))) (SE.sw se_int)) (sw_or1 (st_not (st_val (SE.sw (se_call (ok__law_whole C T) (hr.mono (by omega)) (by rfl) C.g__law_whole C.f__law_whole.kp C.b__law_whole (sa_cons (se_ix (se_var 0) se_int) (sa_cons se_int (sa_cons se_int sa_nil))) (by rfl))))))))) (sss_one (ss_ret se_bl)) sss_nil)
      (sss_cons (ss_asgG (is := [2, 3, 4]) (se_var 0) (sg_tup (by rfl) (sgs_cons (sg_name 2 sc.nd (by rfl) (by first | exact Or.inl rfl | exact Or.inr rfl) (by decide)) (sgs_cons (sg_name 3 sc.nd (by rfl) (by first | exact Or.inl rfl | exact Or.inr rfl) (by decide)) (sgs_cons (sg_name 4 sc.nd (by rfl) (by first | exact Or.inl rfl | exact Or.inr rfl) (by decide)) sgs_nil)))))
      (sss_cons (ss_if (SWt.st (sw_or (st_not (st_val (SE.sw (se_isi .tuple (by rfl) T.z_isinstance (by rfl) T.z_tuple (by decide +kernel) (SE.sw (se_var 3)))))) (sw_or (st_cmp (or_gtD hU.c64) (se_b1 cr_len (by rfl) T.z_len (by decide +kernel) (SE.sw (se_var 3))) (SE.sw se_int)) (sw_or (st_not (st_val (SE.sw (se_isi .tuple (by rfl) T.z_isinstance (by rfl) T.z_tuple (by decide +kernel) (SE.sw (se_var 4)))))) (sw_or1 (st_cmp (or_eqB hU.c64) (se_var 4) (SE.sw (se_tup sa_nil)))))))) (sss_one (ss_ret se_bl)) sss_nil)
      (sss_cons (ss_pre [1, 6] (ss_for (is := [1]) PassesOwn.never (by rfl) (si_seq (se_var 3)) (sg_name 1 sc.nd (by rfl) (by first | exact Or.inl rfl | exact Or.inr rfl) (by decide)) (sss_wip [1, 6] (sss_cons (ss_if (SWt.st (sw_or (st_not (st_val (SE.sw (se_isi .tuple (by rfl) T.z_isinstance (by rfl) T.z_tuple (by decide +kernel) (SE.sw (se_var 1)))))) (sw_or (st_cmp (or_neB hU.c64) (se_b1 cr_len (by rfl) T.z_len (by decide +kernel) (SE.sw (se_var 1))) (SE.sw se_int)) (sw_or1 (st_not (st_val (SE.sw (se_b1 (cr_allD (by rfl)) (by rfl) T.z_all (by decide +kernel) (SE.sw (SL.se (sl_comp (own := [("_law_one", 6)]) (by rfl) sc.nd (si_seq (se_var 1)) (blkOk_by (own := [("_law_one", 6)]) (by rfl)) (fun _ _ _ _ _ => (sg_name 6 sc.nd (by rfl) (by first | exact Or.inl rfl | exact Or.inr rfl) (by decide))) (fun _ _ _ _ _ => sts_nil) (fun _ _ _ _ _ => (se_call (ok__law_whole C T) (hr.mono (by omega)) (by rfl) C.g__law_whole C.f__law_whole.kp C.b__law_whole (sa_cons (se_var 6) (sa_cons se_int (sa_cons (se_op or_subD (se_var 2) (SE.sw se_int)) sa_nil))) (by rfl)))))))))))))) (sss_one (ss_ret se_bl)) sss_nil)
      (sss_one (ss_if (st_cmp or_geB (se_ix (se_var 1) se_int) (SE.sw (se_ix (se_var 1) se_int))) (sss_one (ss_ret se_bl)) sss_nil))))))
      (sss_one (ss_ret (se_and (se_b1 (cr_allD (by rfl)) (by rfl) T.z_all (by decide +kernel) (SE.sw (SL.se (sl_comp (own := [("_law_knot", 5)]) (by rfl) sc.nd (si_seq (se_var 4)) (blkOk_by (own := [("_law_knot", 5)]) (by rfl)) (fun _ _ _ _ _ => (sg_name 5 sc.nd (by rfl) (by first | exact Or.inl rfl | exact Or.inr rfl) (by decide))) (fun _ _ _ _ _ => sts_nil) (fun _ _ _ _ _ => (se_call (ok__law_whole C T) (hr.mono (by omega)) (by rfl) C.g__law_whole C.f__law_whole.kp C.b__law_whole (sa_cons (se_var 5) (sa_cons se_int (sa_cons (se_op or_subD (se_var 2) (SE.sw se_int)) sa_nil))) (by rfl))))))) (se_and (se_call (ok__law_rises C T) (hr.mono (by omega)) (by rfl) C.g__law_rises C.f__law_rises.kp C.b__law_rises (sa_cons (se_var 4) sa_nil) (by rfl)) (se_one (se_call (ok__law_rises C T) (hr.mono (by omega)) (by rfl) C.g__law_rises C.f__law_rises.kp C.b__law_rises (sa_cons (se_var 3) sa_nil) (by rfl))))))))))))
set_option maxHeartbeats 4000000 in
theorem ok__law_is_route (C : Cx1 K mg Z) (T : Tx mg) : FnOk P w K mg base CX0 2 Z.a__law_is_route Z.d__law_is_route ["_law_net_here", "_law_thing"] (spF K 2 g__law_is_route) := by
  have sc := sc__law_is_route
  refine fn_run (k := 1) (N := N__law_is_route) C.f__law_is_route sc__law_is_route fun cdv A outer s H E hr => ?_
  have hU := un1 hr
  exact ((sss_cons (ss_if (SWt.st (sw_or (st_not (st_val (SE.sw (se_isi .tuple (by rfl) T.z_isinstance (by rfl) T.z_tuple (by decide +kernel) (SE.sw (se_var 1)))))) (sw_or (st_cmp (or_ltB hU.c0) (se_b1 cr_len (by rfl) T.z_len (by decide +kernel) (SE.sw (se_var 1))) (SE.sw se_int)) (sw_or1 (st_not (st_val (SE.sw (se_b1 (cr_allD (by rfl)) (by rfl) T.z_all (by decide +kernel) (SE.sw (SL.se (sl_comp (own := [("_law_one", 2)]) (by rfl) sc.nd (si_seq (se_var 1)) (blkOk_by (own := [("_law_one", 2)]) (by rfl)) (fun _ _ _ _ _ => (sg_name 2 sc.nd (by rfl) (by first | exact Or.inl rfl | exact Or.inr rfl) (by decide))) (fun _ _ _ _ _ => sts_nil) (fun _ _ _ _ _ => (se_call (ok__law_whole C T) (hr.mono (by omega)) (by rfl) C.g__law_whole C.f__law_whole.kp C.b__law_whole (sa_cons (se_var 2) (sa_cons se_int (sa_cons (se_op or_subD (se_ix (se_var 0) se_int) (SE.sw se_int)) sa_nil))) (by rfl)))))))))))))) (sss_one (ss_ret se_bl)) sss_nil)
      (sss_cons (ss_if (SWt.st (sw_or (st_cmp (or_neB hU.c64) (se_lenDict (by rfl) (by rfl) T.z_len (by rfl) T.z_dict (SL.se (sl_comp (own := [("_law_knot", 4)]) (by rfl) sc.nd (si_seq (se_var 1)) (blkOk_by (own := [("_law_knot", 4)]) (by rfl)) (fun _ _ _ _ _ => (sg_name 4 sc.nd (by rfl) (by first | exact Or.inl rfl | exact Or.inr rfl) (by decide))) (fun _ _ _ _ _ => sts_nil) (fun _ _ _ _ _ => (se_tup (sa_cons (se_var 4) (sa_cons se_int sa_nil))))))) (SE.sw (se_b1 cr_len (by rfl) T.z_len (by decide +kernel) (SE.sw (se_var 1))))) (sw_or1 (st_cmp or_geB (se_ix (se_var 1) se_int) (SE.sw (se_ix (se_var 1) (se_neg se_int))))))) (sss_one (ss_ret se_bl)) sss_nil)
      (sss_cons (ss_if (SWt.st (sw_or (st_cmp (or_notInB hU.c65) (se_ix (se_var 1) se_int) (SE.sw (se_ix (se_var 0) se_int))) (sw_or1 (st_cmp (or_notInB hU.c65) (se_ix (se_var 1) (se_neg se_int)) (SE.sw (se_ix (se_var 0) se_int)))))) (sss_one (ss_ret se_bl)) sss_nil)
      (sss_one (ss_ret (se_b1 (cr_allD (by rfl)) (by rfl) T.z_all (by decide +kernel) (SE.sw (SL.se (sl_comp (own := [("_law_one", 2), ("_law_other", 3)]) (by rfl) sc.nd (si_zip (by rfl) T.z_zip (se_sl (se_var 1) sp_none (sp_some (se_neg se_int))) (se_sl (se_var 1) (sp_some se_int) sp_none)) (blkOk_by (own := [("_law_one", 2), ("_law_other", 3)]) (by rfl)) (fun _ _ _ _ _ => (sg_tup (by rfl) (sgs_cons (sg_name 2 sc.nd (by rfl) (by first | exact Or.inl rfl | exact Or.inr rfl) (by decide)) (sgs_cons (sg_name 3 sc.nd (by rfl) (by first | exact Or.inl rfl | exact Or.inr rfl) (by decide)) sgs_nil)))) (fun _ _ _ _ _ => sts_nil) (fun _ _ _ _ _ => (se_cmp (or_inB hU.c65) (se_tup (sa_cons (se_b2 (cr_min2 (by rfl)) (by rfl) T.z_min (by decide +kernel) (se_var 2) (SE.sw (se_var 3))) (sa_cons (se_b2 (cr_max2 (by rfl)) (by rfl) T.z_max (by decide +kernel) (se_var 2) (SE.sw (se_var 3))) sa_nil))) (SE.sw (se_ix (se_var 0) se_int))))))))))))))
set_option maxHeartbeats 4000000 in
theorem okr__law_bent (C : Cx1 K mg Z) (T : Tx mg) : ∀ n, FnOk P w K mg base CX0 (0 + n) Z.a__law_bent Z.d__law_bent ["_law_thing"] (spF K 1 (gr__law_bent n))
  | 0 => spF_none
  | n + 1 => by
    have G := okr__law_bent C T n
    have sc := sc__law_bent
    refine fn_run (k := 0 + n) (N := N__law_bent) C.f__law_bent sc__law_bent fun cdv A outer s H E hr => ?_
    have hU := un1 hr
    exact ((sss_cons (ss_if (st_not (st_val (SE.sw (se_isi .tuple (by rfl) T.z_isinstance (by rfl) T.z_tuple (by decide +kernel) (SE.sw (se_var 0)))))) (sss_one (ss_ret (SL.se (sl_lst (sa_cons (se_op or_addD (se_var 0) (SE.sw se_int)) (sa_cons (se_op or_subD (se_var 0) (SE.sw se_int)) (sa_cons se_bl (sa_cons se_bl (sa_cons se_non (sa_cons (se_t1 cr_str (by rfl) T.z_str (by decide +kernel) (SE.sw (se_var 0))) (sa_cons (se_tup (sa_cons (se_var 0) sa_nil)) (sa_cons se_int (sa_cons (SL.se (sl_lst (sa_cons (se_var 0) sa_nil))) sa_nil))))))))))))) sss_nil)
      (sss_cons (ss_new 1 sc.nd (sl_lst (sa_cons (se_t1 cr_list (by rfl) T.z_list (by decide +kernel) (SE.sw (se_var 0))) (sa_cons (se_rev (se_var 0)) (sa_cons (se_sl (se_var 0) (sp_some se_int) sp_none) (sa_cons (se_op or_addD (se_var 0) (SE.sw (se_sl (se_var 0) sp_none (sp_some se_int)))) (sa_cons (se_op or_repQ (se_sl (se_var 0) sp_none (sp_some se_int)) (SE.sw se_int)) (sa_cons (se_tup (sa_cons (se_var 0) sa_nil)) (sa_cons se_non (sa_cons (se_tup sa_nil) (sa_cons (se_op or_addD (se_var 0) (SE.sw (se_tup (sa_cons se_non sa_nil)))) sa_nil)))))))))))
      (sss_cons (ss_pre [2, 3, 4] (ss_for (is := [2, 3]) PassesOwn.never (by rfl) (si_enum (by rfl) T.z_enumerate (se_var 0)) (sg_tup (by rfl) (sgs_cons (sg_name 2 sc.nd (by rfl) (by first | exact Or.inl rfl | exact Or.inr rfl) (by decide)) (sgs_cons (sg_name 3 sc.nd (by rfl) (by first | exact Or.inl rfl | exact Or.inr rfl) (by decide)) sgs_nil))) (sss_wip [2, 3, 4] (sss_one (ss_expr (se_ext 1 (SL.se (sl_comp (own := [("_law_bad", 4)]) (by rfl) sc.nd (si_seq (se_call G hr (by rfl) C.g__law_bent C.f__law_bent.kp C.b__law_bent (sa_cons (se_var 3) sa_nil) (by rfl))) (blkOk_by (own := [("_law_bad", 4)]) (by rfl)) (fun _ _ _ _ _ => (sg_name 4 sc.nd (by rfl) (by first | exact Or.inl rfl | exact Or.inr rfl) (by decide))) (fun _ _ _ _ _ => sts_nil) (fun _ _ _ _ _ => (se_op or_addD (se_op or_addD (se_sl (se_var 0) sp_none (sp_some (se_var 2))) (SE.sw (se_tup (sa_cons (se_var 4) sa_nil)))) (SE.sw (se_sl (se_var 0) (sp_some (se_op or_addD (se_var 2) (SE.sw se_int))) sp_none))))))))))))
      (sss_one (ss_frz 1 (ss_ret (se_var 1))))))))
theorem ok__law_bent (C : Cx1 K mg Z) (T : Tx mg) : FnOk P w K mg base CX0 40 Z.a__law_bent Z.d__law_bent ["_law_thing"] (spF K 1 g__law_bent) := okr__law_bent C T 40
set_option maxHeartbeats 4000000 in
theorem ok_law (C : Cx1 K mg Z) (T : Tx mg) : FnOk P w K mg base CX0 43 Z.a_law Z.d_law ["_law_script"] (spF K 1 g_law) := by
  have sc := sc_law
  refine fn_run (k := 42) (N := N_law) C.f_law sc_law fun cdv A outer s H E hr => ?_
  have hU := un1 hr
  exact ((sss_cons (ss_new 1 sc.nd (sl_lst sa_nil))
      (sss_cons (ss_pre [2, 3, 4, 5, 6, 7, 8, 9, 10] (ss_for (is := [2]) PassesOwn.never (by rfl) (si_range1 (by rfl) T.z_range se_int) (sg_name 2 sc.nd (by rfl) (by first | exact Or.inl rfl | exact Or.inr rfl) (by decide)) (sss_wip [2, 3, 4, 5, 6, 7, 8, 9, 10] (sss_cons (ss_asg 3 sc.nd (se_callR (ok__law_net C T) (hr.mono (by omega)) (by rfl) C.g__law_net C.f__law_net.kp C.b__law_net (sar_there (se_var 0) (sar_here 1 (sa_cons se_int (sa_cons se_int sa_nil)))) (by rfl)))
      (sss_cons (ss_if (st_cmp or_isNotB (se_call (ok_is_net C T) (hr.mono (by omega)) (by rfl) C.g_is_net C.f_is_net.kp C.b_is_net (sa_cons (se_var 3) sa_nil) (by rfl)) (SE.sw se_bl)) (sss_one (ss_ret se_bl)) sss_nil)
      (sss_cons (ss_pre [4] (ss_for (is := [4]) PassesOwn.never (by rfl) (si_seq (se_call (ok__law_bent C T) (hr.mono (by omega)) (by rfl) C.g__law_bent C.f__law_bent.kp C.b__law_bent (sa_cons (se_var 3) sa_nil) (by rfl))) (sg_name 4 sc.nd (by rfl) (by first | exact Or.inl rfl | exact Or.inr rfl) (by decide)) (sss_wip [4] (sss_one (ss_if (st_cmp (or_neB hU.c64) (se_call (ok_is_net C T) (hr.mono (by omega)) (by rfl) C.g_is_net C.f_is_net.kp C.b_is_net (sa_cons (se_var 4) sa_nil) (by rfl)) (SE.sw (se_call (ok__law_is_net C T) (hr.mono (by omega)) (by rfl) C.g__law_is_net C.f__law_is_net.kp C.b__law_is_net (sa_cons (se_var 4) sa_nil) (by rfl)))) (sss_one (ss_ret se_bl)) sss_nil)))))
      (sss_cons (ss_asg 5 sc.nd (se_call (ok_routes C T) (hr.mono (by omega)) (by rfl) C.g_routes C.f_routes.kp C.b_routes (sa_cons (se_var 3) sa_nil) (by rfl)))
      (sss_cons (ss_pre [4, 6] (ss_for (is := [6]) PassesOwn.never (by rfl) (si_seq (se_op or_addD (se_sl (se_var 5) sp_none (sp_some se_int)) (SE.sw (se_sl (se_var 5) (sp_some (se_neg se_int)) sp_none)))) (sg_name 6 sc.nd (by rfl) (by first | exact Or.inl rfl | exact Or.inr rfl) (by decide)) (sss_wip [4, 6] (sss_one (ss_pre [4] (ss_for (is := [4]) PassesOwn.never (by rfl) (si_seq (se_call (ok__law_bent C T) (hr.mono (by omega)) (by rfl) C.g__law_bent C.f__law_bent.kp C.b__law_bent (sa_cons (se_var 6) sa_nil) (by rfl))) (sg_name 4 sc.nd (by rfl) (by first | exact Or.inl rfl | exact Or.inr rfl) (by decide)) (sss_wip [4] (sss_one (ss_if (st_cmp (or_neB hU.c64) (se_call (ok_is_route C T) (hr.mono (by omega)) (by rfl) C.g_is_route C.f_is_route.kp C.b_is_route (sa_cons (se_var 3) (sa_cons (se_var 4) sa_nil)) (by rfl)) (SE.sw (se_call (ok__law_is_route C T) (hr.mono (by omega)) (by rfl) C.g__law_is_route C.f__law_is_route.kp C.b__law_is_route (sa_cons (se_var 3) (sa_cons (se_var 4) sa_nil)) (by rfl)))) (sss_one (ss_ret se_bl)) sss_nil)))))))))
      (sss_cons (ss_new 7 sc.nd (sl_lst sa_nil))
      (sss_cons (ss_pre [8, 10] (ss_for (is := [8]) PassesOwn.never (by rfl) (si_range1 (by rfl) T.z_range se_int) (sg_name 8 sc.nd (by rfl) (by first | exact Or.inl rfl | exact Or.inr rfl) (by decide)) (sss_wip [8, 10] (sss_one (ss_expr (se_ext 7 (SL.se (sl_comp (own := [("_law_other", 10)]) (by rfl) sc.nd (si_range2 (by rfl) T.z_range (se_op or_addD (se_var 8) (SE.sw se_int)) se_int) (blkOk_by (own := [("_law_other", 10)]) (by rfl)) (fun _ _ _ _ _ => (sg_name 10 sc.nd (by rfl) (by first | exact Or.inl rfl | exact Or.inr rfl) (by decide))) (fun _ _ _ _ _ => sts_nil) (fun _ _ _ _ _ => (se_tup (sa_cons (se_var 8) (sa_cons (se_var 10) sa_nil))))))))))))
      (sss_cons (ss_frz 7 (ss_pre [9] (ss_for (is := [9]) PassesOwn.never (by rfl) (si_seq (se_tup (sa_cons se_int (sa_cons se_int (sa_cons se_int sa_nil))))) (sg_name 9 sc.nd (by rfl) (by first | exact Or.inl rfl | exact Or.inr rfl) (by decide)) (sss_wip [9] (sss_one (ss_if (st_cmp (or_neB hU.c64) (se_call (ok_is_net C T) (hr.mono (by omega)) (by rfl) C.g_is_net C.f_is_net.kp C.b_is_net (sa_cons (se_tup (sa_cons se_int (sa_cons (se_t1 cr_tuple (by rfl) T.z_tuple (by decide +kernel) (SE.sw (se_sl (se_var 7) sp_none (sp_some (se_var 9))))) (sa_cons (se_tup (sa_cons se_int sa_nil)) sa_nil)))) sa_nil) (by rfl)) (SE.sw (se_cmp (or_ltB hU.c0) (se_var 9) (SE.sw se_int)))) (sss_one (ss_ret se_bl)) sss_nil))))))
      (sss_one (ss_if (SWt.st (sw_or (st_val (SE.sw (se_call (ok_is_net C T) (hr.mono (by omega)) (by rfl) C.g_is_net C.f_is_net.kp C.b_is_net (sa_cons (se_tup (sa_cons se_int (sa_cons (se_tup sa_nil) (sa_cons (se_tup (sa_cons se_int sa_nil)) sa_nil)))) sa_nil) (by rfl)))) (sw_or (st_val (SE.sw (se_call (ok_is_net C T) (hr.mono (by omega)) (by rfl) C.g_is_net C.f_is_net.kp C.b_is_net (sa_cons (se_tup (sa_cons se_int (sa_cons (se_tup sa_nil) (sa_cons (se_tup (sa_cons se_int sa_nil)) sa_nil)))) sa_nil) (by rfl)))) (sw_or1 (st_not (st_val (SE.sw (se_call (ok_is_net C T) (hr.mono (by omega)) (by rfl) C.g_is_net C.f_is_net.kp C.b_is_net (sa_cons (se_tup (sa_cons se_int (sa_cons (se_tup sa_nil) (sa_cons (se_tup (sa_cons se_int sa_nil)) sa_nil)))) sa_nil) (by rfl))))))))) (sss_one (ss_ret se_bl)) sss_nil)))))))))))))
      (sss_one (ss_ret se_bl)))))
end
theorem all_mk {l : PySem.W.OpenLaw} {w : World} {K : PySem.W.Frag} {h : Heap} {mg : Str → Option Value} {fa : Addr} (X : K.In h) (G : h.Ns mainGlobals mg) (hfa : mg "law" = some (.ref fa))
    {f0 : Addr} {od0 an0 : Option Addr} {sl0 : Array (Option Value)} {oc0 kV0 dc0 pm0 cd0 ct0 : Value}
    {f1 : Addr} {od1 an1 : Option Addr} {sl1 : Array (Option Value)} {oc1 kV1 dc1 pm1 cd1 ct1 : Value}
    {f2 : Addr} {od2 an2 : Option Addr} {sl2 : Array (Option Value)} {oc2 kV2 dc2 pm2 cd2 ct2 : Value}
    {f3 : Addr} {od3 an3 : Option Addr} {sl3 : Array (Option Value)} {oc3 kV3 dc3 pm3 cd3 ct3 : Value}
    {f4 : Addr} {od4 an4 : Option Addr} {sl4 : Array (Option Value)} {oc4 kV4 dc4 pm4 cd4 ct4 : Value}
    {f5 : Addr} {od5 an5 : Option Addr} {sl5 : Array (Option Value)} {oc5 kV5 dc5 pm5 cd5 ct5 : Value}
    {f6 : Addr} {od6 an6 : Option Addr} {sl6 : Array (Option Value)} {oc6 kV6 dc6 pm6 cd6 ct6 : Value}
    {f7 : Addr} {od7 an7 : Option Addr} {sl7 : Array (Option Value)} {oc7 kV7 dc7 pm7 cd7 ct7 : Value}
    {f8 : Addr} {od8 an8 : Option Addr} {sl8 : Array (Option Value)} {oc8 kV8 dc8 pm8 cd8 ct8 : Value}
    {f9 : Addr} {od9 an9 : Option Addr} {sl9 : Array (Option Value)} {oc9 kV9 dc9 pm9 cd9 ct9 : Value}
    {f10 : Addr} {od10 an10 : Option Addr} {sl10 : Array (Option Value)} {oc10 kV10 dc10 pm10 cd10 ct10 : Value}
    {f11 : Addr} {od11 an11 : Option Addr} {sl11 : Array (Option Value)} {oc11 kV11 dc11 pm11 cd11 ct11 : Value}
    {f12 : Addr} {od12 an12 : Option Addr} {sl12 : Array (Option Value)} {oc12 kV12 dc12 pm12 cd12 ct12 : Value}
    {f13 : Addr} {od13 an13 : Option Addr} {sl13 : Array (Option Value)} {oc13 kV13 dc13 pm13 cd13 ct13 : Value}
    {f14 : Addr} {od14 an14 : Option Addr} {sl14 : Array (Option Value)} {oc14 kV14 dc14 pm14 cd14 ct14 : Value}
    {f15 : Addr} {od15 an15 : Option Addr} {sl15 : Array (Option Value)} {oc15 kV15 dc15 pm15 cd15 ct15 : Value}
    {tk0 : Tok}
    {tk1 : Tok}
    (a0 : PySem.W.nsIn K mainGlobals "is_whole" = some (some (.ref f0))) (l0 : K.lookup f0 = some ⟨oc0, od0, .func (PySem.W.fnOf "is_whole" "is_whole" (defArgs s_is_whole) (defBody s_is_whole) (defScope s_is_whole) .none kV0 dc0 pm0 an0 cd0 ct0), sl0⟩) (c0 : PySem.W.codeIn K cd0 "is_whole" = true) (k0 : PySem.W.keepIn K (.ref f0) = true)
    (a1 : PySem.W.nsIn K mainGlobals "are_rising" = some (some (.ref f1))) (l1 : K.lookup f1 = some ⟨oc1, od1, .func (PySem.W.fnOf "are_rising" "are_rising" (defArgs s_are_rising) (defBody s_are_rising) (defScope s_are_rising) .none kV1 dc1 pm1 an1 cd1 ct1), sl1⟩) (c1 : PySem.W.codeIn K cd1 "are_rising" = true) (k1 : PySem.W.keepIn K (.ref f1) = true)
    (a2 : PySem.W.nsIn K mainGlobals "is_tie" = some (some (.ref f2))) (l2 : K.lookup f2 = some ⟨oc2, od2, .func (PySem.W.fnOf "is_tie" "is_tie" (defArgs s_is_tie) (defBody s_is_tie) (defScope s_is_tie) .none kV2 dc2 pm2 an2 cd2 ct2), sl2⟩) (c2 : PySem.W.codeIn K cd2 "is_tie" = true) (k2 : PySem.W.keepIn K (.ref f2) = true)
    (a3 : PySem.W.nsIn K mainGlobals "is_net" = some (some (.ref f3))) (l3 : K.lookup f3 = some ⟨oc3, od3, .func (PySem.W.fnOf "is_net" "is_net" (defArgs s_is_net) (defBody s_is_net) (defScope s_is_net) .none kV3 dc3 pm3 an3 cd3 ct3), sl3⟩) (c3 : PySem.W.codeIn K cd3 "is_net" = true) (k3 : PySem.W.keepIn K (.ref f3) = true)
    (a4 : PySem.W.nsIn K mainGlobals "beside" = some (some (.ref f4))) (l4 : K.lookup f4 = some ⟨oc4, od4, .func (PySem.W.fnOf "beside" "beside" (defArgs s_beside) (defBody s_beside) (defScope s_beside) .none kV4 dc4 pm4 an4 cd4 ct4), sl4⟩) (c4 : PySem.W.codeIn K cd4 "beside" = true) (k4 : PySem.W.keepIn K (.ref f4) = true)
    (a5 : PySem.W.nsIn K mainGlobals "led_on" = some (some (.ref f5))) (l5 : K.lookup f5 = some ⟨oc5, od5, .func (PySem.W.fnOf "led_on" "led_on" (defArgs s_led_on) (defBody s_led_on) (defScope s_led_on) .none kV5 dc5 pm5 an5 cd5 ct5), sl5⟩) (c5 : PySem.W.codeIn K cd5 "led_on" = true) (k5 : PySem.W.keepIn K (.ref f5) = true)
    (a6 : PySem.W.nsIn K mainGlobals "routes" = some (some (.ref f6))) (l6 : K.lookup f6 = some ⟨oc6, od6, .func (PySem.W.fnOf "routes" "routes" (defArgs s_routes) (defBody s_routes) (defScope s_routes) .none kV6 dc6 pm6 an6 cd6 ct6), sl6⟩) (c6 : PySem.W.codeIn K cd6 "routes" = true) (k6 : PySem.W.keepIn K (.ref f6) = true)
    (a7 : PySem.W.nsIn K mainGlobals "is_route" = some (some (.ref f7))) (l7 : K.lookup f7 = some ⟨oc7, od7, .func (PySem.W.fnOf "is_route" "is_route" (defArgs s_is_route) (defBody s_is_route) (defScope s_is_route) .none kV7 dc7 pm7 an7 cd7 ct7), sl7⟩) (c7 : PySem.W.codeIn K cd7 "is_route" = true) (k7 : PySem.W.keepIn K (.ref f7) = true)
    (a8 : PySem.W.nsIn K mainGlobals "_law_draw" = some (some (.ref f8))) (l8 : K.lookup f8 = some ⟨oc8, od8, .func (PySem.W.fnOf "_law_draw" "_law_draw" (defArgs s__law_draw) (defBody s__law_draw) (defScope s__law_draw) .none kV8 dc8 pm8 an8 cd8 ct8), sl8⟩) (c8 : PySem.W.codeIn K cd8 "_law_draw" = true) (k8 : PySem.W.keepIn K (.ref f8) = true)
    (a9 : PySem.W.nsIn K mainGlobals "_law_net" = some (some (.ref f9))) (l9 : K.lookup f9 = some ⟨oc9, od9, .func (PySem.W.fnOf "_law_net" "_law_net" (defArgs s__law_net) (defBody s__law_net) (defScope s__law_net) .none kV9 dc9 pm9 an9 cd9 ct9), sl9⟩) (c9 : PySem.W.codeIn K cd9 "_law_net" = true) (k9 : PySem.W.keepIn K (.ref f9) = true)
    (a10 : PySem.W.nsIn K mainGlobals "_law_whole" = some (some (.ref f10))) (l10 : K.lookup f10 = some ⟨oc10, od10, .func (PySem.W.fnOf "_law_whole" "_law_whole" (defArgs s__law_whole) (defBody s__law_whole) (defScope s__law_whole) .none kV10 dc10 pm10 an10 cd10 ct10), sl10⟩) (c10 : PySem.W.codeIn K cd10 "_law_whole" = true) (k10 : PySem.W.keepIn K (.ref f10) = true)
    (a11 : PySem.W.nsIn K mainGlobals "_law_rises" = some (some (.ref f11))) (l11 : K.lookup f11 = some ⟨oc11, od11, .func (PySem.W.fnOf "_law_rises" "_law_rises" (defArgs s__law_rises) (defBody s__law_rises) (defScope s__law_rises) .none kV11 dc11 pm11 an11 cd11 ct11), sl11⟩) (c11 : PySem.W.codeIn K cd11 "_law_rises" = true) (k11 : PySem.W.keepIn K (.ref f11) = true)
    (a12 : PySem.W.nsIn K mainGlobals "_law_is_net" = some (some (.ref f12))) (l12 : K.lookup f12 = some ⟨oc12, od12, .func (PySem.W.fnOf "_law_is_net" "_law_is_net" (defArgs s__law_is_net) (defBody s__law_is_net) (defScope s__law_is_net) .none kV12 dc12 pm12 an12 cd12 ct12), sl12⟩) (c12 : PySem.W.codeIn K cd12 "_law_is_net" = true) (k12 : PySem.W.keepIn K (.ref f12) = true)
    (a13 : PySem.W.nsIn K mainGlobals "_law_is_route" = some (some (.ref f13))) (l13 : K.lookup f13 = some ⟨oc13, od13, .func (PySem.W.fnOf "_law_is_route" "_law_is_route" (defArgs s__law_is_route) (defBody s__law_is_route) (defScope s__law_is_route) .none kV13 dc13 pm13 an13 cd13 ct13), sl13⟩) (c13 : PySem.W.codeIn K cd13 "_law_is_route" = true) (k13 : PySem.W.keepIn K (.ref f13) = true)
    (a14 : PySem.W.nsIn K mainGlobals "_law_bent" = some (some (.ref f14))) (l14 : K.lookup f14 = some ⟨oc14, od14, .func (PySem.W.fnOf "_law_bent" "_law_bent" (defArgs s__law_bent) (defBody s__law_bent) (defScope s__law_bent) .none kV14 dc14 pm14 an14 cd14 ct14), sl14⟩) (c14 : PySem.W.codeIn K cd14 "_law_bent" = true) (k14 : PySem.W.keepIn K (.ref f14) = true)
    (a15 : PySem.W.nsIn K mainGlobals "law" = some (some (.ref f15))) (l15 : K.lookup f15 = some ⟨oc15, od15, .func (PySem.W.fnOf "law" "law" (defArgs s_law) (defBody s_law) (defScope s_law) .none kV15 dc15 pm15 an15 cd15 ct15), sl15⟩) (c15 : PySem.W.codeIn K cd15 "law" = true) (k15 : PySem.W.keepIn K (.ref f15) = true)
    (z0 : PySem.W.nsIn K mainGlobals "all" = some none)
    (z1 : PySem.W.nsIn K mainGlobals "bool" = some none)
    (z2 : PySem.W.nsIn K mainGlobals "dict" = some none)
    (z3 : PySem.W.nsIn K mainGlobals "enumerate" = some none)
    (z4 : PySem.W.nsIn K mainGlobals "int" = some none)
    (z5 : PySem.W.nsIn K mainGlobals "isinstance" = some none)
    (z6 : PySem.W.nsIn K mainGlobals "len" = some none)
    (z7 : PySem.W.nsIn K mainGlobals "list" = some none)
    (z8 : PySem.W.nsIn K mainGlobals "max" = some none)
    (z9 : PySem.W.nsIn K mainGlobals "min" = some none)
    (z10 : PySem.W.nsIn K mainGlobals "range" = some none)
    (z11 : PySem.W.nsIn K mainGlobals "set" = some none)
    (z12 : PySem.W.nsIn K mainGlobals "sorted" = some none)
    (z13 : PySem.W.nsIn K mainGlobals "str" = some none)
    (z14 : PySem.W.nsIn K mainGlobals "tuple" = some none)
    (z15 : PySem.W.nsIn K mainGlobals "zip" = some none)
    (m0 : PySem.W.nsIn K mainGlobals "KNOTS_MOST" = some (some (.int 7 tk0)))
    (m1 : PySem.W.nsIn K mainGlobals "TIES_MOST" = some (some (.int 9 tk1)))
    : ∃ fd : FuncData, (∀ (s : Shared) (v : Value), BindsTo s fd ⟨[v], []⟩ [("_law_script", v)]) ∧ ∀ base : Heap, K.In base → base.Ns mainGlobals mg → FnOk l.prog w K mg base CX0 43 fa fd ["_law_script"] (spF K 1 g_law) := by
  have e := hfa.symm.trans (PySem.W.mg_of X G a15)
  cases e
  have F0 := fun_mk (st := s_is_whole) l0 c0 k0
  have b0 := F0.binds (ps := ["thing", "low", "high"]) fun _ _ _ _ _ _ us hl => match us, hl with | [_, _, _], _ => rfl
  have F1 := fun_mk (st := s_are_rising) l1 c1 k1
  have b1 := F1.binds (ps := ["row"]) fun _ _ _ _ _ _ us hl => match us, hl with | [_], _ => rfl
  have F2 := fun_mk (st := s_is_tie) l2 c2 k2
  have b2 := F2.binds (ps := ["thing", "many"]) fun _ _ _ _ _ _ us hl => match us, hl with | [_, _], _ => rfl
  have F3 := fun_mk (st := s_is_net) l3 c3 k3
  have b3 := F3.binds (ps := ["thing"]) fun _ _ _ _ _ _ us hl => match us, hl with | [_], _ => rfl
  have F4 := fun_mk (st := s_beside) l4 c4 k4
  have b4 := F4.binds (ps := ["net", "knot"]) fun _ _ _ _ _ _ us hl => match us, hl with | [_, _], _ => rfl
  have F5 := fun_mk (st := s_led_on) l5 c5 k5
  have b5 := F5.binds (ps := ["net", "way"]) fun _ _ _ _ _ _ us hl => match us, hl with | [_, _], _ => rfl
  have F6 := fun_mk (st := s_routes) l6 c6 k6
  have b6 := F6.binds (ps := ["net"]) fun _ _ _ _ _ _ us hl => match us, hl with | [_], _ => rfl
  have F7 := fun_mk (st := s_is_route) l7 c7 k7
  have b7 := F7.binds (ps := ["net", "thing"]) fun _ _ _ _ _ _ us hl => match us, hl with | [_, _], _ => rfl
  have F8 := fun_mk (st := s__law_draw) l8 c8 k8
  have b8 := F8.binds (ps := ["_law_script", "_law_town", "_law_many"]) fun _ _ _ _ _ _ us hl => match us, hl with | [_, _, _], _ => rfl
  have F9 := fun_mk (st := s__law_net) l9 c9 k9
  have b9 := F9.binds (ps := ["_law_script", "_law_town", "_law_knots", "_law_ties"]) fun _ _ _ _ _ _ us hl => match us, hl with | [_, _, _, _], _ => rfl
  have F10 := fun_mk (st := s__law_whole) l10 c10 k10
  have b10 := F10.binds (ps := ["_law_thing", "_law_low", "_law_high"]) fun _ _ _ _ _ _ us hl => match us, hl with | [_, _, _], _ => rfl
  have F11 := fun_mk (st := s__law_rises) l11 c11 k11
  have b11 := F11.binds (ps := ["_law_line"]) fun _ _ _ _ _ _ us hl => match us, hl with | [_], _ => rfl
  have F12 := fun_mk (st := s__law_is_net) l12 c12 k12
  have b12 := F12.binds (ps := ["_law_thing"]) fun _ _ _ _ _ _ us hl => match us, hl with | [_], _ => rfl
  have F13 := fun_mk (st := s__law_is_route) l13 c13 k13
  have b13 := F13.binds (ps := ["_law_net_here", "_law_thing"]) fun _ _ _ _ _ _ us hl => match us, hl with | [_, _], _ => rfl
  have F14 := fun_mk (st := s__law_bent) l14 c14 k14
  have b14 := F14.binds (ps := ["_law_thing"]) fun _ _ _ _ _ _ us hl => match us, hl with | [_], _ => rfl
  have F15 := fun_mk (st := s_law) l15 c15 k15
  have b15 := F15.binds (ps := ["_law_script"]) fun _ _ _ _ _ _ us hl => match us, hl with | [_], _ => rfl
  have C : Cx1 K mg ⟨f0, _, f1, _, f2, _, f3, _, f4, _, f5, _, f6, _, f7, _, f8, _, f9, _, f10, _, f11, _, f12, _, f13, _, f14, _, fa, _⟩ := ⟨F0, b0, PySem.W.mg_of X G a0, F1, b1, PySem.W.mg_of X G a1, F2, b2, PySem.W.mg_of X G a2, F3, b3, PySem.W.mg_of X G a3, F4, b4, PySem.W.mg_of X G a4, F5, b5, PySem.W.mg_of X G a5, F6, b6, PySem.W.mg_of X G a6, F7, b7, PySem.W.mg_of X G a7, F8, b8, PySem.W.mg_of X G a8, F9, b9, PySem.W.mg_of X G a9, F10, b10, PySem.W.mg_of X G a10, F11, b11, PySem.W.mg_of X G a11, F12, b12, PySem.W.mg_of X G a12, F13, b13, PySem.W.mg_of X G a13, F14, b14, PySem.W.mg_of X G a14, F15, b15, PySem.W.mg_of X G a15⟩
  have T : Tx mg := ⟨PySem.W.mg_none_of X G z0, PySem.W.mg_none_of X G z1, PySem.W.mg_none_of X G z2, PySem.W.mg_none_of X G z3, PySem.W.mg_none_of X G z4, PySem.W.mg_none_of X G z5, PySem.W.mg_none_of X G z6, PySem.W.mg_none_of X G z7, PySem.W.mg_none_of X G z8, PySem.W.mg_none_of X G z9, PySem.W.mg_none_of X G z10, PySem.W.mg_none_of X G z11, PySem.W.mg_none_of X G z12, PySem.W.mg_none_of X G z13, PySem.W.mg_none_of X G z14, PySem.W.mg_none_of X G z15, ⟨_, PySem.W.mg_of X G m0⟩, ⟨_, PySem.W.mg_of X G m1⟩⟩
  exact ⟨_, fun s v => .of_eq rfl, fun base _ _ => ok_law C T⟩
end L_k37
open PySem PySem.W PyProof.Rows
set_option maxHeartbeats 0 in
theorem PySem.Challenge.cw_probeties_k37_whole_things_bent_holds : PySem.Challenge.rw_probeties_k37_whole_things_bent.Holds := by
  w_on; o_law; k_head; (case hw => w_witness2)
  k_fill
  refine L2.walk_of (l := PySem.Challenge.rw_probeties_k37_whole_things_bent) (n := 63) (k := 43) (x := "_law_script") (CX := fun _ => L2.CX0) (sp := fun w => DL.spF _ 1 L_k37.g_law) rfl (by decide) rfl ⟨rfl, by decide, by decide⟩ (fun w h Y => PySem.W.kIn_of Y) ?F (fun _ _ a ns hl _ hS => DL.law_end (L_k37.law_true ns hl) hS) (fun _ _ _ _ _ h => h)
  case F =>
    intro w mg fa h KX G hmg
    refine' L_k37.all_mk KX G hmg ?a0 ?l0 ?c0 ?k0 ?a1 ?l1 ?c1 ?k1 ?a2 ?l2 ?c2 ?k2 ?a3 ?l3 ?c3 ?k3 ?a4 ?l4 ?c4 ?k4 ?a5 ?l5 ?c5 ?k5 ?a6 ?l6 ?c6 ?k6 ?a7 ?l7 ?c7 ?k7 ?a8 ?l8 ?c8 ?k8 ?a9 ?l9 ?c9 ?k9 ?a10 ?l10 ?c10 ?k10 ?a11 ?l11 ?c11 ?k11 ?a12 ?l12 ?c12 ?k12 ?a13 ?l13 ?c13 ?k13 ?a14 ?l14 ?c14 ?k14 ?a15 ?l15 ?c15 ?k15 ?z0 ?z1 ?z2 ?z3 ?z4 ?z5 ?z6 ?z7 ?z8 ?z9 ?z10 ?z11 ?z12 ?z13 ?z14 ?z15 ?m0 ?m1
    (case a0 => k_is)
    (case l0 => k_is)
    (case c0 => k_is)
    (case k0 => k_is)
    (case a1 => k_is)
    (case l1 => k_is)
    (case c1 => k_is)
    (case k1 => k_is)
    (case a2 => k_is)
    (case l2 => k_is)
    (case c2 => k_is)
    (case k2 => k_is)
    (case a3 => k_is)
    (case l3 => k_is)
    (case c3 => k_is)
    (case k3 => k_is)
    (case a4 => k_is)
    (case l4 => k_is)
    (case c4 => k_is)
    (case k4 => k_is)
    (case a5 => k_is)
    (case l5 => k_is)
    (case c5 => k_is)
    (case k5 => k_is)
    (case a6 => k_is)
    (case l6 => k_is)
    (case c6 => k_is)
    (case k6 => k_is)
    (case a7 => k_is)
    (case l7 => k_is)
    (case c7 => k_is)
    (case k7 => k_is)
    (case a8 => k_is)
    (case l8 => k_is)
    (case c8 => k_is)
    (case k8 => k_is)
    (case a9 => k_is)
    (case l9 => k_is)
    (case c9 => k_is)
    (case k9 => k_is)
    (case a10 => k_is)
    (case l10 => k_is)
    (case c10 => k_is)
    (case k10 => k_is)
    (case a11 => k_is)
    (case l11 => k_is)
    (case c11 => k_is)
    (case k11 => k_is)
    (case a12 => k_is)
    (case l12 => k_is)
    (case c12 => k_is)
    (case k12 => k_is)
    (case a13 => k_is)
    (case l13 => k_is)
    (case c13 => k_is)
    (case k13 => k_is)
    (case a14 => k_is)
    (case l14 => k_is)
    (case c14 => k_is)
    (case k14 => k_is)
    (case a15 => k_is)
    (case l15 => k_is)
    (case c15 => k_is)
    (case k15 => k_is)
    (case z0 => k_is)
    (case z1 => k_is)
    (case z2 => k_is)
    (case z3 => k_is)
    (case z4 => k_is)
    (case z5 => k_is)
    (case z6 => k_is)
    (case z7 => k_is)
    (case z8 => k_is)
    (case z9 => k_is)
    (case z10 => k_is)
    (case z11 => k_is)
    (case z12 => k_is)
    (case z13 => k_is)
    (case z14 => k_is)
    (case z15 => k_is)
    (case m0 => k_is)
    (case m1 => k_is)
