import PyProof.Rows.All
import Wide.All
import OpenK.AllK
import Wide.FinOn
import HandS.ForMost
import HandS.ForExc
import HandS.IsInst
import HandS.Deep
import HandS.Walk
import HandS.Zip
import HandS.SortOrd
import HandS.TupSets
import HandS.TupAny
import HandS.TupLe
import HandS.TupMul
import HandS.Flow
import HandS.Strs
import HandS.Conv
import HandS.Style
import KE.SortData
import HandS.More
import HandS.TupLen
import HandS.SetFor
import KE.GoesEnum
import HandS.WordsExc
import HandS.TryOnly
import HandS.ExcIs
import KE.DataAny
import HandS.Iter
import KE.DataCmp
import KE.KDictPairs
import PyProof.SumAny
import HandS.SetBool
import KE.LtData
import HandS.TryMany
import HandS.FStr
import HandS.Text
import HandS.HotCalls
import PyProof.StrLaws
import PyProof.StrLawsChain
import PyProof.StrLawsTight
import PySem.Challenge.RW_probeties_k38_whole_refusals_apart
import KE.DataMinMax
set_option Elab.async false
set_option linter.all false
set_option maxRecDepth 100000
/-! DL: a layer of plain data over HandS. A def's body is read as a function of data (SM), its heap is hidden. -/
namespace DL
open PySem L2
abbrev D := PyData
/-- a dict's key: an int or a text, or a tuple of such -/
abbrev DK := Sum Key (List Key)
/-- a slot: a datum that no one changes; an own list; an own dict; an own dict of ints under rows of ints and None; a seeker (its net, what was told, its rows); a thing at an address, by its address alone -/
inductive SV where
  | d (x : D)
  | l (b : Bool) (xs : List D)
  | m (b t : Bool) (kvs : List (DK × D))
  | k (b : Bool) (kvs : List (List (Option Int) × Int))
  | s (b : Bool) (net told : D) (rows : List D)
  | ad (a : Addr)
def SV.own : SV → Bool
  | .d _ => false
  | .ad _ => false
  | _ => true
abbrev Rho := List (Option SV)
def SubH (F H : Hp) : Prop := ∀ a o, F a = some o → H a = some o
theorem SubH.refl (F : Hp) : SubH F F := fun _ _ h => h
theorem SubH.trans {F G H : Hp} (a : SubH F G) (b : SubH G H) : SubH F H := fun x o h => b x o (a x o h)
theorem SubH.new {H : Hp} {p : Addr} {o : HO} (h : H p = none) : SubH H (upd H p o) := fun a u e => by
  rw [upd_ne (ne_of_none e h)]; exact e
theorem SubH.none {F H : Hp} (e : SubH F H) {p : Addr} (h : H p = none) : F p = none := by
  cases q : F p with
  | none => rfl
  | some o => rw [e p o q] at h; cases h
theorem SubH.rd {F H : Hp} (e : SubH F H) {a : Addr} {u : HO} (h : Rd F a u) : Rd H a u := by
  rcases h with h | ⟨o, h⟩
  · exact .inl (e _ _ h)
  · exact .inr ⟨o, e _ _ h⟩
theorem SubH.sqt {K : PySem.W.Frag} {F H : Hp} (e : SubH F H) {a : Addr} {xs : List V} (h : SqT K F a xs) : SqT K H a xs := by
  rcases h with h | h
  · exact .inl (e.rd h)
  · exact .inr h
theorem SubH.sql {K : PySem.W.Frag} {F H : Hp} (e : SubH F H) {a : Addr} {xs : List V} (h : SqL K F a xs) : SqL K H a xs := by
  rcases h with h | h
  · exact .inl (e.rd h)
  · exact .inr h
/-! ### data in the heap: what is flat by itself, rows by what stands at their place (a tuple as such) -/
/-- a tuple of flat things (which may be a dict's key) stands as such; any other one with its object, which has no attributes of its own -/
def noRef : V → Bool
  | .ref _ => false
  | _ => true
def tupHO (ob : Obj) (vs : List V) : HO := if vs.all noRef = true then .tup vs else .frz ob (.tup vs)
theorem tupHO_cases (ob : Obj) (vs : List V) : tupHO ob vs = .tup vs ∨ tupHO ob vs = .frz ob (.tup vs) := by
  unfold tupHO; split
  · exact .inl rfl
  · exact .inr rfl
theorem tupHO_flat {ob : Obj} {vs : List V} (h : vs.all noRef = true) : tupHO ob vs = .tup vs := if_pos h
def TupAt (H : Hp) (p : Addr) (vs : List V) : Prop := ∃ ob : Obj, ob.dict = none ∧ H p = some (tupHO ob vs)
/-- the value that a flat datum is -/
def scal : D → Option V
  | .none => some .non
  | .bool b => some (.bl b)
  | .int i => some (.int i)
  | .str x => some (.str x)
  | _ => none
inductive Dp (K : PySem.W.Frag) (H : Hp) : V → D → Prop
  | flat {d : D} {v : V} : scal d = some v → Dp K H v d
  | lst {p : Addr} {vs : List V} {row : List D} (at_ : SqL K H p vs) (each : Paired (Dp K H) vs row) : Dp K H (.ref p) (.list row)
  | tup {p : Addr} {vs : List V} {row : List D} (at_ : TupAt H p vs) (each : Paired (Dp K H) vs row) : Dp K H (.ref p) (.tuple row)
abbrev DpAll (K : PySem.W.Frag) (H : Hp) (vs : List V) (row : List D) : Prop := Paired (Dp K H) vs row
section
variable {K : PySem.W.Frag} {F G H : Hp}
theorem Dp.non : Dp K H .non .none := .flat rfl
theorem Dp.bl (b : Bool) : Dp K H (.bl b) (.bool b) := .flat rfl
theorem Dp.int (i : Int) : Dp K H (.int i) (.int i) := .flat rfl
theorem Dp.str (x : Str) : Dp K H (.str x) (.str x) := .flat rfl
theorem sqt_of {a : Addr} {vs : List V} (h : TupAt F a vs) : SqT K F a vs := by
  obtain ⟨ob, _, e⟩ := h
  rcases tupHO_cases ob vs with q | q <;> rw [q] at e
  · exact .inl (.inl e)
  · exact .inl (.inr ⟨ob, e⟩)
theorem TupAt.mono {a : Addr} {vs : List V} (h : TupAt F a vs) (e : SubH F H) : TupAt H a vs := let ⟨ob, d, q⟩ := h; ⟨ob, d, e _ _ q⟩
/-- by the datum -/
theorem Dp.inv : ∀ {d : D} {v : V}, Dp K H v d → match d with
    | .none => v = .non
    | .bool b => v = .bl b
    | .int i => v = .int i
    | .str x => v = .str x
    | .list row => ∃ p vs, v = .ref p ∧ SqL K H p vs ∧ DpAll K H vs row
    | .tuple row => ∃ p vs, v = .ref p ∧ TupAt H p vs ∧ DpAll K H vs row
    | .dict _ => False
  | _, _, .lst a e => ⟨_, _, rfl, a, e⟩
  | _, _, .tup a e => ⟨_, _, rfl, a, e⟩
  | .none, _, .flat h => (Option.some.inj h).symm
  | .bool _, _, .flat h => (Option.some.inj h).symm
  | .int _, _, .flat h => (Option.some.inj h).symm
  | .str _, _, .flat h => (Option.some.inj h).symm
  | .list _, _, .flat h => nomatch h
  | .tuple _, _, .flat h => nomatch h
  | .dict _, _, .flat h => nomatch h
mutual
theorem dp_old' : ∀ (d : D) (v : V), Dp K F v d → L2.Dp K F v d
  | .none, _, h => by cases h.inv; exact .non
  | .bool b, _, h => by cases h.inv; exact .bl b
  | .int i, _, h => by cases h.inv; exact .int i
  | .str x, _, h => by cases h.inv; exact .str x
  | .list row, _, h => by obtain ⟨p, vs, rfl, a, e⟩ := h.inv; exact .lst a (dpa_old' row vs e)
  | .tuple row, _, h => by obtain ⟨p, vs, rfl, a, e⟩ := h.inv; exact .tup (sqt_of a) (dpa_old' row vs e)
  | .dict _, _, h => h.inv.elim
theorem dpa_old' : ∀ (row : List D) (vs : List V), DpAll K F vs row → L2.DpAll K F vs row
  | [], [], _ => .nil
  | d :: row, v :: vs, h => by cases h with | cons x t => exact .cons (dp_old' d v x) (dpa_old' row vs t)
  | [], _ :: _, h => nomatch h
  | _ :: _, [], h => nomatch h
end
mutual
theorem dp_mono' (e : SubH F H) : ∀ (d : D) (v : V), Dp K F v d → Dp K H v d
  | .none, _, h => by cases h.inv; exact .non
  | .bool b, _, h => by cases h.inv; exact .bl b
  | .int i, _, h => by cases h.inv; exact .int i
  | .str x, _, h => by cases h.inv; exact .str x
  | .list row, _, h => by obtain ⟨p, vs, rfl, a, t⟩ := h.inv; exact .lst (e.sql a) (dpa_mono' e row vs t)
  | .tuple row, _, h => by obtain ⟨p, vs, rfl, a, t⟩ := h.inv; exact .tup (a.mono e) (dpa_mono' e row vs t)
  | .dict _, _, h => h.inv.elim
theorem dpa_mono' (e : SubH F H) : ∀ (row : List D) (vs : List V), DpAll K F vs row → DpAll K H vs row
  | [], [], _ => .nil
  | d :: row, v :: vs, h => by cases h with | cons x t => exact .cons (dp_mono' e d v x) (dpa_mono' e row vs t)
  | [], _ :: _, h => nomatch h
  | _ :: _, [], h => nomatch h
end
theorem dp_old {d : D} {v : V} (h : Dp K F v d) : L2.Dp K F v d := dp_old' d v h
theorem dp_mono (e : SubH F H) {d : D} {v : V} (h : Dp K F v d) : Dp K H v d := dp_mono' e d v h
theorem dpa_mono (e : SubH F H) {row : List D} {vs : List V} (h : DpAll K F vs row) : DpAll K H vs row := dpa_mono' e row vs h
theorem dpa_len : ∀ {vs : List V} {ds : List D}, DpAll K F vs ds → vs.length = ds.length
  | _, _, .nil => rfl
  | _, _, .cons _ h => by simp [dpa_len h]
theorem dpa_get : ∀ {vs : List V} {ds : List D} {i : Nat} {d : D}, DpAll K F vs ds → ds[i]? = some d → ∃ v, vs[i]? = some v ∧ Dp K F v d
  | _, _, _, _, .nil, e => by simp at e
  | _, _, 0, _, .cons h _, e => by simp at e; subst e; exact ⟨_, rfl, h⟩
  | _, _, i + 1, _, .cons _ t, e => by simp at e; obtain ⟨v, a, b⟩ := dpa_get (i := i) t e; exact ⟨v, by simpa using a, b⟩
theorem dpa_at : ∀ {vs : List V} {ds : List D} {i : Nat} {v : V}, DpAll K F vs ds → vs[i]? = some v → ∃ d, ds[i]? = some d ∧ Dp K F v d
  | _, _, _, _, .nil, e => by simp at e
  | _, _, 0, _, .cons h _, e => by simp at e; subst e; exact ⟨_, rfl, h⟩
  | _, _, i + 1, _, .cons _ t, e => by simp at e; obtain ⟨v, a, b⟩ := dpa_at (i := i) t e; exact ⟨v, by simpa using a, b⟩
theorem dpa_app : ∀ {vs ws : List V} {ds es : List D}, DpAll K F vs ds → DpAll K F ws es → DpAll K F (vs ++ ws) (ds ++ es)
  | _, _, _, _, .nil, h => h
  | _, _, _, _, .cons a t, h => .cons a (dpa_app t h)
theorem dpa_take : ∀ {vs : List V} {ds : List D} (n : Nat), DpAll K F vs ds → DpAll K F (vs.take n) (ds.take n)
  | _, _, 0, _ => by simpa using .nil
  | _, _, _ + 1, .nil => .nil
  | _, _, n + 1, .cons a t => .cons a (dpa_take n t)
theorem dpa_drop : ∀ {vs : List V} {ds : List D} (n : Nat), DpAll K F vs ds → DpAll K F (vs.drop n) (ds.drop n)
  | _, _, 0, h => by simpa using h
  | _, _, _ + 1, .nil => .nil
  | _, _, n + 1, .cons a t => by simpa using dpa_drop n t
theorem dpa_one {v : V} {d : D} (h : Dp K F v d) : DpAll K F [v] [d] := .cons h .nil
/-- from items by place -/
theorem dpa_of : ∀ {vs : List V} {ds : List D}, vs.length = ds.length → (∀ (i : Nat) (v : V) (d : D), vs[i]? = some v → ds[i]? = some d → Dp K F v d) → DpAll K F vs ds
  | [], [], _, _ => .nil
  | [], _ :: _, h, _ => by simp at h
  | _ :: _, [], h, _ => by simp at h
  | v :: vs, d :: ds, h, k => .cons (k 0 v d rfl rfl) (dpa_of (by simpa using h) fun i a b x y => k (i + 1) a b (by simpa using x) (by simpa using y))
theorem dpa_ints : ∀ {ns : List Int} {vs : List V}, DpAll K F vs (ns.map PyData.int) → vs = ns.map V.int
  | [], [], _ => rfl
  | n :: ns, v :: vs, h => by
    cases h with
    | cons x t => cases x.inv; rw [dpa_ints t]; rfl
  | [], _ :: _, h => nomatch h
  | _ :: _, [], h => nomatch h
theorem dpa_ints_mk : ∀ (ns : List Int), DpAll K F (ns.map V.int) (ns.map PyData.int)
  | [] => .nil
  | n :: ns => .cons (.int n) (dpa_ints_mk ns)
end
/-! ### the state of a frame -/
structure Fx where
  H0 : Hp
  F0 : Hp
  rf : Nat → Option Addr
def keyD : Key → D
  | .inl i => .int i
  | .inr s => .str s
/-- an own dict -/
def DicOk (K : PySem.W.Frag) (F H : Hp) (a : Addr) (t : Bool) (kvs : List (DK × D)) : Prop :=
  (t = false ∧ ∃ ks : List (Key × V), H a = some (.dK ks) ∧ Paired (fun (p : Key × V) (q : DK × D) => q.1 = .inl p.1 ∧ Dp K F p.2 q.2) ks kvs) ∨
  (t = true ∧ ∃ ks : List (List Key × V), H a = some (.dT ks) ∧ Paired (fun (p : List Key × V) (q : DK × D) => q.1 = .inr p.1 ∧ Dp K F p.2 q.2) ks kvs)
/-- a part of such a row: None or an int -/
abbrev NK := Option Int
def nkV : NK → V
  | none => .non
  | some i => .int i
def nkH : NK → Int
  | none => reduceHash 0xFCA86420
  | some i => hashInt i
def rowH (k : List NK) : Int := reduceHash (Builtin.Tuple.tupleHashOf (k.map nkH))
/-- an entry: the row, its place, the int -/
abbrev NE := List NK × Addr × Int
def NE.kv (x : NE) : List NK × Int := (x.1, x.2.2)
/-- the entry as the dict holds it, with the int's value -/
def NE.raw (z : List NK × Addr × Value) : DictEntry := ⟨rowH z.1, .ref z.2.1, z.2.2⟩
def NDict (a : Addr) (xs : List NE) (h : Heap) : Prop := (a == sysModules) = false ∧ xs.length ≤ sizeLine ∧
  ∃ zs : List (List NK × Addr × Value), Paired (fun (x : NE) (y : List NK × Addr × Value) => y.1 = x.1 ∧ y.2.1 = x.2.1 ∧ RelV (.int x.2.2) y.2.2) xs zs ∧ (zs.map (·.1)).Nodup ∧
    ∃ o es ep, h.get? a = some o ∧ o.ExactDict ∧ o.data = .dict es ep ∧ es.toList = zs.map NE.raw
/-- an own dict of that kind -/
def KnAt (F H : Hp) (a : Addr) (kvs : List (List NK × Int)) : Prop := ∃ xs : List NE, H a = some (.ext (NDict a xs)) ∧ (∀ x ∈ xs, F x.2.1 = some (.tup (x.1.map nkV))) ∧ xs.map NE.kv = kvs
/-- what belongs to the thing at a: itself; an instance's rows -/
def Part (H : Hp) (a b : Addr) : Prop := b = a ∨ ∃ C dx fs, H a = some (.ins C dx fs) ∧ fs.lookup ("rows" : Str) = some (V.ref b)
/-- a seeker's attributes -/
def seekF (n : V) (l : Addr) (t : V) : List (Str × V) := [("net", n), ("rows", .ref l), ("told", t)]
/-- a seeker: its dict never changes -/
def SkAt (K : PySem.W.Frag) (F H : Hp) (a : Addr) (net told : D) (rows : List D) : Prop := ∃ C dx l vn vt vs, PySem.W.nsIn K mainGlobals "Seeker" = some (some (.ref C)) ∧ H a = some (.ins C dx (seekF vn l vt)) ∧ F dx = some (.own a) ∧ H l = some (.lst vs) ∧ F l = none ∧
  Dp K F vn net ∧ Dp K F vt told ∧ DpAll K F vs rows
def RS (K : PySem.W.Frag) (z : Fx) (n : Nat) (F H : Hp) (v : V) : SV → Prop
  | .d x => Dp K F v x
  | .l b xs => ∃ a vs, v = .ref a ∧ H a = some (.lst vs) ∧ F a = none ∧ z.H0 a = none ∧ DpAll K F vs xs ∧ (b = true → z.rf n = some a)
  | .m b t kvs => ∃ a, v = .ref a ∧ F a = none ∧ z.H0 a = none ∧ DicOk K F H a t kvs ∧ (b = true → z.rf n = some a)
  | .k b kvs => ∃ a, v = .ref a ∧ F a = none ∧ z.H0 a = none ∧ KnAt F H a kvs ∧ (b = true → z.rf n = some a)
  | .s b net told rows => ∃ a, v = .ref a ∧ F a = none ∧ z.H0 a = none ∧ SkAt K F H a net told rows ∧ (∀ l, Part H a l → z.H0 l = none) ∧ (b = true → z.rf n = some a)
  | .ad a => v = .ref a
def Owns (r : Rho) (s : St) (H : Hp) (i : Nat) (b : Addr) : Prop := ∃ (sv : SV) (a : Addr), r[i]? = some (some sv) ∧ sv.own = true ∧ s[i]? = some (some (V.ref a)) ∧ Part H a b
def OwnAt (r : Rho) (s : St) (H : Hp) (b : Addr) : Prop := ∃ i, Owns r s H i b
def Apart (r : Rho) (s : St) (H : Hp) : Prop := ∀ i j b, Owns r s H i b → Owns r s H j b → i = j
theorem part_self {H : Hp} {a : Addr} : Part H a a := .inl rfl
theorem part_congr {H H' : Hp} {a b : Addr} (h : H' a = H a) (p : Part H' a b) : Part H a b := by
  rcases p with p | ⟨C, dx, fs, h1, h2⟩
  · exact .inl p
  · exact .inr ⟨C, dx, fs, h ▸ h1, h2⟩
/-- what is no instance is all by itself -/
theorem part_one {H : Hp} {a b : Addr} (h : ∀ C dx fs, H a ≠ some (.ins C dx fs)) (p : Part H a b) : b = a := by
  rcases p with p | ⟨C, dx, fs, h1, _⟩
  · exact p
  · exact absurd h1 (h C dx fs)
theorem owns_set {r : Rho} {s : St} {H : Hp} {i j : Nat} {sv : SV} {v : V} {b : Addr} (h : Owns (r.set i (some sv)) (s.set i (some v)) H j b) : (j = i ∧ sv.own = true ∧ ∃ a, v = .ref a ∧ Part H a b) ∨ (j ≠ i ∧ Owns r s H j b) := by
  obtain ⟨x, a, h1, h2, h3, h4⟩ := h
  by_cases e : j = i
  · subst e
    left
    have l1 := (List.getElem?_eq_some_iff.mp h1).1
    have l3 := (List.getElem?_eq_some_iff.mp h3).1
    rw [List.length_set] at l1 l3
    rw [List.getElem?_set_self l1] at h1
    rw [List.getElem?_set_self l3] at h3
    cases h1
    cases h3
    exact ⟨rfl, h2, a, rfl, h4⟩
  · right
    rw [List.getElem?_set_ne (Ne.symm e)] at h1 h3
    exact ⟨e, x, a, h1, h2, h3, h4⟩
theorem owns_setR {r : Rho} {s : St} {H : Hp} {i j : Nat} {sv : SV} {b : Addr} (h : Owns (r.set i (some sv)) s H j b) : (j = i ∧ sv.own = true ∧ ∃ a, s[i]? = some (some (V.ref a)) ∧ Part H a b) ∨ (j ≠ i ∧ Owns r s H j b) := by
  obtain ⟨x, a, h1, h2, h3, h4⟩ := h
  by_cases e : j = i
  · subst e
    left
    have l1 := (List.getElem?_eq_some_iff.mp h1).1
    rw [List.length_set] at l1
    rw [List.getElem?_set_self l1] at h1
    cases h1
    exact ⟨rfl, h2, a, h3, h4⟩
  · right
    rw [List.getElem?_set_ne (Ne.symm e)] at h1
    exact ⟨e, x, a, h1, h2, h3, h4⟩
theorem owns_none {r : Rho} {s : St} {H : Hp} {i j : Nat} {b : Addr} (h : Owns (r.set i none) s H j b) : j ≠ i ∧ Owns r s H j b := by
  obtain ⟨x, a, h1, h2, h3, h4⟩ := h
  by_cases e : j = i
  · subst e
    have l1 := (List.getElem?_eq_some_iff.mp h1).1
    rw [List.length_set] at l1
    rw [List.getElem?_set_self l1] at h1
    cases h1
  · rw [List.getElem?_set_ne (Ne.symm e)] at h1
    exact ⟨e, x, a, h1, h2, h3, h4⟩
theorem part_lst {H : Hp} {p b : Addr} {vs : List V} (h : H p = some (.lst vs)) (q : Part H p b) : b = p := part_one (fun C dx fs => by rw [h]; nofun) q
theorem owns_H {r : Rho} {s : St} {H H' : Hp} {j : Nat} {b : Addr} (k : ∀ a sv, r[j]? = some (some sv) → sv.own = true → s[j]? = some (some (V.ref a)) → H' a = H a) (h : Owns r s H' j b) : Owns r s H j b := by
  obtain ⟨x, a, h1, h2, h3, h4⟩ := h
  exact ⟨x, a, h1, h2, h3, part_congr (k a x h1 h2 h3) h4⟩
theorem Apart.sub {r r' : Rho} {s s' : St} {H H' : Hp} (A : Apart r s H) (h : ∀ j b, Owns r' s' H' j b → Owns r s H j b) : Apart r' s' H' := fun i j b h1 h2 => A i j b (h i b h1) (h j b h2)
theorem Apart.new {r r' : Rho} {s s' : St} {H H' : Hp} {i : Nat} {P : Addr → Prop} (A : Apart r s H) (no : ∀ b, P b → ¬ OwnAt r s H b) (h : ∀ j b, Owns r' s' H' j b → (j = i ∧ P b) ∨ (j ≠ i ∧ Owns r s H j b)) : Apart r' s' H' := fun j k b h1 h2 => by
  rcases h j b h1 with ⟨e1, p1⟩ | ⟨n1, o1⟩ <;> rcases h k b h2 with ⟨e2, p2⟩ | ⟨n2, o2⟩
  · rw [e1, e2]
  · exact absurd ⟨k, o2⟩ (no b p1)
  · exact absurd ⟨j, o1⟩ (no b p2)
  · exact A j k b o1 o2
theorem tupHO_lst {ob : Obj} {vs ws : List V} (h : some (HO.lst vs) = some (tupHO ob ws)) : False := by
  rcases tupHO_cases ob ws with q | q <;> rw [q] at h <;> cases h
/-- a tuple never changes -/
def IsTu (o : HO) : Prop := ∃ ob vs, o = tupHO ob vs
theorem not_tu {vs : List V} : ¬ IsTu (.lst vs) := fun ⟨_, _, q⟩ => tupHO_lst (congrArg some q)
structure Rep (K : PySem.W.Frag) (z : Fx) (r : Rho) (s : St) (H F : Hp) : Prop where
  fh : SubH F H
  old : SubH z.H0 H
  f0 : SubH z.F0 F
  nw : ∀ b o, F b = some o → z.F0 b = some o ∨ z.H0 b = none ∨ IsTu o
  slots : ∀ (i : Nat) (sv : SV), r[i]? = some (some sv) → ∃ v, s[i]? = some (some v) ∧ RS K z i F H v sv
  ap : Apart r s H
  len : r.length = s.length
/-- new objects are laid, all else is as it was; F grows by new ones -/
structure Grow (F H F' H' : Hp) : Prop where
  ff : SubH F F'
  hh : SubH H H'
  fh : SubH F' H'
  nw : ∀ b o, F' b = some o → F b = some o ∨ H b = none ∨ IsTu o
theorem Grow.refl {F H : Hp} (h : SubH F H) : Grow F H F H := ⟨.refl _, .refl _, h, fun _ _ h => .inl h⟩
theorem Grow.trans {F H F1 H1 F2 H2 : Hp} (a : Grow F H F1 H1) (b : Grow F1 H1 F2 H2) : Grow F H F2 H2 :=
  ⟨a.ff.trans b.ff, a.hh.trans b.hh, b.fh, fun x o h => by
    rcases b.nw x o h with h | h | h
    · exact a.nw x o h
    · exact .inr (.inl (a.hh.none h))
    · exact .inr (.inr h)⟩
theorem Grow.new {F H : Hp} {p : Addr} {o : HO} (h : SubH F H) (hp : H p = none) : Grow F H (upd F p o) (upd H p o) :=
  ⟨.new (h.none hp), .new hp, fun a u e => by
    by_cases q : a = p
    · subst q; rw [upd_same] at e ⊢; exact e
    · rw [upd_ne q] at e ⊢; exact h a u e, fun a u e => by
    by_cases q : a = p
    · subst q; exact .inr (.inl hp)
    · rw [upd_ne q] at e; exact .inl e⟩
/-- laid, but not frozen -/
theorem Grow.loose {F H : Hp} {p : Addr} {o : HO} (h : SubH F H) (hp : H p = none) : Grow F H F (upd H p o) :=
  ⟨.refl _, .new hp, h.trans (.new hp), fun _ _ e => .inl e⟩
section
variable {K : PySem.W.Frag} {z : Fx} {r : Rho} {s : St} {H F H' F' : Hp}
theorem DicOk.mono {a : Addr} {t : Bool} {kvs : List (DK × D)} (h : DicOk K F H a t kvs) (e : SubH F F') (hh : ∀ o, H a = some o → H' a = some o) : DicOk K F' H' a t kvs := by
  rcases h with ⟨h0, ks, h1, h2⟩ | ⟨h0, ks, h1, h2⟩
  · exact .inl ⟨h0, ks, hh _ h1, Paired.mapP h2 fun _ _ q => ⟨q.1, dp_mono e q.2⟩⟩
  · exact .inr ⟨h0, ks, hh _ h1, Paired.mapP h2 fun _ _ q => ⟨q.1, dp_mono e q.2⟩⟩
theorem DicOk.there {a : Addr} {t : Bool} {kvs : List (DK × D)} (h : DicOk K F H a t kvs) : ∃ o, H a = some o := by
  rcases h with ⟨_, ks, h1, _⟩ | ⟨_, ks, h1, _⟩ <;> exact ⟨_, h1⟩
theorem DicOk.one {a b : Addr} {t : Bool} {kvs : List (DK × D)} (h : DicOk K F H a t kvs) (q : Part H a b) : b = a := by
  rcases h with ⟨_, ks, h1, _⟩ | ⟨_, ks, h1, _⟩ <;> exact part_one (fun C dx fs => by rw [h1]; nofun) q
theorem KnAt.mono {a : Addr} {kvs : List (List NK × Int)} (h : KnAt F H a kvs) (e : SubH F F') (hh : ∀ o, H a = some o → H' a = some o) : KnAt F' H' a kvs :=
  let ⟨xs, h1, h2, h3⟩ := h; ⟨xs, hh _ h1, fun x m => e _ _ (h2 x m), h3⟩
theorem KnAt.one {a b : Addr} {kvs : List (List NK × Int)} (h : KnAt F H a kvs) (q : Part H a b) : b = a := by
  obtain ⟨xs, h1, _⟩ := h
  exact part_one (fun C dx fs => by rw [h1]; nofun) q
theorem KnAt.there {a : Addr} {kvs : List (List NK × Int)} (h : KnAt F H a kvs) : ∃ o, H a = some o := let ⟨_, h1, _⟩ := h; ⟨_, h1⟩
theorem SkAt.rows {a l : Addr} {net told : D} {rows : List D} (h : SkAt K F H a net told rows) (p : Part H a l) : l = a ∨ ∃ vs, H l = some (.lst vs) ∧ F l = none := by
  rcases p with p | ⟨C, dx, fs, h1, h2⟩
  · exact .inl p
  · obtain ⟨C', dx', l', vn, vt, vs, _, g1, _, g2, g3, _⟩ := h
    rw [g1] at h1
    cases h1
    have : some (V.ref l') = some (V.ref l) := h2
    cases this
    exact .inr ⟨vs, g2, g3⟩
theorem SkAt.there {a : Addr} {net told : D} {rows : List D} (h : SkAt K F H a net told rows) : ∃ C dx fs, H a = some (.ins C dx fs) := let ⟨C, dx, _, _, _, _, _, g, _⟩ := h; ⟨C, dx, _, g⟩
theorem SkAt.mono {a : Addr} {net told : D} {rows : List D} (h : SkAt K F H a net told rows) (e : SubH F F') (hh : ∀ b, Part H a b → ∀ o, H b = some o → H' b = some o) (hn : ∀ b, Part H a b → ∀ o, H b = some o → F b = none → F' b = none) : SkAt K F' H' a net told rows := by
  obtain ⟨C, dx, l, vn, vt, vs, h0, h1, h2, h3, h4, h5, h6, h7⟩ := h
  have p : Part H a l := .inr ⟨C, dx, _, h1, rfl⟩
  exact ⟨C, dx, l, vn, vt, vs, h0, hh a part_self _ h1, e _ _ h2, hh l p _ h3, hn l p _ h3 h4, dp_mono e h5, dp_mono e h6, dpa_mono e h7⟩
theorem RS.mono {n : Nat} {v : V} {sv : SV} (h : RS K z n F H v sv) (e : SubH F F') (hh : ∀ a b, v = .ref a → Part H a b → sv.own = true → ∀ o, H b = some o → H' b = some o) (hn : ∀ a b o, H b = some o → F b = none → z.H0 b = none → sv.own = true → v = .ref a → Part H a b → F' b = none) : RS K z n F' H' v sv := by
  cases sv with
  | d x => exact dp_mono e h
  | ad a => exact h
  | l b xs =>
    obtain ⟨a, vs, rfl, h1, h2, h3, h4, h5⟩ := h
    exact ⟨a, vs, rfl, hh a a rfl part_self rfl _ h1, hn a a _ h1 h2 h3 rfl rfl part_self, h3, dpa_mono e h4, h5⟩
  | m b t kvs =>
    obtain ⟨a, rfl, h2, h3, h4, h5⟩ := h
    obtain ⟨o, ho⟩ := h4.there
    exact ⟨a, rfl, hn a a o ho h2 h3 rfl rfl part_self, h3, h4.mono e (hh a a rfl part_self rfl), h5⟩
  | k b kvs =>
    obtain ⟨a, rfl, h2, h3, h4, h5⟩ := h
    obtain ⟨o, ho⟩ := h4.there
    exact ⟨a, rfl, hn a a o ho h2 h3 rfl rfl part_self, h3, h4.mono e (hh a a rfl part_self rfl), h5⟩
  | s b net told rows =>
    obtain ⟨a, rfl, h2, h3, h4, h5, h6⟩ := h
    obtain ⟨C, dx, fs, ho⟩ := h4.there
    have eq : H' a = H a := by rw [ho]; exact hh a a rfl part_self rfl _ ho
    exact ⟨a, rfl, hn a a _ ho h2 h3 rfl rfl part_self, h3, h4.mono e (fun b p => hh a b rfl p rfl) (fun b p o hb hf => hn a b o hb hf (h5 b p) rfl rfl p), fun l p => h5 l (part_congr eq p), h6⟩
/-- each part is there, and is not frozen -/
theorem RS.part {n : Nat} {v : V} {sv : SV} {a b : Addr} (h : RS K z n F H v sv) (own : sv.own = true) (e : v = .ref a) (p : Part H a b) : (∃ o, H b = some o) ∧ F b = none ∧ z.H0 b = none := by
  have one : ∀ o : HO, H a = some o → (∀ C dx fs, o ≠ .ins C dx fs) → b = a := fun o ho n => part_one (fun C dx fs q => by rw [ho] at q; cases q; exact n _ _ _ rfl) p
  cases sv with
  | d x => cases own
  | ad a => cases own
  | l q xs =>
    obtain ⟨a', vs, e1, q1, q2, q3, _⟩ := h
    rw [e1] at e; cases e
    cases one _ q1 (fun _ _ _ => nofun)
    exact ⟨⟨_, q1⟩, q2, q3⟩
  | m q t kvs =>
    obtain ⟨a', e1, q2, q3, q4, _⟩ := h
    rw [e1] at e; cases e
    have : b = a := by rcases q4 with ⟨_, ks, h1, _⟩ | ⟨_, ks, h1, _⟩ <;> exact one _ h1 (fun _ _ _ => nofun)
    cases this
    exact ⟨q4.there, q2, q3⟩
  | k q kvs =>
    obtain ⟨a', e1, q2, q3, q4, _⟩ := h
    rw [e1] at e; cases e
    have : b = a := by obtain ⟨xs, h1, _⟩ := q4; exact one _ h1 (fun _ _ _ => nofun)
    cases this
    exact ⟨q4.there, q2, q3⟩
  | s q net told rows =>
    obtain ⟨a', e1, q2, q3, q4, q5, _⟩ := h
    rw [e1] at e; cases e
    rcases q4.rows p with rfl | ⟨vs, g1, g2⟩
    · obtain ⟨C, dx, fs, ho⟩ := q4.there
      exact ⟨⟨_, ho⟩, q2, q3⟩
    · exact ⟨⟨_, g1⟩, g2, q5 b p⟩
/-- what is owned is no tuple -/
theorem RS.noTup {n : Nat} {v : V} {sv : SV} {a b : Addr} (h : RS K z n F H v sv) (hown : sv.own = true) (e : v = .ref a) (p : Part H a b) : ¬ ∃ ob vs, H b = some (tupHO ob vs) := by
  rintro ⟨ob, vs, hv⟩
  have hv : H b = some (.tup vs) ∨ H b = some (.frz ob (.tup vs)) := by rcases tupHO_cases ob vs with q | q <;> rw [q] at hv <;> simp [hv]
  by_cases ne : b = a
  case neg =>
    cases sv with
    | s q net told rows =>
      obtain ⟨a', e1, _, _, h1, _⟩ := h
      rw [e1] at e; cases e
      rcases h1.rows p with q | ⟨vs', g1, _⟩
      · exact ne q
      · simp [g1] at hv
    | d x => cases hown
    | ad y => cases hown
    | l q xs =>
      obtain ⟨a', ws, e1, h1, _⟩ := h; rw [e1] at e; cases e
      exact ne (part_one (fun C dx fs => by rw [h1]; nofun) p)
    | m q t kvs =>
      obtain ⟨a', e1, _, _, h1, _⟩ := h
      rw [e1] at e; cases e
      exact ne (part_one (fun C dx fs => by rcases h1 with ⟨_, ks, h1, _⟩ | ⟨_, ks, h1, _⟩ <;> rw [h1] <;> nofun) p)
    | k q kvs =>
      obtain ⟨a', e1, _, _, ⟨xs, h1, _⟩, _⟩ := h
      rw [e1] at e; cases e
      exact ne (part_one (fun C dx fs => by rw [h1]; nofun) p)
  subst ne
  cases sv with
  | d x => cases hown
  | ad y => cases hown
  | l b xs => obtain ⟨a', ws, e1, h1, _⟩ := h; rw [e1] at e; cases e; simp [h1] at hv
  | m b t kvs =>
    obtain ⟨a', e1, _, _, h1, _⟩ := h
    rw [e1] at e; cases e
    rcases h1 with ⟨_, ks, h1, _⟩ | ⟨_, ks, h1, _⟩ <;> simp [h1] at hv
  | k b kvs =>
    obtain ⟨a', e1, _, _, ⟨xs, h1, _⟩, _⟩ := h
    rw [e1] at e; cases e
    simp [h1] at hv
  | s q net told rows =>
    obtain ⟨a', e1, _, _, h1, _⟩ := h
    rw [e1] at e; cases e
    obtain ⟨C, dx, fs, ho⟩ := h1.there
    simp [ho] at hv
theorem Rep.own_facts (R : Rep K z r s H F) {b : Addr} (h : OwnAt r s H b) : (∃ o, H b = some o) ∧ F b = none ∧ z.H0 b = none := by
  obtain ⟨i, sv, a, h1, h2, h3, p⟩ := h
  obtain ⟨v, h4, h5⟩ := R.slots i sv h1
  rw [h3] at h4; cases h4
  exact h5.part h2 rfl p
/-- things owned by two slots are two things -/
theorem Rep.apart (R : Rep K z r s H F) (i j : Nat) (x y : SV) (a : Addr) (e1 : r[i]? = some (some x)) (e2 : r[j]? = some (some y)) (o1 : x.own = true) (o2 : y.own = true) (s1 : s[i]? = some (some (V.ref a))) (s2 : s[j]? = some (some (V.ref a))) : i = j :=
  R.ap i j a ⟨x, a, e1, o1, s1, part_self⟩ ⟨y, a, e2, o2, s2, part_self⟩
theorem Rep.ownH (R : Rep K z r s H F) (hh : SubH H H') {j : Nat} {b : Addr} (h : Owns r s H' j b) : Owns r s H j b :=
  owns_H (fun a sv h1 h2 h3 => by
    obtain ⟨⟨o, ho⟩, _⟩ := R.own_facts ⟨j, sv, a, h1, h2, h3, part_self⟩
    rw [ho, hh a o ho]) h
theorem Rep.ownAtH (R : Rep K z r s H F) (hh : SubH H H') {b : Addr} (h : OwnAt r s H' b) : OwnAt r s H b := let ⟨j, h⟩ := h; ⟨j, R.ownH hh h⟩
/-- what is new is owned by none -/
theorem Rep.free (R : Rep K z r s H F) {p : Addr} (new : H p = none) : ¬ OwnAt r s H p := fun q => by
  obtain ⟨⟨o, ho⟩, _⟩ := R.own_facts q
  rw [new] at ho; cases ho
theorem Rep.grow (R : Rep K z r s H F) (G : Grow F H F' H') : Rep K z r s H' F' where
  fh := G.fh
  old := R.old.trans G.hh
  f0 := R.f0.trans G.ff
  nw := fun b o h => by
    rcases G.nw b o h with h | h | h
    · exact R.nw b o h
    · exact .inr (.inl (R.old.none h))
    · exact .inr (.inr h)
  slots := fun i sv h => by
    obtain ⟨v, h1, h2⟩ := R.slots i sv h
    refine ⟨v, h1, h2.mono G.ff (fun a b _ _ _ o ho => G.hh b o ho) fun a b o ho hf _ hown he hp => ?_⟩
    cases q : F' b with
    | none => rfl
    | some u =>
      rcases G.nw b u q with h | h | ⟨ob, vs, rfl⟩
      · rw [hf] at h; cases h
      · rw [ho] at h; cases h
      · have q2 := G.fh b _ q
        rw [G.hh b o ho] at q2; cases q2
        exact absurd ⟨_, _, ho⟩ (h2.noTup hown he hp)
  ap := R.ap.sub fun j b h => R.ownH G.hh h
  len := R.len
/-- behind a change of what the slot i owns: the parts are as they were -/
theorem Rep.ap_keep (R : Rep K z r s H F) {i : Nat} {p : Addr} {sv sv' : SV} (hi : r[i]? = some (some sv)) (own : sv.own = true) (hs : s[i]? = some (some (V.ref p))) (keep : ∀ a sv', (∃ j, j ≠ i ∧ r[j]? = some (some sv') ∧ s[j]? = some (some (V.ref a)) ∧ sv'.own = true) → a ≠ p → ∀ o, H a = some o → H' a = some o)
    (parts : ∀ b, Part H' p b → Part H p b ∨ H b = none) : Apart (r.set i (some sv')) s H' := by
  have key : ∀ j b, Owns (r.set i (some sv')) s H' j b → Owns r s H j b ∨ (j = i ∧ H b = none) := fun j b h => by
    rcases owns_setR h with ⟨rfl, _, a, h1, h2⟩ | ⟨n, h⟩
    · rw [hs] at h1
      cases h1
      exact (parts b h2).imp (fun q => ⟨sv, p, hi, own, hs, q⟩) fun q => ⟨rfl, q⟩
    · left
      refine owns_H (fun a x h1 h2 h3 => ?_) h
      have ne : a ≠ p := fun e => n (R.apart j i x sv p h1 hi h2 own (by rw [← e]; exact h3) hs)
      obtain ⟨⟨o, ho⟩, _⟩ := R.own_facts ⟨j, x, a, h1, h2, h3, part_self⟩
      rw [ho, keep a x ⟨j, n, h1, h3, h2⟩ ne o ho]
  intro j k b h1 h2
  rcases key j b h1 with o1 | ⟨e1, f1⟩ <;> rcases key k b h2 with o2 | ⟨e2, f2⟩
  · exact R.ap j k b o1 o2
  · obtain ⟨⟨o, ho⟩, _⟩ := R.own_facts ⟨j, o1⟩
    rw [f2] at ho; cases ho
  · obtain ⟨⟨o, ho⟩, _⟩ := R.own_facts ⟨k, o2⟩
    rw [f1] at ho; cases ho
  · rw [e1, e2]
theorem Rep.ap_upd (R : Rep K z r s H F) {i : Nat} {p : Addr} {sv sv' : SV} {o : HO} (hi : r[i]? = some (some sv)) (own : sv.own = true) (hs : s[i]? = some (some (V.ref p))) (parts : ∀ b, Part (upd H p o) p b → Part H p b) : Apart (r.set i (some sv')) s (upd H p o) :=
  R.ap_keep hi own hs (fun a _ _ ne o ho => by rw [upd_ne ne]; exact ho) fun b q => .inl (parts b q)
/-- .. another slot's part is none of these -/
theorem Rep.other (R : Rep K z r s H F) {i j : Nat} {p a b : Addr} {sv x : SV} (n : j ≠ i) (hi : r[i]? = some (some sv)) (own : sv.own = true) (hs : s[i]? = some (some (V.ref p))) (hj : r[j]? = some (some x)) (own2 : x.own = true) (hs2 : s[j]? = some (some (V.ref a))) (hp : Part H a b) : b ≠ p :=
  fun e => n (R.ap j i p ⟨x, a, hj, own2, hs2, e ▸ hp⟩ ⟨sv, p, hi, own, hs, part_self⟩)
theorem owns_upd {p : Addr} {o : HO} {j : Nat} {b : Addr} (ho : ¬ OwnAt r s H p) (h : Owns r s (upd H p o) j b) : Owns r s H j b :=
  owns_H (fun a sv h1 h2 h3 => upd_ne fun e => ho ⟨j, sv, a, h1, h2, h3, .inl e.symm⟩) h
theorem ownAt_upd {p : Addr} {o : HO} {b : Addr} (ho : ¬ OwnAt r s H p) (h : OwnAt r s (upd H p o) b) : OwnAt r s H b := let ⟨j, h⟩ := h; ⟨j, owns_upd ho h⟩
/-- the heap without what the frame owns -/
noncomputable def bare (r : Rho) (s : St) (H : Hp) : Hp := fun b => by
  classical exact if OwnAt r s H b then none else H b
theorem bare_own {b : Addr} (h : OwnAt r s H b) : bare r s H b = none := by unfold bare; rw [if_pos h]
theorem bare_not {b : Addr} (h : ¬ OwnAt r s H b) : bare r s H b = H b := by unfold bare; rw [if_neg h]
theorem bare_sub : SubH (bare r s H) H := fun a o h => by
  by_cases q : OwnAt r s H a
  · rw [bare_own q] at h; cases h
  · rw [bare_not q] at h; exact h
theorem Rep.base (R : Rep K z r s H F) : Rep K ⟨bare r s H, F, z.rf⟩ r s H F where
  fh := R.fh
  old := bare_sub
  f0 := .refl _
  nw := fun b o h => .inl h
  slots := fun i sv h => by
    obtain ⟨v, h1, h2⟩ := R.slots i sv h
    refine ⟨v, h1, ?_⟩
    cases sv with
    | d x => exact h2
    | ad y => exact h2
    | l b xs =>
      obtain ⟨a, vs, rfl, q1, q2, q3, q4⟩ := h2
      exact ⟨a, vs, rfl, q1, q2, bare_own ⟨i, _, _, h, rfl, h1, part_self⟩, q4⟩
    | m b t kvs =>
      obtain ⟨a, rfl, q2, q3, q4⟩ := h2
      exact ⟨a, rfl, q2, bare_own ⟨i, _, _, h, rfl, h1, part_self⟩, q4⟩
    | k b kvs =>
      obtain ⟨a, rfl, q2, q3, q4⟩ := h2
      exact ⟨a, rfl, q2, bare_own ⟨i, _, _, h, rfl, h1, part_self⟩, q4⟩
    | s b net told rows =>
      obtain ⟨a, rfl, q2, q3, q4, q5, q6⟩ := h2
      exact ⟨a, rfl, q2, bare_own ⟨i, _, _, h, rfl, h1, part_self⟩, q4, fun l p => bare_own ⟨i, _, _, h, rfl, h1, p⟩, q6⟩
  ap := R.ap
  len := R.len
theorem Rep.back {r' : Rho} {s' : St} (R : Rep K z r s H F) (R' : Rep K ⟨bare r s H, F, z.rf⟩ r' s' H' F') : Rep K z r' s' H' F' := by
  have key : ∀ b, bare r s H b = none → z.H0 b = none := fun b h => by
    by_cases q : OwnAt r s H b
    · exact (R.own_facts q).2.2
    · rw [bare_not q] at h; exact R.old.none h
  refine ⟨R'.fh, fun b o h => ?_, R.f0.trans R'.f0, fun b o h => ?_, fun i sv h => ?_, R'.ap, R'.len⟩
  · refine R'.old b o ?_
    show bare r s H b = some o
    rw [bare_not, R.old b o h]
    intro q
    rw [(R.own_facts q).2.2] at h; cases h
  · rcases R'.nw b o h with h | h | h
    · exact R.nw b o h
    · exact .inr (.inl (key b h))
    · exact .inr (.inr h)
  · obtain ⟨v, h1, h2⟩ := R'.slots i sv h
    refine ⟨v, h1, ?_⟩
    cases sv with
    | d x => exact h2
    | ad y => exact h2
    | l b xs =>
      obtain ⟨a, vs, rfl, q1, q2, q3, q4⟩ := h2
      exact ⟨a, vs, rfl, q1, q2, key a q3, q4⟩
    | m b t kvs =>
      obtain ⟨a, rfl, q2, q3, q4⟩ := h2
      exact ⟨a, rfl, q2, key a q3, q4⟩
    | k b kvs =>
      obtain ⟨a, rfl, q2, q3, q4⟩ := h2
      exact ⟨a, rfl, q2, key a q3, q4⟩
    | s b net told rows =>
      obtain ⟨a, rfl, q2, q3, q4, q5, q6⟩ := h2
      exact ⟨a, rfl, q2, key a q3, q4, fun l p => key l (q5 l p), q6⟩
theorem get_set_cases {α : Type} {l : List α} {i j : Nat} {x y : α} (h : (l.set i x)[j]? = some y) : (j = i ∧ y = x) ∨ (j ≠ i ∧ l[j]? = some y) := by
  by_cases q : j = i
  · subst q
    by_cases hl : j < l.length
    · rw [List.getElem?_set_self hl] at h; exact .inl ⟨rfl, (Option.some.inj h).symm⟩
    · rw [List.getElem?_eq_none (by simpa using hl)] at h; cases h
  · rw [List.getElem?_set_ne (Ne.symm q)] at h; exact .inr ⟨q, h⟩
/-- a slot takes a datum -/
theorem Rep.put (R : Rep K z r s H F) {i : Nat} {v : V} {x : D} (h : Dp K F v x) : Rep K z (r.set i (some (.d x))) (s.set i (some v)) H F where
  fh := R.fh
  old := R.old
  f0 := R.f0
  nw := R.nw
  slots := fun j sv e => by
    have hj : j < r.length := by
      have q : j < (r.set i (some (SV.d x))).length := (List.getElem?_eq_some_iff.mp e).1
      simpa using q
    rcases get_set_cases e with ⟨rfl, e2⟩ | ⟨ne, e⟩
    · cases e2
      exact ⟨v, by rw [List.getElem?_set_self (by rw [← R.len]; exact hj)], h⟩
    · obtain ⟨w, h1, h2⟩ := R.slots j sv e
      exact ⟨w, by rw [List.getElem?_set_ne (Ne.symm ne)]; exact h1, h2⟩
  ap := R.ap.sub fun j b h => by
    rcases owns_set h with ⟨_, o, _⟩ | ⟨_, h⟩
    · cases o
    · exact h
  len := by simpa using R.len
end
end DL
namespace DL
open PySem L2
abbrev EM := Rho → Option (D × Rho)
abbrev TM := Rho → Option (Bool × Rho)
abbrev AM := Rho → Option (List D × Rho)
/-- a value seen: a datum, or an own list -/
def Dv (K : PySem.W.Frag) (F H : Hp) (v : V) (d : D) : Prop := Dp K F v d ∨ ∃ a vs xs, v = .ref a ∧ d = .list xs ∧ H a = some (.lst vs) ∧ DpAll K F vs xs
def liftE (K : PySem.W.Frag) (f : EM) : TE := fun s H Q => ∃ z r F d r', Rep K z r s H F ∧ f r = some (d, r') ∧ ∀ v H' F', Rep K z r' s H' F' → SubH F F' → Dp K F' v d → Q v H'
def liftW (K : PySem.W.Frag) (f : EM) : TE := fun s H Q => ∃ z r F d r', Rep K z r s H F ∧ f r = some (d, r') ∧ ∀ v H' F', Rep K z r' s H' F' → SubH F F' → Dv K F' H' v d → Q v H'
def liftT (K : PySem.W.Frag) (f : TM) : TT := fun s H Q => ∃ z r F d r', Rep K z r s H F ∧ f r = some (d, r') ∧ ∀ H' F', Rep K z r' s H' F' → SubH F F' → Q d H'
def liftA (K : PySem.W.Frag) (f : AM) : TA := fun s H Q => ∃ z r F d r', Rep K z r s H F ∧ f r = some (d, r') ∧ ∀ v H' F', Rep K z r' s H' F' → SubH F F' → DpAll K F' v d → Q v H'
/-- a new list -/
def liftL (K : PySem.W.Frag) (f : AM) : TE := fun s H Q => ∃ z r F d r', Rep K z r s H F ∧ f r = some (d, r') ∧
  ∀ a vs H' F', Rep K z r' s H' F' → SubH F F' → H' a = some (.lst vs) → F' a = none → z.H0 a = none → ¬ OwnAt r' s H' a → DpAll K F' vs d → Q (.ref a) H'
structure SE (X : Cx) (e : Expr) (f : EM) : Prop where
  pe : PE X e (liftE X.K f)
structure SW (X : Cx) (e : Expr) (f : EM) : Prop where
  pe : PE X e (liftW X.K f)
structure SL (X : Cx) (e : Expr) (f : AM) : Prop where
  pe : PE X e (liftL X.K f)
structure ST (X : Cx) (e : Expr) (f : TM) : Prop where
  pt : PT X e (liftT X.K f)
structure SA (X : Cx) (es : List Expr) (f : AM) : Prop where
  pa : PA X es (liftA X.K f)
  len : ∀ r ds r', f r = some (ds, r') → ds.length = es.length
theorem pe_imp {X : Cx} {e : Expr} {t t' : TE} (h : PE X e t) (k : ∀ s H Q, t' s H Q → t s H Q) : PE X e t' := ⟨fun pins s σ H Q I hq => h.run pins s σ H Q I (k _ _ _ hq)⟩
theorem pt_imp {X : Cx} {e : Expr} {t t' : TT} (h : PT X e t) (k : ∀ s H Q, t' s H Q → t s H Q) : PT X e t' := ⟨fun pins s σ H Q I hq => h.run pins s σ H Q I (k _ _ _ hq)⟩
theorem pa_imp {X : Cx} {e : List Expr} {t t' : TA} (h : PA X e t) (k : ∀ s H Q, t' s H Q → t s H Q) : PA X e t' := ⟨fun pos pins s σ H Q I hq => h.run pos pins s σ H Q I (k _ _ _ hq)⟩
section
variable {X : Cx} {a b c e : Expr} {es : List Expr} {f g : EM} {pos : Pos}
theorem SE.sw (h : SE X e f) : SW X e f := ⟨pe_imp h.pe fun s H Q ⟨z, r, F, d, r', R, e, k⟩ => ⟨z, r, F, d, r', R, e, fun v H' F' R' sb q => k v H' F' R' sb (.inl q)⟩⟩
/-- a frame's loose list is frozen -/
theorem Rep.freeze1 {K : PySem.W.Frag} {z : Fx} {r : Rho} {s : St} {H F : Hp} (R : Rep K z r s H F) {p : Addr} {o : HO} (hp : H p = some o) (hf : F p = none) (h0 : z.H0 p = none) (ho : ¬ OwnAt r s H p) : Rep K z r s H (upd F p o) where
  fh := fun b u q => by
    by_cases e : b = p
    · subst e; rw [upd_same] at q; rw [hp]; exact q
    · rw [upd_ne e] at q; exact R.fh b u q
  old := R.old
  f0 := R.f0.trans (.new hf)
  nw := fun b u q => by
    by_cases e : b = p
    · subst e; exact .inr (.inl h0)
    · rw [upd_ne e] at q; exact R.nw b u q
  slots := fun i sv q => by
    obtain ⟨v, h1, h2⟩ := R.slots i sv q
    refine ⟨v, h1, h2.mono (.new hf) (fun _ _ _ _ _ _ h => h) fun a b o ho' hf' _ hown e hp => ?_⟩
    have : b ≠ p := fun z => ho ⟨i, sv, a, q, hown, by rw [h1, e], z ▸ hp⟩
    rw [upd_ne this]; exact hf'
  ap := R.ap
  len := R.len
def ofL (f : AM) : EM := fun r => (f r).map fun p => (.list p.1, p.2)
theorem SL.se {f : AM} (h : SL X e f) : SE X e (ofL f) := ⟨pe_imp h.pe fun s H Q ⟨z, r, F, d, r', R, e, k⟩ => by
  unfold ofL at e
  cases q : f r with
  | none => rw [q] at e; cases e
  | some p =>
    obtain ⟨ds, r1⟩ := p
    rw [q] at e; cases e
    refine ⟨z, r, F, ds, r1, R, q, fun a vs H' F' R' sb h1 h2 h3 h4 h5 => ?_⟩
    have G := R'.freeze1 h1 h2 h3 h4
    exact k _ _ _ G (sb.trans (.new h2)) (.lst (.inl (.inl upd_same)) (dpa_mono (.new h2) h5))⟩
/-! ### names, constants -/
def varM (i : Nat) : EM := fun r => match r[i]? with
  | some (some (.d x)) => some (x, r)
  | _ => none
def ownM (i : Nat) : EM := fun r => match r[i]? with
  | some (some (.l _ xs)) => some (.list xs, r)
  | _ => none
def cM (d : D) : EM := fun r => some (d, r)
theorem varM_some {i : Nat} {r r' : Rho} {d : D} (h : varM i r = some (d, r')) : r[i]? = some (some (.d d)) ∧ r' = r := by
  unfold varM at h
  split at h
  · rename_i x e; cases h; exact ⟨e, rfl⟩
  · cases h
theorem ownM_some {i : Nat} {r r' : Rho} {d : D} (h : ownM i r = some (d, r')) : ∃ b xs, r[i]? = some (some (.l b xs)) ∧ d = .list xs ∧ r' = r := by
  unfold ownM at h
  split at h
  · rename_i x e; cases h; exact ⟨_, _, e, rfl, rfl⟩
  · cases h
theorem se_var (i : Nat) {x : Str} (hN : X.N[i]? = some x := by rfl) (hv : Vis X.env.scope x := by first | exact Or.inl rfl | exact Or.inr (Or.inl rfl) | exact Or.inr (Or.inr rfl)) (hd : (x == ("__debug__" : Str)) = false := by decide)
    (hcd : (x == ("__classdict__" : Str)) = false := by decide) : SE X (.Name x pos) (varM i) :=
  ⟨pe_imp (pe_var hN hv hd hcd) fun s H Q ⟨z, r, F, d, r', R, e, k⟩ => by
    obtain ⟨e1, rfl⟩ := varM_some e
    obtain ⟨v, h1, h2⟩ := R.slots i _ e1
    exact ⟨v, h1, k v H F R (.refl _) h2⟩⟩
theorem sw_own (i : Nat) {x : Str} (hN : X.N[i]? = some x := by rfl) (hv : Vis X.env.scope x := by first | exact Or.inl rfl | exact Or.inr (Or.inl rfl) | exact Or.inr (Or.inr rfl)) (hd : (x == ("__debug__" : Str)) = false := by decide)
    (hcd : (x == ("__classdict__" : Str)) = false := by decide) : SW X (.Name x pos) (ownM i) :=
  ⟨pe_imp (pe_var hN hv hd hcd) fun s H Q ⟨z, r, F, d, r', R, e, k⟩ => by
    obtain ⟨bb, xs, e1, rfl, rfl⟩ := ownM_some e
    obtain ⟨v, h1, a, vs, rfl, h2, h3, h4, h5, h6⟩ := R.slots i _ e1
    exact ⟨_, h1, k _ H F R (.refl _) (.inr ⟨a, vs, xs, rfl, rfl, h2, h5⟩)⟩⟩
theorem se_c {d : D} {v : V} (h : PE X e (tC v)) (hd : ∀ F, Dp X.K F v d) : SE X e (cM d) :=
  ⟨pe_imp h fun s H Q ⟨z, r, F, d, r', R, e, k⟩ => by cases e; exact k v H F R (.refl _) (hd F)⟩
theorem se_int {i j pos} : SE X (.Constant (.int i) j pos) (cM (.int i)) := se_c pe_int fun _ => .int i
theorem se_bl {i j pos} : SE X (.Constant (.bool i) j pos) (cM (.bool i)) := se_c pe_bl fun _ => .bl i
theorem se_non {j pos} : SE X (.Constant .none j pos) (cM .none) := se_c pe_non fun _ => .non
theorem se_str {x j pos} : SE X (.Constant (.str x) j pos) (cM (.str x)) := se_c pe_str fun _ => .str x
theorem se_globI {x : Str} {i : Int} (hg : Gl X x) (hm : ∃ t, X.mg x = some (.int i t)) (hd : (x == ("__debug__" : Str)) = false := by decide) : SE X (.Name x pos) (cM (.int i)) := by
  obtain ⟨t, hm⟩ := hm
  exact se_c (v := .int i) (pe_glob hg hm ⟨t, rfl⟩ hd) fun _ => .int i
theorem se_globS {x : Str} {i : Str} (hg : Gl X x) (hm : ∃ t, X.mg x = some (.str i t)) (hd : (x == ("__debug__" : Str)) = false := by decide) : SE X (.Name x pos) (cM (.str i)) := by
  obtain ⟨t, hm⟩ := hm
  exact se_c (v := .str i) (pe_glob hg hm ⟨t, rfl⟩ hd) fun _ => .str i
/-! ### two operands -/
/-- an operation on data: what it asks of the heap -/
def liftO (K : PySem.W.Frag) (h : D → D → Option D) : R2 := fun x y H Q => ∃ F d e o, SubH F H ∧ Dv K F H x d ∧ Dv K F H y e ∧ h d e = some o ∧ ∀ v H' F', Grow F H F' H' → Dp K F' v o → Q v H'
def opM (h : D → D → Option D) (f g : EM) : EM := fun r => (f r).bind fun p => (g p.2).bind fun q => (h p.1 q.1).map fun d => (d, q.2)
/-- the left one an own list -/
def opOwnM (h : D → D → Option D) (i : Nat) (g : EM) : EM := fun r => (ownM i r).bind fun _ => (g r).bind fun q => (ownM i q.2).bind fun p => (h p.1 q.1).map fun d => (d, q.2)
theorem opM_some {h : D → D → Option D} {f g : EM} {r r' : Rho} {o : D} (q : opM h f g r = some (o, r')) : ∃ x r1 y, f r = some (x, r1) ∧ g r1 = some (y, r') ∧ h x y = some o := by
  unfold opM at q
  cases e1 : f r with
  | none => rw [e1] at q; cases q
  | some p =>
    rw [e1] at q
    simp only [Option.bind_some] at q
    cases e2 : g p.2 with
    | none => rw [e2] at q; cases q
    | some p2 =>
      rw [e2] at q
      simp only [Option.bind_some] at q
      cases e3 : h p.1 p2.1 with
      | none => rw [e3] at q; cases q
      | some d => rw [e3] at q; cases q; exact ⟨p.1, p.2, p2.1, rfl, e2, e3⟩
theorem Dv.mono {K : PySem.W.Frag} {F H F' H' : Hp} {v : V} {d : D} (h : Dv K F H v d) (e : SubH F F') (hh : SubH H H') : Dv K F' H' v d := by
  rcases h with h | ⟨a, vs, xs, rfl, rfl, h1, h2⟩
  · exact .inl (dp_mono e h)
  · exact .inr ⟨a, vs, xs, rfl, rfl, hh _ _ h1, dpa_mono e h2⟩
theorem Dv.dp {K : PySem.W.Frag} {F H : Hp} {v : V} {d : D} (h : Dv K F H v d) (e : SubH F H) : Dp K H v d := by
  rcases h with h | ⟨a, vs, xs, rfl, rfl, h1, h2⟩
  · exact dp_mono e h
  · exact .lst (.inl (.inl h1)) (dpa_mono e h2)
theorem top_op {r2 : R2} {h : D → D → Option D} (hb : SW X b g) (ha : SE X a f) {s : St} {H : Hp} {Q : VK} (q : liftE X.K (opM h f g) s H Q) : tOp (liftO X.K h) (liftE X.K f) (liftW X.K g) s H Q := by
  obtain ⟨z, r, F, d, r', R, e, k⟩ := q
  obtain ⟨x, r1, y, e1, e2, e3⟩ := opM_some e
  refine ⟨z, r, F, x, r1, R, e1, fun v H1 F1 R1 sb1 dx => ⟨z, r1, F1, y, r', R1, e2, fun w H2 F2 R2 sb2 dy => ⟨F2, x, y, d, R2.fh, .inl (dp_mono sb2 dx), dy, e3, fun v' H' F' G dd => ?_⟩⟩⟩
  exact k v' H' F' (R2.grow G) ((sb1.trans sb2).trans G.ff) dd
theorem se_op {op : Operator} {h : D → D → Option D} (ho : OpR X (binaryOp op) (liftO X.K h)) (ha : SE X a f) (hb : SW X b g) : SE X (.BinOp a op b pos) (opM h f g) :=
  ⟨pe_imp (pe_op ho ha.pe hb.pe) fun s H Q q => top_op (r2 := liftO X.K h) hb ha q⟩
theorem se_cmp {op : CmpOp} {h : D → D → Option D} (ho : OpR X (compareOp op) (liftO X.K h)) (ha : SE X a f) (hb : SW X b g) (hm : behindInMarks op b = false := by first | exact nobehind _ (by decide) (by decide) | rfl) : SE X (.Compare a [op] [b] pos) (opM h f g) :=
  ⟨pe_imp (pe_cmpR ho ha.pe hb.pe hm) fun s H Q q => top_op (r2 := liftO X.K h) hb ha q⟩
theorem own_op {h : D → D → Option D} (i : Nat) {s : St} {H : Hp} {Q : VK} (q : liftE X.K (opOwnM h i g) s H Q) : tOp (liftO X.K h) (tVar i) (liftW X.K g) s H Q := by
  obtain ⟨z, r, F, d, r', R, e, k⟩ := q
  unfold opOwnM at e
  simp only [Option.bind_eq_some_iff, Option.map_eq_some_iff] at e
  obtain ⟨⟨p0, r0⟩, e0, ⟨y, r1⟩, e1, ⟨p2, r2⟩, e2, o, e3, e4⟩ := e
  cases e4
  obtain ⟨b0, xs0, f1, f2, f3⟩ := ownM_some e0
  obtain ⟨b1, xs, g1, g2, g3⟩ := ownM_some e2
  obtain ⟨v, h1, a, vs, rfl, h2, h3, h4, h5, h6⟩ := R.slots i _ f1
  refine ⟨_, h1, z, r, F, y, r1, R, e1, fun w H2 F2 R2 sb2 dy => ?_⟩
  obtain ⟨v', h1', a', vs', rfl, h2', h3', h4', h5', h6'⟩ := R2.slots i _ g1
  have ea : a' = a := by have := h1.symm.trans h1'; cases this; rfl
  subst ea
  subst g2
  exact ⟨F2, .list xs, y, d, R2.fh, .inr ⟨a', vs', xs, rfl, rfl, h2', h5'⟩, dy, e3, fun v' H' F' G dd => k v' H' F' (R2.grow G) (sb2.trans G.ff) dd⟩
/-! ### one operand: a built-in -/
def unM (h : D → Option D) (f : EM) : EM := fun r => (f r).bind fun p => (h p.1).map fun d => (d, p.2)
def liftC1 (K : PySem.W.Frag) (h : D → Option D) : List V → Hp → VK → Prop := fun vs H Q => ∃ F x d o, vs = [x] ∧ SubH F H ∧ Dv K F H x d ∧ h d = some o ∧ ∀ v H' F', Grow F H F' H' → Dp K F' v o → Q v H'
theorem unM_some {h : D → Option D} {f : EM} {r r' : Rho} {o : D} (q : unM h f r = some (o, r')) : ∃ x, f r = some (x, r') ∧ h x = some o := by
  unfold unM at q
  simp only [Option.bind_eq_some_iff, Option.map_eq_some_iff] at q
  obtain ⟨⟨x, r1⟩, e1, o', e2, e3⟩ := q
  cases e3; exact ⟨x, e1, e2⟩
theorem se_b1 {id : String} {x : Str} {p : Pos} {h : D → Option D} (hc : CallR X (.builtin id) (liftC1 X.K h)) (hg : Gl X x) (hm : X.mg x = none) (hv : bootBuiltins x = some (.builtin id)) (ha : SW X a f) (hn : x ≠ "__name__" := by decide) (hdb : (x == ("__debug__" : Str)) = false := by decide)
    (he : starEach [a] X.env = [(false, eval a X.env)] := by rfl) : SE X (.Call (.Name x p) [a] [] pos) (unM h f) :=
  ⟨pe_imp (pe_callB hc hg hm hv (pa_cons ha.pe pa_nil he) hn hdb he rfl) fun s H Q ⟨z, r, F, d, r', R, e, k⟩ => by
    obtain ⟨x, e1, e2⟩ := unM_some e
    exact ⟨z, r, F, x, r', R, e1, fun v H' F' R' sb dv => ⟨F', v, x, d, rfl, R'.fh, dv, e2, fun v2 H2 F2 G dd => k v2 H2 F2 (R'.grow G) (sb.trans G.ff) dd⟩⟩⟩
theorem se_t1 {id : String} {x : Str} {p : Pos} {h : D → Option D} (hc : CallR X (.type id) (liftC1 X.K h)) (hg : Gl X x) (hm : X.mg x = none) (hv : bootBuiltins x = some (.type id)) (ha : SW X a f) (hn : x ≠ "__name__" := by decide) (hdb : (x == ("__debug__" : Str)) = false := by decide)
    (he : starEach [a] X.env = [(false, eval a X.env)] := by rfl) : SE X (.Call (.Name x p) [a] [] pos) (unM h f) :=
  ⟨pe_imp (pe_callTy hc hg hm hv (pa_cons ha.pe pa_nil he) hn hdb he rfl) fun s H Q ⟨z, r, F, d, r', R, e, k⟩ => by
    obtain ⟨x, e1, e2⟩ := unM_some e
    exact ⟨z, r, F, x, r', R, e1, fun v H' F' R' sb dv => ⟨F', v, x, d, rfl, R'.fh, dv, e2, fun v2 H2 F2 G dd => k v2 H2 F2 (R'.grow G) (sb.trans G.ff) dd⟩⟩⟩
/-- two arguments -/
def liftC2 (K : PySem.W.Frag) (h : D → D → Option D) : List V → Hp → VK → Prop := fun vs H Q => ∃ x y, vs = [x, y] ∧ liftO K h x y H Q
theorem se_b2 {id : String} {x : Str} {p : Pos} {h : D → D → Option D} (hc : CallR X (.builtin id) (liftC2 X.K h)) (hg : Gl X x) (hm : X.mg x = none) (hv : bootBuiltins x = some (.builtin id)) (ha : SE X a f) (hb : SW X b g) (hn : x ≠ "__name__" := by decide) (hdb : (x == ("__debug__" : Str)) = false := by decide)
    (he : starEach [a, b] X.env = [(false, eval a X.env), (false, eval b X.env)] := by rfl) (he2 : starEach [b] X.env = [(false, eval b X.env)] := by rfl) : SE X (.Call (.Name x p) [a, b] [] pos) (opM h f g) :=
  ⟨pe_imp (pe_callB hc hg hm hv (pa_cons ha.pe (pa_cons hb.pe pa_nil he2) (by rw [he, he2])) hn hdb (by rw [he, he2]) (by rw [he2]; rfl)) fun s H Q q => by
    have q2 := top_op (r2 := liftO X.K h) hb ha q
    obtain ⟨z, r, F, d, r', R, e, k⟩ := q
    obtain ⟨x, r1, y, e1, e2, e3⟩ := opM_some e
    refine ⟨z, r, F, x, r1, R, e1, fun v H1 F1 R1 sb1 dx => ⟨z, r1, F1, y, r', R1, e2, fun w H2 F2 R2 sb2 dy => ⟨v, w, rfl, F2, x, y, d, R2.fh, .inl (dp_mono sb2 dx), dy, e3, fun v' H' F' G dd => ?_⟩⟩⟩
    exact k v' H' F' (R2.grow G) ((sb1.trans sb2).trans G.ff) dd⟩
end
end DL
namespace DL
open PySem L2 PyProof.Rows PySem.Spec
section
variable {X : Cx}
/-! ### rules that the layer below lacks -/
def rCatL (K : PySem.W.Frag) : R2 := fun x y H Q => ∃ l b xs zs, x = .ref l ∧ y = .ref b ∧ SqL K H l xs ∧ SqL K H b zs ∧ xs.length + zs.length ≤ sizeLine ∧ ∀ p, H p = none → Q (.ref p) (upd H p (.lst (xs ++ zs)))
theorem op_catL : OpR X (binaryOp .Add) (rCatL X.K) := by
  rintro pins s σ H x y v u Q I rx ry ⟨p1, p2, xs, ys, rfl, rfl, one, two, fits, give⟩
  cases rx
  cases ry
  obtain ⟨us, left, ⟨⟨c1, d1, dt1, s1⟩, n1, at1, isL1, _, isS1⟩, _⟩ := I.list one
  obtain ⟨ws, right, ⟨⟨c2, d2, dt2, s2⟩, n2, at2, isL2, _, isS2⟩, _⟩ := I.list two
  cases isL1; cases isS1; cases isL2; cases isS2
  have t1 : s.TypeIs (.ref p1) "list" := ⟨_, at1, rfl⟩
  have t2 : s.TypeIs (.ref p2) "list" := ⟨_, at2, rfl⟩
  have sizes : us.toArray.size + ws.toArray.size ≤ sizeLine := by simp [← left.length, ← right.length, fits]
  refine concat_meets t1 t2 noFill_list_add seq_list_add PySem.F.slot_list_add PySem.F.entry_list_add (PySem.F.args_list_add_2 _ _) (list_addW p1 p2 us.toArray ws.toArray n1 n2 d1 d2 s1 s2 sizes) ⟨at1, at2, ?_⟩
  have joined := I.lnew (t' := s.toks) (left.append right) (by simpa using fits)
  rw [show us.toArray ++ ws.toArray = (us ++ ws).toArray by simp]
  exact ⟨.ref s.heap.objs.size, _, joined, rfl, give _ I.fresh⟩
/-! ### operations on data -/
def szOk (n : Nat) : Bool := decide (n ≤ 1000000)
theorem szOk_le {n : Nat} (h : szOk n = true) : n ≤ sizeLine := Nat.le_trans (of_decide_eq_true h) (by decide)
theorem szOk_lt {n : Nat} (h : szOk n = true) : n < sizeLine := Nat.lt_of_le_of_lt (of_decide_eq_true h) (by decide)
def addD : D → D → Option D
  | .int i, .int j => some (.int (i + j))
  | .tuple xs, .tuple ys => if szOk (xs.length + ys.length) then some (.tuple (xs ++ ys)) else none
  | .list xs, .list ys => if szOk (xs.length + ys.length) then some (.list (xs ++ ys)) else none
  | .str x, .str y => if szOk (x.length + y.length) then some (.str (x ++ y)) else none
  | _, _ => none
theorem dv_int {K : PySem.W.Frag} {F H : Hp} {v : V} {i : Int} (h : Dv K F H v (.int i)) : v = .int i := by
  rcases h with h | ⟨a, vs, xs, _, h, _⟩
  · exact h.inv
  · cases h
theorem dv_str {K : PySem.W.Frag} {F H : Hp} {v : V} {i : Str} (h : Dv K F H v (.str i)) : v = .str i := by
  rcases h with h | ⟨a, vs, xs, _, h, _⟩
  · exact h.inv
  · cases h
theorem dv_bl {K : PySem.W.Frag} {F H : Hp} {v : V} {i : Bool} (h : Dv K F H v (.bool i)) : v = .bl i := by
  rcases h with h | ⟨a, vs, xs, _, h, _⟩
  · exact h.inv
  · cases h
theorem dv_non {K : PySem.W.Frag} {F H : Hp} {v : V} (h : Dv K F H v .none) : v = .non := by
  rcases h with h | ⟨a, vs, xs, _, h, _⟩
  · exact h.inv
  · cases h
theorem dv_tup {K : PySem.W.Frag} {F H : Hp} {v : V} {ds : List D} (h : Dv K F H v (.tuple ds)) : ∃ a vs, v = .ref a ∧ TupAt F a vs ∧ DpAll K F vs ds := by
  rcases h with h | ⟨a, vs, xs, _, h, _⟩
  · obtain ⟨_, _, rfl, h1, h2⟩ := h.inv; exact ⟨_, _, rfl, h1, h2⟩
  · cases h
theorem dv_lst {K : PySem.W.Frag} {F H : Hp} {v : V} {ds : List D} (sb : SubH F H) (h : Dv K F H v (.list ds)) : ∃ a vs, v = .ref a ∧ SqL K H a vs ∧ DpAll K F vs ds := by
  rcases h with h | ⟨a, vs, xs, e, h, h1, h2⟩
  · obtain ⟨_, _, rfl, h1, h2⟩ := h.inv; exact ⟨_, _, rfl, sb.sql h1, h2⟩
  · cases h; exact ⟨a, vs, e, .inl (.inl h1), h2⟩
/-- a new tuple, a new list -/
theorem new_tup {K : PySem.W.Frag} {F H : Hp} {p : Addr} {ob : Obj} {vs : List V} {ds : List D} (none' : ob.dict = none) (sb : SubH F H) (hp : H p = none) (h : DpAll K F vs ds) :
    Grow F H (upd F p (tupHO ob vs)) (upd H p (tupHO ob vs)) ∧ Dp K (upd F p (tupHO ob vs)) (.ref p) (.tuple ds) :=
  have G := Grow.new (o := tupHO ob vs) sb hp
  ⟨G, .tup ⟨ob, none', upd_same⟩ (dpa_mono G.ff h)⟩
/-- the object of a new tuple -/
def tupObj (its : List Value) : Obj := { cls := .type "tuple", data := .seq its.toArray }
theorem lay_tup {pins : List (Addr × Obj)} {s : Shared} {σ : L2.St} {H : Hp} {vs : List V} {its : List Value} (I : L2.Inv X pins σ H s) (vals : Vals vs its) (fits : vs.length ≤ sizeLine) :
    L2.Inv X pins σ (upd H s.heap.objs.size (tupHO (tupObj its) vs)) { s with heap := s.heap.push (tupObj its) } := by
  have new : (s.heap.push (tupObj its)).get? s.heap.objs.size = some (tupObj its) := Heap.get?_push_size _ rfl
  refine I.laid (t' := s.toks) (fun _ _ old => Heap.get?_push_of_some _ old) (Nat.le_refl _) ?_
  rcases tupHO_cases (tupObj its) vs with q | q <;> rw [q]
  · exact ⟨fits, its, vals, _, new, rfl, _, rfl⟩
  · exact ⟨new, fits, its, vals, _, new, rfl, _, rfl⟩
/-- what may come of a new tuple -/
def Laid (H : Hp) (vs : List V) (Q : VK) : Prop := ∀ (p : Addr) (ob : Obj), ob.dict = none → H p = none → Q (.ref p) (upd H p (tupHO ob vs))
theorem laid_ep {pins : List (Addr × Obj)} {s : Shared} {σ : L2.St} {H : Hp} {vs : List V} {its : List Value} {Q : VK} (I : L2.Inv X pins σ H s) (vals : Vals vs its) (fits : vs.length ≤ sizeLine) (q : Laid H vs Q) :
    EP X pins σ Q (.ref s.heap.objs.size) { s with heap := s.heap.push (tupObj its) } :=
  ⟨.ref s.heap.objs.size, _, lay_tup I vals fits, rfl, q _ _ rfl (I.hok.fresh (Nat.le_refl _))⟩
/-- t + u of tuples: the other one if one is empty, else a new one -/
def rCatN (K : PySem.W.Frag) : R2 := fun x y H Q => ∃ a b xs ys, x = .ref a ∧ y = .ref b ∧ SqT K H a xs ∧ SqT K H b ys ∧ xs.length + ys.length ≤ sizeLine ∧
  (xs = [] → Q (.ref b) H) ∧ (xs ≠ [] → ys = [] → Q (.ref a) H) ∧ (xs ≠ [] → ys ≠ [] → Laid H (xs ++ ys) Q)
theorem op_catN : OpR X (binaryOp .Add) (rCatN X.K) := by
  rintro pins s σ H x y v u Q I rx ry ⟨a, b, xs, ys, rfl, rfl, one, two, fits, left, right, new⟩
  cases rx
  cases ry
  obtain ⟨us, vals1, ⟨⟨c1, d1, dt1, s1⟩, at1, isT1, n1, isS1⟩, _⟩ := I.tuple one
  obtain ⟨ws, vals2, ⟨⟨c2, d2, dt2, s2⟩, at2, isT2, n2, isS2⟩, _⟩ := I.tuple two
  cases isT1; cases isS1; cases isT2; cases isS2
  have t1 : s.TypeIs (.ref a) "tuple" := ⟨_, at1, rfl⟩
  have t2 : s.TypeIs (.ref b) "tuple" := ⟨_, at2, rfl⟩
  have l1 := vals1.length
  have l2 := vals2.length
  have e1 : us.toArray.isEmpty = true ↔ xs = [] := by cases xs <;> cases us <;> simp at l1 ⊢
  have e2 : ws.toArray.isEmpty = true ↔ ys = [] := by cases ys <;> cases ws <;> simp at l2 ⊢
  have run := fun S (g : Meets (Builtin.«tuple.__add__» ⟨[.ref a, .ref b], []⟩) S) (q : S X.A (wants (EP X pins σ Q) X.xe) s) =>
    concat_meets (prog := X.prog) (w := X.w) t1 t2 noFill_tuple_add seq_tuple_add PySem.F.slot_tuple_add PySem.F.entry_tuple_add (PySem.F.args_tuple_add_2 _ _) g q
  by_cases h1 : xs = []
  · exact run _ (tuple_addW0 a b _ _ n1 n2 d1 d2 s1 s2 (e1.mpr h1)) ⟨at1, at2, .ref b, H, I, rfl, left h1⟩
  by_cases h2 : ys = []
  · exact run _ (tuple_addW1 a b _ _ n1 n2 d1 d2 s1 s2 (mt e1.mp h1) (e2.mpr h2)) ⟨at1, at2, .ref a, H, I, rfl, right h1 h2⟩
  refine run _ (tuple_addW2 a b _ _ n1 n2 d1 d2 s1 s2 (mt e1.mp h1) (mt e2.mp h2) (by simp; omega)) ⟨at1, at2, ?_⟩
  rw [show us.toArray ++ ws.toArray = (us ++ ws).toArray by simp]
  exact laid_ep I (vals1.append vals2) (by simpa using fits) (new h1 h2)
theorem new_lst {K : PySem.W.Frag} {F H : Hp} {p : Addr} {vs : List V} {ds : List D} (sb : SubH F H) (hp : H p = none) (h : DpAll K F vs ds) : Grow F H (upd F p (.lst vs)) (upd H p (.lst vs)) ∧ Dp K (upd F p (.lst vs)) (.ref p) (.list ds) :=
  have G := Grow.new (o := HO.lst vs) sb hp
  ⟨G, .lst (.inl (.inl upd_same)) (dpa_mono G.ff h)⟩
theorem or_addD : OpR X (binaryOp .Add) (liftO X.K addD) := by
  intro pins s σ H x y v u Q I rx ry h
  obtain ⟨F, d, e, o, sb, dx, dy, eo, k⟩ := h
  unfold addD at eo
  split at eo
  · cases eo
    cases dv_int dx; cases dv_int dy
    exact op_add pins s σ H _ _ v u Q I rx ry ⟨_, _, rfl, rfl, k _ H F (.refl sb) (.int _)⟩
  · split at eo
    · rename_i hz
      cases eo
      obtain ⟨a, vs, rfl, h1, h2⟩ := dv_tup dx
      obtain ⟨b, ws, rfl, h3, h4⟩ := dv_tup dy
      have l1 := dpa_len h2
      have l2 := dpa_len h4
      refine op_catN pins s σ H _ _ v u Q I rx ry ⟨a, b, vs, ws, rfl, rfl, sb.sqt (sqt_of h1), sb.sqt (sqt_of h3), by rw [l1, l2]; exact szOk_le hz, fun e => ?_, fun n e => ?_, fun n1 n2 p ob nd hp => ?_⟩
      · subst e; cases h2; exact k _ H F (.refl sb) (.tup h3 h4)
      · subst e; cases h4; rw [List.append_nil] at k; exact k _ H F (.refl sb) (.tup h1 h2)
      · obtain ⟨G, q⟩ := new_tup nd sb hp (dpa_app h2 h4)
        exact k _ _ _ G q
    · cases eo
  · split at eo
    · rename_i hz
      cases eo
      obtain ⟨a, vs, rfl, h1, h2⟩ := dv_lst sb dx
      obtain ⟨b, ws, rfl, h3, h4⟩ := dv_lst sb dy
      have l1 := dpa_len h2
      have l2 := dpa_len h4
      refine op_catL pins s σ H _ _ v u Q I rx ry ⟨a, b, vs, ws, rfl, rfl, h1, h3, by rw [l1, l2]; exact szOk_le hz, fun p hp => ?_⟩
      obtain ⟨G, q⟩ := new_lst sb hp (dpa_app h2 h4)
      exact k _ _ _ G q
    · cases eo
  · split at eo
    · rename_i hz
      cases eo
      cases dv_str dx; cases dv_str dy
      exact op_add_str pins s σ H _ _ v u Q I rx ry ⟨_, _, rfl, rfl, szOk_le hz, k _ H F (.refl sb) (.str _)⟩
    · cases eo
  · cases eo
def subD : D → D → Option D
  | .int i, .int j => some (.int (i - j))
  | _, _ => none
theorem or_subD : OpR X (binaryOp .Sub) (liftO X.K subD) := by
  intro pins s σ H x y v u Q I rx ry h
  obtain ⟨F, d, e, o, sb, dx, dy, eo, k⟩ := h
  unfold subD at eo
  split at eo
  · cases eo
    cases dv_int dx; cases dv_int dy
    exact op_sub pins s σ H _ _ v u Q I rx ry ⟨_, _, rfl, rfl, k _ H F (.refl sb) (.int _)⟩
  · cases eo
/-- % and // by a positive number -/
def modD : D → D → Option D
  | .int i, .int j => if 0 < j then some (.int (i % j)) else none
  | _, _ => none
theorem or_modD : OpR X (binaryOp .Mod) (liftO X.K modD) := by
  intro pins s σ H x y v u Q I rx ry h
  obtain ⟨F, d, e, o, sb, dx, dy, eo, k⟩ := h
  unfold modD at eo
  split at eo
  · split at eo
    · rename_i hj
      cases eo
      cases dv_int dx; cases dv_int dy
      exact op_mod pins s σ H _ _ v u Q I rx ry ⟨_, _, rfl, rfl, hj, k _ H F (.refl sb) (.int _)⟩
    · cases eo
  · cases eo
def fdivD : D → D → Option D
  | .int i, .int j => if 0 < j ∧ j < 1073741824 then some (.int (i / j)) else none
  | _, _ => none
theorem or_fdivD : OpR X (binaryOp .FloorDiv) (liftO X.K fdivD) := by
  intro pins s σ H x y v u Q I rx ry h
  obtain ⟨F, d, e, o, sb, dx, dy, eo, k⟩ := h
  unfold fdivD at eo
  split at eo
  · split at eo
    · rename_i hj
      cases eo
      cases dv_int dx; cases dv_int dy
      exact op_fdiv pins s σ H _ _ v u Q I rx ry ⟨_, _, rfl, rfl, hj, k _ H F (.refl sb) (.int _)⟩
    · cases eo
  · cases eo
/-- a product of ints, the left or the right one below 2 ^ 64 -/
def mulD : D → D → Option D
  | .int i, .int j => if (-(2 ^ 64) < i ∧ i < 2 ^ 64) ∨ (-(2 ^ 64) < j ∧ j < 2 ^ 64) then some (.int (i * j)) else none
  | _, _ => none
theorem or_mulD : OpR X (binaryOp .Mult) (liftO X.K mulD) := by
  intro pins s σ H x y v u Q I rx ry h
  obtain ⟨F, d, e, o, sb, dx, dy, eo, k⟩ := h
  unfold mulD at eo
  split at eo
  · split at eo
    · rename_i hj
      cases eo
      cases dv_int dx; cases dv_int dy
      exact op_mul pins s σ H _ _ v u Q I rx ry ⟨_, _, rfl, rfl, hj, k _ H F (.refl sb) (.int _)⟩
    · cases eo
  · cases eo
/-! ### comparisons -/
def bD (h : D → D → Option Bool) (d e : D) : Option D := (h d e).map .bool
theorem bD_some {h : D → D → Option Bool} {d e o : D} (q : bD h d e = some o) : ∃ b, h d e = some b ∧ o = .bool b := by
  unfold bD at q
  simp only [Option.map_eq_some_iff] at q
  obtain ⟨b, h1, h2⟩ := q
  exact ⟨b, h1, h2.symm⟩
def eqB (d e : D) : Option Bool := if SeqAt.shaped d && SeqAt.shaped e then some (PyData.eqv d e) else none
def neB (d e : D) : Option Bool := if SeqAt.shaped d && SeqAt.shaped e then some (!PyData.eqv d e) else none
theorem or_eqB (hu : X.A.units + 64 < cLine) : OpR X (compareOp .Eq) (liftO X.K (bD eqB)) := by
  intro pins s σ H x y v u Q I rx ry h
  obtain ⟨F, d, e, o, sb, dx, dy, eo, k⟩ := h
  obtain ⟨bb, e9, rfl⟩ := bD_some eo
  clear eo; have eo := e9; clear e9
  unfold eqB at eo
  split at eo
  · rename_i hs
    cases eo
    obtain ⟨s1, s2⟩ := (Bool.and_eq_true_iff.mp hs)
    exact op_eqD hu pins s σ H _ _ v u Q I rx ry ⟨d, e, dp_old (dx.dp sb), dp_old (dy.dp sb), s1, s2, k _ H F (.refl sb) (.bl _)⟩
  · cases eo
theorem or_neB (hu : X.A.units + 64 < cLine) : OpR X (compareOp .NotEq) (liftO X.K (bD neB)) := by
  intro pins s σ H x y v u Q I rx ry h
  obtain ⟨F, d, e, o, sb, dx, dy, eo, k⟩ := h
  obtain ⟨bb, e9, rfl⟩ := bD_some eo
  clear eo; have eo := e9; clear e9
  unfold neB at eo
  split at eo
  · rename_i hs
    cases eo
    obtain ⟨s1, s2⟩ := (Bool.and_eq_true_iff.mp hs)
    exact op_neD hu pins s σ H _ _ v u Q I rx ry ⟨d, e, dp_old (dx.dp sb), dp_old (dy.dp sb), s1, s2, k _ H F (.refl sb) (.bl _)⟩
  · cases eo
/-- the ints of a row -/
def intsOf : List D → Option (List Int)
  | [] => some []
  | .int i :: r => (intsOf r).map (i :: ·)
  | _ :: _ => none
theorem intsOf_some : ∀ {ds : List D} {ns : List Int}, intsOf ds = some ns → ds = ns.map PyData.int
  | [], ns, h => by cases h; rfl
  | .int i :: r, ns, h => by
    simp only [intsOf, Option.map_eq_some_iff] at h
    obtain ⟨ms, h1, rfl⟩ := h
    rw [intsOf_some h1]; rfl
  | .none :: _, _, h => nomatch h
  | .bool _ :: _, _, h => nomatch h
  | .str _ :: _, _, h => nomatch h
  | .list _ :: _, _, h => nomatch h
  | .tuple _ :: _, _, h => nomatch h
  | .dict _ :: _, _, h => nomatch h
theorem intsOf_map (ns : List Int) : intsOf (ns.map PyData.int) = some ns := by
  induction ns with
  | nil => rfl
  | cons n ns ih => simp [intsOf, ih]
def ltB : D → D → Option Bool
  | .int i, .int j => some (decide (i < j))
  | .tuple xs, .tuple ys => (intsOf xs).bind fun ns => (intsOf ys).map fun ms => HT.lexLt ns ms
  | _, _ => none
theorem or_ltB (hu : X.A.units < cLine) : OpR X (compareOp .Lt) (liftO X.K (bD ltB)) := by
  intro pins s σ H x y v u Q I rx ry h
  obtain ⟨F, d, e, o, sb, dx, dy, eo, k⟩ := h
  obtain ⟨bb, e9, rfl⟩ := bD_some eo
  clear eo; have eo := e9; clear e9
  unfold ltB at eo
  split at eo
  · cases eo
    cases dv_int dx; cases dv_int dy
    exact op_lt pins s σ H _ _ v u Q I rx ry ⟨_, _, rfl, rfl, k _ H F (.refl sb) (.bl _)⟩
  · simp only [Option.bind_eq_some_iff, Option.map_eq_some_iff] at eo
    obtain ⟨ns, e1, ms, e2, rfl⟩ := eo
    cases intsOf_some e1; cases intsOf_some e2
    obtain ⟨a, vs, rfl, h1, h2⟩ := dv_tup dx
    obtain ⟨b, ws, rfl, h3, h4⟩ := dv_tup dy
    cases dpa_ints h2; cases dpa_ints h4
    exact op_ltT hu pins s σ H _ _ v u Q I rx ry ⟨a, b, ns, ms, rfl, rfl, sb.sqt (sqt_of h1), sb.sqt (sqt_of h3), k _ H F (.refl sb) (.bl _)⟩
  · cases eo
def leB : D → D → Option Bool
  | .int i, .int j => some (decide (i ≤ j))
  | .tuple xs, .tuple ys => (intsOf xs).bind fun ns => (intsOf ys).map fun ms => !HT.lexLt ms ns
  | _, _ => none
theorem lexAt_shift {e r : Nat → Bool} {z : Bool} : ∀ (n i : Nat), Ob.lexAt e r z (i + 1) n = Ob.lexAt (fun j => e (j + 1)) (fun j => r (j + 1)) z i n
  | 0, i => rfl
  | n + 1, i => by rw [Ob.lexAt_succ, Ob.lexAt_succ, lexAt_shift n (i + 1)]
theorem le_lex : ∀ ns ms : List Int, Ob.lexAt (fun j => decide (ns.getD j 0 = ms.getD j 0)) (fun j => decide (ns.getD j 0 ≤ ms.getD j 0)) (decide (ns.length ≤ ms.length)) 0 (min ns.length ms.length) = !HT.lexLt ms ns
  | [], [] => rfl
  | [], y :: ys => by simp [Ob.lexAt_zero, HT.lexLt]
  | x :: xs, [] => by simp [Ob.lexAt_zero, HT.lexLt]
  | x :: xs, y :: ys => by
    have ih := le_lex xs ys
    have hm : min (x :: xs).length (y :: ys).length = min xs.length ys.length + 1 := by simp only [List.length_cons]; omega
    rw [hm, Ob.lexAt_succ, HT.lexLt_cons]
    simp only [List.getD_cons_zero]
    by_cases h : x = y
    · subst h
      rw [if_pos (by simp), if_pos rfl, lexAt_shift]
      simp only [List.getD_cons_succ, List.length_cons, Nat.add_le_add_iff_right]
      exact ih
    · rw [if_neg (by simpa using h), if_neg (fun q => h q.symm)]
      by_cases q : x ≤ y
      · rw [decide_eq_true q, decide_eq_false (by omega)]; rfl
      · rw [decide_eq_false q, decide_eq_true (by omega)]; rfl
theorem or_leB (hu : X.A.units < cLine) : OpR X (compareOp .LtE) (liftO X.K (bD leB)) := by
  intro pins s σ H x y v u Q I rx ry h
  obtain ⟨F, d, e, o, sb, dx, dy, eo, k⟩ := h
  obtain ⟨bb, e9, rfl⟩ := bD_some eo
  clear eo; have eo := e9; clear e9
  unfold leB at eo
  split at eo
  · cases eo
    cases dv_int dx; cases dv_int dy
    exact op_le pins s σ H _ _ v u Q I rx ry ⟨_, _, rfl, rfl, k _ H F (.refl sb) (.bl _)⟩
  · simp only [Option.bind_eq_some_iff, Option.map_eq_some_iff] at eo
    obtain ⟨ns, e1, ms, e2, rfl⟩ := eo
    cases intsOf_some e1; cases intsOf_some e2
    obtain ⟨a, vs, rfl, h1, h2⟩ := dv_tup dx
    obtain ⟨b, ws, rfl, h3, h4⟩ := dv_tup dy
    cases dpa_ints h2; cases dpa_ints h4
    refine op_leT hu pins s σ H _ _ v u Q I rx ry ⟨a, b, ns, ms, rfl, rfl, sb.sqt (sqt_of h1), sb.sqt (sqt_of h3), ?_⟩
    rw [le_lex]
    exact k _ H F (.refl sb) (.bl _)
  · cases eo
/-- in -/
def itemsOf : D → Option (List D)
  | .tuple ds => some ds
  | .list ds => some ds
  | _ => none
def inB (d e : D) : Option Bool := (itemsOf e).bind fun ds => if SeqAt.shaped d && SeqAt.shaped e then some (ds.any fun z => PyData.eqv z d) else none
def notInB (d e : D) : Option Bool := (inB d e).map fun b => !b
theorem or_inB (hu : X.A.units + 65 < cLine) : OpR X (compareOp .In) (liftO X.K (bD inB)) := by
  intro pins s σ H x y v u Q I rx ry h
  obtain ⟨F, d, e, o, sb, dx, dy, eo, k⟩ := h
  obtain ⟨bb, e9, rfl⟩ := bD_some eo
  clear eo; have eo := e9; clear e9
  unfold inB at eo
  simp only [Option.bind_eq_some_iff] at eo
  obtain ⟨ds, e1, e2⟩ := eo
  split at e2
  · rename_i hs
    cases e2
    obtain ⟨s1, s2⟩ := (Bool.and_eq_true_iff.mp hs)
    obtain ⟨as, r1⟩ := L2.Dp.reads I d x v (dp_old (dx.dp sb)) rx
    obtain ⟨bs, r2⟩ := L2.Dp.reads I e y u (dp_old (dy.dp sb)) ry
    unfold itemsOf at e1
    split at e1
    · cases e1
      exact SeqAt.in_tuple_reads r2 r1 (SeqAt.canLay_of_shaped s2) (SeqAt.canLay_of_shaped s1) (room_in_shaped s1 hu) ⟨.bl _, H, I, rfl, k _ H F (.refl sb) (.bl _)⟩
    · cases e1
      exact SeqAt.in_list_reads r2 r1 (SeqAt.canLay_of_shaped s2) (SeqAt.canLay_of_shaped s1) (room_in_shaped s1 hu) ⟨.bl _, H, I, rfl, k _ H F (.refl sb) (.bl _)⟩
    · cases e1
  · cases e2
theorem or_notInB (hu : X.A.units + 65 < cLine) : OpR X (compareOp .NotIn) (liftO X.K (bD notInB)) := by
  intro pins s σ H x y v u Q I rx ry h
  obtain ⟨F, d, e, o, sb, dx, dy, eo, k⟩ := h
  obtain ⟨bb, e9, rfl⟩ := bD_some eo
  clear eo; have eo := e9; clear e9
  unfold notInB inB at eo
  simp only [Option.bind_eq_some_iff, Option.map_eq_some_iff] at eo
  obtain ⟨b, ⟨ds, e1, e2⟩, rfl⟩ := eo
  split at e2
  · rename_i hs
    cases e2
    obtain ⟨s1, s2⟩ := (Bool.and_eq_true_iff.mp hs)
    obtain ⟨as, r1⟩ := L2.Dp.reads I d x v (dp_old (dx.dp sb)) rx
    obtain ⟨bs, r2⟩ := L2.Dp.reads I e y u (dp_old (dy.dp sb)) ry
    unfold itemsOf at e1
    split at e1
    · cases e1
      exact SeqAt.notIn_tuple_reads r2 r1 (SeqAt.canLay_of_shaped s2) (SeqAt.canLay_of_shaped s1) (room_in_shaped s1 hu) ⟨.bl _, H, I, rfl, k _ H F (.refl sb) (.bl _)⟩
    · cases e1
      exact SeqAt.notIn_list_reads r2 r1 (SeqAt.canLay_of_shaped s2) (SeqAt.canLay_of_shaped s1) (room_in_shaped s1 hu) ⟨.bl _, H, I, rfl, k _ H F (.refl sb) (.bl _)⟩
    · cases e1
  · cases e2
end
end DL
namespace DL
open PySem L2 PyProof.Rows PySem.Spec
section
variable {X : Cx} {a b c e : Expr} {es : List Expr} {f g h : EM} {pos : Pos}
theorem dv_not_non {K : PySem.W.Frag} {F H : Hp} {v : V} {d : D} (x : Dv K F H v d) (n : d ≠ .none) : v ≠ .non := by
  rcases x with x | ⟨a, vs, xs, rfl, _⟩
  · exact fun q => n (by subst q; cases d <;> first | rfl | exact absurd x.inv (by rintro ⟨_, _, q, _⟩; cases q) | cases x.inv)
  · intro q; cases q
def isB : D → D → Option Bool
  | .bool a, .bool b => some (decide (a = b))
  | .none, .none => some true
  | .bool _, .none => some false
  | .int _, .none => some false
  | .str _, .none => some false
  | .tuple _, .none => some false
  | .list _, .none => some false
  | _, _ => none
def isNotB (d e : D) : Option Bool := (isB d e).map fun b => !b
theorem or_isB : OpR X (compareOp .Is) (liftO X.K (bD isB)) := by
  intro pins s σ H x y v u Q I rx ry h
  obtain ⟨F, d, e, o, sb, dx, dy, eo, k⟩ := h
  obtain ⟨b, e1, rfl⟩ := bD_some eo
  have key : e = .none → b = decide (x = V.non) → wpAny (model X.prog X.w) X.A (compareOp .Is v u) (EP X pins σ Q) X.xe s := fun he hb => by
    subst he
    cases dv_non dy
    refine op_isN pins s σ H _ _ v u Q I rx ry ⟨rfl, ?_⟩
    rw [← hb]; exact k _ H F (.refl sb) (.bl _)
  unfold isB at e1
  split at e1
  · cases e1
    cases dv_bl dx; cases dv_bl dy
    exact op_is_bl pins s σ H _ _ v u Q I rx ry ⟨_, _, rfl, rfl, k _ H F (.refl sb) (.bl _)⟩
  · cases e1; cases dv_non dx; exact key rfl (by simp)
  all_goals first
    | (cases e1; done)
    | (cases e1; exact key rfl (by rw [decide_eq_false (dv_not_non dx (by intro q; cases q))]))
theorem or_isNotB : OpR X (compareOp .IsNot) (liftO X.K (bD isNotB)) := by
  intro pins s σ H x y v u Q I rx ry h
  obtain ⟨F, d, e, o, sb, dx, dy, eo, k⟩ := h
  obtain ⟨bb, e9, rfl⟩ := bD_some eo
  clear eo; have eo := e9; clear e9
  unfold isNotB at eo
  simp only [Option.map_eq_some_iff] at eo
  obtain ⟨b, e1, rfl⟩ := eo
  have key : e = .none → b = decide (x = V.non) → wpAny (model X.prog X.w) X.A (compareOp .IsNot v u) (EP X pins σ Q) X.xe s := fun he hb => by
    subst he
    cases dv_non dy
    refine op_notN pins s σ H _ _ v u Q I rx ry ⟨rfl, ?_⟩
    rw [← hb]; exact k _ H F (.refl sb) (.bl _)
  unfold isB at e1
  split at e1
  · cases e1
    cases dv_bl dx; cases dv_bl dy
    exact op_isnot_bl pins s σ H _ _ v u Q I rx ry ⟨_, _, rfl, rfl, k _ H F (.refl sb) (.bl _)⟩
  · cases e1; cases dv_non dx; exact key rfl (by simp)
  all_goals first
    | (cases e1; done)
    | (cases e1; exact key rfl (by rw [decide_eq_false (dv_not_non dx (by intro q; cases q))]))
/-! ### truth -/
def truD : D → Option Bool
  | .none => some false
  | .bool b => some b
  | .int i => some (i != 0)
  | .str x => if szOk x.length then some ((x.length : Int) != 0) else none
  | .list xs => some (!xs.isEmpty)
  | .tuple xs => some (!xs.isEmpty)
  | .dict _ => none
theorem dpa_empty {K : PySem.W.Frag} {F : Hp} {vs : List V} {ds : List D} (h : DpAll K F vs ds) : vs.isEmpty = ds.isEmpty := by cases h <;> rfl
theorem tru_of {K : PySem.W.Frag} {F H : Hp} {v : V} {d : D} {b : Bool} (sb : SubH F H) (x : Dv K F H v d) (h : truD d = some b) : TruV K v H b := by
  unfold truD at h
  split at h
  · cases h; cases dv_non x; rfl
  · cases h; cases dv_bl x; rfl
  · cases h; cases dv_int x; rfl
  · split at h
    · rename_i hz; cases h; cases dv_str x; exact ⟨szOk_le hz, rfl⟩
    · cases h
  · cases h
    obtain ⟨a, vs, rfl, h1, h2⟩ := dv_lst sb x
    exact .inl ⟨vs, h1, by rw [dpa_empty h2]⟩
  · cases h
    obtain ⟨a, vs, rfl, h1, h2⟩ := dv_tup x
    exact .inr (.inl ⟨vs, sb.sqt (sqt_of h1), by rw [dpa_empty h2]⟩)
  · cases h
def truM (f : EM) : TM := fun r => (f r).bind fun p => (truD p.1).map fun b => (b, p.2)
theorem truM_some {f : EM} {r r' : Rho} {o : Bool} (q : truM f r = some (o, r')) : ∃ x, f r = some (x, r') ∧ truD x = some o := by
  unfold truM at q
  simp only [Option.bind_eq_some_iff, Option.map_eq_some_iff] at q
  obtain ⟨⟨x, r1⟩, e1, o', e2, e3⟩ := q
  cases e3; exact ⟨x, e1, e2⟩
/-- a value as a test -/
theorem st_val (ha : SW X a f) (he : ∀ whole, isTrue a X.env whole = (do let v ← whole; standAt a.pos; holding [v] (truthy v)) := by intro _; rfl) : ST X a (truM f) :=
  ⟨pt_imp (pt_truth ha.pe he) fun s H Q ⟨z, r, F, d, r', R, e, k⟩ => by
    obtain ⟨x, e1, e2⟩ := truM_some e
    exact ⟨z, r, F, x, r', R, e1, fun v H' F' R' sb dv => ⟨d, tru_of R'.fh dv e2, k H' F' R' sb⟩⟩⟩
def tstM (h : D → D → Option Bool) (f g : EM) : TM := fun r => (f r).bind fun p => (g p.2).bind fun q => (h p.1 q.1).map fun b => (b, q.2)
theorem tstM_op {h : D → D → Option Bool} {f g : EM} {r r' : Rho} {o : Bool} (q : tstM h f g r = some (o, r')) : opM (bD h) f g r = some (.bool o, r') := by
  unfold tstM at q
  unfold opM bD
  simp only [Option.bind_eq_some_iff, Option.map_eq_some_iff] at q ⊢
  obtain ⟨p, e1, p2, e2, b, e3, e4⟩ := q
  cases e4
  exact ⟨p, e1, p2, e2, _, ⟨_, e3, rfl⟩, rfl⟩
theorem st_cmp {op : CmpOp} {h : D → D → Option Bool} (ho : OpR X (compareOp op) (liftO X.K (bD h))) (ha : SE X a f) (hb : SW X b g) (hm : behindInMarks op b = false := by first | exact nobehind _ (by decide) (by decide) | rfl) : ST X (.Compare a [op] [b] pos) (tstM h f g) :=
  ⟨pt_imp (pt_cmpR ho ha.pe hb.pe hm) fun s H Q ⟨z, r, F, d, r', R, e, k⟩ => by
    refine top_op (r2 := liftO X.K (bD h)) hb ha ⟨z, r, F, _, r', R, tstM_op e, fun v H' F' R' sb dv => ⟨d, ?_, k H' F' R' sb⟩⟩
    cases dv.inv; rfl⟩
/-! ### not, and, or: tests -/
structure SWt (X : Cx) (e : Expr) (f : TM) : Prop where
  pw : PW X e (liftT X.K f)
def notM (f : TM) : TM := fun r => (f r).map fun p => (!p.1, p.2)
def andM (f g : TM) : TM := fun r => (f r).bind fun p => if p.1 = true then g p.2 else some (false, p.2)
def orM (f g : TM) : TM := fun r => (f r).bind fun p => if p.1 = true then some (true, p.2) else g p.2
variable {ft gt : TM} {rest : List Expr}
theorem st_not (ha : ST X a ft) : ST X (.UnaryOp .Not a pos) (notM ft) :=
  ⟨pt_imp (pt_not ha.pt) fun s H Q ⟨z, r, F, d, r', R, e, k⟩ => by
    unfold notM at e
    simp only [Option.map_eq_some_iff] at e
    obtain ⟨⟨b, r1⟩, e1, e2⟩ := e
    cases e2
    exact ⟨z, r, F, b, r1, R, e1, fun H' F' R' sb => k H' F' R' sb⟩⟩
theorem pw_imp {e : Expr} {t t' : TT} (h : PW X e t) (k : ∀ s H Q, t' s H Q → t s H Q) : PW X e t' := ⟨fun wh pins s σ H Q I hq => h.run wh pins s σ H Q I (k _ _ _ hq)⟩
theorem and_lift {s : L2.St} {H : Hp} {Q : Bool → Hp → Prop} (q : liftT X.K (andM ft gt) s H Q) : tAnd (liftT X.K ft) (liftT X.K gt) s H Q := by
  obtain ⟨z, r, F, d, r', R, e, k⟩ := q
  unfold andM at e
  simp only [Option.bind_eq_some_iff] at e
  obtain ⟨⟨b, r1⟩, e1, e2⟩ := e
  refine ⟨z, r, F, b, r1, R, e1, fun H1 F1 R1 sb => ?_⟩
  cases b with
  | true => exact ⟨z, r1, F1, d, r', R1, e2, fun H2 F2 R2 sb2 => k H2 F2 R2 (sb.trans sb2)⟩
  | false => cases e2; exact k H1 F1 R1 sb
theorem or_lift {s : L2.St} {H : Hp} {Q : Bool → Hp → Prop} (q : liftT X.K (orM ft gt) s H Q) : tOr (liftT X.K ft) (liftT X.K gt) s H Q := by
  obtain ⟨z, r, F, d, r', R, e, k⟩ := q
  unfold orM at e
  simp only [Option.bind_eq_some_iff] at e
  obtain ⟨⟨b, r1⟩, e1, e2⟩ := e
  refine ⟨z, r, F, b, r1, R, e1, fun H1 F1 R1 sb => ?_⟩
  cases b with
  | false => exact ⟨z, r1, F1, d, r', R1, e2, fun H2 F2 R2 sb2 => k H2 F2 R2 (sb.trans sb2)⟩
  | true => cases e2; exact k H1 F1 R1 sb
theorem sw_and1 (ha : ST X a ft) : SWt X (.BoolOp .And [a] pos) ft := ⟨pw_and1 ha.pt⟩
theorem sw_or1 (ha : ST X a ft) : SWt X (.BoolOp .Or [a] pos) ft := ⟨pw_or1 ha.pt⟩
theorem sw_and (ha : ST X a ft) (hb : SWt X (.BoolOp .And (b :: rest) pos) gt) : SWt X (.BoolOp .And (a :: b :: rest) pos) (andM ft gt) := ⟨pw_imp (pw_and ha.pt hb.pw) fun s H Q q => and_lift q⟩
theorem sw_or (ha : ST X a ft) (hb : SWt X (.BoolOp .Or (b :: rest) pos) gt) : SWt X (.BoolOp .Or (a :: b :: rest) pos) (orM ft gt) := ⟨pw_imp (pw_or ha.pt hb.pw) fun s H Q q => or_lift q⟩
theorem SWt.st (h : SWt X e ft) : ST X e ft := ⟨h.pw.pt⟩
/-! ### as values -/
def andVM (f g : EM) : EM := fun r => (f r).bind fun p => (truD p.1).bind fun b => if b = true then g p.2 else some (p.1, p.2)
def orVM (f g : EM) : EM := fun r => (f r).bind fun p => (truD p.1).bind fun b => if b = true then some (p.1, p.2) else g p.2
def notVM (f : EM) : EM := fun r => (f r).bind fun p => (truD p.1).map fun b => (.bool (!b), p.2)
theorem se_one {op} (ha : SE X a f) : SE X (.BoolOp op [a] pos) f := ⟨pe_one ha.pe⟩
theorem se_and (ha : SE X a f) (hb : SE X (.BoolOp .And (b :: rest) pos) g) : SE X (.BoolOp .And (a :: b :: rest) pos) (andVM f g) :=
  ⟨pe_imp (pe_andT ha.pe hb.pe) fun s H Q ⟨z, r, F, d, r', R, e, k⟩ => by
    unfold andVM at e
    simp only [Option.bind_eq_some_iff] at e
    obtain ⟨⟨x, r1⟩, e1, b, e2, e3⟩ := e
    refine ⟨z, r, F, x, r1, R, e1, fun v H1 F1 R1 sb dv => ⟨b, tru_of R1.fh (.inl dv) e2, ?_⟩⟩
    cases b with
    | true => exact ⟨z, r1, F1, d, r', R1, e3, fun v2 H2 F2 R2 sb2 dd => k v2 H2 F2 R2 (sb.trans sb2) dd⟩
    | false => cases e3; exact k v H1 F1 R1 sb dv⟩
theorem se_or (ha : SE X a f) (hb : SE X (.BoolOp .Or (b :: rest) pos) g) : SE X (.BoolOp .Or (a :: b :: rest) pos) (orVM f g) :=
  ⟨pe_imp (pe_orT ha.pe hb.pe) fun s H Q ⟨z, r, F, d, r', R, e, k⟩ => by
    unfold orVM at e
    simp only [Option.bind_eq_some_iff] at e
    obtain ⟨⟨x, r1⟩, e1, b, e2, e3⟩ := e
    refine ⟨z, r, F, x, r1, R, e1, fun v H1 F1 R1 sb dv => ⟨b, tru_of R1.fh (.inl dv) e2, ?_⟩⟩
    cases b with
    | false => exact ⟨z, r1, F1, d, r', R1, e3, fun v2 H2 F2 R2 sb2 dd => k v2 H2 F2 R2 (sb.trans sb2) dd⟩
    | true => cases e3; exact k v H1 F1 R1 sb dv⟩
theorem se_not (ha : SW X a f) : SE X (.UnaryOp .Not a pos) (notVM f) :=
  ⟨pe_imp (pe_notT ha.pe) fun s H Q ⟨z, r, F, d, r', R, e, k⟩ => by
    unfold notVM at e
    simp only [Option.bind_eq_some_iff, Option.map_eq_some_iff] at e
    obtain ⟨⟨x, r1⟩, e1, b, e2, e3⟩ := e
    cases e3
    exact ⟨z, r, F, x, r1, R, e1, fun v H1 F1 R1 sb dv => ⟨b, tru_of R1.fh dv e2, k _ H1 F1 R1 sb (.bl _)⟩⟩⟩
/-- a if t else b -/
def iteM (t : TM) (f g : EM) : EM := fun r => (t r).bind fun p => if p.1 = true then f p.2 else g p.2
theorem se_ite (hc : ST X c ft) (ha : SE X a f) (hb : SE X b g) : SE X (.IfExp c a b pos) (iteM ft f g) :=
  ⟨pe_imp (pe_ifExp hc.pt ha.pe hb.pe) fun s H Q ⟨z, r, F, d, r', R, e, k⟩ => by
    unfold iteM at e
    simp only [Option.bind_eq_some_iff] at e
    obtain ⟨⟨b, r1⟩, e1, e2⟩ := e
    refine ⟨z, r, F, b, r1, R, e1, fun H1 F1 R1 sb => ?_⟩
    cases b with
    | true => exact ⟨z, r1, F1, d, r', R1, e2, fun v2 H2 F2 R2 sb2 dd => k v2 H2 F2 R2 (sb.trans sb2) dd⟩
    | false => exact ⟨z, r1, F1, d, r', R1, e2, fun v2 H2 F2 R2 sb2 dd => k v2 H2 F2 R2 (sb.trans sb2) dd⟩⟩
/-- -a -/
def negD : D → Option D
  | .int i => some (.int (-i))
  | _ => none
theorem se_neg (ha : SE X a f) : SE X (.UnaryOp .USub a pos) (unM negD f) :=
  ⟨pe_imp (pe_un un_neg ha.pe) fun s H Q ⟨z, r, F, d, r', R, e, k⟩ => by
    obtain ⟨x, e1, e2⟩ := unM_some e
    unfold negD at e2
    split at e2
    · cases e2
      exact ⟨z, r, F, _, r', R, e1, fun v H1 F1 R1 sb dv => by cases dv.inv; exact ⟨_, rfl, k _ H1 F1 R1 sb (.int _)⟩⟩
    · cases e2⟩
/-! ### rows of expressions, displays -/
def nilM : AM := fun r => some ([], r)
def consM (f : EM) (g : AM) : AM := fun r => (f r).bind fun p => (g p.2).map fun q => (p.1 :: q.1, q.2)
theorem sa_nil : SA X [] nilM := ⟨pa_imp pa_nil fun s H Q ⟨z, r, F, d, r', R, e, k⟩ => by cases e; exact k [] H F R (.refl _) .nil, fun r ds r' e => by cases e; rfl⟩
theorem consM_some {f : EM} {g : AM} {r r' : Rho} {o : List D} (q : consM f g r = some (o, r')) : ∃ x r1 xs, f r = some (x, r1) ∧ g r1 = some (xs, r') ∧ o = x :: xs := by
  unfold consM at q
  simp only [Option.bind_eq_some_iff, Option.map_eq_some_iff] at q
  obtain ⟨⟨x, r1⟩, e1, ⟨xs, r2⟩, e2, e3⟩ := q
  cases e3; exact ⟨x, r1, xs, e1, e2, rfl⟩
theorem sa_cons {g : AM} (ha : SE X e f) (hr : SA X es g) (hs : starEach (e :: es) X.env = (false, eval e X.env) :: starEach es X.env := by rfl) : SA X (e :: es) (consM f g) :=
  ⟨pa_imp (pa_cons ha.pe hr.pa hs) fun s H Q ⟨z, r, F, d, r', R, e, k⟩ => by
    obtain ⟨x, r1, xs, e1, e2, rfl⟩ := consM_some e
    exact ⟨z, r, F, x, r1, R, e1, fun v H1 F1 R1 sb1 dv => ⟨z, r1, F1, xs, r', R1, e2, fun vs H2 F2 R2 sb2 dvs => k _ H2 F2 R2 (sb1.trans sb2) (.cons (dp_mono sb2 dv) dvs)⟩⟩, fun r ds r' e => by
    obtain ⟨x, r1, xs, e1, e2, rfl⟩ := consM_some e
    rw [List.length_cons, hr.len _ _ _ e2]; rfl⟩
def tupM (f : AM) : EM := fun r => (f r).bind fun p => if szOk p.1.length then some (.tuple p.1, p.2) else none
def lstM (f : AM) : AM := fun r => (f r).bind fun p => if szOk p.1.length then some p else none
/-- a written tuple -/
def tTupN (t : TA) : TE := fun σ H Q => t σ H fun xs H1 => xs.length ≤ sizeLine ∧ Laid H1 xs Q
theorem pe_tupN {x1} {t : TA} (h : PA X es t) : PE X (.Tuple es x1 pos) (tTupN t) := by
  constructor
  intro pins s σ H Q I want
  apply PyProof.Rows.Tuple_
  refine thn (h.run pos pins s σ H _ I want) ?_
  rintro us s1 ⟨xs, H1, I1, vals, fits, q⟩
  exact wpAny_newTuple (laid_ep I1 vals fits q) (by rw [← vals.length]; exact fits)
theorem se_tup {x1} {f : AM} (h : SA X es f) : SE X (.Tuple es x1 pos) (tupM f) :=
  ⟨pe_imp (pe_tupN h.pa) fun s H Q ⟨z, r, F, d, r', R, e, k⟩ => by
    unfold tupM at e
    simp only [Option.bind_eq_some_iff] at e
    obtain ⟨⟨xs, r1⟩, e1, e2⟩ := e
    split at e2
    · rename_i hz
      cases e2
      refine ⟨z, r, F, xs, r1, R, e1, fun vs H1 F1 R1 sb dv => ⟨by rw [dpa_len dv]; exact szOk_le hz, fun p ob nd hp => ?_⟩⟩
      obtain ⟨G, q⟩ := new_tup nd R1.fh hp dv
      exact k _ _ _ (R1.grow G) (sb.trans G.ff) q
    · cases e2⟩
theorem Rep.loose {K : PySem.W.Frag} {z : Fx} {r : Rho} {s : L2.St} {H F : Hp} {p : Addr} {vs : List V} (R : Rep K z r s H F) (hp : H p = none) : Rep K z r s (upd H p (.lst vs)) F ∧ (upd H p (.lst vs)) p = some (.lst vs) ∧ F p = none ∧ z.H0 p = none ∧ ¬ OwnAt r s (upd H p (.lst vs)) p :=
  ⟨R.grow (.loose R.fh hp), upd_same, R.fh.none hp, R.old.none hp, fun q => R.free hp (R.ownAtH (SubH.new hp) q)⟩
theorem sl_lst {f : AM} (h : SA X es f) : SL X (.List es pos) (lstM f) :=
  ⟨pe_imp (pe_lst h.pa) fun s H Q ⟨z, r, F, d, r', R, e, k⟩ => by
    unfold lstM at e
    simp only [Option.bind_eq_some_iff] at e
    obtain ⟨⟨xs, r1⟩, e1, e2⟩ := e
    split at e2
    · rename_i hz
      cases e2
      refine ⟨z, r, F, _, _, R, e1, fun vs H1 F1 R1 sb dv => ⟨by rw [dpa_len dv]; exact szOk_le hz, fun p hp => ?_⟩⟩
      obtain ⟨R2, h1, h2, h3, h4⟩ := R1.loose (vs := vs) hp
      exact k p vs _ F1 R2 sb h1 h2 h3 h4 dv
    · cases e2⟩
end
end DL
namespace DL
open PySem L2 PyProof.Rows PySem.Spec
section
variable {X : Cx} {a b c e : Expr} {es : List Expr} {f g h : EM} {pos : Pos}
/-! ### subscripts -/
def ixD : D → D → Option D
  | .tuple ds, .int i => atI ds i
  | .list ds, .int i => atI ds i
  | .str x, .int i => if szOk x.length then (atI x.cps.toList i).map fun c => .str ⟨#[c]⟩ else none
  | _, _ => none
theorem atI_dpa {K : PySem.W.Frag} {F : Hp} {vs : List V} {ds : List D} {i : Int} {d : D} (h : DpAll K F vs ds) (q : atI ds i = some d) : ∃ v, atI vs i = some v ∧ Dp K F v d := by
  unfold atI at q ⊢
  rw [dpa_len h]
  cases e : ixN ds.length i with
  | none => rw [e] at q; cases q
  | some j => rw [e] at q; exact dpa_get (i := j) h q
theorem ix_any : IxR X (liftO X.K ixD) := by
  intro value slice pins s σ H x y v u Q I rx ry h hs
  obtain ⟨F, d, e, o, sb, dx, dy, eo, k⟩ := h
  unfold ixD at eo
  split at eo
  · obtain ⟨a, vs, rfl, h1, h2⟩ := dv_tup dx
    cases dv_int dy
    obtain ⟨w, e1, e2⟩ := atI_dpa h2 eo
    exact ix_tup value slice pins s σ H _ _ v u Q I rx ry ⟨a, vs, _, w, rfl, rfl, sb.sqt (sqt_of h1), e1, k _ H F (.refl sb) e2⟩ hs
  · obtain ⟨a, vs, rfl, h1, h2⟩ := dv_lst sb dx
    cases dv_int dy
    obtain ⟨w, e1, e2⟩ := atI_dpa h2 eo
    exact ix_list value slice pins s σ H _ _ v u Q I rx ry ⟨a, vs, _, w, rfl, rfl, h1, e1, k _ H F (.refl sb) e2⟩ hs
  · split at eo
    · rename_i hz
      simp only [Option.map_eq_some_iff] at eo
      obtain ⟨c, e1, rfl⟩ := eo
      cases dv_str dx
      cases dv_int dy
      exact ix_str value slice pins s σ H _ _ v u Q I rx ry ⟨_, _, c, rfl, rfl, szOk_le hz, e1, k _ H F (.refl sb) (.str _)⟩ hs
    · cases eo
  · cases eo
theorem se_ix (ha : SE X a f) (hb : SE X b g) (hp : PlainIx b := by exact fun _ _ => rfl) : SE X (.Subscript a b pos) (opM ixD f g) :=
  ⟨pe_imp (pe_ix ix_any ha.pe hb.sw.pe hp) fun s H Q q => top_op (r2 := liftO X.K ixD) hb.sw ha q⟩
theorem se_ixOwn (i : Nat) {x : Str} {p : Pos} (hb : SE X b g) (hp : PlainIx b := by exact fun _ _ => rfl) (hN : X.N[i]? = some x := by rfl) (hv : Vis X.env.scope x := by first | exact Or.inl rfl | exact Or.inr (Or.inl rfl) | exact Or.inr (Or.inr rfl)) (hd : (x == ("__debug__" : Str)) = false := by decide)
    (hcd : (x == ("__classdict__" : Str)) = false := by decide) : SE X (.Subscript (.Name x p) b pos) (opOwnM ixD i g) :=
  ⟨pe_imp (pe_ix ix_any (pe_var hN hv hd hcd) hb.sw.pe hp) fun s H Q q => own_op i q⟩
/-! ### slices -/
abbrev OM := Rho → Option (Option Int × Rho)
def liftP (K : PySem.W.Frag) (f : OM) : TO := fun s H Q => ∃ z r F d r', Rep K z r s H F ∧ f r = some (d, r') ∧ ∀ H' F', Rep K z r' s H' F' → SubH F F' → Q d H'
structure SP' (X : Cx) (e : Option Expr) (f : OM) : Prop where
  po : PO X e (liftP X.K f)
def noM : OM := fun r => some (none, r)
def someM (f : EM) : OM := fun r => (f r).bind fun p => match p.1 with
  | .int i => some (some i, p.2)
  | _ => none
theorem po_imp {e : Option Expr} {t t' : TO} (h : PO X e t) (k : ∀ s H Q, t' s H Q → t s H Q) : PO X e t' := ⟨fun pins s σ H Q I hq => h.run pins s σ H Q I (k _ _ _ hq)⟩
theorem sp_none : SP' X none noM := ⟨po_imp po_none fun s H Q ⟨z, r, F, d, r', R, e, k⟩ => by cases e; exact k H F R (.refl _)⟩
theorem sp_some (ha : SE X e f) : SP' X (some e) (someM f) := ⟨po_imp (po_some ha.pe) fun s H Q ⟨z, r, F, d, r', R, e, k⟩ => by
  unfold someM at e
  simp only [Option.bind_eq_some_iff] at e
  obtain ⟨⟨x, r1⟩, e1, e2⟩ := e
  split at e2
  · rename_i i hx
    cases e2
    have hx : x = .int i := hx
    subst hx
    exact ⟨z, r, F, _, r1, R, e1, fun v H1 F1 R1 sb dv => by cases dv.inv; exact ⟨i, rfl, k H1 F1 R1 sb⟩⟩
  · cases e2⟩
def cutD {α : Type} (xs : List α) (lo hi : Option Int) : List α := (xs.drop (HT.sIx xs.length 0 lo)).take (HT.sIx xs.length xs.length hi - HT.sIx xs.length 0 lo)
def slD (x : D) (lo hi : Option Int) : Option D := match x with
  | .tuple ds => some (.tuple (cutD ds lo hi))
  | .list ds => some (.list (cutD ds lo hi))
  | .str z => if szOk z.length then some (.str (cutS z lo hi)) else none
  | _ => none
def liftSl (K : PySem.W.Frag) : V → Option Int → Option Int → Hp → VK → Prop := fun x lo hi H Q => ∃ F d o, SubH F H ∧ Dv K F H x d ∧ slD d lo hi = some o ∧ ∀ v H' F', Grow F H F' H' → Dp K F' v o → Q v H'
theorem cut_dpa {K : PySem.W.Frag} {F : Hp} {vs : List V} {ds : List D} {lo hi : Option Int} (h : DpAll K F vs ds) : DpAll K F (cutV vs lo hi) (cutD ds lo hi) := by
  unfold cutV cutD
  rw [dpa_len h]
  exact dpa_take _ (dpa_drop _ h)
theorem cut_all {α : Type} {xs : List α} {lo hi : Option Int} (h : HT.sIx xs.length 0 lo = 0 ∧ HT.sIx xs.length xs.length hi = xs.length) : cutD xs lo hi = xs := by
  unfold cutD
  rw [h.1, h.2]
  simp
/-- a part of a tuple: the tuple itself if it is all of it, else a new one -/
def rSlN (K : PySem.W.Frag) : V → Option Int → Option Int → Hp → VK → Prop := fun x lo hi H Q => ∃ a xs, x = .ref a ∧ SqT K H a xs ∧
  (HT.sIx xs.length 0 lo = 0 ∧ HT.sIx xs.length xs.length hi = xs.length → Q (.ref a) H) ∧ (¬ (HT.sIx xs.length 0 lo = 0 ∧ HT.sIx xs.length xs.length hi = xs.length) → Laid H (cutD xs lo hi) Q)
theorem sl_tupN : SlR X (rSlN X.K) := by
  rintro pins s σ H x v vl vu lo hi sl Q I rx isS pl pu ⟨a, xs, rfl, tup, whole, part⟩
  cases rx
  obtain ⟨its, vals, isT, fits⟩ := I.tuple tup
  refine ⟨"tuple", "tuple.__getitem__", PySem.F.slot_tuple_getitem.lookup, isT.typeIs, ?_⟩
  have len : its.toArray.size = xs.length := by simp [vals.length]
  by_cases all : HT.sIx xs.length 0 lo = 0 ∧ HT.sIx xs.length xs.length hi = xs.length
  · exact getItem_tuple_whole isT isS pl pu (by rwa [len]) ⟨.ref a, H, I, rfl, whole all⟩
  · have cut := (vals.drop (HT.sIx xs.length 0 lo)).take (HT.sIx xs.length xs.length hi - HT.sIx xs.length 0 lo)
    have short : (cutD xs lo hi).length ≤ sizeLine := by unfold cutD; simp only [List.length_take, List.length_drop]; omega
    have made := laid_ep I cut short (part all)
    refine HT.getItem_tuple_cut isT isS pl pu (by rwa [len]) ?_ (by rw [len]; exact fits)
    rw [len]
    exact made
theorem sl_any : SlR X (liftSl X.K) := by
  intro pins s σ H x v vl vu lo hi sl Q I rx hsl pl pu h
  obtain ⟨F, d, o, sb, dx, eo, k⟩ := h
  unfold slD at eo
  split at eo
  · cases eo
    obtain ⟨a, vs, rfl, h1, h2⟩ := dv_tup dx
    refine sl_tupN pins s σ H _ v vl vu lo hi sl Q I rx hsl pl pu ⟨a, vs, rfl, sb.sqt (sqt_of h1), fun e => ?_, fun e p ob nd hp => ?_⟩
    · rw [dpa_len h2] at e
      rw [cut_all e] at k
      exact k _ H F (.refl sb) (.tup h1 h2)
    · obtain ⟨G, q⟩ := new_tup nd sb hp (cut_dpa (lo := lo) (hi := hi) h2)
      exact k _ _ _ G q
  · cases eo
    obtain ⟨a, vs, rfl, h1, h2⟩ := dv_lst sb dx
    refine sl_list pins s σ H _ v vl vu lo hi sl Q I rx hsl pl pu ⟨a, vs, rfl, h1, fun p hp => ?_⟩
    obtain ⟨G, q⟩ := new_lst sb hp (cut_dpa (lo := lo) (hi := hi) h2)
    exact k _ _ _ G q
  · split at eo
    · rename_i hz
      cases eo
      cases dv_str dx
      exact sl_str pins s σ H _ v vl vu lo hi sl Q I rx hsl pl pu ⟨_, rfl, szOk_le hz, k _ H F (.refl sb) (.str _)⟩
    · cases eo
  · cases eo
def slM (f : EM) (l u : OM) : EM := fun r => (f r).bind fun p => (l p.2).bind fun q => (u q.2).bind fun w => (slD p.1 q.1 w.1).map fun d => (d, w.2)
theorem se_sl {lo hi : Option Expr} {l u : OM} {p2 : Pos} (ha : SE X e f) (hl : SP' X lo l) (hh : SP' X hi u) : SE X (.Subscript e (.Slice lo hi none p2) pos) (slM f l u) :=
  ⟨pe_imp (pe_slice sl_any ha.pe hl.po hh.po) fun s H Q ⟨z, r, F, d, r', R, e, k⟩ => by
    unfold slM at e
    simp only [Option.bind_eq_some_iff, Option.map_eq_some_iff] at e
    obtain ⟨⟨x, r1⟩, e1, ⟨q, r2⟩, e2, ⟨w, r3⟩, e3, o, e4, e5⟩ := e
    cases e5
    exact ⟨z, r, F, x, r1, R, e1, fun v H1 F1 R1 sb1 dv => ⟨z, r1, F1, q, r2, R1, e2, fun H2 F2 R2 sb2 => ⟨z, r2, F2, w, _, R2, e3, fun H3 F3 R3 sb3 =>
      ⟨F3, x, d, R3.fh, .inl (dp_mono (sb2.trans sb3) dv), e4, fun v2 H4 F4 G dd => k v2 H4 F4 (R3.grow G) (((sb1.trans sb2).trans sb3).trans G.ff) dd⟩⟩⟩⟩⟩
/-! ### built-ins -/
def lenD : D → Option D
  | .tuple ds => some (.int ds.length)
  | .list ds => some (.int ds.length)
  | .str x => if szOk x.length then some (.int x.length) else none
  | _ => none
theorem cr_len : CallR X (.builtin "len") (liftC1 X.K lenD) := by
  intro pins s σ H vs us Q I r h
  obtain ⟨F, x, d, o, rfl, sb, dx, eo, k⟩ := h
  unfold lenD at eo
  split at eo
  · cases eo
    obtain ⟨a, vs, rfl, h1, h2⟩ := dv_tup dx
    refine call_len_seq pins s σ H _ us Q I r ⟨a, vs, rfl, .inr (sb.sqt (sqt_of h1)), ?_⟩
    rw [dpa_len h2]; exact k _ H F (.refl sb) (.int _)
  · cases eo
    obtain ⟨a, vs, rfl, h1, h2⟩ := dv_lst sb dx
    refine call_len_seq pins s σ H _ us Q I r ⟨a, vs, rfl, .inl h1, ?_⟩
    rw [dpa_len h2]; exact k _ H F (.refl sb) (.int _)
  · split at eo
    · rename_i hz
      cases eo
      cases dv_str dx
      exact call_len_str pins s σ H _ us Q I r ⟨_, rfl, szOk_le hz, k _ H F (.refl sb) (.int _)⟩
    · cases eo
  · cases eo
def tupleD : D → Option D
  | .tuple ds => some (.tuple ds)
  | .list ds => some (.tuple ds)
  | _ => none
theorem cr_tuple : CallR X (.type "tuple") (liftC1 X.K tupleD) := by
  rintro pins s σ H vs us Q I rel ⟨F, x, d, o, rfl, sb, dx, eo, k⟩
  obtain ⟨u, rfl, ru⟩ := vals1 rel
  cases d with
  | tuple row =>
    cases eo
    obtain ⟨a, xs, rfl, tup, each⟩ := dv_tup dx
    cases ru
    obtain ⟨its, _, isT, _⟩ := I.tuple (sb.sqt (sqt_of tup))
    exact call_tuple_tup isT ⟨.ref a, H, I, rfl, k _ H F (.refl sb) (.tup tup each)⟩
  | list row =>
    cases eo
    obtain ⟨a, xs, rfl, lst, each⟩ := dv_lst sb dx
    cases ru
    obtain ⟨its, vals, isL, fits⟩ := I.list lst
    refine call_tuple_list isL.isList (fun h1 keeps => ?_) (by rw [List.size_toArray, ← vals.length]; exact fits)
    have I1 : L2.Inv X pins σ H { s with heap := h1 } := I.kept (t' := s.toks) keeps
    exact laid_ep I1 vals fits fun p ob nd hp => let ⟨G, q⟩ := new_tup nd sb hp each; k _ _ _ G q
  | _ => cases eo
/-- the truths of a row -/
def blsOf : List D → Option (List Bool)
  | [] => some []
  | .bool i :: r => (blsOf r).map (i :: ·)
  | _ :: _ => none
theorem blsOf_some : ∀ {ds : List D} {ns : List Bool}, blsOf ds = some ns → ds = ns.map PyData.bool
  | [], ns, h => by cases h; rfl
  | .bool i :: r, ns, h => by
    simp only [blsOf, Option.map_eq_some_iff] at h
    obtain ⟨ms, h1, rfl⟩ := h
    rw [blsOf_some h1]; rfl
  | .none :: _, _, h => nomatch h
  | .int _ :: _, _, h => nomatch h
  | .str _ :: _, _, h => nomatch h
  | .list _ :: _, _, h => nomatch h
  | .tuple _ :: _, _, h => nomatch h
  | .dict _ :: _, _, h => nomatch h
theorem dpa_bls {K : PySem.W.Frag} {F : Hp} : ∀ {ns : List Bool} {vs : List V}, DpAll K F vs (ns.map PyData.bool) → vs = ns.map V.bl
  | [], [], _ => rfl
  | n :: ns, v :: vs, h => by
    cases h with
    | cons x t => cases x.inv; rw [dpa_bls t]; rfl
  | [], _ :: _, h => nomatch h
  | _ :: _, [], h => nomatch h
def allD : D → Option D
  | .list ds => (blsOf ds).map fun bs => .bool (bs.all id)
  | _ => none
def anyD : D → Option D
  | .list ds => (blsOf ds).map fun bs => .bool (bs.any id)
  | _ => none
theorem cr_allD (hc : X.calm = true) : CallR X (.builtin "all") (liftC1 X.K allD) := by
  intro pins s σ H vs us Q I r h
  obtain ⟨F, x, d, o, rfl, sb, dx, eo, k⟩ := h
  unfold allD at eo
  split at eo
  · simp only [Option.map_eq_some_iff] at eo
    obtain ⟨bs, e1, rfl⟩ := eo
    cases blsOf_some e1
    obtain ⟨a, vs, rfl, h1, h2⟩ := dv_lst sb dx
    cases dpa_bls h2
    exact cr_all hc pins s σ H _ us Q I r ⟨a, bs, rfl, h1, k _ H F (.refl sb) (.bl _)⟩
  · cases eo
theorem cr_anyD (hc : X.calm = true) : CallR X (.builtin "any") (liftC1 X.K anyD) := by
  intro pins s σ H vs us Q I r h
  obtain ⟨F, x, d, o, rfl, sb, dx, eo, k⟩ := h
  unfold anyD at eo
  split at eo
  · simp only [Option.map_eq_some_iff] at eo
    obtain ⟨bs, e1, rfl⟩ := eo
    cases blsOf_some e1
    obtain ⟨a, vs, rfl, h1, h2⟩ := dv_lst sb dx
    cases dpa_bls h2
    exact cr_any hc pins s σ H _ us Q I r ⟨a, bs, rfl, h1, k _ H F (.refl sb) (.bl _)⟩
  · cases eo
def min2D : D → D → Option D
  | .int i, .int j => some (.int (if j < i then j else i))
  | _, _ => none
def max2D : D → D → Option D
  | .int i, .int j => some (.int (if j > i then j else i))
  | _, _ => none
theorem cr_min2 (hc : X.calm = true) : CallR X (.builtin "min") (liftC2 X.K min2D) := by
  intro pins s σ H vs us Q I r h
  obtain ⟨x, y, rfl, F, d, e, o, sb, dx, dy, eo, k⟩ := h
  unfold min2D at eo
  split at eo
  · cases eo
    cases dv_int dx; cases dv_int dy
    exact call_min2 hc pins s σ H _ us Q I r ⟨_, _, rfl, k _ H F (.refl sb) (.int _)⟩
  · cases eo
theorem cr_max2 (hc : X.calm = true) : CallR X (.builtin "max") (liftC2 X.K max2D) := by
  intro pins s σ H vs us Q I r h
  obtain ⟨x, y, rfl, F, d, e, o, sb, dx, dy, eo, k⟩ := h
  unfold max2D at eo
  split at eo
  · cases eo
    cases dv_int dx; cases dv_int dy
    exact call_max2 hc pins s σ H _ us Q I r ⟨_, _, rfl, k _ H F (.refl sb) (.int _)⟩
  · cases eo
def intD : D → Option D
  | .int i => some (.int i)
  | .bool b => some (.int (if b = true then 1 else 0))
  | _ => none
theorem cr_int : CallR X (.type "int") (liftC1 X.K intD) := by
  intro pins s σ H vs us Q I r h
  obtain ⟨F, x, d, o, rfl, sb, dx, eo, k⟩ := h
  unfold intD at eo
  split at eo
  · cases eo
    cases dv_int dx
    exact call_int1 pins s σ H _ us Q I r (.inl ⟨_, rfl, k _ H F (.refl sb) (.int _)⟩)
  · cases eo
    cases dv_bl dx
    exact call_int1 pins s σ H _ us Q I r (.inr ⟨_, rfl, k _ H F (.refl sb) (.int _)⟩)
  · cases eo
/-! ### isinstance(x, T), T one of int, bool, str, tuple, list -/
inductive Ty where
  | int | bool | str | tuple | list
def Ty.nm : Ty → String
  | .int => "int" | .bool => "bool" | .str => "str" | .tuple => "tuple" | .list => "list"
def isiD (t : Ty) (d : D) : Option D := some (.bool (match t, d with
  | .int, .int _ => true
  | .int, .bool _ => true
  | .bool, .bool _ => true
  | .str, .str _ => true
  | .tuple, .tuple _ => true
  | .list, .list _ => true
  | _, _ => false))
theorem ty_of {K : PySem.W.Frag} {H : Hp} {v : V} {d : D} (x : L2.Dp K H v d) : ∃ n, TyX K H v (.type n) ∧ n = (match d with | .none => "NoneType" | .bool _ => "bool" | .int _ => "int" | .str _ => "str" | .list _ => "list" | .tuple _ => "tuple" | .dict _ => "dict") := by
  cases x with
  | non => exact ⟨_, .base .non, rfl⟩
  | bl b => exact ⟨_, .base (.bl b), rfl⟩
  | int b => exact ⟨_, .base (.int b), rfl⟩
  | str b => exact ⟨_, .base (.str b), rfl⟩
  | lst h _ =>
    rcases h with (h | ⟨o, h⟩) | ⟨o, its, n, hk, hc, _⟩
    · exact ⟨_, .base (.lst h), rfl⟩
    · exact ⟨_, .base (.frz h), rfl⟩
    · exact ⟨_, .kList hk hc, rfl⟩
  | tup h _ =>
    rcases h with (h | ⟨o, h⟩) | ⟨o, its, n, hk, hc, _⟩
    · exact ⟨_, .base (.tup h), rfl⟩
    · exact ⟨_, .fTuple h, rfl⟩
    · exact ⟨_, .kTuple hk hc, rfl⟩
/-- the name of a datum's type -/
def tyN (d : D) : String := match d with
  | .int _ => Ty.nm .int
  | .bool _ => Ty.nm .bool
  | .tuple _ => Ty.nm .tuple
  | .str _ => Ty.nm .str
  | .none => "NoneType"
  | .list _ => "list"
  | .dict _ => "dict"
theorem kit_any {K : PySem.W.Frag} (t : Ty) (d : D) (hd : ∀ kvs, d ≠ .dict kvs) : ∃ b, isiD t d = some (.bool b) ∧ PySem.W.kitOne K (.type (tyN d)) (.type t.nm) = some b := by
  cases t <;> cases d <;> first
    | exact absurd rfl (hd _)
    | exact ⟨true, rfl, kit_ty (by simp only [tyN, Ty.nm]; decide +kernel)⟩
    | exact ⟨false, rfl, kit_ty (by simp only [tyN, Ty.nm]; decide +kernel)⟩
theorem cr_isi (t : Ty) : CallR X (.builtin "isinstance") (fun vs H Q => ∃ F x d o, vs = [x, .ty t.nm] ∧ SubH F H ∧ Dv X.K F H x d ∧ isiD t d = some o ∧ ∀ v H' F', Grow F H F' H' → Dp X.K F' v o → Q v H') := by
  intro pins s σ H vs us Q I r h
  obtain ⟨F, x, d, o, rfl, sb, dx, eo, k⟩ := h
  have dx' := dp_old (dx.dp sb)
  obtain ⟨n, hn, en⟩ := ty_of dx'
  obtain ⟨b, e1, e2⟩ := kit_any (K := X.K) t d (by intro kvs q; subst q; cases dx')
  rw [e1] at eo
  cases eo
  have : n = tyN d := by rw [en]; cases d <;> rfl
  subst this
  exact call_isi pins s σ H _ us Q I r ⟨x, _, _, _, b, rfl, .ty _, hn, e2, k _ H F (.refl sb) (.bl _)⟩
theorem se_isi (t : Ty) {x : Str} {p1 p2 : Pos} (hg : Gl X "isinstance") (hm : X.mg "isinstance" = none) (hg2 : Gl X x) (hm2 : X.mg x = none) (hv2 : bootBuiltins x = some (.type t.nm)) (ha : SW X a f)
    (he : starEach [a, .Name x p2] X.env = [(false, eval a X.env), (false, eval (.Name x p2) X.env)] := by rfl) (he2 : starEach [.Name x p2] X.env = [(false, eval (.Name x p2) X.env)] := by rfl) (hv : bootBuiltins "isinstance" = some (.builtin "isinstance") := by decide +kernel) (hn : x ≠ "__name__" := by decide) (hdb : (x == ("__debug__" : Str)) = false := by decide) :
    SE X (.Call (.Name "isinstance" p1) [a, .Name x p2] [] pos) (unM (isiD t) f) :=
  ⟨pe_imp (pe_callB (cr_isi t) hg hm hv (pa_cons ha.pe (pa_cons (pe_bltn (v := .ty t.nm) hg2 hm2 hv2 rfl hn hdb) pa_nil he2) (by rw [he, he2])) (by decide) (by decide) (by rw [he, he2]) (by rw [he2]; rfl)) fun s H Q ⟨z, r, F, d, r', R, e, k⟩ => by
    obtain ⟨x, e1, e2⟩ := unM_some e
    exact ⟨z, r, F, x, r', R, e1, fun v H' F' R' sb dv => ⟨F', v, x, d, rfl, R'.fh, dv, e2, fun v2 H2 F2 G dd => k v2 H2 F2 (R'.grow G) (sb.trans G.ff) dd⟩⟩⟩
/-! ### a < b < c -/
def chM (h1 h2 : D → D → Option Bool) (f g k : EM) : EM := fun r => (f r).bind fun p => (g p.2).bind fun q => (h1 p.1 q.1).bind fun b => if b = true then (k q.2).bind fun w => (h2 q.1 w.1).map fun c => (.bool c, w.2) else some (.bool false, q.2)
theorem ch_lift {h1 h2 : D → D → Option Bool} {k : EM} {s : L2.St} {H : Hp} {Q : VK} (q : liftE X.K (chM h1 h2 f g k) s H Q) : tChain (liftO X.K (bD h1)) (liftO X.K (bD h2)) (liftE X.K f) (liftE X.K g) (liftW X.K k) s H Q := by
  obtain ⟨z, r, F, d, r', R, e, kk⟩ := q
  unfold chM at e
  simp only [Option.bind_eq_some_iff] at e
  obtain ⟨⟨x, r1⟩, e1, ⟨y, r2⟩, e2, b, e3, e4⟩ := e
  refine ⟨z, r, F, x, r1, R, e1, fun v H1 F1 R1 sb1 dx => ⟨z, r1, F1, y, r2, R1, e2, fun w H2 F2 R2 sb2 dy => ⟨F2, x, y, .bool b, R2.fh, .inl (dp_mono sb2 dx), .inl dy, ?_, fun v' H3 F3 G dd => ⟨b, ?_, ?_⟩⟩⟩⟩
  · unfold bD; rw [e3]; rfl
  · cases dd.inv; rfl
  · have R3 := R2.grow G
    cases b with
    | false => cases e4; exact kk _ H3 F3 R3 ((sb1.trans sb2).trans G.ff) (.bl _)
    | true =>
      simp only [if_true, Option.bind_eq_some_iff, Option.map_eq_some_iff] at e4
      obtain ⟨⟨w, r3⟩, e5, c, e6, e7⟩ := e4
      cases e7
      exact ⟨z, r2, F3, w, _, R3, e5, fun v4 H4 F4 R4 sb4 dw => ⟨F4, y, w, .bool c, R4.fh, .inl (dp_mono (G.ff.trans sb4) dy), dw, by unfold bD; rw [e6]; rfl, fun v5 H5 F5 G5 d5 => kk v5 H5 F5 (R4.grow G5) ((((sb1.trans sb2).trans G.ff).trans sb4).trans G5.ff) d5⟩⟩
theorem se_chain {op op' : CmpOp} {h1 h2 : D → D → Option Bool} {k : EM} (ho : OpR X (compareOp op) (liftO X.K (bD h1))) (ho' : OpR X (compareOp op') (liftO X.K (bD h2))) (ha : SE X a f) (hb : SE X b g) (hc : SW X c k)
    (hl : lastMarks [op, op'] [b, c] = false := by rfl) : SE X (.Compare a [op, op'] [b, c] pos) (chM h1 h2 f g k) := ⟨pe_imp (pe_chain ho ho' ha.pe hb.pe hc.pe hl) fun s H Q q => ch_lift q⟩
end
end DL
namespace DL
open PySem L2 PyProof.Rows PySem.Spec
/-! ### what is walked: data (q false), or data and new pairs, which only a tuple target takes (q true) -/
def Dz (K : PySem.W.Frag) (q : Bool) (F : Hp) (v : V) (d : D) : Prop := Dp K F v d ∨ (q = true ∧ ∃ a vs ds, v = .ref a ∧ d = .tuple ds ∧ F a = some (.tup vs) ∧ DpAll K F vs ds)
structure WalkD (K : PySem.W.Frag) (q : Bool) (F0 : Hp) (J : It) (ds : List D) : Prop where
  w : ∃ Y, Walk J ds.length (fun H => SubH F0 H) Y ∧ ∀ i H x H', Y i H x H' → ∀ F, SubH F0 F → SubH F H → ∃ F' d, ds[i]? = some d ∧ Grow F H F' H' ∧ Dz K q F' x d
def liftI (K : PySem.W.Frag) (q : Bool) (f : AM) : TI := fun s H R => ∃ z r F ds r', Rep K z r s H F ∧ f r = some (ds, r') ∧ ∀ J H' F', Rep K z r' s H' F' → SubH F F' → WalkD K q F' J ds → R J H'
structure SI (X : Cx) (q : Bool) (tg iter : Expr) (f : AM) : Prop where
  pi : PI X tg iter (liftI X.K q f)
section
variable {X : Cx} {a b c e tg : Expr} {es : List Expr} {f g h : EM} {pos : Pos}
/-- the items of a list or a tuple -/
def seqM (f : EM) : AM := fun r => (f r).bind fun p => (itemsOf p.1).map fun ds => (ds, p.2)
theorem seqM_some {r r' : Rho} {ds : List D} (q : seqM f r = some (ds, r')) : ∃ x, f r = some (x, r') ∧ itemsOf x = some ds := by
  unfold seqM at q
  simp only [Option.bind_eq_some_iff, Option.map_eq_some_iff] at q
  obtain ⟨⟨x, r1⟩, e1, o', e2, e3⟩ := q
  cases e3; exact ⟨x, e1, e2⟩
theorem walkD_list {K : PySem.W.Frag} {F : Hp} {a : Addr} {vs : List V} {ds : List D} (h1 : SqL K F a vs) (h2 : DpAll K F vs ds) : WalkD K false F (Itl K a) ds := by
  refine ⟨⟨YAt vs, ?_, ?_⟩⟩
  · rw [← dpa_len h2]
    exact walk_list.mono (fun H hs => hs.sql h1) fun _ _ _ _ _ _ y => y
  · rintro i H x H' ⟨rfl, hx⟩ F' sb sh
    obtain ⟨d, e1, e2⟩ := dpa_at h2 hx
    exact ⟨F', d, e1, .refl sh, .inl (dp_mono sb e2)⟩
theorem walkD_tup {K : PySem.W.Frag} {F : Hp} {a : Addr} {vs : List V} {ds : List D} (h1 : TupAt F a vs) (h2 : DpAll K F vs ds) : WalkD K false F (Itt K a) ds := by
  refine ⟨⟨YAt vs, ?_, ?_⟩⟩
  · rw [← dpa_len h2]
    exact walk_tup.mono (fun H hs => hs.sqt (sqt_of h1)) fun _ _ _ _ _ _ y => y
  · rintro i H x H' ⟨rfl, hx⟩ F' sb sh
    obtain ⟨d, e1, e2⟩ := dpa_at h2 hx
    exact ⟨F', d, e1, .refl sh, .inl (dp_mono sb e2)⟩
theorem si_seq (ha : SE X e f) : SI X false tg e (seqM f) := ⟨⟨fun pins s σ H R I h => by
  obtain ⟨z, r, F, ds, r', Rr, e, k⟩ := h
  obtain ⟨x, e1, e2⟩ := seqM_some e
  unfold itemsOf at e2
  split at e2
  · cases e2
    refine (pi_tup ha.pe).run pins s σ H R I ⟨z, r, F, _, r', Rr, e1, fun v H' F' R' sb dv => ?_⟩
    obtain ⟨_, _, rfl, h1, h2⟩ := dv.inv; exact ⟨_, rfl, ⟨_, R'.fh.sqt (sqt_of h1)⟩, k _ H' F' R' sb (walkD_tup h1 h2)⟩
  · cases e2
    refine (pi_list ha.pe).run pins s σ H R I ⟨z, r, F, _, r', Rr, e1, fun v H' F' R' sb dv => ?_⟩
    obtain ⟨_, _, rfl, h1, h2⟩ := dv.inv; exact ⟨_, rfl, ⟨_, R'.fh.sql h1⟩, k _ H' F' R' sb (walkD_list h1 h2)⟩
  · cases e2⟩⟩
/-- range -/
def rngL (lo hi : Int) : List D := (List.range (hi - lo).toNat).map fun i => .int (lo + (i : Nat))
def rngOk (i : Int) : Bool := decide (-1000000 ≤ i) && decide (i ≤ 1000000)
theorem rngOk_le {i : Int} (h : rngOk i = true) : -(2 ^ 62) ≤ i ∧ i < 2 ^ 62 := by
  obtain ⟨h1, h2⟩ := Bool.and_eq_true_iff.mp h
  have h1 := of_decide_eq_true h1
  have h2 := of_decide_eq_true h2
  omega
def rng1M (f : EM) : AM := fun r => (f r).bind fun p => match p.1 with
  | .int j => if rngOk j then some (rngL 0 j, p.2) else none
  | _ => none
def rng2M (f g : EM) : AM := fun r => (f r).bind fun p => (g p.2).bind fun q => match p.1, q.1 with
  | .int i, .int j => if rngOk i && rngOk j then some (rngL i j, q.2) else none
  | _, _ => none
theorem walkD_range {K : PySem.W.Frag} {F : Hp} {lo hi : Int} : WalkD K false F (Itr lo (hi - lo).toNat) (rngL lo hi) := by
  have hl : (rngL lo hi).length = (hi - lo).toNat := by unfold rngL; simp
  refine ⟨⟨fun i H x H' => i < (hi - lo).toNat ∧ YFn (fun i => V.int (lo + (i : Nat))) i H x H', ?_, ?_⟩⟩
  · rw [hl]
    exact walk_range.mono (fun H hs => trivial) fun _ _ _ _ hi _ y => ⟨hi, y⟩
  · rintro i H x H' ⟨hlt, rfl, hx⟩ F' sb sh
    subst hx
    exact ⟨F', .int (lo + (i : Nat)), by unfold rngL; simp [hlt], .refl sh, .inl (.int _)⟩
theorem si_range1 {p : Pos} (hg : Gl X "range") (hm : X.mg "range" = none) (ha : SE X a f) (hs : starEach [a] X.env = [(false, eval a X.env)] := by rfl) : SI X false tg (.Call (.Name "range" p) [a] [] pos) (rng1M f) := ⟨⟨fun pins s σ H R I h => by
  obtain ⟨z, r, F, ds, r', Rr, e, k⟩ := h
  unfold rng1M at e
  simp only [Option.bind_eq_some_iff] at e
  obtain ⟨⟨x, r1⟩, e1, e2⟩ := e
  split at e2
  · rename_i j hx
    have hx : x = .int j := hx
    subst hx
    split at e2
    · rename_i ok
      cases e2
      have := rngOk_le ok
      refine (pi_range1 hg hm (pa_cons ha.pe pa_nil hs) hs).run pins s σ H R I ⟨z, r, F, _, r1, Rr, e1, fun v H' F' R' sb dv => ?_⟩
      cases dv.inv
      refine ⟨j, rfl, this.1, this.2, k _ H' F' R' sb ?_⟩
      have w := walkD_range (K := X.K) (F := F') (lo := 0) (hi := j)
      rw [Int.sub_zero] at w
      exact w
    · cases e2
  · cases e2⟩⟩
theorem si_range2 {p : Pos} (hg : Gl X "range") (hm : X.mg "range" = none) (ha : SE X a f) (hb : SE X b g) (hs : starEach [a, b] X.env = [(false, eval a X.env), (false, eval b X.env)] := by rfl) (hs2 : starEach [b] X.env = [(false, eval b X.env)] := by rfl) : SI X false tg (.Call (.Name "range" p) [a, b] [] pos) (rng2M f g) := ⟨⟨fun pins s σ H R I h => by
  obtain ⟨z, r, F, ds, r', Rr, e, k⟩ := h
  unfold rng2M at e
  simp only [Option.bind_eq_some_iff] at e
  obtain ⟨⟨x, r1⟩, e1, ⟨y, r2⟩, e2, e3⟩ := e
  split at e3
  · rename_i i j hx hy
    have hx : x = .int i := hx
    have hy : y = .int j := hy
    subst hx hy
    split at e3
    · rename_i ok
      cases e3
      obtain ⟨o1, o2⟩ := Bool.and_eq_true_iff.mp ok
      have q1 := rngOk_le o1
      have q2 := rngOk_le o2
      refine (pi_range2 hg hm (pa_cons ha.pe (pa_cons hb.pe pa_nil hs2) (by rw [hs, hs2])) hs hs2).run pins s σ H R I ⟨z, r, F, _, r1, Rr, e1, fun v H' F' R' sb dv => ⟨z, r1, F', _, r2, R', e2, fun v2 H2 F2 R2 sb2 dv2 => ?_⟩⟩
      cases dv.inv; cases dv2.inv
      exact ⟨i, j, rfl, ⟨q1.1, q1.2, q2.1, q2.2⟩, k _ H2 F2 R2 (sb.trans sb2) walkD_range⟩
    · cases e3
  · cases e3⟩⟩
/-- pairs -/
def pairD (x y : D) : D := .tuple [x, y]
def zipL (xs ys : List D) : List D := List.zipWith pairD xs ys
theorem pair_step {K : PySem.W.Frag} {F H : Hp} {T : Addr} {x y : V} {dx dy : D} (sb : SubH F H) (hT : H T = none) (h1 : Dp K F x dx) (h2 : Dp K F y dy) : ∃ F', Grow F H F' (upd H T (.tup [x, y])) ∧ Dz K true F' (.ref T) (pairD dx dy) :=
  have G := Grow.new (o := HO.tup [x, y]) sb hT
  ⟨_, G, .inr ⟨rfl, T, _, _, rfl, rfl, upd_same, .cons (dp_mono G.ff h1) (.cons (dp_mono G.ff h2) .nil)⟩⟩
theorem zipL_get {xs ys : List D} {i : Nat} {x y : D} (h1 : xs[i]? = some x) (h2 : ys[i]? = some y) : (zipL xs ys)[i]? = some (pairD x y) := by
  unfold zipL
  rw [List.getElem?_zipWith, h1, h2]
theorem walk_zipT {K : PySem.W.Frag} {a b : Addr} {xs ys : List V} {n : Nat} (hn : n = min xs.length ys.length) : Walk (RZ.ItzT K a b) n (fun H => SqT K H a xs ∧ SqT K H b ys) (YPair (fun i => xs[i]?) (fun i => ys[i]?)) where
  goes := by
    rintro m H lt ⟨sa, sb⟩
    have lx : m < xs.length := Nat.lt_of_lt_of_le (hn ▸ lt) (Nat.min_le_left ..)
    have ly : m < ys.length := Nat.lt_of_lt_of_le (hn ▸ lt) (Nat.min_le_right ..)
    exact ⟨xs, ys, _, _, sa, sb, List.getElem?_eq_getElem lx, List.getElem?_eq_getElem ly⟩
  stops := by
    rintro H ⟨sa, sb⟩
    exact ⟨xs, ys, sa, sb, by rcases Nat.le_total xs.length ys.length with l | l <;> simp [hn, l]⟩
  yields := by
    rintro m H v H' - ⟨sa, sb⟩ ⟨T, p, q, ev, eT, eH, fx, fy⟩
    exact ⟨T, p, q, ev, eT, eH, fx _ sa, fy _ sb⟩
theorem walkD_pair {K : PySem.W.Frag} {F : Hp} {J : It} {vs ws : List V} {ds es : List D} {n : Nat} (h1 : DpAll K F vs ds) (h2 : DpAll K F ws es) (hn : n = min vs.length ws.length) (w : Walk J n (fun H => SubH F H) (YPair (fun i => vs[i]?) (fun i => ws[i]?))) : WalkD K true F J (zipL ds es) := by
  have hl : (zipL ds es).length = n := by unfold zipL; rw [List.length_zipWith, ← dpa_len h1, ← dpa_len h2, hn]
  refine ⟨⟨_, by rw [hl]; exact w, ?_⟩⟩
  rintro i H x H' ⟨T, x, y, rfl, hT, rfl, hx, hy⟩ F' sb sh
  obtain ⟨d, e1, e2⟩ := dpa_at h1 hx
  obtain ⟨d', e1', e2'⟩ := dpa_at h2 hy
  obtain ⟨F2, G, q⟩ := pair_step sh hT (dp_mono sb e2) (dp_mono sb e2')
  exact ⟨F2, _, zipL_get e1 e1', G, q⟩
def zipM (f g : EM) : AM := fun r => (f r).bind fun p => (g p.2).bind fun q => match p.1, q.1 with
  | .tuple xs, .tuple ys => some (zipL xs ys, q.2)
  | .list xs, .list ys => some (zipL xs ys, q.2)
  | _, _ => none
theorem si_zip {p tpos : Pos} {elts : List Expr} {kk : Nat} (hg : Gl X "zip") (hm : X.mg "zip" = none) (ha : SE X a f) (hb : SE X b g) (hs : starEach [a, b] X.env = (false, eval a X.env) :: starEach [b] X.env := by rfl) (hs2 : starEach [b] X.env = [(false, eval b X.env)] := by rfl) :
    SI X true (.Tuple elts kk tpos) (.Call (.Name "zip" p) [a, b] [] pos) (zipM f g) := ⟨⟨fun pins s σ H R I h => by
  obtain ⟨z, r, F, ds, r', Rr, e, k⟩ := h
  unfold zipM at e
  simp only [Option.bind_eq_some_iff] at e
  obtain ⟨⟨x, r1⟩, e1, ⟨y, r2⟩, e2, e3⟩ := e
  split at e3
  · rename_i xs ys hx hy
    have hx : x = .tuple xs := hx
    have hy : y = .tuple ys := hy
    subst hx hy
    cases e3
    refine (RZ.pi_zipA hg hm (pa_cons ha.pe (pa_cons hb.pe pa_nil hs2) hs) hs (by rw [hs2]; rfl)).run pins s σ H R I ⟨z, r, F, _, r1, Rr, e1, fun v H' F' R' sb dv => ⟨z, r1, F', _, r2, R', e2, fun v2 H2 F2 R2 sb2 dv2 => ?_⟩⟩
    have dv := dp_mono sb2 dv
    obtain ⟨_, _, rfl, h1, h2⟩ := dv.inv
    obtain ⟨_, _, rfl, h3, h4⟩ := dv2.inv
    exact ⟨_, _, _, _, rfl, .inr ⟨R2.fh.sqt (sqt_of h1), R2.fh.sqt (sqt_of h3), k _ H2 F2 R2 (sb.trans sb2) (walkD_pair h2 h4 rfl ((walk_zipT rfl).mono (fun H hs => ⟨hs.sqt (sqt_of h1), hs.sqt (sqt_of h3)⟩) fun _ _ _ _ _ _ y => y))⟩⟩
  · rename_i xs ys hx hy
    have hx : x = .list xs := hx
    have hy : y = .list ys := hy
    subst hx hy
    cases e3
    refine (RZ.pi_zipA hg hm (pa_cons ha.pe (pa_cons hb.pe pa_nil hs2) hs) hs (by rw [hs2]; rfl)).run pins s σ H R I ⟨z, r, F, _, r1, Rr, e1, fun v H' F' R' sb dv => ⟨z, r1, F', _, r2, R', e2, fun v2 H2 F2 R2 sb2 dv2 => ?_⟩⟩
    have dv := dp_mono sb2 dv
    obtain ⟨_, _, rfl, h1, h2⟩ := dv.inv
    obtain ⟨_, _, rfl, h3, h4⟩ := dv2.inv
    exact ⟨_, _, _, _, rfl, .inl ⟨R2.fh.sql h1, R2.fh.sql h3, k _ H2 F2 R2 (sb.trans sb2) (walkD_pair h2 h4 rfl ((walk_zip rfl).mono (fun H hs => ⟨hs.sql h1, hs.sql h3⟩) fun _ _ _ _ _ _ y => y))⟩⟩
  · cases e3⟩⟩
/-! ### targets -/
abbrev GM := Rho → D → Option Rho
def liftGw (K : PySem.W.Frag) (q : Bool) (t : GM) (is : List Nat) : TG := fun v s H Q => ∃ z r F d r', Rep K z r s H F ∧ Dz K q F v d ∧ t r d = some r' ∧ ∀ s', wipe s' is = wipe s is → Rep K z r' s' H F → Q s' H
structure SG (X : Cx) (q : Bool) (tg : Expr) (t : GM) (is : List Nat) : Prop where
  pg : PG X tg (liftGw X.K q t is)
theorem Dz.dp {K : PySem.W.Frag} {F : Hp} {v : V} {d : D} (h : Dz K false F v d) : Dp K F v d := h.elim id fun ⟨q, _⟩ => nomatch q
def nameG (i : Nat) : GM := fun r d => some (r.set i (some (.d d)))
theorem pg_imp {tg : Expr} {t t' : TG} (h : PG X tg t) (k : ∀ v s H Q, t' v s H Q → t v s H Q) : PG X tg t' := ⟨fun pins s σ H v u Q I r hq => h.run pins s σ H v u Q I r (k _ _ _ _ hq)⟩
theorem wipe_set {s : L2.St} {i : Nat} {v : Option V} : ∀ {is : List Nat}, i ∈ is → wipe (s.set i v) is = wipe s is := by
  have getw : ∀ (is : List Nat) (s : L2.St) (j : Nat), (wipe s is)[j]? = if j < s.length then (if j ∈ is then some none else s[j]?) else none := by
    intro is
    induction is with
    | nil => intro s j; unfold wipe; by_cases h : j < s.length <;> simp [h]
    | cons v vs ih =>
      intro s j
      unfold wipe
      rw [List.getElem?_set]
      have hl : (wipe s vs).length = s.length := wipe_length s vs
      by_cases h : v = j
      · subst h
        by_cases h2 : v < s.length
        · simp [h2, hl]
        · simp [h2, hl]
      · rw [if_neg h, ih]
        have : (j ∈ v :: vs) ↔ j ∈ vs := by simp [Ne.symm h]
        simp [this]
  intro is hi
  apply List.ext_getElem?
  intro j
  rw [getw, getw]
  simp only [List.length_set]
  by_cases h : j < s.length
  · simp only [h, if_true]
    by_cases h2 : j ∈ is
    · simp [h2]
    · have : i ≠ j := fun e => h2 (e ▸ hi)
      simp [h2, List.getElem?_set, this]
  · simp [h]
theorem sg_name (i : Nat) {x : Str} {is : List Nat} (hN : X.N.Nodup) (hi : X.N[i]? = some x) (hx : Loc X.env.scope x) (his : i ∈ is) (hf : X.fn x = true ∨ X.env.scope.names.lookup x = some .local := by first | exact .inl rfl | exact .inr rfl | assumption) : SG X false (.Name x pos) (nameG i) is :=
  ⟨pg_imp (pg_name hN hi hx hf) fun v s H Q ⟨z, r, F, d, r', R, dv, e, k⟩ => by
    cases e
    exact k _ (wipe_set his) (R.put dv.dp)⟩
abbrev GMs := Rho → List D → Option Rho
structure SGs (X : Cx) (tgs : List Expr) (t : GMs) (is : List Nat) : Prop where
  pg : PGs X tgs (fun vs s H Q => ∃ z r F ds r', Rep X.K z r s H F ∧ DpAll X.K F vs ds ∧ t r ds = some r' ∧ ∀ s', wipe s' is = wipe s is → Rep X.K z r' s' H F → Q s' H)
theorem pgs_imp {tg : List Expr} {t t' : TGs} (h : PGs X tg t) (k : ∀ v s H Q, t' v s H Q → t v s H Q) : PGs X tg t' := ⟨fun pins s σ H v u Q I r hq => h.run pins s σ H v u Q I r (k _ _ _ _ hq)⟩
def nilG : GMs := fun r ds => match ds with
  | [] => some r
  | _ => none
def consG (t : GM) (u : GMs) : GMs := fun r ds => match ds with
  | d :: ds => (t r d).bind fun r1 => u r1 ds
  | _ => none
theorem sgs_nil {is : List Nat} : SGs X [] nilG is := ⟨pgs_imp pgs_nil fun v s H Q ⟨z, r, F, d, r', R, dv, e, k⟩ => by
  unfold nilG at e
  split at e
  · cases e; cases dv; exact ⟨rfl, k _ rfl R⟩
  · cases e⟩
theorem sgs_cons {t : GM} {u : GMs} {is : List Nat} (h1 : SG X false e t is) (h2 : SGs X es u is)
    (hs : (assignEach (e :: es) X.env).map (·.2) = assign e X.env :: (assignEach es X.env).map (·.2) := by rfl) : SGs X (e :: es) (consG t u) is := ⟨pgs_imp (pgs_cons h1.pg h2.pg hs) fun v s H Q ⟨z, r, F, d, r', R, dv, e, k⟩ => by
  unfold consG at e
  split at e
  · simp only [Option.bind_eq_some_iff] at e
    obtain ⟨r1, e1, e2⟩ := e
    cases dv with
    | cons d1 d2 => exact ⟨_, _, rfl, z, r, F, _, r1, R, .inl d1, e1, fun s' hw R' => ⟨z, r1, F, _, r', R', d2, e2, fun s2 hw2 R2 => k s2 (hw2.trans hw) R2⟩⟩
  · cases e⟩
def tupG (n : Nat) (t : GMs) : GM := fun r d => match d with
  | .tuple ds => if ds.length = n then t r ds else none
  | _ => none
theorem sg_tup {q : Bool} {k : Nat} {t : GMs} {n : Nat} {is : List Nat} (hc : X.calm = true) (h : SGs X es t is) (hn : (assignEach es X.env).length = n := by rfl) (hst : (assignEach es X.env).findIdx? (·.1) = none := by rfl) : SG X q (.Tuple es k pos) (tupG n t) is :=
  ⟨pg_imp (pg_tup hc h.pg hn hst) fun v s H Q ⟨z, r, F, d, r', R, dv, e, k⟩ => by
    unfold tupG at e
    split at e
    · split at e
      · rename_i hl
        rcases dv with dv | ⟨_, a, vs, ds, rfl, eq, plain, h2⟩
        · obtain ⟨_, _, rfl, h1, h2⟩ := dv.inv
          exact ⟨_, _, rfl, R.fh.sqt (sqt_of h1), by rw [dpa_len h2]; exact hl, z, r, F, _, r', R, h2, e, k⟩
        · cases eq
          exact ⟨_, _, rfl, .inl (.inl (R.fh _ _ plain)), by rw [dpa_len h2]; exact hl, z, r, F, _, r', R, h2, e, k⟩
      · cases e
    · cases e⟩
end
end DL
namespace DL
open PySem L2 PyProof.Rows PySem.Spec
/-! ### list comprehensions -/
def wipeR (r : Rho) : List Nat → Rho
  | [] => r
  | v :: vs => (wipeR r vs).set v none
def restR (r2 r1 : Rho) : List Nat → Rho
  | [] => r2
  | v :: vs => (restR r2 r1 vs).set v (r1[v]?.getD none)
def compL (g : GM) (t : TM) (el : EM) (is : List Nat) : List D → Rho → Option (List D × Rho)
  | [], r => some ([], r)
  | x :: xs, r => (g r x).bind fun r1 => (t r1).bind fun p => if p.1 = true then (el p.2).bind fun q => (compL g t el is xs (wipeR q.2 is)).map fun w => (q.1 :: w.1, w.2) else compL g t el is xs (wipeR p.2 is)
def plainAt (r : Rho) (is : List Nat) : Bool := is.all fun i => match r[i]? with
  | some (some sv) => !sv.own
  | _ => true
def compM (is : List Nat) (it : AM) (g : GM) (t : TM) (el : EM) : AM := fun r => (it r).bind fun p => if plainAt p.2 is && szOk p.1.length then (compL g t el is p.1 (wipeR p.2 is)).map fun w => (w.1, restR w.2 p.2 is) else none
theorem wipeR_length (r : Rho) : ∀ is, (wipeR r is).length = r.length
  | [] => rfl
  | v :: vs => by unfold wipeR; rw [List.length_set, wipeR_length r vs]
theorem wipeR_get {r : Rho} {j : Nat} {sv : SV} : ∀ {is : List Nat}, (wipeR r is)[j]? = some (some sv) → r[j]? = some (some sv) ∧ j ∉ is
  | [], h => ⟨h, by simp⟩
  | v :: vs, h => by
    unfold wipeR at h
    rcases get_set_cases h with ⟨_, e⟩ | ⟨ne, e⟩
    · cases e
    · obtain ⟨h1, h2⟩ := wipeR_get e
      exact ⟨h1, by simp [ne, h2]⟩
theorem wipe_get {s : L2.St} {j : Nat} {v : V} : ∀ {is : List Nat}, s[j]? = some (some v) → j ∉ is → (wipe s is)[j]? = some (some v)
  | [], h, _ => h
  | i :: is, h, hn => by
    unfold wipe
    simp only [List.mem_cons, not_or] at hn
    rw [List.getElem?_set_ne (Ne.symm hn.1)]
    exact wipe_get h hn.2
theorem wipe_wipe {s : L2.St} : ∀ {is js : List Nat}, (∀ i ∈ js, i ∈ is) → wipe (wipe s js) is = wipe s is
  | is, [], _ => rfl
  | is, j :: js, h => by
    show wipe ((wipe s js).set j none) is = _
    rw [wipe_set (h j (by simp)), wipe_wipe fun i hi => h i (by simp [hi])]
section
variable {K : PySem.W.Frag} {z : Fx} {r : Rho} {s : L2.St} {H F : Hp}
theorem Rep.weaken {r' : Rho} {s' : L2.St} (R : Rep K z r s H F) (hl : r'.length = s'.length) (h : ∀ (j : Nat) (sv : SV), r'[j]? = some (some sv) → r[j]? = some (some sv) ∧ ∀ v, s[j]? = some (some v) → s'[j]? = some (some v)) : Rep K z r' s' H F := by
  have key : ∀ {j : Nat} {sv : SV} {v : V}, r'[j]? = some (some sv) → s'[j]? = some (some v) → s[j]? = some (some v) := fun {j sv v} e q => by
    obtain ⟨h1, h2⟩ := h j sv e
    obtain ⟨w, hw, _⟩ := R.slots j sv h1
    have := h2 w hw
    rw [q] at this; cases this; exact hw
  refine ⟨R.fh, R.old, R.f0, R.nw, fun i sv e => ?_, R.ap.sub fun j b ⟨x, a, e1, o1, s1, p⟩ => ⟨x, a, (h j x e1).1, o1, key e1 s1, p⟩, hl⟩
  · obtain ⟨h1, h2⟩ := h i sv e
    obtain ⟨v, hv, q⟩ := R.slots i sv h1
    exact ⟨v, h2 v hv, q⟩
theorem Rep.wipe (R : Rep K z r s H F) (is : List Nat) : Rep K z (wipeR r is) (L2.wipe s is) H F :=
  R.weaken (by rw [wipeR_length, wipe_length, R.len]) fun j sv e => by
    obtain ⟨h1, h2⟩ := wipeR_get e
    exact ⟨h1, fun v hv => wipe_get hv h2⟩
/-- a loose list grows -/
theorem Rep.loosePut (R : Rep K z r s H F) {p : Addr} {o : HO} (hf : F p = none) (h0 : z.H0 p = none) (ho : ¬ OwnAt r s H p) : Rep K z r s (upd H p o) F where
  fh := fun b u q => by
    have : b ≠ p := fun e => by rw [e, hf] at q; cases q
    rw [upd_ne this]; exact R.fh b u q
  old := fun b u q => by
    have : b ≠ p := fun e => by rw [e, h0] at q; cases q
    rw [upd_ne this]; exact R.old b u q
  f0 := R.f0
  nw := R.nw
  slots := fun i sv q => by
    obtain ⟨v, h1, h2⟩ := R.slots i sv q
    refine ⟨v, h1, h2.mono (.refl _) (fun a b e hp hown u hu => ?_) fun a b _ _ hf' _ _ _ _ => hf'⟩
    have : b ≠ p := fun z => ho ⟨i, sv, a, q, hown, by rw [h1, e], z ▸ hp⟩
    rw [upd_ne this]; exact hu
  ap := R.ap.sub fun j b h => owns_upd ho h
  len := R.len
/-- what a step over the bare base leaves of a loose object -/
theorem Rep.loose_kept {r' : Rho} {s' : L2.St} {H' F' : Hp} (R : Rep K z r s H F) (R' : Rep K ⟨bare r s H, F, z.rf⟩ r' s' H' F') {p : Addr} {o : HO} (hp : H p = some o) (hf : F p = none) (ho : ¬ OwnAt r s H p) (hnt : ¬ IsTu o) : H' p = some o ∧ F' p = none ∧ ¬ OwnAt r' s' H' p := by
  have hb : bare r s H p = some o := by rw [bare_not ho]; exact hp
  refine ⟨R'.old p o hb, ?_, fun q => ?_⟩
  · cases e : F' p with
    | none => rfl
    | some u =>
      rcases R'.nw p u e with h | h | h
      · have h : F p = some u := h
        rw [hf] at h; cases h
      · have h : bare r s H p = none := h
        rw [hb] at h; cases h
      · have := R'.fh p u e
        rw [R'.old p o hb] at this; cases this
        exact absurd h hnt
  · have h : bare r s H p = none := (R'.own_facts q).2.2
    rw [hb] at h; cases h
theorem restR_length (r2 r1 : Rho) : ∀ is, (restR r2 r1 is).length = r2.length
  | [] => rfl
  | v :: vs => by unfold restR; rw [List.length_set, restR_length r2 r1 vs]
theorem restR_get {r2 r1 : Rho} {j : Nat} {sv : SV} : ∀ {is : List Nat}, (restR r2 r1 is)[j]? = some (some sv) → (j ∈ is ∧ r1[j]? = some (some sv)) ∨ (j ∉ is ∧ r2[j]? = some (some sv))
  | [], h => .inr ⟨by simp, h⟩
  | v :: vs, h => by
    unfold restR at h
    rcases get_set_cases h with ⟨rfl, e⟩ | ⟨ne, e⟩
    · left
      refine ⟨by simp, ?_⟩
      cases q : r1[j]? with
      | none => rw [q] at e; cases e
      | some o => rw [q] at e; simp only [Option.getD_some] at e; rw [← e]
    · rcases restR_get e with ⟨h1, h2⟩ | ⟨h1, h2⟩
      · exact .inl ⟨by simp [h1], h2⟩
      · exact .inr ⟨by simp [ne, h1], h2⟩
/-- behind the comprehension: the def's own slots again -/
theorem Rep.unwipe {r1 r2 : Rho} {H' F' : Hp} {is : List Nat} (R1 : Rep K z r1 s H F) (R2 : Rep K z r2 (L2.wipe s is) H' F') (sb : SubH F F') (hp : plainAt r1 is = true) : Rep K z (restR r2 r1 is) s H' F' := by
  have key : ∀ {j : Nat} {sv : SV}, (restR r2 r1 is)[j]? = some (some sv) → (sv.own = false ∧ r1[j]? = some (some sv)) ∨ (r2[j]? = some (some sv)) := fun {j sv} e => by
    rcases restR_get e with ⟨h1, h2⟩ | ⟨h1, h2⟩
    · left
      have := List.all_eq_true.mp hp j h1
      rw [h2] at this
      exact ⟨by simpa using this, h2⟩
    · exact .inr h2
  have own2 : ∀ {j : Nat} {sv : SV}, (restR r2 r1 is)[j]? = some (some sv) → sv.own = true → r2[j]? = some (some sv) := fun {j sv} e o => by
    rcases key e with ⟨x, _⟩ | h
    · rw [x] at o; cases o
    · exact h
  have sl2 : ∀ {j : Nat} {sv : SV} {v : V}, r2[j]? = some (some sv) → s[j]? = some (some v) → (L2.wipe s is)[j]? = some (some v) := fun {j sv v} e q => by
    obtain ⟨w, hw, _⟩ := R2.slots j sv e
    obtain ⟨h1, _⟩ := wipe_some hw
    rw [q] at h1; cases h1; exact hw
  refine ⟨R2.fh, R2.old, R2.f0, R2.nw, fun j sv e => ?_, R2.ap.sub fun j b ⟨x, a, e1, o1, s1, p⟩ => ⟨x, a, own2 e1 o1, o1, sl2 (own2 e1 o1) s1, p⟩, ?_⟩
  · rcases key e with ⟨x, h⟩ | h
    · obtain ⟨v, h1, h2⟩ := R1.slots j _ h
      exact ⟨v, h1, h2.mono sb (fun _ _ _ _ o => by rw [x] at o; cases o) fun _ _ _ _ _ _ o => by rw [x] at o; cases o⟩
    · obtain ⟨v, h1, h2⟩ := R2.slots j sv h
      exact ⟨v, (wipe_some h1).1, h2⟩
  · rw [restR_length, R2.len, wipe_length]
end
section
variable {X : Cx} {elt tg iter : Expr} {ifs : List Expr} {scope : Scope} {pos : Pos} {it : AM} {g : GM} {t : TM} {el : EM}
structure STs (X : Cx) (ifs : List Expr) (f : TM) : Prop where
  pts : PTs X ifs (liftT X.K f)
def yesM : TM := fun r => some (true, r)
theorem pts_imp {e : List Expr} {t t' : TT} (h : PTs X e t) (k : ∀ s H Q, t' s H Q → t s H Q) : PTs X e t' := ⟨fun pins s σ H Q I hq => h.run pins s σ H Q I (k _ _ _ hq)⟩
theorem sts_nil : STs X [] yesM := ⟨pts_imp pts_nil fun s H Q ⟨z, r, F, d, r', R, e, k⟩ => by cases e; exact k H F R (.refl _)⟩
theorem sts_one {c : Expr} {f : TM} (h : ST X c f) : STs X [c] f := ⟨pts_one h.pt⟩
theorem comp_core {pw : Bool} {own : List (Str × Nat)} {s : L2.St} {H : Hp} {Q : VK} (q : liftL X.K (compM (own.map (·.2)) it g t el) s H Q) :
    tLc (liftI X.K pw it) (liftGw X.K pw g (own.map (·.2))) (liftT X.K t) (liftE X.K el) (own.map (·.2)) s H Q := by
  generalize own.map (·.2) = is at q ⊢
  obtain ⟨z, r, F, d, r', R, e, k⟩ := q
  unfold compM at e
  simp only [Option.bind_eq_some_iff] at e
  obtain ⟨⟨ds, r1⟩, e1, e2⟩ := e
  split at e2
  · rename_i hok
    obtain ⟨hp, hz⟩ := Bool.and_eq_true_iff.mp hok
    have hz : ds.length ≤ 1000000 := of_decide_eq_true hz
    simp only [Option.map_eq_some_iff] at e2
    obtain ⟨⟨out, r2⟩, e3, e4⟩ := e2
    cases e4
    refine ⟨z, r, F, ds, r1, R, e1, fun J H1 F1 R1 sb1 w D hD => ?_⟩
    obtain ⟨Y, W, hY⟩ := w.w
    refine lc_it (g := liftGw X.K pw g is) (tt := liftT X.K t) (te := liftE X.K el) (vs := is) (σ := s) (H1 := H1) (D := D) (Qd := fun H => Q (.ref D) H) W (fun i H => ∃ r F done rest vs, Rep X.K z r (wipe s is) H F ∧ SubH F1 F ∧ compL g t el is (ds.drop i) r = some (rest, r2) ∧ done ++ rest = out ∧ H D = some (.lst vs) ∧ F D = none ∧ z.H0 D = none ∧ ¬ OwnAt r (wipe s is) H D ∧ DpAll X.K F vs done ∧ vs.length ≤ i)
      ?_ (fun i H _ ⟨r, F, done, rest, vs, Rr, sb, _⟩ => sb.trans Rr.fh) ?_ ?_
    · obtain ⟨Rl, h1, h2, h3, h4⟩ := (R1.wipe is).loose (vs := []) hD
      exact ⟨wipeR r1 is, F1, [], out, [], Rl, .refl _, by simpa using e3, rfl, h1, h2, h3, h4, .nil, Nat.le_refl _⟩
    · rintro i x H2 H3 hi ⟨ra, Fa, done, rest, vs, Ra, sba, ec, ed, hDa, hFa, hza, hoa, hda, hla⟩ y
      obtain ⟨Fb, dx, ei, G, dvx⟩ := hY i H2 x H3 y Fa sba Ra.fh
      have Rb := Ra.grow G
      have hDb : H3 D = some (.lst vs) := G.hh _ _ hDa
      have hFb : Fb D = none := by
        cases q : Fb D with
        | none => rfl
        | some u =>
          rcases G.nw D u q with h | h | ⟨ob, ws, rfl⟩
          · rw [hFa] at h; cases h
          · rw [hDa] at h; cases h
          · have q2 := G.fh D _ q
            rw [hDb] at q2; exact (tupHO_lst q2).elim
      have hdrop : ds.drop i = dx :: ds.drop (i + 1) := by
        have hlt : i < ds.length := (List.getElem?_eq_some_iff.mp ei).1
        rw [List.drop_eq_getElem_cons hlt]
        congr 1
        exact (List.getElem?_eq_some_iff.mp ei).2
      rw [hdrop] at ec
      simp only [compL, Option.bind_eq_some_iff] at ec
      obtain ⟨rg, eg, ⟨bt, rt⟩, et, ec⟩ := ec
      refine ⟨_, ra, Fb, dx, rg, Rb.base, dvx, eg, fun s2 hw2 R2 => ?_⟩
      have hww : wipe s2 is = wipe s is := hw2.trans (wipe_wipe fun _ h => h)
      refine ⟨hww, ?_⟩
      refine ⟨_, rg, Fb, bt, rt, R2, et, fun H4 F4 R4 sb4 => ?_⟩
      cases bt with
      | false =>
        simp only [Bool.false_eq_true, if_false] at ec ⊢
        obtain ⟨k1, k2, k3⟩ := Rb.loose_kept R4 hDb hFb (fun q => hoa (Ra.ownAtH G.hh q)) not_tu
        have R5 := (Rb.back R4).wipe is
        rw [hww] at R5
        refine ⟨_, F4, done, rest, vs, R5, (sba.trans G.ff).trans sb4, ec, ed, k1, k2, hza, ?_, dpa_mono (G.ff.trans sb4) hda, by omega⟩
        rintro ⟨j, sv, a, q1, q2, q3, qp⟩
        obtain ⟨q4, q5⟩ := wipeR_get q1
        obtain ⟨v, hv, _⟩ := R4.slots j sv q4
        have := wipe_get hv q5
        rw [hww] at this
        rw [q3] at this; cases this
        exact k3 ⟨j, sv, a, q4, q2, hv, qp⟩
      | true =>
        simp only [if_true, Option.bind_eq_some_iff, Option.map_eq_some_iff] at ec ⊢
        obtain ⟨⟨y1, ry⟩, ey, ⟨ws, rw'⟩, ecl, ee⟩ := ec
        cases ee
        refine ⟨_, rt, F4, y1, ry, R4, ey, fun v5 H5 F5 R5 sb5 dv5 => ?_⟩
        obtain ⟨k1, k2, k3⟩ := Rb.loose_kept R5 hDb hFb (fun q => hoa (Ra.ownAtH G.hh q)) not_tu
        have R6 := (Rb.back R5).wipe is
        rw [hww] at R6
        have k4 : ¬ OwnAt (wipeR ry is) (wipe s is) H5 D := by
          rintro ⟨j, sv, a, q1, q2, q3, qp⟩
          obtain ⟨q4, q5⟩ := wipeR_get q1
          obtain ⟨v, hv, _⟩ := R5.slots j sv q4
          have := wipe_get hv q5
          rw [hww] at this
          rw [q3] at this; cases this
          exact k3 ⟨j, sv, a, q4, q2, hv, qp⟩
        refine ⟨vs, k1, Nat.lt_of_le_of_lt (Nat.le_trans hla (Nat.le_trans (Nat.le_of_lt hi) hz)) (by decide), ?_⟩
        exact ⟨_, F5, done ++ [y1], ws, vs ++ [v5], R6.loosePut k2 hza k4, ((sba.trans G.ff).trans sb4).trans sb5, ecl, by rw [← ed]; simp, upd_same, k2, hza, fun q => k4 (ownAt_upd k4 q), dpa_app (dpa_mono ((G.ff.trans sb4).trans sb5) hda) (dpa_one dv5), by rw [List.length_append]; simp; omega⟩
    · rintro H2 ⟨ra, Fa, done, rest, vs, Ra, sba, ec, ed, hDa, hFa, hza, hoa, hda, hla⟩
      rw [List.drop_length] at ec
      cases ec
      have R9 := R1.unwipe Ra sba hp
      rw [List.append_nil] at ed
      subst ed
      refine k D vs H2 Fa R9 (sb1.trans sba) hDa hFa hza ?_ hda
      rintro ⟨j, sv, a, q1, q2, q3, qp⟩
      rcases restR_get q1 with ⟨h1, h2⟩ | ⟨h1, h2⟩
      · have := List.all_eq_true.mp hp j h1
        rw [h2] at this
        simp only [q2] at this
        cases this
      · exact hoa ⟨j, sv, a, h2, q2, wipe_get q3 h1, qp⟩
  · cases e2
theorem sl_comp {pw : Bool} {own : List (Str × Nat)} (hc : X.calm = true) (hN : X.N.Nodup) (hi : SI X pw tg iter it) (ok : BlkOk X.N X.env.scope scope own)
    (hg : ∀ (s : Shared) (H : Hp) (C : Addr) (cl : List (Str × Addr)) (fp : List Addr), SG (X.blk s H scope (compEnvC scope cl C X.env) fp) pw tg g (own.map (·.2))) (ht : ∀ (s : Shared) (H : Hp) (C : Addr) (cl : List (Str × Addr)) (fp : List Addr), STs (X.blk s H scope (compEnvC scope cl C X.env) fp) ifs t)
    (he : ∀ (s : Shared) (H : Hp) (C : Addr) (cl : List (Str × Addr)) (fp : List Addr), SE (X.blk s H scope (compEnvC scope cl C X.env) fp) elt el) (hs : ∀ x, foldedSetIterable iter X.env x = pure x := by intro _; rfl) :
    SL X (.ListComp elt [⟨tg, iter, ifs, 0⟩] scope pos) (compM (own.map (·.2)) it g t el) :=
  ⟨pe_imp (pe_lc (own := own) hc hN hi.pi ok (fun s H C cl fp => (hg s H C cl fp).pg) (fun s H C cl fp => (ht s H C cl fp).pts) (fun s H C cl fp => (he s H C cl fp).pe) hs) fun s H Q q => comp_core q⟩
end
end DL
namespace DL
open PySem L2 PyProof.Rows PySem.Spec
/-! ### statements -/
inductive Out where
  | nx (r : Rho)
  | rt (d : D) (r : Rho)
  | bk (r : Rho)
  | ct (r : Rho)
  | ex (c : String) (r : Rho)
abbrev SM := Rho → Option Out
def outOk (K : PySem.W.Frag) (z : Fx) (F : Hp) (W : String → Hp → Prop) (D : Ends) : Out → Prop
  | .nx r' => ∀ s' H' F', Rep K z r' s' H' F' → SubH F F' → D.nx s' H'
  | .rt d r' => ∀ v s' H' F', Rep K z r' s' H' F' → SubH F F' → Dp K F' v d → D.rt v H'
  | .bk r' => ∀ s' H' F', Rep K z r' s' H' F' → SubH F F' → D.bk s' H'
  | .ct r' => ∀ s' H' F', Rep K z r' s' H' F' → SubH F F' → D.ct s' H'
  | .ex c r' => ∀ s' H' F', Rep K z r' s' H' F' → SubH F F' → W c H'
theorem outOk.mono {K : PySem.W.Frag} {z : Fx} {F F' : Hp} {W : String → Hp → Prop} {D : Ends} {o : Out} (h : outOk K z F W D o) (e : SubH F F') : outOk K z F' W D o := by
  cases o with
  | nx r => exact fun s' H' F2 R sb => h s' H' F2 R (e.trans sb)
  | rt d r => exact fun v s' H' F2 R sb => h v s' H' F2 R (e.trans sb)
  | bk r => exact fun s' H' F2 R sb => h s' H' F2 R (e.trans sb)
  | ct r => exact fun s' H' F2 R sb => h s' H' F2 R (e.trans sb)
  | ex c r => exact fun s' H' F2 R sb => h s' H' F2 R (e.trans sb)
def liftS (K : PySem.W.Frag) (W : String → Hp → Prop) (f : SM) : TS := fun D s H => ∃ z r F o, Rep K z r s H F ∧ f r = some o ∧ outOk K z F W D o
structure SS (X : Cx) (W : String → Hp → Prop) (st : Stmt) (f : SM) : Prop where
  ps : PS X st (liftS X.K W f)
structure SSs (X : Cx) (W : String → Hp → Prop) (st : List Stmt) (f : SM) : Prop where
  ps : PSs X st (liftS X.K W f)
section
variable {X : Cx} {W : String → Hp → Prop} {a b c e tg : Expr} {st : Stmt} {sts : List Stmt} {f g : SM} {pos : Pos}
theorem ps_imp {st : Stmt} {t t' : TS} (h : PS X st t) (k : ∀ D s H, t' D s H → t D s H) : PS X st t' := ⟨fun pins s σ H D I hq => h.run pins s σ H D I (k _ _ _ hq)⟩
theorem pss_imp {st : List Stmt} {t t' : TS} (h : PSs X st t) (k : ∀ D s H, t' D s H → t D s H) : PSs X st t' := ⟨fun pins s σ H D I hq => h.run pins s σ H D I (k _ _ _ hq)⟩
def skipM : SM := fun r => some (.nx r)
def seqS (f g : SM) : SM := fun r => (f r).bind fun o => match o with
  | .nx r1 => g r1
  | o => some o
theorem sss_nil : SSs X W [] skipM := ⟨pss_imp pss_nil fun D s H ⟨z, r, F, o, R, e, k⟩ => by cases e; exact k s H F R (.refl _)⟩
theorem sss_cons (h1 : SS X W st f) (h2 : SSs X W sts g) : SSs X W (st :: sts) (seqS f g) := ⟨pss_imp (pss_cons h1.ps h2.ps) fun D s H ⟨z, r, F, o, R, e, k⟩ => by
  unfold seqS at e
  simp only [Option.bind_eq_some_iff] at e
  obtain ⟨o1, e1, e2⟩ := e
  refine ⟨z, r, F, o1, R, e1, ?_⟩
  cases o1 with
  | nx r1 => exact fun s' H' F' R' sb => ⟨z, r1, F', o, R', e2, k.mono sb⟩
  | rt d r1 => cases e2; exact k
  | bk r1 => cases e2; exact k
  | ct r1 => cases e2; exact k
  | ex c r1 => cases e2; exact k⟩
theorem sss_one (h1 : SS X W st f) : SSs X W [st] f := ⟨pss_one h1.ps⟩
def asgM (i : Nat) (f : EM) : SM := fun r => (f r).map fun p => .nx (p.2.set i (some (.d p.1)))
theorem ss_asg (i : Nat) {x : Str} {pos' : Pos} {f : EM} (hN : X.N.Nodup) (he : SE X e f) (hi : X.N[i]? = some x := by rfl) (hx : Loc X.env.scope x := by first | exact Or.inl rfl | exact Or.inr rfl) (hs : swapsWith e (some (.Name x pos')) pos.line X.env = pure false := by rfl) (hf : X.fn x = true ∨ X.env.scope.names.lookup x = some .local := by first | exact .inl rfl | exact .inr rfl | assumption) :
    SS X W (.Assign [.Name x pos'] e pos) (asgM i f) := ⟨ps_imp (ps_set hN hi hx he.pe hs hf) fun D s H ⟨z, r, F, o, R, e, k⟩ => by
  unfold asgM at e
  simp only [Option.map_eq_some_iff] at e
  obtain ⟨⟨d, r1⟩, e1, e2⟩ := e
  cases e2
  exact ⟨z, r, F, d, r1, R, e1, fun v H' F' R' sb dv => k _ H' F' (R'.put dv) sb⟩⟩
/-- targets of any form -/
def asgG (g : GM) (f : EM) : SM := fun r => (f r).bind fun p => (g p.2 p.1).map .nx
theorem ss_asgG {is : List Nat} {g : GM} {f : EM} (he : SE X e f) (hg : SG X false tg g is) (hs : swapsWithSole [tg] e pos.line X.env = pure false := by rfl) (hw : swappedStores [tg] e X.env = pure none := by rfl)
    (h1 : (assignEach [tg] X.env).map (·.2) = [assign tg X.env] := by rfl) : SS X W (.Assign [tg] e pos) (asgG g f) := ⟨ps_imp (ps_asg he.pe hg.pg hs hw h1) fun D s H ⟨z, r, F, o, R, e, k⟩ => by
  unfold asgG at e
  simp only [Option.bind_eq_some_iff, Option.map_eq_some_iff] at e
  obtain ⟨⟨d, r1⟩, e1, r2, e2, e3⟩ := e
  cases e3
  exact ⟨z, r, F, d, r1, R, e1, fun v H' F' R' sb dv => ⟨z, r1, F', d, r2, R', .inl dv, e2, fun s' _ R2 => k s' H' F' R2 sb⟩⟩⟩
/-- an own list -/
theorem Rep.putOwn {K : PySem.W.Frag} {z : Fx} {r : Rho} {s : L2.St} {H F : Hp} (R : Rep K z r s H F) {i : Nat} {p : Addr} {vs : List V} {xs : List D} (hp : H p = some (.lst vs)) (hf : F p = none) (h0 : z.H0 p = none) (ho : ¬ OwnAt r s H p) (hd : DpAll K F vs xs) :
    Rep K z (r.set i (some (.l false xs))) (s.set i (some (.ref p))) H F where
  fh := R.fh
  old := R.old
  f0 := R.f0
  nw := R.nw
  slots := fun j sv e => by
    have hj : j < r.length := by
      have q : j < (r.set i (some (SV.l false xs))).length := (List.getElem?_eq_some_iff.mp e).1
      simpa using q
    rcases get_set_cases e with ⟨rfl, e2⟩ | ⟨ne, e⟩
    · cases e2
      exact ⟨_, by rw [List.getElem?_set_self (by rw [← R.len]; exact hj)], p, vs, rfl, hp, hf, h0, hd, fun q => nomatch q⟩
    · obtain ⟨w, h1, h2⟩ := R.slots j sv e
      exact ⟨w, by rw [List.getElem?_set_ne (Ne.symm ne)]; exact h1, h2⟩
  ap := R.ap.new (i := i) (P := fun b => b = p) (fun b e => e ▸ ho) fun j b h => by
    rcases owns_set h with ⟨e, _, a, ea, q⟩ | ⟨n, h⟩
    · cases ea; exact .inl ⟨e, part_lst hp q⟩
    · exact .inr ⟨n, h⟩
  len := by simpa using R.len
def newM (i : Nat) (f : AM) : SM := fun r => (f r).map fun p => .nx (p.2.set i (some (.l false p.1)))
theorem new_core {i : Nat} {f : AM} {D : Ends} {s : L2.St} {H : Hp} (q : liftS X.K W (newM i f) D s H) : tAsg (liftL X.K f) (gName i) D s H := by
  obtain ⟨z, r, F, o, R, e, k⟩ := q
  unfold newM at e
  simp only [Option.map_eq_some_iff] at e
  obtain ⟨⟨d, r1⟩, e1, e2⟩ := e
  cases e2
  exact ⟨z, r, F, d, r1, R, e1, fun a vs H' F' R' sb h1 h2 h3 h4 h5 => k _ H' F' (R'.putOwn h1 h2 h3 h4 h5) sb⟩
theorem ss_new (i : Nat) {x : Str} {pos' : Pos} {f : AM} (hN : X.N.Nodup) (he : SL X e f) (hi : X.N[i]? = some x := by rfl) (hx : Loc X.env.scope x := by first | exact Or.inl rfl | exact Or.inr rfl) (hs : swapsWith e (some (.Name x pos')) pos.line X.env = pure false := by rfl) (hf : X.fn x = true ∨ X.env.scope.names.lookup x = some .local := by first | exact .inl rfl | exact .inr rfl | assumption) :
    SS X W (.Assign [.Name x pos'] e pos) (newM i f) := ⟨ps_imp (ps_set hN hi hx he.pe hs hf) fun D s H q => new_core q⟩
def asgLM (i : Nat) (f : AM) : SM := fun r => (f r).map fun p => .nx (p.2.set i (some (.d (.list p.1))))
theorem asgL_core {i : Nat} {f : AM} {D : Ends} {s : L2.St} {H : Hp} (q : liftS X.K W (asgLM i f) D s H) : tAsg (liftL X.K f) (gName i) D s H := by
  obtain ⟨z, r, F, o, R, e, k⟩ := q
  unfold asgLM at e
  simp only [Option.map_eq_some_iff] at e
  obtain ⟨⟨d, r1⟩, e1, e2⟩ := e
  cases e2
  refine ⟨z, r, F, d, r1, R, e1, fun a vs H' F' R' sb h1 h2 h3 h4 h5 => ?_⟩
  have G := R'.freeze1 h1 h2 h3 h4
  exact k _ H' _ (G.put (.lst (.inl (.inl upd_same)) (dpa_mono (.new h2) h5))) (sb.trans (.new h2))
section
variable {elt iter : Expr} {ifs : List Expr} {scope : Scope} {it : AM} {gg : GM} {t : TM} {el : EM}
/-- name = [.. for ..] -/
theorem ss_compD {pw : Bool} (i : Nat) {y : Str} {py spos : Pos} {own : List (Str × Nat)} (hc : X.calm = true) (hN : X.N.Nodup) (hi : SI X pw tg iter it) (ok : BlkOk X.N X.env.scope scope own)
    (hg : ∀ (s : Shared) (H : Hp) (C : Addr) (cl : List (Str × Addr)) (fp : List Addr), SG (X.blk s H scope (compEnvC scope cl C X.env) fp) pw tg gg (own.map (·.2))) (ht : ∀ (s : Shared) (H : Hp) (C : Addr) (cl : List (Str × Addr)) (fp : List Addr), STs (X.blk s H scope (compEnvC scope cl C X.env) fp) ifs t)
    (he : ∀ (s : Shared) (H : Hp) (C : Addr) (cl : List (Str × Addr)) (fp : List Addr), SE (X.blk s H scope (compEnvC scope cl C X.env) fp) elt el)
    (hsw : swapsWith (.ListComp elt [⟨tg, iter, ifs, 0⟩] scope pos) (some (.Name y py)) spos.line X.env = pure true) (hy : X.N[i]? = some y := by rfl) (hyl : X.env.scope.names.lookup y = some .local := by rfl) (hs : ∀ x, foldedSetIterable iter X.env x = pure x := by intro _; rfl) :
    SS X W (.Assign [.Name y py] (.ListComp elt [⟨tg, iter, ifs, 0⟩] scope pos) spos) (asgLM i (compM (own.map (·.2)) it gg t el)) :=
  ⟨ps_imp (ps_setLc (own := own) hc hN hy hyl hsw hi.pi ok (fun s H C cl fp => (hg s H C cl fp).pg) (fun s H C cl fp => (ht s H C cl fp).pts) (fun s H C cl fp => (he s H C cl fp).pe) hs) fun D s H q => by
    have q2 : tAsg (liftL X.K (compM (own.map (·.2)) it gg t el)) (gName i) D s H := asgL_core q
    exact comp_core q2⟩
end
def retM (f : EM) : SM := fun r => (f r).map fun p => .rt p.1 p.2
theorem ss_ret {f : EM} (he : SE X e f) : SS X W (.Return (some e) pos) (retM f) := ⟨ps_imp (ps_ret he.pe) fun D s H ⟨z, r, F, o, R, e, k⟩ => by
  unfold retM at e
  simp only [Option.map_eq_some_iff] at e
  obtain ⟨⟨d, r1⟩, e1, e2⟩ := e
  cases e2
  exact ⟨z, r, F, d, r1, R, e1, fun v H' F' R' sb dv => k v s H' F' R' sb dv⟩⟩
def exprM (f : EM) : SM := fun r => (f r).map fun p => .nx p.2
theorem ss_expr {f : EM} (he : SE X e f) (hs : swapsWith e none pos.line X.env = pure false := by rfl) : SS X W (.Expr e pos) (exprM f) := ⟨ps_imp (ps_expr he.pe hs) fun D s H ⟨z, r, F, o, R, e, k⟩ => by
  unfold exprM at e
  simp only [Option.map_eq_some_iff] at e
  obtain ⟨⟨d, r1⟩, e1, e2⟩ := e
  cases e2
  exact ⟨z, r, F, d, r1, R, e1, fun v H' F' R' sb dv => k s H' F' R' sb⟩⟩
def ifM (t : TM) (f g : SM) : SM := fun r => (t r).bind fun p => if p.1 = true then f p.2 else g p.2
theorem ss_if {as bs : List Stmt} {t : TM} (hc : ST X c t) (ha : SSs X W as f) (hb : SSs X W bs g) : SS X W (.If c as bs pos) (ifM t f g) := ⟨ps_imp (ps_if hc.pt ha.ps hb.ps) fun D s H ⟨z, r, F, o, R, e, k⟩ => by
  unfold ifM at e
  simp only [Option.bind_eq_some_iff] at e
  obtain ⟨⟨d, r1⟩, e1, e2⟩ := e
  refine ⟨z, r, F, d, r1, R, e1, fun H' F' R' sb => ?_⟩
  cases d with
  | true => exact ⟨z, r1, F', o, R', e2, k.mono sb⟩
  | false => exact ⟨z, r1, F', o, R', e2, k.mono sb⟩⟩
/-! ### loops -/
def forL (g : GM) (f : SM) : List D → Rho → Option Out
  | [], r => some (.nx r)
  | x :: xs, r => (g r x).bind fun r1 => (f r1).bind fun o => match o with
    | .nx r2 => forL g f xs r2
    | .ct r2 => forL g f xs r2
    | .bk r2 => some (.nx r2)
    | o => some o
def forM (it : AM) (g : GM) (f : SM) : SM := fun r => (it r).bind fun p => forL g f p.1 p.2
theorem ss_for {pw : Bool} {iter : Expr} {body : List Stmt} {it : AM} {g : GM} {is : List Nat} (hp : PassesOwn (model X.prog X.w) X.A X.env X.xe) (hc : X.calm = true) (hi : SI X pw tg iter it) (hg : SG X pw tg g is) (hb : SSs X W body f)
    (hs : ∀ x, foldedSetIterable iter X.env x = pure x := by intro _; rfl) : SS X W (.For tg iter body [] pos) (forM it g f) := ⟨ps_imp (ps_for hp hc hi.pi hg.pg hb.ps hs) fun D s H ⟨z, r, F, o, R, e, k⟩ => by
  unfold forM at e
  simp only [Option.bind_eq_some_iff] at e
  obtain ⟨⟨ds, r1⟩, e1, e2⟩ := e
  refine ⟨z, r, F, ds, r1, R, e1, fun J H1 F1 R1 sb1 w => ?_⟩
  obtain ⟨Y, Wk, hY⟩ := w.w
  refine for_it Wk (fun i s H => ∃ r F, Rep X.K z r s H F ∧ SubH F1 F ∧ forL g f (ds.drop i) r = some o) ⟨r1, F1, R1, .refl _, by simpa using e2⟩ (fun i s H _ ⟨r, F, Rr, sb, _⟩ => sb.trans Rr.fh) ?_ ?_
  · rintro i x s2 H2 H3 hi ⟨ra, Fa, Ra, sba, ec⟩ y
    obtain ⟨Fb, dx, ei, G, dvx⟩ := hY i H2 x H3 y Fa sba Ra.fh
    have Rb := Ra.grow G
    have hdrop : ds.drop i = dx :: ds.drop (i + 1) := by
      have hlt : i < ds.length := (List.getElem?_eq_some_iff.mp ei).1
      rw [List.drop_eq_getElem_cons hlt]
      congr 1
      exact (List.getElem?_eq_some_iff.mp ei).2
    rw [hdrop] at ec
    simp only [forL, Option.bind_eq_some_iff] at ec
    obtain ⟨rg, eg, ob, eb, ec⟩ := ec
    refine ⟨z, ra, Fb, dx, rg, Rb, dvx, eg, fun s3 _ R3 => ⟨z, rg, Fb, ob, R3, eb, ?_⟩⟩
    have sbb : SubH F1 Fb := sba.trans G.ff
    cases ob with
    | nx r4 => exact fun s4 H4 F4 R4 sb4 => ⟨r4, F4, R4, sbb.trans sb4, ec⟩
    | ct r4 => exact fun s4 H4 F4 R4 sb4 => ⟨r4, F4, R4, sbb.trans sb4, ec⟩
    | bk r4 => cases ec; exact fun s4 H4 F4 R4 sb4 => k s4 H4 F4 R4 ((sb1.trans sbb).trans sb4)
    | rt d r4 => cases ec; exact fun v s4 H4 F4 R4 sb4 dv => k v s4 H4 F4 R4 ((sb1.trans sbb).trans sb4) dv
    | ex c r4 => cases ec; exact fun s4 H4 F4 R4 sb4 => k s4 H4 F4 R4 ((sb1.trans sbb).trans sb4)
  · rintro s2 H2 ⟨ra, Fa, Ra, sba, ec⟩
    rw [List.drop_length] at ec
    cases ec
    exact k s2 H2 Fa Ra (sb1.trans sba)⟩
def whileL (t : TM) (f : SM) : Nat → Rho → Option Out
  | 0, _ => none
  | n + 1, r => (t r).bind fun p => if p.1 = true then (f p.2).bind fun o => match o with
      | .nx r2 => whileL t f n r2
      | .ct r2 => whileL t f n r2
      | .bk r2 => some (.nx r2)
      | o => some o
    else some (.nx p.2)
theorem ss_while {body : List Stmt} {t : TM} (n : Nat) (hp : PassesOwn (model X.prog X.w) X.A X.env X.xe) (hc : ST X c t) (hb : SSs X W body f) : SS X W (.While c body [] pos) (whileL t f n) := ⟨ps_imp (ps_while hp hc.pt hb.ps) fun D s H ⟨z, r, F, o, R, e, k⟩ => by
  refine ⟨fun m s H => ∃ r F', Rep X.K z r s H F' ∧ SubH F F' ∧ whileL t f m r = some o, ⟨n, r, F, R, .refl _, e⟩, ?_⟩
  rintro m s2 H2 ⟨ra, Fa, Ra, sba, ec⟩
  cases m with
  | zero => cases ec
  | succ m =>
    simp only [whileL, Option.bind_eq_some_iff] at ec
    obtain ⟨⟨b, rt⟩, et, ec⟩ := ec
    refine ⟨z, ra, Fa, b, rt, Ra, et, fun H3 F3 R3 sb3 => ?_⟩
    cases b with
    | false => cases ec; exact k s2 H3 F3 R3 (sba.trans sb3)
    | true =>
      simp only [if_true, Option.bind_eq_some_iff] at ec ⊢
      obtain ⟨ob, eb, ec⟩ := ec
      refine ⟨fun s H => ∃ r F', Rep X.K z r s H F' ∧ SubH F F' ∧ whileL t f m r = some o, fun s' H' h => ⟨m, Nat.lt_succ_self _, h⟩, z, rt, F3, ob, R3, eb, ?_⟩
      have sbb : SubH F F3 := sba.trans sb3
      cases ob with
      | nx r4 => exact fun s4 H4 F4 R4 sb4 => ⟨r4, F4, R4, sbb.trans sb4, ec⟩
      | ct r4 => exact fun s4 H4 F4 R4 sb4 => ⟨r4, F4, R4, sbb.trans sb4, ec⟩
      | bk r4 => cases ec; exact fun s4 H4 F4 R4 sb4 => k s4 H4 F4 R4 (sbb.trans sb4)
      | rt d r4 => cases ec; exact fun v s4 H4 F4 R4 sb4 dv => k v s4 H4 F4 R4 (sbb.trans sb4) dv
      | ex c r4 => cases ec; exact fun s4 H4 F4 R4 sb4 => k s4 H4 F4 R4 (sbb.trans sb4)⟩
/-! ### an own list is frozen -/
def frzR (i : Nat) (r : Rho) : Option Rho := match r[i]? with
  | some (some (.l _ xs)) => some (r.set i (some (.d (.list xs))))
  | _ => none
theorem Rep.frz {K : PySem.W.Frag} {z : Fx} {r r' : Rho} {s : L2.St} {H F : Hp} {i : Nat} (R : Rep K z r s H F) (e : frzR i r = some r') : ∃ F', Rep K z r' s H F' ∧ SubH F F' := by
  unfold frzR at e
  split at e
  · rename_i xs hi
    cases e
    obtain ⟨v, h1, p, vs, rfl, h2, h3, h4, h5, h6⟩ := R.slots i _ hi
    have hil : i < r.length := (List.getElem?_eq_some_iff.mp hi).1
    refine ⟨upd F p (.lst vs), ⟨fun b u q => ?_, R.old, R.f0.trans (.new h3), fun b u q => ?_, fun j sv q => ?_, R.ap.sub fun j b h => by
      rcases owns_setR h with ⟨_, o, _⟩ | ⟨_, h⟩
      · cases o
      · exact h, by simpa using R.len⟩, .new h3⟩
    · by_cases e : b = p
      · subst e; rw [upd_same] at q; rw [h2]; exact q
      · rw [upd_ne e] at q; exact R.fh b u q
    · by_cases e : b = p
      · subst e; exact .inr (.inl h4)
      · rw [upd_ne e] at q; exact R.nw b u q
    · rcases get_set_cases q with ⟨rfl, e⟩ | ⟨ne, q⟩
      · cases e
        exact ⟨_, h1, .lst (.inl (.inl upd_same)) (dpa_mono (.new h3) h5)⟩
      · obtain ⟨v, q1, q2⟩ := R.slots j sv q
        refine ⟨v, q1, q2.mono (.new h3) (fun _ _ _ _ _ _ h => h) fun a b o ho' hf' _ hown e hp => ?_⟩
        rw [upd_ne (R.other ne hi rfl h1 q hown (by rw [q1, e]) hp)]; exact hf'
  · cases e
def frzM (i : Nat) (f : SM) : SM := fun r => (frzR i r).bind f
theorem ss_frz (i : Nat) (h : SS X W st f) : SS X W st (frzM i f) := ⟨ps_imp h.ps fun D s H ⟨z, r, F, o, R, e, k⟩ => by
  unfold frzM at e
  simp only [Option.bind_eq_some_iff] at e
  obtain ⟨r1, e1, e2⟩ := e
  obtain ⟨F', R', sb⟩ := R.frz e1
  exact ⟨z, r1, F', o, R', e2, k.mono sb⟩⟩
end
end DL
namespace DL
open PySem L2 PyProof.Rows PySem.Spec
/-- list.extend by a list, whatever stands in that one's slots -/
theorem meets_extendBy (l b : Addr) (mine yours : Array Value) (n m : Nat) (dd : Option Addr) (sl : Array (Option Value)) (fits : mine.size + yours.size ≤ sizeLine) :
    Meets (Builtin.«list.extend» ⟨[.ref l, .ref b], []⟩) (fun _ R s => s.heap.get? l = some { cls := .type "list", data := .seq mine n } ∧ s.heap.get? b = some { cls := .type "list", dict := dd, data := .seq yours m, slots := sl } ∧
      R (.ok (.ret .none)) { s with heap := s.heap.update l (Obj.mapSeq (· ++ yours)) }) := by
  refine .of_wp fun prog w A R s ⟨atL, atB, done⟩ => ?_
  have notLong := notLongL fits
  have first : mine.size ≤ sizeLine := Nat.le_trans (Nat.le_add_right ..) fits
  have both : (mine ++ yours).size ≤ sizeLine + 1 := by simp; omega
  have k1 := AutoSeq1.sub_list_list
  have k2 := AutoSeq1.sub_list_tuple
  wp_walk using wpAny_updateSeq atL rfl (hz := first) (_hz' := both), wpAny_loadPart' atL, wpAny_loadPart' atB
  all_goals first | exact ⟨_, rfl, done⟩ | skip
def rExtendL (K : PySem.W.Frag) : V → List V → Hp → VK → Prop := fun x vs H Q => ∃ l b xs zs, x = .ref l ∧ vs = [.ref b] ∧ H l = some (.lst xs) ∧ SqL K H b zs ∧ xs.length + zs.length ≤ sizeLine ∧ Q .non (upd H l (.lst (xs ++ zs)))
theorem mt_extendL {X : Cx} : MtM X "list.extend" (rExtendL X.K) := by
  rintro pins s σ H x vs v us Q I rx rv ⟨l, b, xs, zs, rfl, rfl, own, other, fits, give⟩
  obtain ⟨u, rfl, ru⟩ := rv.one
  cases rx
  cases ru
  obtain ⟨_, its, n, mine, _, stands⟩ := I.lstM own
  obtain ⟨its2, yours, ⟨⟨c2, dd, dt, sl⟩, m, atB, isList, _, isSeq⟩, _⟩ := I.list other
  cases isList
  cases isSeq
  have e1 := mine.length
  have e2 := yours.length
  have sizes : its.toArray.size + its2.toArray.size ≤ sizeLine := by simp; omega
  have ty : s.TypeIs (.ref l) "list" := ⟨_, stands, rfl⟩
  refine call_meets F.slot_list_extend ty F.entry_list_extend (F.args_list_extend_2 _ _) (meets_extendBy l b its.toArray its2.toArray n m dd sl sizes) ?_
  exact ⟨stands, atB, .non, _, I.lset (its' := its ++ its2) own stands (by simp) (mine.append yours) (by rw [List.length_append]; exact fits), rfl, give⟩
section
variable {K : PySem.W.Frag} {z : Fx} {r : Rho} {s : L2.St} {H F : Hp}
/-- an own list takes another content -/
theorem Rep.setOwn (R : Rep K z r s H F) {i : Nat} {p : Addr} {bb : Bool} {xs xs' : List D} {vs' : List V} (hi : r[i]? = some (some (.l bb xs))) (hs : s[i]? = some (some (.ref p))) (hd : DpAll K F vs' xs') : Rep K z (r.set i (some (.l bb xs'))) s (upd H p (.lst vs')) F := by
  have hrf : bb = true → z.rf i = some p := by
    obtain ⟨v, h1, p', vs, e, _, _, _, _, h6⟩ := R.slots i _ hi
    subst e
    rw [hs] at h1; cases h1; exact h6
  have own : OwnAt r s H p := ⟨i, _, _, hi, rfl, hs, part_self⟩
  obtain ⟨_, hf, h0⟩ := R.own_facts own
  have hil : i < r.length := (List.getElem?_eq_some_iff.mp hi).1
  refine ⟨fun b u q => ?_, fun b u q => ?_, R.f0, R.nw, fun j sv q => ?_, R.ap_upd hi rfl hs fun b q => .inl (part_lst upd_same q), by simpa using R.len⟩
  · have : b ≠ p := fun e => by rw [e, hf] at q; cases q
    rw [upd_ne this]; exact R.fh b u q
  · have : b ≠ p := fun e => by rw [e, h0] at q; cases q
    rw [upd_ne this]; exact R.old b u q
  · rcases get_set_cases q with ⟨rfl, e⟩ | ⟨ne, q⟩
    · cases e
      exact ⟨_, hs, p, vs', rfl, upd_same, hf, h0, hd, hrf⟩
    · obtain ⟨v, q1, q2⟩ := R.slots j sv q
      refine ⟨v, q1, q2.mono (.refl _) (fun a b e hp hown u hu => ?_) fun a b _ _ hf' _ _ _ _ => hf'⟩
      rw [upd_ne (R.other ne hi rfl hs q hown (by rw [q1, e]) hp)]; exact hu
end
section
variable {X : Cx} {a b c e : Expr} {f g : EM} {pos : Pos}
/-! ### own lists changed -/
def appM (i : Nat) (f : EM) : EM := fun r => (ownM i r).bind fun _ => (f r).bind fun p => match p.2[i]? with
  | some (some (.l b xs)) => if szOk xs.length then some (.none, p.2.set i (some (.l b (xs ++ [p.1])))) else none
  | _ => none
theorem se_app (i : Nat) {x : Str} {p apos cpos : Pos} (he : SE X e f) (hN : X.N[i]? = some x := by rfl) (hv : Vis X.env.scope x := by first | exact Or.inl rfl | exact Or.inr (Or.inl rfl) | exact Or.inr (Or.inr rfl)) (hd : (x == ("__debug__" : Str)) = false := by decide)
    (hcd : (x == ("__classdict__" : Str)) = false := by decide) (hb : attributeBase (.Name x p) "append" X.env (eval (.Name x p) X.env) = eval (.Name x p) X.env := by rfl)
    (hk : (((backTo cpos (starEach [e] X.env)).all (fun y => !y.1) && (backToKw cpos (keywordEach [] X.env)).all (fun y => y.1.isSome)) && decide (([e].length + ([] : List Keyword).length + if ([] : List Keyword).isEmpty then 0 else 1) < 30)) = true := by rfl)
    (hl : (apos.endLine == cpos.line) = true := by rfl) (hs : starEach [e] X.env = (false, eval e X.env) :: starEach [] X.env := by rfl) (hpl : (backTo cpos (starEach [] X.env)).any (·.1) = false := by rfl) :
    SE X (.Call (.Attribute (.Name x p) "append" apos) [e] [] cpos) (appM i f) :=
  ⟨pe_imp (pe_bm PySem.F.plainAttrs_list PySem.F.slot_list_append PySem.F.type_list_append mt_append (pe_var hN hv hd hcd) (pa_cons he.pe pa_nil hs) hb hk hl hs hpl) fun s H Q ⟨z, r, F, d, r', R, e, k⟩ => by
    unfold appM at e
    simp only [Option.bind_eq_some_iff] at e
    obtain ⟨⟨p0, r0⟩, e0, ⟨y, r1⟩, e1, e2⟩ := e
    obtain ⟨b0, xs0, f1, _, _⟩ := ownM_some e0
    obtain ⟨v, h1, p, vs, rfl, h2, h3, h4, h5, h6⟩ := R.slots i _ f1
    split at e2
    · rename_i bb xs hxs
      have hxs : r1[i]? = some (some (.l bb xs)) := hxs
      split at e2
      · rename_i hz
        cases e2
        refine ⟨_, h1, .inl ⟨rfl, _, .inl (.inl h2)⟩, z, r, F, y, r1, R, e1, fun w H2 F2 R2 sb2 dy => ?_⟩
        obtain ⟨v', h1', p', vs', rfl, h2', h3', h4', h5', h6'⟩ := R2.slots i _ hxs
        have ea : p' = p := by have := h1.symm.trans h1'; cases this; rfl
        subst ea
        exact ⟨p', vs', w, rfl, rfl, h2', by rw [dpa_len h5']; exact szOk_lt hz, k _ _ _ (R2.setOwn hxs h1' (dpa_app h5' (dpa_one dy))) sb2 .non⟩
      · cases e2
    · cases e2⟩
def extM (i : Nat) (f : EM) : EM := fun r => (ownM i r).bind fun _ => (f r).bind fun p => match p.2[i]?, p.1 with
  | some (some (.l b xs)), .list ys => if szOk (xs.length + ys.length) then some (.none, p.2.set i (some (.l b (xs ++ ys)))) else none
  | _, _ => none
theorem se_ext (i : Nat) {x : Str} {p apos cpos : Pos} (he : SE X e f) (hN : X.N[i]? = some x := by rfl) (hv : Vis X.env.scope x := by first | exact Or.inl rfl | exact Or.inr (Or.inl rfl) | exact Or.inr (Or.inr rfl)) (hd : (x == ("__debug__" : Str)) = false := by decide)
    (hcd : (x == ("__classdict__" : Str)) = false := by decide) (hb : attributeBase (.Name x p) "extend" X.env (eval (.Name x p) X.env) = eval (.Name x p) X.env := by rfl)
    (hk : (((backTo cpos (starEach [e] X.env)).all (fun y => !y.1) && (backToKw cpos (keywordEach [] X.env)).all (fun y => y.1.isSome)) && decide (([e].length + ([] : List Keyword).length + if ([] : List Keyword).isEmpty then 0 else 1) < 30)) = true := by rfl)
    (hl : (apos.endLine == cpos.line) = true := by rfl) (hs : starEach [e] X.env = (false, eval e X.env) :: starEach [] X.env := by rfl) (hpl : (backTo cpos (starEach [] X.env)).any (·.1) = false := by rfl) :
    SE X (.Call (.Attribute (.Name x p) "extend" apos) [e] [] cpos) (extM i f) :=
  ⟨pe_imp (pe_bm PySem.F.plainAttrs_list PySem.F.slot_list_extend PySem.F.type_list_extend mt_extendL (pe_var hN hv hd hcd) (pa_cons he.pe pa_nil hs) hb hk hl hs hpl) fun s H Q ⟨z, r, F, d, r', R, e, k⟩ => by
    unfold extM at e
    simp only [Option.bind_eq_some_iff] at e
    obtain ⟨⟨p0, r0⟩, e0, ⟨y, r1⟩, e1, e2⟩ := e
    obtain ⟨b0, xs0, f1, _, _⟩ := ownM_some e0
    obtain ⟨v, h1, p, vs, rfl, h2, h3, h4, h5, h6⟩ := R.slots i _ f1
    split at e2
    · rename_i bb xs ys hxs hys
      have hxs : r1[i]? = some (some (.l bb xs)) := hxs
      have hys : y = .list ys := hys
      subst hys
      split at e2
      · rename_i hz
        cases e2
        refine ⟨_, h1, .inl ⟨rfl, _, .inl (.inl h2)⟩, z, r, F, _, r1, R, e1, fun w H2 F2 R2 sb2 dy => ?_⟩
        obtain ⟨v', h1', p', vs', rfl, h2', h3', h4', h5', h6'⟩ := R2.slots i _ hxs
        have ea : p' = p := by have := h1.symm.trans h1'; cases this; rfl
        subst ea
        obtain ⟨_, _, rfl, q1, q2⟩ := dy.inv
        exact ⟨p', _, vs', _, rfl, rfl, h2', R2.fh.sql q1, by rw [dpa_len h5', dpa_len q2]; exact szOk_le hz, k _ _ _ (R2.setOwn hxs h1' (dpa_app h5' q2)) sb2 .non⟩
      · cases e2
    · cases e2⟩
theorem dpa_dropLast {K : PySem.W.Frag} {F : Hp} {vs : List V} {ds : List D} (h : DpAll K F vs ds) : DpAll K F vs.dropLast ds.dropLast := by
  rw [List.dropLast_eq_take, List.dropLast_eq_take, dpa_len h]
  exact dpa_take _ h
theorem dpa_erase {K : PySem.W.Frag} {F : Hp} : ∀ {vs : List V} {ds : List D} (i : Nat), DpAll K F vs ds → DpAll K F (vs.eraseIdx i) (ds.eraseIdx i)
  | _, _, _, .nil => .nil
  | _, _, 0, .cons _ t => t
  | _, _, i + 1, .cons a t => .cons a (dpa_erase i t)
/-- x.pop() -/
def popM (i : Nat) : EM := fun r => match r[i]? with
  | some (some (.l b xs)) => (xs[xs.length - 1]?).map fun d => (d, r.set i (some (.l b xs.dropLast)))
  | _ => none
theorem se_pop (i : Nat) {x : Str} {p apos cpos : Pos} (hN : X.N[i]? = some x := by rfl) (hv : Vis X.env.scope x := by first | exact Or.inl rfl | exact Or.inr (Or.inl rfl) | exact Or.inr (Or.inr rfl)) (hd : (x == ("__debug__" : Str)) = false := by decide)
    (hcd : (x == ("__classdict__" : Str)) = false := by decide) (hb : attributeBase (.Name x p) "pop" X.env (eval (.Name x p) X.env) = eval (.Name x p) X.env := by rfl) (hl : (apos.endLine == cpos.line) = true := by rfl) :
    SE X (.Call (.Attribute (.Name x p) "pop" apos) [] [] cpos) (popM i) :=
  ⟨pe_imp (pe_bm0 PySem.F.plainAttrs_list PySem.F.slot_list_pop PySem.F.type_list_pop mt_pop (pe_var hN hv hd hcd) hb hl) fun s H Q ⟨z, r, F, d, r', R, e, k⟩ => by
    unfold popM at e
    split at e
    · rename_i bb xs hxs
      simp only [Option.map_eq_some_iff] at e
      obtain ⟨y, e1, e2⟩ := e
      cases e2
      obtain ⟨v, h1, p, vs, rfl, h2, h3, h4, h5, h6⟩ := R.slots i _ hxs
      obtain ⟨w, hw, dw⟩ := dpa_get h5 e1
      rw [← dpa_len h5] at hw
      exact ⟨_, h1, .inl ⟨rfl, _, .inl (.inl h2)⟩, p, vs, w, rfl, rfl, h2, hw, k _ _ _ (R.setOwn hxs h1 (dpa_dropLast h5)) (.refl _) dw⟩
    · cases e⟩
/-- x.pop(e) -/
def popAtM (i : Nat) (f : EM) : EM := fun r => (ownM i r).bind fun _ => (f r).bind fun p => match p.2[i]?, p.1 with
  | some (some (.l b xs)), .int j => if 0 ≤ j ∧ j < 1000000 then (xs[j.toNat]?).map fun d => (d, p.2.set i (some (.l b (xs.eraseIdx j.toNat)))) else none
  | _, _ => none
theorem se_popAt (i : Nat) {x : Str} {p apos cpos : Pos} (he : SE X e f) (hN : X.N[i]? = some x := by rfl) (hv : Vis X.env.scope x := by first | exact Or.inl rfl | exact Or.inr (Or.inl rfl) | exact Or.inr (Or.inr rfl)) (hd : (x == ("__debug__" : Str)) = false := by decide)
    (hcd : (x == ("__classdict__" : Str)) = false := by decide) (hb : attributeBase (.Name x p) "pop" X.env (eval (.Name x p) X.env) = eval (.Name x p) X.env := by rfl)
    (hk : (((backTo cpos (starEach [e] X.env)).all (fun y => !y.1) && (backToKw cpos (keywordEach [] X.env)).all (fun y => y.1.isSome)) && decide (([e].length + ([] : List Keyword).length + if ([] : List Keyword).isEmpty then 0 else 1) < 30)) = true := by rfl)
    (hl : (apos.endLine == cpos.line) = true := by rfl) (hs : starEach [e] X.env = (false, eval e X.env) :: starEach [] X.env := by rfl) (hpl : (backTo cpos (starEach [] X.env)).any (·.1) = false := by rfl) :
    SE X (.Call (.Attribute (.Name x p) "pop" apos) [e] [] cpos) (popAtM i f) :=
  ⟨pe_imp (pe_bm PySem.F.plainAttrs_list PySem.F.slot_list_pop PySem.F.type_list_pop mt_popAt (pe_var hN hv hd hcd) (pa_cons he.pe pa_nil hs) hb hk hl hs hpl) fun s H Q ⟨z, r, F, d, r', R, e, k⟩ => by
    unfold popAtM at e
    simp only [Option.bind_eq_some_iff] at e
    obtain ⟨⟨p0, r0⟩, e0, ⟨y, r1⟩, e1, e2⟩ := e
    obtain ⟨b0, xs0, f1, _, _⟩ := ownM_some e0
    obtain ⟨v, h1, p, vs, rfl, h2, h3, h4, h5, h6⟩ := R.slots i _ f1
    split at e2
    · rename_i bb xs j hxs hys
      have hxs : r1[i]? = some (some (.l bb xs)) := hxs
      have hys : y = .int j := hys
      subst hys
      split at e2
      · rename_i hz
        simp only [Option.map_eq_some_iff] at e2
        obtain ⟨y, e3, e4⟩ := e2
        cases e4
        refine ⟨_, h1, .inl ⟨rfl, _, .inl (.inl h2)⟩, z, r, F, _, r1, R, e1, fun w H2 F2 R2 sb2 dy => ?_⟩
        obtain ⟨v', h1', p', vs', rfl, h2', h3', h4', h5', h6'⟩ := R2.slots i _ hxs
        have ea : p' = p := by have := h1.symm.trans h1'; cases this; rfl
        subst ea
        cases dy.inv
        obtain ⟨w, hw, dw⟩ := dpa_get h5' e3
        have hlt : j.toNat < vs'.length := (List.getElem?_eq_some_iff.mp hw).1
        have hix : ixN vs'.length j = some j.toNat := by
          unfold ixN
          rw [if_pos hz.1, if_pos (by omega)]
        exact ⟨p', vs', j, j.toNat, w, rfl, rfl, h2', by omega, by omega, (ixN_seq hix).1, hw, k _ _ _ (R2.setOwn hxs h1' (dpa_erase _ h5')) sb2 dw⟩
      · cases e2
    · cases e2⟩
end
end DL
namespace DL
open PySem L2 PyProof.Rows PySem.Spec
/-! ### defs: a def is a function of data -/
def spF (K : PySem.W.Frag) (n : Nat) (g : List D → Option D) : Sp := fun vs H Q _ => vs.length = n ∧ ∃ F ds d, SubH F H ∧ DpAll K F vs ds ∧ g ds = some d ∧ ∀ v H' F', Grow F H F' H' → Dp K F' v d → Q v H'
/-- one parameter (the j-th) is an own list of the caller's: it may be changed -/
def spR (K : PySem.W.Frag) (n j : Nat) (g : List D → List D → Option (D × List D)) : Sp := fun vs H Q _ => vs.length = n ∧ ∃ F ds a us xs d xs', SubH F H ∧ vs[j]? = some (.ref a) ∧ DpAll K F (vs.eraseIdx j) ds ∧ H a = some (.lst us) ∧ F a = none ∧ DpAll K F us xs ∧ g ds xs = some (d, xs') ∧
  ∀ v H' F' us', (∀ b o, b ≠ a → H b = some o → H' b = some o) → SubH F F' → SubH F' H' → (∀ b o, F' b = some o → F b = some o ∨ H b = none ∨ IsTu o) → H' a = some (.lst us') → DpAll K F' us' xs' → Dp K F' v d → Q v H'
def startD (N : List Str) (ds : List D) : Rho := ds.map (fun d => some (.d d)) ++ List.replicate (N.length - ds.length) none
/-- the slots at the entry, the j-th parameter an own list -/
def startR (N : List Str) (j : Nat) (ds : List D) (xs : List D) : Rho := (ds.take j).map (fun d => some (.d d)) ++ some (.l true xs) :: ((ds.drop j).map (fun d => some (.d d)) ++ List.replicate (N.length - (ds.length + 1)) none)
/-- a def's parameters are among its names -/
theorem names_fit {N ps : List Str} {sc : Scope} (S : FnScope N ps sc) : ps.length ≤ N.length :=
  S.pre ▸ List.length_take_le' ..
section
variable {P : Program} {w : World} {K : PySem.W.Frag} {mg : Str → Option Value} {base : Heap}
theorem startD_get {N : List Str} {ds : List D} {i : Nat} {sv : SV} (h : (startD N ds)[i]? = some (some sv)) : ∃ d, ds[i]? = some d ∧ sv = .d d := by
  unfold startD at h
  by_cases hi : i < ds.length
  · rw [List.getElem?_append_left (by simpa using hi), List.getElem?_map] at h
    cases e : ds[i]? with
    | none => rw [e] at h; cases h
    | some d => rw [e] at h; cases h; exact ⟨d, rfl, rfl⟩
  · rw [List.getElem?_append_right (by simpa using hi), List.getElem?_replicate] at h
    split at h <;> cases h
theorem rep_start {N : List Str} {F H : Hp} {vs : List V} {ds : List D} (sb : SubH F H) (h : DpAll K F vs ds) (hn : vs.length ≤ N.length) : Rep K ⟨H, F, fun _ => none⟩ (startD N ds) (L2.start N vs) H F := by
  have hl := dpa_len h
  refine ⟨sb, .refl _, .refl _, fun _ _ q => .inl q, fun i sv e => ?_, fun i j b ⟨x, a, e1, o1, _⟩ _ => ?_, ?_⟩
  · obtain ⟨d, h1, rfl⟩ := startD_get e
    obtain ⟨v, h2, h3⟩ := dpa_get h h1
    refine ⟨v, ?_, h3⟩
    unfold L2.start
    have hi : i < vs.length := (List.getElem?_eq_some_iff.mp h2).1
    rw [List.getElem?_append_left (by simpa using hi), List.getElem?_map, h2]
    rfl
  · obtain ⟨d, _, rfl⟩ := startD_get e1
    cases o1
  · unfold startD L2.start
    simp only [List.length_append, List.length_map, List.length_replicate]
    omega
theorem fn_ok {x qual : Str} {st : Stmt} {f : Addr} {fd : FuncData} {N ps : List Str} {k : Nat} (F : Fun K x qual st f fd) (S : FnScope N ps (defScope st)) (g : List D → Option D) (body : SM)
    (hb : ∀ (cdv : Value) (A : Around) (outer : List Env) (s : Shared) (H : Hp) (E : XK), Room k (A.deeper (envOfC qual (defScope st) s.heap.objs.size f cdv)) →
      SSs (cxOf CX0 P w K mg base N qual (defScope st) f cdv A outer s H E).nox (fun _ _ => False) (defBody st) body)
    (hv : ∀ ds d, g ds = some d → (∃ r', body (startD N ds) = some (.rt d r')) ∨ (d = .none ∧ ∃ r', body (startD N ds) = some (.nx r'))) : FnOk P w K mg base CX0 (k + 1) f fd ps (spF K ps.length g) := by
  refine F.ok S (fun vs H Q E h => h.1) fun cdv A outer s H vs Q E hr h => ?_
  obtain ⟨hlen, F0, ds, d, sb, dv, e, q⟩ := h
  refine ⟨_, (hb cdv A outer s H E hr).ps, ?_⟩
  have hpl : ps.length ≤ N.length := names_fit S
  have R := rep_start (N := N) sb dv (by omega)
  have fin : ∀ {r' : Rho} {v : V} {s' : L2.St} {H' F' : Hp}, Rep K ⟨H, F0, fun _ => none⟩ r' s' H' F' → Dp K F' v d → Q v H' := fun R' dd => q _ _ _ ⟨R'.f0, R'.old, R'.fh, R'.nw⟩ dd
  rcases hv ds d e with ⟨r', e2⟩ | ⟨rfl, r', e2⟩
  · exact ⟨⟨H, F0, fun _ => none⟩, _, F0, _, R, e2, fun v s' H' F' R' _ dd => fin R' dd⟩
  · exact ⟨⟨H, F0, fun _ => none⟩, _, F0, _, R, e2, fun s' H' F' R' _ => fin R' .non⟩
theorem startR_get {N : List Str} {ds xs : List D} {i j : Nat} {sv : SV} (hj : j ≤ ds.length) (h : (startR N j ds xs)[i]? = some (some sv)) : (i = j ∧ sv = .l true xs) ∨ (i < j ∧ ∃ d, ds[i]? = some d ∧ sv = .d d) ∨ (j < i ∧ ∃ d, ds[i - 1]? = some d ∧ sv = .d d) := by
  unfold startR at h
  have ht : ((ds.take j).map fun d => some (SV.d d)).length = j := by rw [List.length_map, List.length_take]; omega
  by_cases h1 : i < j
  · rw [List.getElem?_append_left (by omega), List.getElem?_map, List.getElem?_take_of_lt h1] at h
    cases e : ds[i]? with
    | none => rw [e] at h; cases h
    | some d => rw [e] at h; cases h; exact .inr (.inl ⟨h1, d, rfl, rfl⟩)
  · rw [List.getElem?_append_right (by omega), ht] at h
    by_cases h2 : i = j
    · subst h2
      simp at h
      exact .inl ⟨rfl, h.symm⟩
    · have h3 : i - j = (i - j - 1) + 1 := by omega
      rw [h3, List.getElem?_cons_succ] at h
      by_cases h4 : i - j - 1 < (ds.drop j).length
      · rw [List.getElem?_append_left (by simpa using h4), List.getElem?_map, List.getElem?_drop] at h
        have h5 : j + (i - j - 1) = i - 1 := by omega
        rw [h5] at h
        cases e : ds[i - 1]? with
        | none => rw [e] at h; cases h
        | some d => rw [e] at h; cases h; exact .inr (.inr ⟨by omega, d, rfl, rfl⟩)
      · rw [List.getElem?_append_right (by simpa using h4), List.getElem?_replicate] at h
        split at h <;> cases h
noncomputable def less (H : Hp) (a : Addr) : Hp := fun b => if b = a then none else H b
theorem less_same {H : Hp} {a : Addr} : less H a a = none := by unfold less; rw [if_pos rfl]
theorem less_ne {H : Hp} {a b : Addr} (h : b ≠ a) : less H a b = H b := by unfold less; rw [if_neg h]
theorem rep_startR {N : List Str} {F H : Hp} {vs us : List V} {ds xs : List D} {j : Nat} {a : Addr} (sb : SubH F H) (hj : vs[j]? = some (.ref a)) (h : DpAll K F (vs.eraseIdx j) ds) (hn : vs.length ≤ N.length) (ha : H a = some (.lst us)) (hf : F a = none) (hx : DpAll K F us xs) :
    Rep K ⟨less H a, F, fun _ => some a⟩ (startR N j ds xs) (L2.start N vs) H F := by
  have hl := dpa_len h
  have hjl : j < vs.length := (List.getElem?_eq_some_iff.mp hj).1
  rw [List.length_eraseIdx_of_lt hjl] at hl
  have hjd : j ≤ ds.length := by omega
  have sg : ∀ {i : Nat} {v : V}, vs[i]? = some v → (L2.start N vs)[i]? = some (some v) := fun {i v} e => by
    unfold L2.start
    have hi : i < vs.length := (List.getElem?_eq_some_iff.mp e).1
    rw [List.getElem?_append_left (by simpa using hi), List.getElem?_map, e]
    rfl
  refine ⟨sb, fun b o q => ?_, .refl _, fun b o q => .inl q, fun i sv e => ?_, fun i k b ⟨x, _, e1, o1, _⟩ ⟨y, _, e2, o2, _⟩ => ?_, ?_⟩
  · by_cases e : b = a
    · subst e
      have q : less H b b = some o := q
      rw [less_same] at q; cases q
    · have q : less H a b = some o := q
      rw [less_ne e] at q; exact q
  · rcases startR_get hjd e with ⟨rfl, rfl⟩ | ⟨h1, d, h2, rfl⟩ | ⟨h1, d, h2, rfl⟩
    · exact ⟨_, sg hj, a, us, rfl, ha, hf, less_same, hx, fun _ => rfl⟩
    · obtain ⟨v, h3, h4⟩ := dpa_get h h2
      rw [List.getElem?_eraseIdx_of_lt h1] at h3
      exact ⟨v, sg h3, h4⟩
    · obtain ⟨v, h3, h4⟩ := dpa_get h h2
      rw [List.getElem?_eraseIdx_of_ge (by omega)] at h3
      have : i - 1 + 1 = i := by omega
      rw [this] at h3
      exact ⟨v, sg h3, h4⟩
  · have ow : ∀ {i : Nat} {x : SV}, (startR N j ds xs)[i]? = some (some x) → x.own = true → i = j := fun {i x} e o => by
      rcases startR_get hjd e with ⟨rfl, rfl⟩ | ⟨h1, d, h2, rfl⟩ | ⟨h1, d, h2, rfl⟩
      · rfl
      · cases o
      · cases o
    rw [ow e1 o1, ow e2 o2]
  · unfold startR L2.start
    simp only [List.length_append, List.length_map, List.length_replicate, List.length_cons, List.length_take, List.length_drop]
    omega
/-- the own list's content at the end -/
def endR (j : Nat) (r : Rho) : Option (List D) := match r[j]? with
  | some (some (.l true xs)) => some xs
  | _ => none
theorem fn_okR {x qual : Str} {st : Stmt} {f : Addr} {fd : FuncData} {N ps : List Str} {k : Nat} (j : Nat) (F : Fun K x qual st f fd) (S : FnScope N ps (defScope st)) (g : List D → List D → Option (D × List D)) (body : SM)
    (hb : ∀ (cdv : Value) (A : Around) (outer : List Env) (s : Shared) (H : Hp) (E : XK), Room k (A.deeper (envOfC qual (defScope st) s.heap.objs.size f cdv)) →
      SSs (cxOf CX0 P w K mg base N qual (defScope st) f cdv A outer s H E).nox (fun _ _ => False) (defBody st) body)
    (hv : ∀ ds xs d xs', g ds xs = some (d, xs') → ∃ r', (body (startR N j ds xs) = some (.rt d r') ∨ (d = .none ∧ body (startR N j ds xs) = some (.nx r'))) ∧ endR j r' = some xs') : FnOk P w K mg base CX0 (k + 1) f fd ps (spR K ps.length j g) := by
  refine F.ok S (fun vs H Q E h => h.1) fun cdv A outer s H vs Q E hr h => ?_
  obtain ⟨hlen, F0, ds, a, us, xs, d, xs', sb, hj, dv, ha, hf, hx, e, q⟩ := h
  refine ⟨_, (hb cdv A outer s H E hr).ps, ?_⟩
  have hpl : ps.length ≤ N.length := names_fit S
  have R := rep_startR (N := N) sb hj dv (by omega) ha hf hx
  obtain ⟨r', e2, e3⟩ := hv ds xs d xs' e
  have fin : ∀ {v : V} {s' : L2.St} {H' F' : Hp}, Rep K ⟨less H a, F0, fun _ => some a⟩ r' s' H' F' → Dp K F' v d → Q v H' := fun {v s' H' F'} R' dd => by
    unfold endR at e3
    split at e3
    · rename_i ys hy
      cases e3
      obtain ⟨v', h1, a', us', rfl, h2, h3, h4, h5, h6⟩ := R'.slots j _ hy
      have ea : a' = a := by have := h6 rfl; cases this; rfl
      subst ea
      refine q v H' F' us' (fun b o hb ho => R'.old b o ?_) R'.f0 R'.fh (fun b o hb => ?_) h2 h5 dd
      · show less H a' b = some o
        rw [less_ne hb]; exact ho
      · rcases R'.nw b o hb with h | h | h
        · exact .inl h
        · by_cases hba : b = a'
          · subst hba
            rw [h3] at hb; cases hb
          · have h : less H a' b = none := h
            rw [less_ne hba] at h; exact .inr (.inl h)
        · exact .inr (.inr h)
    · cases e3
  rcases e2 with e2 | ⟨rfl, e2⟩
  · exact ⟨_, _, F0, _, R, e2, fun v s' H' F' R' _ dd => fin R' dd⟩
  · exact ⟨_, _, F0, _, R, e2, fun s' H' F' R' _ => fin R' .non⟩
end
section
variable {X : Cx} {a b c e : Expr} {es : List Expr} {f : EM} {pos : Pos}
/-! ### calls -/
def callM (g : List D → Option D) (f : AM) : EM := fun r => (f r).bind fun p => (g p.1).map fun d => (d, p.2)
theorem se_call {k : Nat} {fa : Addr} {fd : FuncData} {ps : List Str} {g : List D → Option D} {x : Str} {p : Pos} {fs : AM} (G : FnOk X.prog X.w X.K X.mg X.base CX0 k fa fd ps (spF X.K ps.length g)) (hr : Room k X.A) (hg : Gl X x) (hm : X.mg x = some (.ref fa)) (hk : PySem.W.keepIn X.K (.ref fa) = true) (hb : Binds X.K fd ps [])
    (ha : SA X (e :: es) fs) (hps : ps.length = (e :: es).length) (hdb : (x == ("__debug__" : Str)) = false := by decide) (he : starEach (e :: es) X.env = (false, eval e X.env) :: starEach es X.env := by rfl) (hpl : (backTo pos (starEach es X.env)).any (·.1) = false := by rfl) :
    SE X (.Call (.Name x p) (e :: es) [] pos) (callM g fs) := ⟨pe_imp (pe_call G hr hg hm hk hb .nil pass0 ha.pa hdb he hpl) fun s H Q ⟨z, r, F, d, r', R, e, k⟩ => by
  unfold callM at e
  simp only [Option.bind_eq_some_iff, Option.map_eq_some_iff] at e
  obtain ⟨⟨ds, r1⟩, e1, d', e2, e3⟩ := e
  cases e3
  refine ⟨z, r, F, ds, _, R, e1, fun vs H1 F1 R1 sb dv => ?_⟩
  show spF X.K ps.length g (vs ++ []) H1 Q E0
  rw [List.append_nil]
  exact ⟨by rw [dpa_len dv, hps]; exact ha.len _ _ _ e1, F1, ds, d, R1.fh, dv, e2, fun v H' F' G dd => k v H' F' (R1.grow G) (sb.trans G.ff) dd⟩⟩
/-- arguments, the j-th the own list in slot i -/
def liftAr (K : PySem.W.Frag) (f : AM) (i j : Nat) : TA := fun s H Q => ∃ z r F ds r', Rep K z r s H F ∧ f r = some (ds, r') ∧
  ∀ vs H' F', Rep K z r' s H' F' → SubH F F' → (∃ a, s[i]? = some (some (V.ref a)) ∧ vs[j]? = some (V.ref a)) → DpAll K F' (vs.eraseIdx j) ds → Q vs H'
structure SAr (X : Cx) (es : List Expr) (f : AM) (i j : Nat) : Prop where
  pa : PA X es (liftAr X.K f i j)
  len : ∀ r ds r', f r = some (ds, r') → ds.length + 1 = es.length
  lt : j < es.length
def hereM (i : Nat) (f : AM) : AM := fun r => (ownM i r).bind fun _ => f r
theorem sar_here (i : Nat) {x : Str} {p : Pos} {f : AM} (hr : SA X es f) (hN : X.N[i]? = some x := by rfl) (hv : Vis X.env.scope x := by first | exact Or.inl rfl | exact Or.inr (Or.inl rfl) | exact Or.inr (Or.inr rfl)) (hd : (x == ("__debug__" : Str)) = false := by decide)
    (hcd : (x == ("__classdict__" : Str)) = false := by decide) (hs : starEach (.Name x p :: es) X.env = (false, eval (.Name x p) X.env) :: starEach es X.env := by rfl) : SAr X (.Name x p :: es) (hereM i f) i 0 :=
  ⟨pa_imp (pa_cons (pe_var hN hv hd hcd) hr.pa hs) fun s H Q ⟨z, r, F, d, r', R, e, k⟩ => by
    unfold hereM at e
    simp only [Option.bind_eq_some_iff] at e
    obtain ⟨⟨p0, r0⟩, e0, e1⟩ := e
    obtain ⟨bb, xs, f1, _, _⟩ := ownM_some e0
    obtain ⟨v, h1, a, vs, rfl, h2, h3, h4, h5, h6⟩ := R.slots i _ f1
    exact ⟨_, h1, z, r, F, d, r', R, e1, fun vs H' F' R' sb dv => k _ H' F' R' sb ⟨a, h1, rfl⟩ dv⟩, fun r ds r' e => by
    unfold hereM at e
    simp only [Option.bind_eq_some_iff] at e
    obtain ⟨_, _, e1⟩ := e
    rw [hr.len _ _ _ e1]; rfl, by simp⟩
theorem sar_there {i j : Nat} {g : AM} (ha : SE X e f) (hr : SAr X es g i j) (hs : starEach (e :: es) X.env = (false, eval e X.env) :: starEach es X.env := by rfl) : SAr X (e :: es) (consM f g) i (j + 1) :=
  ⟨pa_imp (pa_cons ha.pe hr.pa hs) fun s H Q ⟨z, r, F, d, r', R, e, k⟩ => by
    obtain ⟨x, r1, xs, e1, e2, rfl⟩ := consM_some e
    exact ⟨z, r, F, x, r1, R, e1, fun v H1 F1 R1 sb1 dv => ⟨z, r1, F1, xs, r', R1, e2, fun vs H2 F2 R2 sb2 ⟨a, q1, q2⟩ dvs => k (v :: vs) H2 F2 R2 (sb1.trans sb2) ⟨a, q1, by simpa using q2⟩ (.cons (dp_mono sb2 dv) dvs)⟩⟩, fun r ds r' e => by
    obtain ⟨x, r1, xs, e1, e2, rfl⟩ := consM_some e
    have := hr.len _ _ _ e2
    simp only [List.length_cons]; omega, by have := hr.lt; simp only [List.length_cons]; omega⟩
def callRM (i : Nat) (g : List D → List D → Option (D × List D)) (f : AM) : EM := fun r => (f r).bind fun p => match p.2[i]? with
  | some (some (.l b xs)) => (g p.1 xs).map fun q => (q.1, p.2.set i (some (.l b q.2)))
  | _ => none
theorem se_callR {k : Nat} {fa : Addr} {fd : FuncData} {ps : List Str} {i j : Nat} {g : List D → List D → Option (D × List D)} {x : Str} {p : Pos} {fs : AM} (G : FnOk X.prog X.w X.K X.mg X.base CX0 k fa fd ps (spR X.K ps.length j g)) (hr : Room k X.A) (hg : Gl X x) (hm : X.mg x = some (.ref fa)) (hk : PySem.W.keepIn X.K (.ref fa) = true) (hb : Binds X.K fd ps [])
    (ha : SAr X (e :: es) fs i j) (hps : ps.length = (e :: es).length) (hdb : (x == ("__debug__" : Str)) = false := by decide) (he : starEach (e :: es) X.env = (false, eval e X.env) :: starEach es X.env := by rfl) (hpl : (backTo pos (starEach es X.env)).any (·.1) = false := by rfl) :
    SE X (.Call (.Name x p) (e :: es) [] pos) (callRM i g fs) := ⟨pe_imp (pe_call G hr hg hm hk hb .nil pass0 ha.pa hdb he hpl) fun s H Q ⟨z, r, F, d, r', R, e, k⟩ => by
  unfold callRM at e
  simp only [Option.bind_eq_some_iff] at e
  obtain ⟨⟨ds, r1⟩, e1, e2⟩ := e
  split at e2
  · rename_i bb xs hxs
    have hxs : r1[i]? = some (some (.l bb xs)) := hxs
    simp only [Option.map_eq_some_iff] at e2
    obtain ⟨⟨d', xs'⟩, e3, e4⟩ := e2
    cases e4
    refine ⟨z, r, F, ds, _, R, e1, fun vs H1 F1 R1 sb ⟨a, q1, q2⟩ dv => ?_⟩
    show spR X.K ps.length j g (vs ++ []) H1 Q E0
    rw [List.append_nil]
    obtain ⟨v', h1', a', us, rfl, h2', h3', h4', h5', h6'⟩ := R1.slots i _ hxs
    have ea : a' = a := by have := q1.symm.trans h1'; cases this; rfl
    subst ea
    have hl := dpa_len dv
    have hlen := ha.len _ _ _ e1
    have hjl : j < vs.length := (List.getElem?_eq_some_iff.mp q2).1
    rw [List.length_eraseIdx_of_lt hjl] at hl
    refine ⟨by rw [hps]; omega, F1, ds, a', us, xs, d', xs', R1.fh, q2, dv, h2', h3', h5', e3, fun v H' F' us' keep ff fh nw ha' dus dd => k v H' F' ?_ (sb.trans ff) dd⟩
    refine ⟨fh, fun b o q => ?_, R1.f0.trans ff, fun b o q => ?_, fun m sv q => ?_, R1.ap_keep hxs rfl h1' (fun a _ _ ne o ho => keep a o ne ho) (fun b q => .inl (.inl (part_lst ha' q))), by simpa using R1.len⟩
    · refine keep b o (fun e => ?_) (R1.old b o q)
      rw [e, h4'] at q; cases q
    · rcases nw b o q with h | h | h
      · exact R1.nw b o h
      · exact .inr (.inl (R1.old.none h))
      · exact .inr (.inr h)
    · rcases get_set_cases q with ⟨rfl, e⟩ | ⟨ne, q⟩
      · cases e
        refine ⟨_, h1', a', us', rfl, ha', ?_, h4', dus, h6'⟩
        cases qq : F' a' with
        | none => rfl
        | some o =>
          rcases nw a' o qq with h | h | ⟨ob, ws, rfl⟩
          · rw [h3'] at h; cases h
          · rw [h2'] at h; cases h
          · have q2 := fh a' _ qq
            rw [ha'] at q2; exact (tupHO_lst q2).elim
      · obtain ⟨v2, q1', q2'⟩ := R1.slots m sv q
        refine ⟨v2, q1', q2'.mono ff (fun a3 a2 e hp hown u hu => ?_) fun a3 a2 o ho hf _ hown e hp => ?_⟩
        · exact keep a2 u (R1.other ne hxs rfl h1' q hown (by rw [q1', e]) hp) hu
        · cases qq : F' a2 with
          | none => rfl
          | some o2 =>
            rcases nw a2 o2 qq with h | h | ⟨ob, ws, rfl⟩
            · rw [hf] at h; cases h
            · rw [ho] at h; cases h
            · have q2 := fh a2 _ qq
              rw [keep a2 o (R1.other ne hxs rfl h1' q hown (by rw [q1', e]) hp) ho] at q2; cases q2
              exact absurd ⟨_, _, ho⟩ (q2'.noTup hown e hp)
  · cases e2⟩
end
end DL
namespace DL
open PySem L2 PyProof.Rows PySem.Spec PySem.W
/-! ### sorted -/
def tupCons : D → Bool
  | .tuple (_ :: _) => true
  | _ => false
def nonTup : D → Bool
  | .none => false
  | .tuple _ => false
  | _ => true
def sortOk (ds : List D) : Bool := (ds.all fun d => ds.all fun e => alike d e) && (ds.all tupCons || ds.all nonTup) && szOk ds.length && ds.all fun d => decide (d.depth ≤ 60)
def sortL (ds : List D) : List D := ds.mergeSort (dataLe false id)
theorem sortOk_facts {ds : List D} (h : sortOk ds = true) : AllAlike (ds.map id) ∧ Sortable (ds.map id) ∧ ds.length ≤ sizeLine ∧ ∀ d ∈ ds, d.depth ≤ 60 := by
  unfold sortOk at h
  simp only [Bool.and_eq_true, List.all_eq_true, Bool.or_eq_true, decide_eq_true_eq] at h
  obtain ⟨⟨⟨h1, h2⟩, h3⟩, h4⟩ := h
  rw [List.map_id]
  refine ⟨fun d hd e he => h1 d hd e he, ?_, szOk_le h3, h4⟩
  rcases h2 with h2 | h2
  · left
    intro d hd
    have := h2 d hd
    unfold tupCons at this
    split at this
    · exact ⟨_, _, rfl⟩
    · cases this
  · right
    intro d hd
    have := h2 d hd
    unfold nonTup at this
    split at this
    · cases this
    · cases this
    · rename_i n1 n2
      exact ⟨fun e => n1 e, fun xs e => n2 xs e⟩
section
variable {X : Cx}
theorem each_of {K : PySem.W.Frag} {F : Hp} : ∀ {vs : List V} {us : List Value} {ds : List D}, Vals vs us → DpAll K F vs ds → EachIs (fun u d => ∃ x, RelV x u ∧ Dp K F x d) us ds
  | _, _, _, .nil, .nil => .nil
  | _, _, _, .cons r rs, .cons d ds => .cons ⟨_, r, d⟩ (each_of rs ds)
theorem of_each {K : PySem.W.Frag} {F : Hp} : ∀ {us : List Value} {ds : List D}, EachIs (fun u d => ∃ x, RelV x u ∧ Dp K F x d) us ds → ∃ vs, Vals vs us ∧ DpAll K F vs ds
  | _, _, .nil => ⟨[], .nil, .nil⟩
  | _, _, .cons ⟨x, r, d⟩ t => by
    obtain ⟨vs, h1, h2⟩ := of_each t
    exact ⟨x :: vs, .cons r h1, .cons d h2⟩
theorem each_reads {pins : List (Addr × Obj)} {σ : L2.St} {H F : Hp} {s : Shared} (I : L2.Inv X pins σ H s) (sb : SubH F H) : ∀ {vs : List V} {us : List Value} {ds : List D}, Vals vs us → DpAll X.K F vs ds → EachIs (fun v b => ∃ as, Reads s.heap v b as) us ds
  | _, _, _, .nil, .nil => .nil
  | _, _, _, .cons r1 rs, .cons d1 d2 => .cons (L2.Dp.reads I _ _ _ (dp_old (dp_mono sb d1)) r1) (each_reads I sb rs d2)
def sortD : D → Option D
  | .list ds => if sortOk ds then some (.list (sortL ds)) else none
  | _ => none
theorem cr_sortD (hu : X.A.units + 100 < cLine) : CallR X (.builtin "sorted") (liftC1 X.K sortD) := by
  intro pins s σ H vs us Q I r h
  obtain ⟨F, x, d, o, rfl, sb, dx, eo, k⟩ := h
  unfold sortD at eo
  split at eo
  · split at eo
    · rename_i ds ok
      cases eo
      obtain ⟨a, vs, rfl, h1, h2⟩ := dv_lst sb dx
      obtain ⟨u, rfl, ru⟩ := vals1 r
      obtain rfl : u = Value.ref a := ru
      obtain ⟨its, rv, hl, hz⟩ := I.list h1
      obtain ⟨hal, hso, hL, hdp⟩ := sortOk_facts ok
      refine sorted_data (enc := id) (R := fun u d => ∃ x, RelV x u ∧ Dp X.K F x d) hl.isList (each_of rv h2) (each_reads I sb rv h2) hal hso hL (fun b hb => ?_) fun out hol he => ?_
      · have := hdp b hb
        simp only [id]
        omega
      · obtain ⟨ws, r1, d1⟩ := of_each he
        have hwl : ws.length = ds.length := by
          have q1 := r1.length
          omega
        obtain ⟨n, e2⟩ := sortedAll_at s.heap its (List.toArray out)
        have hfr : H (s.heap.objs.size + 1) = none := I.hok.fresh (Nat.le_succ _)
        obtain ⟨G, q⟩ := new_lst sb hfr d1
        refine ⟨.ref (s.heap.objs.size + 1), upd H (s.heap.objs.size + 1) (.lst ws), ?_, rfl, k _ _ _ G q⟩
        refine I.laid (t' := s.toks) (fun b ob e => sortedAll_old e) (Nat.le_succ _) ⟨by rw [hwl]; exact hL, out, n, r1, ?_⟩
        exact e2
    · cases eo
  · cases eo
end
end DL
namespace DL
open PySem L2 PyProof.Rows PySem.Spec PySem.W
/-! ### own dicts -/
def keyOf : D → Option Key
  | .int i => some (.inl i)
  | .str x => some (.inr x)
  | _ => none
def keysOf : List D → Option (List Key)
  | [] => some []
  | d :: ds => (keyOf d).bind fun k => (keysOf ds).map (k :: ·)
def dkOf (t : Bool) (d : D) : Option DK := if t then (match d with
  | .tuple ds => (keysOf ds).map .inr
  | _ => none) else (keyOf d).map .inl
def dkD : DK → D
  | .inl k => keyD k
  | .inr ks => .tuple (ks.map keyD)
/-- a value put under a key: where the key stands, or behind all -/
def putG {α β : Type} [DecidableEq α] (kvs : List (α × β)) (k : α) (v : β) : List (α × β) :=
  if k ∈ kvs.map Prod.fst then kvs.map (fun kv => (kv.1, if kv.1 = k then v else kv.2)) else kvs ++ [(k, v)]
def getG {α β : Type} [DecidableEq α] (kvs : List (α × β)) (k : α) : Option β := (kvs.find? fun kv => decide (kv.1 = k)).map (·.2)
theorem keyOf_rel {K : PySem.W.Frag} {F : Hp} {v : V} {d : D} {k : Key} (x : Dp K F v d) (h : keyOf d = some k) : v = kV k := by
  unfold keyOf at h
  split at h
  · cases h; exact x.inv
  · cases h; exact x.inv
  · cases h
theorem keysOf_rel {K : PySem.W.Frag} {F : Hp} : ∀ {vs : List V} {ds : List D} {ks : List Key}, DpAll K F vs ds → keysOf ds = some ks → vs = ks.map kV
  | _, [], _, .nil, h => by cases h; rfl
  | _, d :: ds, ks, .cons x t, h => by
    simp only [keysOf, Option.bind_eq_some_iff, Option.map_eq_some_iff] at h
    obtain ⟨k, h1, ks', h2, rfl⟩ := h
    rw [keyOf_rel x h1, keysOf_rel t h2]; rfl
section
variable {K : PySem.W.Frag} {z : Fx} {r : Rho} {s : L2.St} {H F : Hp}
theorem paired_keys {α : Type} {g : α → DK} : ∀ {ks : List (α × V)} {kvs : List (DK × D)}, Paired (fun (p : α × V) (q : DK × D) => q.1 = g p.1 ∧ Dp K F p.2 q.2) ks kvs → kvs.map Prod.fst = ks.map fun p => g p.1
  | _, _, .nil => rfl
  | _, _, .cons ⟨e, _⟩ t => by rw [List.map_cons, List.map_cons, paired_keys t, e]
theorem paired_map {α : Type} [DecidableEq α] {g : α → DK} (hg : ∀ x y, g x = g y → x = y) {k : α} {v : V} {d : D} (hv : Dp K F v d) : ∀ {ks : List (α × V)} {kvs : List (DK × D)}, Paired (fun (p : α × V) (q : DK × D) => q.1 = g p.1 ∧ Dp K F p.2 q.2) ks kvs →
    Paired (fun (p : α × V) (q : DK × D) => q.1 = g p.1 ∧ Dp K F p.2 q.2) (ks.map fun kv => if kv.1 = k then (kv.1, v) else kv) (kvs.map fun kv => (kv.1, if kv.1 = g k then d else kv.2))
  | _, _, .nil => .nil
  | _, _, .cons (a := p) (b := q) ⟨e, e2⟩ t => by
    refine .cons ?_ (paired_map hg hv t)
    dsimp only
    by_cases h : p.1 = k
    · rw [if_pos h, if_pos (e.trans (congrArg g h))]; exact ⟨e, hv⟩
    · rw [if_neg h, if_neg fun q => h (hg _ _ (e.symm.trans q))]; exact ⟨e, e2⟩
theorem paired_app {α β : Type} {R : α → β → Prop} : ∀ {as bs : List α} {cs ds : List β}, Paired R as cs → Paired R bs ds → Paired R (as ++ bs) (cs ++ ds)
  | _, _, _, _, .nil, h => h
  | _, _, _, _, .cons a t, h => .cons a (paired_app t h)
theorem paired_put {α : Type} [DecidableEq α] {g : α → DK} (hg : ∀ x y, g x = g y → x = y) {k : α} {v : V} {d : D} (hv : Dp K F v d) {ks : List (α × V)} {kvs : List (DK × D)} (h : Paired (fun (p : α × V) (q : DK × D) => q.1 = g p.1 ∧ Dp K F p.2 q.2) ks kvs) :
    Paired (fun (p : α × V) (q : DK × D) => q.1 = g p.1 ∧ Dp K F p.2 q.2) (putK ks k v) (putG kvs (g k) d) := by
  have same : g k ∈ kvs.map Prod.fst ↔ (ks.any fun kv => decide (kv.1 = k)) = true := by
    rw [paired_keys h, List.mem_map, List.any_eq_true]
    exact ⟨fun ⟨p, m, e⟩ => ⟨p, m, decide_eq_true (hg _ _ e)⟩, fun ⟨p, m, e⟩ => ⟨p, m, congrArg g (of_decide_eq_true e)⟩⟩
  unfold putK putG
  by_cases there : g k ∈ kvs.map Prod.fst
  · rw [if_pos there, if_pos (same.mp there)]; exact paired_map hg hv h
  · rw [if_neg there, if_neg fun q => there (same.mpr q)]; exact paired_app h (.cons ⟨rfl, hv⟩ .nil)
theorem paired_get {α : Type} [DecidableEq α] {g : α → DK} (hg : ∀ x y, g x = g y → x = y) {k : α} : ∀ {ks : List (α × V)} {kvs : List (DK × D)}, Paired (fun (p : α × V) (q : DK × D) => q.1 = g p.1 ∧ Dp K F p.2 q.2) ks kvs →
    (valV ks k = none ∧ getG kvs (g k) = none) ∨ ∃ v d, valV ks k = some v ∧ getG kvs (g k) = some d ∧ Dp K F v d
  | _, _, .nil => .inl ⟨rfl, rfl⟩
  | _, _, .cons (a := p) (b := q) ⟨e, e2⟩ t => by
    unfold valV getG
    by_cases h : p.1 = k
    · right
      refine ⟨p.2, q.2, ?_, ?_, e2⟩
      · simp [List.find?_cons, h]
      · simp [List.find?_cons, e, h]
    · have h' : ¬ q.1 = g k := by rw [e]; exact fun q => h (hg _ _ q)
      rcases paired_get hg t (k := k) with ⟨h1, h2⟩ | ⟨v, d, h1, h2, h3⟩
      · left
        unfold valV at h1; unfold getG at h2
        exact ⟨by simpa [List.find?_cons, h] using h1, by simpa [List.find?_cons, h'] using h2⟩
      · right
        unfold valV at h1; unfold getG at h2
        exact ⟨v, d, by simpa [List.find?_cons, h] using h1, by simpa [List.find?_cons, h'] using h2, h3⟩
theorem paired_len {α β : Type} {R : α → β → Prop} : ∀ {as : List α} {bs : List β}, Paired R as bs → as.length = bs.length
  | _, _, .nil => rfl
  | _, _, .cons _ t => by simp [paired_len t]
/-- an own dict takes another content -/
theorem Rep.setDict (R : Rep K z r s H F) {i : Nat} {p : Addr} {bb t t' : Bool} {kvs kvs' : List (DK × D)} {o : HO} (hi : r[i]? = some (some (.m bb t kvs))) (hs : s[i]? = some (some (.ref p))) (hd : DicOk K F (upd H p o) p t' kvs') : Rep K z (r.set i (some (.m bb t' kvs'))) s (upd H p o) F := by
  have hrf : bb = true → z.rf i = some p := by
    obtain ⟨v, h1, p', e, _, _, _, h6⟩ := R.slots i _ hi
    subst e
    rw [hs] at h1; cases h1; exact h6
  have own : OwnAt r s H p := ⟨i, _, _, hi, rfl, hs, part_self⟩
  obtain ⟨_, hf, h0⟩ := R.own_facts own
  refine ⟨fun b u q => ?_, fun b u q => ?_, R.f0, R.nw, fun j sv q => ?_, R.ap_upd hi rfl hs fun b q => .inl (hd.one q), by simpa using R.len⟩
  · have : b ≠ p := fun e => by rw [e, hf] at q; cases q
    rw [upd_ne this]; exact R.fh b u q
  · have : b ≠ p := fun e => by rw [e, h0] at q; cases q
    rw [upd_ne this]; exact R.old b u q
  · rcases get_set_cases q with ⟨rfl, e⟩ | ⟨ne, q⟩
    · cases e
      exact ⟨_, hs, p, rfl, hf, h0, hd, hrf⟩
    · obtain ⟨v, q1, q2⟩ := R.slots j sv q
      refine ⟨v, q1, q2.mono (.refl _) (fun a b e hp hown u hu => ?_) fun a b _ _ hf' _ _ _ _ => hf'⟩
      rw [upd_ne (R.other ne hi rfl hs q hown (by rw [q1, e]) hp)]; exact hu
end
/-- a key's tuple is flat -/
theorem kV_flat (k : List Key) : (k.map kV).all noRef = true := by
  rw [List.all_map, List.all_eq_true]
  intro x _
  cases x <;> rfl
theorem tupAt_key {H : Hp} {b : Addr} {k : List Key} : TupAt H b (k.map kV) ↔ H b = some (.tup (k.map kV)) :=
  ⟨fun ⟨_, _, e⟩ => by rwa [tupHO_flat (kV_flat k)] at e, fun e => ⟨tupObj [], rfl, by rw [tupHO_flat (kV_flat k)]; exact e⟩⟩
mutual
theorem reads_lt {h : Heap} : ∀ (d : PyData) (v : Value) (as : List Addr), alike d d = true → Reads h v d as → ∀ a ∈ as, a < h.objs.size
  | .none, _, _, _, .none, a, hm => nomatch hm
  | .bool _, _, _, _, .bool _, a, hm => nomatch hm
  | .int _, _, _, _, .int _ _, a, hm => nomatch hm
  | .str _, _, _, _, .str _ _, a, hm => nomatch hm
  | .list xs, _, _, al, .list h1 _ _ h4, a, hm => by
    rcases List.mem_cons.mp hm with e | hm
    · subst e; exact Heap.lt_size h1
    · exact reads_ltAll xs _ _ (by simpa [alike] using al) h4 a hm
  | .tuple xs, _, _, al, .tuple h1 _ _ h4, a, hm => reads_ltAll xs _ _ (by simpa [alike] using al) h4 a hm
  | .dict kvs, _, _, al, _, a, hm => by simp [alike] at al
theorem reads_ltAll {h : Heap} : ∀ (ds : List PyData) (vs : List Value) (as : List Addr), alikeAll ds ds = true → ReadsAll h vs ds as → ∀ a ∈ as, a < h.objs.size
  | [], _, _, _, .nil, a, hm => nomatch hm
  | d :: ds, _, _, al, .cons h1 h2, a, hm => by
    obtain ⟨a1, a2⟩ := alike_all_cons al
    rcases List.mem_append.mp hm with hm | hm
    · exact reads_lt d _ _ a1 h1 a hm
    · exact reads_ltAll ds _ _ a2 h2 a hm
end
section
variable {X : Cx} {W : String → Hp → Prop} {a b c e : Expr} {f g : EM} {pos : Pos}
def newDM (i : Nat) (t : Bool) : SM := fun r => some (.nx (r.set i (some (.m false t []))))
/-- d[k] = v: the value, the dict, the key -/
def putM (i : Nat) (fk fv : EM) : SM := fun r => (fv r).bind fun p => match p.2[i]? with
  | some (some (.m _ _ _)) => (fk p.2).bind fun q => (match q.2[i]? with
    | some (some (.m b t kvs)) => (dkOf t q.1).bind fun k => if szOk kvs.length then some (.nx (q.2.set i (some (.m b t (putG kvs k p.1))))) else none
    | _ => none)
  | _ => none
theorem ss_put (i : Nat) {x : Str} {p pos' : Pos} {ie value : Expr} {fk fv : EM} (hu : X.A.units + 1 < cLine) (hk : SE X ie fk) (hvv : SE X value fv) (hN : X.N[i]? = some x := by rfl) (hv : Vis X.env.scope x := by first | exact Or.inl rfl | exact Or.inr (Or.inl rfl) | exact Or.inr (Or.inr rfl)) (hd : (x == ("__debug__" : Str)) = false := by decide)
    (hcd : (x == ("__classdict__" : Str)) = false := by decide) (hs : swapsWith value (some (.Subscript (.Name x p) ie pos')) pos.line X.env = pure false := by rfl) :
    SS X W (.Assign [.Subscript (.Name x p) ie pos'] value pos) (putM i fk fv) := ⟨ps_imp (ps_dput hu (pe_var hN hv hd hcd) hk.pe hvv.pe hs) fun D s H ⟨z, r, F, o, R, e, k⟩ => by
  unfold putM at e
  simp only [Option.bind_eq_some_iff] at e
  obtain ⟨⟨v, r1⟩, e1, e2⟩ := e
  split at e2
  · rename_i b0 t0 kvs0 h0
    have h0 : r1[i]? = some (some (.m b0 t0 kvs0)) := h0
    simp only [Option.bind_eq_some_iff] at e2
    obtain ⟨⟨kd, r2⟩, e3, e4⟩ := e2
    split at e4
    · rename_i b1 t1 kvs1 h1
      have h1 : r2[i]? = some (some (.m b1 t1 kvs1)) := h1
      simp only [Option.bind_eq_some_iff] at e4
      obtain ⟨key, e5, e6⟩ := e4
      split at e6
      · rename_i hz
        cases e6
        refine ⟨z, r, F, v, r1, R, e1, fun w H1 F1 R1 sb1 dw => ?_⟩
        obtain ⟨v0, q1, p0, rfl, q2, q3, q4, q5⟩ := R1.slots i _ h0
        refine ⟨_, q1, z, r1, F1, kd, r2, R1, e3, fun y H2 F2 R2 sb2 dk => ?_⟩
        obtain ⟨v1, w1, p1, rfl, w2, w3, w4, w5⟩ := R2.slots i _ h1
        have ea : p1 = p0 := by have := q1.symm.trans w1; cases this; rfl
        subst ea
        have dw' := dp_mono sb2 dw
        rcases w4 with ⟨rfl, ks, hk1, hk2⟩ | ⟨rfl, ks, hk1, hk2⟩
        · simp only [dkOf, Bool.false_eq_true, if_false, Option.map_eq_some_iff] at e5
          obtain ⟨kk, ek, rfl⟩ := e5
          cases keyOf_rel dk ek
          have hl := paired_len hk2
          refine ⟨p1, _, rfl, DPut.k hk1 (by rw [hl]; exact szOk_lt hz), k _ _ F2 (R2.setDict h1 w1 (.inl ⟨rfl, _, upd_same, paired_put (g := Sum.inl) (fun _ _ h => Sum.inl.inj h) dw' hk2⟩)) (sb1.trans sb2)⟩
        · simp only [dkOf, if_true] at e5
          split at e5
          · simp only [Option.map_eq_some_iff] at e5
            obtain ⟨kk, ek, rfl⟩ := e5
            obtain ⟨_, _, rfl, t1, t2⟩ := dk.inv
            cases keysOf_rel t2 ek
            have hl := paired_len hk2
            refine ⟨p1, _, rfl, DPut.t hk1 (R2.fh _ _ (tupAt_key.mp t1)) (by rw [hl]; exact szOk_lt hz), k _ _ F2 (R2.setDict h1 w1 (.inr ⟨rfl, _, upd_same, paired_put (g := Sum.inr) (fun _ _ h => Sum.inr.inj h) dw' hk2⟩)) (sb1.trans sb2)⟩
          · cases e5
      · cases e6
    · cases e4
  · cases e2⟩
/-- len(d) -/
def lenDM (i : Nat) : EM := fun r => match r[i]? with
  | some (some (.m _ true kvs)) => some (.int kvs.length, r)
  | _ => none
/-- sorted(d), the keys tuples -/
def sortDM (i : Nat) : EM := fun r => match r[i]? with
  | some (some (.m _ true kvs)) => if sortOk (kvs.map fun kv => dkD kv.1) then some (.list (sortL (kvs.map fun kv => dkD kv.1)), r) else none
  | _ => none
end
section
variable {X : Cx}
/-- sorted of what may be collected -/
theorem sorted_from {pins : List (Addr × Obj)} {s : Shared} {σ : L2.St} {H F : Hp} {v : Value} {ds : List D} {Q : VK} (hu : X.A.units + 100 < cLine) (I : L2.Inv X pins σ H s) (ok : sortOk ds = true)
    (col : ∀ {R : List Value → Shared → Prop}, (∀ (h1 : Heap) (tk : Nat) (us : List Value) (vs : List V) (F1 : Hp), (∀ b o, s.heap.get? b = some o → h1.get? b = some o) → Vals vs us → Grow F H F1 H → DpAll X.K F1 vs ds → R us { s with heap := h1, toks := tk }) → wpAny (model X.prog X.w) X.A.in1 (collect v) R X.xe s)
    (give : ∀ w H' F', Grow F H F' H' → Dp X.K F' w (.list (sortL ds)) → Q w H') : wpAny (model X.prog X.w) X.A (call (.builtin "sorted") [v]) (EP X pins σ Q) X.xe s := by
  obtain ⟨alikes, sortable, short, flat⟩ := sortOk_facts ok
  apply Calls.call_function_entry PyProof.Rows.kind_sorted PyProof.Rows.plain_sorted PyProof.Rows.entry_sorted (PyProof.Rows.args_sorted1 _)
  delta Builtin.«sorted»
  apply wpAny_bind; apply wpAny_pure
  apply wpAny_bind
  refine col fun h1 tk us vs F1 keeps vals grown data => ?_
  have I1 : L2.Inv X pins σ H { s with heap := h1, toks := tk } := I.kept keeps
  have len : us.length ≤ sizeLine := by rw [← vals.length, dpa_len data]; exact short
  apply wpAny_bind
  refine wpAny_newList ?_ len
  have stands := Heap.get?_push_size h1 (o := seqObj "list" us.toArray 0) rfl
  have reads : EachIs (fun v b => ∃ as, Reads (h1.push (seqObj "list" us.toArray 0)) v (id b) as ∧ h1.objs.size ∉ as) us ds := by
    refine (each_mem (each_reads I1 grown.fh vals data)).mono ?_
    rintro v b ⟨⟨as, r⟩, mb⟩
    refine ⟨as, PyProof.Rows.Reads.keeps (fun _ _ old => Heap.get?_push_of_some _ old) r, fun inn => ?_⟩
    have mb' : b ∈ ds.map id := by rwa [List.map_id]
    exact Nat.lt_irrefl _ (reads_lt _ _ _ (alikes b mb' b mb') r _ inn)
  apply wpAny_bind; apply wpAny_holding
  refine list_sort_data (A := X.A.in1) (s := { s with heap := h1.push (seqObj "list" us.toArray 0), toks := tk }) (enc := id) (R := fun u d => ∃ x, RelV x u ∧ Dp X.K F1 x d) stands (each_of vals data) reads alikes sortable short (fun b mb => ?_) fun out outLen outIs => ?_
  · have := flat b mb
    show X.A.units + 1 + 1 + _ < _
    simp only [id]
    omega
  · obtain ⟨ws, wv, wd⟩ := of_each outIs
    obtain ⟨n, sortedAt⟩ := PyProof.Rows.sortedHeap_at (vs := us) (out := out.toArray) stands
    have new : H h1.objs.size = none := I1.hok.fresh (Nat.le_refl _)
    obtain ⟨laid, dp⟩ := new_lst grown.fh new wd
    have wlen : ws.length ≤ sizeLine := by
      have e1 := wv.length
      omega
    apply wpAny_pure
    refine ⟨_, rfl, .ref h1.objs.size, upd H h1.objs.size (.lst ws), I1.laid (t' := tk) (fun b o old => ?_) (Nat.le_refl _) ⟨wlen, out, n, wv, sortedAt⟩, rfl, give _ _ _ (grown.trans laid) dp⟩
    have older : b < h1.objs.size := Heap.lt_size old
    rw [PyProof.Rows.sortedHeap_old (Nat.ne_of_lt older) (by rw [size_push']; exact Nat.lt_succ_of_lt older)]
    exact Heap.get?_push_of_some _ old
/-- sorted(t), t a tuple -/
theorem call_sortedU (hu : X.A.units + 100 < cLine) : CallR X (.builtin "sorted") (fun xs H Q => ∃ (p : Addr) (vs : List V) (ds : List D) (F : Hp), xs = [V.ref p] ∧ SubH F H ∧ SqT X.K H p vs ∧ DpAll X.K F vs ds ∧ sortOk ds = true ∧
    ∀ v H' F', Grow F H F' H' → Dp X.K F' v (.list (sortL ds)) → Q v H') := by
  rintro pins s σ H xs us Q I rel ⟨p, vs, ds, F, rfl, sb, tup, data, ok, give⟩
  obtain ⟨u, rfl, ru⟩ := vals1 rel
  cases ru
  obtain ⟨its, vals, ⟨ob, stands, isT, n, isS⟩, fits⟩ := I.tuple tup
  refine sorted_from hu I ok (fun {R} go => ?_) give
  exact wpAny_collect_seq p (.inr rfl) stands isT isS (fun h1 keeps => go h1 s.toks _ _ F keeps vals (.refl sb) data) (by rw [List.size_toArray, ← vals.length]; exact fits)
/-- sorted of a list or a tuple -/
def sortD2 : D → Option D
  | .list ds => if sortOk ds then some (.list (sortL ds)) else none
  | .tuple ds => if sortOk ds then some (.list (sortL ds)) else none
  | _ => none
theorem cr_sortD2 (hu : X.A.units + 100 < cLine) : CallR X (.builtin "sorted") (liftC1 X.K sortD2) := by
  rintro pins s σ H xs us Q I rel ⟨F, x, d, o, rfl, sb, dx, eo, k⟩
  cases d with
  | list ds => exact cr_sortD hu pins s σ H _ us Q I rel ⟨F, x, .list ds, o, rfl, sb, dx, eo, k⟩
  | tuple ds =>
    unfold sortD2 at eo
    dsimp only at eo
    split at eo
    · rename_i ok
      cases eo
      obtain ⟨p, vs, rfl, tup, each⟩ := dv_tup dx
      exact call_sortedU hu pins s σ H _ us Q I rel ⟨p, vs, ds, F, rfl, sb, sb.sqt (sqt_of tup), each, ok, k⟩
    · cases eo
  | _ => cases eo
end
end DL
namespace DL
open PySem L2 PyProof.Rows PySem.Spec PySem.W
/-! ### t[::-1] -/
/-! ### what a body is worth -/
def runF (N : List Str) (body : SM) (ds : List D) : Option D := match body (startD N ds) with
  | some (.rt d _) => some d
  | some (.nx _) => some .none
  | _ => none
def runR (N : List Str) (j : Nat) (body : SM) (ds xs : List D) : Option (D × List D) := match body (startR N j ds xs) with
  | some (.rt d r) => (endR j r).map fun ys => (d, ys)
  | some (.nx r) => (endR j r).map fun ys => (.none, ys)
  | _ => none
section
variable {P : Program} {w : World} {K : PySem.W.Frag} {mg : Str → Option Value} {base : Heap}
theorem fn_run {x qual : Str} {st : Stmt} {f : Addr} {fd : FuncData} {N ps : List Str} {k : Nat} {body : SM} (F : Fun K x qual st f fd) (S : FnScope N ps (defScope st))
    (hb : ∀ (cdv : Value) (A : Around) (outer : List Env) (s : Shared) (H : Hp) (E : XK), Room k (A.deeper (envOfC qual (defScope st) s.heap.objs.size f cdv)) →
      SSs (cxOf CX0 P w K mg base N qual (defScope st) f cdv A outer s H E).nox (fun _ _ => False) (defBody st) body) : FnOk P w K mg base CX0 (k + 1) f fd ps (spF K ps.length (runF N body)) :=
  fn_ok F S (runF N body) body hb fun ds d e => by
    unfold runF at e
    split at e
    · rename_i d' r' h; cases e; exact .inl ⟨r', h⟩
    · rename_i r' h; cases e; exact .inr ⟨rfl, r', h⟩
    · cases e
theorem fn_runR {x qual : Str} {st : Stmt} {f : Addr} {fd : FuncData} {N ps : List Str} {k : Nat} {body : SM} (j : Nat) (F : Fun K x qual st f fd) (S : FnScope N ps (defScope st))
    (hb : ∀ (cdv : Value) (A : Around) (outer : List Env) (s : Shared) (H : Hp) (E : XK), Room k (A.deeper (envOfC qual (defScope st) s.heap.objs.size f cdv)) →
      SSs (cxOf CX0 P w K mg base N qual (defScope st) f cdv A outer s H E).nox (fun _ _ => False) (defBody st) body) : FnOk P w K mg base CX0 (k + 1) f fd ps (spR K ps.length j (runR N j body)) :=
  fn_okR j F S (runR N j body) body hb fun ds xs d xs' e => by
    unfold runR at e
    split at e
    · rename_i d' r' h
      simp only [Option.map_eq_some_iff] at e
      obtain ⟨ys, e1, e2⟩ := e
      cases e2; exact ⟨r', .inl h, e1⟩
    · rename_i r' h
      simp only [Option.map_eq_some_iff] at e
      obtain ⟨ys, e1, e2⟩ := e
      cases e2; exact ⟨r', .inr ⟨rfl, h⟩, e1⟩
    · cases e
/-- a promise of nothing -/
theorem spF_none {f : Addr} {fd : FuncData} {ps : List Str} {k : Nat} : FnOk P w K mg base CX0 k f fd ps (spF K ps.length fun _ => none) :=
  ⟨fun vs H Q E h => h.1, fun A outer s H args us vs Q E _ _ _ _ h => by obtain ⟨_, _, _, _, _, _, e, _⟩ := h; cases e⟩
end
/-- room in units -/
structure Un1 (A : Around) : Prop where
  c0 : A.units < cLine
  c1 : A.units + 1 < cLine
  c64 : A.units + 64 < cLine
  c65 : A.units + 65 < cLine
  c100 : A.units + 100 < cLine
theorem un1 {k : Nat} {A : Around} (hr : Room k A) : Un1 A := by
  have := hr.un
  exact ⟨by omega, by omega, by omega, by omega, by omega⟩
end DL
namespace DL
open PySem L2 PyProof.Rows PySem.Spec PySem.W
/-- the law's end -/
theorem law_end {K : PySem.W.Frag} {H : Hp} {a : Addr} {ns : List Int} {g : List D → Option D} {E : XK} (h : g [.list (ns.map PyData.int)] = some (.bool true)) (hS : SqL K H a (ns.map V.int)) : spF K 1 g [.ref a] H (fun v _ => v = .bl true) E :=
  ⟨rfl, H, [.list (ns.map PyData.int)], .bool true, .refl _, .cons (.lst hS (dpa_ints_mk ns)) .nil, h, fun _ _ _ _ dd => dd.inv⟩
end DL
namespace DL
open PySem L2 PyProof.Rows PySem.Spec
/-! ### t.index(x), t a tuple that holds no flat things alone -/
def isFlat (d : D) : Bool := (scal d).isSome
def firstAt (ds : List D) (x : D) : Option Nat := ds.findIdx? fun z => PyData.eqv z x
def indexD : D → D → Option D
  | .tuple ds, x => if SeqAt.shaped (.tuple ds) && SeqAt.shaped x && !ds.all isFlat then (firstAt ds x).map fun j => .int (j : Nat) else none
  | _, _ => none
theorem flat_noRef {K : PySem.W.Frag} {F : Hp} {v : V} {d : D} (h : Dp K F v d) : isFlat d = noRef v := by
  unfold isFlat
  cases d with
  | list _ => obtain ⟨_, _, rfl, _⟩ := h.inv; rfl
  | tuple _ => obtain ⟨_, _, rfl, _⟩ := h.inv; rfl
  | dict _ => exact h.inv.elim
  | none => cases h.inv; rfl
  | bool _ => cases h.inv; rfl
  | int _ => cases h.inv; rfl
  | str _ => cases h.inv; rfl
theorem flat_all {K : PySem.W.Frag} {F : Hp} {vs : List V} {ds : List D} (h : DpAll K F vs ds) : ds.all isFlat = vs.all noRef := by
  induction h with
  | nil => rfl
  | cons x _ ih => rw [List.all_cons, List.all_cons, ih, flat_noRef x]
/-- such a tuple stands with its object -/
theorem with_object {K : PySem.W.Frag} {F : Hp} {p : Addr} {vs : List V} {ds : List D} (t : TupAt F p vs) (h : DpAll K F vs ds) (n : ds.all isFlat = false) : ∃ ob : Obj, ob.dict = none ∧ F p = some (.frz ob (.tup vs)) := by
  obtain ⟨ob, nd, e⟩ := t
  have : tupHO ob vs = .frz ob (.tup vs) := if_neg (by rw [← flat_all h, n]; decide)
  exact ⟨ob, nd, this ▸ e⟩
section
variable {X : Cx} {o e : Expr} {to te : TE} {f g : EM} {apos cpos : Pos}
/-- the place of the first that is the same -/
theorem index_call {pins : List (Addr × Obj)} {s : Shared} {σ : L2.St} {H : Hp} {p : Addr} {ds : List D} {x : D} {u : Value} {as bs : List Addr} {j : Nat} {Q : VK} (I : L2.Inv X pins σ H s) (row : Reads s.heap (.ref p) (.tuple ds) as) (it : Reads s.heap u x bs)
    (s1 : SeqAt.shaped (.tuple ds) = true) (s2 : SeqAt.shaped x = true) (hu : X.A.units + 65 < cLine) (first : firstAt ds x = some j) (q : Q (.int (j : Nat)) H) : wpAny (model X.prog X.w) X.A (call (.builtin "tuple.index") [.ref p, u]) (EP X pins σ Q) X.xe s := by
  cases row with
  | tuple stands isT isS items =>
    rename_i ob arr n
    obtain ⟨c, dd, dt, sl⟩ := ob
    cases isT; cases isS
    have lay : PyData.canLayAll0 ds = true := by simpa [PyData.canLay0] using SeqAt.canLay_of_shaped s1
    have told := SeqAt.readsAll_map ds _ _ lay items
    have told' : ∀ (m : Nat) (hm : m < arr.size), ds[m]? = some (SeqAt.readOf s.heap arr[m]) := fun m hm => by
      rw [← told, List.getElem?_map, List.getElem?_eq_getElem (by simpa using hm)]
      simp
    obtain ⟨inside, is, before⟩ := List.findIdx?_eq_some_iff_getElem.mp first
    have size : arr.size = ds.length := by rw [← told]; simp
    have ty : s.TypeIs (.ref p) "tuple" := ⟨_, stands, rfl⟩
    refine call_meets PySem.F.slot_tuple_index ty PySem.F.entry_tuple_index (PySem.F.args_tuple_index_2 _ _)
      (TI.tuple_indexAt p arr n dd sl u (fun y => PyData.eqv (SeqAt.readOf s.heap y) x) j (size ▸ inside) ?_ fun m hm lt => ?_) ⟨stands, SeqAt.items_eqAt items it lay (SeqAt.canLay_of_shaped s2) (room_in_shaped s2 hu), ?_⟩
    · have := told' j (size ▸ inside)
      rw [List.getElem?_eq_getElem inside] at this
      rw [← Option.some.inj this]; exact is
    · have := told' m hm
      rw [List.getElem?_eq_getElem (size ▸ hm)] at this
      rw [← Option.some.inj this]
      simpa using before m lt
    · exact ⟨.int (j : Nat), H, I.tok _, ⟨_, rfl⟩, q⟩
def tIdx (K : PySem.W.Frag) (to te : TE) : TE := fun σ H Q => to σ H fun x H1 => (∃ p ob xs, x = .ref p ∧ ob.dict = none ∧ H1 p = some (.frz ob (.tup xs))) ∧ te σ H1 fun y H2 =>
  ∃ F ds d j, SubH F H2 ∧ Dp K F x (.tuple ds) ∧ Dv K F H2 y d ∧ SeqAt.shaped (.tuple ds) = true ∧ SeqAt.shaped d = true ∧ firstAt ds d = some j ∧ Q (.int (j : Nat)) H2
theorem pe_index (hu : X.A.units + 65 < cLine) (ho : PE X o to) (he : PE X e te) (base : attributeBase o "index" X.env (eval o X.env) = eval o X.env)
    (few : ((backTo cpos (starEach [e] X.env)).all (fun x => !x.1) && (backToKw cpos (keywordEach [] X.env)).all (fun x => x.1.isSome) && decide ([e].length + ([] : List Keyword).length + (if ([] : List Keyword).isEmpty then 0 else 1) < 30)) = true)
    (line : (apos.endLine == cpos.line) = true) (star : starEach [e] X.env = (false, eval e X.env) :: starEach [] X.env) : PE X (.Call (.Attribute o "index" apos) [e] [] cpos) (tIdx X.K to te) := by
  constructor
  intro pins s σ H Q I want
  apply wpAny_Call_method_late base few line rfl
  refine thn (ho.run pins s σ H _ I want) ?_
  rintro v s1 ⟨x, H1, I1, rel, ⟨p, ob, xs, rfl, nodict, stands⟩, want2⟩
  cases rel
  obtain ⟨here, _, its, _, isT⟩ := (show ObjOk X.prog X.w H1 s1.heap p (.frz ob (.tup xs)) from I1.hok p _ stands)
  refine ⟨"tuple", "tuple.index", PySem.F.plainAttrs_tuple, PySem.F.slot_tuple_index, PySem.F.type_tuple_index, isT.typeIs, ?_, ?_⟩
  · rintro a ⟨⟩
    exact ⟨ob, here, nodict⟩
  · rw [star]
    apply Calls.callWith_builtin rfl
    apply Calls.evalArgs_plain
    have args := one_arg (pos := cpos) he I1 want2 (Q := fun us s' => wpAny (model X.prog X.w) X.A (call (.builtin "tuple.index") (.ref p :: us)) (EP X pins σ Q) X.xe s') ?_ star
    · rw [star] at args; exact args
    · rintro u s2 y H2 I2 ru ⟨F, ds, d, j, sb, dx, dy, s1, s2, first, q⟩
      obtain ⟨as, row⟩ := L2.Dp.reads I2 _ _ _ (dp_old (dp_mono sb dx)) (show RelV (.ref p) (.ref p) from rfl)
      obtain ⟨bs, it⟩ := L2.Dp.reads I2 _ _ _ (dp_old (dy.dp sb)) ru
      exact index_call I2 row it s1 s2 hu first q
theorem se_index (hu : X.A.units + 65 < cLine) (ho : SE X o f) (he : SW X e g) (base : attributeBase o "index" X.env (eval o X.env) = eval o X.env := by rfl)
    (few : ((backTo cpos (starEach [e] X.env)).all (fun x => !x.1) && (backToKw cpos (keywordEach [] X.env)).all (fun x => x.1.isSome) && decide ([e].length + ([] : List Keyword).length + (if ([] : List Keyword).isEmpty then 0 else 1) < 30)) = true := by rfl)
    (line : (apos.endLine == cpos.line) = true := by rfl) (star : starEach [e] X.env = (false, eval e X.env) :: starEach [] X.env := by rfl) : SE X (.Call (.Attribute o "index" apos) [e] [] cpos) (opM indexD f g) :=
  ⟨pe_imp (pe_index hu ho.pe he.pe base few line star) fun s H Q ⟨z, r, F, d, r', R, e, k⟩ => by
    obtain ⟨t, r1, x, e1, e2, e3⟩ := opM_some e
    unfold indexD at e3
    split at e3
    · rename_i ds
      split at e3
      · rename_i ok
        simp only [Bool.and_eq_true, Bool.not_eq_true'] at ok
        obtain ⟨j, first, rfl⟩ := Option.map_eq_some_iff.mp e3
        refine ⟨z, r, F, _, r1, R, e1, fun v H1 F1 R1 sb1 dt => ?_⟩
        obtain ⟨p, vs, rfl, tup, each⟩ := dt.inv
        obtain ⟨ob, nd, at_⟩ := with_object tup each ok.2
        refine ⟨⟨p, ob, vs, rfl, nd, R1.fh _ _ at_⟩, z, r1, F1, x, r', R1, e2, fun w H2 F2 R2 sb2 dx => ?_⟩
        exact ⟨F2, ds, x, j, R2.fh, dp_mono sb2 dt, dx, ok.1.1, ok.1.2, first, k _ _ _ R2 (sb1.trans sb2) (.int _)⟩
      · cases e3
    · cases e3⟩
end
end DL
namespace DL
open PySem L2 PyProof.Rows PySem.Spec
/-! ### a set made of a tuple of ints, of which only the length is asked -/
def dedup : List Int → List Int
  | [] => []
  | a :: as => if a ∈ as then dedup as else a :: dedup as
theorem mem_dedup {a : Int} : ∀ {as : List Int}, a ∈ dedup as ↔ a ∈ as
  | [] => by simp [dedup]
  | b :: as => by
    unfold dedup
    split
    · rename_i h
      rw [mem_dedup, List.mem_cons]
      exact ⟨.inr, fun q => q.elim (fun e => e ▸ h) id⟩
    · rw [List.mem_cons, List.mem_cons, mem_dedup]
theorem dedup_nodup : ∀ as : List Int, (dedup as).Nodup
  | [] => by simp [dedup]
  | b :: as => by
    unfold dedup
    split
    · exact dedup_nodup as
    · rename_i h
      rw [List.nodup_cons]
      exact ⟨fun m => h (mem_dedup.mp m), dedup_nodup as⟩
theorem dedup_len {as bs : List Int} (h1 : bs.Nodup) (h2 : ∀ k, k ∈ bs ↔ k ∈ as) : bs.length = (dedup as).length :=
  ((List.perm_ext_iff_of_nodup h1 (dedup_nodup as)).mpr fun k => by rw [h2, mem_dedup]).length_eq
/-- the set of these ints stands at a -/
def setHO (w : World) (a : Addr) (ns : List Int) : HO := .ext fun h => ∃ c, SetR w h a (fun j => decide (j ∈ ns)) c ∧ c ≤ ns.length
section
variable {X : Cx} {a : Expr} {f : EM}
theorem cr_setT (calm : X.calm = true) : CallR X (.type "set") (fun xs H Q => ∃ p ns, xs = [.ref p] ∧ SqT X.K H p (ns.map V.int) ∧ ns.length ≤ 1000 ∧ ∀ q, H q = none → Q (.ref q) (upd H q (setHO X.w q ns))) := by
  rintro pins s σ H xs us Q I rel ⟨p, ns, rfl, tup, short, give⟩
  obtain ⟨u, rfl, ru⟩ := vals1 rel
  cases ru
  obtain ⟨its, vals, isT, _⟩ := I.tuple tup
  have room : ns.length + 1 < scanBound := by unfold scanBound; omega
  refine call_set_tupI ns (I.ok.hd calm) isT (ints_of_vals vals) room fun h1 tk c made le keeps => ?_
  have old : H s.heap.objs.size = none := I.hok.fresh (Nat.le_refl _)
  refine ⟨.ref s.heap.objs.size, _, I.laid keeps (Nat.le_refl _) (o := setHO X.w s.heap.objs.size ns) ⟨⟨c, made, le⟩, ?_, ?_⟩, rfl, give _ old⟩
  · obtain ⟨ob, _, _, _, at_, _⟩ := made
    exact ⟨ob, at_⟩
  · rintro h2 h3 ⟨c', m, l⟩ same
    exact ⟨c', m.at same, l⟩
theorem cr_lenS : CallR X (.builtin "len") (fun xs H Q => ∃ p ns, xs = [.ref p] ∧ H p = some (setHO X.w p ns) ∧ ns.length ≤ 1000 ∧ Q (.int (dedup ns).length) H) := by
  rintro pins s σ H xs us Q I rel ⟨p, ns, rfl, stands, short, q⟩
  obtain ⟨u, rfl, ru⟩ := vals1 rel
  cases ru
  obtain ⟨⟨c, ⟨ob, es, ep, tab, at_, isSet, data, _, distinct, members, _, fits, size, _⟩, le⟩, _⟩ := (show ObjOk X.prog X.w H s.heap p (setHO X.w p ns) from I.hok p _ stands)
  have many : es.size = (dedup ns).length := by
    rw [← dedup_len distinct fun k => by rw [← members k, decide_eq_true_eq]]
    simp
  exact call_len_set at_ isSet data fits (by omega) ⟨.int (dedup ns).length, H, I.tok _, ⟨_, by rw [many]⟩, q⟩
def lenSetD : D → Option D
  | .tuple ds => (intsOf ds).bind fun ns => if ns.length ≤ 1000 then some (.int (dedup ns).length) else none
  | _ => none
theorem se_lenSet {p p2 q pos : Pos} (calm : X.calm = true) (hg : Gl X "len") (hm : X.mg "len" = none) (hg2 : Gl X "set") (hm2 : X.mg "set" = none) (ha : SE X a f)
    (star : starEach [a] X.env = [(false, eval a X.env)] := by rfl) (star2 : starEach [.Call (.Name "set" p2) [a] [] q] X.env = [(false, eval (.Call (.Name "set" p2) [a] [] q) X.env)] := by rfl) (b1 : bootBuiltins "len" = some (.builtin "len") := by decide +kernel) (b2 : bootBuiltins "set" = some (.type "set") := by decide +kernel) :
    SE X (.Call (.Name "len" p) [.Call (.Name "set" p2) [a] [] q] [] pos) (unM lenSetD f) :=
  ⟨pe_imp (pe_callB cr_lenS hg hm b1 (pa_cons (pe_callTy (cr_setT calm) hg2 hm2 b2 (pa_cons ha.pe pa_nil star) (by decide) (by decide) star rfl) pa_nil star2) (by decide) (by decide) star2 rfl) fun s H Q ⟨z, r, F, d, r', R, e, k⟩ => by
    obtain ⟨x, e1, e2⟩ := unM_some e
    cases x with
    | tuple ds =>
      obtain ⟨ns, e3, e4⟩ := Option.bind_eq_some_iff.mp e2
      split at e4
      · rename_i short
        cases e4
        cases intsOf_some e3
        refine ⟨z, r, F, _, r', R, e1, fun v H1 F1 R1 sb dv => ?_⟩
        obtain ⟨t, vs, rfl, tup, each⟩ := dv.inv
        cases dpa_ints each
        refine ⟨t, ns, rfl, R1.fh.sqt (sqt_of tup), short, fun b new => ⟨b, ns, rfl, upd_same, short, ?_⟩⟩
        exact k _ _ _ (R1.grow (.loose R1.fh new)) sb (.int _)
      · cases e4
    | _ => cases e2⟩
end
end DL
namespace DL
open PySem L2 PyProof.Rows PySem.Spec
/-! ### enumerate(t), t a tuple or a list -/
/-- numbered things of the tuple at a, each in a new pair -/
def enumIt (K : PySem.W.Frag) (a : Addr) : It where
  go i H := ∃ xs, SqT K H a xs ∧ i < xs.length
  stop i H := ∃ xs, SqT K H a xs ∧ i = xs.length
  yld i H v H' := ∃ T x, v = .ref T ∧ H T = none ∧ H' = upd H T (.tup [.int (i : Nat), x]) ∧ ∀ xs, SqT K H a xs → xs[i]? = some x
theorem walk_enumIt {K : PySem.W.Frag} {a : Addr} {xs : List V} : Walk (enumIt K a) xs.length (fun H => SqT K H a xs) (YPair (fun i => some (.int (i : Nat))) (fun i => xs[i]?)) where
  goes m H lt tup := ⟨xs, tup, lt⟩
  stops H tup := ⟨xs, tup, rfl⟩
  yields := by
    rintro m H v H' - tup ⟨T, x, ev, new, eH, at_⟩
    exact ⟨T, _, x, ev, new, eH, rfl, at_ xs tup⟩
/-- the library's walk of an enumerate object over what a tuple's iterator draws -/
theorem walks_enum {P : Program} {w : World} {A : Around} (calm : A.handled = none) {a e it : Addr} (h1 : e ≠ it) (h2 : e ≠ a) (h3 : a ≠ it) (items : Array Value) :
    WalksT P w A e [e, it, a] [e, it] items.size (fun i vals => ∃ t x, items[i]? = some x ∧ vals = #[.int i t, x]) (fun i h => (∃ old, IsEnum h e it i old) ∧ h.IsTupleIter it a i ∧ h.IsTuple a items)
      (fun i T h => (∃ x, IsEnumOut h e it ((i : Int) + 1) x T) ∧ (h.IsTupleIter it a (i + 1) ∧ h.IsTuple a items) ∧ T ≠ e ∧ T ≠ it) :=
  WalksT.enumerateD (Draws.tuple (show A.in1.handled = none from calm) it a h3 items) e h1 (by simp [h1, h2]) (by simp)
theorem turn_enumT {P : Program} {w : World} {K : PySem.W.Frag} {elts : List Expr} {kk : Nat} {tpos : Pos} {a e it : Addr} (h1 : e ≠ it) (h2 : e ≠ a) (h3 : a ≠ it) :
    Turn P w K (.Tuple elts kk tpos) (enumIt K a) [e, it] e (fun i h => (∃ old, IsEnum h e it (i : Nat) old) ∧ h.IsTupleIter it a i) where
  mem := List.mem_cons_self
  obj := by
    rintro i h ⟨⟨old, en⟩, ⟨ob, at_, _, data⟩⟩ b mb
    rcases List.mem_cons.mp mb with rfl | mb
    · exact ⟨_, en, nofun⟩
    · cases List.mem_singleton.mp mb
      exact ⟨ob, at_, fun v q => by rw [data] at q; cases q⟩
  keep := by
    rintro i h h' ⟨⟨old, en⟩, iter⟩ same
    exact ⟨⟨old, same e (by simp) _ en⟩, iter.at (same it (by simp))⟩
  item := by
    rintro X rfl rfl rfl calm i pins s σ H E I own ⟨en, iter⟩ ⟨xs, tup, lt⟩
    obtain ⟨its, vals, isT, _⟩ := I.tuple tup
    have W := walks_enum (P := X.prog) (w := X.w) (I.ok.hd calm) h1 h2 h3 its.toArray
    have lt' : i < its.toArray.size := by simpa [← vals.length] using lt
    refine W.item i s _ _ lt' ⟨en, iter, isT⟩ ?_
    rintro T row g1 tk ⟨t, x, hx, rfl⟩ newer isRow mid same1
    refine ⟨.ref T, rfl, W.go elts kk tpos i T _ _ _ mid fun g2 st same2 => ?_⟩
    have other := W.apart i T _ mid
    obtain ⟨u, hu, ru⟩ := vals.get (List.getElem?_eq_getElem lt)
    have exu : x = u := by
      have : its[i]? = some x := by simpa using hx
      rw [hu] at this; exact (Option.some.inj this).symm
    subst exu
    have pair : g2.IsTuple T #[.int i t, x] := isRow.at fun o q => same2 T o other q
    have made : ObjOk X.prog X.w (upd H T (.tup [.int (i : Nat), xs[i]])) g2 T (.tup [.int (i : Nat), xs[i]]) :=
      ⟨by show 2 ≤ sizeLine; decide, [.int i t, x], .cons ⟨_, rfl⟩ (.cons ru .nil), pair⟩
    have I2 := I.turnedNew (t' := tk) (ch := [e, it]) (fun b o nb q => same2 b o nb (same1 b o nb q)) own newer made
    refine ⟨.ref T, _, I2, rfl, ⟨T, xs[i], rfl, I.hok.fresh newer, rfl, fun ys ty => ?_⟩, ⟨by simpa using st.1, st.2.1⟩, fun b mb => ?_⟩
    · rw [I.tuple_inj ty tup]; exact List.getElem?_eq_getElem lt
    · have ne : b ≠ T := fun q => other (q ▸ mb)
      rw [upd_ne ne]
      exact (own b mb).1
  done := by
    rintro X rfl rfl rfl calm i pins s σ H E I own ⟨en, iter⟩ ⟨xs, tup, rfl⟩
    obtain ⟨its, vals, isT, _⟩ := I.tuple tup
    have W := walks_enum (P := X.prog) (w := X.w) (I.ok.hd calm) h1 h2 h3 its.toArray
    have all : its.toArray.size = xs.length := by simp [vals.length]
    refine W.done s _ _ ?_ fun g tk same => ⟨rfl, I.turnedL (t' := tk) (ch := [e, it]) same own⟩
    rw [all]
    exact ⟨en, iter, isT⟩
  self A i s Q E st q := let ⟨⟨_, en⟩, _⟩ := st; wpAny_pyIter_enum en q
/-- enumerate.__new__ of anything that an iterator begins at -/
theorem meets_enumNew {v : Value} {o : Obj} {G : Heap → Prop} (B : Begins v o G) : Meets (Builtin.«enumerate.__new__» ⟨[.type "enumerate", v], []⟩) (fun _ R s => G s.heap ∧
    R (.ok (.ret (.ref (s.heap.objs.size + 1)))) { s with heap := (s.heap.push o).push { cls := .type "enumerate", data := .fields #[.none, .bool false, .ref s.heap.objs.size, rawInt 0, .none, .none] } }) := by
  refine .of_wp fun prog w A R s ⟨begins, done⟩ => ?_
  have own := sub_enumerate
  have iter := fun {A' : Around} {E' : Value → Shared → Prop} {Q' : Value → Shared → Prop} => B.iter prog w A' E' s Q' begins
  wp_walk using iter
  apply wpAny_stack_any
  intro calls
  apply wpAny_pure
  have size : (s.heap.push o).objs.size = s.heap.objs.size + 1 := Heap.size_push ..
  rw [← size] at done
  dsimp only
  by_cases short : (match List.drop 1 calls with | (Code.builtin "type.__call__" { pos := c :: tail, kw := kw }, snd) :: tail_1 => c == Value.type "enumerate" | x => false) = true
  · erw [if_pos short]
    wp_walk using iter
    exact ⟨_, rfl, done⟩
  · erw [if_neg short]
    wp_walk using iter
    exact ⟨_, rfl, done⟩
/-- what enumerate(t) of a tuple makes -/
theorem call_enumT {prog : Program} {w : World} {A : Around} {E : Value → Shared → Prop} {s : Shared} {a : Addr} {items : Array Value} {Q : Value → Shared → Prop} (isT : s.heap.IsTuple a items)
    (q : ∀ g, IsEnum g (s.heap.objs.size + 1) s.heap.objs.size (0 : Nat) .none → g.IsTupleIter s.heap.objs.size a 0 → (∀ b o, s.heap.get? b = some o → g.get? b = some o) → Q (.ref (s.heap.objs.size + 1)) { s with heap := g }) : wpAny (model prog w) A (call (.type "enumerate") [.ref a]) Q E s := by
  have B := begins_tuple a items
  refine callType_new F.called_enumerate (by decide) (F.typeCall_enumerate_1 _) (F.newCall_enumerate_1 _) (fun obj => F.args_object_init_2 obj _) F.entry_enumerate_new (meets_enumNew B) ⟨isT, ?_⟩
  have size : (s.heap.push { cls := .type "tuple_iterator", data := .fields #[.ref a, .int 0 0] }).objs.size = s.heap.objs.size + 1 := Heap.size_push ..
  have en := Heap.get?_push_size (s.heap.push { cls := .type "tuple_iterator", data := .fields #[.ref a, .int 0 0] }) (o := { cls := .type "enumerate", data := .fields #[.none, .bool false, .ref s.heap.objs.size, rawInt 0, .none, .none] }) rfl
  rw [size] at en
  have two := fun b o (old : s.heap.get? b = some o) => Heap.get?_push_of_some { cls := .type "enumerate", data := .fields #[.none, .bool false, .ref s.heap.objs.size, rawInt 0, .none, .none] } (Heap.get?_push_of_some { cls := .type "tuple_iterator", data := .fields #[.ref a, .int 0 0] } old)
  exact ⟨⟨_, en, rfl⟩, q _ en ⟨_, Heap.get?_push_of_some _ (Heap.get?_push_size _ B.free), rfl, rfl⟩ two⟩
def tEnum (K : PySem.W.Frag) (ta : TA) : TI := fun σ H R => ta σ H fun vs H1 => ∃ a xs, vs = [.ref a] ∧ SqT K H1 a xs ∧ R (enumIt K a) H1
theorem pi_enumT {X : Cx} {e : Expr} {ta : TA} {p pos tpos : Pos} {elts : List Expr} {kk : Nat} (hg : Gl X "enumerate") (hm : X.mg "enumerate" = none) (ha : PA X [e] ta) (star : starEach [e] X.env = [(false, eval e X.env)]) :
    PI X (.Tuple elts kk tpos) (.Call (.Name "enumerate" p) [e] [] pos) (tEnum X.K ta) := by
  constructor
  intro pins s σ H R I want
  refine Call_ (ld_blt I hg hm boot_enumerate ?_)
  refine PyProof.Rows.callWith_type1 (thn (ha.run pos pins s σ H _ I want) ?_) star rfl
  rintro us s1 ⟨vs, H1, I1, rel, a, xs, rfl, tup, r⟩
  obtain ⟨u, rfl, ru⟩ := vals1 rel
  cases ru
  obtain ⟨its, _, isT, _⟩ := I1.tuple tup
  have older : a < s1.heap.objs.size := let ⟨_, at_, _⟩ := isT; Heap.lt_size at_
  refine call_enumT (items := its.toArray) isT fun g en iter same => wpAny_pyIter_enum en ?_
  refine ⟨_, _, _, _, H1, rfl, I1.kept (t' := s1.toks) same, turn_enumT (Nat.succ_ne_self _) (Nat.ne_of_gt (Nat.lt_succ_of_lt older)) (Nat.ne_of_lt older), ⟨⟨_, en⟩, iter⟩, fun b mb => ?_, r⟩
  have new : s1.heap.objs.size ≤ b := by
    rcases List.mem_cons.mp mb with rfl | mb
    · exact Nat.le_succ _
    · exact Nat.le_of_eq (List.mem_singleton.mp mb).symm
  exact I1.fpOk new (I1.hok.fresh new)
/-- numbered things -/
def enumL (ds : List D) : List D := zipL ((List.range ds.length).map fun (i : Nat) => PyData.int (i : Int)) ds
theorem walkD_enum {K : PySem.W.Frag} {F : Hp} {J : It} {vs : List V} {ds : List D} (each : DpAll K F vs ds) (w : Walk J vs.length (fun H => SubH F H) (YPair (fun i => some (.int (i : Nat))) (fun i => vs[i]?))) : WalkD K true F J (enumL ds) := by
  have many : (enumL ds).length = vs.length := by simp [enumL, zipL, dpa_len each]
  refine ⟨⟨_, many ▸ w, ?_⟩⟩
  rintro i H x H' ⟨T, n, y, rfl, new, rfl, hn, hy⟩ F' sb sh
  cases hn
  obtain ⟨d, at_, dy⟩ := dpa_at each hy
  obtain ⟨F2, G, q⟩ := pair_step sh new (.int (i : Nat)) (dp_mono sb dy)
  have lt := (List.getElem?_eq_some_iff.mp at_).1
  exact ⟨F2, _, zipL_get (by simp [lt]) at_, G, q⟩
def enumM (f : EM) : AM := fun r => (f r).bind fun p => (itemsOf p.1).map fun ds => (enumL ds, p.2)
section
variable {X : Cx} {a : Expr} {f : EM} {pos : Pos}
theorem si_enum {p tpos : Pos} {elts : List Expr} {kk : Nat} (hg : Gl X "enumerate") (hm : X.mg "enumerate" = none) (ha : SE X a f) (star : starEach [a] X.env = [(false, eval a X.env)] := by rfl) :
    SI X true (.Tuple elts kk tpos) (.Call (.Name "enumerate" p) [a] [] pos) (enumM f) := ⟨⟨fun pins s σ H R I ⟨z, r, F, ds, r', Rr, e, k⟩ => by
  obtain ⟨⟨x, r1⟩, e1, e2⟩ := Option.bind_eq_some_iff.mp e
  obtain ⟨row, e3, e4⟩ := Option.map_eq_some_iff.mp e2
  cases e4
  have args := pa_cons ha.pe pa_nil star
  cases x with
  | tuple l =>
    cases e3
    refine (pi_enumT hg hm args star).run pins s σ H R I ⟨z, r, F, _, _, Rr, e1, fun v H1 F1 R1 sb dv => ?_⟩
    obtain ⟨t, vs, rfl, tup, each⟩ := dv.inv
    exact ⟨t, vs, rfl, R1.fh.sqt (sqt_of tup), k _ _ _ R1 sb (walkD_enum each (walk_enumIt.mono (fun _ sub => sub.sqt (sqt_of tup)) fun _ _ _ _ _ _ y => y))⟩
  | list l =>
    cases e3
    refine (pi_enum hg hm args star).run pins s σ H R I ⟨z, r, F, _, _, Rr, e1, fun v H1 F1 R1 sb dv => ?_⟩
    obtain ⟨t, vs, rfl, lst, each⟩ := dv.inv
    exact ⟨t, vs, rfl, R1.fh.sql lst, k _ _ _ R1 sb (walkD_enum each (walk_enum.mono (fun _ sub => sub.sql lst) fun _ _ _ _ _ _ y => y))⟩
  | _ => cases e3⟩⟩
end
/-! ### raise, where no one takes it -/
def exM (c : String) : SM := fun r => some (.ex c r)
theorem ss_never {X : Cx} {c : String} {st : Stmt} : SS X (fun _ _ => False) st (exM c) := ⟨⟨fun pins s σ H D I ⟨z, r, F, o, R, e, k⟩ => by
  cases e
  exact (k _ _ _ R (.refl _)).elim⟩⟩
end DL
namespace DL
open PySem L2 PyProof.Rows PySem.Spec
/-! ### a new list said so often: [x] * n -/
end DL
namespace DL
open PySem L2 PyProof.Rows PySem.Spec
/-! ### own dicts: a display of one pair, in, sorted keys -/
section
variable {K : PySem.W.Frag} {z : Fx} {r : Rho} {s : L2.St} {H F : Hp}
/-- a slot takes a loose dict as its own -/
theorem Rep.ownDict (R : Rep K z r s H F) {i : Nat} {p : Addr} {t : Bool} {kvs : List (DK × D)} (nf : F p = none) (n0 : z.H0 p = none) (no : ¬ OwnAt r s H p) (hd : DicOk K F H p t kvs) : Rep K z (r.set i (some (.m false t kvs))) (s.set i (some (.ref p))) H F where
  fh := R.fh
  old := R.old
  f0 := R.f0
  nw := R.nw
  slots := by
    intro j sv e
    have lt : j < s.length := by
      have := (List.getElem?_eq_some_iff.mp e).1
      rw [List.length_set] at this
      rw [← R.len]; exact this
    rcases get_set_cases e with ⟨rfl, e2⟩ | ⟨ne, e2⟩
    · cases e2
      exact ⟨.ref p, List.getElem?_set_self lt, p, rfl, nf, n0, hd, nofun⟩
    · obtain ⟨v, h1, h2⟩ := R.slots j sv e2
      exact ⟨v, by rw [List.getElem?_set_ne (Ne.symm ne)]; exact h1, h2⟩
  ap := R.ap.new (i := i) (P := fun b => b = p) (fun b e => e ▸ no) fun j b h => by
    rcases owns_set h with ⟨e, _, a, ea, q⟩ | ⟨n, h⟩
    · cases ea; exact .inl ⟨e, hd.one q⟩
    · exact .inr ⟨n, h⟩
  len := by simpa using R.len
theorem not_tu_d {kvs : List (Key × V)} : ¬ IsTu (.dK kvs) := fun ⟨ob, vs, q⟩ => by
  rcases tupHO_cases ob vs with e | e <;> rw [e] at q <;> cases q
end
/-- x = {k: v} -/
def newDispM (i : Nat) (fk fv : EM) : SM := fun r => (fk r).bind fun p => (fv p.2).bind fun q => (keyOf p.1).map fun k => .nx (q.2.set i (some (.m false false [(.inl k, q.1)])))
/-- k in d, k not in d -/
def inDM (neg : Bool) (i : Nat) (f : EM) : TM := fun r => (f r).bind fun p => match p.2[i]? with
  | some (some (.m _ t kvs)) => (dkOf t p.1).map fun k => ((getG kvs k).isSome != neg, p.2)
  | _ => none
def intKeys : List (DK × D) → Option (List Int)
  | [] => some []
  | (.inl (.inl i), _) :: kvs => (intKeys kvs).map (i :: ·)
  | _ => none
def sortIM (i : Nat) : EM := fun r => match r[i]? with
  | some (some (.m _ false kvs)) => (intKeys kvs).bind fun ks => if ks.length < 64 then some (.list ((ks.mergeSort fun a b => decide (a ≤ b)).map .int), r) else none
  | _ => none
section
variable {X : Cx} {W : String → Hp → Prop} {a b e : Expr} {f g : EM} {pos : Pos}
theorem ss_disp (i : Nat) {x : Str} {pos' dpos : Pos} {fk fv : EM} (hN : X.N.Nodup) (hk : SE X a fk) (hv : SE X b fv) (hi : X.N[i]? = some x := by rfl) (hx : Loc X.env.scope x := by first | exact Or.inl rfl | exact Or.inr rfl)
    (hs : swapsWith (.Dict [some a] [b] dpos) (some (.Name x pos')) pos.line X.env = pure false := by rfl) (hf : X.fn x = true ∨ X.env.scope.names.lookup x = some .local := by first | exact .inl rfl | exact .inr rfl | assumption) :
    SS X W (.Assign [.Name x pos'] (.Dict [some a] [b] dpos) pos) (newDispM i fk fv) :=
  ⟨ps_imp (ps_set hN hi hx (pe_disp (pps_cons hk.pe hv.pe pps_nil) rfl rfl (by simp) (by simp)) hs hf) fun D s H ⟨z, r, F, o, R, e, k⟩ => by
    obtain ⟨⟨dk, r1⟩, e1, e2⟩ := Option.bind_eq_some_iff.mp e
    obtain ⟨⟨dv, r2⟩, e3, e4⟩ := Option.bind_eq_some_iff.mp e2
    obtain ⟨key, e5, e6⟩ := Option.map_eq_some_iff.mp e4
    cases e6
    intro p new
    have nf := R.fh.none new
    have n0 := R.old.none new
    have no' : ¬ OwnAt r s H p := R.free new
    have R0 := R.grow (Grow.loose (o := .dK []) R.fh new)
    have no : ¬ OwnAt r s (upd H p (.dK [])) p := fun q => no' (ownAt_upd no' q)
    refine ⟨_, r, F, dk, r1, R0.base, e1, fun v H1 F1 R1 sb1 kv => ?_⟩
    obtain ⟨at1, nf1, no1⟩ := R0.loose_kept R1 upd_same nf no not_tu_d
    have R1' := R0.back R1
    refine ⟨_, r1, F1, dv, r2, R1'.base, e3, fun w H2 F2 R2 sb2 vv => ?_⟩
    obtain ⟨at2, nf2, no2⟩ := R1'.loose_kept R2 at1 nf1 no1 not_tu_d
    have R2' := R1'.back R2
    refine ⟨at2, [(key, w)], by rw [keyOf_rel kv e5]; rfl, by simp, ?_⟩
    have R3 := R2'.loosePut (o := .dK (mergeK [] [(key, w)])) nf2 n0 no2
    have ok : DicOk X.K F2 (upd H2 p (.dK (mergeK [] [(key, w)]))) p false [(.inl key, dv)] := .inl ⟨rfl, _, upd_same, .cons ⟨rfl, vv⟩ .nil⟩
    exact k _ _ _ (R3.ownDict nf2 n0 (fun q => no2 (ownAt_upd no2 q)) ok) (sb1.trans sb2)⟩
/-- what is found under a key -/
theorem dget_of {z : Fx} {r : Rho} {s : L2.St} {H F : Hp} {i : Nat} {bb t : Bool} {kvs : List (DK × D)} {y : V} {d : D} {k : DK} (R : Rep X.K z r s H F) (hi : r[i]? = some (some (.m bb t kvs))) (dy : Dp X.K F y d) (hk : dkOf t d = some k) :
    ∃ p o, s[i]? = some (some (.ref p)) ∧ DGet H p y o ∧ o.isSome = (getG kvs k).isSome := by
  obtain ⟨v, at_, p, rfl, _, _, ok, _⟩ := R.slots i _ hi
  rcases ok with ⟨rfl, ks, stands, rows⟩ | ⟨rfl, ks, stands, rows⟩
  · obtain ⟨kk, ek, rfl⟩ := Option.map_eq_some_iff.mp hk
    cases keyOf_rel dy ek
    refine ⟨p, valV ks kk, at_, .inl ⟨ks, kk, .inl stands, rfl, rfl⟩, ?_⟩
    rcases paired_get (g := Sum.inl) (fun _ _ h => Sum.inl.inj h) (k := kk) rows with ⟨h1, h2⟩ | ⟨w, dd, h1, h2, _⟩
    · rw [h1, h2]; rfl
    · rw [h1, h2]; rfl
  · cases d with
    | tuple ds =>
      obtain ⟨kk, ek, rfl⟩ := Option.map_eq_some_iff.mp hk
      obtain ⟨q, vs, rfl, tup, each⟩ := dy.inv
      cases keysOf_rel each ek
      refine ⟨p, valV ks kk, at_, .inr ⟨ks, kk, q, .inl stands, rfl, R.fh _ _ (tupAt_key.mp tup), rfl⟩, ?_⟩
      rcases paired_get (g := Sum.inr) (fun _ _ h => Sum.inr.inj h) (k := kk) rows with ⟨h1, h2⟩ | ⟨w, dd, h1, h2, _⟩
      · rw [h1, h2]; rfl
      · rw [h1, h2]; rfl
    | _ => cases hk
theorem inDM_some {neg : Bool} {i : Nat} {r r' : Rho} {c : Bool} (e : inDM neg i f r = some (c, r')) : ∃ d bb t kvs k, f r = some (d, r') ∧ r'[i]? = some (some (.m bb t kvs)) ∧ dkOf t d = some k ∧ c = ((getG kvs k).isSome != neg) := by
  obtain ⟨⟨d, r1⟩, e1, e2⟩ := Option.bind_eq_some_iff.mp e
  split at e2
  · rename_i bb t kvs hi
    obtain ⟨k, e3, e4⟩ := Option.map_eq_some_iff.mp e2
    cases e4
    exact ⟨d, bb, t, kvs, k, e1, hi, e3, rfl⟩
  · cases e2
theorem st_notInD (i : Nat) {x : Str} {p : Pos} (hu : X.A.units + 1 < cLine) (ha : SE X a f) (hN : X.N[i]? = some x := by rfl) (hv : Vis X.env.scope x := by first | exact Or.inl rfl | exact Or.inr (Or.inl rfl) | exact Or.inr (Or.inr rfl)) (hd : (x == ("__debug__" : Str)) = false := by decide)
    (hcd : (x == ("__classdict__" : Str)) = false := by decide) (hm : behindInMarks .NotIn (.Name x p) = false := by rfl) : ST X (.Compare a [.NotIn] [.Name x p] pos) (inDM true i f) :=
  ⟨pt_imp (pt_cmp (pc_dnotin hu ha.pe (pe_var hN hv hd hcd)) hm) fun s H Q ⟨z, r, F, c, r', R, e, k⟩ => by
    obtain ⟨d, bb, t, kvs, key, e1, e2, e3, rfl⟩ := inDM_some e
    refine ⟨z, r, F, d, r', R, e1, fun v H1 F1 R1 sb dv => ?_⟩
    obtain ⟨q, o, at_, get, same⟩ := dget_of R1 e2 dv e3
    exact ⟨_, at_, q, o, rfl, get, _, rfl, by rw [same, show (!(getG kvs key).isSome) = ((getG kvs key).isSome != true) by simp]; exact k _ _ R1 sb⟩⟩
theorem intKeys_rel {K : PySem.W.Frag} {F : Hp} : ∀ {kvs : List (DK × D)} {ks : List (Key × V)} {ns : List Int}, Paired (fun (p : Key × V) (q : DK × D) => q.1 = .inl p.1 ∧ Dp K F p.2 q.2) ks kvs → intKeys kvs = some ns → ks.map (·.1) = ns.map Sum.inl
  | [], [], _, _, h => by cases h; rfl
  | (.inl (.inl i), v) :: kvs, p :: ks, ns, .cons ⟨e, _⟩ t, h => by
    obtain ⟨ms, h1, rfl⟩ := Option.map_eq_some_iff.mp h
    have e : Sum.inl i = p.1 := Sum.inl.inj e
    rw [List.map_cons, intKeys_rel t h1, ← e]; rfl
  | (.inl (.inr _), _) :: _, _, _, _, h => nomatch h
  | (.inr _, _) :: _, _, _, _, h => nomatch h
theorem sorted_is {ys ks : List Int} (p : ys.Perm ks) (up : ys.Pairwise (· ≤ ·)) : ys = ks.mergeSort fun a b => decide (a ≤ b) := by
  have up2 := List.pairwise_mergeSort (le := fun a b : Int => decide (a ≤ b)) (by simp; omega) (by simp; omega) ks
  refine (p.trans (List.mergeSort_perm ks _).symm).eq_of_pairwise ?_ up (up2.imp fun h => of_decide_eq_true h)
  intro a b _ _ h1 h2
  exact Int.le_antisymm h1 h2
theorem se_sortI (i : Nat) {x : Str} {p p1 : Pos} (calm : X.calm = true) (hg : Gl X "sorted") (hm : X.mg "sorted" = none) (hN : X.N[i]? = some x := by rfl) (hv : Vis X.env.scope x := by first | exact Or.inl rfl | exact Or.inr (Or.inl rfl) | exact Or.inr (Or.inr rfl)) (hd : (x == ("__debug__" : Str)) = false := by decide)
    (hcd : (x == ("__classdict__" : Str)) = false := by decide) (he : starEach [.Name x p] X.env = [(false, eval (.Name x p) X.env)] := by rfl) (hb : bootBuiltins "sorted" = some (.builtin "sorted") := by decide +kernel) : SE X (.Call (.Name "sorted" p1) [.Name x p] [] pos) (sortIM i) :=
  ⟨pe_imp (pe_callB (call_sortedDI calm) hg hm hb (pa_cons (pe_var hN hv hd hcd) pa_nil he) (by decide) (by decide) he rfl) fun s H Q ⟨z, r, F, d, r', R, e, k⟩ => by
    unfold sortIM at e
    split at e
    · rename_i bb kvs hi
      obtain ⟨ns, e1, e2⟩ := Option.bind_eq_some_iff.mp e
      split at e2
      · rename_i few
        cases e2
        obtain ⟨v, at_, q, rfl, _, _, ok, _⟩ := R.slots i _ hi
        rcases ok with ⟨_, ks, stands, rows⟩ | ⟨no, _⟩
        · refine ⟨_, at_, q, ks, ns, rfl, .inl stands, intKeys_rel rows e1, few, fun ys p pm up new => ?_⟩
          cases sorted_is pm up
          obtain ⟨G, dd⟩ := new_lst R.fh new (dpa_ints_mk (K := X.K) (F := F) (ns.mergeSort fun a b => decide (a ≤ b)))
          exact k _ _ _ (R.grow G) G.ff dd
        · cases no
      · cases e2
    · cases e⟩
end
end DL
namespace DL
open PySem L2 PyProof.Rows PySem.Spec
/-! ### what is raised: classes of the program's own, made with no argument -/
/-- what is known of such a class -/
structure Err (K : PySem.W.Frag) (mg : Str → Option Value) (c : String) (C : Addr) : Prop where
  made : ∃ B newId initId bm, ExcBaseFacts B newId initId bm ∧ PySem.W.excIn K C bm newId = true
  at_ : mg (Str.ofString c) = some (.ref C)
  keep : PySem.W.keepIn K (.ref C) = true
  base : PySem.W.subIn K (.ref C) (.type "BaseException") = some true
  type : PySem.W.typeIn K (.ref C) = some (.type "type")
  self : PySem.W.exmOne K (.ref C) (.ref C) = some true
section
variable {X : Cx} {c : String} {C : Addr} {p pos pos' : Pos}
theorem call_err {pins : List (Addr × Obj)} {σ : L2.St} {H : Hp} {s : Shared} {Q : XK} (T : Err X.K X.mg c C) (I : Inv X pins σ H s) (q : Q (.ref C) none H) : wpAny (model X.prog X.w) X.A (call (.ref C) []) (MkP X pins σ Q) X.xe s := by
  obtain ⟨_, _, _, _, F, ex⟩ := T.made
  have cls := exc_obj I.kIn ex
  obtain ⟨_, _, _, _, _, _, _, _, _, _, _, _, _, _, _, _, _, there, names, bare, tail⟩ := cls
  exact wpAny_call_exc_subT F tail there names bare (fun _ _ new => mk_of I new (raises_own T.base T.type) q (I.hok.gone new.new)) (Nat.zero_le _)
theorem pmk_err (T : Err X.K X.mg c C) (hg : Gl X (Str.ofString c)) (hdb : (Str.ofString c == ("__debug__" : Str)) = false) : PMk X (.Call (.Name (Str.ofString c) p) [] [] pos) (fun _ H Q => Q (.ref C) none H) :=
  fun pins s σ H Q I q => wpAny_Call_Name_kw (ld_glob I hg T.at_ (PySem.W.callWith_K0 I.kIn T.keep (call_err T I q)) hdb)
/-- what is wished of what a def lets out -/
def Let (mg : Str → Option Value) (E : XK) (c : String) (H : Hp) : Prop := ∀ C, mg (Str.ofString c) = some (.ref C) → E (.ref C) none H
theorem ss_raise {E : XK} (hc : X.calm = true) (tk : Takes X fun cls d _ H => E cls d H) (T : Err X.K X.mg c C) (hg : Gl X (Str.ofString c)) (hdb : (Str.ofString c == ("__debug__" : Str)) = false) :
    SS X (Let X.mg E) (.Raise (some (.Call (.Name (Str.ofString c) p) [] [] pos)) none pos') (exM c) :=
  ⟨ps_imp (ps_raise hc tk (pmk_err T hg hdb)) fun D s H ⟨z, r, F, o, R, e, k⟩ => by cases e; exact k _ _ _ R (.refl _) C T.at_⟩
end
/-! ### a def that may raise -/
def runX (N : List Str) (body : SM) (ds : List D) : Option (Except String D) := match body (startD N ds) with
  | some (.rt d _) => some (.ok d)
  | some (.nx _) => some (.ok .none)
  | some (.ex c _) => some (.error c)
  | _ => none
def spX (K : PySem.W.Frag) (mg : Str → Option Value) (n : Nat) (g : List D → Option (Except String D)) : Sp := fun vs H Q E => vs.length = n ∧ ∃ F ds o, SubH F H ∧ DpAll K F vs ds ∧ g ds = some o ∧ ∀ H' F', Grow F H F' H' →
  (∀ d v, o = .ok d → Dp K F' v d → Q v H') ∧ ∀ c, o = .error c → Let mg E c H'
section
variable {P : Program} {w : World} {K : PySem.W.Frag} {mg : Str → Option Value} {base : Heap}
theorem fn_runX {x qual : Str} {st : Stmt} {f : Addr} {fd : FuncData} {N ps : List Str} {k : Nat} {body : SM} (F : Fun K x qual st f fd) (S : FnScope N ps (defScope st))
    (hb : ∀ (cdv : Value) (A : Around) (outer : List Env) (s : Shared) (H : Hp) (E : XK), Room k (A.deeper (envOfC qual (defScope st) s.heap.objs.size f cdv)) →
      SSs (cxOf (L2.CX P w) P w K mg base N qual (defScope st) f cdv A outer s H E) (Let mg E) (defBody st) body) : FnOk P w K mg base (L2.CX P w) (k + 1) f fd ps (spX K mg ps.length (runX N body)) := by
  refine F.okX S (fun vs H Q E h => h.1) fun cdv A outer s H vs Q E hr h => ⟨_, (hb cdv A outer s H E hr).ps, ?_⟩
  obtain ⟨hlen, F0, ds, o, sb, dv, e, q⟩ := h
  have fit := names_fit S
  have gr : ∀ {r' : Rho} {s' : L2.St} {H' F' : Hp}, Rep K ⟨H, F0, fun _ => none⟩ r' s' H' F' → Grow F0 H F' H' := fun R' => ⟨R'.f0, R'.old, R'.fh, R'.nw⟩
  unfold runX at e
  refine ⟨⟨H, F0, fun _ => none⟩, startD N ds, F0, ?_⟩
  have R := rep_start (N := N) sb dv (by omega)
  split at e
  · rename_i d r' h; cases e
    exact ⟨_, R, h, fun v s' H' F' R' _ dd => (q _ _ (gr R')).1 _ _ rfl dd⟩
  · rename_i r' h; cases e
    exact ⟨_, R, h, fun s' H' F' R' _ => (q _ _ (gr R')).1 _ _ rfl .non⟩
  · rename_i c r' h; cases e
    exact ⟨_, R, h, fun s' H' F' R' _ => (q _ _ (gr R')).2 _ rfl⟩
  · cases e
end
/-! ### x = f(..) in a try with one clause -/
end DL
namespace DL
open PySem L2 PyProof.Rows PySem.Spec
/-! ### tuple(range(n)), list(range(n)) -/
end DL
/-! slots that are forgotten; a, b = x, y -/
namespace DL
open PySem L2
section
variable {X : Cx} {W : String → Hp → Prop} {a b c e : Expr} {st : Stmt} {sts : List Stmt} {f g : SM} {pos : Pos}
theorem Rep.forget {K : PySem.W.Frag} {z : Fx} {r : Rho} {s : L2.St} {H F : Hp} (R : Rep K z r s H F) (is : List Nat) : Rep K z (wipeR r is) s H F :=
  R.weaken (by rw [wipeR_length, R.len]) fun j sv e => ⟨(wipeR_get e).1, fun _ h => h⟩
def wipO (is : List Nat) : Out → Out
  | .nx r => .nx (wipeR r is)
  | .ct r => .ct (wipeR r is)
  | .bk r => .bk (wipeR r is)
  | o => o
/-- what was in some slots is forgotten at the end -/
def wipM (is : List Nat) (f : SM) : SM := fun r => (f r).map (wipO is)
theorem wip_core {is : List Nat} {D : Ends} {s : L2.St} {H : Hp} (q : liftS X.K W (wipM is f) D s H) : liftS X.K W f D s H := by
  obtain ⟨z, r, F, o, R, e, k⟩ := q
  unfold wipM at e
  simp only [Option.map_eq_some_iff] at e
  obtain ⟨o1, e1, rfl⟩ := e
  refine ⟨z, r, F, o1, R, e1, ?_⟩
  cases o1 with
  | nx r1 => exact fun s' H' F' R' sb => k s' H' F' (R'.forget is) sb
  | ct r1 => exact fun s' H' F' R' sb => k s' H' F' (R'.forget is) sb
  | bk r1 => exact fun s' H' F' R' sb => k s' H' F' (R'.forget is) sb
  | rt d r1 => exact k
  | ex c r1 => exact k
theorem ss_wip (is : List Nat) (h : SS X W st f) : SS X W st (wipM is f) := ⟨ps_imp h.ps fun D s H q => wip_core q⟩
theorem sss_wip (is : List Nat) (h : SSs X W sts f) : SSs X W sts (wipM is f) := ⟨pss_imp h.ps fun D s H q => wip_core q⟩
/-- .. ahead -/
def preM (is : List Nat) (f : SM) : SM := fun r => f (wipeR r is)
theorem ss_pre (is : List Nat) (h : SS X W st f) : SS X W st (preM is f) := ⟨ps_imp h.ps fun D s H ⟨z, r, F, o, R, e, k⟩ => ⟨z, wipeR r is, F, o, R.forget is, e, k⟩⟩
/-! two stores at once -/
def two (i j : Nat) (r : Rho) : List D → Option Out
  | [d, e] => some (.nx ((r.set i (some (.d d))).set j (some (.d e))))
  | _ => none
/-- the second one a fresh list -/
def parLM (i j : Nat) (f : EM) (g : AM) : SM := fun r => (f r).bind fun p => (g p.2).map fun q => .nx ((q.2.set i (some (.d p.1))).set j (some (.l false q.1)))
theorem ownAt_put {r : Rho} {s : L2.St} {i : Nat} {d : D} {v : V} {p : Addr} {H : Hp} (h : OwnAt (r.set i (some (.d d))) (s.set i (some v)) H p) : OwnAt r s H p := by
  obtain ⟨k, h⟩ := h
  rcases owns_set h with ⟨_, o, _⟩ | ⟨_, h⟩
  · cases o
  · exact ⟨k, h⟩
theorem ss_parL (i j : Nat) {x y : Str} {px py pt : Pos} {kt k2 pt2} {f : EM} {g : AM} (hc : X.calm = true) (hN : X.N.Nodup) (ha : SE X a f) (hb : SL X b g) (hi : X.N[i]? = some x := by rfl) (hj : X.N[j]? = some y := by rfl) (hij : i ≠ j := by decide)
    (hx : X.env.scope.names.lookup x = some .local := by rfl) (hy : X.env.scope.names.lookup y = some .local := by rfl)
    (hw : swappedStores [.Tuple [.Name x px, .Name y py] kt pt] (.Tuple [a, b] k2 pt2) X.env = pure (some [x, y]) := by rfl)
    (hs : swapsWithSole [.Tuple [.Name x px, .Name y py] kt pt] (.Tuple [a, b] k2 pt2) pos.line X.env = pure false := by rfl)
    (he : starEach [a, b] X.env = (false, eval a X.env) :: starEach [b] X.env := by rfl) (he2 : starEach [b] X.env = (false, eval b X.env) :: starEach [] X.env := by rfl) :
    SS X W (.Assign [.Tuple [.Name x px, .Name y py] kt pt] (.Tuple [a, b] k2 pt2) pos) (parLM i j f g) :=
  ⟨ps_imp (ps_par hc hN hi hj hij hx hy (pa_cons ha.pe (pa_cons hb.pe pa_nil he2) he) hw hs) fun D s H ⟨z, r, F, o, R, e, k⟩ => by
    unfold parLM at e
    simp only [Option.bind_eq_some_iff, Option.map_eq_some_iff] at e
    obtain ⟨⟨d, r1⟩, e1, ⟨ds, r2⟩, e2, e3⟩ := e
    cases e3
    refine ⟨z, r, F, d, r1, R, e1, fun v H1 F1 R1 sb1 dv => ⟨z, r1, F1, ds, r2, R1, e2, fun p vs H2 F2 R2 sb2 h1 h2 h3 h4 h5 => ?_⟩⟩
    exact ⟨_, _, rfl, k _ H2 F2 ((R2.put (dp_mono sb2 dv)).putOwn h1 h2 h3 (fun q => h4 (ownAt_put q)) h5) (sb1.trans sb2)⟩⟩
end
end DL
/-! sorted(dict(ps)), len(dict(ps)): ps a list of pairs whose first is an int -/
namespace DL
open PySem L2
end DL
/-! an own list of own lists: filled, its lists grown in a walk, and then let go as a datum -/
namespace DL
open PySem L2
structure LL (K : PySem.W.Frag) (z : Fx) (r : Rho) (s : L2.St) (H F : Hp) (i : Nat) (p : Addr) (as : List Addr) (rows : List (List D)) : Prop where
  here : s[i]? = some (some (.ref p))
  out : H p = some (.lst (as.map V.ref))
  len : as.length = rows.length
  ins : ∀ (k : Nat) (a : Addr) (xs : List D), as[k]? = some a → rows[k]? = some xs → ∃ vs, H a = some (.lst vs) ∧ DpAll K F vs xs
  free : ∀ a ∈ p :: as, F a = none ∧ z.H0 a = none ∧ ¬ OwnAt r s H a
  nd : (p :: as).Nodup
section
variable {K : PySem.W.Frag} {z : Fx} {r r' : Rho} {s s' : L2.St} {H F H' F' : Hp} {i j : Nat} {p : Addr} {as : List Addr} {rows : List (List D)}
theorem LL.there (L : LL K z r s H F i p as rows) {a : Addr} (m : a ∈ as) : ∃ (k : Nat) (vs : List V) (xs : List D), as[k]? = some a ∧ rows[k]? = some xs ∧ H a = some (.lst vs) ∧ DpAll K F vs xs := by
  obtain ⟨k, hk, e⟩ := List.getElem_of_mem m
  have e1 : as[k]? = some a := by rw [List.getElem?_eq_getElem hk, e]
  have hk2 : k < rows.length := by rw [← L.len]; exact hk
  obtain ⟨vs, h1, h2⟩ := L.ins k a rows[k] e1 (List.getElem?_eq_getElem hk2)
  exact ⟨k, vs, _, e1, List.getElem?_eq_getElem hk2, h1, h2⟩
theorem LL.isl (L : LL K z r s H F i p as rows) {a : Addr} (m : a ∈ p :: as) : ∃ vs, H a = some (.lst vs) := by
  rcases List.mem_cons.mp m with rfl | m
  · exact ⟨_, L.out⟩
  · obtain ⟨_, vs, _, _, _, h, _⟩ := L.there m; exact ⟨vs, h⟩
/-- what a step over the bare base leaves -/
theorem LL.kept (L : LL K z r s H F i p as rows) (R : Rep K z r s H F) (R' : Rep K ⟨bare r s H, F, z.rf⟩ r' s' H' F') (hi : s'[i]? = s[i]?) : LL K z r' s' H' F' i p as rows := by
  have key : ∀ a ∈ p :: as, ∀ vs, H a = some (.lst vs) → H' a = some (.lst vs) ∧ F' a = none ∧ ¬ OwnAt r' s' H' a := fun a m vs h =>
    R.loose_kept R' h (L.free a m).1 (L.free a m).2.2 not_tu
  refine ⟨by rw [hi]; exact L.here, (key p (by simp) _ L.out).1, L.len, fun k a xs e1 e2 => ?_, fun a m => ?_, L.nd⟩
  · obtain ⟨vs, h1, h2⟩ := L.ins k a xs e1 e2
    exact ⟨vs, (key a (List.mem_cons_of_mem _ (List.mem_of_getElem? e1)) vs h1).1, dpa_mono R'.f0 h2⟩
  · obtain ⟨vs, h⟩ := L.isl m
    exact ⟨(key a m vs h).2.1, (L.free a m).2.1, (key a m vs h).2.2⟩
theorem LL.grow (L : LL K z r s H F i p as rows) (R : Rep K z r s H F) (G : Grow F H F' H') : LL K z r s H' F' i p as rows := by
  refine ⟨L.here, G.hh _ _ L.out, L.len, fun k a xs e1 e2 => ?_, fun a m => ?_, L.nd⟩
  · obtain ⟨vs, h1, h2⟩ := L.ins k a xs e1 e2
    exact ⟨vs, G.hh _ _ h1, dpa_mono G.ff h2⟩
  · refine ⟨?_, (L.free a m).2.1, fun q => (L.free a m).2.2 (R.ownAtH G.hh q)⟩
    obtain ⟨vs, h⟩ := L.isl m
    cases q : F' a with
    | none => rfl
    | some u =>
      rcases G.nw a u q with h1 | h1 | ⟨ob, ws, rfl⟩
      · rw [(L.free a m).1] at h1; cases h1
      · rw [h] at h1; cases h1
      · have q2 := G.fh a _ q
        rw [G.hh _ _ h] at q2; exact (tupHO_lst q2).elim
theorem wipe_other {s s' : L2.St} {is : List Nat} (h : L2.wipe s' is = L2.wipe s is) (hi : i ∉ is) : s'[i]? = s[i]? := by
  have key : ∀ (s : L2.St) (is : List Nat), i ∉ is → (L2.wipe s is)[i]? = s[i]? := by
    intro s is
    induction is generalizing s with
    | nil => intro _; rfl
    | cons j js ih =>
      intro hn
      simp only [List.mem_cons, not_or] at hn
      show ((L2.wipe s js).set j none)[i]? = _
      rw [List.getElem?_set_ne (Ne.symm hn.1)]
      exact ih s hn.2
  rw [← key s' is hi, ← key s is hi, h]
/-- all of them frozen -/
theorem freeze_all : ∀ (as : List Addr) {F : Hp}, Rep K z r s H F → (∀ a ∈ as, (∃ vs, H a = some (.lst vs)) ∧ F a = none ∧ z.H0 a = none ∧ ¬ OwnAt r s H a) → as.Nodup →
    ∃ F', Rep K z r s H F' ∧ SubH F F' ∧ (∀ a ∈ as, F' a = H a) ∧ ∀ b, b ∉ as → F' b = F b
  | [], F, R, _, _ => ⟨F, R, .refl _, by simp, fun _ _ => rfl⟩
  | a :: as, F, R, h, nd => by
    obtain ⟨⟨vs, h1⟩, h2, h3, h4⟩ := h a (by simp)
    have nd' := List.nodup_cons.mp nd
    have R1 := R.freeze1 h1 h2 h3 h4
    obtain ⟨F2, R2, s2, g1, g2⟩ := freeze_all as R1 (fun b m => by
      obtain ⟨q1, q2, q3, q4⟩ := h b (List.mem_cons_of_mem _ m)
      exact ⟨q1, by
        have ne : b ≠ a := fun e => nd'.1 (e ▸ m)
        rw [upd_ne ne]; exact q2, q3, q4⟩) nd'.2
    refine ⟨F2, R2, (SubH.new h2).trans s2, fun b m => ?_, fun b nb => ?_⟩
    · rcases List.mem_cons.mp m with rfl | m
      · rw [g2 b nd'.1, upd_same, h1]
      · exact g1 b m
    · simp only [List.mem_cons, not_or] at nb
      rw [g2 b nb.2, upd_ne nb.1]
theorem LL.done (L : LL K z r s H F i p as rows) (R : Rep K z r s H F) : ∃ F', Rep K z (r.set i (some (.d (.list (rows.map .list))))) s H F' ∧ SubH F F' := by
  obtain ⟨F2, R2, s2, g1, g2⟩ := freeze_all (p :: as) R (fun a m => ⟨L.isl m, L.free a m⟩) L.nd
  have dp : Dp K F2 (.ref p) (.list (rows.map .list)) := by
    refine .lst (.inl (.inl (by rw [g1 p (by simp)]; exact L.out))) (dpa_of (by simp [L.len]) fun k v d e1 e2 => ?_)
    rw [List.getElem?_map] at e1 e2
    obtain ⟨a, e3, rfl⟩ := Option.map_eq_some_iff.mp e1
    obtain ⟨xs, e4, rfl⟩ := Option.map_eq_some_iff.mp e2
    obtain ⟨vs, h1, h2⟩ := L.ins k a xs e3 e4
    exact .lst (.inl (.inl (by rw [g1 a (List.mem_cons_of_mem _ (List.mem_of_getElem? e3))]; exact h1))) (dpa_mono s2 h2)
  have R3 := R2.put (i := i) dp
  have e : s.set i (some (V.ref p)) = s := by
    have hl := (List.getElem?_eq_some_iff.mp L.here)
    obtain ⟨h1, h2⟩ := hl
    rw [← h2]
    exact List.set_getElem_self h1
  rw [e] at R3
  exact ⟨F2, R3, s2⟩
theorem forget_one (R : Rep K z r s H F) : Rep K z (r.set j none) s H F := R.forget [j]
theorem LL.forget (L : LL K z r s H F i p as rows) : LL K z (r.set j none) s H F i p as rows :=
  ⟨L.here, L.out, L.len, L.ins, fun a m => ⟨(L.free a m).1, (L.free a m).2.1, fun ⟨k, h⟩ => (L.free a m).2.2 ⟨k, (owns_none h).2⟩⟩, L.nd⟩
theorem LL.start (R : Rep K z r s H F) {b : Bool} (h : r[i]? = some (some (.l b []))) : ∃ p, LL K z (r.set i none) s H F i p [] [] := by
  obtain ⟨v, h1, q, vs, rfl, h2, h3, h4, h5, h6⟩ := R.slots i _ h
  cases h5
  refine ⟨q, h1, h2, rfl, fun k a xs e => by simp at e, fun a m => ?_, by simp⟩
  simp only [List.mem_cons, List.not_mem_nil, or_false] at m
  subst m
  exact ⟨h3, h4, fun ⟨k, q⟩ => (owns_none q).1 (R.ap k i a (owns_none q).2 ⟨_, _, h, rfl, h1, part_self⟩)⟩
end
/-! ### statements over it -/
abbrev XM := Rho → List (List D) → Option (Rho × List (List D))
def liftX (K : PySem.W.Frag) (i : Nat) (f : XM) : TS := fun D s H => ∃ z r F p as rows r' rows', Rep K z r s H F ∧ LL K z r s H F i p as rows ∧ f r rows = some (r', rows') ∧
  ∀ s' H' F' as', Rep K z r' s' H' F' → LL K z r' s' H' F' i p as' rows' → SubH F F' → D.nx s' H'
structure SX (X : Cx) (i : Nat) (st : Stmt) (f : XM) : Prop where
  ps : PS X st (liftX X.K i f)
structure SXs (X : Cx) (i : Nat) (sts : List Stmt) (f : XM) : Prop where
  ps : PSs X sts (liftX X.K i f)
/-- a statement that stores nothing -/
abbrev CM := Rho → Option Rho
def liftC (K : PySem.W.Frag) (f : CM) : TS := fun D s H => ∃ z r F r', Rep K z r s H F ∧ f r = some r' ∧ ∀ H' F', Rep K z r' s H' F' → SubH F F' → D.nx s H'
structure SC (X : Cx) (st : Stmt) (f : CM) : Prop where
  ps : PS X st (liftC X.K f)
structure SCs (X : Cx) (sts : List Stmt) (f : CM) : Prop where
  ps : PSs X sts (liftC X.K f)
section
variable {X : Cx} {W : String → Hp → Prop} {a b c e tg : Expr} {st : Stmt} {sts as bs : List Stmt} {pos : Pos} {i j : Nat}
theorem sxs_one {f : XM} (h : SX X i st f) : SXs X i [st] f := ⟨pss_one h.ps⟩
theorem scs_one {f : CM} (h : SC X st f) : SCs X [st] f := ⟨pss_one h.ps⟩
def exprC (f : EM) : CM := fun r => (f r).map (·.2)
theorem sc_expr {f : EM} (he : SE X e f) (hs : swapsWith e none pos.line X.env = pure false := by rfl) : SC X (.Expr e pos) (exprC f) := ⟨ps_imp (ps_expr he.pe hs) fun D s H ⟨z, r, F, r', R, e, k⟩ => by
  obtain ⟨⟨d, r1⟩, e1, e2⟩ := Option.map_eq_some_iff.mp e
  cases e2
  exact ⟨z, r, F, d, r1, R, e1, fun v H' F' R' sb _ => k H' F' R' sb⟩⟩
def ifC (t : TM) (f : CM) : CM := fun r => (t r).bind fun p => if p.1 = true then f p.2 else some p.2
theorem sc_if {t : TM} {f : CM} (hc : ST X c t) (ha : SCs X as f) : SC X (.If c as [] pos) (ifC t f) := ⟨ps_imp (ps_if hc.pt ha.ps pss_nil) fun D s H ⟨z, r, F, r', R, e, k⟩ => by
  obtain ⟨⟨b, r1⟩, e1, e2⟩ := Option.bind_eq_some_iff.mp e
  refine ⟨z, r, F, b, r1, R, e1, fun H1 F1 R1 sb1 => ?_⟩
  cases b with
  | true => exact ⟨z, r1, F1, r', R1, e2, fun H' F' R' sb => k H' F' R' (sb1.trans sb)⟩
  | false => cases e2; exact k H1 F1 R1 sb1⟩
def ifX (t : TM) (f g : XM) : XM := fun r rows => (t r).bind fun p => if p.1 = true then f p.2 rows else g p.2 rows
theorem sx_if {t : TM} {f g : XM} (hc : ST X c t) (ha : SXs X i as f) (hb : SXs X i bs g) : SX X i (.If c as bs pos) (ifX t f g) := ⟨ps_imp (ps_if hc.pt ha.ps hb.ps) fun D s H ⟨z, r, F, p, as, rows, r', rows', R, L, e, k⟩ => by
  obtain ⟨⟨b, r1⟩, e1, e2⟩ := Option.bind_eq_some_iff.mp e
  refine ⟨_, r, F, b, r1, R.base, e1, fun H1 F1 R1 sb1 => ?_⟩
  have L1 := L.kept R R1 rfl
  have R2 := R.back R1
  cases b with
  | true => exact ⟨z, r1, F1, p, as, rows, r', rows', R2, L1, e2, fun s' H' F' as' Ra La sb => k s' H' F' as' Ra La (sb1.trans sb)⟩
  | false => exact ⟨z, r1, F1, p, as, rows, r', rows', R2, L1, e2, fun s' H' F' as' Ra La sb => k s' H' F' as' Ra La (sb1.trans sb)⟩⟩
def forXL (g : GM) (f : XM) : List D → XM
  | [], r, rows => some (r, rows)
  | x :: xs, r, rows => (g r x).bind fun r1 => (f r1 rows).bind fun q => forXL g f xs q.1 q.2
def forX (it : AM) (g : GM) (f : XM) : XM := fun r rows => (it r).bind fun q => forXL g f q.1 q.2 rows
theorem sx_for {pw : Bool} {iter : Expr} {body : List Stmt} {it : AM} {g : GM} {f : XM} {is : List Nat} (hp : PassesOwn (model X.prog X.w) X.A X.env X.xe) (hc : X.calm = true) (hi : SI X pw tg iter it) (hg : SG X pw tg g is) (hb : SXs X i body f) (hni : i ∉ is)
    (hs : ∀ x, foldedSetIterable iter X.env x = pure x := by intro _; rfl) : SX X i (.For tg iter body [] pos) (forX it g f) := ⟨ps_imp (ps_for hp hc hi.pi hg.pg hb.ps hs) fun D s H ⟨z, r, F, p, as, rows, r', rows', R, L, e, k⟩ => by
  obtain ⟨⟨ds, r1⟩, e1, e2⟩ := Option.bind_eq_some_iff.mp e
  refine ⟨_, r, F, ds, r1, R.base, e1, fun J H1 F1 R1 sb1 w => ?_⟩
  obtain ⟨Y, Wk, hY⟩ := w.w
  refine for_it Wk (fun n s H => ∃ r F as rows, Rep X.K z r s H F ∧ LL X.K z r s H F i p as rows ∧ SubH F1 F ∧ forXL g f (ds.drop n) r rows = some (r', rows')) ⟨r1, F1, as, rows, R.back R1, L.kept R R1 rfl, .refl _, by simpa using e2⟩ (fun n s H _ ⟨r, F, as, rows, Rr, _, sb, _⟩ => sb.trans Rr.fh) ?_ ?_
  · rintro n x s2 H2 H3 hn ⟨ra, Fa, asa, rowsa, Ra, La, sba, ec⟩ y
    obtain ⟨Fb, dx, ei, G, dvx⟩ := hY n H2 x H3 y Fa sba Ra.fh
    have Rb := Ra.grow G
    have Lb := La.grow Ra G
    have hdrop : ds.drop n = dx :: ds.drop (n + 1) := by
      have hlt : n < ds.length := (List.getElem?_eq_some_iff.mp ei).1
      rw [List.drop_eq_getElem_cons hlt]
      congr 1
      exact (List.getElem?_eq_some_iff.mp ei).2
    rw [hdrop] at ec
    obtain ⟨rg, eg, ec⟩ := Option.bind_eq_some_iff.mp ec
    obtain ⟨⟨rq, rowsq⟩, eb, ec⟩ := Option.bind_eq_some_iff.mp ec
    refine ⟨_, ra, Fb, dx, rg, Rb.base, dvx, eg, fun s3 hw R3 => ?_⟩
    exact ⟨z, rg, Fb, p, asa, rowsa, rq, rowsq, Rb.back R3, Lb.kept Rb R3 (wipe_other hw hni), eb, fun s4 H4 F4 as4 R4 L4 sb4 => ⟨rq, F4, as4, rowsq, R4, L4, (sba.trans G.ff).trans sb4, ec⟩⟩
  · rintro s2 H2 ⟨ra, Fa, asa, rowsa, Ra, La, sba, ec⟩
    rw [List.drop_length] at ec
    cases ec
    exact k s2 H2 Fa asa Ra La (sb1.trans sba)⟩
/-- found.append([..]) -/
def appX (g : AM) : XM := fun r rows => (g r).bind fun q => if szOk rows.length then some (q.2, rows ++ [q.1]) else none
theorem bare_none {K : PySem.W.Frag} {z : Fx} {r : Rho} {s : L2.St} {H F : Hp} (R : Rep K z r s H F) {q : Addr} (h : bare r s H q = none) : z.H0 q = none := by
  cases e : z.H0 q with
  | none => rfl
  | some o =>
    by_cases ho : OwnAt r s H q
    · rw [(R.own_facts ho).2.2] at e; cases e
    · rw [bare_not ho, R.old q o e] at h; cases h
theorem sx_app {x : Str} {q apos cpos lpos : Pos} {es : List Expr} {g : AM} (hl : SL X (.List es lpos) g) (hs0 : swapsWith (.Call (.Attribute (.Name x q) "append" apos) [.List es lpos] [] cpos) none pos.line X.env = pure false := by rfl) (hN : X.N[i]? = some x := by rfl) (hv : Vis X.env.scope x := by first | exact Or.inl rfl | exact Or.inr (Or.inl rfl) | exact Or.inr (Or.inr rfl)) (hd : (x == ("__debug__" : Str)) = false := by decide)
    (hcd : (x == ("__classdict__" : Str)) = false := by decide) (hb : attributeBase (.Name x q) "append" X.env (eval (.Name x q) X.env) = eval (.Name x q) X.env := by rfl)
    (hk : (((backTo cpos (starEach [.List es lpos] X.env)).all (fun y => !y.1) && (backToKw cpos (keywordEach [] X.env)).all (fun y => y.1.isSome)) && decide (([Expr.List es lpos].length + ([] : List Keyword).length + if ([] : List Keyword).isEmpty then 0 else 1) < 30)) = true := by rfl)
    (hln : (apos.endLine == cpos.line) = true := by rfl) (hs : starEach [.List es lpos] X.env = (false, eval (.List es lpos) X.env) :: starEach [] X.env := by rfl) (hpl : (backTo cpos (starEach [] X.env)).any (·.1) = false := by rfl) :
    SX X i (.Expr (.Call (.Attribute (.Name x q) "append" apos) [.List es lpos] [] cpos) pos) (appX g) :=
  ⟨ps_imp (ps_expr (pe_bm PySem.F.plainAttrs_list PySem.F.slot_list_append PySem.F.type_list_append mt_append (pe_var hN hv hd hcd) (pa_cons hl.pe pa_nil hs) hb hk hln hs hpl) hs0) fun D s H ⟨z, r, F, p, as, rows, r', rows', R, L, e, k⟩ => by
    obtain ⟨⟨xs, r1⟩, e1, e2⟩ := Option.bind_eq_some_iff.mp e
    split at e2
    · rename_i hz
      cases e2
      refine ⟨_, L.here, .inl ⟨rfl, _, .inl (.inl L.out)⟩, _, r, F, xs, r1, R.base, e1, fun n vs H1 F1 R1 sb1 h1 h2 h3 h4 h5 => ?_⟩
      have L1 := L.kept R R1 rfl
      have R2 := R.back R1
      refine ⟨p, as.map V.ref, _, rfl, rfl, L1.out, by rw [List.length_map, L.len]; exact szOk_lt hz, ?_⟩
      have fp := L1.free p (by simp)
      have new : n ∉ p :: as := fun m => by
        have ho := (L.free n m).2.2
        obtain ⟨vs0, h0⟩ := L.isl m
        have h3 : bare r s H n = none := h3
        rw [bare_not ho, h0] at h3; cases h3
      have np : p ≠ n := fun e => new (e ▸ by simp)
      refine k s _ F1 (as ++ [n]) (R2.loosePut fp.1 fp.2.1 fp.2.2) ⟨L1.here, by rw [upd_same]; simp, by simp [L.len], fun m a ys e1 e2 => ?_, fun a m => ?_, ?_⟩ sb1
      · by_cases hm : m < as.length
        · rw [List.getElem?_append_left hm] at e1
          rw [List.getElem?_append_left (by rw [← L.len]; exact hm)] at e2
          obtain ⟨ws, g1, g2⟩ := L1.ins m a ys e1 e2
          have ne : a ≠ p := fun q => (List.nodup_cons.mp L.nd).1 (q ▸ List.mem_of_getElem? e1)
          exact ⟨ws, by rw [upd_ne ne]; exact g1, g2⟩
        · rw [List.getElem?_append_right (by omega)] at e1
          rw [List.getElem?_append_right (by rw [← L.len]; omega)] at e2
          have hm0 : m - as.length = 0 := by
            have := (List.getElem?_eq_some_iff.mp e1).1
            simp at this; omega
          rw [hm0] at e1
          rw [← L.len, hm0] at e2
          cases e1; cases e2
          exact ⟨vs, by rw [upd_ne (Ne.symm np)]; exact h1, h5⟩
      · have m' : a ∈ p :: as ∨ a = n := by
          simp only [List.mem_cons, List.mem_append, List.not_mem_nil, or_false] at m ⊢
          rcases m with m | m | m <;> simp [m]
        rcases m' with m | rfl
        · exact ⟨(L1.free a m).1, (L1.free a m).2.1, fun q => (L1.free a m).2.2 (ownAt_upd fp.2.2 q)⟩
        · exact ⟨h2, bare_none R h3, fun q => h4 (ownAt_upd fp.2.2 q)⟩
      · rw [← List.cons_append]
        refine List.nodup_append.mpr ⟨L.nd, by simp, fun a ma b mb => ?_⟩
        simp only [List.mem_cons, List.not_mem_nil, or_false] at mb
        subst mb
        exact fun e => new (e ▸ ma)
    · cases e2⟩
/-- for group in found: each of its lists an own one for a turn -/
def grpL (j : Nat) (f : CM) : List (List D) → Rho → Option (Rho × List (List D))
  | [], r => some (r, [])
  | xs :: rest, r => (f (r.set j (some (.l false xs)))).bind fun r1 => match r1[j]? with
    | some (some (.l false ys)) => (grpL j f rest (r1.set j none)).map fun q => (q.1, ys :: q.2)
    | _ => none
def grpX (j : Nat) (f : CM) : XM := fun r rows => grpL j f rows (r.set j none)
theorem ownAt_own {r : Rho} {s : L2.St} {H : Hp} {j : Nat} {xs : List D} {vs : List V} {a q : Addr} (ha : H a = some (.lst vs)) (h : OwnAt (r.set j (some (.l false xs))) (s.set j (some (.ref a))) H q) : q = a ∨ OwnAt r s H q := by
  obtain ⟨k, h⟩ := h
  rcases owns_set h with ⟨_, _, a', ea, p⟩ | ⟨_, h⟩
  · cases ea; exact .inl (part_lst ha p)
  · exact .inr ⟨k, h⟩
theorem sx_grp {x y : Str} {q1 q2 : Pos} {body : List Stmt} {f : CM} (hij : i ≠ j) (hp : PassesOwn (model X.prog X.w) X.A X.env X.xe) (hc : X.calm = true) (hN : X.N.Nodup) (hb : SCs X body f) (hi : X.N[i]? = some x := by rfl) (hj : X.N[j]? = some y := by rfl) (hv : Vis X.env.scope x := by first | exact Or.inl rfl | exact Or.inr (Or.inl rfl) | exact Or.inr (Or.inr rfl))
    (hd : (x == ("__debug__" : Str)) = false := by decide) (hcd : (x == ("__classdict__" : Str)) = false := by decide) (hx : Loc X.env.scope y := by first | exact Or.inl rfl | exact Or.inr rfl) (hf : X.fn y = true ∨ X.env.scope.names.lookup y = some .local := by first | exact .inl rfl | exact .inr rfl)
    (hs : ∀ u, foldedSetIterable (.Name x q1) X.env u = pure u := by intro _; rfl) : SX X i (.For (.Name y q2) (.Name x q1) body [] pos) (grpX j f) := ⟨ps_imp (ps_for hp hc (pi_list (pe_var hi hv hd hcd)) (pg_name hN hj hx hf) hb.ps hs) fun D s H ⟨z, r, F, p, as, rows, r', rows', R, L, e, k⟩ => by
  refine ⟨_, L.here, p, rfl, ⟨_, .inl (.inl L.out)⟩, ?_⟩
  have wk := walk_list (K := X.K) (a := p) (xs := as.map V.ref)
  refine for_it wk (fun n s H => ∃ ra Fa done rest rest', Rep X.K z ra s H Fa ∧ LL X.K z ra s H Fa i p as (done ++ rest) ∧ SubH F Fa ∧ grpL j f rest ra = some (r', rest') ∧ done ++ rest' = rows' ∧ done.length = n)
    ⟨r.set j none, F, [], rows, rows', forget_one R, L.forget, .refl _, e, rfl, rfl⟩ (fun n s H _ ⟨ra, Fa, done, rest, rest', _, L, _⟩ => .inl (.inl L.out)) ?_ ?_
  · rintro n v s2 H2 H3 hn ⟨ra, Fa, done, rest, rest', Ra, La, sba, ec, er, hd⟩ ⟨rfl, hv⟩
    rw [List.length_map] at hn
    rw [List.getElem?_map] at hv
    obtain ⟨a, ha, rfl⟩ := Option.map_eq_some_iff.mp hv
    have hlen := La.len
    rw [List.length_append] at hlen
    cases rest with
    | nil => simp at hlen; omega
    | cons xs rest =>
      have ex : (done ++ xs :: rest)[n]? = some xs := by rw [List.getElem?_append_right (by omega), hd]; simp
      obtain ⟨vs, h1, h2⟩ := La.ins n a xs ha ex
      have ma : a ∈ p :: as := List.mem_cons_of_mem _ (List.mem_of_getElem? ha)
      obtain ⟨f1, f2, f3⟩ := La.free a ma
      have R1 := Ra.putOwn (i := j) h1 f1 f2 f3 h2
      obtain ⟨r2, e1, e2⟩ := Option.bind_eq_some_iff.mp ec
      split at e2
      · rename_i ys hys
        obtain ⟨⟨r3, zs⟩, e3, e4⟩ := Option.map_eq_some_iff.mp e2
        cases e4
        refine ⟨_, _, Fa, r2, R1.base, e1, fun H4 F4 R2 sb2 => ?_⟩
        have kept : ∀ b ∈ p :: as, b ≠ a → ∀ us, H3 b = some (.lst us) → H4 b = some (.lst us) ∧ F4 b = none ∧ ¬ OwnAt r2 (s2.set j (some (.ref a))) H4 b := fun b mb ne us hb =>
          R1.loose_kept R2 hb (La.free b mb).1 (fun q => (ownAt_own h1 q).elim ne (La.free b mb).2.2) not_tu
        have jl : j < s2.length := by
          have := (List.getElem?_eq_some_iff.mp hys).1
          have := R2.len
          simp at this
          omega
        obtain ⟨v, g1, a', us, rfl, g2, g3, g4, g5, g6⟩ := R2.slots j _ hys
        have ea : a' = a := by
          rw [List.getElem?_set_self jl] at g1
          cases g1; rfl
        subst ea
        have pa : p ≠ a' := fun q => (List.nodup_cons.mp La.nd).1 (q ▸ List.mem_of_getElem? ha)
        refine ⟨r2.set j none, F4, done ++ [ys], rest, zs, forget_one (R1.back R2), ⟨?_, (kept p (by simp) pa _ La.out).1, by simp at hlen ⊢; omega, fun m b ws e5 e6 => ?_, fun b mb => ?_, La.nd⟩, sba.trans sb2, e3, by rw [← er]; simp, by simp [hd]⟩
        · rw [List.getElem?_set_ne (Ne.symm hij)]; exact La.here
        · by_cases em : m = n
          · subst em
            rw [ha] at e5; cases e5
            rw [List.append_assoc, List.getElem?_append_right (by omega), hd] at e6
            simp at e6
            subst e6
            exact ⟨us, g2, g5⟩
          · have nb : b ≠ a' := fun q => by
              subst q
              obtain ⟨l1, q1⟩ := List.getElem?_eq_some_iff.mp e5
              obtain ⟨l2, q2⟩ := List.getElem?_eq_some_iff.mp ha
              exact em ((List.getElem_inj (List.nodup_cons.mp La.nd).2).mp (q1.trans q2.symm))
            have e7 : (done ++ xs :: rest)[m]? = some ws := by
              rw [List.append_assoc] at e6
              rcases Nat.lt_or_ge m done.length with l | l
              · rw [List.getElem?_append_left l] at e6 ⊢; exact e6
              · rw [List.getElem?_append_right l] at e6 ⊢
                obtain ⟨t, ht⟩ : ∃ t, m - done.length = t + 1 := ⟨m - done.length - 1, by omega⟩
                rw [ht] at e6 ⊢
                simpa using e6
            obtain ⟨us', h3, h4⟩ := La.ins m b ws e5 e7
            exact ⟨us', (kept b (List.mem_cons_of_mem _ (List.mem_of_getElem? e5)) nb _ h3).1, dpa_mono sb2 h4⟩
        · by_cases eb : b = a'
          · subst eb
            exact ⟨g3, f2, fun ⟨m, q⟩ => (owns_none q).1 (R2.ap m j b (owns_none q).2 ⟨_, _, hys, rfl, g1, part_self⟩)⟩
          · obtain ⟨us', hb'⟩ := La.isl mb
            obtain ⟨k1, k2, k3⟩ := kept b mb eb us' hb'
            exact ⟨k2, (La.free b mb).2.1, fun ⟨m, q⟩ => k3 ⟨m, (owns_none q).2⟩⟩
      · cases e2
  · rintro s2 H2 ⟨ra, Fa, done, rest, rest', Ra, La, sba, ec, er, hd⟩
    have hlen := La.len
    rw [List.length_append] at hlen
    rw [List.length_map] at hd
    cases rest with
    | cons xs rest => simp at hlen; omega
    | nil =>
      cases ec
      rw [List.append_nil] at er La
      subst er
      exact k s2 H2 Fa as Ra La sba⟩
/-- in and out -/
def llM (i : Nat) (f : XM) : SM := fun r => match r[i]? with
  | some (some (.l false [])) => (f (r.set i none) []).map fun q => .nx (q.1.set i (some (.d (.list (q.2.map .list)))))
  | _ => none
theorem ss_ll (i : Nat) {f : XM} (h : SX X i st f) : SS X W st (llM i f) := ⟨ps_imp h.ps fun D s H ⟨z, r, F, o, R, e, k⟩ => by
  unfold llM at e
  split at e
  · rename_i hi
    obtain ⟨⟨r1, rows⟩, e1, e2⟩ := Option.map_eq_some_iff.mp e
    cases e2
    obtain ⟨p, L⟩ := LL.start R hi
    refine ⟨z, _, F, p, [], [], r1, rows, forget_one R, L, e1, fun s' H' F' as' R' L' sb => ?_⟩
    obtain ⟨F2, R2, s2⟩ := L'.done R'
    exact k s' H' F2 R2 (sb.trans s2)
  · cases e⟩
end
end DL
/-! xs.count(x) of a list; forgotten slots ahead of a list of lists -/
namespace DL
open PySem L2 PyProof.Rows PySem.Spec
section
variable {X : Cx} {W : String → Hp → Prop} {st : Stmt} {sts : List Stmt} {i : Nat} {f : XM}
def wipX (is : List Nat) (f : XM) : XM := fun r rows => (f r rows).map fun q => (wipeR q.1 is, q.2)
theorem LL.forgets {K : PySem.W.Frag} {z : Fx} {r : Rho} {s : L2.St} {H F : Hp} {p : Addr} {as : List Addr} {rows : List (List D)} : ∀ (is : List Nat), LL K z r s H F i p as rows → LL K z (wipeR r is) s H F i p as rows
  | [], L => L
  | _ :: is, L => (LL.forgets is L).forget
theorem sxs_wip (is : List Nat) (h : SXs X i sts f) : SXs X i sts (wipX is f) := ⟨pss_imp h.ps fun D s H ⟨z, r, F, p, as, rows, r', rows', R, L, e, k⟩ => by
  obtain ⟨⟨r1, rows1⟩, e1, e2⟩ := Option.map_eq_some_iff.mp e
  cases e2
  exact ⟨z, r, F, p, as, rows, r1, rows1, R, L, e1, fun s' H' F' as' R' L' sb => k s' H' F' as' (R'.forget is) (L'.forgets is) sb⟩⟩
end
end DL
/-! all(t), any(t) of a tuple of truths -/
namespace DL
open PySem L2
def allT : D → Option D
  | .tuple ds => (blsOf ds).map fun bs => .bool (bs.all id)
  | _ => none
theorem plain_bls : ∀ bs : List Bool, PyData.plainAll (bs.map PyData.bool) = true
  | [] => rfl
  | b :: bs => by rw [List.map_cons, PyData.plainAll, plain_bls bs]; rfl
section
variable {X : Cx}
theorem cr_allT (hc : X.calm = true) : CallR X (.builtin "all") (liftC1 X.K allT) := by
  intro pins s σ H vs us Q I r h
  obtain ⟨F, x, d, o, rfl, sb, dx, eo, k⟩ := h
  cases d with
  | tuple ds =>
    obtain ⟨bs, e1, rfl⟩ := Option.map_eq_some_iff.mp eo
    cases blsOf_some e1
    cases r with
    | cons rx t =>
      cases t
      obtain ⟨as, row⟩ := L2.Dp.reads I _ _ _ (dp_old (dx.dp sb)) rx
      cases row with
      | tuple stands isT isS items =>
        refine PySem.W.all_tuple_data (I.ok.hd hc) ⟨_, stands, isT, _, isS⟩ items (plain_bls bs) (fun x m => ?_) fun h' tk hk => ⟨.bl (bs.all id), H, I.kept hk, ?_, k _ H F (.refl sb) (.bl _)⟩
        · obtain ⟨b, _, rfl⟩ := List.mem_map.mp m
          trivial
        · show Value.bool _ = Value.bool _
          rw [List.all_map]; rfl
  | _ => cases eo
end
end DL
/-! t * n of a tuple that has something -/
namespace DL
open PySem L2 PyProof.Rows PySem.Spec
end DL
/-! return f(..) in a try with one clause; a, b, c = x, y, z -/
namespace DL
open PySem L2
end DL
/-! range(i, j, -1) -/
namespace DL
open PySem L2
end DL
/-! d[k] of an own dict -/
namespace DL
open PySem L2
end DL
/-! t > u of tuples -/
namespace DL
open PySem L2 PyProof.Rows PySem.SeqAt
section
variable {X : Cx}
def gtD : D → D → Option Bool
  | .int i, .int j => some (decide (j < i))
  | .tuple xs, .tuple ys => if (PySem.W.alike (.tuple xs) (.tuple ys) && decide (PyData.depth (.tuple xs) ≤ 60)) = true then some (PySem.W.dataLt (.tuple ys) (.tuple xs)) else none
  | _, _ => none
theorem or_gtD (hu : X.A.units + 64 < cLine) : OpR X (compareOp .Gt) (liftO X.K (bD gtD)) := by
  intro pins s σ H x y v u Q I rx ry h
  obtain ⟨F, d, e, o, sb, dx, dy, eo, k⟩ := h
  obtain ⟨bb, e9, rfl⟩ := bD_some eo
  unfold gtD at e9
  split at e9
  · cases e9
    cases dv_int dx; cases dv_int dy
    exact op_gt pins s σ H _ _ v u Q I rx ry ⟨_, _, rfl, rfl, k _ H F (.refl sb) (.bl _)⟩
  · split at e9
    · rename_i xs ys c
      cases e9
      rw [Bool.and_eq_true, decide_eq_true_eq] at c
      obtain ⟨as, ra⟩ := L2.Dp.reads I _ _ _ (dp_old (dx.dp sb)) rx
      obtain ⟨bs, rb⟩ := L2.Dp.reads I _ _ _ (dp_old (dy.dp sb)) ry
      have := PySem.W.rcGt_alike _ _ X.A s v u as bs ra rb c.1 (by simp) (Nat.lt_of_le_of_lt (Nat.add_le_add_left (Nat.le_trans (Nat.min_le_left _ _) (Nat.le_trans c.2 (by omega : 60 ≤ 64))) _) hu) X.prog X.w X.xe (EP X pins σ Q) ⟨.bl _, H, I, rfl, k _ H F (.refl sb) (.bl _)⟩
      exact this
    · cases e9
  · cases e9
end
end DL
/-! set(t), t a tuple -/
namespace DL
open PySem L2 PySem.Spec PyProof.Rows PySem.SeqAt
section
variable {P : Program} {w : World} {A : Around} {E : Value → Shared → Prop}
/-- a set that was just made -/
abbrev newSet (w : World) : Obj := { cls := .type "set", dict := none, data := .set #[] 0 (.fresh 0 0 (!w.params.followText "set-order")) }
end
end DL
/-! sorted(set(t)), t a tuple of pairs -/
namespace DL
open PySem L2 PyProof.Rows PySem.Spec
end DL
namespace DL
open PySem L2 PyProof.Rows PySem.Spec
end DL
/-! dict(ps), ps a list of pairs whose first is a flat tuple -/
namespace DL
open PySem L2
end DL
/-! sorted(dict(ps)): ps a list of pairs whose first is a flat tuple -/
namespace DL
open PySem L2
end DL
/-! sorted(dict(ps)): the keys ints, or flat tuples -/
namespace DL
open PySem L2
end DL
/-! x = dict(pairs), the keys flat tuples: an own dict -/
namespace DL
open PySem L2
end DL
/-! sum(rows, []), rows a list of lists -/
namespace DL
open PySem L2 PySem.Spec PyProof.Rows
end DL
/-! sum(rows, []) as an expression -/
namespace DL
open PySem L2 PySem.Spec PyProof.Rows
section
variable {X : Cx} {a b : Expr} {f g : EM} {pos : Pos}
theorem vals_len : ∀ {xs : List V} {us : List Value}, Vals xs us → xs.length = us.length
  | _, _, .nil => rfl
  | _, _, .cons _ t => by rw [List.length_cons, List.length_cons, vals_len t]
end
end DL
/-! str(n) -/
namespace DL
open PySem L2
def strD : D → Option D
  | .int i => if i.natAbs.log2 < 1920 then some (.str (toString i)) else none
  | _ => none
section
variable {X : Cx}
theorem cr_str : CallR X (.type "str") (liftC1 X.K strD) := by
  intro pins s σ H vs us Q I r h
  obtain ⟨F, x, d, o, rfl, sb, dx, eo, k⟩ := h
  unfold strD at eo
  split at eo
  · split at eo
    · rename_i small
      cases eo
      cases dv_int dx
      exact call_str_int pins s σ H _ us Q I r ⟨_, rfl, small, k _ H F (.refl sb) (.str _)⟩
    · cases eo
  · cases eo
end
end DL
/-! t * 2, t maybe empty -/
namespace DL
open PySem L2 PyProof.Rows PySem.Spec
end DL
/-! sets of tuples whose items are of any flat kind -/
namespace DL
open PySem L2 PySem.Spec PyProof.Rows PySem.SeqAt
section
variable {P : Program} {w : World} {A : Around} {E : Value → Shared → Prop} {s : Shared} {K : Type} [DecidableEq K] {knd : PySem.KeyKind P w K}
/-! the set -/
abbrev hsh (knd : PySem.KeyKind P w K) (k : List K) : Int := tupleKeyHash knd k
abbrev ent (knd : PySem.KeyKind P w K) (p : Addr × List K) : Int × Value := (hsh knd p.2, Value.ref p.1)
/-- L: what is in the set at S, in the table's order -/
structure TSet (knd : PySem.KeyKind P w K) (h : Heap) (S : Addr) (L : List (Addr × List K)) (es : Array (Int × Value)) (ep : Nat) (t : SetTable) : Prop where
  at_ : ∃ o, h.get? S = some o ∧ o.ExactSet ∧ o.data = .set es ep t
  es_ : es.toList = L.map (ent knd)
  tab : TabOk t (L.map fun p => hsh knd p.2)
  one : (L.map Prod.snd).Nodup
  tup : ∀ p ∈ L, IsTupleKey knd h p.2 p.1
  pln : t.plain = true
  led : w.params.followText "set-order" = true ∨ t.led = true
  free : L.length * 5 < t.mask * 3
  few : L.length < 64
end
end DL
/-! sets of tuples: adding -/
namespace DL
open PySem L2 PySem.Spec PyProof.Rows PySem.SeqAt
section
variable {P : Program} {w : World} {A : Around} {E : Value → Shared → Prop} {s : Shared} {K : Type} [DecidableEq K] {knd : PySem.KeyKind P w K}
variable {S : Addr} {L : List (Addr × List K)} {es : Array (Int × Value)} {ep : Nat} {t : SetTable}
theorem TSet.fresh {h : Heap} (at_ : h.get? S = some (newSet w)) : TSet knd h S [] #[] 0 (.fresh 0 0 (!w.params.followText "set-order")) where
  at_ := ⟨_, at_, ⟨rfl, rfl, rfl⟩, rfl⟩
  es_ := rfl
  tab := ⟨List.Pairwise.nil, rfl, rfl, .inl rfl, (by intro x m; cases m), (by intro i h j q; simp at q)⟩
  one := List.nodup_nil
  tup := by intro p m; cases m
  pln := rfl
  led := by
    show _ ∨ (!w.params.followText "set-order") = true
    cases w.params.followText "set-order"
    · exact .inr rfl
    · exact .inl rfl
  free := by show 0 * 5 < 7 * 3; decide
  few := by show 0 < 64; decide
end
end DL
/-! len(set(words)), words a list of tuples of truths -/
namespace DL
open PySem L2 PySem.Spec PyProof.Rows PySem.SeqAt
/-! each thing once -/
def once {α : Type} [DecidableEq α] : List α → List α
  | [] => []
  | x :: xs => if x ∈ once xs then once xs else x :: once xs
section
variable {P : Program} {w : World} {A : Around} {E : Value → Shared → Prop} {K : Type} [DecidableEq K] {knd : PySem.KeyKind P w K}
/-- what the set has of the first i words -/
structure Has (ks : List (Addr × List K)) (i : Nat) (L : List (Addr × List K)) : Prop where
  sub : ∀ p ∈ L, p ∈ ks.take i
  all : ∀ p ∈ ks.take i, p.2 ∈ L.map Prod.snd
  len : L.length ≤ i
theorem Has.next {ks L L' : List (Addr × List K)} {i : Nat} {x : Addr × List K} (h : Has ks i L) (at_ : ks[i]? = some x) (c1 : x.2 ∈ L.map Prod.snd → L' = L) (c2 : x.2 ∉ L.map Prod.snd → L'.Perm (x :: L)) : Has ks (i + 1) L' := by
  have tk : ks.take (i + 1) = ks.take i ++ [x] := by rw [List.take_add_one, at_]; rfl
  by_cases q : x.2 ∈ L.map Prod.snd
  · rw [c1 q]
    refine ⟨fun p m => by rw [tk]; exact List.mem_append_left _ (h.sub p m), fun p m => ?_, Nat.le_succ_of_le h.len⟩
    rw [tk, List.mem_append, List.mem_singleton] at m
    rcases m with m | rfl
    · exact h.all p m
    · exact q
  · have pm := c2 q
    refine ⟨fun p m => ?_, fun p m => ?_, by rw [pm.length_eq, List.length_cons]; exact Nat.succ_le_succ h.len⟩
    · rw [tk, List.mem_append, List.mem_singleton]
      rcases List.mem_cons.mp (pm.mem_iff.mp m) with rfl | m
      · exact .inr rfl
      · exact .inl (h.sub p m)
    · rw [(pm.map Prod.snd).mem_iff, List.map_cons, List.mem_cons]
      rw [tk, List.mem_append, List.mem_singleton] at m
      rcases m with m | rfl
      · exact .inr (h.all p m)
      · exact .inl rfl
theorem TSet.keeps {h h' : Heap} {S : Addr} {L : List (Addr × List K)} {es : Array (Int × Value)} {ep : Nat} {t : SetTable} (T : TSet knd h S L es ep t) (k1 : ∀ o, h.get? S = some o → h'.get? S = some o) (k2 : ∀ p ∈ L, IsTupleKey knd h' p.2 p.1) : TSet knd h' S L es ep t := by
  obtain ⟨o, g, r⟩ := T.at_
  exact ⟨⟨o, k1 o g, r⟩, T.es_, T.tab, T.one, k2, T.pln, T.led, T.free, T.few⟩
end
/-! truths -/
end DL
/-! list(x) as a new list; a, b = xs, ys, both new lists -/
namespace DL
open PySem L2
def lisM (f : EM) : AM := fun r => (f r).bind fun p => (itemsOf p.1).map fun ds => (ds, p.2)
section
variable {X : Cx} {W : String → Hp → Prop} {a b : Expr} {pos : Pos}
theorem sl_list {p : Pos} {f : EM} (hg : Gl X "list") (hm : X.mg "list" = none) (ha : SE X a f) (b1 : bootBuiltins "list" = some (.type "list") := by decide +kernel) (star : starEach [a] X.env = [(false, eval a X.env)] := by rfl) :
    SL X (.Call (.Name "list" p) [a] [] pos) (lisM f) :=
  ⟨pe_imp (pe_callTy call_list_of hg hm b1 (pa_cons ha.pe pa_nil star) (by decide) (by decide) star rfl) fun s H Q ⟨z, r, F, d, r', R, e, k⟩ => by
    obtain ⟨⟨x, r1⟩, e1, e2⟩ := Option.bind_eq_some_iff.mp e
    obtain ⟨ds, e3, e4⟩ := Option.map_eq_some_iff.mp e2
    cases e4
    refine ⟨z, r, F, x, r1, R, e1, fun v H1 F1 R1 sb dv => ?_⟩
    cases x with
    | list row =>
      cases e3
      obtain ⟨t, vs, rfl, at_, each⟩ := dv.inv
      refine ⟨t, vs, rfl, .inl (R1.fh.sql at_), fun b new => ?_⟩
      obtain ⟨R2, g1, g2, g3, g4⟩ := R1.loose (vs := vs) new
      exact k b _ _ F1 R2 sb g1 g2 g3 g4 each
    | tuple row =>
      cases e3
      obtain ⟨t, vs, rfl, at_, each⟩ := dv.inv
      refine ⟨t, vs, rfl, .inr (R1.fh.sqt (sqt_of at_)), fun b new => ?_⟩
      obtain ⟨R2, g1, g2, g3, g4⟩ := R1.loose (vs := vs) new
      exact k b _ _ F1 R2 sb g1 g2 g3 g4 each
    | _ => cases e3⟩
end
end DL
/-! tuple(range(a, b)) -/
namespace DL
open PySem L2 PyProof.Rows PySem.Spec
end DL
/-! min(xs), xs a list of data that are alike -/
namespace DL
open PySem L2 PySem.Spec PyProof.Rows
/-- the lesser, the first one of several -/
def lesser (m x : D) : D := if PySem.W.dataLt x m = true then x else m
section
variable {P : Program} {w : World} {A : Around} {E : Value → Shared → Prop}
theorem mm_rows {h : Heap} : ∀ {vs : List Value} {ds : List D}, vs.length = ds.length → (∀ (i : Nat) v d, vs[i]? = some v → ds[i]? = some d → ∃ as, Reads h v d as) → ∃ as, ReadsAll h vs ds as
  | [], [], _, _ => ⟨_, .nil⟩
  | [], _ :: _, l, _ => by cases l
  | _ :: _, [], l, _ => by cases l
  | v :: vs, d :: ds, l, f => by
    obtain ⟨as, r⟩ := f 0 v d rfl rfl
    obtain ⟨bs, rs⟩ := mm_rows (vs := vs) (ds := ds) (Nat.succ.inj l) fun i u e a b => f (i + 1) u e a b
    exact ⟨_, .cons r rs⟩
theorem mm_depths {n : Nat} : ∀ {ds : List D}, (∀ d ∈ ds, d.depth ≤ n) → PyData.depthAll ds ≤ n
  | [], _ => Nat.zero_le _
  | d :: ds, f => Nat.max_le.mpr ⟨f d List.mem_cons_self, mm_depths fun e m => f e (List.mem_cons_of_mem _ m)⟩
theorem call_min_list {s : Shared} {l : Addr} {items : Array Value} {d : D} {ds : List D} {Q : Value → Shared → Prop} (hh : A.handled = none) (hl : s.heap.IsList l items) (len : items.size = (d :: ds).length)
    (reads : ∀ (i : Nat) v e, items[i]? = some v → (d :: ds)[i]? = some e → ∃ as, Reads s.heap v e as) (al : ∀ x ∈ d :: ds, ∀ y ∈ d :: ds, PySem.W.alike x y = true) (nn : ∀ x ∈ d :: ds, x ≠ .none) (dep : ∀ x ∈ d :: ds, x.depth ≤ 60) (hu : A.units + 64 < cLine)
    (h : ∀ (h' : Heap) (tk : Nat) (b : Nat) (v : Value), items[b]? = some v → (d :: ds)[b]? = some (ds.foldl lesser d) → (∀ b o, s.heap.get? b = some o → h'.get? b = some o) → Q v { s with heap := h', toks := tk }) :
    wpAny (model P w) A (call (.builtin "min") [.ref l]) Q E s := by
  obtain ⟨as, rs⟩ := mm_rows (vs := items.toList) (by simpa using len) fun i v e hv he => reads i v e (by simpa using hv) he
  have d60 := mm_depths dep
  refine PySem.W.min_list_data hh hl rs ⟨al, nn⟩ (by omega) fun i v h' tk bs hv rm keeps => ?_
  have il : i < items.size := by
    cases Nat.lt_or_ge i items.size with
    | inl q => exact q
    | inr q => rw [Array.getElem?_eq_none q] at hv; cases hv
  obtain ⟨e, he⟩ : ∃ e, (d :: ds)[i]? = some e := ⟨_, List.getElem?_eq_getElem (by omega)⟩
  obtain ⟨cs, re⟩ := reads i v e hv he
  obtain ⟨q, _⟩ := PySem.Reads.unique (PyProof.Rows.Reads.keeps keeps re) _ _ rm
  exact h h' tk i v hv (he.trans (congrArg some q)) keeps
end
end DL
/-! min(xs) as an expression -/
namespace DL
open PySem L2 PySem.Spec PyProof.Rows
def minOk (ds : List D) : Bool := (ds.all fun d => ds.all fun e => PySem.W.alike d e) && ds.all fun d => (match d with | .none => false | _ => true) && decide (d.depth ≤ 60)
def minV : D → Option D
  | .list (d :: ds) => if minOk (d :: ds) = true then some (ds.foldl lesser d) else none
  | _ => none
section
variable {X : Cx}
theorem vals_at : ∀ {vs : List V} {us : List Value} {i : Nat} {u : Value}, Vals vs us → us[i]? = some u → ∃ v, vs[i]? = some v ∧ RelV v u
  | _, _, 0, _, .cons x _, h => by cases h; exact ⟨_, rfl, x⟩
  | _, _, i + 1, _, .cons _ t, h => vals_at (i := i) t h
  | _, _, _, _, .nil, h => by simp at h
theorem paired_at {α β : Type} {R : α → β → Prop} : ∀ {xs : List α} {ys : List β} {i : Nat} {x : α} {y : β}, Paired R xs ys → xs[i]? = some x → ys[i]? = some y → R x y
  | _, _, 0, _, _, .cons r _, h1, h2 => by cases h1; cases h2; exact r
  | _, _, i + 1, _, _, .cons _ t, h1, h2 => paired_at (i := i) t h1 h2
  | _, _, _, _, _, .nil, h, _ => by simp at h
theorem cr_minL (calm : X.calm = true) (hu : X.A.units + 64 < cLine) : CallR X (.builtin "min") (liftC1 X.K minV) := by
  rintro pins s σ H vs us Q I rel ⟨F, x, dd, o, rfl, sb, dx, eo, k⟩
  unfold minV at eo
  split at eo
  · rename_i d ds
    split at eo
    · rename_i ok
      cases eo
      obtain ⟨u, rfl, ru⟩ := vals1 rel
      obtain ⟨a, xs, rfl, lst, each⟩ := dv_lst sb dx
      cases ru
      obtain ⟨its, vals, ⟨o1, n1, g1, t1, _, d1⟩, _⟩ := I.list lst
      unfold minOk at ok
      rw [Bool.and_eq_true, List.all_eq_true, List.all_eq_true] at ok
      obtain ⟨ok1, ok2⟩ := ok
      have len : its.toArray.size = (d :: ds).length := by
        rw [List.size_toArray, ← vals_len vals, dpa_len each]
      have get : ∀ (i : Nat) v, its.toArray[i]? = some v → its[i]? = some v := fun i v h => by simpa using h
      refine call_min_list (I.ok.hd calm) ⟨o1, g1, by assumption, n1, by assumption⟩ len (fun i v e hv he => ?_) (fun x mx y my => List.all_eq_true.mp (ok1 x mx) y my) (fun x mx => ?_) (fun x mx => ?_) (by omega) fun h' tk b v hv hb keeps => ?_
      · obtain ⟨z, hz, rz⟩ := vals_at vals (get i v hv)
        exact L2.Dp.reads I _ _ _ (dp_old (dp_mono sb (paired_at each hz he))) rz
      · have := ok2 x mx
        rintro rfl
        simp at this
      · have := ok2 x mx
        rw [Bool.and_eq_true, decide_eq_true_eq] at this
        exact this.2
      · obtain ⟨z, hz, rz⟩ := vals_at vals (get b v hv)
        exact ⟨z, H, I.kept keeps, rz, k z H F (.refl sb) (paired_at each hz hb)⟩
    · cases eo
  · cases eo
end
end DL
/-! max(xs), xs a list of ints -/
namespace DL
open PySem L2
end DL
/-! own dicts of ints under rows of ints and None: the kind of key, reading, asking, storing -/
namespace DL
open PySem L2 PySem.Spec PyProof.Rows PySem.SeqAt
end DL
namespace DL
open PySem L2 PySem.Spec PyProof.Rows PySem.SeqAt
/-! ### what stands under a row -/
def getN (kvs : List (List NK × Int)) (k : List NK) : Option Int := (kvs.find? fun p => decide (p.1 = k)).map (·.2)
def putN (kvs : List (List NK × Int)) (k : List NK) (v : Int) : List (List NK × Int) := if (getN kvs k).isSome = true then kvs.map fun p => if p.1 = k then (p.1, v) else p else kvs ++ [(k, v)]
/-! ### in the heap -/
/-! ### the rules -/
end DL
namespace DL
open PySem L2 PyProof.Rows PySem.Spec
/-! ### an own thing of any kind, at its place -/
def SV.flag : SV → Bool
  | .d _ => false
  | .ad _ => false
  | .l b _ => b
  | .m b _ _ => b
  | .k b _ => b
  | .s b _ _ _ => b
def SV.as (c : Bool) : SV → SV
  | .d x => .d x
  | .ad a => .ad a
  | .l _ x => .l c x
  | .m _ t x => .m c t x
  | .k _ x => .k c x
  | .s _ n t x => .s c n t x
def SvAt (K : PySem.W.Frag) (F H : Hp) (a : Addr) : SV → Prop
  | .d _ => False
  | .ad _ => False
  | .l _ xs => ∃ us, H a = some (.lst us) ∧ DpAll K F us xs
  | .m _ t kvs => DicOk K F H a t kvs
  | .k _ kvs => KnAt F H a kvs
  | .s _ n t rows => SkAt K F H a n t rows
theorem as_flag (c : Bool) {sv : SV} (o : sv.own = true) : (sv.as c).flag = c := by cases sv <;> first | rfl | cases o
theorem as_at {K : PySem.W.Frag} {F H : Hp} {a : Addr} (c : Bool) {sv : SV} : SvAt K F H a (sv.as c) ↔ SvAt K F H a sv := by cases sv <;> exact Iff.rfl
section
variable {K : PySem.W.Frag} {z : Fx} {r : Rho} {s : L2.St} {H F H' F' : Hp} {a p : Addr} {sv sv' : SV} {v : V}
theorem SvAt.own (h : SvAt K F H a sv) : sv.own = true := by cases sv <;> first | rfl | exact h.elim
theorem RS.parts {n : Nat} (h : RS K z n F H v sv) (o : sv.own = true) : ∃ a, v = .ref a ∧ F a = none ∧ z.H0 a = none ∧ SvAt K F H a sv ∧ (sv.flag = true → z.rf n = some a) := by
  cases sv with
  | d x => cases o
  | ad y => cases o
  | l b xs => obtain ⟨a, us, e, h1, h2, h3, h4, h5⟩ := h; exact ⟨a, e, h2, h3, ⟨us, h1, h4⟩, h5⟩
  | m b t kvs => exact h
  | k b kvs => exact h
  | s b n t rows => obtain ⟨a, e, h1, h2, h3, _, h4⟩ := h; exact ⟨a, e, h1, h2, h3, h4⟩
theorem RS.make {n : Nat} (f : F a = none) (h0 : ∀ l, Part H a l → z.H0 l = none) (h : SvAt K F H a sv) (fl : sv.flag = true → z.rf n = some a) : RS K z n F H (.ref a) sv := by
  cases sv with
  | d x => exact h.elim
  | ad y => exact h.elim
  | l b xs => obtain ⟨us, h1, h4⟩ := h; exact ⟨a, us, rfl, h1, f, h0 a part_self, h4, fl⟩
  | m b t kvs => exact ⟨a, rfl, f, h0 a part_self, h, fl⟩
  | k b kvs => exact ⟨a, rfl, f, h0 a part_self, h, fl⟩
  | s b n t rows => exact ⟨a, rfl, f, h0 a part_self, h, h0, fl⟩
theorem SvAt.there (h : SvAt K F H a sv) : ∃ o, H a = some o := by
  cases sv with
  | d x => exact h.elim
  | ad y => exact h.elim
  | l b xs => obtain ⟨us, h1, _⟩ := h; exact ⟨_, h1⟩
  | m b t kvs => exact DicOk.there h
  | k b kvs => exact KnAt.there h
  | s b n t rows => obtain ⟨C, dx, fs, g⟩ := SkAt.there h; exact ⟨_, g⟩
/-- its parts: itself; a list that is not frozen -/
theorem SvAt.part {b : Addr} (h : SvAt K F H a sv) (p : Part H a b) : b = a ∨ ∃ vs, H b = some (.lst vs) ∧ F b = none := by
  cases sv with
  | d x => exact h.elim
  | ad y => exact h.elim
  | l q xs => obtain ⟨us, h1, _⟩ := h; exact .inl (part_lst h1 p)
  | m q t kvs => exact .inl (DicOk.one h p)
  | k q kvs => exact .inl (KnAt.one h p)
  | s q n t rows => exact SkAt.rows h p
theorem SvAt.noTup (h : SvAt K F H a sv) {ob : Obj} {vs : List V} (e : H a = some (tupHO ob vs)) : False := by
  have e : H a = some (.tup vs) ∨ H a = some (.frz ob (.tup vs)) := by rcases tupHO_cases ob vs with q | q <;> rw [q] at e <;> simp [e]
  cases sv with
  | d x => exact h
  | ad y => exact h
  | l b xs => obtain ⟨us, h1, _⟩ := h; simp [h1] at e
  | m b t kvs => rcases h with ⟨_, ks, h1, _⟩ | ⟨_, ks, h1, _⟩ <;> simp [h1] at e
  | k b kvs => obtain ⟨xs, h1, _⟩ := h; simp [h1] at e
  | s b n t rows => obtain ⟨C, dx, fs, g⟩ := SkAt.there h; simp [g] at e
theorem SvAt.mono (h : SvAt K F H a sv) (e : SubH F F') (hh : ∀ b, Part H a b → ∀ o, H b = some o → H' b = some o) (hn : ∀ b, Part H a b → ∀ o, H b = some o → F b = none → F' b = none) : SvAt K F' H' a sv := by
  cases sv with
  | d x => exact h
  | ad y => exact h
  | l b xs => obtain ⟨us, h1, h2⟩ := h; exact ⟨us, hh _ part_self _ h1, dpa_mono e h2⟩
  | m b t kvs => exact DicOk.mono h e (hh _ part_self)
  | k b kvs => exact KnAt.mono h e (hh _ part_self)
  | s b n t rows => exact SkAt.mono h e hh hn
/-- an own thing takes another content -/
theorem Rep.renew (R : Rep K z r s H F) {i : Nat} {o : HO} (hi : r[i]? = some (some sv)) (own : sv.own = true) (hs : s[i]? = some (some (.ref p))) (new : SvAt K F (upd H p o) p sv') (fl : sv'.flag = sv.flag) (parts : ∀ b, Part (upd H p o) p b → Part H p b) : Rep K z (r.set i (some sv')) s (upd H p o) F := by
  obtain ⟨v, h1, rs⟩ := R.slots i _ hi
  rw [hs] at h1; cases h1
  have h0p : ∀ l, Part H p l → z.H0 l = none := fun l q => (rs.part own rfl q).2.2
  obtain ⟨a, e, hf, h0, _, hrf⟩ := rs.parts own
  cases e
  have lr := R.len
  refine ⟨fun b u q => ?_, fun b u q => ?_, R.f0, R.nw, fun j x q => ?_, R.ap_upd hi own hs parts, by rw [List.length_set]; exact lr⟩
  · rw [upd_ne fun e => by rw [e, hf] at q; cases q]
    exact R.fh b u q
  · rw [upd_ne fun e => by rw [e, h0] at q; cases q]
    exact R.old b u q
  · rcases get_set_cases q with ⟨rfl, e⟩ | ⟨ne, q⟩
    · cases e
      exact ⟨_, hs, RS.make hf (fun l q => h0p l (parts l q)) new fun q => hrf (fl ▸ q)⟩
    · obtain ⟨v, q1, q2⟩ := R.slots j x q
      refine ⟨v, q1, q2.mono (.refl _) (fun a b e hp o2 u hu => ?_) fun _ _ _ _ g _ _ _ _ => g⟩
      rw [upd_ne (R.other ne hi own hs q o2 (by rw [q1, e]) hp)]
      exact hu
end
/-! ### rows as keys -/
/-! ### {}, in, [], []= -/
end DL
namespace DL
open PySem L2 PyProof.Rows PySem.Spec
/-! ### a def one parameter of which (the j-th) is an own thing of the caller's, of any kind: it may be changed -/
def spO (K : PySem.W.Frag) (n j : Nat) (g : List D → SV → Option (D × SV)) : Sp := fun vs H Q _ => vs.length = n ∧ ∃ F ds a sv d sv', SubH F H ∧ vs[j]? = some (.ref a) ∧ DpAll K F (vs.eraseIdx j) ds ∧ SvAt K F H a sv ∧ F a = none ∧ sv.flag = true ∧ g ds sv = some (d, sv') ∧
  ∀ v H' F', (∀ b o, ¬ Part H a b → H b = some o → H' b = some o) → SubH F F' → SubH F' H' → (∀ b o, F' b = some o → F b = some o ∨ H b = none ∨ IsTu o ∨ Part H a b) → F' a = none → (∀ b, Part H' a b → Part H a b ∨ H b = none) → SvAt K F' H' a sv' → sv'.flag = true → Dp K F' v d → Q v H'
/-- a heap without a thing's parts -/
noncomputable def lessP (H : Hp) (a : Addr) : Hp := fun b => by
  classical exact if Part H a b then none else H b
theorem lessP_part {H : Hp} {a b : Addr} (p : Part H a b) : lessP H a b = none := by unfold lessP; rw [if_pos p]
theorem lessP_not {H : Hp} {a b : Addr} (p : ¬ Part H a b) : lessP H a b = H b := by unfold lessP; rw [if_neg p]
def startO (N : List Str) (j : Nat) (ds : List D) (sv : SV) : Rho := (ds.take j).map (fun d => some (.d d)) ++ some sv :: ((ds.drop j).map (fun d => some (.d d)) ++ List.replicate (N.length - (ds.length + 1)) none)
def endO (j : Nat) (r : Rho) : Option SV := (r[j]?.bind id).bind fun sv => if sv.flag = true then some sv else none
theorem flag_own {sv : SV} (h : sv.flag = true) : sv.own = true := by cases sv <;> first | rfl | cases h
theorem endO_some {j : Nat} {r : Rho} {sv : SV} (h : endO j r = some sv) : r[j]? = some (some sv) ∧ sv.flag = true := by
  obtain ⟨x, h1, h2⟩ := Option.bind_eq_some_iff.mp h
  obtain ⟨y, h3, h4⟩ := Option.bind_eq_some_iff.mp h1
  split at h2
  · rename_i q
    cases h2
    cases h4
    exact ⟨h3, q⟩
  · cases h2
theorem startO_get {N : List Str} {ds : List D} {x sv : SV} {i j : Nat} (hj : j ≤ ds.length) (h : (startO N j ds x)[i]? = some (some sv)) : (i = j ∧ sv = x) ∨ (i < j ∧ ∃ d, ds[i]? = some d ∧ sv = .d d) ∨ (j < i ∧ ∃ d, ds[i - 1]? = some d ∧ sv = .d d) := by
  unfold startO at h
  have ht : ((ds.take j).map fun d => some (SV.d d)).length = j := by rw [List.length_map, List.length_take]; omega
  rcases Nat.lt_trichotomy i j with lt | eq | gt
  · rw [List.getElem?_append_left (by omega), List.getElem?_map, List.getElem?_take_of_lt lt] at h
    obtain ⟨d, h1, h2⟩ := Option.map_eq_some_iff.mp h
    cases h2
    exact .inr (.inl ⟨lt, d, h1, rfl⟩)
  · subst eq
    rw [List.getElem?_append_right (by omega), ht, Nat.sub_self, List.getElem?_cons_zero] at h
    cases h
    exact .inl ⟨rfl, rfl⟩
  · obtain ⟨m, rfl⟩ : ∃ m, i = j + 1 + m := ⟨i - (j + 1), by omega⟩
    rw [List.getElem?_append_right (by omega), ht, show j + 1 + m - j = m + 1 by omega, List.getElem?_cons_succ] at h
    by_cases lt : m < (ds.drop j).length
    · rw [List.getElem?_append_left (by rw [List.length_map]; exact lt), List.getElem?_map, List.getElem?_drop] at h
      obtain ⟨d, h1, h2⟩ := Option.map_eq_some_iff.mp h
      cases h2
      exact .inr (.inr ⟨gt, d, by rw [show j + 1 + m - 1 = j + m by omega]; exact h1, rfl⟩)
    · rw [List.getElem?_append_right (by rw [List.length_map]; omega), List.getElem?_replicate] at h
      split at h <;> cases h
section
variable {P : Program} {w : World} {K : PySem.W.Frag} {mg : Str → Option Value} {base : Heap}
theorem rep_startO {N : List Str} {F H : Hp} {vs : List V} {ds : List D} {sv : SV} {j : Nat} {a : Addr} (sb : SubH F H) (hj : vs[j]? = some (.ref a)) (h : DpAll K F (vs.eraseIdx j) ds) (hn : vs.length ≤ N.length) (at_ : SvAt K F H a sv) (hf : F a = none) :
    Rep K ⟨lessP H a, F, fun _ => some a⟩ (startO N j ds sv) (L2.start N vs) H F := by
  have hl := dpa_len h
  have hjl : j < vs.length := (List.getElem?_eq_some_iff.mp hj).1
  rw [List.length_eraseIdx_of_lt hjl] at hl
  have hjd : j ≤ ds.length := by omega
  have arg : ∀ {i : Nat} {v : V}, vs[i]? = some v → (L2.start N vs)[i]? = some (some v) := fun {i v} e => by
    have hi : i < vs.length := (List.getElem?_eq_some_iff.mp e).1
    show ((vs.map some) ++ _)[i]? = _
    rw [List.getElem?_append_left (by rw [List.length_map]; exact hi), List.getElem?_map, e]
    rfl
  have only : ∀ {i : Nat} {x : SV}, (startO N j ds sv)[i]? = some (some x) → x.own = true → i = j := fun {i x} e o => by
    rcases startO_get hjd e with ⟨q, _⟩ | ⟨_, d, _, rfl⟩ | ⟨_, d, _, rfl⟩
    · exact q
    · cases o
    · cases o
  refine ⟨sb, fun b o q => ?_, .refl _, fun b o q => .inl q, fun i x e => ?_, fun i k c ⟨x, _, e1, o1, _⟩ ⟨y, _, e2, o2, _⟩ => by rw [only e1 o1, only e2 o2], ?_⟩
  · have q : lessP H a b = some o := q
    by_cases e : Part H a b
    · rw [lessP_part e] at q; cases q
    · rwa [lessP_not e] at q
  · rcases startO_get hjd e with ⟨rfl, rfl⟩ | ⟨lt, d, g, rfl⟩ | ⟨gt, d, g, rfl⟩
    · exact ⟨_, arg hj, RS.make hf (fun l p => lessP_part p) at_ fun _ => rfl⟩
    · obtain ⟨v, g1, g2⟩ := dpa_get h g
      rw [List.getElem?_eraseIdx_of_lt lt] at g1
      exact ⟨v, arg g1, g2⟩
    · obtain ⟨v, g1, g2⟩ := dpa_get h g
      rw [List.getElem?_eraseIdx_of_ge (by omega), show i - 1 + 1 = i by omega] at g1
      exact ⟨v, arg g1, g2⟩
  · have l1 : (startO N j ds sv).length = j + (1 + (ds.length - j + (N.length - (ds.length + 1)))) := by
      unfold startO
      simp only [List.length_append, List.length_map, List.length_replicate, List.length_cons, List.length_take, List.length_drop]
      omega
    have l2 : (L2.start N vs).length = vs.length + (N.length - vs.length) := by
      unfold L2.start
      simp only [List.length_append, List.length_map, List.length_replicate]
    rw [l1, l2]
    omega
def runO (N : List Str) (j : Nat) (body : SM) (ds : List D) (sv : SV) : Option (D × SV) := match body (startO N j ds sv) with
  | some (.rt d r) => (endO j r).map fun x => (d, x)
  | some (.nx r) => (endO j r).map fun x => (.none, x)
  | _ => none
theorem runO_some {N : List Str} {j : Nat} {body : SM} {ds : List D} {sv sv' : SV} {d : D} (h : runO N j body ds sv = some (d, sv')) : ∃ r, (body (startO N j ds sv) = some (.rt d r) ∨ (d = .none ∧ body (startO N j ds sv) = some (.nx r))) ∧ endO j r = some sv' := by
  unfold runO at h
  split at h
  · rename_i d' r e
    obtain ⟨x, h1, h2⟩ := Option.map_eq_some_iff.mp h
    cases h2
    exact ⟨r, .inl e, h1⟩
  · rename_i r e
    obtain ⟨x, h1, h2⟩ := Option.map_eq_some_iff.mp h
    cases h2
    exact ⟨r, .inr ⟨rfl, e⟩, h1⟩
  · cases h
theorem fn_runO {x qual : Str} {st : Stmt} {f : Addr} {fd : FuncData} {N ps : List Str} {k : Nat} {body : SM} (j : Nat) (F : Fun K x qual st f fd) (S : FnScope N ps (defScope st))
    (hb : ∀ (cdv : Value) (A : Around) (outer : List Env) (s : Shared) (H : Hp) (E : XK), Room k (A.deeper (envOfC qual (defScope st) s.heap.objs.size f cdv)) →
      SSs (cxOf CX0 P w K mg base N qual (defScope st) f cdv A outer s H E).nox (fun _ _ => False) (defBody st) body) : FnOk P w K mg base CX0 (k + 1) f fd ps (spO K ps.length j (runO N j body)) := by
  refine F.ok S (fun vs H Q E h => h.1) fun cdv A outer s H vs Q E hr h => ?_
  obtain ⟨hlen, F0, ds, a, sv, d, sv', sb, hj, dv, at_, hf, fl, e, q⟩ := h
  refine ⟨_, (hb cdv A outer s H E hr).ps, ?_⟩
  have fit : ps.length ≤ N.length := names_fit S
  have R := rep_startO (N := N) sb hj dv (by omega) at_ hf
  obtain ⟨r', e2, e3⟩ := runO_some e
  obtain ⟨e4, e5⟩ := endO_some e3
  have fin : ∀ {v : V} {s' : L2.St} {H' F' : Hp}, Rep K ⟨lessP H a, F0, fun _ => some a⟩ r' s' H' F' → Dp K F' v d → Q v H' := fun {v s' H' F'} R' dd => by
    obtain ⟨v', _, rs⟩ := R'.slots j _ e4
    have rs0 := rs
    obtain ⟨a', rfl, g1, g2, g3, g4⟩ := rs.parts (flag_own e5)
    have ea : a' = a := by have := g4 e5; cases this; rfl
    subst ea
    have gone : ∀ {b : Addr}, lessP H a' b = none → Part H a' b ∨ H b = none := fun {b} h => by
      by_cases p : Part H a' b
      · exact .inl p
      · rw [lessP_not p] at h; exact .inr h
    refine q v H' F' (fun b o ne ho => R'.old b o ?_) R'.f0 R'.fh (fun b o hb => ?_) g1 (fun b p => gone (rs0.part (flag_own e5) rfl p).2.2) g3 e5 dd
    · show lessP H a' b = some o
      rw [lessP_not ne]; exact ho
    · rcases R'.nw b o hb with h | h | h
      · exact .inl h
      · rcases gone h with h | h
        · exact .inr (.inr (.inr h))
        · exact .inr (.inl h)
      · exact .inr (.inr (.inl h))
  rcases e2 with e2 | ⟨rfl, e2⟩
  · exact ⟨_, _, F0, _, R, e2, fun v s' H' F' R' _ dd => fin R' dd⟩
  · exact ⟨_, _, F0, _, R, e2, fun s' H' F' R' _ => fin R' .non⟩
end
/-! ### the call -/
def ownS (i : Nat) (r : Rho) : Option SV := (r[i]?.bind id).bind fun sv => if sv.own = true then some sv else none
theorem ownS_some {i : Nat} {r : Rho} {sv : SV} (h : ownS i r = some sv) : r[i]? = some (some sv) ∧ sv.own = true := by
  obtain ⟨x, h1, h2⟩ := Option.bind_eq_some_iff.mp h
  obtain ⟨y, h3, h4⟩ := Option.bind_eq_some_iff.mp h1
  split at h2
  · rename_i q
    cases h2
    cases h4
    exact ⟨h3, q⟩
  · cases h2
def hereOM (i : Nat) (f : AM) : AM := fun r => (ownS i r).bind fun _ => f r
def callOM (i : Nat) (g : List D → SV → Option (D × SV)) (f : AM) : EM := fun r => (f r).bind fun p => (ownS i p.2).bind fun sv => (g p.1 (sv.as true)).map fun q => (q.1, p.2.set i (some (q.2.as sv.flag)))
section
variable {X : Cx} {a b c e : Expr} {es : List Expr} {f : EM} {pos : Pos}
theorem sar_hereO (i : Nat) {x : Str} {p : Pos} {f : AM} (hr : SA X es f) (hN : X.N[i]? = some x := by rfl) (hv : Vis X.env.scope x := by first | exact Or.inl rfl | exact Or.inr (Or.inl rfl) | exact Or.inr (Or.inr rfl)) (hd : (x == ("__debug__" : Str)) = false := by decide)
    (hcd : (x == ("__classdict__" : Str)) = false := by decide) (hs : starEach (.Name x p :: es) X.env = (false, eval (.Name x p) X.env) :: starEach es X.env := by rfl) : SAr X (.Name x p :: es) (hereOM i f) i 0 where
  pa := pa_imp (pa_cons (pe_var hN hv hd hcd) hr.pa hs) fun s H Q ⟨z, r, F, d, r', R, e, k⟩ => by
    obtain ⟨sv, e0, e1⟩ := Option.bind_eq_some_iff.mp e
    obtain ⟨hi, own⟩ := ownS_some e0
    obtain ⟨v, g1, rs⟩ := R.slots i _ hi
    obtain ⟨q, rfl, _⟩ := rs.parts own
    exact ⟨_, g1, z, r, F, d, r', R, e1, fun vs H' F' R' sb dv => k _ H' F' R' sb ⟨q, g1, rfl⟩ dv⟩
  len := fun r ds r' e => by
    obtain ⟨_, _, e1⟩ := Option.bind_eq_some_iff.mp e
    rw [hr.len _ _ _ e1]; rfl
  lt := Nat.succ_pos _
/-- behind the call: the own thing's slot with its new content -/
theorem Rep.behind {K : PySem.W.Frag} {z : Fx} {r : Rho} {s : L2.St} {H F H' F' : Hp} {sv sv' : SV} {i : Nat} {q : Addr} (R : Rep K z r s H F) (hi : r[i]? = some (some sv)) (own : sv.own = true) (hs : s[i]? = some (some (.ref q))) (keep : ∀ b o, ¬ Part H q b → H b = some o → H' b = some o) (ff : SubH F F') (fh : SubH F' H')
    (nw : ∀ b o, F' b = some o → F b = some o ∨ H b = none ∨ IsTu o ∨ Part H q b) (qf : F' q = none) (parts : ∀ b, Part H' q b → Part H q b ∨ H b = none) (new : SvAt K F' H' q sv') (fl : sv'.flag = sv.flag) : Rep K z (r.set i (some sv')) s H' F' := by
  obtain ⟨v, h1, rs⟩ := R.slots i _ hi
  rw [hs] at h1; cases h1
  have h0p : ∀ l, Part H q l → z.H0 l = none := fun l p => (rs.part own rfl p).2.2
  obtain ⟨q', e, hf, h0, old, hrf⟩ := rs.parts own
  cases e
  have other : ∀ {m : Nat} {x : SV} {a b : Addr}, m ≠ i → r[m]? = some (some x) → x.own = true → s[m]? = some (some (.ref a)) → Part H a b → ¬ Part H q b := fun {m x a b} n g o g1 p p2 => n (R.ap m i b ⟨x, a, g, o, g1, p⟩ ⟨sv, q, hi, own, hs, p2⟩)
  refine ⟨fh, fun b o g => keep b o (fun e => by rw [h0p b e] at g; cases g) (R.old b o g), R.f0.trans ff, fun b o g => ?_, fun m x g => ?_, R.ap_keep hi own hs (fun a x ⟨m, n, g, g1, o2⟩ _ o ho => keep a o (other n g o2 g1 part_self) ho) parts, by rw [List.length_set]; exact R.len⟩
  · rcases nw b o g with h | h | h | h
    · exact R.nw b o h
    · exact .inr (.inl (R.old.none h))
    · exact .inr (.inr h)
    · exact .inr (.inl (h0p b h))
  · rcases get_set_cases g with ⟨rfl, e⟩ | ⟨ne, g⟩
    · cases e
      exact ⟨_, hs, RS.make qf (fun l p => (parts l p).elim (h0p l) R.old.none) new fun h => hrf (fl ▸ h)⟩
    · obtain ⟨v2, g1, g2⟩ := R.slots m x g
      refine ⟨v2, g1, g2.mono ff (fun a c e hp o2 u hu => keep c u (other ne g o2 (by rw [g1, e]) hp) hu) fun a c o ho hc _ o2 e hp => ?_⟩
      have no := other ne g o2 (by rw [g1, e]) hp
      cases g3 : F' c with
      | none => rfl
      | some o3 =>
        rcases nw c o3 g3 with h | h | ⟨ob, ws, rfl⟩ | h
        · rw [hc] at h; cases h
        · rw [ho] at h; cases h
        · have g4 := fh c _ g3
          rw [keep c o no ho] at g4; cases g4
          exact absurd ⟨_, _, ho⟩ (g2.noTup o2 e hp)
        · exact absurd h no
theorem se_callO {k : Nat} {fa : Addr} {fd : FuncData} {ps : List Str} {i j : Nat} {g : List D → SV → Option (D × SV)} {x : Str} {p : Pos} {fs : AM} (G : FnOk X.prog X.w X.K X.mg X.base CX0 k fa fd ps (spO X.K ps.length j g)) (hr : Room k X.A) (hg : Gl X x) (hm : X.mg x = some (.ref fa)) (hk : PySem.W.keepIn X.K (.ref fa) = true) (hb : Binds X.K fd ps [])
    (ha : SAr X (e :: es) fs i j) (hps : ps.length = (e :: es).length) (hdb : (x == ("__debug__" : Str)) = false := by decide) (he : starEach (e :: es) X.env = (false, eval e X.env) :: starEach es X.env := by rfl) (hpl : (backTo pos (starEach es X.env)).any (·.1) = false := by rfl) :
    SE X (.Call (.Name x p) (e :: es) [] pos) (callOM i g fs) := ⟨pe_imp (pe_call G hr hg hm hk hb .nil pass0 ha.pa hdb he hpl) fun s H Q ⟨z, r, F, d, r', R, e, k⟩ => by
  obtain ⟨⟨ds, r1⟩, e1, e⟩ := Option.bind_eq_some_iff.mp e
  obtain ⟨sv, e2, e⟩ := Option.bind_eq_some_iff.mp e
  obtain ⟨⟨d', sv'⟩, e3, e4⟩ := Option.map_eq_some_iff.mp e
  cases e4
  obtain ⟨hi, own⟩ := ownS_some e2
  have hi : r1[i]? = some (some sv) := hi
  refine ⟨z, r, F, ds, _, R, e1, fun vs H1 F1 R1 sb ⟨a, q1, q2⟩ dv => ?_⟩
  show spO X.K ps.length j g (vs ++ []) H1 Q E0
  rw [List.append_nil]
  obtain ⟨v, h1, rs⟩ := R1.slots i _ hi
  rw [q1] at h1; cases h1
  obtain ⟨a', ea, hf, h0, at_, hrf⟩ := rs.parts own
  cases ea
  have hl := dpa_len dv
  have hlen := ha.len _ _ _ e1
  have hjl : j < vs.length := (List.getElem?_eq_some_iff.mp q2).1
  rw [List.length_eraseIdx_of_lt hjl] at hl
  refine ⟨by rw [hps]; omega, F1, ds, a, sv.as true, d', sv', R1.fh, q2, dv, (as_at true).mpr at_, hf, as_flag true own, e3, fun v H' F' keep ff fh nw qf parts new fl dd => ?_⟩
  have own' := new.own
  exact k v H' F' (R1.behind hi own q1 keep ff fh nw qf parts ((as_at sv.flag).mpr new) (as_flag _ own')) (sb.trans ff) dd⟩
end
end DL
namespace DL
open PySem L2 PyProof.Rows PySem.Spec
/-! ### xs + ys: a new list, to be owned -/
end DL
namespace DL
open PySem L2 PyProof.Rows PySem.Spec
/-! xs.index(x), xs a list or a tuple -/
end DL
/-! x = len(f(..)) in a try with one clause -/
namespace DL
open PySem L2
end DL
/-! a dict made anew: a display, a def that gives its own one back; a, b = {k: v}, y; a, b = x, f(..) -/
namespace DL
open PySem L2 PyProof.Rows PySem.Spec
/-! ### a body that ends with `return x`, x an own dict -/
end DL
/-! a seeker in a slot: what it has, what may be done to it -/
namespace DL
open PySem L2 PyProof.Rows PySem.Spec
/-- what the class must have -/
structure SkC (K : PySem.W.Frag) (C : Addr) : Prop where
  at_ : PySem.W.nsIn K mainGlobals "Seeker" = some (some (.ref C))
  cls : Cls K C
  net : NoAttr K C "net"
  rows : NoAttr K C "rows"
  told : NoAttr K C "told"
def netM (i : Nat) : EM := fun r => match r[i]? with
  | some (some (.s _ n _ _)) => some (n, r)
  | _ => none
def toldM (i : Nat) : EM := fun r => match r[i]? with
  | some (some (.s _ _ t _)) => some (t, r)
  | _ => none
/-- x.rows[-1] -/
def lastM (i : Nat) : EM := fun r => match r[i]? with
  | some (some (.s _ _ _ rows)) => (atI rows (-1)).map fun d => (d, r)
  | _ => none
/-- x.told = e -/
def setTM (i : Nat) (f : EM) : SM := fun r => (f r).bind fun p => match p.2[i]? with
  | some (some (.s b n _ rows)) => some (.nx (p.2.set i (some (.s b n p.1 rows))))
  | _ => none
/-- x.rows.append(y) -/
def rowsAppM (i j : Nat) : EM := fun r => match r[i]?, r[j]? with
  | some (some (.s b n t rows)), some (some (.d d)) => if szOk rows.length then some (.none, r.set i (some (.s b n t (rows ++ [d])))) else none
  | _, _ => none
/-- x.rows.pop() -/
def rowsPopM (i : Nat) : EM := fun r => match r[i]? with
  | some (some (.s b n t rows)) => (rows[rows.length - 1]?).map fun d => (d, r.set i (some (.s b n t rows.dropLast)))
  | _ => none
theorem told_put (n : V) (l : Addr) (t y : V) : putF ("told" : Str) y (seekF n l t) = seekF n l y := rfl
section
variable {K : PySem.W.Frag} {z : Fx} {r : Rho} {s : L2.St} {H F : Hp} {i : Nat} {b : Bool} {n t : D} {rows rows' : List D} {C a dx l : Addr} {vn vt : V} {vs vs' : List V}
/-- what stands there -/
theorem Rep.sk (R : Rep K z r s H F) (T : SkC K C) (hi : r[i]? = some (some (.s b n t rows))) : ∃ a dx l vn vt vs, s[i]? = some (some (.ref a)) ∧ H a = some (.ins C dx (seekF vn l vt)) ∧ F dx = some (.own a) ∧ H l = some (.lst vs) ∧ F l = none ∧ Dp K F vn n ∧ Dp K F vt t ∧ DpAll K F vs rows := by
  obtain ⟨v, at_, a, rfl, _, _, ⟨C', dx, l, vn, vt, vs, h0, h1, h2, h3, h4, h5, h6, h7⟩, _⟩ := R.slots i _ hi
  have : C' = C := by
    have := h0.symm.trans T.at_
    cases this; rfl
  subst this
  exact ⟨a, dx, l, vn, vt, vs, at_, h1, h2, h3, h4, h5, h6, h7⟩
theorem sk_part (h : H a = some (.ins C dx (seekF vn l vt))) : Part H a l := .inr ⟨C, dx, _, h, rfl⟩
theorem sk_parts (h : H a = some (.ins C dx (seekF vn l vt))) {x : Addr} (p : Part H a x) : x = a ∨ x = l := by
  rcases p with p | ⟨C', dx', fs, g1, g2⟩
  · exact .inl p
  · rw [h] at g1
    cases g1
    have : some (V.ref l) = some (V.ref x) := g2
    cases this
    exact .inr rfl
theorem Rep.skTold {y : V} {d : D} (R : Rep K z r s H F) (T : SkC K C) (hi : r[i]? = some (some (.s b n t rows))) (hs : s[i]? = some (some (.ref a))) (h1 : H a = some (.ins C dx (seekF vn l vt))) (h2 : F dx = some (.own a)) (h3 : H l = some (.lst vs)) (h4 : F l = none) (h5 : Dp K F vn n) (h7 : DpAll K F vs rows) (hd : Dp K F y d) :
    Rep K z (r.set i (some (.s b n d rows))) s (upd H a (.ins C dx (seekF vn l y))) F := by
  have ne : l ≠ a := fun e => by rw [e, h1] at h3; cases h3
  have new : SkAt K F (upd H a (.ins C dx (seekF vn l y))) a n d rows := ⟨C, dx, l, vn, y, vs, T.at_, upd_same, h2, by rw [upd_ne ne]; exact h3, h4, h5, hd, h7⟩
  refine R.renew (sv := .s b n t rows) (sv' := .s b n d rows) hi rfl hs new rfl fun x p => ?_
  rcases sk_parts upd_same p with rfl | rfl
  · exact part_self
  · exact sk_part h1
/-- its rows' list takes another content -/
theorem Rep.skRows (R : Rep K z r s H F) (T : SkC K C) (hi : r[i]? = some (some (.s b n t rows))) (hs : s[i]? = some (some (.ref a))) (h1 : H a = some (.ins C dx (seekF vn l vt))) (h2 : F dx = some (.own a)) (h3 : H l = some (.lst vs)) (h4 : F l = none) (h5 : Dp K F vn n) (h6 : Dp K F vt t) (hd : DpAll K F vs' rows') :
    Rep K z (r.set i (some (.s b n t rows'))) s (upd H l (.lst vs')) F := by
  have ne : a ≠ l := fun e => by rw [e, h3] at h1; cases h1
  have own : ∀ x, Part H a x → Owns r s H i x := fun x p => ⟨_, a, hi, rfl, hs, p⟩
  obtain ⟨v, g1, rs⟩ := R.slots i _ hi
  rw [hs] at g1; cases g1
  have fa := (rs.part rfl rfl (part_self (H := H) (a := a))).2
  have l0 := (rs.part rfl rfl (sk_part h1)).2.2
  obtain ⟨a', ea, _, _, _, _, hrf⟩ := rs
  cases ea
  have same : (upd H l (.lst vs')) a = H a := upd_ne ne
  refine ⟨fun x u q => ?_, fun x u q => ?_, R.f0, R.nw, fun j x q => ?_, R.ap.sub fun j x h => ?_, by rw [List.length_set]; exact R.len⟩
  · rw [upd_ne fun e => by rw [e, h4] at q; cases q]
    exact R.fh x u q
  · rw [upd_ne fun e => by rw [e, l0] at q; cases q]
    exact R.old x u q
  · rcases get_set_cases q with ⟨rfl, e⟩ | ⟨nj, q⟩
    · cases e
      refine ⟨_, hs, a, rfl, fa.1, fa.2, ⟨C, dx, l, vn, vt, vs', T.at_, by rw [same]; exact h1, h2, upd_same, h4, h5, h6, hd⟩, fun x p => ?_, hrf⟩
      rcases sk_parts h1 (part_congr same p) with rfl | rfl
      · exact fa.2
      · exact l0
    · obtain ⟨v, q1, q2⟩ := R.slots j x q
      refine ⟨v, q1, q2.mono (.refl _) (fun c y e hp o2 u hu => ?_) fun _ _ _ _ g _ _ _ _ => g⟩
      rw [upd_ne fun w : y = l => nj (R.ap j i l ⟨x, c, q, o2, by rw [q1, e], by rw [← w]; exact hp⟩ (own l (sk_part h1)))]
      exact hu
  · rcases owns_setR h with ⟨rfl, _, c, g1, g2⟩ | ⟨nj, h⟩
    · rw [hs] at g1
      cases g1
      exact own x (part_congr same g2)
    · exact owns_H (fun c y g1 g2 g3 => upd_ne fun w => nj (R.ap j i l ⟨y, c, g1, g2, g3, .inl w.symm⟩ (own l (sk_part h1)))) h
end
section
variable {X : Cx} {W : String → Hp → Prop} {C : Addr} {e : Expr} {f : EM} {pos : Pos}
theorem se_net (T : SkC X.K C) (i : Nat) {x : Str} {p : Pos} (hN : X.N[i]? = some x := by rfl) (hv : Vis X.env.scope x := by first | exact Or.inl rfl | exact Or.inr (Or.inl rfl) | exact Or.inr (Or.inr rfl)) (hd : (x == ("__debug__" : Str)) = false := by decide)
    (hcd : (x == ("__classdict__" : Str)) = false := by decide) (hb : attributeBase (.Name x p) "net" X.env (eval (.Name x p) X.env) = eval (.Name x p) X.env := by rfl) : SE X (.Attribute (.Name x p) "net" pos) (netM i) :=
  ⟨pe_imp (pe_fld (pe_var hN hv hd hcd) hb) fun s H Q ⟨z, r, F, d, r', R, e, k⟩ => by
    unfold netM at e
    split at e
    · rename_i b n t rows hi
      cases e
      obtain ⟨a, dx, l, vn, vt, vs, at_, h1, h2, h3, h4, h5, h6, h7⟩ := R.sk T hi
      exact ⟨_, at_, a, C, dx, _, vn, rfl, h1, T.cls, T.net, rfl, k _ _ _ R (.refl _) h5⟩
    · cases e⟩
theorem se_told (T : SkC X.K C) (i : Nat) {x : Str} {p : Pos} (hN : X.N[i]? = some x := by rfl) (hv : Vis X.env.scope x := by first | exact Or.inl rfl | exact Or.inr (Or.inl rfl) | exact Or.inr (Or.inr rfl)) (hd : (x == ("__debug__" : Str)) = false := by decide)
    (hcd : (x == ("__classdict__" : Str)) = false := by decide) (hb : attributeBase (.Name x p) "told" X.env (eval (.Name x p) X.env) = eval (.Name x p) X.env := by rfl) : SE X (.Attribute (.Name x p) "told" pos) (toldM i) :=
  ⟨pe_imp (pe_fld (pe_var hN hv hd hcd) hb) fun s H Q ⟨z, r, F, d, r', R, e, k⟩ => by
    unfold toldM at e
    split at e
    · rename_i b n t rows hi
      cases e
      obtain ⟨a, dx, l, vn, vt, vs, at_, h1, h2, h3, h4, h5, h6, h7⟩ := R.sk T hi
      exact ⟨_, at_, a, C, dx, _, vt, rfl, h1, T.cls, T.told, rfl, k _ _ _ R (.refl _) h6⟩
    · cases e⟩
theorem ss_told (T : SkC X.K C) (i : Nat) {x : Str} {p pos' : Pos} (he : SE X e f) (hs : swapsWith e (some (.Attribute (.Name x p) "told" pos')) pos.line X.env = pure false := by rfl) (hN : X.N[i]? = some x := by rfl) (hv : Vis X.env.scope x := by first | exact Or.inl rfl | exact Or.inr (Or.inl rfl) | exact Or.inr (Or.inr rfl)) (hd : (x == ("__debug__" : Str)) = false := by decide)
    (hcd : (x == ("__classdict__" : Str)) = false := by decide) : SS X W (.Assign [.Attribute (.Name x p) "told" pos'] e pos) (setTM i f) :=
  ⟨ps_imp (ps_fld (pe_var hN hv hd hcd) he.pe hs) fun D s H ⟨z, r, F, o, R, e, k⟩ => by
    obtain ⟨⟨d, r1⟩, e1, e2⟩ := Option.bind_eq_some_iff.mp e
    split at e2
    · rename_i b n t rows hi
      have hi : r1[i]? = some (some (.s b n t rows)) := hi
      cases e2
      refine ⟨z, r, F, d, r1, R, e1, fun y H1 F1 R1 sb dy => ?_⟩
      obtain ⟨a, dx, l, vn, vt, vs, at_, h1, h2, h3, h4, h5, h6, h7⟩ := R1.sk T hi
      refine ⟨_, at_, a, C, dx, _, rfl, h1, T.cls, T.told, by show 3 < 1000; omega, ?_⟩
      rw [told_put]
      exact k _ _ F1 (R1.skTold T hi at_ h1 h2 h3 h4 h5 h7 dy) sb
    · cases e2⟩
theorem se_last (T : SkC X.K C) (i : Nat) {x : Str} {p p2 p3 p4 : Pos} {kk : Nat} (hN : X.N[i]? = some x := by rfl) (hv : Vis X.env.scope x := by first | exact Or.inl rfl | exact Or.inr (Or.inl rfl) | exact Or.inr (Or.inr rfl)) (hd : (x == ("__debug__" : Str)) = false := by decide)
    (hcd : (x == ("__classdict__" : Str)) = false := by decide) (hb : attributeBase (.Name x p) "rows" X.env (eval (.Name x p) X.env) = eval (.Name x p) X.env := by rfl) :
    SE X (.Subscript (.Attribute (.Name x p) "rows" p2) (.UnaryOp .USub (.Constant (.int 1) kk p3) p4) pos) (lastM i) :=
  ⟨pe_imp (pe_ix ix_any (pe_fld (pe_var hN hv hd hcd) hb) (pe_un un_neg pe_int) (fun _ _ => rfl)) fun s H Q ⟨z, r, F, d, r', R, e, k⟩ => by
    unfold lastM at e
    split at e
    · rename_i b n t rows hi
      obtain ⟨d', e1, e2⟩ := Option.map_eq_some_iff.mp e
      cases e2
      obtain ⟨a, dx, l, vn, vt, vs, at_, h1, h2, h3, h4, h5, h6, h7⟩ := R.sk T hi
      refine ⟨_, at_, a, C, dx, _, .ref l, rfl, h1, T.cls, T.rows, rfl, 1, rfl, F, .list rows, .int (-1), d, R.fh, .inr ⟨l, vs, rows, rfl, rfl, h3, h7⟩, .inl (.int (-1)), e1, fun v' H' F' G dd => k v' H' F' (R.grow G) G.ff dd⟩
    · cases e⟩
theorem se_rowsApp (T : SkC X.K C) (i j : Nat) {x y : Str} {p p2 p3 apos cpos : Pos} (hij : i ≠ j := by decide) (hN : X.N[i]? = some x := by rfl) (hv : Vis X.env.scope x := by first | exact Or.inl rfl | exact Or.inr (Or.inl rfl) | exact Or.inr (Or.inr rfl)) (hd : (x == ("__debug__" : Str)) = false := by decide)
    (hcd : (x == ("__classdict__" : Str)) = false := by decide) (hNy : X.N[j]? = some y := by rfl) (hvy : Vis X.env.scope y := by first | exact Or.inl rfl | exact Or.inr (Or.inl rfl) | exact Or.inr (Or.inr rfl)) (hdy : (y == ("__debug__" : Str)) = false := by decide)
    (hcdy : (y == ("__classdict__" : Str)) = false := by decide) (hbx : attributeBase (.Name x p) "rows" X.env (eval (.Name x p) X.env) = eval (.Name x p) X.env := by rfl)
    (hb : attributeBase (.Attribute (.Name x p) "rows" p2) "append" X.env (eval (.Attribute (.Name x p) "rows" p2) X.env) = eval (.Attribute (.Name x p) "rows" p2) X.env := by rfl)
    (hk : (((backTo cpos (starEach [.Name y p3] X.env)).all (fun y => !y.1) && (backToKw cpos (keywordEach [] X.env)).all (fun y => y.1.isSome)) && decide (([Expr.Name y p3].length + ([] : List Keyword).length + if ([] : List Keyword).isEmpty then 0 else 1) < 30)) = true := by rfl)
    (hl : (apos.endLine == cpos.line) = true := by rfl) (hs : starEach [.Name y p3] X.env = (false, eval (.Name y p3) X.env) :: starEach [] X.env := by rfl) (hpl : (backTo cpos (starEach [] X.env)).any (·.1) = false := by rfl) :
    SE X (.Call (.Attribute (.Attribute (.Name x p) "rows" p2) "append" apos) [.Name y p3] [] cpos) (rowsAppM i j) :=
  ⟨pe_imp (pe_bm PySem.F.plainAttrs_list PySem.F.slot_list_append PySem.F.type_list_append mt_append (pe_fld (pe_var hN hv hd hcd) hbx) (pa_cons (pe_var hNy hvy hdy hcdy) pa_nil hs) hb hk hl hs hpl) fun s H Q ⟨z, r, F, d, r', R, e, k⟩ => by
    unfold rowsAppM at e
    split at e
    · rename_i b n t rows dd hi hj
      split at e
      · rename_i hz
        cases e
        obtain ⟨a, dx, l, vn, vt, vs, at_, h1, h2, h3, h4, h5, h6, h7⟩ := R.sk T hi
        obtain ⟨w, g1, g2⟩ := R.slots j _ hj
        refine ⟨_, at_, a, C, dx, _, .ref l, rfl, h1, T.cls, T.rows, rfl, .inl ⟨rfl, _, .inl (.inl h3)⟩, _, g1, ?_⟩
        exact ⟨l, vs, w, rfl, rfl, h3, by rw [dpa_len h7]; exact szOk_lt hz, k _ _ _ (R.skRows T hi at_ h1 h2 h3 h4 h5 h6 (dpa_app h7 (dpa_one g2))) (.refl _) .non⟩
      · cases e
    · cases e⟩
theorem se_rowsPop (T : SkC X.K C) (i : Nat) {x : Str} {p p2 apos cpos : Pos} (hN : X.N[i]? = some x := by rfl) (hv : Vis X.env.scope x := by first | exact Or.inl rfl | exact Or.inr (Or.inl rfl) | exact Or.inr (Or.inr rfl)) (hd : (x == ("__debug__" : Str)) = false := by decide)
    (hcd : (x == ("__classdict__" : Str)) = false := by decide) (hbx : attributeBase (.Name x p) "rows" X.env (eval (.Name x p) X.env) = eval (.Name x p) X.env := by rfl)
    (hb : attributeBase (.Attribute (.Name x p) "rows" p2) "pop" X.env (eval (.Attribute (.Name x p) "rows" p2) X.env) = eval (.Attribute (.Name x p) "rows" p2) X.env := by rfl) (hl : (apos.endLine == cpos.line) = true := by rfl) :
    SE X (.Call (.Attribute (.Attribute (.Name x p) "rows" p2) "pop" apos) [] [] cpos) (rowsPopM i) :=
  ⟨pe_imp (pe_bm0 PySem.F.plainAttrs_list PySem.F.slot_list_pop PySem.F.type_list_pop mt_pop (pe_fld (pe_var hN hv hd hcd) hbx) hb hl) fun s H Q ⟨z, r, F, d, r', R, e, k⟩ => by
    unfold rowsPopM at e
    split at e
    · rename_i b n t rows hi
      obtain ⟨y, e1, e2⟩ := Option.map_eq_some_iff.mp e
      cases e2
      obtain ⟨a, dx, l, vn, vt, vs, at_, h1, h2, h3, h4, h5, h6, h7⟩ := R.sk T hi
      obtain ⟨w, hw, dw⟩ := dpa_get h7 e1
      rw [← dpa_len h7] at hw
      exact ⟨_, at_, a, C, dx, _, .ref l, rfl, h1, T.cls, T.rows, rfl, .inl ⟨rfl, _, .inl (.inl h3)⟩, l, vs, w, rfl, rfl, h3, hw, k _ _ _ (R.skRows T hi at_ h1 h2 h3 h4 h5 h6 (dpa_dropLast h7)) (.refl _) dw⟩
    · cases e⟩
end
end DL
/-! methods, of a seeker in a slot; what they raise -/
namespace DL
open PySem L2 PyProof.Rows PySem.Spec
section
variable {X : Cx} {CX : CXT} {k : Nat} {f C : Addr} {fd : FuncData} {ps : List Str} {sp : Sp} {E : L2.St → XK} {x m : Str} {p pos apos : Pos} {e o : Expr} {es : List Expr} {ta : TE} {t : TA}
/-- what a method is asked: its thing, then its arguments; what is wished of what it lets out may look at the slots -/
def tMethW (C : Addr) (m : Str) (sp : Sp) (E : L2.St → XK) (ta : TE) (t : TA) : TE := fun σ H Q => ta σ H fun x H1 => ∃ a dx fs, x = .ref a ∧ H1 a = some (.ins C dx fs) ∧ fs.lookup m = none ∧ t σ H1 fun vs H2 => sp (x :: vs) H2 Q (E σ)
theorem pe_methW {pl : Sem Bool} (he : PE X o ta) (c : Cls X.K C) (hm : Meth X.K C m f) (F : FnOk X.prog X.w X.K X.mg X.base CX k f fd ps sp) (hr : Room k X.A) (hb : Binds X.K fd ps []) (hx : ∀ σ, PassesAt CX X σ (E σ)) (ha : PA X (e :: es) t)
    (hst : starEach (e :: es) X.env = (false, eval e X.env) :: starEach es X.env := by rfl) (hpl : (backTo pos (starEach es X.env)).any (·.1) = false := by rfl)
    (ht : eval (.Call (.Attribute o m apos) (e :: es) [] pos) X.env = (do
      let ov ← eval o X.env
      standAt apos.atName
      let (f, first) ← holding [ov] (getMethod ov m pl)
      callWith pos f first (backTo pos (starEach (e :: es) X.env)) (backToKw pos (keywordEach [] X.env))) := by rfl) :
    PE X (.Call (.Attribute o m apos) (e :: es) [] pos) (tMethW C m sp E ta t) := by
  constructor
  intro pins s σ H Q I h
  refine PySem.W.methodCall_KW (pl := pl) (thn (he.run pins s σ H _ I h) ?_) ht
  rintro u s1 ⟨x, H1, I1, rx, a, dx, fs, rfl, ea, l, q⟩
  cases rx
  refine getmeth_ok I1 ea c hm l (PySem.W.callWith_K (first := [.ref a]) (h₀ := X.base) I.ok.mod.kin hm.kp (thn (ha.run pos pins s1 σ H1 _ I1 q) ?_) hst hpl)
  rintro us s2 ⟨vs, H2, I2, r, q2⟩
  exact ⟨I2.kIn, run_fnS (us := .ref a :: us) (vs := .ref a :: vs) F hr hb (hx σ) I2 (.cons rfl r) q2⟩
theorem pe_methW0 {pl : Sem Bool} (he : PE X o ta) (c : Cls X.K C) (hm : Meth X.K C m f) (F : FnOk X.prog X.w X.K X.mg X.base CX k f fd ps sp) (hr : Room k X.A) (hb : Binds X.K fd ps []) (hx : ∀ σ, PassesAt CX X σ (E σ))
    (ht : eval (.Call (.Attribute o m apos) [] [] pos) X.env = (do
      let ov ← eval o X.env
      standAt apos.atName
      let (f, first) ← holding [ov] (getMethod ov m pl)
      callWith pos f first (backTo pos (starEach [] X.env)) (backToKw pos (keywordEach [] X.env))) := by rfl) :
    PE X (.Call (.Attribute o m apos) [] [] pos) (tMethW C m sp E ta tNil) := by
  constructor
  intro pins s σ H Q I h
  refine PySem.W.methodCall_KW (pl := pl) (thn (he.run pins s σ H _ I h) ?_) ht
  rintro u s1 ⟨x, H1, I1, rx, a, dx, fs, rfl, ea, l, q⟩
  cases rx
  exact getmeth_ok I1 ea c hm l (PySem.W.callWith_K0 (first := [.ref a]) I1.kIn hm.kp (run_fnS (us := [.ref a]) (vs := [.ref a]) F hr hb (hx σ) I1 (.cons rfl .nil) q))
end
/-! ### a def that may raise, one parameter of which (the j-th) is an own thing of the caller's -/
def spOX (K : PySem.W.Frag) (mg : Str → Option Value) (n j : Nat) (g : List D → SV → Option (Except String D × SV)) : Sp := fun vs H Q E => vs.length = n ∧ ∃ F ds a sv o sv', SubH F H ∧ vs[j]? = some (.ref a) ∧ DpAll K F (vs.eraseIdx j) ds ∧ SvAt K F H a sv ∧ F a = none ∧ sv.flag = true ∧ g ds sv = some (o, sv') ∧
  ∀ H' F', (∀ b o, ¬ Part H a b → H b = some o → H' b = some o) → SubH F F' → SubH F' H' → (∀ b o, F' b = some o → F b = some o ∨ H b = none ∨ IsTu o ∨ Part H a b) → F' a = none → (∀ b, Part H' a b → Part H a b ∨ H b = none) → SvAt K F' H' a sv' → sv'.flag = true →
    (∀ d v, o = .ok d → Dp K F' v d → Q v H') ∧ ∀ c, o = .error c → Let mg E c H'
def runOX (N : List Str) (j : Nat) (body : SM) (ds : List D) (sv : SV) : Option (Except String D × SV) := match body (startO N j ds sv) with
  | some (.rt d r) => (endO j r).map fun x => (.ok d, x)
  | some (.nx r) => (endO j r).map fun x => (.ok .none, x)
  | some (.ex c r) => (endO j r).map fun x => (.error c, x)
  | _ => none
section
variable {P : Program} {w : World} {K : PySem.W.Frag} {mg : Str → Option Value} {base : Heap}
theorem fn_runOX {x qual : Str} {st : Stmt} {f : Addr} {fd : FuncData} {N ps : List Str} {k : Nat} {body : SM} (j : Nat) (F : Fun K x qual st f fd) (S : FnScope N ps (defScope st))
    (hb : ∀ (cdv : Value) (A : Around) (outer : List Env) (s : Shared) (H : Hp) (E : XK), Room k (A.deeper (envOfC qual (defScope st) s.heap.objs.size f cdv)) →
      SSs (cxOf (L2.CX P w) P w K mg base N qual (defScope st) f cdv A outer s H E) (Let mg E) (defBody st) body) : FnOk P w K mg base (L2.CX P w) (k + 1) f fd ps (spOX K mg ps.length j (runOX N j body)) := by
  refine F.okX S (fun vs H Q E h => h.1) fun cdv A outer s H vs Q E hr h => ⟨_, (hb cdv A outer s H E hr).ps, ?_⟩
  obtain ⟨hlen, F0, ds, a, sv, o, sv', sb, hj, dv, at_, hf, fl, e, q⟩ := h
  have fit : ps.length ≤ N.length := names_fit S
  have R := rep_startO (N := N) sb hj dv (by omega) at_ hf
  have fin : ∀ {r' : Rho} {s' : L2.St} {H' F' : Hp}, endO j r' = some sv' → Rep K ⟨lessP H a, F0, fun _ => some a⟩ r' s' H' F' → (∀ d v, o = .ok d → Dp K F' v d → Q v H') ∧ ∀ c, o = .error c → Let mg E c H' := fun {r' s' H' F'} e3 R' => by
    obtain ⟨e4, e5⟩ := endO_some e3
    obtain ⟨v', _, rs⟩ := R'.slots j _ e4
    have rs0 := rs
    obtain ⟨a', rfl, g1, g2, g3, g4⟩ := rs.parts (flag_own e5)
    have ea : a' = a := by have := g4 e5; cases this; rfl
    subst ea
    have gone : ∀ {b : Addr}, lessP H a' b = none → Part H a' b ∨ H b = none := fun {b} h => by
      by_cases p : Part H a' b
      · exact .inl p
      · rw [lessP_not p] at h; exact .inr h
    refine q H' F' (fun b o ne ho => R'.old b o ?_) R'.f0 R'.fh (fun b o hb => ?_) g1 (fun b p => gone (rs0.part (flag_own e5) rfl p).2.2) g3 e5
    · show lessP H a' b = some o
      rw [lessP_not ne]; exact ho
    · rcases R'.nw b o hb with h | h | h
      · exact .inl h
      · rcases gone h with h | h
        · exact .inr (.inr (.inr h))
        · exact .inr (.inl h)
      · exact .inr (.inr (.inl h))
  unfold runOX at e
  refine ⟨⟨lessP H a, F0, fun _ => some a⟩, startO N j ds sv, F0, ?_⟩
  split at e
  · rename_i d r' h
    obtain ⟨x, e3, e4⟩ := Option.map_eq_some_iff.mp e
    cases e4
    exact ⟨_, R, h, fun v s' H' F' R' _ dd => (fin e3 R').1 _ _ rfl dd⟩
  · rename_i r' h
    obtain ⟨x, e3, e4⟩ := Option.map_eq_some_iff.mp e
    cases e4
    exact ⟨_, R, h, fun s' H' F' R' _ => (fin e3 R').1 _ _ rfl .non⟩
  · rename_i c r' h
    obtain ⟨x, e3, e4⟩ := Option.map_eq_some_iff.mp e
    cases e4
    exact ⟨_, R, h, fun s' H' F' R' _ => (fin e3 R').2 _ rfl⟩
  · cases e
end
/-! ### the calls -/
def skS (i : Nat) (r : Rho) : Option Unit := match r[i]? with
  | some (some (.s _ _ _ _)) => some ()
  | _ => none
def methM (i : Nat) (g : List D → SV → Option (D × SV)) (f : AM) : EM := fun r => (skS i r).bind fun _ => callOM i g f r
section
variable {X : Cx} {C : Addr} {e : Expr} {es : List Expr} {pos : Pos}
theorem meth_core {m : Str} (n : Nat) {i : Nat} {fs : AM} {g : List D → SV → Option (D × SV)} {t : TA} (T : SkC X.K C) (nm : ∀ n l t, (seekF n l t).lookup m = none) (ta : ∀ s H Q, liftA X.K fs s H Q → t s H Q) (len : ∀ r ds r', fs r = some (ds, r') → ds.length + 1 = n) {s : L2.St} {H : Hp} {Q : VK} (q : liftE X.K (methM i g fs) s H Q) :
    tMeth C m (spO X.K n 0 g) [] E0 (tVar i) t s H Q := by
  obtain ⟨z, r, F, d, r', R, e, k⟩ := q
  obtain ⟨_, e0, e⟩ := Option.bind_eq_some_iff.mp e
  unfold skS at e0
  split at e0
  · rename_i b n0 t0 rows hi0
    obtain ⟨a, dx, l, vn, vt, vs0, at_, g1, _⟩ := R.sk T hi0
    obtain ⟨⟨ds, r1⟩, e1, e⟩ := Option.bind_eq_some_iff.mp e
    obtain ⟨sv, e2, e⟩ := Option.bind_eq_some_iff.mp e
    obtain ⟨⟨d', sv'⟩, e3, e4⟩ := Option.map_eq_some_iff.mp e
    cases e4
    obtain ⟨hi, own⟩ := ownS_some e2
    have hi : r1[i]? = some (some sv) := hi
    refine ⟨_, at_, a, dx, _, rfl, g1, nm _ _ _, ta _ _ _ ⟨z, r, F, ds, _, R, e1, fun vs H1 F1 R1 sb dv => ?_⟩⟩
    show spO X.K n 0 g (V.ref a :: (vs ++ [])) H1 Q E0
    rw [List.append_nil]
    obtain ⟨v, h1, rs⟩ := R1.slots i _ hi
    rw [at_] at h1; cases h1
    obtain ⟨a', ea, hf, h0, at2, hrf⟩ := rs.parts own
    cases ea
    have hl := dpa_len dv
    have hlen := len _ _ _ e1
    refine ⟨by simp only [List.length_cons]; omega, F1, ds, a, sv.as true, d', sv', R1.fh, rfl, dv, (as_at true).mpr at2, hf, as_flag true own, e3, fun v H' F' keep ff fh nw qf parts new fl dd => ?_⟩
    have own' := new.own
    exact k v H' F' (R1.behind hi own at_ keep ff fh nw qf parts ((as_at sv.flag).mpr new) (as_flag _ own')) (sb.trans ff) dd
  · cases e0
theorem se_meth0 {k : Nat} {fa : Addr} {fd : FuncData} {ps : List Str} {i : Nat} {g : List D → SV → Option (D × SV)} {x m : Str} {p apos : Pos} {pl : Sem Bool} (T : SkC X.K C) (G : FnOk X.prog X.w X.K X.mg X.base CX0 k fa fd ps (spO X.K ps.length 0 g)) (hr : Room k X.A) (M : Meth X.K C m fa) (hb : Binds X.K fd ps [])
    (hps : ps.length = 1) (nm : ∀ n l t, (seekF n l t).lookup m = none := by intro _ _ _; rfl) (hN : X.N[i]? = some x := by rfl) (hv : Vis X.env.scope x := by first | exact Or.inl rfl | exact Or.inr (Or.inl rfl) | exact Or.inr (Or.inr rfl)) (hd : (x == ("__debug__" : Str)) = false := by decide)
    (hcd : (x == ("__classdict__" : Str)) = false := by decide)
    (ht : eval (.Call (.Attribute (.Name x p) m apos) [] [] pos) X.env = (do
      let ov ← eval (.Name x p) X.env
      standAt apos.atName
      let (f, first) ← holding [ov] (getMethod ov m pl)
      callWith pos f first (backTo pos (starEach [] X.env)) (backToKw pos (keywordEach [] X.env))) := by rfl) :
    SE X (.Call (.Attribute (.Name x p) m apos) [] [] pos) (methM i g nilM) :=
  ⟨pe_imp (pe_meth0 (pl := pl) (pe_var hN hv hd hcd) T.cls M G hr hb .nil pass0 ht) fun s H Q q => meth_core (fs := nilM) ps.length T nm (fun s H Q ⟨z, r, F, d, r', R, e, k⟩ => by cases e; exact k [] H F R (.refl _) .nil) (fun r ds r' e => by cases e; rw [hps]; rfl) q⟩
end
end DL
/-! a new seeker -/
namespace DL
open PySem L2 PyProof.Rows PySem.Spec
/-- what __init__ does to a bare instance -/
def spI (K : PySem.W.Frag) (C : Addr) (g : D → Option D) : Sp := fun vs H Q _ => vs.length = 2 ∧ ∃ x dx v F n c, vs = [.ref x, v] ∧ H x = some (.ins C dx []) ∧ SubH F H ∧ F x = none ∧ Dp K F v n ∧ g n = some c ∧
  ∀ H' F' l vn vt vs', (∀ b o, b ≠ x → H b = some o → H' b = some o) → SubH F F' → SubH F' H' → (∀ b o, F' b = some o → F b = some o ∨ H b = none ∨ IsTu o) → F' x = none → H l = none → H' x = some (.ins C dx (seekF vn l vt)) → H' l = some (.lst vs') → F' l = none →
    Dp K F' vn n → Dp K F' vt (.tuple []) → DpAll K F' vs' [c] → Q .non H'
theorem rep_bare {K : PySem.W.Frag} {F H : Hp} {x v : V} {n : D} (sb : SubH F H) (dv : Dp K F v n) : Rep K ⟨H, F, fun _ => none⟩ [none, some (.d n)] [some x, some v] H F where
  fh := sb
  old := .refl _
  f0 := .refl _
  nw := fun _ _ h => .inl h
  slots := fun i sv e => by
    match i, e with
    | 1, e => cases e; exact ⟨v, rfl, dv⟩
    | 0, e => cases e
    | _ + 2, e => simp at e
  ap := fun i j b ⟨sv, a, e1, o1, _⟩ _ => by
    match i, e1 with
    | 1, e1 => cases e1; cases o1
    | 0, e1 => cases e1
    | _ + 2, e1 => simp at e1
  len := rfl
theorem subH_upd {F H : Hp} {x : Addr} {o : HO} (h : SubH F H) (f : F x = none) : SubH F (upd H x o) := fun b u q => by
  rw [upd_ne fun e => by rw [e, f] at q; cases q]
  exact h b u q
section
variable {P : Program} {w : World} {K : PySem.W.Frag} {mg : Str → Option Value} {base : Heap}
/-- __init__(self, net): self.net = net; self.rows = [f(net)]; self.told = () -/
theorem fn_init {C f : Addr} {qual : Str} {st : Stmt} {fd : FuncData} {k : Nat} {e2 e3 : Expr} {g : D → Option D} {fl : AM} {ft : EM} {p1 p2 p3 p4 p5 p6 p7 p8 p9 p10 : Pos} (T : SkC K C) (F : Fun K "__init__" qual st f fd) (S : FnScope ["self", "net"] ["self", "net"] (defScope st))
    (hst : defBody st = [.Assign [.Attribute (.Name "self" p1) "net" p2] (.Name "net" p3) p4, .Assign [.Attribute (.Name "self" p5) "rows" p6] e2 p7, .Assign [.Attribute (.Name "self" p8) "told" p9] e3 p10])
    (hb : ∀ (cdv : Value) (A : Around) (outer : List Env) (s : Shared) (H : Hp) (E : XK), Room k (A.deeper (envOfC qual (defScope st) s.heap.objs.size f cdv)) →
      Vis (cxOf CX0 P w K mg base ["self", "net"] qual (defScope st) f cdv A outer s H E).env.scope "self" ∧ Vis (cxOf CX0 P w K mg base ["self", "net"] qual (defScope st) f cdv A outer s H E).env.scope "net" ∧
      swapsWith (.Name "net" p3) (some (.Attribute (.Name "self" p1) "net" p2)) p4.line (cxOf CX0 P w K mg base ["self", "net"] qual (defScope st) f cdv A outer s H E).env = pure false ∧
      SL (cxOf CX0 P w K mg base ["self", "net"] qual (defScope st) f cdv A outer s H E).nox e2 fl ∧ SE (cxOf CX0 P w K mg base ["self", "net"] qual (defScope st) f cdv A outer s H E).nox e3 ft ∧
      swapsWith e2 (some (.Attribute (.Name "self" p5) "rows" p6)) p7.line (cxOf CX0 P w K mg base ["self", "net"] qual (defScope st) f cdv A outer s H E).env = pure false ∧
      swapsWith e3 (some (.Attribute (.Name "self" p8) "told" p9)) p10.line (cxOf CX0 P w K mg base ["self", "net"] qual (defScope st) f cdv A outer s H E).env = pure false)
    (hg : ∀ n c, g n = some c → fl [none, some (.d n)] = some ([c], [none, some (.d n)]) ∧ ft [none, some (.d n)] = some (.tuple [], [none, some (.d n)])) : FnOk P w K mg base CX0 (k + 1) f fd ["self", "net"] (spI K C g) := by
  refine F.ok S (fun vs H Q E h => h.1) fun cdv A outer s H vs Q E hr h => ?_
  obtain ⟨_, x, dx, v, F0, n, c, rfl, hx, sb, fx, dv, eg, q⟩ := h
  obtain ⟨vs1, vs2, sw1, h2, h3, sw2, sw3⟩ := hb cdv A outer s H E hr
  obtain ⟨g2, g3⟩ := hg n c eg
  rw [hst]
  refine ⟨_, pss_cons (ps_fld (pe_var (i := 0) rfl vs1 (by decide) (by decide)) (pe_var (i := 1) rfl vs2 (by decide) (by decide)) sw1) (pss_cons (ps_fld (pe_var (i := 0) rfl vs1 (by decide) (by decide)) h2.pe sw2) (pss_one (ps_fld (pe_var (i := 0) rfl vs1 (by decide) (by decide)) h3.pe sw3))), ?_⟩
  refine ⟨v, rfl, .ref x, rfl, x, C, dx, [], rfl, hx, T.cls, T.net, by show 0 < 1000; omega, ?_⟩
  have R1 : Rep K ⟨upd H x (.ins C dx [("net", v)]), F0, fun _ => none⟩ [none, some (.d n)] (L2.start ["self", "net"] [V.ref x, v]) (upd H x (.ins C dx [("net", v)])) F0 := rep_bare (subH_upd sb fx) dv
  refine ⟨_, _, F0, [c], _, R1, g2, fun l vs2 H2 F2 R2 sb2 l1 l2 l3 l4 l5 => ?_⟩
  have x2 : H2 x = some (.ins C dx [("net", v)]) := R2.old x _ upd_same
  have F2x : F2 x = none := by
    cases e : F2 x with
    | none => rfl
    | some o =>
      rcases R2.nw x o e with h | h | h
      · have h : F0 x = some o := h
        rw [fx] at h; cases h
      · have h : upd H x (.ins C dx [("net", v)]) x = none := h
        rw [upd_same] at h; cases h
      · have := R2.fh x o e
        rw [x2] at this
        obtain ⟨ob, ws, rfl⟩ := h
        rcases tupHO_cases ob ws with q | q <;> rw [q] at this <;> cases this
  have lx : l ≠ x := fun e => by rw [e, x2] at l1; cases l1
  refine ⟨.ref x, rfl, x, C, dx, _, rfl, x2, T.cls, T.rows, by show 1 < 1000; omega, ?_⟩
  have dv2 := dp_mono sb2 dv
  have R3 : Rep K ⟨upd H2 x (.ins C dx [("net", v), ("rows", .ref l)]), F2, fun _ => none⟩ [none, some (.d n)] (L2.start ["self", "net"] [V.ref x, v]) (upd H2 x (.ins C dx [("net", v), ("rows", .ref l)])) F2 := rep_bare (subH_upd R2.fh F2x) dv2
  refine ⟨_, _, F2, .tuple [], _, R3, g3, fun vt H3 F3 R4 sb3 dt => ?_⟩
  have x3 : H3 x = some (.ins C dx [("net", v), ("rows", .ref l)]) := R4.old x _ upd_same
  have keep3 : ∀ {b : Addr} {o : HO}, upd H2 x (.ins C dx [("net", v), ("rows", .ref l)]) b = some o → ¬ IsTu o → F2 b = none → F3 b = none := fun {b o} hb nt f => by
    cases e : F3 b with
    | none => rfl
    | some u =>
      rcases R4.nw b u e with h | h | h
      · have h : F2 b = some u := h
        rw [f] at h; cases h
      · have h : upd H2 x (.ins C dx [("net", v), ("rows", .ref l)]) b = none := h
        rw [hb] at h; cases h
      · have := R4.fh b u e
        rw [R4.old b o hb] at this
        cases this
        exact absurd h nt
  have F3x : F3 x = none := keep3 upd_same (fun ⟨ob, ws, q⟩ => by rcases tupHO_cases ob ws with z | z <;> rw [z] at q <;> cases q) F2x
  have l1' : upd H2 x (.ins C dx [("net", v), ("rows", .ref l)]) l = some (.lst vs2) := by rw [upd_ne lx]; exact l1
  have F3l : F3 l = none := keep3 l1' not_tu l2
  refine ⟨.ref x, rfl, x, C, dx, _, rfl, x3, T.cls, T.told, by show 2 < 1000; omega, ?_⟩
  have l0 : H l = none := by
    have l3 : upd H x (.ins C dx [("net", v)]) l = none := l3
    rwa [upd_ne lx] at l3
  refine q _ F3 l v vt vs2 (fun b o ne ho => ?_) (sb2.trans sb3) (subH_upd R4.fh F3x) (fun b o hb => ?_) F3x l0 upd_same (by rw [upd_ne lx]; exact R4.old l _ l1') F3l (dp_mono sb3 dv2) dt (dpa_mono sb3 l5)
  · rw [upd_ne ne]
    refine R4.old b o ?_
    show upd H2 x _ b = _
    rw [upd_ne ne]
    refine R2.old b o ?_
    show upd H x _ b = _
    rw [upd_ne ne]
    exact ho
  · have bx : b ≠ x := fun e => by rw [e, F3x] at hb; cases hb
    rcases R4.nw b o hb with h | h | h
    · have h : F2 b = some o := h
      rcases R2.nw b o h with h | h | h
      · exact .inl h
      · have h : upd H x (.ins C dx [("net", v)]) b = none := h
        rw [upd_ne bx] at h
        exact .inr (.inl h)
      · exact .inr (.inr h)
    · have h : upd H2 x (.ins C dx [("net", v), ("rows", .ref l)]) b = none := h
      rw [upd_ne bx] at h
      refine .inr (.inl ?_)
      cases e : H b with
      | none => rfl
      | some u =>
        have := R2.old b u (by show upd H x _ b = _; rw [upd_ne bx]; exact e)
        rw [h] at this; cases this
    · exact .inr (.inr h)
end
/-! ### the call: a loose seeker -/
abbrev NM := Rho → Option ((D × List D) × Rho)
def liftN (K : PySem.W.Frag) (f : NM) : TE := fun s H Q => ∃ z r F d r', Rep K z r s H F ∧ f r = some (d, r') ∧
  ∀ a H' F', Rep K z r' s H' F' → SubH F F' → F' a = none → (∀ b, Part H' a b → z.H0 b = none ∧ ¬ OwnAt r' s H' b) → SkAt K F' H' a d.1 (.tuple []) d.2 → Q (.ref a) H'
structure SN (X : Cx) (e : Expr) (f : NM) : Prop where
  pe : PE X e (liftN X.K f)
def mkM (g : D → Option D) (f : EM) : NM := fun r => (f r).bind fun p => (g p.1).map fun c => ((p.1, [c]), p.2)
def newSM (i : Nat) (f : NM) : SM := fun r => (f r).map fun p => .nx (p.2.set i (some (.s false p.1.1 (.tuple []) p.1.2)))
section
variable {K : PySem.W.Frag} {z : Fx} {r : Rho} {s : L2.St} {H F : Hp}
/-- a slot takes a loose thing as its own -/
theorem Rep.ownSv (R : Rep K z r s H F) {i : Nat} {p : Addr} {sv : SV} (nf : F p = none) (fl : sv.flag = false) (no : ∀ b, Part H p b → z.H0 b = none ∧ ¬ OwnAt r s H b) (hd : SvAt K F H p sv) : Rep K z (r.set i (some sv)) (s.set i (some (.ref p))) H F where
  fh := R.fh
  old := R.old
  f0 := R.f0
  nw := R.nw
  slots := fun j x e => by
    have lt : j < s.length := by
      have := (List.getElem?_eq_some_iff.mp e).1
      rw [List.length_set] at this
      rw [← R.len]; exact this
    rcases get_set_cases e with ⟨rfl, e2⟩ | ⟨ne, e2⟩
    · cases e2
      exact ⟨.ref p, List.getElem?_set_self lt, RS.make nf (fun l q => (no l q).1) hd fun q => by rw [fl] at q; cases q⟩
    · obtain ⟨v, h1, h2⟩ := R.slots j x e2
      exact ⟨v, by rw [List.getElem?_set_ne (Ne.symm ne)]; exact h1, h2⟩
  ap := R.ap.new (i := i) (P := fun b => Part H p b) (fun b e => (no b e).2) fun j b h => by
    rcases owns_set h with ⟨e, _, a, ea, q⟩ | ⟨n, h⟩
    · cases ea; exact .inl ⟨e, q⟩
    · exact .inr ⟨n, h⟩
  len := by rw [List.length_set, List.length_set]; exact R.len
end
section
variable {X : Cx} {W : String → Hp → Prop} {C : Addr} {e : Expr} {pos : Pos}
theorem sn_make {k : Nat} {fi : Addr} {fd : FuncData} {g : D → Option D} {x : Str} {p : Pos} {f : EM} (T : SkC X.K C) (M : Mk X.K C fi) (G : FnOk X.prog X.w X.K X.mg X.base CX0 k fi fd ["self", "net"] (spI X.K C g)) (hr : Room (k + 1) X.A) (hg : Gl X x) (hm : X.mg x = some (.ref C)) (hb : Binds X.K fd ["self", "net"] [])
    (ha : SE X e f) (hdb : (x == ("__debug__" : Str)) = false := by decide) (he : starEach [e] X.env = (false, eval e X.env) :: starEach [] X.env := by rfl) (hpl : (backTo pos (starEach [] X.env)).any (·.1) = false := by rfl) :
    SN X (.Call (.Name x p) [e] [] pos) (mkM g f) :=
  ⟨pe_imp (pe_make M G hr hg hm hb .nil pass0 (pa_cons ha.pe pa_nil he) hdb he hpl) fun s H Q ⟨z, r, F, d, r', R, e, k⟩ => by
    obtain ⟨⟨n, r1⟩, e1, e2⟩ := Option.bind_eq_some_iff.mp e
    obtain ⟨c, e3, e4⟩ := Option.map_eq_some_iff.mp e2
    cases e4
    refine ⟨z, r, F, n, r1, R, e1, fun v H1 F1 R1 sb dv x dx nx ndx ne => ?_⟩
    show spI X.K C g (V.ref x :: ([v] ++ [])) _ _ E0
    have fx : F1 x = none := R1.fh.none nx
    have fdx : F1 dx = none := R1.fh.none ndx
    have sb1 : SubH F1 (upd F1 dx (.own x)) := .new fdx
    have hmk : ∀ b o, H1 b = some o → (upd (upd H1 dx (.own x)) x (.ins C dx [])) b = some o := fun b o h => by
      have n1 : b ≠ x := fun e => by rw [e, nx] at h; cases h
      have n2 : b ≠ dx := fun e => by rw [e, ndx] at h; cases h
      rw [upd_ne n1, upd_ne n2]
      exact h
    have sbF : SubH (upd F1 dx (.own x)) (upd (upd H1 dx (.own x)) x (.ins C dx [])) := fun b o h => by
      by_cases q : b = dx
      · subst q
        rw [upd_same] at h
        cases h
        rw [upd_ne ne, upd_same]
      · rw [upd_ne q] at h
        exact hmk b o (R1.fh b o h)
    refine ⟨rfl, x, dx, v, upd F1 dx (.own x), n, c, rfl, upd_same, sbF, by rw [upd_ne (Ne.symm ne)]; exact fx, dp_mono sb1 dv, e3, fun H' F' l vn vt vs' keep ff fh nw qx l0 hx hl fl d1 d2 d3 => ⟨rfl, ?_⟩⟩
    have none1 : ∀ {b : Addr}, (upd (upd H1 dx (.own x)) x (.ins C dx [])) b = none → H1 b = none := fun {b} h => by
      cases e : H1 b with
      | none => rfl
      | some o => rw [hmk b o e] at h; cases h
    have hh : SubH H1 H' := fun b o h => keep b o (fun e => by rw [e, nx] at h; cases h) (hmk b o h)
    have G1 : Grow F1 H1 F' H' := ⟨sb1.trans ff, hh, fh, fun b o h => by
      rcases nw b o h with h | h | h
      · by_cases q : b = dx
        · subst q; exact .inr (.inl ndx)
        · rw [upd_ne q] at h; exact .inl h
      · exact .inr (.inl (none1 h))
      · exact .inr (.inr h)⟩
    have R2 := R1.grow G1
    refine k x H' F' R2 (sb.trans G1.ff) qx (fun b p => ?_) ⟨C, dx, l, vn, vt, vs', T.at_, hx, ff _ _ upd_same, hl, fl, d1, d2, d3⟩
    have b0 : H1 b = none := by
      rcases sk_parts hx p with rfl | rfl
      · exact nx
      · exact none1 l0
    exact ⟨R1.old.none b0, fun q => R1.free b0 (R1.ownAtH hh q)⟩⟩
theorem ss_mk (i : Nat) {x : Str} {pos' : Pos} {f : NM} (hN : X.N.Nodup) (he : SN X e f) (hi : X.N[i]? = some x := by rfl) (hx : Loc X.env.scope x := by first | exact Or.inl rfl | exact Or.inr rfl) (hs : swapsWith e (some (.Name x pos')) pos.line X.env = pure false := by rfl) (hf : X.fn x = true ∨ X.env.scope.names.lookup x = some .local := by first | exact .inl rfl | exact .inr rfl | assumption) :
    SS X W (.Assign [.Name x pos'] e pos) (newSM i f) := ⟨ps_imp (ps_set hN hi hx he.pe hs hf) fun D s H ⟨z, r, F, o, R, e, k⟩ => by
  obtain ⟨⟨d, r1⟩, e1, e2⟩ := Option.map_eq_some_iff.mp e
  cases e2
  exact ⟨z, r, F, d, r1, R, e1, fun a H' F' R' sb nf no sk => k _ H' F' (R'.ownSv (sv := .s false d.1 (.tuple []) d.2) nf rfl no sk) sb⟩⟩
end
end DL
/-! a seeker's method in a try, with several clauses -/
namespace DL
open PySem L2 PyProof.Rows PySem.Spec
inductive SHds (X : Cx) (W : String → Hp → Prop) (rs : List String) : List ExceptHandler → List (Value × (Addr → Value → Option Addr → TS)) → List (String × SM) → Prop
  | nil : SHds X W rs [] [] []
  | cons {c : String} {C : Addr} {b₀ : Stmt} {suite : List Stmt} {np ph : Pos} {h : SM} {hds : List ExceptHandler} {l : List (Value × (Addr → Value → Option Addr → TS))} {hs : List (String × SM)} (T : Err X.K X.mg c C) (hg : Gl X (Str.ofString c)) (hd : (Str.ofString c == ("__debug__" : Str)) = false)
      (dis : ∀ c' ∈ rs, c' ≠ c → ∀ C', X.mg (Str.ofString c') = some (.ref C') → PySem.W.exmOne X.K (.ref C') (.ref C) = some false) (hsu : ∀ a pn, SSs (X.suite a pn) W (b₀ :: suite) h) (r : SHds X W rs hds l hs) :
      SHds X W rs (.ExceptHandler (some (.Name (Str.ofString c) np)) none (b₀ :: suite) ph :: hds) ((.ref C, fun _ _ _ => liftS X.K W h) :: l) ((c, h) :: hs)
section
variable {X : Cx} {W : String → Hp → Prop} {rs : List String} {hds : List ExceptHandler} {l : List (Value × (Addr → Value → Option Addr → TS))} {hs : List (String × SM)}
theorem SHds.ok (h : SHds X W rs hds l hs) : HdsOk X hds l := by
  induction h with
  | nil => exact .nil
  | cons T hg hd dis hsu r ih => exact .cons ⟨hg, hd, .inl T.at_⟩ (fun a oe cls d pn _ _ => (hsu a _).ps) ih
end
/-! ### a, b = C(..), y -/
theorem Rep.sk_kept {K : PySem.W.Frag} {z : Fx} {r r' : Rho} {s s' : L2.St} {H F H' F' : Hp} {a : Addr} {n t : D} {rows : List D} (R : Rep K z r s H F) (R' : Rep K ⟨bare r s H, F, z.rf⟩ r' s' H' F') (nf : F a = none) (no : ∀ b, Part H a b → z.H0 b = none ∧ ¬ OwnAt r s H b) (sk : SkAt K F H a n t rows) (ff : SubH F F') :
    F' a = none ∧ (∀ b, Part H' a b → z.H0 b = none ∧ ¬ OwnAt r' s' H' b) ∧ SkAt K F' H' a n t rows := by
  obtain ⟨C, dx, l, vn, vt, vs, h0, h1, h2, h3, h4, h5, h6, h7⟩ := sk
  have p : Part H a l := sk_part h1
  have nt : ¬ IsTu (.ins C dx (seekF vn l vt)) := fun ⟨ob, ws, q⟩ => by rcases tupHO_cases ob ws with e | e <;> rw [e] at q <;> cases q
  obtain ⟨a1, a2, a3⟩ := R.loose_kept R' h1 nf (no a part_self).2 nt
  obtain ⟨l1, l2, l3⟩ := R.loose_kept R' h3 h4 (no l p).2 not_tu
  refine ⟨a2, fun b q => ?_, C, dx, l, vn, vt, vs, h0, a1, ff _ _ h2, l1, l2, dp_mono ff h5, dp_mono ff h6, dpa_mono ff h7⟩
  rcases sk_parts a1 q with rfl | rfl
  · exact ⟨(no b part_self).1, a3⟩
  · exact ⟨(no b p).1, l3⟩
end DL
/-! a def with any number of own things of the caller's among its arguments -/
namespace DL
open PySem L2 PyProof.Rows PySem.Spec
end DL
/-! the call of a def with any number of own things among its arguments -/
namespace DL
open PySem L2 PyProof.Rows PySem.Spec
/-! ### the arguments: none for a datum, some i for the own thing of slot i -/
/-! ### what stands behind the pattern -/
end DL
/-! a, b = C(..), C(..); a, b, c = C(..), C(..), C(..) -/
namespace DL
open PySem L2 PyProof.Rows PySem.Spec
/-- a seeker that no slot has yet -/
structure Loose (K : PySem.W.Frag) (z : Fx) (r : Rho) (s : L2.St) (H F : Hp) (a : Addr) (n t : D) (rows : List D) : Prop where
  nf : F a = none
  no : ∀ b, Part H a b → z.H0 b = none ∧ ¬ OwnAt r s H b
  sk : SkAt K F H a n t rows
section
variable {K : PySem.W.Frag} {z : Fx} {r r' : Rho} {s s' : L2.St} {H F H' F' : Hp} {a b : Addr} {n t n' t' : D} {rows rows' : List D}
theorem Loose.kept (L : Loose K z r s H F a n t rows) (R : Rep K z r s H F) (R' : Rep K ⟨bare r s H, F, z.rf⟩ r' s' H' F') (ff : SubH F F') : Loose K z r' s' H' F' a n t rows := by
  obtain ⟨h1, h2, h3⟩ := R.sk_kept R' L.nf L.no L.sk ff
  exact ⟨h1, h2, h3⟩
theorem bare_gone (R : Rep K z r s H F) {b : Addr} (h : bare r s H b = none) : z.H0 b = none := by
  by_cases p : OwnAt r s H b
  · exact (R.own_facts p).2.2
  · rw [bare_not p] at h
    exact R.old.none h
theorem Loose.up (R : Rep K z r s H F) (L : Loose K ⟨bare r s H, F, z.rf⟩ r' s' H' F' a n t rows) : Loose K z r' s' H' F' a n t rows :=
  ⟨L.nf, fun b p => ⟨bare_gone R (L.no b p).1, (L.no b p).2⟩, L.sk⟩
/-- the old one's parts were there -/
theorem Loose.there (L : Loose K z r s H F a n t rows) (R' : Rep K ⟨bare r s H, F, z.rf⟩ r' s' H' F') {x : Addr} (p : Part H' a x) : bare r s H x ≠ none := by
  obtain ⟨C, dx, l, vn, vt, vs, h0, h1, h2, h3, _⟩ := L.sk
  have b1 : bare r s H a = some (.ins C dx (seekF vn l vt)) := by rw [bare_not (L.no a part_self).2]; exact h1
  have b2 : bare r s H l = some (.lst vs) := by rw [bare_not (L.no l (sk_part h1)).2]; exact h3
  have k1 : H' a = some (.ins C dx (seekF vn l vt)) := R'.old _ _ b1
  rcases sk_parts k1 p with rfl | rfl
  · rw [b1]; simp
  · rw [b2]; simp
theorem Loose.own (L : Loose K z r s H F b n t rows) {i : Nat} {sv : SV} (ap : ∀ x, Part H a x → ¬ Part H b x) : Loose K z (r.set i (some sv)) (s.set i (some (.ref a))) H F b n t rows :=
  ⟨L.nf, fun x p => ⟨(L.no x p).1, fun ⟨j, h⟩ => by
    rcases owns_set h with ⟨_, _, a', e, q⟩ | ⟨_, h⟩
    · cases e; exact ap x q p
    · exact (L.no x p).2 ⟨j, h⟩⟩, L.sk⟩
end
end DL
/-! the body of a try, in which a seeker's methods may raise -/
namespace DL
open PySem L2 PyProof.Rows PySem.Spec
def outTB (K : PySem.W.Frag) (mg : Str → Option Value) (z : Fx) (F : Hp) (V : WX) (D : Ends) : Out → Prop
  | .nx r' => ∀ s' H' F', Rep K z r' s' H' F' → SubH F F' → D.nx s' H'
  | .rt d r' => ∀ v s' H' F', Rep K z r' s' H' F' → SubH F F' → Dp K F' v d → D.rt v H'
  | .bk r' => ∀ s' H' F', Rep K z r' s' H' F' → SubH F F' → D.bk s' H'
  | .ct r' => ∀ s' H' F', Rep K z r' s' H' F' → SubH F F' → D.ct s' H'
  | .ex c r' => ∀ s' H' F' C, mg (Str.ofString c) = some (.ref C) → Rep K z r' s' H' F' → SubH F F' → V (.ref C) none s' H'
def liftB (K : PySem.W.Frag) (mg : Str → Option Value) (V : WX) (f : SM) : TS := fun D s H => ∃ z r F o, Rep K z r s H F ∧ f r = some o ∧ outTB K mg z F V D o
structure TB (X : Cx) (V : WX) (st : List Stmt) (f : SM) : Prop where
  ps : PSs X st (liftB X.K X.mg V f)
theorem outTB.mono {K : PySem.W.Frag} {mg : Str → Option Value} {z : Fx} {F F' : Hp} {V : WX} {D : Ends} {o : Out} (h : outTB K mg z F V D o) (e : SubH F F') : outTB K mg z F' V D o := by
  cases o with
  | nx r => exact fun s H G R sb => h s H G R (e.trans sb)
  | rt d r => exact fun v s H G R sb => h v s H G R (e.trans sb)
  | bk r => exact fun s H G R sb => h s H G R (e.trans sb)
  | ct r => exact fun s H G R sb => h s H G R (e.trans sb)
  | ex c r => exact fun s H G C m R sb => h s H G C m R (e.trans sb)
/-- x.m(..) as a statement of its own, in a try -/
def methX (i : Nat) (g : List D → SV → Option (Except String D × SV)) (f : AM) : SM := fun r => (skS i r).bind fun _ => (f r).bind fun p => (ownS i p.2).bind fun sv => (g p.1 (sv.as true)).map fun q => match q.1 with
  | .ok _ => .nx (p.2.set i (some (q.2.as sv.flag)))
  | .error c => .ex c (p.2.set i (some (q.2.as sv.flag)))
section
variable {X : Cx} {W : String → Hp → Prop} {V : WX} {rs : List String} {h₀ : ExceptHandler} {hds : List ExceptHandler} {l : List (Value × (Addr → Value → Option Addr → TS))} {hs : List (String × SM)} {C : Addr} {e c : Expr} {es : List Expr} {pos rp pt : Pos} {body st1 st2 : List Stmt} {f g : SM}
theorem tb_if {t : TM} (hc : ST X c t) (h1 : TB X V st1 f) (h2 : TB X V st2 g) : TB X V [.If c st1 st2 pos] (ifM t f g) :=
  ⟨pss_one (ps_imp (ps_if hc.pt h1.ps h2.ps) fun D s H ⟨z, r, F, o, R, e, k⟩ => by
    unfold ifM at e
    obtain ⟨⟨b, r1⟩, e1, e2⟩ := Option.bind_eq_some_iff.mp e
    refine ⟨z, r, F, b, r1, R, e1, fun H1 F1 R1 sb => ?_⟩
    cases b with
    | true => exact ⟨z, r1, F1, o, R1, e2, k.mono sb⟩
    | false => exact ⟨z, r1, F1, o, R1, e2, k.mono sb⟩)⟩
theorem methX_core {m : Str} (n : Nat) {i : Nat} {fs : AM} {g : List D → SV → Option (Except String D × SV)} {t : TA} (T : SkC X.K C) (nm : ∀ n l t, (seekF n l t).lookup m = none) (ta : ∀ s H Q, liftA X.K fs s H Q → t s H Q) (len : ∀ r ds r', fs r = some (ds, r') → ds.length + 1 = n)
    {D : Ends} {s : L2.St} {H : Hp} (q : liftB X.K X.mg V (methX i g fs) D s H) : tMethW C m (spOX X.K X.mg n 0 g) (WE V) (tVar i) t s H (fun v H' => D.nx s H') := by
  obtain ⟨z, r, F, o, R, e, k⟩ := q
  obtain ⟨_, e0, e⟩ := Option.bind_eq_some_iff.mp e
  unfold skS at e0
  split at e0
  · rename_i b n0 t0 rows hi0
    obtain ⟨a, dx, l', vn, vt, vs0, at_, g1, _⟩ := R.sk T hi0
    obtain ⟨⟨ds, r1⟩, e1, e⟩ := Option.bind_eq_some_iff.mp e
    obtain ⟨sv, e2, e⟩ := Option.bind_eq_some_iff.mp e
    obtain ⟨⟨o', sv'⟩, e3, e4⟩ := Option.map_eq_some_iff.mp e
    obtain ⟨hi, own⟩ := ownS_some e2
    have hi : r1[i]? = some (some sv) := hi
    refine ⟨_, at_, a, dx, _, rfl, g1, nm _ _ _, ta _ _ _ ⟨z, r, F, ds, _, R, e1, fun vs H1 F1 R1 sb dv => ?_⟩⟩
    show spOX X.K X.mg n 0 g (L2.V.ref a :: vs) H1 _ _
    obtain ⟨v, h1, rs'⟩ := R1.slots i _ hi
    rw [at_] at h1; cases h1
    obtain ⟨a', ea, hf, h0, at2, hrf⟩ := rs'.parts own
    cases ea
    have hl := dpa_len dv
    have hlen := len _ _ _ e1
    refine ⟨by simp only [List.length_cons]; omega, F1, ds, a, sv.as true, o', sv', R1.fh, rfl, dv, (as_at true).mpr at2, hf, as_flag true own, e3, fun H' F' keep ff fh nw qf parts new fl => ?_⟩
    have own' := new.own
    have R2 := R1.behind hi own at_ keep ff fh nw qf parts ((as_at sv.flag).mpr new) (as_flag _ own')
    constructor
    · intro d v ed dd
      subst ed
      cases e4
      exact k _ _ _ R2 (sb.trans ff)
    · intro c ec C' at'
      subst ec
      cases e4
      exact k _ _ _ C' at' R2 (sb.trans ff)
  · cases e0
theorem tb_meth {k : Nat} {fa : Addr} {fd : FuncData} {ps : List Str} {i : Nat} {g : List D → SV → Option (Except String D × SV)} {x m : Str} {p apos : Pos} {fs : AM} {pl : Sem Bool} (T : SkC X.K C) (tk : Takes X V) (G : FnOk X.prog X.w X.K X.mg X.base (L2.CX X.prog X.w) k fa fd ps (spOX X.K X.mg ps.length 0 g)) (hr : Room k X.A) (M : Meth X.K C m fa) (hb : Binds X.K fd ps [])
    (ha : SA X (e :: es) fs) (hps : ps.length = (e :: es).length + 1) (hsw : swapsWith (.Call (.Attribute (.Name x p) m apos) (e :: es) [] pos) none rp.line X.env = pure false := by rfl) (nm : ∀ n l t, (seekF n l t).lookup m = none := by intro _ _ _; rfl) (hN : X.N[i]? = some x := by rfl) (hv : Vis X.env.scope x := by first | exact Or.inl rfl | exact Or.inr (Or.inl rfl) | exact Or.inr (Or.inr rfl)) (hd : (x == ("__debug__" : Str)) = false := by decide)
    (hcd : (x == ("__classdict__" : Str)) = false := by decide) (hst : starEach (e :: es) X.env = (false, eval e X.env) :: starEach es X.env := by rfl) (hpl : (backTo pos (starEach es X.env)).any (·.1) = false := by rfl)
    (ht : eval (.Call (.Attribute (.Name x p) m apos) (e :: es) [] pos) X.env = (do
      let ov ← eval (.Name x p) X.env
      standAt apos.atName
      let (f, first) ← holding [ov] (getMethod ov m pl)
      callWith pos f first (backTo pos (starEach (e :: es) X.env)) (backToKw pos (keywordEach [] X.env))) := by rfl) :
    TB X V [.Expr (.Call (.Attribute (.Name x p) m apos) (e :: es) [] pos) rp] (methX i g fs) :=
  ⟨pss_one (ps_imp (ps_expr (pe_methW (pl := pl) (pe_var hN hv hd hcd) T.cls M G hr hb (fun σ => passAt tk σ) ha.pa hst hpl ht) hsw) fun D s H q => methX_core ps.length T nm (fun _ _ _ h => h) (fun r ds r' e => by rw [ha.len _ _ _ e, hps]) q)⟩
theorem tb_meth0 {k : Nat} {fa : Addr} {fd : FuncData} {ps : List Str} {i : Nat} {g : List D → SV → Option (Except String D × SV)} {x m : Str} {p apos : Pos} {pl : Sem Bool} (T : SkC X.K C) (tk : Takes X V) (G : FnOk X.prog X.w X.K X.mg X.base (L2.CX X.prog X.w) k fa fd ps (spOX X.K X.mg ps.length 0 g)) (hr : Room k X.A) (M : Meth X.K C m fa) (hb : Binds X.K fd ps [])
    (hps : ps.length = 1) (hsw : swapsWith (.Call (.Attribute (.Name x p) m apos) [] [] pos) none rp.line X.env = pure false := by rfl) (nm : ∀ n l t, (seekF n l t).lookup m = none := by intro _ _ _; rfl) (hN : X.N[i]? = some x := by rfl) (hv : Vis X.env.scope x := by first | exact Or.inl rfl | exact Or.inr (Or.inl rfl) | exact Or.inr (Or.inr rfl)) (hd : (x == ("__debug__" : Str)) = false := by decide)
    (hcd : (x == ("__classdict__" : Str)) = false := by decide)
    (ht : eval (.Call (.Attribute (.Name x p) m apos) [] [] pos) X.env = (do
      let ov ← eval (.Name x p) X.env
      standAt apos.atName
      let (f, first) ← holding [ov] (getMethod ov m pl)
      callWith pos f first (backTo pos (starEach [] X.env)) (backToKw pos (keywordEach [] X.env))) := by rfl) :
    TB X V [.Expr (.Call (.Attribute (.Name x p) m apos) [] [] pos) rp] (methX i g nilM) :=
  ⟨pss_one (ps_imp (ps_expr (pe_methW0 (pl := pl) (pe_var hN hv hd hcd) T.cls M G hr hb (fun σ => passAt tk σ) ht) hsw) fun D s H q => methX_core (t := tNil) (fs := nilM) ps.length T nm (fun s H Q ⟨z, r, F, d, r', R, e, k⟩ => by cases e; exact k [] H F R (.refl _) .nil) (fun r ds r' e => by cases e; rw [hps]; rfl) q)⟩
end
end DL
/-! xs[l:u:k] of a list -/
namespace DL
open PySem L2 PyProof.Rows PySem.Spec
end DL
/-! texts -/
namespace DL
open PySem L2 PyProof.Rows PySem.Spec
def strsOf : List D → Option (List Str)
  | [] => some []
  | .str x :: ds => (strsOf ds).map (x :: ·)
  | _ :: _ => none
theorem strsOf_some : ∀ {ds : List D} {ys : List Str}, strsOf ds = some ys → ds = ys.map PyData.str
  | [], _, h => by cases h; rfl
  | .str x :: ds, ys, h => by
    obtain ⟨q, h1, h2⟩ := Option.map_eq_some_iff.mp h
    cases h2
    rw [strsOf_some h1]; rfl
  | .none :: _, _, h => nomatch h
  | .bool _ :: _, _, h => nomatch h
  | .int _ :: _, _, h => nomatch h
  | .list _ :: _, _, h => nomatch h
  | .tuple _ :: _, _, h => nomatch h
  | .dict _ :: _, _, h => nomatch h
theorem dpa_strs {K : PySem.W.Frag} {F : Hp} : ∀ {ys : List Str} {vs : List V}, DpAll K F vs (ys.map PyData.str) → vs = ys.map V.str
  | [], [], _ => rfl
  | y :: ys, v :: vs, h => by
    cases h with
    | cons x t => cases x.inv; rw [dpa_strs t]; rfl
  | [], _ :: _, h => nomatch h
  | _ :: _, [], h => nomatch h
theorem dpa_strs_mk {K : PySem.W.Frag} {F : Hp} : ∀ (ys : List Str), DpAll K F (ys.map V.str) (ys.map PyData.str)
  | [] => .nil
  | y :: ys => .cons (.str y) (dpa_strs_mk ys)
def joinD : D → D → Option D
  | .str a, .list ds => (strsOf ds).bind fun ys => if (ys.map (·.length)).sum + ys.length * a.length ≤ 16777216 then some (.str (Txt.join a ys)) else none
  | _, _ => none
/-- x.split(y), the parts -/
def splitV : D → D → Option (List D)
  | .str a, .str b => if (b.length == 0) = false ∧ szOk a.length = true then some ((Txt.split a b).map .str) else none
  | _, _ => none
theorem joinD_some {d e o : D} (h : joinD d e = some o) : ∃ (a : Str) (ys : List Str), d = .str a ∧ e = .list (ys.map .str) ∧ (ys.map (·.length)).sum + ys.length * a.length ≤ 16777216 ∧ o = .str (Txt.join a ys) := by
  unfold joinD at h
  split at h
  · obtain ⟨ys, e4, e5⟩ := Option.bind_eq_some_iff.mp h
    split at e5
    · rename_i hz
      cases e5
      cases strsOf_some e4
      exact ⟨_, ys, rfl, rfl, hz, rfl⟩
    · cases e5
  · cases h
theorem splitV_some {d e : D} {ds : List D} (h : splitV d e = some ds) : ∃ a b : Str, d = .str a ∧ e = .str b ∧ (b.length == 0) = false ∧ a.length + 2 ≤ sizeLine ∧ ds = (Txt.split a b).map .str := by
  unfold splitV at h
  split at h
  · split at h
    · rename_i hz
      cases h
      exact ⟨_, _, rfl, rfl, hz.1, Nat.le_trans (Nat.add_le_add_right (of_decide_eq_true hz.2) 2) (by decide), rfl⟩
    · cases h
  · cases h
def splitM (f g : EM) : AM := fun r => (f r).bind fun p => (g p.2).bind fun q => (splitV p.1 q.1).map fun ds => (ds, q.2)
section
variable {X : Cx} {a b c e o tg : Expr} {es : List Expr} {f g : EM} {pos : Pos}
theorem se_join {apos pos : Pos} (ha : SE X o f) (hb : SE X e g) (hs : starEach [e] X.env = [(false, eval e X.env)] := by rfl) (hbase : attributeBase o "join" X.env (eval o X.env) = eval o X.env := by rfl) (hline : (apos.endLine == pos.line) = true := by rfl) :
    SE X (.Call (.Attribute o "join" apos) [e] [] pos) (opM joinD f g) :=
  ⟨pe_imp (pe_join ha.pe hb.pe hs hbase hline) fun s H Q ⟨z, r, F, d, r', R, e, k⟩ => by
    obtain ⟨x, r1, y, e1, e2, e3⟩ := opM_some e
    obtain ⟨a, ys, rfl, rfl, hz, rfl⟩ := joinD_some e3
    refine ⟨z, r, F, _, r1, R, e1, fun v H1 F1 R1 sb1 dx => ⟨⟨a, dx.inv⟩, z, r1, F1, _, r', R1, e2, fun w H2 F2 R2 sb2 dy => ?_⟩⟩
    obtain ⟨p, vs, rfl, h1, h2⟩ := dy.inv
    cases dpa_strs h2
    exact ⟨a, p, ys, dx.inv, rfl, .inl (R2.fh.sql h1), hz, k _ _ _ R2 (sb1.trans sb2) (.str _)⟩⟩
theorem sl_split {apos pos : Pos} (ha : SE X o f) (hb : SE X e g) (hs : starEach [e] X.env = [(false, eval e X.env)] := by rfl) (hbase : attributeBase o "split" X.env (eval o X.env) = eval o X.env := by rfl) (hline : (apos.endLine == pos.line) = true := by rfl) :
    SL X (.Call (.Attribute o "split" apos) [e] [] pos) (splitM f g) :=
  ⟨pe_imp (pe_split ha.pe hb.pe hs hbase hline) fun s H Q ⟨z, r, F, d, r', R, e, k⟩ => by
    obtain ⟨⟨x, r1⟩, e1, e⟩ := Option.bind_eq_some_iff.mp e
    obtain ⟨⟨y, r2⟩, e2, e⟩ := Option.bind_eq_some_iff.mp e
    obtain ⟨ds, e3, e4⟩ := Option.map_eq_some_iff.mp e
    cases e4
    obtain ⟨a, b, ea, eb, h1, h2, ed⟩ := splitV_some e3
    have ea : x = .str a := ea
    have eb : y = .str b := eb
    subst ea eb ed
    refine ⟨z, r, F, _, r1, R, e1, fun v H1 F1 R1 sb1 dx => ⟨⟨a, dx.inv⟩, z, r1, F1, _, _, R1, e2, fun w H2 F2 R2 sb2 dy => ⟨a, b, dx.inv, by rw [dy.inv], h1, h2, fun p hp => ?_⟩⟩⟩
    obtain ⟨R3, g1, g2, g3, g4⟩ := R2.loose (vs := (Txt.split a b).map V.str) hp
    exact k p _ _ F2 R3 (sb1.trans sb2) g1 g2 g3 g4 (dpa_strs_mk _)⟩
/-! ### f'..' -/
/-- a part's text -/
def fmtT : D → Option Str
  | .str y => if szOk y.length then some y else none
  | .int i => if i.natAbs.log2 < 1920 then some (toString i) else none
  | _ => none
def fmtM (f : EM) : EM := fun r => (f r).bind fun p => (fmtT p.1).map fun y => (.str y, p.2)
theorem se_fmt {p : Pos} (ha : SE X e f) : SE X (.FormattedValue e (-1) none p) (fmtM f) :=
  ⟨pe_imp (pe_fmt ha.pe) fun s H Q ⟨z, r, F, d, r', R, e, k⟩ => by
    obtain ⟨⟨x, r1⟩, e1, e⟩ := Option.bind_eq_some_iff.mp e
    obtain ⟨y, e2, e3⟩ := Option.map_eq_some_iff.mp e
    cases e3
    refine ⟨z, r, F, x, _, R, e1, fun v H1 F1 R1 sb dv => ?_⟩
    cases x with
    | str y' =>
      have e2 : (if szOk y'.length then some y' else none) = some y := e2
      split at e2
      · rename_i hz
        cases e2
        exact .inl ⟨_, dv.inv, szOk_le hz, k _ _ _ R1 sb (.str _)⟩
      · cases e2
    | int i =>
      have e2 : (if i.natAbs.log2 < 1920 then some (toString i : Str) else none) = some y := e2
      split at e2
      · rename_i hz
        cases e2
        exact .inr ⟨i, dv.inv, hz, k _ _ _ R1 sb (.str _)⟩
      · cases e2
    | _ => cases e2⟩
/-- the parts, each a text -/
inductive SJ (X : Cx) : List Expr → List EM → Prop
  | nil : SJ X [] []
  | cons {e : Expr} {f : EM} {es : List Expr} {fs : List EM} (h : SE X e f) (r : SJ X es fs) : SJ X (e :: es) (f :: fs)
theorem SJ.pj {es : List Expr} {fs : List EM} (h : SJ X es fs) : PJ X es (fs.map (liftE X.K)) := by
  induction h with
  | nil => exact .nil
  | cons h r ih => exact .cons h.pe ih
def jsL : List EM → Str → Rho → Option (Str × Rho)
  | [], acc, r => some (acc, r)
  | f :: fs, acc, r => (f r).bind fun p => match p.1 with
    | .str y => if szOk (acc ++ y).length then jsL fs (acc ++ y) p.2 else none
    | _ => none
def jsM (fs : List EM) : EM := fun r => (jsL fs Str.empty r).map fun p => (.str p.1, p.2)
theorem js_run {K : PySem.W.Frag} : ∀ (fs : List EM) (acc : Str) (s : L2.St) (H : Hp) (Q : Str → Hp → Prop) (z : Fx) (r r' : Rho) (F : Hp) (out : Str), Rep K z r s H F → jsL fs acc r = some (out, r') → (∀ H' F', Rep K z r' s H' F' → SubH F F' → Q out H') →
    tJs (fs.map (liftE K)) acc s H Q
  | [], acc, s, H, Q, z, r, r', F, out, R, e, k => by
    cases e
    exact k H F R (.refl _)
  | f :: fs, acc, s, H, Q, z, r, r', F, out, R, e, k => by
    obtain ⟨⟨x, r1⟩, e1, e⟩ := Option.bind_eq_some_iff.mp e
    cases x with
    | str y =>
      have e : (if szOk (acc ++ y).length = true then jsL fs (acc ++ y) r1 else none) = some (out, r') := e
      split at e
      · rename_i hz
        exact ⟨z, r, F, _, r1, R, e1, fun v H1 F1 R1 sb dv => ⟨y, dv.inv, szOk_le hz, js_run fs _ s H1 Q z r1 r' F1 out R1 e fun H2 F2 R2 sb2 => k H2 F2 R2 (sb.trans sb2)⟩⟩
      · cases e
    | _ => cases e
theorem se_js {v1 v2 : Expr} {rest : List Expr} {fs : List EM} (h : SJ X (v1 :: v2 :: rest) fs) : SE X (.JoinedStr (v1 :: v2 :: rest) pos) (jsM fs) :=
  ⟨pe_imp (pe_joined h.pj) fun s H Q ⟨z, r, F, d, r', R, e, k⟩ => by
    obtain ⟨⟨out, r1⟩, e1, e2⟩ := Option.map_eq_some_iff.mp e
    cases e2
    exact js_run fs _ s H _ z r _ F out R e1 fun H' F' R' sb => k _ _ _ R' sb (.str _)⟩
/-! ### one sign in a text, int of a figure, a text's signs -/
def inSB : D → D → Option Bool
  | .str ⟨⟨[c]⟩⟩, .str z => some (decide (c ∈ z.cps.toList))
  | _, _ => none
def notInSB (d e : D) : Option Bool := (inSB d e).map fun b => !b
theorem inSB_some {d e : D} {b : Bool} (h : inSB d e = some b) : ∃ (c : Nat) (z : Str), d = .str ⟨#[c]⟩ ∧ e = .str z ∧ b = decide (c ∈ z.cps.toList) := by
  unfold inSB at h
  split at h
  · cases h; exact ⟨_, _, rfl, rfl, rfl⟩
  · cases h
theorem or_notInSB : OpR X (compareOp .NotIn) (liftO X.K (bD notInSB)) := by
  intro pins s σ H x y v u Q I rx ry h
  obtain ⟨F, d, e, o, sb, dx, dy, eo, k⟩ := h
  obtain ⟨bb, e9, rfl⟩ := bD_some eo
  obtain ⟨b', e8, rfl⟩ := Option.map_eq_some_iff.mp e9
  obtain ⟨c, z, rfl, rfl, rfl⟩ := inSB_some e8
  cases dv_str dx; cases dv_str dy
  exact op_notIn_sign pins s σ H _ _ v u Q I rx ry ⟨c, z, rfl, rfl, k _ H F (.refl sb) (.bl _)⟩
def intSD : D → Option D
  | .str a => if a.length ≤ 640 then (PySem.intText? a).map .int else none
  | _ => none
theorem cr_intS : CallR X (.type "int") (liftC1 X.K intSD) := by
  intro pins s σ H vs us Q I r h
  obtain ⟨F, x, d, o, rfl, sb, dx, eo, k⟩ := h
  unfold intSD at eo
  split at eo
  · split at eo
    · rename_i hz
      obtain ⟨n, e1, e2⟩ := Option.map_eq_some_iff.mp eo
      cases e2
      cases dv_str dx
      exact call_int_str pins s σ H _ us Q I r ⟨_, n, rfl, e1, hz, k _ H F (.refl sb) (.int _)⟩
    · cases eo
  · cases eo
def signsOf : D → Option (List D)
  | .str z => some (z.cps.toList.map fun c => .str ⟨#[c]⟩)
  | _ => none
def seqSM (f : EM) : AM := fun r => (f r).bind fun p => (signsOf p.1).map fun ds => (ds, p.2)
theorem walkD_str {K : PySem.W.Frag} {F : Hp} {z : Str} : WalkD K false F (Its z) (z.cps.toList.map fun c => PyData.str ⟨#[c]⟩) := by
  refine ⟨⟨fun i H v H' => H' = H ∧ ∃ c, z.cps[i]? = some c ∧ v = .str ⟨#[c]⟩, ?_, ?_⟩⟩
  · have : (z.cps.toList.map fun c => PyData.str ⟨#[c]⟩).length = z.cps.size := by simp
    rw [this]
    exact walk_str.mono (fun H hs => trivial) fun _ _ _ _ _ _ y => y
  · rintro i H x H' ⟨rfl, c, hc, rfl⟩ F' sb sh
    exact ⟨F', .str ⟨#[c]⟩, by simp [hc], .refl sh, .inl (.str _)⟩
theorem si_str (ha : SE X e f) : SI X false tg e (seqSM f) := ⟨⟨fun pins s σ H R I h => by
  obtain ⟨z, r, F, ds, r', Rr, e, k⟩ := h
  obtain ⟨⟨x, r1⟩, e1, e⟩ := Option.bind_eq_some_iff.mp e
  obtain ⟨ds', e2, e3⟩ := Option.map_eq_some_iff.mp e
  cases e3
  have e2 : signsOf x = some ds := e2
  cases x with
  | str y =>
    cases e2
    exact (pi_str ha.pe).run pins s σ H R I ⟨z, r, F, _, _, Rr, e1, fun v H' F' R' sb dv => ⟨y, dv.inv, k _ H' F' R' sb walkD_str⟩⟩
  | _ => cases e2⟩⟩
end
end DL
/-! a def called where it is known that no repr is under way -/
namespace DL
open PySem L2 PyProof.Rows PySem.Spec
/-- as FnOk, but only where it is known that nothing guarded runs around -/
structure FnG (P : Program) (w : World) (K : PySem.W.Frag) (mg : Str → Option Value) (base : Heap) (k : Nat) (f : Addr) (fd : FuncData) (ps : List Str) (sp : Sp) : Prop where
  len : ∀ vs H Q E, sp vs H Q E → vs.length = ps.length
  run : ∀ (A : Around) (outer : List Env) (s : Shared) (H : Hp) (args : Args) (us : List Value) (vs : List V) (Q : VK) (E : XK), A.guards = some [] → Room k A → Env0 P w K mg base A outer s H → BindsTo s fd args (ps.zip us) → Vals vs us → sp vs H Q E →
    codeAny (model P w) A (.call (.ref f) args) (CR CX0 outer P w H s Q E) s
section
variable {P : Program} {w : World} {K : PySem.W.Frag} {mg : Str → Option Value} {base : Heap}
theorem FnG.mono {j k : Nat} {f : Addr} {fd : FuncData} {ps : List Str} {sp : Sp} (F : FnG P w K mg base j f fd ps sp) (h : j ≤ k) : FnG P w K mg base k f fd ps sp :=
  ⟨F.len, fun A outer s H args us vs Q E hg room => F.run A outer s H args us vs Q E hg (room.mono h)⟩
end
end DL
/-! the law's call, where no repr is under way -/
namespace DL
open PySem L2 PyProof.Rows PySem.Spec
section
variable {P : Program} {w : World} {K : PySem.W.Frag} {mg mb : Str → Option Value} {s : Shared} {a : Addr} {vs : List Value} {ns : List Int} {H : Hp}
/-- the script's object -/
def scriptObj (vs : List Value) : Obj := { cls := .type "list", data := .seq vs.toArray }
/-- an abstract heap that tells at most of the script -/
structure Root (P : Program) (w : World) (K : PySem.W.Frag) (s : Shared) (a : Addr) (vs : List Value) (ns : List Int) (H : Hp) : Prop where
  none_ : ∀ b, b ≠ a → H b = none
  one_ : H a = none ∨ (H a = some (.frz (scriptObj vs) (.lst (ns.map V.int))) ∧ K.lookup a = none)
  sql : SqL K H a (ns.map V.int)
  hok : HOk P w H s.heap
/-- what is no script stands in the heap without what is told of -/
theorem Root.base (R : Root P w K s a vs ns H) {b : Addr} {o : Obj} (h : s.heap.get? b = some o) (n : b ≠ a ∨ H a = none) : (hidT s.heap H).get? b = some o := by
  refine hidT_get h ?_
  by_cases e : b = a
  · subst e
    exact n.elim (fun q => absurd rfl q) fun q => q
  · exact R.none_ b e
theorem Root.nsp (R : Root P w K s a vs ns H) (ha : s.heap.get? a = some (scriptObj vs)) {b : Addr} {m : Str → Option Value} (h : s.heap.Ns b m) : (hidT s.heap H).Ns b m := by
  obtain ⟨o, es, ep, at_, dat, rest⟩ := h
  refine ⟨o, es, ep, R.base at_ (.inl fun e => ?_), dat, rest⟩
  subst e
  rw [ha] at at_
  cases at_
  have dat : Data.seq vs.toArray _ = Data.dict es ep := dat
  cases dat
theorem Root.env (R : Root P w K s a vs ns H) (KX : K.In s.heap) (hns : s.heap.Ns mainGlobals mg) (hb : s.heap.Ns builtinsNs mb) (hbb : ∀ x : Str, x ≠ "__name__" → mb x = bootBuiltins x) (hlim : s.heap.NoLimit) (hg : s.gens = #[]) (ha : s.heap.get? a = some (scriptObj vs)) :
    Env0 P w K mg (hidT s.heap H) callerA [] s H := by
  have kin : K.In (hidT s.heap H) := fun b o q => R.base (KX b o q) (by
    rcases R.one_ with h | ⟨_, no⟩
    · exact .inr h
    · exact .inl fun e => by rw [e, no] at q; cases q)
  obtain ⟨mc, c1, c2⟩ := hlim
  exact {
    frames := rfl
    mod := ⟨kin, R.nsp ha hns, ⟨mb, R.nsp ha hb, hbb⟩, ⟨mc, R.nsp ha c1, c2⟩⟩
    bs := fun b o q => of_hidT q
    bsz := Nat.le_of_eq (hidT_size _ _)
    funs := trivial
    frf := fun b m => by cases m
    hok := R.hok
    bare := .of_eq hg }
/-- behind the call all that was there is there -/
theorem Root.old (R : Root P w K s a vs ns H) {Q : VK} {u : Value} {s' : Shared} (c : CE [] P w H s Q u s') : OldK s.heap s'.heap ∧ s'.os = s.os ∧ AllBare s'.gens := by
  obtain ⟨v, H', os, bare, un, hok', _, _⟩ := c
  refine ⟨OldK.of_keep fun b o at_ => ?_, os, bare⟩
  cases told : H b with
  | none => exact un.keep b o at_ told (by intro m; cases m) (by intro m; cases m)
  | some x =>
    have e : b = a := Classical.byContradiction fun n => by rw [R.none_ b n] at told; cases told
    subst e
    rcases R.one_ with n | ⟨y, _⟩
    · rw [n] at told; cases told
    · obtain ⟨g1, _⟩ := R.hok b _ y
      obtain ⟨g2, _⟩ := hok' b _ (un.frzs b _ _ y)
      rw [g1] at at_
      cases at_
      exact g2
end
end DL
/-! repr(t), str(t) of a tuple, where none is under way -/
namespace DL
open PySem L2 PyProof.Rows PySem.Spec
/-! ### the call of a def where no repr is under way -/
end DL
/-! calls as statements of their own, which may raise -/
namespace DL
open PySem L2 PyProof.Rows PySem.Spec
def exprXM (g : List D → Option (Except String D)) (f : AM) : SM := fun r => (f r).bind fun p => (g p.1).map fun o => match o with
  | .ok _ => .nx p.2
  | .error c => .ex c p.2
def callOXM (i : Nat) (g : List D → SV → Option (Except String D × SV)) (f : AM) : SM := fun r => (f r).bind fun p => (ownS i p.2).bind fun sv => (g p.1 (sv.as true)).map fun q => match q.1 with
  | .ok _ => .nx (p.2.set i (some (q.2.as sv.flag)))
  | .error c => .ex c (p.2.set i (some (q.2.as sv.flag)))
section
variable {X : Cx} {V : WX} {e : Expr} {es : List Expr} {pos rp p : Pos} {body : List Stmt} {f : SM}
theorem tb_call {k : Nat} {fa : Addr} {fd : FuncData} {ps : List Str} {g : List D → Option (Except String D)} {fn : Str} {fs : AM} (tk : Takes X V) (G : FnOk X.prog X.w X.K X.mg X.base (L2.CX X.prog X.w) k fa fd ps (spX X.K X.mg ps.length g)) (hr : Room k X.A) (hgf : Gl X fn) (hmf : X.mg fn = some (.ref fa)) (hkf : PySem.W.keepIn X.K (.ref fa) = true) (hbf : Binds X.K fd ps [])
    (ha : SA X (e :: es) fs) (hps : ps.length = (e :: es).length) (hsw : swapsWith (.Call (.Name fn p) (e :: es) [] pos) none rp.line X.env = pure false := by rfl)
    (hdb : (fn == ("__debug__" : Str)) = false := by decide) (he : starEach (e :: es) X.env = (false, eval e X.env) :: starEach es X.env := by rfl) (hpl : (backTo pos (starEach es X.env)).any (·.1) = false := by rfl) :
    TB X V [.Expr (.Call (.Name fn p) (e :: es) [] pos) rp] (exprXM g fs) :=
  ⟨pss_one (ps_imp (ps_expr (pe_callS G hr hgf hmf hkf hbf (fun σ => passAt tk σ) ha.pa hdb he hpl) hsw) fun D s H ⟨z, r, F, o, R, ev, k⟩ => by
    obtain ⟨⟨ds, r1⟩, e1, e2⟩ := Option.bind_eq_some_iff.mp ev
    obtain ⟨o1, e3, e4⟩ := Option.map_eq_some_iff.mp e2
    refine ⟨z, r, F, ds, r1, R, e1, fun vs H1 F1 R1 sb dv => ⟨?_, F1, ds, o1, R1.fh, dv, e3, fun H' F' gr => ⟨fun d v eo dd => ?_, fun c' eo C' at' => ?_⟩⟩⟩
    · rw [dpa_len dv, hps]
      exact ha.len _ _ _ e1
    · subst eo
      cases e4
      exact k _ _ _ (R1.grow gr) (sb.trans gr.ff)
    · subst eo
      cases e4
      exact k _ _ _ C' at' (R1.grow gr) (sb.trans gr.ff))⟩
theorem tb_callO {k : Nat} {fa : Addr} {fd : FuncData} {ps : List Str} {i j : Nat} {g : List D → SV → Option (Except String D × SV)} {fn : Str} {fs : AM} (tk : Takes X V) (G : FnOk X.prog X.w X.K X.mg X.base (L2.CX X.prog X.w) k fa fd ps (spOX X.K X.mg ps.length j g)) (hr : Room k X.A) (hgf : Gl X fn) (hmf : X.mg fn = some (.ref fa)) (hkf : PySem.W.keepIn X.K (.ref fa) = true) (hbf : Binds X.K fd ps [])
    (ha : SAr X (e :: es) fs i j) (hps : ps.length = (e :: es).length) (hsw : swapsWith (.Call (.Name fn p) (e :: es) [] pos) none rp.line X.env = pure false := by rfl)
    (hdb : (fn == ("__debug__" : Str)) = false := by decide) (he : starEach (e :: es) X.env = (false, eval e X.env) :: starEach es X.env := by rfl) (hpl : (backTo pos (starEach es X.env)).any (·.1) = false := by rfl) :
    TB X V [.Expr (.Call (.Name fn p) (e :: es) [] pos) rp] (callOXM i g fs) :=
  ⟨pss_one (ps_imp (ps_expr (pe_callS G hr hgf hmf hkf hbf (fun σ => passAt tk σ) ha.pa hdb he hpl) hsw) fun D s H ⟨z, r, F, o, R, ev, k⟩ => by
    obtain ⟨⟨ds, r1⟩, e1, ev⟩ := Option.bind_eq_some_iff.mp ev
    obtain ⟨sv, e2, ev⟩ := Option.bind_eq_some_iff.mp ev
    obtain ⟨⟨o', sv'⟩, e3, e4⟩ := Option.map_eq_some_iff.mp ev
    obtain ⟨hi, own⟩ := ownS_some e2
    have hi : r1[i]? = some (some sv) := hi
    refine ⟨z, r, F, ds, _, R, e1, fun vs H1 F1 R1 sb ⟨a, q1, q2⟩ dv => ?_⟩
    show spOX X.K X.mg ps.length j g vs H1 _ _
    obtain ⟨v, h1, rs⟩ := R1.slots i _ hi
    rw [q1] at h1; cases h1
    obtain ⟨a', ea, hf, h0, at_, hrf⟩ := rs.parts own
    cases ea
    have hl := dpa_len dv
    have hlen := ha.len _ _ _ e1
    have hjl : j < vs.length := (List.getElem?_eq_some_iff.mp q2).1
    rw [List.length_eraseIdx_of_lt hjl] at hl
    refine ⟨by rw [hps]; omega, F1, ds, a, sv.as true, o', sv', R1.fh, q2, dv, (as_at true).mpr at_, hf, as_flag true own, e3, fun H' F' keep ff fh nw qf parts new fl => ?_⟩
    have own' := new.own
    have R2 := R1.behind hi own q1 keep ff fh nw qf parts ((as_at sv.flag).mpr new) (as_flag _ own')
    constructor
    · intro d v ed dd
      subst ed
      cases e4
      exact k _ _ _ R2 (sb.trans ff)
    · intro c ec C' at'
      subst ec
      cases e4
      exact k _ _ _ C' at' R2 (sb.trans ff))⟩
/-- what a try's body may be, a def's body may be -/
theorem TB.sss {E : XK} (h : TB X (fun cls d _ H => E cls d H) body f) : SSs X (Let X.mg E) body f :=
  ⟨pss_imp h.ps fun D s H ⟨z, r, F, o, R, e, k⟩ => ⟨z, r, F, o, R, e, by
    cases o with
    | nx r => exact k
    | rt d r => exact k
    | bk r => exact k
    | ct r => exact k
    | ex c r => exact fun s' H' F' C m R' sb => k s' H' F' R' sb C m⟩⟩
end
/-! ### where an exception is handled -/
open L2H (RoomH PinOk cxH inv_startH)
/-- as FnOk, but that which is handled is p's, an exception of the class cls -/
structure FnW (P : Program) (w : World) (K : PySem.W.Frag) (mg : Str → Option Value) (base : Heap) (k : Nat) (f : Addr) (fd : FuncData) (ps : List Str) (sp : Addr → Value → Sp) : Prop where
  len : ∀ a cls vs H Q E, sp a cls vs H Q E → vs.length = ps.length
  run : ∀ (A : Around) (outer : List Env) (s : Shared) (H : Hp) (args : Args) (us : List Value) (vs : List V) (Q : VK) (E : XK) (p : Addr × Obj) (cls : Value), RoomH k A → A.handled = some (.ref p.1) → Zc cls none p.2 → (∃ xs, p.2.data = .fields xs) → PinOk outer H s p →
    Env0 P w K mg base A outer s H → BindsTo s fd args (ps.zip us) → Vals vs us → sp p.1 cls vs H Q E → codeAny (model P w) A (.call (.ref f) args) (CR CX0 outer P w H s Q E) s
theorem cxH_suite {CX : CXT} {P : Program} {w : World} {K : PySem.W.Frag} {mg : Str → Option Value} {base : Heap} {N : List Str} {qual : Str} {scope : Scope} {f : Addr} {cd : Value} {A : Around} {outer : List Env} {s : Shared} {H : Hp} {E : XK} {p : Addr × Obj} (h : A.handled = some (.ref p.1)) :
    (cxH CX P w K mg base N qual scope f cd A outer s H E p).nox = (cxOf CX P w K mg base N qual scope f cd A outer s H E).suite p.1 [p] := by
  have e : (A.deeper (envOfC qual scope s.heap.objs.size f cd)).mark (some (.ref p.1)) = A.deeper (envOfC qual scope s.heap.objs.size f cd) := by
    unfold Around.mark Around.deeper
    simp only [Option.some_or]
    rw [← h]
  unfold cxH cxOf
  simp only [Cx.nox, Cx.wish, Cx.suite]
  rw [e]
section
variable {P : Program} {w : World} {K : PySem.W.Frag} {mg : Str → Option Value} {base : Heap}
/-- a def by its body -/
theorem Fun.okW {x qual : Str} {st : Stmt} {f : Addr} {fd : FuncData} {N ps : List Str} {k : Nat} {sp : Addr → Value → Sp} (F : Fun K x qual st f fd) (S : FnScope N ps (defScope st)) (len : ∀ a cls vs H Q E, sp a cls vs H Q E → vs.length = ps.length)
    (body : ∀ (cdv : Value) (A : Around) (outer : List Env) (s : Shared) (H : Hp) (vs : List V) (Q : VK) (E : XK) (p : Addr × Obj) (cls : Value), RoomH k (A.deeper (envOfC qual (defScope st) s.heap.objs.size f cdv)) → Zc cls none p.2 → (∃ xs, p.2.data = .fields xs) → sp p.1 cls vs H Q E →
      ∃ t, PSs ((cxOf CX0 P w K mg base N qual (defScope st) f cdv A outer s H E).suite p.1 [p]) (defBody st) t ∧ t { nx := fun _ H' => Q .non H', rt := Q } (L2.start N vs) H) : FnW P w K mg base (k + 1) f fd ps sp := by
  obtain ⟨oc, od, kV, doc, pm, an, cdv, ct, osl, rfl, known, code⟩ := F.ex
  refine ⟨len, fun A outer s H args us vs Q E p cls room hh hz hf pin e0 binds vals want => ?_⟩
  obtain ⟨t, walk, from0⟩ := body cdv A outer s H vs Q E p cls (room.deeper _) hz hf want
  rw [← cxH_suite hh] at walk
  have here : ∀ b o, base.get? b = some o → s.heap.get? b = some o := fun b o q => (e0.bs b o q).1
  have frag : K.In s.heap := e0.mod.kin.keeps here
  have wayIn : ∀ y ∈ ps.zip us, (defScope st).names.lookup y.1 = some .local ∨ ((defScope st).names.lookup y.1 = some .cell ∧ ((cellsFrom (s.heap.objs.size + 1) (defScope st).names []).lookup y.1).isSome = true) := by
    rintro ⟨n, v⟩ hy
    exact (S.par n (List.of_mem_zip hy).1).imp (fun q => q) fun q => ⟨q, PySem.W.cellsFrom_some _ _ _ (.inl q)⟩
  refine codeAny_call_function room.depth (frag _ _ known) rfl S.co S.gen rfl (PySem.W.codeRec_of frag code) (binds _ _ _ _ (wpAny_newFunctionEnv_cells S.kind wayIn ?_))
  rintro env rfl s1 made
  refine ⟨(e0.mod.nolimit.keeps here).keeps made.toInCall.keep, codeAny_func ?_⟩
  have I := inv_startH (CX := CX0) (E := E) (f := f) (cd := cdv) S pin e0 (len _ _ _ _ _ _ want) vals made
  refine wpAny_mono (walk.run [] s1 (L2.start N vs) H _ (I.wish _) from0) ?_ fun _ _ h => h.elim
  intro fl s' h
  have fin : ∀ {σ : L2.St} {H' : Hp} {v : V} {u : Value}, L2.Inv ((cxH CX0 P w K mg base N qual (defScope st) f cdv A outer s H E p).nox) [] σ H' s' → RelV v u → Q v H' → CE outer P w H s Q u s' :=
    fun {σ H' v u} J rel q => ⟨v, H', J.os, J.bare, J.base, J.hok, rel, q⟩
  match fl, h with
  | .ret u, ⟨v, σ, H', J, rel, q⟩ => exact fin J rel q
  | .next, ⟨σ, H', J, q⟩ => exact fin (v := .non) (u := .none) J rfl q
  | .brk, ⟨_, _, _, q⟩ => exact q.elim
  | .cont, ⟨_, _, _, q⟩ => exact q.elim
end
end DL
/-! except .. as e, where e is handed to a def that looks at its class -/
namespace DL
open PySem L2 PyProof.Rows PySem.Spec
open L2H (RoomH PinOk)
/-- isinstance(x, C), x in slot i, an exception -/
def isxM (i : Nat) (a : Addr) (b : Bool) : EM := fun r => match r[i]? with
  | some (some (.ad a')) => if a' = a then some (.bool b, r) else none
  | _ => none
theorem isxM_some {i : Nat} {a : Addr} {b : Bool} {r r' : Rho} {d : D} (h : isxM i a b r = some (d, r')) : r[i]? = some (some (.ad a)) ∧ d = .bool b ∧ r' = r := by
  unfold isxM at h
  split at h
  · rename_i a' e
    split at h
    · rename_i q
      subst q
      cases h
      exact ⟨e, rfl, rfl⟩
    · cases h
  · cases h
theorem un1H {k : Nat} {A : Around} (hr : RoomH k A) : Un1 A := by
  have := hr.un
  exact ⟨by omega, by omega, by omega, by omega, by omega⟩
section
variable {X : Cx} {a D0 : Addr} {oe : Obj} {pn : List (Addr × Obj)} {pos p1 p2 p3 : Pos}
theorem isx_go {i : Nat} {b : Bool} {c : V} {cv : Value} (hcv : ∀ u, RelV c u → u = cv) (hk : PySem.W.kitOne X.K (.ref D0) cv = some b) {s : L2.St} {H : Hp} {Q : VK} (q : liftE X.K (isxM i a b) s H Q) : tVar i s H fun v H1 => rIsE X.K D0 a [v, c] H1 Q := by
  obtain ⟨z, r, F, d, r', R, e, k⟩ := q
  obtain ⟨e1, rfl, rfl⟩ := isxM_some e
  obtain ⟨v, h1, h2⟩ := R.slots i _ e1
  have h2 : v = .ref a := h2
  subst h2
  exact ⟨_, h1, c, cv, b, rfl, hcv, hk, k _ H F R (.refl _) (.bl b)⟩
theorem se_isx {i : Nat} {b : Bool} {x y : Str} {C : Addr} (EC : ExcC X.K D0) (hz : Zc (.ref D0) none oe) (hf : ∃ vs, oe.data = .fields vs) (hg : Gl X "isinstance") (hm : X.mg "isinstance" = none) (hgy : Gl X y) (hmy : X.mg y = some (.ref C)) (hk : PySem.W.kitOne X.K (.ref D0) (.ref C) = some b)
    (hN : X.N[i]? = some x := by rfl) (hv : Vis X.env.scope x := by first | exact Or.inl rfl | exact Or.inr (Or.inl rfl) | exact Or.inr (Or.inr rfl)) (hd : (x == ("__debug__" : Str)) = false := by decide) (hcd : (x == ("__classdict__" : Str)) = false := by decide) (hdy : (y == ("__debug__" : Str)) = false := by decide)
    (he : starEach [.Name x p2, .Name y p3] X.env = [(false, eval (.Name x p2) X.env), (false, eval (.Name y p3) X.env)] := by rfl) (he2 : starEach [.Name y p3] X.env = [(false, eval (.Name y p3) X.env)] := by rfl) (hvb : bootBuiltins "isinstance" = some (.builtin "isinstance") := by decide +kernel) :
    SE (X.suite a ((a, oe) :: pn)) (.Call (.Name "isinstance" p1) [.Name x p2, .Name y p3] [] pos) (isxM i a b) :=
  ⟨pe_imp (pe_callB (X := X.suite a ((a, oe) :: pn)) (call_isE EC hz hf) hg hm hvb (pa_cons (X := X.suite a ((a, oe) :: pn)) (pe_var (X := X.suite a ((a, oe) :: pn)) hN hv hd hcd) (pa_cons (X := X.suite a ((a, oe) :: pn)) (pe_glob (X := X.suite a ((a, oe) :: pn)) (v := .ref C) hgy hmy rfl hdy) pa_nil he2) (by rw [he, he2])) (by decide) (by decide) (by rw [he, he2]) (by rw [he2]; rfl))
    fun s H Q q => isx_go (X := X) (c := .ref C) (cv := .ref C) (fun u r => r) hk q⟩
theorem se_isxB {i : Nat} {b : Bool} {x y : Str} {n : String} (EC : ExcC X.K D0) (hz : Zc (.ref D0) none oe) (hf : ∃ vs, oe.data = .fields vs) (hg : Gl X "isinstance") (hm : X.mg "isinstance" = none) (hgy : Gl X y) (hmy : X.mg y = none) (hvy : bootBuiltins y = some (.type n)) (hk : PySem.W.kitOne X.K (.ref D0) (.type n) = some b)
    (hN : X.N[i]? = some x := by rfl) (hv : Vis X.env.scope x := by first | exact Or.inl rfl | exact Or.inr (Or.inl rfl) | exact Or.inr (Or.inr rfl)) (hd : (x == ("__debug__" : Str)) = false := by decide) (hcd : (x == ("__classdict__" : Str)) = false := by decide) (hdy : (y == ("__debug__" : Str)) = false := by decide) (hny : y ≠ "__name__" := by decide)
    (he : starEach [.Name x p2, .Name y p3] X.env = [(false, eval (.Name x p2) X.env), (false, eval (.Name y p3) X.env)] := by rfl) (he2 : starEach [.Name y p3] X.env = [(false, eval (.Name y p3) X.env)] := by rfl) (hvb : bootBuiltins "isinstance" = some (.builtin "isinstance") := by decide +kernel) :
    SE (X.suite a ((a, oe) :: pn)) (.Call (.Name "isinstance" p1) [.Name x p2, .Name y p3] [] pos) (isxM i a b) :=
  ⟨pe_imp (pe_callB (X := X.suite a ((a, oe) :: pn)) (call_isE EC hz hf) hg hm hvb (pa_cons (X := X.suite a ((a, oe) :: pn)) (pe_var (X := X.suite a ((a, oe) :: pn)) hN hv hd hcd) (pa_cons (X := X.suite a ((a, oe) :: pn)) (pe_bltn (X := X.suite a ((a, oe) :: pn)) (v := .ty n) hgy hmy hvy rfl hny hdy) pa_nil he2) (by rw [he, he2])) (by decide) (by decide) (by rw [he, he2]) (by rw [he2]; rfl))
    fun s H Q q => isx_go (X := X) (c := .ty n) (cv := .type n) (fun u r => r) hk q⟩
/-- a def called in the suite -/
theorem pe_callW {k : Nat} {fa : Addr} {fd : FuncData} {ps : List Str} {sp : Addr → Value → Sp} {cls : Value} {fn : Str} {e : Expr} {es : List Expr} {t : TA} (F : FnW X.prog X.w X.K X.mg X.base k fa fd ps sp) (hr : RoomH k X.A) (hz : Zc cls none oe) (hf : ∃ xs, oe.data = .fields xs) (hg : Gl X fn) (hm : X.mg fn = some (.ref fa)) (hk : PySem.W.keepIn X.K (.ref fa) = true) (hb : Binds X.K fd ps [])
    (ha : PA (X.suite a ((a, oe) :: pn)) (e :: es) t) (hdb : (fn == ("__debug__" : Str)) = false := by decide) (he : starEach (e :: es) X.env = (false, eval e X.env) :: starEach es X.env := by rfl) (hpl : (backTo pos (starEach es X.env)).any (·.1) = false := by rfl) :
    PE (X.suite a ((a, oe) :: pn)) (.Call (.Name fn p1) (e :: es) [] pos) (fun σ H Q => t σ H fun vs H1 => sp a cls vs H1 Q E0) := by
  constructor
  intro pins s σ H Q I want
  refine wpAny_Call_Name_kw (ld_glob I hg hm ?_ hdb)
  refine PySem.W.callWith_K (h₀ := X.base) I.ok.mod.kin hk (thn (ha.run pos pins s σ H _ I want) ?_) he hpl
  rintro us s1 ⟨vs, H1, I1, vals, asked⟩
  have P1 := I1.pin (a, oe) (List.mem_append_left _ List.mem_cons_self)
  have hpin : PinOk X.stack H1 s1 (a, oe) := ⟨P1.1, P1.2.1, fun hm => (List.mem_cons.mp (I1.stkSub a hm)).elim P1.2.2.1 P1.2.2.2.1, P1.2.2.2.2⟩
  have hh : (X.suite a ((a, oe) :: pn)).A.handled = some (.ref a) := by
    show (X.A.mark (some (.ref a))).handled = _
    unfold Around.mark
    simp
  have hr' : RoomH k (X.suite a ((a, oe) :: pn)).A := ⟨hr.dp, hr.un⟩
  refine ⟨I1.kIn, wpAny_call (codeAny_mono (F.run (X.suite a ((a, oe) :: pn)).A X.stack s1 H1 ⟨us, []⟩ us vs Q E0 (a, oe) cls hr' hh hz hf hpin I1.env0 ?_ vals asked) ?_)⟩
  · have := hb s1 us I1.kIn (by rw [List.append_nil, ← vals.length]; exact F.len _ _ _ _ _ _ asked)
    rwa [List.append_nil] at this
  · intro r s' h
    match r, h with
    | .error _, h => exact False.elim h
    | .ok .next, h => exact False.elim h
    | .ok .brk, h => exact False.elim h
    | .ok .cont, h => exact False.elim h
    | .ok (.ret u), h => exact I1.after h
end
/-! ### a def that looks at an exception's class -/
def startX (N : List Str) (a : Addr) : Rho := some (.ad a) :: List.replicate (N.length - 1) none
/-- what is told of each class -/
def spK (K : PySem.W.Frag) (mg : Str → Option Value) (rs : List String) (kD : String → D) : Addr → Value → Sp := fun a cls vs H Q E => vs = [.ref a] ∧ ∃ c C F, c ∈ rs ∧ mg (Str.ofString c) = some (.ref C) ∧ cls = .ref C ∧ SubH F H ∧ ∀ v H' F', Grow F H F' H' → Dp K F' v (kD c) → Q v H'
theorem rep_startX {K : PySem.W.Frag} {N : List Str} {F H : Hp} {a : Addr} (sb : SubH F H) (hn : 1 ≤ N.length) : Rep K ⟨H, F, fun _ => none⟩ (startX N a) (L2.start N [.ref a]) H F := by
  have one : ∀ {i : Nat} {sv : SV}, (startX N a)[i]? = some (some sv) → i = 0 ∧ sv = .ad a := fun {i sv} e => by
    unfold startX at e
    cases i with
    | zero => simp at e; exact ⟨rfl, e.symm⟩
    | succ i =>
      rw [List.getElem?_cons_succ, List.getElem?_replicate] at e
      split at e <;> cases e
  refine ⟨sb, .refl _, .refl _, fun _ _ q => .inl q, fun i sv e => ?_, fun i j b ⟨x, _, e1, o1, _⟩ _ => ?_, ?_⟩
  · obtain ⟨rfl, rfl⟩ := one e
    exact ⟨.ref a, rfl, rfl⟩
  · obtain ⟨_, rfl⟩ := one e1
    cases o1
  · unfold startX L2.start
    simp only [List.length_append, List.length_map, List.length_replicate, List.length_cons, List.length_nil]
    omega
section
variable {P : Program} {w : World} {K : PySem.W.Frag} {mg : Str → Option Value} {base : Heap}
theorem fn_runW {x qual : Str} {st : Stmt} {f : Addr} {fd : FuncData} {N : List Str} {y : Str} {k : Nat} {rs : List String} {kD : String → D} (body : String → Addr → SM) (F : Fun K x qual st f fd) (S : FnScope N [y] (defScope st))
    (hb : ∀ (cdv : Value) (A : Around) (outer : List Env) (s : Shared) (H : Hp) (E : XK) (p : Addr × Obj) (c : String) (C : Addr), c ∈ rs → mg (Str.ofString c) = some (.ref C) → RoomH k (A.deeper (envOfC qual (defScope st) s.heap.objs.size f cdv)) → Zc (.ref C) none p.2 → (∃ xs, p.2.data = .fields xs) →
      SSs ((cxOf CX0 P w K mg base N qual (defScope st) f cdv A outer s H E).suite p.1 [p]) (fun _ _ => False) (defBody st) (body c p.1))
    (hv : ∀ c ∈ rs, ∀ a, ∃ r', body c a (startX N a) = some (.rt (kD c) r')) : FnW P w K mg base (k + 1) f fd [y] (spK K mg rs kD) := by
  refine Fun.okW F S (fun a cls vs H Q E h => by rw [h.1]; rfl) fun cdv A outer s H vs Q E p cls room hz hf want => ?_
  obtain ⟨rfl, c, C, F0, mc, hC, rfl, sb, q⟩ := want
  refine ⟨_, (hb cdv A outer s H E p c C mc hC room hz hf).ps, ?_⟩
  obtain ⟨r', e⟩ := hv c mc p.1
  have fit : ([y] : List Str).length ≤ N.length := names_fit S
  have R := rep_startX (K := K) (N := N) (a := p.1) sb (by simpa using fit)
  exact ⟨⟨H, F0, fun _ => none⟩, _, F0, _, R, e, fun v s' H' F' R' _ dd => q v H' F' ⟨R'.f0, R'.old, R'.fh, R'.nw⟩ dd⟩
end
/-! ### the try -/
def tryAM (rs : List String) (i : Nat) (f : SM) (h : String → SM) : SM := fun r => (f r).bind fun o => match o with
  | .ex c r' => if rs.contains c = true then h c (r'.set i none) else none
  | o => some o
/-- the suite's statement: slot i, which it does not know, holds the exception -/
def liftH (K : PySem.W.Frag) (W : String → Hp → Prop) (i : Nat) (a : Addr) (h : SM) : TS := fun D σ H => ∃ z r F o, Rep K z r σ H F ∧ (∀ sv, r[i]? ≠ some (some sv)) ∧ σ[i]? = some (some (V.ref a)) ∧ h r = some o ∧ outOk K z F W D o
/-- the slot is as unknown behind -/
def blindO (i : Nat) : Out → Prop
  | .nx r => ∀ sv, r[i]? ≠ some (some sv)
  | .ct r => ∀ sv, r[i]? ≠ some (some sv)
  | .bk r => ∀ sv, r[i]? ≠ some (some sv)
  | _ => True
theorem Rep.unseen {K : PySem.W.Frag} {z : Fx} {r : Rho} {s : L2.St} {H F : Hp} (R : Rep K z r s H F) {i : Nat} {x : Option V} (h : ∀ sv, r[i]? ≠ some (some sv)) : Rep K z r (s.set i x) H F := by
  have ne : ∀ {j : Nat} {sv : SV}, r[j]? = some (some sv) → j ≠ i := fun {j sv} e q => h sv (q ▸ e)
  refine ⟨R.fh, R.old, R.f0, R.nw, fun j sv e => ?_, R.ap.sub fun j b ⟨sv, a, e1, o1, s1, p⟩ => ⟨sv, a, e1, o1, ?_, p⟩, by rw [List.length_set]; exact R.len⟩
  · obtain ⟨v, h1, h2⟩ := R.slots j sv e
    exact ⟨v, by rw [List.getElem?_set_ne (Ne.symm (ne e))]; exact h1, h2⟩
  · rw [List.getElem?_set_ne (Ne.symm (ne e1))] at s1
    exact s1
section
variable {X : Cx} {W : String → Hp → Prop} {rs : List String} {f : SM} {h : String → SM} {P : Addr} {x n : Str} {i : Nat} {body suite : List Stmt} {b₀ : Stmt} {np pos pos' : Pos}
theorem ss_tryAs (hstk : X.stack = X.env :: X.outer) (hfr : X.env.frame = some X.env.locals) (hN : X.N.Nodup) (hi : X.N[i]? = some n) (hln : X.env.kindOf n = some .local) (hP : Names X x (.ref P)) (sup : ∀ c ∈ rs, ∀ C, X.mg (Str.ofString c) = some (.ref C) → PySem.W.exmOne X.K (.ref C) (.ref P) = some true)
    (hb : ∀ (V : WX) (pn : List (Addr × Obj)) (xe : Value → Shared → Prop), Takes (X.tr pn xe) V → TB (X.tr pn xe) V body f)
    (hs : ∀ (a : Addr) (oe : Obj) (pn : List (Addr × Obj)) (c : String) (C : Addr), c ∈ rs → X.mg (Str.ofString c) = some (.ref C) → Zc (.ref C) none oe → (∃ vs, oe.data = .fields vs) → PSs (X.suite a ((a, oe) :: pn)) (b₀ :: suite) (liftH X.K W i a (h c)))
    (hn : ∀ c r o, (∀ sv, r[i]? ≠ some (some sv)) → h c r = some o → blindO i o) :
    SS X W (.Try body [.ExceptHandler (some (.Name x np)) (some n) (b₀ :: suite) pos'] [] [] pos) (tryAM rs i f h) := by
  refine ⟨ps_imp (ps_try_as (tb := fun V => liftB X.K X.mg V f) (ts := fun a cls d D σ H => ∃ c C, c ∈ rs ∧ X.mg (Str.ofString c) = some (.ref C) ∧ cls = .ref C ∧ d = none ∧ (i < σ.length → liftH X.K W i a (h c) D σ H)) (Wout := fun _ _ _ _ => False) hstk hfr hN hi hln hP takes0
    (fun V pn xe tk _ => (hb V pn xe tk).ps) (fun a oe cls d pn hz hf => ?_)) fun D s H ⟨z, r, F, o, R, e, k⟩ => ?_⟩
  · constructor
    intro pins s σ H D I ⟨c, C, mc, hC, e1, e2, q⟩
    subst e1 e2
    exact (hs a oe pn c C mc hC hz hf).run pins s σ H D I (q (by rw [I.len]; exact (List.getElem?_eq_some_iff.mp hi).1))
  · obtain ⟨o1, e1, e2⟩ := Option.bind_eq_some_iff.mp e
    refine ⟨z, r, F, o1, R, e1, ?_⟩
    cases o1 with
    | nx r' => cases e2; exact k
    | rt d r' => cases e2; exact k
    | bk r' => cases e2; exact k
    | ct r' => cases e2; exact k
    | ex c r' =>
      have e2 : (if rs.contains c = true then h c (r'.set i none) else none) = some o := e2
      split at e2
      · rename_i m
        have mc : c ∈ rs := List.contains_iff_mem.mp m
        intro s' H' F' C hC R' sb
        refine ⟨true, sup c mc C hC, fun _ a _ => ⟨c, C, mc, hC, rfl, rfl, fun lt => ?_⟩, fun q => by cases q⟩
        have un : ∀ sv, (r'.set i none)[i]? ≠ some (some sv) := fun sv q => by
          by_cases li : i < r'.length
          · rw [List.getElem?_set_self li] at q; cases q
          · rw [List.getElem?_eq_none (by simpa using li)] at q; cases q
        have R1 : Rep X.K z (r'.set i none) s' H' F' := R'.forget [i]
        refine ⟨z, r'.set i none, F', o, R1.unseen un, un, ?_, e2, ?_⟩
        · rw [List.length_set] at lt
          exact List.getElem?_set_self lt
        · have bl := hn c _ o un e2
          have k' := k.mono sb
          cases o with
          | nx r2 => exact fun s2 H2 F2 (R2 : Rep X.K z r2 s2 H2 F2) sb2 => k' _ H2 F2 (R2.unseen bl) sb2
          | rt d r2 => exact k'
          | bk r2 => exact fun s2 H2 F2 (R2 : Rep X.K z r2 s2 H2 F2) sb2 => k' _ H2 F2 (R2.unseen bl) sb2
          | ct r2 => exact fun s2 H2 F2 (R2 : Rep X.K z r2 s2 H2 F2) sb2 => k' _ H2 F2 (R2.unseen bl) sb2
          | ex c2 r2 => exact k'
      · cases e2
end
end DL
/-! the suite that hands the exception on; a new seeker's method as a statement of its own -/
namespace DL
open PySem L2 PyProof.Rows PySem.Spec
open L2H (RoomH PinOk)
theorem kit_of_exm {K : PySem.W.Frag} {t : Value} {C : Addr} {b : Bool} (h : PySem.W.exmOne K t (.ref C) = some b) (e : t = .ref C → b = true) : PySem.W.kitOne K t (.ref C) = some b := by
  unfold PySem.W.exmOne at h
  unfold PySem.W.kitOne
  split at h
  · split
    · rename_i q
      rw [e (eq_of_beq q)]
    · exact h
  · cases h
theorem kit_of_sub {K : PySem.W.Frag} {e : Addr} {T : String} {b : Bool} (h : PySem.W.subIn K (.ref e) (.type T) = some b) (hm : PySem.W.kitMeta T = true) : PySem.W.kitOne K (.ref e) (.type T) = some b := by
  unfold PySem.W.kitOne
  rw [if_neg (by simp)]
  unfold PySem.W.kitCls
  simp only
  rw [if_pos hm]
  exact h
theorem kit_value : PySem.W.kitMeta "ValueError" = true := by decide +kernel
section
variable {X : Cx} {W : String → Hp → Prop} {a : Addr} {oe : Obj} {pn : List (Addr × Obj)} {k : Nat} {fa : Addr} {fd : FuncData} {y : Str} {rs : List String} {kD : String → D} {c : String} {C : Addr} {fn x : Str} {i : Nat} {p1 p2 pc pos : Pos}
theorem suite_ret (F : FnW X.prog X.w X.K X.mg X.base k fa fd [y] (spK X.K X.mg rs kD)) (hr : RoomH k X.A) (mc : c ∈ rs) (hC : X.mg (Str.ofString c) = some (.ref C)) (hz : Zc (.ref C) none oe) (hf : ∃ xs, oe.data = .fields xs) (hg : Gl X fn) (hm : X.mg fn = some (.ref fa)) (hk : PySem.W.keepIn X.K (.ref fa) = true) (hb : Binds X.K fd [y] [])
    (hN : X.N[i]? = some x := by rfl) (hv : Vis X.env.scope x := by first | exact Or.inl rfl | exact Or.inr (Or.inl rfl) | exact Or.inr (Or.inr rfl)) (hd : (x == ("__debug__" : Str)) = false := by decide) (hcd : (x == ("__classdict__" : Str)) = false := by decide)
    (hdb : (fn == ("__debug__" : Str)) = false := by decide) (he : starEach [.Name x p2] X.env = (false, eval (.Name x p2) X.env) :: starEach [] X.env := by rfl) (hpl : (backTo pc (starEach [] X.env)).any (·.1) = false := by rfl) :
    PSs (X.suite a ((a, oe) :: pn)) [.Return (some (.Call (.Name fn p1) [.Name x p2] [] pc)) pos] (liftH X.K W i a (retM (cM (kD c)))) :=
  pss_one (ps_imp (ps_ret (pe_callW F hr hz hf hg hm hk hb (pa_cons (X := X.suite a ((a, oe) :: pn)) (pe_var (X := X.suite a ((a, oe) :: pn)) hN hv hd hcd) pa_nil he) hdb he hpl)) fun D σ H ⟨z, r, F0, o, R, un, at_, e, q⟩ => by
    cases e
    exact ⟨_, at_, rfl, c, C, F0, mc, hC, rfl, R.fh, fun v H' F' G dd => q v _ H' F' (R.grow G) G.ff dd⟩)
theorem blind_ret {i : Nat} {d : D} {r : Rho} {o : Out} (h : retM (cM d) r = some o) : blindO i o := by cases h; trivial
end
/-! ### C(..).m() -/
end DL
namespace PG
open PySem L2 DL
def N_is_whole : List Str := ["thing", "low", "high"]
def b_is_whole : SM :=
    (retM (andVM (unM (isiD .int) (varM 0)) (andVM (notVM (unM (isiD .bool) (varM 0))) (chM leB leB (varM 1) (varM 0) (varM 2)))))
def g_is_whole : List D → Option D := runF N_is_whole b_is_whole
def N_are_rising : List Str := ["row", "one", "two"]
def Ce_are_rising_1 : EM :=
    (opM (bD ltB) (varM 1) (varM 2))
def b_are_rising : SM :=
    (retM (unM allD (ofL (compM [1, 2] (zipM (slM (varM 0) noM (someM (unM negD (cM (PyData.int 1))))) (slM (varM 0) (someM (cM (PyData.int 1))) noM)) (tupG 2 (consG (nameG 1) (consG (nameG 2) nilG))) yesM Ce_are_rising_1))))
def g_are_rising : List D → Option D := runF N_are_rising b_are_rising
def N_is_tie : List Str := ["thing", "many", "one"]
def Ce_is_tie_1 : EM :=
    (callM g_is_whole (consM (varM 2) (consM (cM (PyData.int 0)) (consM (opM subD (varM 1) (cM (PyData.int 1))) nilM))))
def b_is_tie : SM :=
    (seqS (ifM (orM (notM (truM (unM (isiD .tuple) (varM 0)))) (orM (tstM neB (unM lenD (varM 0)) (cM (PyData.int 2))) (notM (truM (unM allD (ofL (compM [2] (seqM (varM 0)) (nameG 2) yesM Ce_is_tie_1))))))) (retM (cM (PyData.bool false))) skipM)
    (retM (opM (bD ltB) (opM ixD (varM 0) (cM (PyData.int 0))) (opM ixD (varM 0) (cM (PyData.int 1))))))
def g_is_tie : List D → Option D := runF N_is_tie b_is_tie
def N_is_net : List Str := ["thing", "many", "ties", "rim", "tie", "knot"]
def Ce_is_net_1 : EM :=
    (callM g_is_tie (consM (varM 4) (consM (varM 1) nilM)))
def Ce_is_net_2 : EM :=
    (callM g_is_whole (consM (varM 5) (consM (cM (PyData.int 0)) (consM (opM subD (varM 1) (cM (PyData.int 1))) nilM))))
def b_is_net : SM :=
    (seqS (ifM (orM (notM (truM (unM (isiD .tuple) (varM 0)))) (orM (tstM neB (unM lenD (varM 0)) (cM (PyData.int 3))) (notM (truM (callM g_is_whole (consM (opM ixD (varM 0) (cM (PyData.int 0))) (consM (cM (PyData.int 1)) (consM (cM (PyData.int 7)) nilM)))))))) (retM (cM (PyData.bool false))) skipM)
    (seqS (asgG (tupG 3 (consG (nameG 1) (consG (nameG 2) (consG (nameG 3) nilG)))) (varM 0))
    (seqS (ifM (orM (notM (truM (unM (isiD .tuple) (varM 2)))) (orM (tstM gtD (unM lenD (varM 2)) (cM (PyData.int 9))) (notM (truM (unM allD (ofL (compM [4] (seqM (varM 2)) (nameG 4) yesM Ce_is_net_1))))))) (retM (cM (PyData.bool false))) skipM)
    (seqS (ifM (orM (notM (truM (unM (isiD .tuple) (varM 3)))) (orM (tstM eqB (varM 3) (tupM nilM)) (notM (truM (unM allD (ofL (compM [5] (seqM (varM 3)) (nameG 5) yesM Ce_is_net_2))))))) (retM (cM (PyData.bool false))) skipM)
    (retM (andVM (callM g_are_rising (consM (varM 2) nilM)) (callM g_are_rising (consM (varM 3) nilM))))))))
def g_is_net : List D → Option D := runF N_is_net b_is_net
def N_tie_between : List Str := ["net", "one", "other", "tie"]
def b_tie_between : SM :=
    (seqS (asgM 3 (tupM (consM (opM min2D (varM 1) (varM 2)) (consM (opM max2D (varM 1) (varM 2)) nilM))))
    (seqS (ifM (tstM notInB (varM 3) (opM ixD (varM 0) (cM (PyData.int 1)))) (exM "NoTie") skipM)
    (retM (opM indexD (opM ixD (varM 0) (cM (PyData.int 1))) (varM 3)))))
def g_tie_between : List D → Option D := runF N_tie_between b_tie_between
def N_beside : List Str := ["net", "knot", "found", "other"]
def Ct_beside_1 : TM :=
    (tstM inB (tupM (consM (opM min2D (varM 1) (varM 3)) (consM (opM max2D (varM 1) (varM 3)) nilM))) (opM ixD (varM 0) (cM (PyData.int 1))))
def Ce_beside_1 : EM :=
    (varM 3)
def b_beside : SM :=
    (seqS (asgLM 2 (compM [3] (rng1M (opM ixD (varM 0) (cM (PyData.int 0)))) (nameG 3) Ct_beside_1 Ce_beside_1))
    (retM (unM tupleD (varM 2))))
def g_beside : List D → Option D := runF N_beside b_beside
def N_without : List Str := ["net", "broken", "number", "tie"]
def Ct_without_1 : TM :=
    (tstM notInB (varM 2) (varM 1))
def Ce_without_1 : EM :=
    (varM 3)
def b_without : SM :=
    (retM (tupM (consM (opM ixD (varM 0) (cM (PyData.int 0))) (consM (unM tupleD (ofL (compM [2, 3] (enumM (opM ixD (varM 0) (cM (PyData.int 1)))) (tupG 2 (consG (nameG 2) (consG (nameG 3) nilG))) Ct_without_1 Ce_without_1))) (consM (opM ixD (varM 0) (cM (PyData.int 2))) nilM)))))
def g_without : List D → Option D := runF N_without b_without
def N_reached : List Str := ["net", "broken", "knot", "left", "found", "todo", "other"]
def F_reached_1 : SM :=
    (ifM (inDM true 4 (varM 6)) (seqS (putM 4 (varM 6) (cM (PyData.bool true)))
    (exprM (appM 5 (varM 6)))) skipM)
def Wt_reached_1 : TM :=
    (truM (ownM 5))
def Wb_reached_1 : SM :=
    (forM (seqM (callM g_beside (consM (varM 3) (consM (popM 5) nilM)))) (nameG 6) F_reached_1)
def b_reached : SM :=
    (seqS (asgM 3 (callM g_without (consM (varM 0) (consM (varM 1) nilM))))
    (seqS (newDispM 4 (varM 2) (cM (PyData.bool true)))
    (seqS (newM 5 (lstM (consM (varM 2) nilM)))
    (seqS (whileL Wt_reached_1 Wb_reached_1 1000)
    (retM (unM tupleD (sortIM 4)))))))
def g_reached : List D → Option D := runF N_reached b_reached
def N_led_on : List Str := ["net", "way", "found", "knot"]
def F_led_on_1 (hh : List D → Option D) : SM :=
    (ifM (tstM notInB (varM 3) (varM 1)) (exprM (extM 2 (callM hh (consM (varM 0) (consM (opM addD (varM 1) (tupM (consM (varM 3) nilM))) nilM))))) skipM)
def b_led_on (hh : List D → Option D) : SM :=
    (seqS (newM 2 (lstM nilM))
    (seqS (ifM (andM (tstM gtD (unM lenD (varM 1)) (cM (PyData.int 1))) (andM (tstM inB (opM ixD (varM 1) (unM negD (cM (PyData.int 1)))) (opM ixD (varM 0) (cM (PyData.int 2)))) (tstM ltB (opM ixD (varM 1) (cM (PyData.int 0))) (opM ixD (varM 1) (unM negD (cM (PyData.int 1))))))) (exprM (appM 2 (varM 1))) skipM)
    (seqS (forM (seqM (callM g_beside (consM (varM 0) (consM (opM ixD (varM 1) (unM negD (cM (PyData.int 1)))) nilM)))) (nameG 3) (F_led_on_1 hh))
    (frzM 2 (retM (varM 2))))))
def gr_led_on : Nat → List D → Option D
  | 0 => fun _ => none
  | nn + 1 => runF N_led_on (b_led_on (gr_led_on nn))
def g_led_on : List D → Option D := gr_led_on 40
def N_routes : List Str := ["net", "found", "knot"]
def F_routes_1 : SM :=
    (exprM (extM 1 (callM g_led_on (consM (varM 0) (consM (tupM (consM (varM 2) nilM)) nilM)))))
def b_routes : SM :=
    (seqS (newM 1 (lstM nilM))
    (seqS (forM (seqM (opM ixD (varM 0) (cM (PyData.int 2)))) (nameG 2) F_routes_1)
    (retM (unM tupleD (unM sortD2 (ownM 1))))))
def g_routes : List D → Option D := runF N_routes b_routes
def N_is_route : List Str := ["net", "thing", "one", "other"]
def Ce_is_route_1 : EM :=
    (callM g_is_whole (consM (varM 2) (consM (cM (PyData.int 0)) (consM (opM subD (opM ixD (varM 0) (cM (PyData.int 0))) (cM (PyData.int 1))) nilM))))
def Ce_is_route_2 : EM :=
    (opM (bD inB) (varM 3) (callM g_beside (consM (varM 0) (consM (varM 2) nilM))))
def b_is_route : SM :=
    (seqS (ifM (orM (notM (truM (unM (isiD .tuple) (varM 1)))) (orM (tstM ltB (unM lenD (varM 1)) (cM (PyData.int 2))) (notM (truM (unM allD (ofL (compM [2] (seqM (varM 1)) (nameG 2) yesM Ce_is_route_1))))))) (retM (cM (PyData.bool false))) skipM)
    (seqS (ifM (orM (tstM neB (unM lenSetD (varM 1)) (unM lenD (varM 1))) (orM (tstM notInB (opM ixD (varM 1) (cM (PyData.int 0))) (opM ixD (varM 0) (cM (PyData.int 2)))) (orM (tstM notInB (opM ixD (varM 1) (unM negD (cM (PyData.int 1)))) (opM ixD (varM 0) (cM (PyData.int 2)))) (tstM gtD (opM ixD (varM 1) (cM (PyData.int 0))) (opM ixD (varM 1) (unM negD (cM (PyData.int 1)))))))) (retM (cM (PyData.bool false))) skipM)
    (retM (unM allD (ofL (compM [2, 3] (zipM (slM (varM 1) noM (someM (unM negD (cM (PyData.int 1))))) (slM (varM 1) (someM (cM (PyData.int 1))) noM)) (tupG 2 (consG (nameG 2) (consG (nameG 3) nilG))) yesM Ce_is_route_2))))))
def g_is_route : List D → Option D := runF N_is_route b_is_route
def N_ties_of : List Str := ["net", "route", "one", "other"]
def Ce_ties_of_1 : EM :=
    (callM g_tie_between (consM (varM 0) (consM (varM 2) (consM (varM 3) nilM))))
def b_ties_of : SM :=
    (retM (unM tupleD (unM sortD2 (ofL (compM [2, 3] (zipM (slM (varM 1) noM (someM (unM negD (cM (PyData.int 1))))) (slM (varM 1) (someM (cM (PyData.int 1))) noM)) (tupG 2 (consG (nameG 2) (consG (nameG 3) nilG))) yesM Ce_ties_of_1)))))
def g_ties_of : List D → Option D := runF N_ties_of b_ties_of
def N_shows : List Str := ["net", "probes", "broken", "probe", "tie"]
def Ce_shows_1 : EM :=
    (opM (bD inB) (varM 4) (varM 2))
def Ce_shows_2 : EM :=
    (notVM (unM anyD (ofL (compM [4] (seqM (callM g_ties_of (consM (varM 0) (consM (varM 3) nilM)))) (nameG 4) yesM Ce_shows_1))))
def b_shows : SM :=
    (retM (unM tupleD (ofL (compM [3] (seqM (varM 1)) (nameG 3) yesM Ce_shows_2))))
def g_shows : List D → Option D := runF N_shows b_shows
def N_failing : List Str := ["net", "probes", "found", "rows", "tie", "probe", "number", "row"]
def Ce_failing_1 : EM :=
    (callM g_ties_of (consM (varM 0) (consM (varM 5) nilM)))
def Ct_failing_1 : TM :=
    (tstM inB (varM 4) (varM 7))
def Ce_failing_2 : EM :=
    (varM 6)
def F_failing_1 : SM :=
    (wipM [4, 6, 7] (asgM 2 (opM addD (varM 2) (tupM (consM (unM tupleD (ofL (compM [6, 7] (enumM (varM 3)) (tupG 2 (consG (nameG 6) (consG (nameG 7) nilG))) Ct_failing_1 Ce_failing_2))) nilM)))))
def Sq_failing_1 : SM :=
    (seqS (preM [4, 6, 7] (forM (rng1M (unM lenD (opM ixD (varM 0) (cM (PyData.int 1))))) (nameG 4) F_failing_1))
    (retM (varM 2)))
theorem Sq_failing_1_a (rr : Rho) : Sq_failing_1 rr = (seqS (preM [4, 6, 7] (forM (rng1M (unM lenD (opM ixD (varM 0) (cM (PyData.int 1))))) (nameG 4) F_failing_1))
    (retM (varM 2))) rr := (rfl)
def Sq_failing_2 : SM :=
    (seqS (asgLM 3 (compM [5] (seqM (varM 1)) (nameG 5) yesM Ce_failing_1))
    Sq_failing_1)
theorem Sq_failing_2_a (rr : Rho) : Sq_failing_2 rr = (seqS (asgLM 3 (compM [5] (seqM (varM 1)) (nameG 5) yesM Ce_failing_1))
    Sq_failing_1) rr := (rfl)
def b_failing : SM :=
    (seqS (asgM 2 (tupM nilM))
    Sq_failing_2)
def g_failing : List D → Option D := runF N_failing b_failing
def N_unseen : List Str := ["net", "probes", "tie", "some"]
def Ct_unseen_1 : TM :=
    (tstM eqB (varM 3) (tupM nilM))
def Ce_unseen_1 : EM :=
    (varM 2)
def b_unseen : SM :=
    (retM (unM tupleD (ofL (compM [2, 3] (enumM (callM g_failing (consM (varM 0) (consM (varM 1) nilM)))) (tupG 2 (consG (nameG 2) (consG (nameG 3) nilG))) Ct_unseen_1 Ce_unseen_1))))
def g_unseen : List D → Option D := runF N_unseen b_unseen
def N_twins : List Str := ["net", "probes", "rows", "found", "tie", "row", "group"]
def Gb_twins_1 : CM :=
    (ifC (tstM eqB (opM ixD (varM 2) (opOwnM ixD 6 (cM (PyData.int 0)))) (varM 5)) (exprC (appM 6 (varM 4))))
def Fx_twins_1 : XM :=
    (wipX [4, 5, 6] (ifX (tstM inB (varM 5) (slM (varM 2) noM (someM (varM 4)))) (grpX 6 Gb_twins_1) (appX (lstM (consM (varM 4) nilM)))))
def Ce_twins_1 : EM :=
    (unM tupleD (varM 6))
def Sq_twins_1 : SM :=
    (retM (unM tupleD (ofL (compM [6] (seqM (varM 3)) (nameG 6) yesM Ce_twins_1))))
theorem Sq_twins_1_a (rr : Rho) : Sq_twins_1 rr = (retM (unM tupleD (ofL (compM [6] (seqM (varM 3)) (nameG 6) yesM Ce_twins_1)))) rr := (rfl)
def Sq_twins_2 : SM :=
    (seqS (preM [4, 5, 6] (wipM [4, 5, 6] (llM 3 (forX (enumM (varM 2)) (tupG 2 (consG (nameG 4) (consG (nameG 5) nilG))) Fx_twins_1))))
    Sq_twins_1)
theorem Sq_twins_2_a (rr : Rho) : Sq_twins_2 rr = (seqS (preM [4, 5, 6] (wipM [4, 5, 6] (llM 3 (forX (enumM (varM 2)) (tupG 2 (consG (nameG 4) (consG (nameG 5) nilG))) Fx_twins_1))))
    Sq_twins_1) rr := (rfl)
def b_twins : SM :=
    (seqS (asgM 2 (callM g_failing (consM (varM 0) (consM (varM 1) nilM))))
    (seqS (newM 3 (lstM nilM))
    Sq_twins_2))
def g_twins : List D → Option D := runF N_twins b_twins
def N_kinds : List Str := ["net"]
def b_kinds : SM :=
    (retM (callM g_twins (consM (varM 0) (consM (callM g_routes (consM (varM 0) nilM)) nilM))))
def g_kinds : List D → Option D := runF N_kinds b_kinds
def N_suspects : List Str := ["net", "probes", "shown", "found", "tie"]
def Ct_suspects_1 : TM :=
    (tstM eqB (callM g_shows (consM (varM 0) (consM (varM 1) (consM (tupM (consM (varM 4) nilM)) nilM)))) (varM 2))
def Ce_suspects_1 : EM :=
    (varM 4)
def Sq_suspects_1 : SM :=
    (retM (opM addD (varM 3) (unM tupleD (ofL (compM [4] (rng1M (unM lenD (opM ixD (varM 0) (cM (PyData.int 1))))) (nameG 4) Ct_suspects_1 Ce_suspects_1)))))
theorem Sq_suspects_1_a (rr : Rho) : Sq_suspects_1 rr = (retM (opM addD (varM 3) (unM tupleD (ofL (compM [4] (rng1M (unM lenD (opM ixD (varM 0) (cM (PyData.int 1))))) (nameG 4) Ct_suspects_1 Ce_suspects_1))))) rr := (rfl)
def Sq_suspects_2 : SM :=
    (seqS (ifM (truM (unM allT (varM 2))) (asgM 3 (tupM (consM (cM PyData.none) nilM))) skipM)
    Sq_suspects_1)
theorem Sq_suspects_2_a (rr : Rho) : Sq_suspects_2 rr = (seqS (ifM (truM (unM allT (varM 2))) (asgM 3 (tupM (consM (cM PyData.none) nilM))) skipM)
    Sq_suspects_1) rr := (rfl)
def b_suspects : SM :=
    (seqS (asgM 3 (tupM nilM))
    Sq_suspects_2)
def g_suspects : List D → Option D := runF N_suspects b_suspects
def N_the_one : List Str := ["net", "probes", "shown", "some"]
def Sq_the_one_1 : SM :=
    (seqS (ifM (orM (tstM neB (unM lenD (varM 3)) (cM (PyData.int 1))) (tstM isB (opM ixD (varM 3) (cM (PyData.int 0))) (cM PyData.none))) (exM "NoSuspect") skipM)
    (retM (opM ixD (varM 3) (cM (PyData.int 0)))))
theorem Sq_the_one_1_a (rr : Rho) : Sq_the_one_1 rr = (seqS (ifM (orM (tstM neB (unM lenD (varM 3)) (cM (PyData.int 1))) (tstM isB (opM ixD (varM 3) (cM (PyData.int 0))) (cM PyData.none))) (exM "NoSuspect") skipM)
    (retM (opM ixD (varM 3) (cM (PyData.int 0))))) rr := (rfl)
def b_the_one : SM :=
    (seqS (asgM 3 (callM g_suspects (consM (varM 0) (consM (varM 1) (consM (varM 2) nilM)))))
    Sq_the_one_1)
def g_the_one : List D → Option D := runF N_the_one b_the_one
def N_cases : List Str := ["net", "hidden", "group"]
def Ct_cases_1 : TM :=
    (tstM notInB (opM ixD (varM 2) (cM (PyData.int 0))) (varM 1))
def Ce_cases_1 : EM :=
    (opM ixD (varM 2) (cM (PyData.int 0)))
def Sq_cases_1 : SM :=
    (retM (opM addD (tupM (consM (cM PyData.none) nilM)) (unM tupleD (ofL (compM [2] (seqM (callM g_kinds (consM (varM 0) nilM))) (nameG 2) Ct_cases_1 Ce_cases_1)))))
theorem Sq_cases_1_a (rr : Rho) : Sq_cases_1 rr = (retM (opM addD (tupM (consM (cM PyData.none) nilM)) (unM tupleD (ofL (compM [2] (seqM (callM g_kinds (consM (varM 0) nilM))) (nameG 2) Ct_cases_1 Ce_cases_1))))) rr := (rfl)
def b_cases : SM :=
    (seqS (asgM 1 (callM g_unseen (consM (varM 0) (consM (callM g_routes (consM (varM 0) nilM)) nilM))))
    Sq_cases_1)
def g_cases : List D → Option D := runF N_cases b_cases
def N_split : List Str := ["net", "route", "some", "row", "case"]
def Ct_split_1 : TM :=
    (tstM notInB (varM 4) (varM 3))
def Ce_split_1 : EM :=
    (varM 4)
def Ct_split_2 : TM :=
    (tstM inB (varM 4) (varM 3))
def Ce_split_2 : EM :=
    (varM 4)
def Sq_split_1 : SM :=
    (retM (tupM (consM (unM tupleD (ofL (compM [4] (seqM (varM 2)) (nameG 4) Ct_split_1 Ce_split_1))) (consM (unM tupleD (ofL (compM [4] (seqM (varM 2)) (nameG 4) Ct_split_2 Ce_split_2))) nilM))))
theorem Sq_split_1_a (rr : Rho) : Sq_split_1 rr = (retM (tupM (consM (unM tupleD (ofL (compM [4] (seqM (varM 2)) (nameG 4) Ct_split_1 Ce_split_1))) (consM (unM tupleD (ofL (compM [4] (seqM (varM 2)) (nameG 4) Ct_split_2 Ce_split_2))) nilM)))) rr := (rfl)
def b_split : SM :=
    (seqS (asgM 3 (callM g_ties_of (consM (varM 0) (consM (varM 1) nilM))))
    Sq_split_1)
def g_split : List D → Option D := runF N_split b_split
def N_shortest : List Str := ["net", "one", "other", "ends", "every", "route"]
def Ct_shortest_1 : TM :=
    (tstM eqB (tupM (consM (opM ixD (varM 5) (cM (PyData.int 0))) (consM (opM ixD (varM 5) (unM negD (cM (PyData.int 1)))) nilM))) (varM 3))
def Ce_shortest_1 : EM :=
    (tupM (consM (unM lenD (varM 5)) (consM (varM 5) nilM)))
def Sq_shortest_1 : SM :=
    (seqS (ifM (notM (truM (varM 4))) (exM "NoRoute") skipM)
    (retM (opM ixD (unM minV (varM 4)) (cM (PyData.int 1)))))
theorem Sq_shortest_1_a (rr : Rho) : Sq_shortest_1 rr = (seqS (ifM (notM (truM (varM 4))) (exM "NoRoute") skipM)
    (retM (opM ixD (unM minV (varM 4)) (cM (PyData.int 1))))) rr := (rfl)
def Sq_shortest_2 : SM :=
    (seqS (asgLM 4 (compM [5] (seqM (callM g_routes (consM (varM 0) nilM))) (nameG 5) Ct_shortest_1 Ce_shortest_1))
    Sq_shortest_1)
theorem Sq_shortest_2_a (rr : Rho) : Sq_shortest_2 rr = (seqS (asgLM 4 (compM [5] (seqM (callM g_routes (consM (varM 0) nilM))) (nameG 5) Ct_shortest_1 Ce_shortest_1))
    Sq_shortest_1) rr := (rfl)
def b_shortest : SM :=
    (seqS (asgM 3 (tupM (consM (opM min2D (varM 1) (varM 2)) (consM (opM max2D (varM 1) (varM 2)) nilM))))
    Sq_shortest_2)
def g_shortest : List D → Option D := runF N_shortest b_shortest
def N_written : List Str := ["net", "many", "ties", "rim", "knot", "one", "other"]
def Ce_written_1 : EM :=
    (jsM ((fmtM (varM 5)) :: ((fmtM (varM 6)) :: [])))
def Ce_written_2 : EM :=
    (unM strD (varM 4))
def Sq_written_1 : SM :=
    (retM (opM addD (opM addD (opM addD (jsM ((fmtM (varM 1)) :: ((cM (PyData.str ";")) :: []))) (opM joinD (cM (PyData.str ",")) (ofL (compM [5, 6] (seqM (varM 2)) (tupG 2 (consG (nameG 5) (consG (nameG 6) nilG))) yesM Ce_written_1)))) (cM (PyData.str ";"))) (opM joinD (cM (PyData.str "")) (ofL (compM [4] (seqM (varM 3)) (nameG 4) yesM Ce_written_2)))))
theorem Sq_written_1_a (rr : Rho) : Sq_written_1 rr = (retM (opM addD (opM addD (opM addD (jsM ((fmtM (varM 1)) :: ((cM (PyData.str ";")) :: []))) (opM joinD (cM (PyData.str ",")) (ofL (compM [5, 6] (seqM (varM 2)) (tupG 2 (consG (nameG 5) (consG (nameG 6) nilG))) yesM Ce_written_1)))) (cM (PyData.str ";"))) (opM joinD (cM (PyData.str "")) (ofL (compM [4] (seqM (varM 3)) (nameG 4) yesM Ce_written_2))))) rr := (rfl)
def b_written : SM :=
    (seqS (asgG (tupG 3 (consG (nameG 1) (consG (nameG 2) (consG (nameG 3) nilG)))) (varM 0))
    Sq_written_1)
def g_written : List D → Option D := runF N_written b_written
def N_figure_in : List Str := ["sign"]
def b_figure_in : SM :=
    (seqS (ifM (orM (tstM neB (unM lenD (varM 0)) (cM (PyData.int 1))) (tstM notInSB (varM 0) (cM (PyData.str "0123456789")))) (exM "NoText") skipM)
    (retM (unM intSD (varM 0))))
def g_figure_in : List D → Option D := runF N_figure_in b_figure_in
def N_tie_in : List Str := ["part"]
def Sq_tie_in_1 : SM :=
    (retM (tupM (consM (callM g_figure_in (consM (opM ixD (varM 0) (cM (PyData.int 0))) nilM)) (consM (callM g_figure_in (consM (opM ixD (varM 0) (cM (PyData.int 1))) nilM)) nilM))))
theorem Sq_tie_in_1_a (rr : Rho) : Sq_tie_in_1 rr = (retM (tupM (consM (callM g_figure_in (consM (opM ixD (varM 0) (cM (PyData.int 0))) nilM)) (consM (callM g_figure_in (consM (opM ixD (varM 0) (cM (PyData.int 1))) nilM)) nilM)))) rr := (rfl)
def b_tie_in : SM :=
    (seqS (ifM (tstM neB (unM lenD (varM 0)) (cM (PyData.int 2))) (exM "NoText") skipM)
    Sq_tie_in_1)
def g_tie_in : List D → Option D := runF N_tie_in b_tie_in
def N_read : List Str := ["text", "parts", "ties", "net", "part", "sign"]
def Ce_read_1 : EM :=
    (callM g_tie_in (consM (varM 4) nilM))
def Ce_read_2 : EM :=
    (callM g_figure_in (consM (varM 5) nilM))
def Sq_read_1 : SM :=
    (seqS (ifM (orM (notM (truM (callM g_is_net (consM (varM 3) nilM)))) (tstM neB (callM g_written (consM (varM 3) nilM)) (varM 0))) (exM "NoText") skipM)
    (retM (varM 3)))
theorem Sq_read_1_a (rr : Rho) : Sq_read_1 rr = (seqS (ifM (orM (notM (truM (callM g_is_net (consM (varM 3) nilM)))) (tstM neB (callM g_written (consM (varM 3) nilM)) (varM 0))) (exM "NoText") skipM)
    (retM (varM 3))) rr := (rfl)
def Sq_read_2 : SM :=
    (seqS (asgM 3 (tupM (consM (callM g_figure_in (consM (opM ixD (varM 1) (cM (PyData.int 0))) nilM)) (consM (varM 2) (consM (unM tupleD (ofL (compM [5] (seqSM (opM ixD (varM 1) (cM (PyData.int 2)))) (nameG 5) yesM Ce_read_2))) nilM)))))
    Sq_read_1)
theorem Sq_read_2_a (rr : Rho) : Sq_read_2 rr = (seqS (asgM 3 (tupM (consM (callM g_figure_in (consM (opM ixD (varM 1) (cM (PyData.int 0))) nilM)) (consM (varM 2) (consM (unM tupleD (ofL (compM [5] (seqSM (opM ixD (varM 1) (cM (PyData.int 2)))) (nameG 5) yesM Ce_read_2))) nilM)))))
    Sq_read_1) rr := (rfl)
def Sq_read_3 : SM :=
    (seqS (wipM [4] (ifM (tstM neB (opM ixD (varM 1) (cM (PyData.int 1))) (cM (PyData.str ""))) (asgM 2 (unM tupleD (ofL (compM [4] (seqM (ofL (splitM (opM ixD (varM 1) (cM (PyData.int 1))) (cM (PyData.str ","))))) (nameG 4) yesM Ce_read_1)))) skipM))
    Sq_read_2)
theorem Sq_read_3_a (rr : Rho) : Sq_read_3 rr = (seqS (wipM [4] (ifM (tstM neB (opM ixD (varM 1) (cM (PyData.int 1))) (cM (PyData.str ""))) (asgM 2 (unM tupleD (ofL (compM [4] (seqM (ofL (splitM (opM ixD (varM 1) (cM (PyData.int 1))) (cM (PyData.str ","))))) (nameG 4) yesM Ce_read_1)))) skipM))
    Sq_read_2) rr := (rfl)
def Sq_read_4 : SM :=
    (seqS (ifM (tstM neB (unM lenD (varM 1)) (cM (PyData.int 3))) (exM "NoText") skipM)
    (seqS (asgM 2 (tupM nilM))
    Sq_read_3))
theorem Sq_read_4_a (rr : Rho) : Sq_read_4 rr = (seqS (ifM (tstM neB (unM lenD (varM 1)) (cM (PyData.int 3))) (exM "NoText") skipM)
    (seqS (asgM 2 (tupM nilM))
    Sq_read_3)) rr := (rfl)
def b_read : SM :=
    (seqS (asgM 1 (ofL (splitM (varM 0) (cM (PyData.str ";")))))
    Sq_read_4)
def g_read : List D → Option D := runF N_read b_read
end PG
local macro_rules | `(tactic| simp_arith [$xs,*]) => `(tactic| simp only [PG.Sq_failing_1_a, PG.Sq_failing_2_a, PG.Sq_twins_1_a, PG.Sq_twins_2_a, PG.Sq_suspects_1_a, PG.Sq_suspects_2_a, PG.Sq_the_one_1_a, PG.Sq_cases_1_a, PG.Sq_split_1_a, PG.Sq_shortest_1_a, PG.Sq_shortest_2_a, PG.Sq_written_1_a, PG.Sq_tie_in_1_a, PG.Sq_read_1_a, PG.Sq_read_2_a, PG.Sq_read_3_a, PG.Sq_read_4_a, Nat.reduceAdd, Nat.reduceSub, Nat.reduceMul, Int.reduceLT, Int.reduceLE, Int.reducePow, Int.reduceNeg, Int.reduceAdd, Int.reduceSub, Int.reduceMul, Int.reduceBEq, Int.reduceBNe, Int.reduceToNat, $xs,*])
namespace FB
open PySem L2 DL PG
def N__law_draw : List Str := ["_law_script", "_law_town", "_law_many", "_law_k", "_law_cell", "_law_number", "_law_more"]
def Sq__law_draw_1 : SM :=
    (retM (opM modD (opM addD (opM mulD (opM fdivD (varM 5) (cM (PyData.int 64))) (cM (PyData.int 67108864))) (opM fdivD (varM 6) (cM (PyData.int 64)))) (varM 2)))
theorem Sq__law_draw_1_a (rr : Rho) : Sq__law_draw_1 rr = (retM (opM modD (opM addD (opM mulD (opM fdivD (varM 5) (cM (PyData.int 64))) (cM (PyData.int 67108864))) (opM fdivD (varM 6) (cM (PyData.int 64)))) (varM 2))) rr := (rfl)
def Sq__law_draw_2 : SM :=
    (seqS (asgM 6 (opM modD (opM mulD (opM modD (opM mulD (varM 5) (varM 5)) (cM (PyData.int 4294967279))) (cM (PyData.int 69621))) (cM (PyData.int 4294967291))))
    Sq__law_draw_1)
theorem Sq__law_draw_2_a (rr : Rho) : Sq__law_draw_2 rr = (seqS (asgM 6 (opM modD (opM mulD (opM modD (opM mulD (varM 5) (varM 5)) (cM (PyData.int 4294967279))) (cM (PyData.int 69621))) (cM (PyData.int 4294967291))))
    Sq__law_draw_1) rr := (rfl)
def Sq__law_draw_3 : SM :=
    (seqS (asgM 5 (opM modD (opM mulD (opM modD (opM mulD (varM 5) (varM 5)) (cM (PyData.int 4294967279))) (cM (PyData.int 48271))) (cM (PyData.int 4294967291))))
    Sq__law_draw_2)
theorem Sq__law_draw_3_a (rr : Rho) : Sq__law_draw_3 rr = (seqS (asgM 5 (opM modD (opM mulD (opM modD (opM mulD (varM 5) (varM 5)) (cM (PyData.int 4294967279))) (cM (PyData.int 48271))) (cM (PyData.int 4294967291))))
    Sq__law_draw_2) rr := (rfl)
def Sq__law_draw_4 : SM :=
    (seqS (asgM 5 (opM modD (opM addD (varM 4) (opM mulD (cM (PyData.int 104729)) (varM 3))) (cM (PyData.int 4294967291))))
    Sq__law_draw_3)
theorem Sq__law_draw_4_a (rr : Rho) : Sq__law_draw_4 rr = (seqS (asgM 5 (opM modD (opM addD (varM 4) (opM mulD (cM (PyData.int 104729)) (varM 3))) (cM (PyData.int 4294967291))))
    Sq__law_draw_3) rr := (rfl)
def Sq__law_draw_5 : SM :=
    (seqS (ifM (truM (varM 0)) (asgM 4 (opM ixD (varM 0) (opM modD (varM 3) (unM lenD (varM 0))))) skipM)
    Sq__law_draw_4)
theorem Sq__law_draw_5_a (rr : Rho) : Sq__law_draw_5 rr = (seqS (ifM (truM (varM 0)) (asgM 4 (opM ixD (varM 0) (opM modD (varM 3) (unM lenD (varM 0))))) skipM)
    Sq__law_draw_4) rr := (rfl)
def Sq__law_draw_6 : SM :=
    (seqS (asgM 3 (unM lenD (ownM 1)))
    (seqS (asgM 4 (cM (PyData.int 0)))
    Sq__law_draw_5))
theorem Sq__law_draw_6_a (rr : Rho) : Sq__law_draw_6 rr = (seqS (asgM 3 (unM lenD (ownM 1)))
    (seqS (asgM 4 (cM (PyData.int 0)))
    Sq__law_draw_5)) rr := (rfl)
def b__law_draw : SM :=
    (seqS (exprM (appM 1 (cM (PyData.int 0))))
    Sq__law_draw_6)
def g__law_draw : List D → List D → Option (D × List D) := runR N__law_draw 1 b__law_draw
def N__law_pick : List Str := ["_law_script", "_law_town", "_law_some"]
def b__law_pick : SM :=
    (retM (opM ixD (varM 2) (callRM 1 g__law_draw (consM (varM 0) (hereM 1 (consM (unM lenD (varM 2)) nilM))))))
def g__law_pick : List D → List D → Option (D × List D) := runR N__law_pick 1 b__law_pick
def N__law_net : List Str := ["_law_script", "_law_town", "_law_knots", "_law_ties", "_law_one", "_law_rim", "_law_many", "_law_some", "_law_knot", "_law_other"]
def Ce__law_net_1 : EM :=
    (tupM (consM (varM 4) (consM (varM 9) nilM)))
def F__law_net_1 : SM :=
    (wipM [4, 9] (exprM (extM 7 (ofL (compM [9] (rng2M (opM addD (varM 4) (cM (PyData.int 1))) (varM 6)) (nameG 9) yesM Ce__law_net_1)))))
def Wt__law_net_1 : TM :=
    (orM (tstM gtD (unM lenD (ownM 7)) (varM 3)) (andM (truM (ownM 7)) (tstM eqB (callRM 1 g__law_draw (consM (varM 0) (hereM 1 (consM (cM (PyData.int 5)) nilM)))) (cM (PyData.int 0)))))
def Wb__law_net_1 : SM :=
    (exprM (popAtM 7 (callRM 1 g__law_draw (consM (varM 0) (hereM 1 (consM (unM lenD (ownM 7)) nilM))))))
def Ct__law_net_1 : TM :=
    (truM (callRM 1 g__law_draw (consM (varM 0) (hereM 1 (consM (cM (PyData.int 3)) nilM)))))
def Ce__law_net_2 : EM :=
    (varM 8)
def Sq__law_net_1 : SM :=
    (retM (tupM (consM (varM 6) (consM (unM tupleD (ownM 7)) (consM (unM tupleD (orVM (varM 5) (ofL (lstM (consM (callRM 1 g__law_draw (consM (varM 0) (hereM 1 (consM (varM 6) nilM)))) nilM))))) nilM)))))
theorem Sq__law_net_1_a (rr : Rho) : Sq__law_net_1 rr = (retM (tupM (consM (varM 6) (consM (unM tupleD (ownM 7)) (consM (unM tupleD (orVM (varM 5) (ofL (lstM (consM (callRM 1 g__law_draw (consM (varM 0) (hereM 1 (consM (varM 6) nilM)))) nilM))))) nilM))))) rr := (rfl)
def Sq__law_net_2 : SM :=
    (seqS (asgLM 5 (compM [8] (rng1M (varM 6)) (nameG 8) Ct__law_net_1 Ce__law_net_2))
    Sq__law_net_1)
theorem Sq__law_net_2_a (rr : Rho) : Sq__law_net_2 rr = (seqS (asgLM 5 (compM [8] (rng1M (varM 6)) (nameG 8) Ct__law_net_1 Ce__law_net_2))
    Sq__law_net_1) rr := (rfl)
def Sq__law_net_3 : SM :=
    (seqS (whileL Wt__law_net_1 Wb__law_net_1 1000)
    Sq__law_net_2)
theorem Sq__law_net_3_a (rr : Rho) : Sq__law_net_3 rr = (seqS (whileL Wt__law_net_1 Wb__law_net_1 1000)
    Sq__law_net_2) rr := (rfl)
def Sq__law_net_4 : SM :=
    (seqS (preM [4, 9] (forM (rng1M (varM 6)) (nameG 4) F__law_net_1))
    Sq__law_net_3)
theorem Sq__law_net_4_a (rr : Rho) : Sq__law_net_4 rr = (seqS (preM [4, 9] (forM (rng1M (varM 6)) (nameG 4) F__law_net_1))
    Sq__law_net_3) rr := (rfl)
def b__law_net : SM :=
    (seqS (parLM 6 7 (opM addD (cM (PyData.int 1)) (callRM 1 g__law_draw (consM (varM 0) (hereM 1 (consM (varM 2) nilM))))) (lstM nilM))
    Sq__law_net_4)
def g__law_net : List D → List D → Option (D × List D) := runR N__law_net 1 b__law_net
end FB
namespace SK
open PySem L2 DL PG
def N_Seeker__init : List Str := ["self", "net"]
def gI_Seeker : D → Option D := fun n => g_cases [n]
def N_Seeker__left : List Str := ["self"]
def b_Seeker__left : SM :=
    (retM (lastM 0))
def g_Seeker__left : List D → SV → Option (D × SV) := runO N_Seeker__left 0 b_Seeker__left
def N_Seeker__history : List Str := ["self"]
def b_Seeker__history : SM :=
    (retM (toldM 0))
def g_Seeker__history : List D → SV → Option (D × SV) := runO N_Seeker__history 0 b_Seeker__history
def N_Seeker__tell : List Str := ["self", "route", "is_shown", "after", "whole", "broken"]
def Sq_Seeker__tell_1 : SM :=
    (setTM 0 (opM addD (toldM 0) (tupM (consM (tupM (consM (varM 1) (consM (varM 2) nilM))) nilM))))
theorem Sq_Seeker__tell_1_a (rr : Rho) : Sq_Seeker__tell_1 rr = (setTM 0 (opM addD (toldM 0) (tupM (consM (tupM (consM (varM 1) (consM (varM 2) nilM))) nilM)))) rr := (rfl)
def Sq_Seeker__tell_2 : SM :=
    (seqS (ifM (tstM eqB (varM 3) (tupM nilM)) (exM "NoSuspect") skipM)
    (seqS (exprM (rowsAppM 0 3))
    Sq_Seeker__tell_1))
theorem Sq_Seeker__tell_2_a (rr : Rho) : Sq_Seeker__tell_2 rr = (seqS (ifM (tstM eqB (varM 3) (tupM nilM)) (exM "NoSuspect") skipM)
    (seqS (exprM (rowsAppM 0 3))
    Sq_Seeker__tell_1)) rr := (rfl)
def Sq_Seeker__tell_3 : SM :=
    (seqS (ifM (truM (varM 2)) (asgM 3 (varM 4)) skipM)
    Sq_Seeker__tell_2)
theorem Sq_Seeker__tell_3_a (rr : Rho) : Sq_Seeker__tell_3 rr = (seqS (ifM (truM (varM 2)) (asgM 3 (varM 4)) skipM)
    Sq_Seeker__tell_2) rr := (rfl)
def Sq_Seeker__tell_4 : SM :=
    (seqS (asgG (tupG 2 (consG (nameG 4) (consG (nameG 5) nilG))) (callM g_split (consM (netM 0) (consM (varM 1) (consM (lastM 0) nilM)))))
    (seqS (asgM 3 (varM 5))
    Sq_Seeker__tell_3))
theorem Sq_Seeker__tell_4_a (rr : Rho) : Sq_Seeker__tell_4 rr = (seqS (asgG (tupG 2 (consG (nameG 4) (consG (nameG 5) nilG))) (callM g_split (consM (netM 0) (consM (varM 1) (consM (lastM 0) nilM)))))
    (seqS (asgM 3 (varM 5))
    Sq_Seeker__tell_3)) rr := (rfl)
def b_Seeker__tell : SM :=
    (seqS (ifM (notM (truM (callM g_is_route (consM (netM 0) (consM (varM 1) nilM))))) (exM "NoRoute") skipM)
    Sq_Seeker__tell_4)
def gX_Seeker__tell : List D → SV → Option (Except String D × SV) := runOX N_Seeker__tell 0 b_Seeker__tell
def N_Seeker__back : List Str := ["self"]
def Sq_Seeker__back_1 : SM :=
    (setTM 0 (slM (toldM 0) noM (someM (unM negD (cM (PyData.int 1))))))
theorem Sq_Seeker__back_1_a (rr : Rho) : Sq_Seeker__back_1 rr = (setTM 0 (slM (toldM 0) noM (someM (unM negD (cM (PyData.int 1)))))) rr := (rfl)
def b_Seeker__back : SM :=
    (seqS (ifM (tstM eqB (toldM 0) (tupM nilM)) (exM "NoStep") skipM)
    (seqS (exprM (rowsPopM 0))
    Sq_Seeker__back_1))
def gX_Seeker__back : List D → SV → Option (Except String D × SV) := runOX N_Seeker__back 0 b_Seeker__back
theorem init_reads {n c : D} (h : gI_Seeker n = some c) : (lstM (consM (callM g_cases (consM (varM 1) nilM)) nilM)) [none, some (.d n)] = some ([c], [none, some (.d n)]) ∧ (tupM nilM) [none, some (.d n)] = some (.tuple [], [none, some (.d n)]) := by
  have h : g_cases [n] = some c := h
  constructor
  · have e : (consM (callM g_cases (consM (varM 1) nilM)) nilM) [none, some (.d n)] = some ([c], [none, some (.d n)]) := by
      simp [consM, callM, varM, nilM, h]
    unfold lstM
    rw [e]
    rfl
  · rfl
end SK
local macro_rules | `(tactic| simp_arith [$xs,*]) => `(tactic| simp only [PG.Sq_failing_1_a, PG.Sq_failing_2_a, PG.Sq_twins_1_a, PG.Sq_twins_2_a, PG.Sq_suspects_1_a, PG.Sq_suspects_2_a, PG.Sq_the_one_1_a, PG.Sq_cases_1_a, PG.Sq_split_1_a, PG.Sq_shortest_1_a, PG.Sq_shortest_2_a, PG.Sq_written_1_a, PG.Sq_tie_in_1_a, PG.Sq_read_1_a, PG.Sq_read_2_a, PG.Sq_read_3_a, PG.Sq_read_4_a, FB.Sq__law_draw_1_a, FB.Sq__law_draw_2_a, FB.Sq__law_draw_3_a, FB.Sq__law_draw_4_a, FB.Sq__law_draw_5_a, FB.Sq__law_draw_6_a, FB.Sq__law_net_1_a, FB.Sq__law_net_2_a, FB.Sq__law_net_3_a, FB.Sq__law_net_4_a, SK.Sq_Seeker__tell_1_a, SK.Sq_Seeker__tell_2_a, SK.Sq_Seeker__tell_3_a, SK.Sq_Seeker__tell_4_a, SK.Sq_Seeker__back_1_a, Nat.reduceAdd, Nat.reduceSub, Nat.reduceMul, Int.reduceLT, Int.reduceLE, Int.reducePow, Int.reduceNeg, Int.reduceAdd, Int.reduceSub, Int.reduceMul, Int.reduceBEq, Int.reduceBNe, Int.reduceToNat, $xs,*])
namespace L_k38
open PySem L2 DL FB PG SK
def rs_errs : List String := ["NoRoute", "NoStep", "NoSuspect", "NoText", "NoTie"]
def gX_tie_between : List D → Option (Except String D) := runX N_tie_between b_tie_between
def N__law_kind : List Str := ["_law_error", "_law_got"]
def b__law_kind (c : String) (a : Addr) : SM :=
    (seqS (newM 1 (lstM (consM (unM intD (isxM 0 a (decide (c = "NoTie")))) (consM (unM intD (isxM 0 a (decide (c = "NoRoute")))) (consM (unM intD (isxM 0 a (decide (c = "NoSuspect")))) nilM)))))
    (seqS (exprM (extM 1 (ofL (lstM (consM (unM intD (isxM 0 a (decide (c = "NoStep")))) (consM (unM intD (isxM 0 a (decide (c = "NoText")))) nilM))))))
    (frzM 1 (retM (tupM (consM (varM 1) (consM (andVM (isxM 0 a true) (isxM 0 a true)) nilM)))))))
def kL__law_kind (c : String) : List D := [.int (if c = "NoTie" then 1 else 0), .int (if c = "NoRoute" then 1 else 0), .int (if c = "NoSuspect" then 1 else 0), .int (if c = "NoStep" then 1 else 0), .int (if c = "NoText" then 1 else 0)]
def kD__law_kind (c : String) : D := .tuple [.list (kL__law_kind c), .bool true]
theorem isx_at (a : Addr) (b : Bool) (r : Rho) : isxM 0 a b (some (.ad a) :: r) = some (.bool b, some (.ad a) :: r) := by simp [isxM]
theorem kD__law_kind_ok : ∀ c ∈ rs_errs, ∀ a, ∃ r', b__law_kind c a (startX N__law_kind a) = some (.rt (kD__law_kind c) r') := by
  intro c mc a
  have e0 : startX N__law_kind a = [some (.ad a), none] := rfl
  have i0 : ∀ b : Bool, intD (.bool b) = some (.int (if b = true then 1 else 0)) := fun b => by cases b <;> rfl
  have z : szOk 5 = true := by decide
  have z3 : szOk 3 = true := by decide
  have z2 : szOk 2 = true := by decide
  have t1 : truD (.bool true) = some true := rfl
  simp only [rs_errs, List.mem_cons, List.not_mem_nil, or_false] at mc
  rw [e0]
  refine ⟨[some (.ad a), some (.d (.list (kL__law_kind c)))], ?_⟩
  rcases mc with rfl | rfl | rfl | rfl | rfl <;>
    simp [b__law_kind, kD__law_kind, kL__law_kind, seqS, newM, lstM, consM, nilM, unM, isx_at, i0, exprM, extM, ofL, frzM, retM, tupM, varM, andVM, z, z3, z2, t1, ownM, frzR, tupM]
def gX_the_one : List D → Option (Except String D) := runX N_the_one b_the_one
def gX_shortest : List D → Option (Except String D) := runX N_shortest b_shortest
def gX_read : List D → Option (Except String D) := runX N_read b_read
def N__law_plain : List Str := ["_law_word", "_law_net_here", "_law_seeker", "_law_one", "_law_other"]
def b__law_plain : SM :=
    (ifM (tstM eqB (varM 0) (cM (PyData.str "tie"))) (exprXM gX_tie_between (consM (varM 1) (consM (varM 3) (consM (varM 4) nilM)))) (ifM (tstM eqB (varM 0) (cM (PyData.str "shortest"))) (exprXM gX_shortest (consM (varM 1) (consM (varM 3) (consM (varM 4) nilM)))) (ifM (tstM eqB (varM 0) (cM (PyData.str "one"))) (exprXM gX_the_one (consM (varM 1) (consM (varM 3) (consM (varM 4) nilM)))) (ifM (tstM eqB (varM 0) (cM (PyData.str "tell"))) (methX 2 gX_Seeker__tell (consM (varM 3) (consM (varM 4) nilM))) (ifM (tstM eqB (varM 0) (cM (PyData.str "back"))) (methX 2 gX_Seeker__back nilM) (exprXM gX_read (consM (varM 3) nilM)))))))
def g__law_plain : List D → SV → Option (D × SV) := runO N__law_plain 2 b__law_plain
def gX__law_plain : List D → SV → Option (Except String D × SV) := runOX N__law_plain 2 b__law_plain
def N__law_told : List Str := ["_law_word", "_law_net_here", "_law_seeker", "_law_one", "_law_other", "e"]
def b__law_told : SM :=
    (seqS (tryAM rs_errs 5 (callOXM 2 gX__law_plain (consM (varM 0) (consM (varM 1) (hereOM 2 (consM (varM 3) (consM (varM 4) nilM)))))) fun c => retM (cM (kD__law_kind c)))
    (retM (cM PyData.none)))
def g__law_told : List D → SV → Option (D × SV) := runO N__law_told 2 b__law_told
def N__law_due : List Str := ["_law_at", "_law_one"]
def Ce__law_due_1 : EM :=
    (unM intD (opM (bD eqB) (varM 1) (varM 0)))
def b__law_due : SM :=
    (retM (iteM (tstM isB (varM 0) (cM PyData.none)) (cM PyData.none) (tupM (consM (ofL (compM [1] (rng1M (cM (PyData.int 5))) (nameG 1) yesM Ce__law_due_1)) (consM (cM (PyData.bool true)) nilM)))))
def g__law_due : List D → Option D := runF N__law_due b__law_due
def N_law : List Str := ["_law_script", "_law_town", "_law_k", "_law_net_here", "_law_seeker", "_law_before", "_law_one", "_law_other", "_law_route", "_law_at", "_law_due_here"]
def Sq_law_1 : SM :=
    (ifM (andM (tstM neB (varM 6) (varM 7)) (tstM neB (callOM 4 g__law_told (consM (cM (PyData.str "tie")) (consM (varM 3) (hereOM 4 (consM (varM 6) (consM (varM 7) nilM)))))) (callM g__law_due (consM (varM 9) nilM)))) (retM (cM (PyData.bool false))) skipM)
theorem Sq_law_1_a (rr : Rho) : Sq_law_1 rr = (ifM (andM (tstM neB (varM 6) (varM 7)) (tstM neB (callOM 4 g__law_told (consM (cM (PyData.str "tie")) (consM (varM 3) (hereOM 4 (consM (varM 6) (consM (varM 7) nilM)))))) (callM g__law_due (consM (varM 9) nilM)))) (retM (cM (PyData.bool false))) skipM) rr := (rfl)
def F_law_1 : SM :=
    (wipM [7, 9] (seqS (asgM 9 (iteM (tstM inB (varM 7) (callM g_beside (consM (varM 3) (consM (varM 6) nilM)))) (cM PyData.none) (cM (PyData.int 0))))
    Sq_law_1))
def F_law_2 : SM :=
    (wipM [6, 7, 9] (preM [7, 9] (forM (rng1M (opM ixD (varM 3) (cM (PyData.int 0)))) (nameG 7) F_law_1)))
def Sq_law_2 : SM :=
    (ifM (andM (tstM neB (varM 6) (varM 7)) (tstM neB (callOM 4 g__law_told (consM (cM (PyData.str "shortest")) (consM (varM 3) (hereOM 4 (consM (varM 6) (consM (varM 7) nilM)))))) (varM 10))) (retM (cM (PyData.bool false))) skipM)
theorem Sq_law_2_a (rr : Rho) : Sq_law_2 rr = (ifM (andM (tstM neB (varM 6) (varM 7)) (tstM neB (callOM 4 g__law_told (consM (cM (PyData.str "shortest")) (consM (varM 3) (hereOM 4 (consM (varM 6) (consM (varM 7) nilM)))))) (varM 10))) (retM (cM (PyData.bool false))) skipM) rr := (rfl)
def F_law_3 : SM :=
    (wipM [7, 10] (seqS (asgM 10 (callM g__law_due (consM (iteM (tstM inB (varM 7) (callM g_reached (consM (varM 3) (consM (tupM nilM) (consM (varM 6) nilM))))) (cM PyData.none) (cM (PyData.int 1))) nilM)))
    Sq_law_2))
def F_law_4 : SM :=
    (wipM [6, 7, 10] (preM [7, 10] (forM (seqM (opM ixD (varM 3) (cM (PyData.int 2)))) (nameG 7) F_law_3)))
def Sq_law_3 : SM :=
    (ifM (orM (tstM neB (methM 4 g_Seeker__history nilM) (tupM (consM (tupM (consM (varM 8) (consM (cM (PyData.bool true)) nilM))) nilM))) (tstM isNotB (callOM 4 g__law_told (consM (cM (PyData.str "back")) (consM (varM 3) (hereOM 4 (consM (cM (PyData.int 0)) (consM (cM (PyData.int 0)) nilM)))))) (cM PyData.none))) (retM (cM (PyData.bool false))) skipM)
theorem Sq_law_3_a (rr : Rho) : Sq_law_3 rr = (ifM (orM (tstM neB (methM 4 g_Seeker__history nilM) (tupM (consM (tupM (consM (varM 8) (consM (cM (PyData.bool true)) nilM))) nilM))) (tstM isNotB (callOM 4 g__law_told (consM (cM (PyData.str "back")) (consM (varM 3) (hereOM 4 (consM (cM (PyData.int 0)) (consM (cM (PyData.int 0)) nilM)))))) (cM PyData.none))) (retM (cM (PyData.bool false))) skipM) rr := (rfl)
def Sq_law_4 : SM :=
    (seqS (ifM (tstM neB (callOM 4 g__law_told (consM (cM (PyData.str "tell")) (consM (varM 3) (hereOM 4 (consM (varM 8) (consM (cM (PyData.bool false)) nilM)))))) (callM g__law_due (consM (cM (PyData.int 2)) nilM))) (retM (cM (PyData.bool false))) skipM)
    Sq_law_3)
theorem Sq_law_4_a (rr : Rho) : Sq_law_4 rr = (seqS (ifM (tstM neB (callOM 4 g__law_told (consM (cM (PyData.str "tell")) (consM (varM 3) (hereOM 4 (consM (varM 8) (consM (cM (PyData.bool false)) nilM)))))) (callM g__law_due (consM (cM (PyData.int 2)) nilM))) (retM (cM (PyData.bool false))) skipM)
    Sq_law_3) rr := (rfl)
def Sq_law_5 : SM :=
    (seqS (ifM (tstM isNotB (callOM 4 g__law_told (consM (cM (PyData.str "tell")) (consM (varM 3) (hereOM 4 (consM (varM 8) (consM (cM (PyData.bool true)) nilM)))))) (cM PyData.none)) (retM (cM (PyData.bool false))) skipM)
    Sq_law_4)
theorem Sq_law_5_a (rr : Rho) : Sq_law_5 rr = (seqS (ifM (tstM isNotB (callOM 4 g__law_told (consM (cM (PyData.str "tell")) (consM (varM 3) (hereOM 4 (consM (varM 8) (consM (cM (PyData.bool true)) nilM)))))) (cM PyData.none)) (retM (cM (PyData.bool false))) skipM)
    Sq_law_4) rr := (rfl)
def Sq_law_6 : SM :=
    (wipM [8] (ifM (truM (callM g_routes (consM (varM 3) nilM))) (seqS (asgM 8 (callRM 1 g__law_pick (consM (varM 0) (hereM 1 (consM (callM g_routes (consM (varM 3) nilM)) nilM)))))
    Sq_law_5) skipM))
theorem Sq_law_6_a (rr : Rho) : Sq_law_6 rr = (wipM [8] (ifM (truM (callM g_routes (consM (varM 3) nilM))) (seqS (asgM 8 (callRM 1 g__law_pick (consM (varM 0) (hereM 1 (consM (callM g_routes (consM (varM 3) nilM)) nilM)))))
    Sq_law_5) skipM)) rr := (rfl)
def Sq_law_7 : SM :=
    (seqS (ifM (tstM neB (tupM (consM (methM 4 g_Seeker__left nilM) (consM (methM 4 g_Seeker__history nilM) nilM))) (varM 5)) (retM (cM (PyData.bool false))) skipM)
    Sq_law_6)
theorem Sq_law_7_a (rr : Rho) : Sq_law_7 rr = (seqS (ifM (tstM neB (tupM (consM (methM 4 g_Seeker__left nilM) (consM (methM 4 g_Seeker__history nilM) nilM))) (varM 5)) (retM (cM (PyData.bool false))) skipM)
    Sq_law_6) rr := (rfl)
def Sq_law_8 : SM :=
    (seqS (ifM (tstM neB (callOM 4 g__law_told (consM (cM (PyData.str "read")) (consM (varM 3) (hereOM 4 (consM (cM (PyData.str "x")) (consM (cM (PyData.int 0)) nilM)))))) (callM g__law_due (consM (cM (PyData.int 4)) nilM))) (retM (cM (PyData.bool false))) skipM)
    Sq_law_7)
theorem Sq_law_8_a (rr : Rho) : Sq_law_8 rr = (seqS (ifM (tstM neB (callOM 4 g__law_told (consM (cM (PyData.str "read")) (consM (varM 3) (hereOM 4 (consM (cM (PyData.str "x")) (consM (cM (PyData.int 0)) nilM)))))) (callM g__law_due (consM (cM (PyData.int 4)) nilM))) (retM (cM (PyData.bool false))) skipM)
    Sq_law_7) rr := (rfl)
def Sq_law_9 : SM :=
    (seqS (ifM (tstM neB (callOM 4 g__law_told (consM (cM (PyData.str "tell")) (consM (varM 3) (hereOM 4 (consM (tupM (consM (cM (PyData.int 0)) nilM)) (consM (cM (PyData.bool true)) nilM)))))) (callM g__law_due (consM (cM (PyData.int 1)) nilM))) (retM (cM (PyData.bool false))) skipM)
    Sq_law_8)
theorem Sq_law_9_a (rr : Rho) : Sq_law_9 rr = (seqS (ifM (tstM neB (callOM 4 g__law_told (consM (cM (PyData.str "tell")) (consM (varM 3) (hereOM 4 (consM (tupM (consM (cM (PyData.int 0)) nilM)) (consM (cM (PyData.bool true)) nilM)))))) (callM g__law_due (consM (cM (PyData.int 1)) nilM))) (retM (cM (PyData.bool false))) skipM)
    Sq_law_8) rr := (rfl)
def Sq_law_10 : SM :=
    (seqS (ifM (orM (tstM neB (callOM 4 g__law_told (consM (cM (PyData.str "one")) (consM (varM 3) (hereOM 4 (consM (tupM nilM) (consM (tupM nilM) nilM)))))) (callM g__law_due (consM (cM (PyData.int 2)) nilM))) (tstM neB (callOM 4 g__law_told (consM (cM (PyData.str "back")) (consM (varM 3) (hereOM 4 (consM (cM (PyData.int 0)) (consM (cM (PyData.int 0)) nilM)))))) (callM g__law_due (consM (cM (PyData.int 3)) nilM)))) (retM (cM (PyData.bool false))) skipM)
    Sq_law_9)
theorem Sq_law_10_a (rr : Rho) : Sq_law_10 rr = (seqS (ifM (orM (tstM neB (callOM 4 g__law_told (consM (cM (PyData.str "one")) (consM (varM 3) (hereOM 4 (consM (tupM nilM) (consM (tupM nilM) nilM)))))) (callM g__law_due (consM (cM (PyData.int 2)) nilM))) (tstM neB (callOM 4 g__law_told (consM (cM (PyData.str "back")) (consM (varM 3) (hereOM 4 (consM (cM (PyData.int 0)) (consM (cM (PyData.int 0)) nilM)))))) (callM g__law_due (consM (cM (PyData.int 3)) nilM)))) (retM (cM (PyData.bool false))) skipM)
    Sq_law_9) rr := (rfl)
def Sq_law_11 : SM :=
    (seqS (preM [6, 7, 10] (forM (seqM (opM ixD (varM 3) (cM (PyData.int 2)))) (nameG 6) F_law_4))
    Sq_law_10)
theorem Sq_law_11_a (rr : Rho) : Sq_law_11 rr = (seqS (preM [6, 7, 10] (forM (seqM (opM ixD (varM 3) (cM (PyData.int 2)))) (nameG 6) F_law_4))
    Sq_law_10) rr := (rfl)
def Sq_law_12 : SM :=
    (seqS (preM [6, 7, 9] (forM (rng1M (opM ixD (varM 3) (cM (PyData.int 0)))) (nameG 6) F_law_2))
    Sq_law_11)
theorem Sq_law_12_a (rr : Rho) : Sq_law_12 rr = (seqS (preM [6, 7, 9] (forM (rng1M (opM ixD (varM 3) (cM (PyData.int 0)))) (nameG 6) F_law_2))
    Sq_law_11) rr := (rfl)
def Sq_law_13 : SM :=
    (seqS (asgM 5 (tupM (consM (methM 4 g_Seeker__left nilM) (consM (methM 4 g_Seeker__history nilM) nilM))))
    Sq_law_12)
theorem Sq_law_13_a (rr : Rho) : Sq_law_13 rr = (seqS (asgM 5 (tupM (consM (methM 4 g_Seeker__left nilM) (consM (methM 4 g_Seeker__history nilM) nilM))))
    Sq_law_12) rr := (rfl)
def F_law_5 : SM :=
    (wipM [2, 3, 4, 5, 6, 7, 8, 9, 10] (seqS (asgM 3 (callRM 1 g__law_net (consM (varM 0) (hereM 1 (consM (cM (PyData.int 6)) (consM (cM (PyData.int 6)) nilM))))))
    (seqS (newSM 4 (mkM gI_Seeker (varM 3)))
    Sq_law_13)))
def Sq_law_14 : SM :=
    (seqS (preM [2, 3, 4, 5, 6, 7, 8, 9, 10] (forM (rng1M (cM (PyData.int 3))) (nameG 2) F_law_5))
    (retM (cM (PyData.bool true))))
theorem Sq_law_14_a (rr : Rho) : Sq_law_14 rr = (seqS (preM [2, 3, 4, 5, 6, 7, 8, 9, 10] (forM (rng1M (cM (PyData.int 3))) (nameG 2) F_law_5))
    (retM (cM (PyData.bool true)))) rr := (rfl)
def b_law : SM :=
    (seqS (newM 1 (lstM nilM))
    Sq_law_14)
def g_law : List D → Option D := runF N_law b_law
end L_k38
/-! evaluation of combinator terms at rows of slots that are written out -/
namespace DL
open PySem L2
theorem ob_some {α β : Type} (a : α) (f : α → Option β) : (some a).bind f = f a := (rfl)
theorem om_some {α β : Type} (a : α) (f : α → β) : (some a).map f = some (f a) := (rfl)
/-! slots -/
def SV.dat : SV → Option D
  | .d x => some x
  | _ => none
def SV.lis : SV → Option (Bool × List D)
  | .l b xs => some (b, xs)
  | _ => none
def SV.dic : SV → Option (Bool × Bool × List (DK × D))
  | .m b t xs => some (b, t, xs)
  | _ => none
theorem dat_d (x : D) : (SV.d x).dat = some x := (rfl)
theorem lis_l (b : Bool) (x : List D) : (SV.l b x).lis = some (b, x) := (rfl)
theorem dic_m (b t : Bool) (x : List (DK × D)) : (SV.m b t x).dic = some (b, t, x) := (rfl)
def gt (r : Rho) (i : Nat) : Option SV := r[i]?.bind id
theorem gt_0 (o : Option SV) (r : Rho) : gt (o :: r) 0 = o := (rfl)
theorem gt_1 (a o : Option SV) (r : Rho) : gt (a :: o :: r) 1 = o := (rfl)
theorem gt_2 (a b o : Option SV) (r : Rho) : gt (a :: b :: o :: r) 2 = o := (rfl)
theorem gt_3 (a b c o : Option SV) (r : Rho) : gt (a :: b :: c :: o :: r) 3 = o := (rfl)
theorem gt_4 (a b c d o : Option SV) (r : Rho) : gt (a :: b :: c :: d :: o :: r) 4 = o := (rfl)
theorem gt_5 (a b c d e o : Option SV) (r : Rho) : gt (a :: b :: c :: d :: e :: o :: r) 5 = o := (rfl)
theorem gt_6 (a b c d e f o : Option SV) (r : Rho) : gt (a :: b :: c :: d :: e :: f :: o :: r) 6 = o := (rfl)
theorem gt_7 (a b c d e f g o : Option SV) (r : Rho) : gt (a :: b :: c :: d :: e :: f :: g :: o :: r) 7 = o := (rfl)
theorem gt_b (a b c d e f g h : Option SV) (r : Rho) (i : Nat) : gt (a :: b :: c :: d :: e :: f :: g :: h :: r) (i + 8) = gt r i := by unfold gt; simp
theorem st_0 (o x : Option SV) (r : Rho) : List.set (o :: r) 0 x = x :: r := (rfl)
theorem st_s (o x : Option SV) (r : Rho) (i : Nat) : List.set (o :: r) (i + 1) x = o :: List.set r i x := (rfl)
def plG : Option SV → Bool
  | some sv => !sv.own
  | none => true
theorem plG_d (x : D) : plG (some (.d x)) = true := (rfl)
theorem plG_n : plG none = true := (rfl)
theorem plainAt_a (r : Rho) (is : List Nat) : plainAt r is = is.all fun i => plG (gt r i) := by
  unfold plainAt plG gt
  congr 1; funext i
  cases r[i]? with
  | none => rfl
  | some o => cases o <;> rfl
/-! expressions -/
theorem varM_a (i : Nat) (r : Rho) : varM i r = (gt r i).bind fun s => s.dat.map fun x => (x, r) := by
  unfold varM gt
  cases r[i]? with
  | none => rfl
  | some o => cases o with
    | none => rfl
    | some s => cases s <;> rfl
theorem ownM_a (i : Nat) (r : Rho) : ownM i r = (gt r i).bind fun s => s.lis.map fun x => (.list x.2, r) := by
  unfold ownM gt
  cases r[i]? with
  | none => rfl
  | some o => cases o with
    | none => rfl
    | some s => cases s <;> rfl
theorem cM_a (d : D) (r : Rho) : cM d r = some (d, r) := (rfl)
theorem ofL_a (f : AM) (r : Rho) : ofL f r = (f r).map fun p => (.list p.1, p.2) := (rfl)
theorem opM_a (h : D → D → Option D) (f g : EM) (r : Rho) : opM h f g r = (f r).bind fun p => (g p.2).bind fun q => (h p.1 q.1).map fun d => (d, q.2) := (rfl)
theorem opOwnM_a (h : D → D → Option D) (i : Nat) (g : EM) (r : Rho) : opOwnM h i g r = (ownM i r).bind fun _ => (g r).bind fun q => (ownM i q.2).bind fun p => (h p.1 q.1).map fun d => (d, q.2) := (rfl)
theorem unM_a (h : D → Option D) (f : EM) (r : Rho) : unM h f r = (f r).bind fun p => (h p.1).map fun d => (d, p.2) := (rfl)
theorem truM_a (f : EM) (r : Rho) : truM f r = (f r).bind fun p => (truD p.1).map fun b => (b, p.2) := (rfl)
theorem tstM_a (h : D → D → Option Bool) (f g : EM) (r : Rho) : tstM h f g r = (f r).bind fun p => (g p.2).bind fun q => (h p.1 q.1).map fun b => (b, q.2) := (rfl)
theorem notM_a (f : TM) (r : Rho) : notM f r = (f r).map fun p => (!p.1, p.2) := (rfl)
def cnd {α : Type} (b : Bool) (x y : Unit → α) : α := if b = true then x () else y ()
theorem cnd_t {α : Type} (x y : Unit → α) : cnd true x y = x () := (rfl)
theorem cnd_f {α : Type} (x y : Unit → α) : cnd false x y = y () := (rfl)
theorem andM_a (f g : TM) (r : Rho) : andM f g r = (f r).bind fun p => cnd p.1 (fun _ => g p.2) (fun _ => some (false, p.2)) := (rfl)
theorem orM_a (f g : TM) (r : Rho) : orM f g r = (f r).bind fun p => cnd p.1 (fun _ => some (true, p.2)) (fun _ => g p.2) := (rfl)
theorem andVM_a (f g : EM) (r : Rho) : andVM f g r = (f r).bind fun p => (truD p.1).bind fun b => cnd b (fun _ => g p.2) (fun _ => some (p.1, p.2)) := (rfl)
theorem orVM_a (f g : EM) (r : Rho) : orVM f g r = (f r).bind fun p => (truD p.1).bind fun b => cnd b (fun _ => some (p.1, p.2)) (fun _ => g p.2) := (rfl)
theorem notVM_a (f : EM) (r : Rho) : notVM f r = (f r).bind fun p => (truD p.1).map fun b => (.bool (!b), p.2) := (rfl)
theorem iteM_a (t : TM) (f g : EM) (r : Rho) : iteM t f g r = (t r).bind fun p => cnd p.1 (fun _ => f p.2) (fun _ => g p.2) := (rfl)
theorem chM_a (h1 h2 : D → D → Option Bool) (f g k : EM) (r : Rho) : chM h1 h2 f g k r = (f r).bind fun p => (g p.2).bind fun q => (h1 p.1 q.1).bind fun b => cnd b (fun _ => (k q.2).bind fun w => (h2 q.1 w.1).map fun c => (.bool c, w.2)) (fun _ => some (.bool false, q.2)) := (rfl)
theorem nilM_a (r : Rho) : nilM r = some ([], r) := (rfl)
theorem consM_a (f : EM) (g : AM) (r : Rho) : consM f g r = (f r).bind fun p => (g p.2).map fun q => (p.1 :: q.1, q.2) := (rfl)
def guard' {α : Type} (b : Bool) (x : Unit → Option α) : Option α := if b = true then x () else none
theorem guard_tt {α : Type} (x : Unit → Option α) : guard' true x = x () := (rfl)
theorem tupM_a (f : AM) (r : Rho) : tupM f r = (f r).bind fun p => guard' (szOk p.1.length) fun _ => some (.tuple p.1, p.2) := (rfl)
theorem lstM_a (f : AM) (r : Rho) : lstM f r = (f r).bind fun p => guard' (szOk p.1.length) fun _ => some p := (rfl)
theorem noM_a (r : Rho) : noM r = some (none, r) := (rfl)
def intV : D → Option Int
  | .int i => some i
  | _ => none
theorem intV_i (i : Int) : intV (.int i) = some i := (rfl)
theorem someM_a (f : EM) (r : Rho) : someM f r = (f r).bind fun p => (intV p.1).map fun i => (some i, p.2) := by
  unfold someM
  cases f r with
  | none => rfl
  | some p => obtain ⟨d, r1⟩ := p; cases d <;> rfl
theorem slM_a (f : EM) (l u : OM) (r : Rho) : slM f l u r = (f r).bind fun p => (l p.2).bind fun q => (u q.2).bind fun w => (slD p.1 q.1 w.1).map fun d => (d, w.2) := (rfl)
theorem rng1M_a (f : EM) (r : Rho) : rng1M f r = (f r).bind fun p => (intV p.1).bind fun j => guard' (rngOk j) fun _ => some (rngL 0 j, p.2) := by
  unfold rng1M
  cases f r with
  | none => rfl
  | some p => obtain ⟨d, r1⟩ := p; cases d <;> rfl
theorem rng2M_a (f g : EM) (r : Rho) : rng2M f g r = (f r).bind fun p => (g p.2).bind fun q => (intV p.1).bind fun i => (intV q.1).bind fun j => guard' (rngOk i && rngOk j) fun _ => some (rngL i j, q.2) := by
  unfold rng2M
  cases f r with
  | none => rfl
  | some p =>
    obtain ⟨d, r1⟩ := p
    simp only [ob_some]
    cases g r1 with
    | none => rfl
    | some q => obtain ⟨e, r2⟩ := q; cases d <;> cases e <;> rfl
def zipV : D → D → Option (List D)
  | .tuple xs, .tuple ys => some (zipL xs ys)
  | .list xs, .list ys => some (zipL xs ys)
  | _, _ => none
theorem zipV_t (xs ys : List D) : zipV (.tuple xs) (.tuple ys) = some (zipL xs ys) := (rfl)
theorem zipV_l (xs ys : List D) : zipV (.list xs) (.list ys) = some (zipL xs ys) := (rfl)
theorem zipM_a (f g : EM) (r : Rho) : zipM f g r = (f r).bind fun p => (g p.2).bind fun q => (zipV p.1 q.1).map fun z => (z, q.2) := by
  unfold zipM
  cases f r with
  | none => rfl
  | some p =>
    obtain ⟨d, r1⟩ := p
    simp only [ob_some]
    cases g r1 with
    | none => rfl
    | some q => obtain ⟨e, r2⟩ := q; cases d <;> cases e <;> rfl
theorem seqM_a (f : EM) (r : Rho) : seqM f r = (f r).bind fun p => (itemsOf p.1).map fun ds => (ds, p.2) := (rfl)
theorem callM_a (g : List D → Option D) (f : AM) (r : Rho) : callM g f r = (f r).bind fun p => (g p.1).map fun d => (d, p.2) := (rfl)
theorem hereM_a (i : Nat) (f : AM) (r : Rho) : hereM i f r = (ownM i r).bind fun _ => f r := (rfl)
theorem callRM_a (i : Nat) (g : List D → List D → Option (D × List D)) (f : AM) (r : Rho) : callRM i g f r = (f r).bind fun p => (gt p.2 i).bind fun s => s.lis.bind fun x => (g p.1 x.2).map fun q => (q.1, p.2.set i (some (.l x.1 q.2))) := by
  unfold callRM gt
  cases f r with
  | none => rfl
  | some p =>
    simp only [ob_some]
    cases p.2[i]? with
    | none => rfl
    | some o => cases o with
      | none => rfl
      | some s => cases s <;> rfl
theorem appM_a (i : Nat) (f : EM) (r : Rho) : appM i f r = (ownM i r).bind fun _ => (f r).bind fun p => (gt p.2 i).bind fun s => s.lis.bind fun x => guard' (szOk x.2.length) fun _ => some (.none, p.2.set i (some (.l x.1 (x.2 ++ [p.1])))) := by
  unfold appM gt
  congr 1; funext _
  congr 1; funext p
  cases p.2[i]? with
  | none => rfl
  | some o => cases o with
    | none => rfl
    | some s => cases s <;> rfl
def lisV : D → Option (List D)
  | .list x => some x
  | _ => none
theorem lisV_l (x : List D) : lisV (.list x) = some x := (rfl)
theorem extM_a (i : Nat) (f : EM) (r : Rho) : extM i f r = (ownM i r).bind fun _ => (f r).bind fun p => (gt p.2 i).bind fun s => s.lis.bind fun x => (lisV p.1).bind fun y => guard' (szOk (x.2.length + y.length)) fun _ => some (.none, p.2.set i (some (.l x.1 (x.2 ++ y)))) := by
  unfold extM gt
  congr 1; funext _
  congr 1; funext p
  cases p.2[i]? with
  | none => rfl
  | some o => cases o with
    | none => rfl
    | some s => cases s with
      | l b xs => obtain ⟨d, r1⟩ := p; cases d <;> rfl
      | _ => obtain ⟨d, r1⟩ := p; cases d <;> rfl
theorem popM_a (i : Nat) (r : Rho) : popM i r = (gt r i).bind fun s => s.lis.bind fun x => (x.2[x.2.length - 1]?).map fun d => (d, r.set i (some (.l x.1 x.2.dropLast))) := by
  unfold popM gt
  cases r[i]? with
  | none => rfl
  | some o => cases o with
    | none => rfl
    | some s => cases s <;> rfl
theorem popAtM_a (i : Nat) (f : EM) (r : Rho) : popAtM i f r = (ownM i r).bind fun _ => (f r).bind fun p => (gt p.2 i).bind fun s => s.lis.bind fun x => (intV p.1).bind fun j => guard' (decide (0 ≤ j ∧ j < 1000000)) fun _ => (x.2[j.toNat]?).map fun d => (d, p.2.set i (some (.l x.1 (x.2.eraseIdx j.toNat)))) := by
  unfold popAtM gt
  congr 1; funext _
  congr 1; funext p
  cases p.2[i]? with
  | none => rfl
  | some o => cases o with
    | none => rfl
    | some s => cases s with
      | l b xs => obtain ⟨d, r1⟩ := p; cases d <;> (try rfl); simp [guard', SV.lis, intV]
      | _ => obtain ⟨d, r1⟩ := p; cases d <;> rfl
theorem newDM_a (i : Nat) (t : Bool) (r : Rho) : newDM i t r = some (.nx (r.set i (some (.m false t [])))) := (rfl)
theorem putM_a (i : Nat) (fk fv : EM) (r : Rho) : putM i fk fv r = (fv r).bind fun p => (gt p.2 i).bind fun s => s.dic.bind fun _ => (fk p.2).bind fun q => (gt q.2 i).bind fun s => s.dic.bind fun x => (dkOf x.2.1 q.1).bind fun k => guard' (szOk x.2.2.length) fun _ => some (.nx (q.2.set i (some (.m x.1 x.2.1 (putG x.2.2 k p.1))))) := by
  unfold putM gt
  congr 1; funext p
  cases p.2[i]? with
  | none => rfl
  | some o => cases o with
    | none => rfl
    | some s => cases s with
      | m b t xs =>
        simp only [ob_some, id, SV.dic]
        congr 1; funext q
        cases q.2[i]? with
        | none => rfl
        | some o => cases o with
          | none => rfl
          | some s => cases s <;> rfl
      | _ => rfl
theorem lenDM_a (i : Nat) (r : Rho) : lenDM i r = (gt r i).bind fun s => s.dic.bind fun x => guard' x.2.1 fun _ => some (.int x.2.2.length, r) := by
  unfold lenDM gt
  cases r[i]? with
  | none => rfl
  | some o => cases o with
    | none => rfl
    | some s => cases s with
      | m b t xs => cases t <;> rfl
      | _ => rfl
theorem sortDM_a (i : Nat) (r : Rho) : sortDM i r = (gt r i).bind fun s => s.dic.bind fun x => guard' x.2.1 fun _ => guard' (sortOk (x.2.2.map fun kv => dkD kv.1)) fun _ => some (.list (sortL (x.2.2.map fun kv => dkD kv.1)), r) := by
  unfold sortDM gt
  cases r[i]? with
  | none => rfl
  | some o => cases o with
    | none => rfl
    | some s => cases s with
      | m b t xs => cases t <;> rfl
      | _ => rfl
/-! targets -/
theorem nameG_a (i : Nat) (r : Rho) (d : D) : nameG i r d = some (r.set i (some (.d d))) := (rfl)
theorem nilG_a (r : Rho) : nilG r [] = some r := (rfl)
theorem consG_a (t : GM) (u : GMs) (r : Rho) (d : D) (ds : List D) : consG t u r (d :: ds) = (t r d).bind fun r1 => u r1 ds := (rfl)
theorem tupG_a (n : Nat) (t : GMs) (r : Rho) (ds : List D) : tupG n t r (.tuple ds) = guard' (decide (ds.length = n)) fun _ => t r ds := by
  unfold tupG guard'
  simp only [decide_eq_true_eq]
/-! statements -/
def seqK (g : SM) : Out → Option Out
  | .nx r1 => g r1
  | o => some o
theorem seqS_a (f g : SM) (r : Rho) : seqS f g r = (f r).bind (seqK g) := by
  unfold seqS
  cases f r with
  | none => rfl
  | some o => cases o <;> rfl
theorem seqK_nx (g : SM) (r : Rho) : seqK g (.nx r) = g r := (rfl)
theorem seqK_rt (g : SM) (d : D) (r : Rho) : seqK g (.rt d r) = some (.rt d r) := (rfl)
theorem seqK_ct (g : SM) (r : Rho) : seqK g (.ct r) = some (.ct r) := (rfl)
theorem skipM_a (r : Rho) : skipM r = some (.nx r) := (rfl)
theorem asgM_a (i : Nat) (f : EM) (r : Rho) : asgM i f r = (f r).map fun p => .nx (p.2.set i (some (.d p.1))) := (rfl)
theorem asgG_a (g : GM) (f : EM) (r : Rho) : asgG g f r = (f r).bind fun p => (g p.2 p.1).map .nx := (rfl)
theorem newM_a (i : Nat) (f : AM) (r : Rho) : newM i f r = (f r).map fun p => .nx (p.2.set i (some (.l false p.1))) := (rfl)
theorem asgLM_a (i : Nat) (f : AM) (r : Rho) : asgLM i f r = (f r).map fun p => .nx (p.2.set i (some (.d (.list p.1)))) := (rfl)
theorem retM_a (f : EM) (r : Rho) : retM f r = (f r).map fun p => .rt p.1 p.2 := (rfl)
theorem exprM_a (f : EM) (r : Rho) : exprM f r = (f r).map fun p => .nx p.2 := (rfl)
theorem ifM_a (t : TM) (f g : SM) (r : Rho) : ifM t f g r = (t r).bind fun p => cnd p.1 (fun _ => f p.2) (fun _ => g p.2) := (rfl)
theorem forM_a (it : AM) (g : GM) (f : SM) (r : Rho) : forM it g f r = (it r).bind fun p => forL g f p.1 p.2 := (rfl)
theorem frzM_a (i : Nat) (f : SM) (r : Rho) : frzM i f r = (gt r i).bind fun s => s.lis.bind fun x => f (r.set i (some (.d (.list x.2)))) := by
  unfold frzM frzR gt
  cases r[i]? with
  | none => rfl
  | some o => cases o with
    | none => rfl
    | some s => cases s <;> rfl
def finF : Out → Option D
  | .rt d _ => some d
  | .nx _ => some .none
  | _ => none
theorem runF_a (N : List Str) (b : SM) (ds : List D) : runF N b ds = (b (startD N ds)).bind finF := by
  unfold runF
  cases b (startD N ds) with
  | none => rfl
  | some o => cases o <;> rfl
theorem finF_rt (d : D) (r : Rho) : finF (.rt d r) = some d := (rfl)
theorem finF_nx (r : Rho) : finF (.nx r) = some .none := (rfl)
def finR (j : Nat) : Out → Option (D × List D)
  | .rt d r => (gt r j).bind fun s => s.lis.bind fun x => guard' x.1 fun _ => some (d, x.2)
  | .nx r => (gt r j).bind fun s => s.lis.bind fun x => guard' x.1 fun _ => some (.none, x.2)
  | _ => none
theorem endR_a (j : Nat) (r : Rho) (d : D) : (endR j r).map (fun ys => (d, ys)) = (gt r j).bind fun s => s.lis.bind fun x => guard' x.1 fun _ => some (d, x.2) := by
  unfold endR gt
  cases r[j]? with
  | none => rfl
  | some o => cases o with
    | none => rfl
    | some s => cases s with
      | l b xs => cases b <;> rfl
      | _ => rfl
theorem runR_a (N : List Str) (j : Nat) (b : SM) (ds xs : List D) : runR N j b ds xs = (b (startR N j ds xs)).bind (finR j) := by
  unfold runR
  cases b (startR N j ds xs) with
  | none => rfl
  | some o => cases o <;> first | rfl | exact endR_a _ _ _
theorem finR_rt (j : Nat) (d : D) (r : Rho) : finR j (.rt d r) = (gt r j).bind fun s => s.lis.bind fun x => guard' x.1 fun _ => some (d, x.2) := (rfl)
theorem finR_nx (j : Nat) (r : Rho) : finR j (.nx r) = (gt r j).bind fun s => s.lis.bind fun x => guard' x.1 fun _ => some (.none, x.2) := (rfl)
/-! data -/
theorem szOk_of {n : Nat} (h : n ≤ 1000000) : szOk n = true := decide_eq_true h
theorem sz_0 : szOk 0 = true := by decide
theorem sz_1 : szOk 1 = true := by decide
theorem sz_2 : szOk 2 = true := by decide
theorem sz_3 : szOk 3 = true := by decide
theorem sz_4 : szOk 4 = true := by decide
theorem sz_5 : szOk 5 = true := by decide
theorem sz_6 : szOk 6 = true := by decide
theorem sz_7 : szOk 7 = true := by decide
theorem sz_8 : szOk 8 = true := by decide
theorem sz_9 : szOk 9 = true := by decide
theorem sz_10 : szOk 10 = true := by decide
theorem sz_11 : szOk 11 = true := by decide
theorem sz_12 : szOk 12 = true := by decide
theorem sz_13 : szOk 13 = true := by decide
theorem sz_14 : szOk 14 = true := by decide
theorem sz_15 : szOk 15 = true := by decide
theorem sz_16 : szOk 16 = true := by decide
theorem sz_17 : szOk 17 = true := by decide
theorem sz_18 : szOk 18 = true := by decide
theorem sz_19 : szOk 19 = true := by decide
theorem sz_20 : szOk 20 = true := by decide
theorem sz_21 : szOk 21 = true := by decide
theorem sz_22 : szOk 22 = true := by decide
theorem sz_23 : szOk 23 = true := by decide
theorem sz_24 : szOk 24 = true := by decide
theorem sz_25 : szOk 25 = true := by decide
theorem sz_26 : szOk 26 = true := by decide
theorem sz_27 : szOk 27 = true := by decide
theorem sz_28 : szOk 28 = true := by decide
theorem sz_29 : szOk 29 = true := by decide
theorem sz_30 : szOk 30 = true := by decide
theorem nc_0 : ((0 : Nat) : Int) = 0 := (rfl)
theorem nc_1 : ((1 : Nat) : Int) = 1 := (rfl)
theorem nc_2 : ((2 : Nat) : Int) = 2 := (rfl)
theorem nc_3 : ((3 : Nat) : Int) = 3 := (rfl)
theorem nc_4 : ((4 : Nat) : Int) = 4 := (rfl)
theorem nc_5 : ((5 : Nat) : Int) = 5 := (rfl)
theorem nc_6 : ((6 : Nat) : Int) = 6 := (rfl)
theorem nc_7 : ((7 : Nat) : Int) = 7 := (rfl)
theorem nc_8 : ((8 : Nat) : Int) = 8 := (rfl)
theorem nc_9 : ((9 : Nat) : Int) = 9 := (rfl)
theorem nc_10 : ((10 : Nat) : Int) = 10 := (rfl)
theorem nc_11 : ((11 : Nat) : Int) = 11 := (rfl)
theorem nc_12 : ((12 : Nat) : Int) = 12 := (rfl)
theorem nc_13 : ((13 : Nat) : Int) = 13 := (rfl)
theorem nc_14 : ((14 : Nat) : Int) = 14 := (rfl)
theorem nc_15 : ((15 : Nat) : Int) = 15 := (rfl)
theorem nc_16 : ((16 : Nat) : Int) = 16 := (rfl)
theorem nc_17 : ((17 : Nat) : Int) = 17 := (rfl)
theorem nc_18 : ((18 : Nat) : Int) = 18 := (rfl)
theorem nc_19 : ((19 : Nat) : Int) = 19 := (rfl)
theorem nc_20 : ((20 : Nat) : Int) = 20 := (rfl)
theorem nc_21 : ((21 : Nat) : Int) = 21 := (rfl)
theorem nc_22 : ((22 : Nat) : Int) = 22 := (rfl)
theorem nc_23 : ((23 : Nat) : Int) = 23 := (rfl)
theorem nc_24 : ((24 : Nat) : Int) = 24 := (rfl)
theorem nc_25 : ((25 : Nat) : Int) = 25 := (rfl)
theorem nc_26 : ((26 : Nat) : Int) = 26 := (rfl)
theorem nc_27 : ((27 : Nat) : Int) = 27 := (rfl)
theorem nc_28 : ((28 : Nat) : Int) = 28 := (rfl)
theorem nc_29 : ((29 : Nat) : Int) = 29 := (rfl)
theorem nc_30 : ((30 : Nat) : Int) = 30 := (rfl)
theorem addD_i (i j : Int) : addD (.int i) (.int j) = some (.int (i + j)) := (rfl)
theorem addD_t (xs ys : List D) : addD (.tuple xs) (.tuple ys) = guard' (szOk (xs.length + ys.length)) fun _ => some (.tuple (xs ++ ys)) := (rfl)
theorem addD_l (xs ys : List D) : addD (.list xs) (.list ys) = guard' (szOk (xs.length + ys.length)) fun _ => some (.list (xs ++ ys)) := (rfl)
theorem subD_i (i j : Int) : subD (.int i) (.int j) = some (.int (i - j)) := (rfl)
theorem modD_i (i j : Int) : modD (.int i) (.int j) = guard' (decide (0 < j)) fun _ => some (.int (i % j)) := by simp [modD, guard']
theorem fdivD_i (i j : Int) : fdivD (.int i) (.int j) = guard' (decide (0 < j ∧ j < 1073741824)) fun _ => some (.int (i / j)) := by simp [fdivD, guard']
def mulOk (i j : Int) : Bool := decide ((-(2 ^ 64) < i ∧ i < 2 ^ 64) ∨ (-(2 ^ 64) < j ∧ j < 2 ^ 64))
theorem mulD_i (i j : Int) : mulD (.int i) (.int j) = guard' (mulOk i j) fun _ => some (.int (i * j)) := by simp [mulD, guard', mulOk]
theorem lenD_t (x : List D) : lenD (.tuple x) = some (.int x.length) := (rfl)
theorem lenD_l (x : List D) : lenD (.list x) = some (.int x.length) := (rfl)
theorem tupleD_t (x : List D) : tupleD (.tuple x) = some (.tuple x) := (rfl)
theorem tupleD_l (x : List D) : tupleD (.list x) = some (.tuple x) := (rfl)
theorem truD_i (i : Int) : truD (.int i) = some (i != 0) := (rfl)
theorem truD_b (b : Bool) : truD (.bool b) = some b := (rfl)
theorem truD_n : truD .none = some false := (rfl)
theorem truD_l (x : List D) : truD (.list x) = some (!x.isEmpty) := (rfl)
theorem truD_t (x : List D) : truD (.tuple x) = some (!x.isEmpty) := (rfl)
theorem ixD_t (x : List D) (i : Int) : ixD (.tuple x) (.int i) = atI x i := (rfl)
theorem ixD_l (x : List D) (i : Int) : ixD (.list x) (.int i) = atI x i := (rfl)
theorem negD_i (i : Int) : negD (.int i) = some (.int (-i)) := (rfl)
theorem bD_a (h : D → D → Option Bool) (d e : D) : bD h d e = (h d e).map .bool := (rfl)
theorem ltB_i (i j : Int) : ltB (.int i) (.int j) = some (decide (i < j)) := (rfl)
theorem leB_i (i j : Int) : leB (.int i) (.int j) = some (decide (i ≤ j)) := (rfl)
theorem eqB_i (i j : Int) : eqB (.int i) (.int j) = some (i == j) := (rfl)
theorem neB_i (i j : Int) : neB (.int i) (.int j) = some (!(i == j)) := (rfl)
theorem min2D_i (i j : Int) : min2D (.int i) (.int j) = some (.int (min i j)) := by
  unfold min2D; simp only [Option.some.injEq, PyData.int.injEq]; split <;> omega
theorem max2D_i (i j : Int) : max2D (.int i) (.int j) = some (.int (max i j)) := by
  unfold max2D; simp only [Option.some.injEq, PyData.int.injEq]; split <;> omega
theorem items_t (x : List D) : itemsOf (.tuple x) = some x := (rfl)
theorem items_l (x : List D) : itemsOf (.list x) = some x := (rfl)
theorem intD_b (b : Bool) : intD (.bool b) = some (.int (if b = true then 1 else 0)) := (rfl)
theorem isNN : isB .none .none = some true := (rfl)
theorem slD_t (x : List D) (l u : Option Int) : slD (.tuple x) l u = some (.tuple (cutD x l u)) := (rfl)
theorem slD_l (x : List D) (l u : Option Int) : slD (.list x) l u = some (.list (cutD x l u)) := (rfl)
theorem rng_ok {i : Int} (h1 : -1000000 ≤ i) (h2 : i ≤ 1000000) : rngOk i = true := by unfold rngOk; simp [h1, h2]
theorem sortD2_l (xs : List D) : sortD2 (.list xs) = guard' (sortOk xs) fun _ => some (.list (sortL xs)) := (rfl)
theorem sortD2_t (xs : List D) : sortD2 (.tuple xs) = guard' (sortOk xs) fun _ => some (.list (sortL xs)) := (rfl)
/-! plain steps -/
theorem p_ge0 {α : Type} (a : α) (l : List α) : (a :: l)[0]? = some a := (rfl)
theorem p_geS {α : Type} (a : α) (l : List α) (i : Nat) : (a :: l)[i + 1]? = l[i]? := (rfl)
theorem p_tk0 {α : Type} (l : List α) : l.take 0 = [] := by cases l <;> rfl
theorem p_tkS {α : Type} (a : α) (l : List α) (i : Nat) : (a :: l).take (i + 1) = a :: l.take i := (rfl)
theorem p_tkN {α : Type} (i : Nat) : ([] : List α).take i = [] := by cases i <;> rfl
theorem p_dr0 {α : Type} (l : List α) : l.drop 0 = l := by cases l <;> rfl
theorem p_drS {α : Type} (a : α) (l : List α) (i : Nat) : (a :: l).drop (i + 1) = l.drop i := (rfl)
theorem p_drN {α : Type} (i : Nat) : ([] : List α).drop i = [] := by cases i <;> rfl
theorem p_mpC {α β : Type} (f : α → β) (a : α) (l : List α) : (a :: l).map f = f a :: l.map f := (rfl)
theorem p_mpN {α β : Type} (f : α → β) : ([] : List α).map f = [] := (rfl)
theorem p_apC {α : Type} (a : α) (l m : List α) : a :: l ++ m = a :: (l ++ m) := (rfl)
theorem p_apN {α : Type} (l : List α) : [] ++ l = l := (rfl)
theorem p_lnC {α : Type} (a : α) (l : List α) : (a :: l).length = l.length + 1 := (rfl)
theorem p_lnN {α : Type} : ([] : List α).length = 0 := (rfl)
theorem p_rpS {α : Type} (n : Nat) (a : α) : List.replicate (n + 1) a = a :: List.replicate n a := (rfl)
theorem p_rp0 {α : Type} (a : α) : List.replicate 0 a = [] := (rfl)
theorem p_alC {α : Type} (p : α → Bool) (a : α) (l : List α) : (a :: l).all p = (p a && l.all p) := (rfl)
theorem p_alN {α : Type} (p : α → Bool) : ([] : List α).all p = true := (rfl)
theorem p_gdS {α : Type} (a b : α) : (some a).getD b = a := (rfl)
theorem p_gdN {α : Type} (b : α) : (none : Option α).getD b = b := (rfl)
theorem p_tlS {α : Type} (a : α) : (some a).toList = [a] := (rfl)
theorem p_tlN {α : Type} : (none : Option α).toList = [] := (rfl)
theorem p_ieC {α : Type} (a : α) (l : List α) : (a :: l).isEmpty = false := (rfl)
theorem p_ieN {α : Type} : ([] : List α).isEmpty = true := (rfl)
theorem p_nt : (!true) = false := (rfl)
theorem p_nf : (!false) = true := (rfl)
theorem p_atb (b : Bool) : (true && b) = b := (rfl)
theorem p_afb (b : Bool) : (false && b) = false := (rfl)
theorem p_abt (b : Bool) : (b && true) = b := by cases b <;> rfl
theorem p_abf (b : Bool) : (b && false) = false := by cases b <;> rfl
theorem p_eqS {α : Sort _} (a : α) : (a = a) = True := eq_true rfl
theorem p_dT {h : Decidable True} : @decide True h = true := by simp
theorem p_dF {h : Decidable False} : @decide False h = false := by simp
theorem p_TA (p : Prop) : (True ∧ p) = p := by simp
theorem p_AT (p : Prop) : (p ∧ True) = p := by simp
theorem p_TO (p : Prop) : (True ∨ p) = True := by simp
theorem p_OT (p : Prop) : (p ∨ True) = True := by simp
theorem p_startD (N : List Str) (ds : List D) : startD N ds = ds.map (fun d => some (.d d)) ++ List.replicate (N.length - ds.length) none := (rfl)
theorem p_startR (N : List Str) (j : Nat) (ds : List D) (xs : List D) : startR N j ds xs = (ds.take j).map (fun d => some (.d d)) ++ some (.l true xs) :: ((ds.drop j).map (fun d => some (.d d)) ++ List.replicate (N.length - (ds.length + 1)) none) := (rfl)
end DL
local macro_rules | `(tactic| simp_arith [$xs,*]) => `(tactic| simp only [DL.ob_some, DL.om_some, DL.dat_d, DL.lis_l, DL.dic_m, DL.gt_0, DL.gt_1, DL.gt_2, DL.gt_3, DL.gt_4, DL.gt_5, DL.gt_6, DL.gt_7, DL.gt_b, DL.st_0, DL.st_s, DL.plG_d, DL.plG_n, DL.plainAt_a, DL.varM_a, DL.ownM_a, DL.cM_a, DL.ofL_a, DL.opM_a, DL.opOwnM_a, DL.unM_a, DL.truM_a, DL.tstM_a, DL.notM_a, DL.cnd_t, DL.cnd_f, DL.andM_a, DL.orM_a, DL.andVM_a, DL.orVM_a, DL.notVM_a, DL.iteM_a, DL.chM_a, DL.nilM_a, DL.consM_a, DL.guard_tt, DL.tupM_a, DL.lstM_a, DL.noM_a, DL.intV_i, DL.someM_a, DL.slM_a, DL.rng1M_a, DL.rng2M_a, DL.zipV_t, DL.zipV_l, DL.zipM_a, DL.seqM_a, DL.callM_a, DL.hereM_a, DL.callRM_a, DL.appM_a, DL.lisV_l, DL.extM_a, DL.popM_a, DL.popAtM_a, DL.newDM_a, DL.putM_a, DL.lenDM_a, DL.sortDM_a, DL.nameG_a, DL.nilG_a, DL.consG_a, DL.tupG_a, DL.seqS_a, DL.seqK_nx, DL.seqK_rt, DL.seqK_ct, DL.skipM_a, DL.asgM_a, DL.asgG_a, DL.newM_a, DL.asgLM_a, DL.retM_a, DL.exprM_a, DL.ifM_a, DL.forM_a, DL.frzM_a, DL.runF_a, DL.finF_rt, DL.finF_nx, DL.runR_a, DL.finR_rt, DL.finR_nx, DL.sz_0, DL.sz_1, DL.sz_2, DL.sz_3, DL.sz_4, DL.sz_5, DL.sz_6, DL.sz_7, DL.sz_8, DL.sz_9, DL.sz_10, DL.sz_11, DL.sz_12, DL.sz_13, DL.sz_14, DL.sz_15, DL.sz_16, DL.sz_17, DL.sz_18, DL.sz_19, DL.sz_20, DL.sz_21, DL.sz_22, DL.sz_23, DL.sz_24, DL.sz_25, DL.sz_26, DL.sz_27, DL.sz_28, DL.sz_29, DL.sz_30, DL.nc_0, DL.nc_1, DL.nc_2, DL.nc_3, DL.nc_4, DL.nc_5, DL.nc_6, DL.nc_7, DL.nc_8, DL.nc_9, DL.nc_10, DL.nc_11, DL.nc_12, DL.nc_13, DL.nc_14, DL.nc_15, DL.nc_16, DL.nc_17, DL.nc_18, DL.nc_19, DL.nc_20, DL.nc_21, DL.nc_22, DL.nc_23, DL.nc_24, DL.nc_25, DL.nc_26, DL.nc_27, DL.nc_28, DL.nc_29, DL.nc_30, DL.addD_i, DL.addD_t, DL.addD_l, DL.subD_i, DL.modD_i, DL.fdivD_i, DL.mulD_i, DL.lenD_t, DL.lenD_l, DL.tupleD_t, DL.tupleD_l, DL.truD_i, DL.truD_b, DL.truD_n, DL.truD_l, DL.truD_t, DL.ixD_t, DL.ixD_l, DL.negD_i, DL.bD_a, DL.ltB_i, DL.leB_i, DL.eqB_i, DL.neB_i, DL.min2D_i, DL.max2D_i, DL.items_t, DL.items_l, DL.intD_b, DL.isNN, DL.slD_t, DL.slD_l, DL.sortD2_l, DL.sortD2_t, DL.p_ge0, DL.p_geS, DL.p_tk0, DL.p_tkS, DL.p_tkN, DL.p_dr0, DL.p_drS, DL.p_drN, DL.p_mpC, DL.p_mpN, DL.p_apC, DL.p_apN, DL.p_lnC, DL.p_lnN, DL.p_rpS, DL.p_rp0, DL.p_alC, DL.p_alN, DL.p_gdS, DL.p_gdN, DL.p_tlS, DL.p_tlN, DL.p_ieC, DL.p_ieN, DL.p_nt, DL.p_nf, DL.p_atb, DL.p_afb, DL.p_abt, DL.p_abf, DL.p_eqS, DL.p_dT, DL.p_dF, DL.p_TA, DL.p_AT, DL.p_TO, DL.p_OT, DL.p_startD, DL.p_startR, Nat.reduceAdd, Nat.reduceSub, Nat.reduceMul, Int.reduceLT, Int.reduceLE, Int.reducePow, Int.reduceNeg, Int.reduceAdd, Int.reduceSub, Int.reduceMul, Int.reduceBEq, Int.reduceBNe, Int.reduceToNat, $xs,*])
namespace DL
open PySem L2
theorem atI_lt {α : Type} {xs : List α} {i : Int} (h0 : 0 ≤ i) (h1 : i < xs.length) : ∃ x, atI xs i = some x ∧ xs[i.toNat]? = some x := by
  have hl : i.toNat < xs.length := by omega
  refine ⟨xs[i.toNat], ?_, by simp [hl]⟩
  unfold atI ixN
  rw [if_pos h0, if_pos h1]
  simp [hl]
theorem atI_mem {α : Type} {xs : List α} {i : Int} (h0 : 0 ≤ i) (h1 : i < xs.length) : ∃ x ∈ xs, atI xs i = some x := by
  obtain ⟨x, h, g⟩ := atI_lt h0 h1
  exact ⟨x, List.mem_of_getElem? g, h⟩
theorem atI_map {α β : Type} (f : α → β) (xs : List α) (i : Int) : atI (xs.map f) i = (atI xs i).map f := by
  unfold atI
  rw [List.length_map]
  cases ixN xs.length i <;> simp
theorem mulOk_of {i j : Int} (h1 : -18446744073709551616 < i) (h2 : i < 18446744073709551616) : mulOk i j = true := by
  unfold mulOk
  have e : (2 : Int) ^ 64 = 18446744073709551616 := by decide
  rw [e]
  exact decide_eq_true (.inl ⟨h1, h2⟩)
theorem mulOk_a (j : Int) : mulOk 104729 j = true := mulOk_of (by decide) (by decide)
theorem mulOk_b (x j : Int) : mulOk (x % 4294967291) j = true := mulOk_of (by have := Int.emod_nonneg x (b := 4294967291) (by decide); omega) (by have := Int.emod_lt_of_pos x (b := 4294967291) (by decide); omega)
theorem mulOk_c (x j : Int) : mulOk (x % 4294967279) j = true := mulOk_of (by have := Int.emod_nonneg x (b := 4294967279) (by decide); omega) (by have := Int.emod_lt_of_pos x (b := 4294967279) (by decide); omega)
end DL
namespace GT
/-! plain lists -/
section
variable {α β : Type}
/-- two rows that rise, with the same things, are one -/
theorem sorted_ext (lt : α → α → Prop) (irr : ∀ a, ¬ lt a a) (tr : ∀ a b c, lt a b → lt b c → lt a c) :
    ∀ (xs ys : List α), xs.Pairwise lt → ys.Pairwise lt → (∀ a, a ∈ xs ↔ a ∈ ys) → xs = ys
  | [], [], _, _, _ => rfl
  | [], y :: ys, _, _, h => by have := (h y).mpr (by simp); simp at this
  | x :: xs, [], _, _, h => by have := (h x).mp (by simp); simp at this
  | x :: xs, y :: ys, hx, hy, h => by
    rw [List.pairwise_cons] at hx hy
    have exy : x = y := by
      have h1 := (h x).mp (by simp)
      have h2 := (h y).mpr (by simp)
      rcases List.mem_cons.mp h1 with e | m1
      · exact e
      · rcases List.mem_cons.mp h2 with e | m2
        · exact e.symm
        · exact absurd (tr _ _ _ (hx.1 y m2) (hy.1 x m1)) (irr x)
    subst exy
    congr 1
    refine sorted_ext lt irr tr xs ys hx.2 hy.2 fun a => ⟨fun m => ?_, fun m => ?_⟩
    · rcases List.mem_cons.mp ((h a).mp (List.mem_cons_of_mem _ m)) with e | q
      · subst e; exact absurd (hx.1 a m) (irr a)
      · exact q
    · rcases List.mem_cons.mp ((h a).mpr (List.mem_cons_of_mem _ m)) with e | q
      · subst e; exact absurd (hy.1 a m) (irr a)
      · exact q
theorem sorted_extI (xs ys : List Int) (h1 : xs.Pairwise (· < ·)) (h2 : ys.Pairwise (· < ·)) (h : ∀ a, a ∈ xs ↔ a ∈ ys) : xs = ys :=
  sorted_ext (· < ·) (fun a => Int.lt_irrefl a) (fun a b c => Int.lt_trans) xs ys h1 h2 h
theorem nodup_len_le [DecidableEq α] : ∀ (xs ys : List α), xs.Nodup → (∀ a ∈ xs, a ∈ ys) → xs.length ≤ ys.length
  | [], ys, _, _ => by simp
  | x :: xs, ys, hn, h => by
    rw [List.nodup_cons] at hn
    have h1 := nodup_len_le xs (ys.erase x) hn.2 fun a m => by
      have ne : a ≠ x := fun e => hn.1 (e ▸ m)
      exact (List.mem_erase_of_ne ne).mpr (h a (List.mem_cons_of_mem _ m))
    have h2 := List.length_erase_of_mem (h x (by simp))
    have h3 : 0 < ys.length := List.length_pos_of_mem (h x (by simp))
    simp only [List.length_cons]; omega
theorem nodup_of_lt {lt : α → α → Prop} (irr : ∀ a, ¬ lt a a) {xs : List α} (h : xs.Pairwise lt) : xs.Nodup :=
  List.Pairwise.imp (fun {a b} q (e : a = b) => irr a (by subst e; exact q)) h
end
/-- 0, 1, .., n - 1 -/
def ir (n : Nat) : List Int := (List.range n).map fun (i : Nat) => (i : Int)
theorem mem_ir {n : Nat} {a : Int} : a ∈ ir n ↔ 0 ≤ a ∧ a < n := by
  unfold ir
  simp only [List.mem_map, List.mem_range]
  constructor
  · rintro ⟨i, h, rfl⟩; omega
  · rintro ⟨h1, h2⟩; exact ⟨a.toNat, by omega, by omega⟩
theorem ir_len (n : Nat) : (ir n).length = n := by simp [ir]
theorem ir_sorted (n : Nat) : (ir n).Pairwise (· < ·) := by
  unfold ir
  rw [List.pairwise_map]
  exact List.pairwise_lt_range.imp fun h => by omega
theorem ir_nodup (n : Nat) : (ir n).Nodup := nodup_of_lt (fun a => Int.lt_irrefl a) (ir_sorted n)
/-- sorted ints -/
def sortI (xs : List Int) : List Int := xs.mergeSort fun a b => decide (a ≤ b)
theorem sortI_perm (xs : List Int) : (sortI xs).Perm xs := List.mergeSort_perm xs _
theorem mem_sortI {xs : List Int} {a : Int} : a ∈ sortI xs ↔ a ∈ xs := (sortI_perm xs).mem_iff
theorem sortI_le (xs : List Int) : (sortI xs).Pairwise (· ≤ ·) := by
  have h := List.pairwise_mergeSort (le := fun a b : Int => decide (a ≤ b)) (fun a b c h1 h2 => by simp at *; omega) (fun a b => by simp; omega) xs
  exact h.imp fun q => by simpa using q
theorem sortI_lt {xs : List Int} (h : xs.Nodup) : (sortI xs).Pairwise (· < ·) := by
  have h2 : (sortI xs).Nodup := (sortI_perm xs).nodup_iff.mpr h
  have h1 := sortI_le xs
  exact (List.pairwise_and_iff.mpr ⟨h1, h2⟩).imp fun ⟨a, b⟩ => by omega
theorem sortI_len (xs : List Int) : (sortI xs).length = xs.length := (sortI_perm xs).length_eq
/-! nets -/
abbrev Tie := Int × Int
structure Net where
  n : Nat
  ties : List Tie
  rim : List Int
def tlt (a b : Tie) : Prop := a.1 < b.1 ∨ (a.1 = b.1 ∧ a.2 < b.2)
instance : DecidableRel tlt := fun a b => by unfold tlt; exact inferInstance
structure Net.WF (N : Net) : Prop where
  pos : 1 ≤ N.n
  small : N.n ≤ 7
  tie : ∀ t ∈ N.ties, 0 ≤ t.1 ∧ t.1 < t.2 ∧ t.2 < N.n
  up : N.ties.Pairwise tlt
  rimIn : ∀ k ∈ N.rim, 0 ≤ k ∧ k < N.n
  rimUp : N.rim.Pairwise (· < ·)
def pr (a b : Int) : Tie := (min a b, max a b)
theorem pr_comm (a b : Int) : pr a b = pr b a := by unfold pr; rw [Int.min_comm, Int.max_comm]
def adj (N : Net) (a b : Int) : Bool := decide (pr a b ∈ N.ties)
theorem adj_comm (N : Net) (a b : Int) : adj N a b = adj N b a := by unfold adj; rw [pr_comm]
theorem adj_in {N : Net} (w : N.WF) {a b : Int} (h : adj N a b = true) : (0 ≤ a ∧ a < N.n) ∧ (0 ≤ b ∧ b < N.n) ∧ a ≠ b := by
  unfold adj at h
  have := w.tie _ (of_decide_eq_true h)
  unfold pr at this
  simp only at this
  omega
def nb (N : Net) (k : Int) : List Int := (ir N.n).filter fun o => adj N k o
theorem mem_nb {N : Net} {w : N.WF} {a b : Int} : b ∈ nb N a ↔ adj N a b = true := by
  unfold nb
  rw [List.mem_filter, mem_ir]
  exact ⟨fun h => h.2, fun h => ⟨(adj_in w h).2.1, h⟩⟩
theorem nb_sorted (N : Net) (k : Int) : (nb N k).Pairwise (· < ·) := (ir_sorted _).filter _
/-- ties by their numbers left out -/
def keepF (B : List Int) (ts : List Tie) (i : Nat) : List Tie := ((ts.zipIdx i).filter fun p => !(B.contains (p.2 : Int))).map (·.1)
def without (N : Net) (B : List Int) : Net := { N with ties := keepF B N.ties 0 }
theorem keep_sub (B : List Int) : ∀ (ts : List Tie) (i : Nat), (keepF B ts i).Sublist ts := by
  intro ts i
  unfold keepF
  have h : (((ts.zipIdx i).filter fun p => !(B.contains (p.2 : Int))).map (·.1)).Sublist ((ts.zipIdx i).map (·.1)) := List.filter_sublist.map _
  rw [List.zipIdx_map_fst] at h
  exact h
theorem without_wf {N : Net} (w : N.WF) (B : List Int) : (without N B).WF where
  pos := w.pos
  small := w.small
  tie := fun t h => w.tie t ((keep_sub B N.ties 0).subset h)
  up := w.up.sublist (keep_sub B N.ties 0)
  rimIn := w.rimIn
  rimUp := w.rimUp
/-! reaching -/
inductive Reach (N : Net) (a : Int) : Int → Prop
  | refl : Reach N a a
  | step {b c : Int} : Reach N a b → adj N b c = true → Reach N a c
theorem Reach.trans {N : Net} {a b c : Int} (h1 : Reach N a b) (h2 : Reach N b c) : Reach N a c := by
  induction h2 with
  | refl => exact h1
  | step _ e ih => exact ih.step e
theorem Reach.head {N : Net} {a b c : Int} (h1 : adj N a b = true) (h2 : Reach N b c) : Reach N a c := (Reach.refl.step h1).trans h2
theorem Reach.symm {N : Net} {a b : Int} (h : Reach N a b) : Reach N b a := by
  induction h with
  | refl => exact .refl
  | step _ e ih => exact Reach.head (by rw [adj_comm]; exact e) ih
theorem Reach.mono {N M : Net} (hs : ∀ a b, adj N a b = true → adj M a b = true) {a b : Int} (h : Reach N a b) : Reach M a b := by
  induction h with
  | refl => exact .refl
  | step _ e ih => exact ih.step (hs _ _ e)
theorem Reach.inn {N : Net} (w : N.WF) {a b : Int} (h : Reach N a b) (ha : 0 ≤ a ∧ a < N.n) : 0 ≤ b ∧ b < N.n := by
  cases h with
  | refl => exact ha
  | step _ e => exact (adj_in w e).2.1
/-- a row that holds a, is closed, and within reach, is what is reached -/
theorem reach_closed {N : Net} {a : Int} {xs : List Int} (h0 : a ∈ xs) (hc : ∀ b ∈ xs, ∀ c, adj N b c = true → c ∈ xs) {b : Int} (h : Reach N a b) : b ∈ xs := by
  induction h with
  | refl => exact h0
  | step _ e ih => exact hc _ ih _ e
open Classical in
noncomputable def reached (N : Net) (k : Int) : List Int := (ir N.n).filter fun x => decide (Reach N k x)
theorem mem_reached {N : Net} (w : N.WF) {k x : Int} (hk : 0 ≤ k ∧ k < N.n) : x ∈ reached N k ↔ Reach N k x := by
  classical
  unfold reached
  rw [List.mem_filter, mem_ir]
  constructor
  · rintro ⟨_, h⟩; simpa using h
  · intro h; exact ⟨h.inn w hk, by simpa using h⟩
theorem reached_sorted (N : Net) (k : Int) : (reached N k).Pairwise (· < ·) := (ir_sorted _).filter _
theorem reached_unique {N : Net} (w : N.WF) {k : Int} (hk : 0 ≤ k ∧ k < N.n) {xs : List Int} (hn : xs.Nodup) (h0 : k ∈ xs) (hc : ∀ b ∈ xs, ∀ c, adj N b c = true → c ∈ xs) (hr : ∀ b ∈ xs, Reach N k b) : sortI xs = reached N k :=
  sorted_extI _ _ (sortI_lt hn) (reached_sorted N k) fun a => by
    rw [mem_sortI, mem_reached w hk]
    exact ⟨hr a, reach_closed h0 hc⟩
end GT
namespace GT
/-! rows of ints in order -/
def llt : List Int → List Int → Bool
  | [], [] => false
  | [], _ :: _ => true
  | _ :: _, [] => false
  | x :: xs, y :: ys => if x = y then llt xs ys else decide (x < y)
def lle (a b : List Int) : Bool := !llt b a
def sortR (xs : List (List Int)) : List (List Int) := xs.mergeSort lle
theorem sortR_perm (xs : List (List Int)) : (sortR xs).Perm xs := List.mergeSort_perm xs _
theorem mem_sortR {xs : List (List Int)} {a : List Int} : a ∈ sortR xs ↔ a ∈ xs := (sortR_perm xs).mem_iff
theorem sortR_len (xs : List (List Int)) : (sortR xs).length = xs.length := (sortR_perm xs).length_eq
/-! routes -/
def linked (N : Net) : List Int → Bool
  | a :: b :: r => adj N a b && linked N (b :: r)
  | _ => true
theorem linked_cons {N : Net} {a b : Int} {r : List Int} : linked N (a :: b :: r) = true ↔ adj N a b = true ∧ linked N (b :: r) = true := by
  simp [linked]
theorem linked_snoc {N : Net} {b : Int} : ∀ {r : List Int} {a : Int}, r.getLast? = some a → (linked N (r ++ [b]) = true ↔ linked N r = true ∧ adj N a b = true)
  | [], a, h => by simp at h
  | [c], a, h => by simp at h; subst h; simp [linked]
  | c :: d :: r, a, h => by
    have h' : (d :: r).getLast? = some a := by simpa [List.getLast?_cons_cons] using h
    have ih := linked_snoc (N := N) (b := b) h'
    simp only [List.cons_append] at ih ⊢
    rw [linked_cons, linked_cons, ih]
    exact and_assoc.symm
theorem linked_of_snoc {N : Net} {b : Int} : ∀ {r : List Int}, linked N (r ++ [b]) = true → linked N r = true
  | [], _ => rfl
  | [c], _ => rfl
  | c :: d :: r, h => by
    simp only [List.cons_append] at h
    rw [linked_cons] at h ⊢
    exact ⟨h.1, linked_of_snoc (r := d :: r) h.2⟩
theorem linked_in {N : Net} (w : N.WF) : ∀ {r : List Int}, 2 ≤ r.length → linked N r = true → ∀ x ∈ r, 0 ≤ x ∧ x < N.n
  | [], h, _, _, _ => by simp at h
  | [_], h, _, _, _ => by simp at h
  | [a, b], _, h, x, m => by
    rw [linked_cons] at h
    have := adj_in w h.1
    rcases List.mem_cons.mp m with rfl | m
    · exact this.1
    · rcases List.mem_cons.mp m with rfl | m
      · exact this.2.1
      · cases m
  | a :: b :: c :: r, _, h, x, m => by
    rw [linked_cons] at h
    rcases List.mem_cons.mp m with rfl | m
    · exact (adj_in w h.1).1
    · exact linked_in w (by simp) h.2 x m
structure IsRoute (N : Net) (r : List Int) : Prop where
  two : 2 ≤ r.length
  nd : r.Nodup
  lk : linked N r = true
  ends : ∃ a b, r.head? = some a ∧ r.getLast? = some b ∧ a ∈ N.rim ∧ b ∈ N.rim ∧ a < b
/-- the ways from a way on -/
def isEnd (N : Net) (way : List Int) : Bool := match way.head?, way.getLast? with
  | some a, some b => decide (1 < way.length) && decide (b ∈ N.rim) && decide (a < b)
  | _, _ => false
def ledOn (N : Net) : Nat → List Int → List (List Int)
  | 0, _ => []
  | f + 1, way => (if isEnd N way then [way] else []) ++ (((nb N (way.getLast?.getD 0)).filter fun k => decide (k ∉ way)).flatMap fun k => ledOn N f (way ++ [k]))
theorem ledOn_pre {N : Net} : ∀ (f : Nat) (way r : List Int), r ∈ ledOn N f way → way <+: r
  | 0, _, _, h => by simp [ledOn] at h
  | f + 1, way, r, h => by
    simp only [ledOn, List.mem_append, List.mem_flatMap] at h
    rcases h with h | ⟨k, _, h⟩
    · split at h
      · simp at h; subst h; exact List.prefix_refl _
      · simp at h
    · exact (List.prefix_append way [k]).trans (ledOn_pre f _ _ h)
theorem mem_ledOn {N : Net} (w : N.WF) : ∀ (f : Nat) (way r : List Int), way ≠ [] → way.Nodup → linked N way = true → (∀ x ∈ way, 0 ≤ x ∧ x < N.n) → N.n < f + way.length →
    (r ∈ ledOn N f way ↔ way <+: r ∧ r.Nodup ∧ linked N r = true ∧ isEnd N r = true)
  | 0, way, r, h0, hn, hl, hi, hf => by
    have := nodup_len_le way (ir N.n) hn fun a m => mem_ir.mpr (hi a m)
    rw [ir_len] at this
    omega
  | f + 1, way, r, h0, hn, hl, hi, hf => by
    obtain ⟨b, hb⟩ : ∃ b, way.getLast? = some b := by
      cases e : way.getLast? with
      | none => exact absurd (List.getLast?_eq_none_iff.mp e) h0
      | some b => exact ⟨b, rfl⟩
    simp only [ledOn, hb, Option.getD_some, List.mem_append, List.mem_flatMap, List.mem_filter, decide_eq_true_eq]
    constructor
    · rintro (h | ⟨k, ⟨hk, hkw⟩, h⟩)
      · split at h
        · rename_i he
          simp at h; subst h
          exact ⟨List.prefix_refl _, hn, hl, he⟩
        · simp at h
      · have hadj := (mem_nb (w := w)).mp hk
        have := (mem_ledOn w f (way ++ [k]) r (by simp) (List.nodup_append.mpr ⟨hn, by simp, fun a m c mc => by simp at mc; subst mc; exact fun e => hkw (e ▸ m)⟩) ((linked_snoc hb).mpr ⟨hl, hadj⟩)
          (fun x m => by
            rcases List.mem_append.mp m with m | m
            · exact hi x m
            · simp at m; subst m; exact (adj_in w hadj).2.1) (by simp; omega)).mp h
        exact ⟨(List.prefix_append way [k]).trans this.1, this.2⟩
    · rintro ⟨hp, hrn, hrl, hre⟩
      obtain ⟨t, rfl⟩ := hp
      cases t with
      | nil => left; rw [List.append_nil] at hre ⊢; rw [if_pos hre]; simp
      | cons k t =>
        right
        have hkw : k ∉ way := fun m => by
          have := (List.nodup_append.mp hrn).2.2 k m k (by simp)
          exact this rfl
        have hl2 : linked N (way ++ [k]) = true := by
          have : ∀ (t : List Int), linked N (way ++ k :: t) = true → linked N (way ++ [k]) = true := by
            intro t h
            have : ∀ (m : Nat) (t : List Int), t.length = m → linked N (way ++ k :: t) = true → linked N (way ++ [k]) = true := by
              intro m
              induction m with
              | zero => intro t ht h; cases t with
                | nil => exact h
                | cons _ _ => simp at ht
              | succ m ih =>
                intro t ht h
                have e : way ++ k :: t = (way ++ k :: t.dropLast) ++ [t.getLast (by intro e; subst e; simp at ht)] := by simp [List.dropLast_concat_getLast]
                rw [e] at h
                exact ih t.dropLast (by simp; omega) (linked_of_snoc h)
            exact this _ t rfl h
          exact this t hrl
        have hadj := ((linked_snoc hb).mp hl2).2
        refine ⟨k, ⟨(mem_nb (w := w)).mpr hadj, hkw⟩, ?_⟩
        refine (mem_ledOn w f (way ++ [k]) _ (by simp) (List.nodup_append.mpr ⟨hn, by simp, fun a m c mc => by simp at mc; subst mc; exact fun e => hkw (e ▸ m)⟩) hl2 (fun x m => by
            rcases List.mem_append.mp m with m | m
            · exact hi x m
            · simp at m; subst m; exact (adj_in w hadj).2.1) (by simp; omega)).mpr ⟨⟨t, by simp⟩, hrn, hrl, hre⟩
def routes (N : Net) : List (List Int) := sortR (N.rim.flatMap fun k => ledOn N 8 [k])
end GT
namespace DL
open PySem L2 GT
/-! loops -/
def forK (g : GM) (f : SM) (xs : List D) : Out → Option Out
  | .nx r2 => forL g f xs r2
  | .ct r2 => forL g f xs r2
  | .bk r2 => some (.nx r2)
  | o => some o
theorem forL_nil (g : GM) (f : SM) (r : Rho) : forL g f [] r = some (.nx r) := (rfl)
theorem forL_cons (g : GM) (f : SM) (x : D) (xs : List D) (r : Rho) : forL g f (x :: xs) r = ((g r x).bind f).bind (forK g f xs) := by
  rw [forL]
  cases g r x with
  | none => rfl
  | some r1 =>
    simp only [ob_some]
    cases f r1 with
    | none => rfl
    | some o => cases o <;> rfl
theorem forK_nx (g : GM) (f : SM) (xs : List D) (r : Rho) : forK g f xs (.nx r) = forL g f xs r := (rfl)
theorem forK_ct (g : GM) (f : SM) (xs : List D) (r : Rho) : forK g f xs (.ct r) = forL g f xs r := (rfl)
theorem forK_rt (g : GM) (f : SM) (xs : List D) (d : D) (r : Rho) : forK g f xs (.rt d r) = some (.rt d r) := (rfl)
theorem forL_inv {A : Type} {g : GM} {f : SM} (enc : A → D) (P : List A → Rho → Prop)
    (step : ∀ a as r, P (a :: as) r → ∃ r2, ((g r (enc a)).bind f = some (.nx r2) ∨ (g r (enc a)).bind f = some (.ct r2)) ∧ P as r2) :
    ∀ as r, P as r → ∃ r', forL g f (as.map enc) r = some (.nx r') ∧ P [] r'
  | [], r, h => ⟨r, rfl, h⟩
  | a :: as, r, h => by
    obtain ⟨r2, h1, h3⟩ := step a as r h
    obtain ⟨r', h4, h5⟩ := forL_inv enc P step as r2 h3
    refine ⟨r', ?_, h5⟩
    rw [List.map_cons, forL_cons]
    rcases h1 with h1 | h1 <;> (rw [h1, ob_some]; exact h4)
/-- one turn of a comprehension -/
def it1 (g : GM) (t : TM) (el : EM) (is : List Nat) (r : Rho) (x : D) : Option (Option D × Rho) :=
  (g r x).bind fun r1 => (t r1).bind fun p => cnd p.1 (fun _ => (el p.2).map fun q => (some q.1, wipeR q.2 is)) (fun _ => some (none, wipeR p.2 is))
theorem compL_cons (g : GM) (t : TM) (el : EM) (is : List Nat) (r : Rho) (x : D) (xs : List D) :
    compL g t el is (x :: xs) r = (it1 g t el is r x).bind fun q => (compL g t el is xs q.2).map fun w => (q.1.toList ++ w.1, w.2) := by
  unfold it1
  rw [compL]
  cases g r x with
  | none => rfl
  | some r1 =>
    simp only [ob_some]
    cases t r1 with
    | none => rfl
    | some p =>
      obtain ⟨b, r2⟩ := p
      cases b with
      | false =>
        simp only [ob_some, cnd_f, Bool.false_eq_true, if_false]
        cases compL g t el is xs (wipeR r2 is) <;> rfl
      | true =>
        simp only [ob_some, cnd_t, if_true]
        cases el r2 with
        | none => rfl
        | some q => rfl
/-- a comprehension with a state: what each turn gives is of a kind -/
theorem compL_inv {A : Type} {g : GM} {t : TM} {el : EM} {is : List Nat} (enc : A → D) (Q : A → D → Prop) (P : List A → Rho → Prop)
    (step : ∀ a as r, P (a :: as) r → ∃ o r', it1 g t el is r (enc a) = some (o, r') ∧ (∀ d, o = some d → Q a d) ∧ P as r') :
    ∀ as r, P as r → ∃ (bs : List (A × D)) (r' : Rho), (bs.map (·.1)).Sublist as ∧ (∀ b ∈ bs, Q b.1 b.2) ∧ compL g t el is (as.map enc) r = some (bs.map (·.2), r') ∧ P [] r'
  | [], r, h => ⟨[], r, .slnil, by simp, rfl, h⟩
  | a :: as, r, h => by
    obtain ⟨o, r1, h1, h2, h3⟩ := step a as r h
    obtain ⟨bs, r', s1, s2, s3, s4⟩ := compL_inv enc Q P step as _ h3
    cases o with
    | none =>
      refine ⟨bs, r', .cons a s1, s2, ?_, s4⟩
      rw [List.map_cons, compL_cons, h1, ob_some, s3]; rfl
    | some d =>
      refine ⟨(a, d) :: bs, r', .cons_cons a s1, fun b m => ?_, ?_, s4⟩
      · rcases List.mem_cons.mp m with rfl | m
        · exact h2 d rfl
        · exact s2 b m
      · rw [List.map_cons, compL_cons, h1, ob_some, s3]; rfl
/-- a comprehension that changes nothing -/
theorem compL_pure {A : Type} {g : GM} {t : TM} {el : EM} {is : List Nat} {r : Rho} (enc e : A → D) (p : A → Bool) :
    ∀ as : List A, (∀ a ∈ as, it1 g t el is r (enc a) = some (if p a = true then some (e a) else none, r)) →
    compL g t el is (as.map enc) r = some ((as.filter p).map e, r)
  | [], _ => rfl
  | a :: as, h => by
    have h1 := h a (by simp)
    have ih := compL_pure enc e p as fun b m => h b (List.mem_cons_of_mem _ m)
    rw [List.map_cons, compL_cons, h1, ob_some, ih]
    cases q : p a with
    | false => rw [List.filter_cons_of_neg (by simp [q])]; rfl
    | true => rw [List.filter_cons_of_pos (by simp [q])]; rfl
theorem compL_map {A : Type} {g : GM} {el : EM} {is : List Nat} {r : Rho} (enc e : A → D) (as : List A) (h : ∀ a ∈ as, it1 g yesM el is r (enc a) = some (some (e a), r)) :
    compL g yesM el is (as.map enc) r = some (as.map e, r) := by
  have := compL_pure (g := g) (t := yesM) (el := el) (is := is) (r := r) enc e (fun _ => true) as fun a m => by rw [h a m]; rfl
  rwa [List.filter_eq_self.mpr (by simp)] at this
theorem yesM_a (r : Rho) : yesM r = some (true, r) := (rfl)
theorem it1_a (g : GM) (t : TM) (el : EM) (is : List Nat) (r : Rho) (x : D) : it1 g t el is r x =
  (g r x).bind fun r1 => (t r1).bind fun p => cnd p.1 (fun _ => (el p.2).map fun q => (some q.1, wipeR q.2 is)) (fun _ => some (none, wipeR p.2 is)) := (rfl)
theorem compM_a (is : List Nat) (it : AM) (g : GM) (t : TM) (el : EM) (r : Rho) : compM is it g t el r = (it r).bind fun p => guard' (plainAt p.2 is && szOk p.1.length) fun _ => (compL g t el is p.1 (wipeR p.2 is)).map fun w => (w.1, restR w.2 p.2 is) := (rfl)
theorem wipeR_c (r : Rho) (i : Nat) (is : List Nat) : wipeR r (i :: is) = (wipeR r is).set i none := (rfl)
theorem wipeR_n (r : Rho) : wipeR r [] = r := (rfl)
theorem restR_c (r r1 : Rho) (i : Nat) (is : List Nat) : restR r r1 (i :: is) = (restR r r1 is).set i (r1[i]?.getD none) := (rfl)
theorem restR_n (r r1 : Rho) : restR r r1 [] = r := (rfl)
/-! the kinds of data -/
abbrev I (n : Int) : D := .int n
abbrev TI (xs : List Int) : D := .tuple (xs.map .int)
abbrev encT (t : Tie) : D := .tuple [.int t.1, .int t.2]
def encN (N : Net) : D := .tuple [.int N.n, .tuple (N.ties.map encT), TI N.rim]
theorem rngL_ir (n : Nat) : rngL 0 (n : Int) = (ir n).map .int := by
  unfold rngL ir
  simp [List.map_map]
theorem rngL_eq (a b : Int) : rngL a b = ((List.range (b - a).toNat).map fun (i : Nat) => a + (i : Int)).map .int := by
  unfold rngL
  simp [List.map_map]
theorem mem_rg {a b x : Int} : x ∈ ((List.range (b - a).toNat).map fun (i : Nat) => a + (i : Int)) ↔ a ≤ x ∧ x < b := by
  simp only [List.mem_map, List.mem_range]
  constructor
  · rintro ⟨i, h, rfl⟩; omega
  · rintro ⟨h1, h2⟩; exact ⟨(x - a).toNat, by omega, by omega⟩
end DL
local macro_rules | `(tactic| simp_arith [$xs,*]) => `(tactic| simp only [DL.ob_some, DL.om_some, DL.dat_d, DL.lis_l, DL.dic_m, DL.gt_0, DL.gt_1, DL.gt_2, DL.gt_3, DL.gt_4, DL.gt_5, DL.gt_6, DL.gt_7, DL.gt_b, DL.st_0, DL.st_s, DL.plG_d, DL.plG_n, DL.plainAt_a, DL.varM_a, DL.ownM_a, DL.cM_a, DL.ofL_a, DL.opM_a, DL.opOwnM_a, DL.unM_a, DL.truM_a, DL.tstM_a, DL.notM_a, DL.cnd_t, DL.cnd_f, DL.andM_a, DL.orM_a, DL.andVM_a, DL.orVM_a, DL.notVM_a, DL.iteM_a, DL.chM_a, DL.nilM_a, DL.consM_a, DL.guard_tt, DL.tupM_a, DL.lstM_a, DL.noM_a, DL.intV_i, DL.someM_a, DL.slM_a, DL.rng1M_a, DL.rng2M_a, DL.zipV_t, DL.zipV_l, DL.zipM_a, DL.seqM_a, DL.callM_a, DL.hereM_a, DL.callRM_a, DL.appM_a, DL.lisV_l, DL.extM_a, DL.popM_a, DL.popAtM_a, DL.newDM_a, DL.putM_a, DL.lenDM_a, DL.sortDM_a, DL.nameG_a, DL.nilG_a, DL.consG_a, DL.tupG_a, DL.seqS_a, DL.seqK_nx, DL.seqK_rt, DL.seqK_ct, DL.skipM_a, DL.asgM_a, DL.asgG_a, DL.newM_a, DL.asgLM_a, DL.retM_a, DL.exprM_a, DL.ifM_a, DL.forM_a, DL.frzM_a, DL.runF_a, DL.finF_rt, DL.finF_nx, DL.runR_a, DL.finR_rt, DL.finR_nx, DL.sz_0, DL.sz_1, DL.sz_2, DL.sz_3, DL.sz_4, DL.sz_5, DL.sz_6, DL.sz_7, DL.sz_8, DL.sz_9, DL.sz_10, DL.sz_11, DL.sz_12, DL.sz_13, DL.sz_14, DL.sz_15, DL.sz_16, DL.sz_17, DL.sz_18, DL.sz_19, DL.sz_20, DL.sz_21, DL.sz_22, DL.sz_23, DL.sz_24, DL.sz_25, DL.sz_26, DL.sz_27, DL.sz_28, DL.sz_29, DL.sz_30, DL.nc_0, DL.nc_1, DL.nc_2, DL.nc_3, DL.nc_4, DL.nc_5, DL.nc_6, DL.nc_7, DL.nc_8, DL.nc_9, DL.nc_10, DL.nc_11, DL.nc_12, DL.nc_13, DL.nc_14, DL.nc_15, DL.nc_16, DL.nc_17, DL.nc_18, DL.nc_19, DL.nc_20, DL.nc_21, DL.nc_22, DL.nc_23, DL.nc_24, DL.nc_25, DL.nc_26, DL.nc_27, DL.nc_28, DL.nc_29, DL.nc_30, DL.addD_i, DL.addD_t, DL.addD_l, DL.subD_i, DL.modD_i, DL.fdivD_i, DL.mulD_i, DL.lenD_t, DL.lenD_l, DL.tupleD_t, DL.tupleD_l, DL.truD_i, DL.truD_b, DL.truD_n, DL.truD_l, DL.truD_t, DL.ixD_t, DL.ixD_l, DL.negD_i, DL.bD_a, DL.ltB_i, DL.leB_i, DL.eqB_i, DL.neB_i, DL.min2D_i, DL.max2D_i, DL.items_t, DL.items_l, DL.intD_b, DL.isNN, DL.slD_t, DL.slD_l, DL.sortD2_l, DL.sortD2_t, DL.p_ge0, DL.p_geS, DL.p_tk0, DL.p_tkS, DL.p_tkN, DL.p_dr0, DL.p_drS, DL.p_drN, DL.p_mpC, DL.p_mpN, DL.p_apC, DL.p_apN, DL.p_lnC, DL.p_lnN, DL.p_rpS, DL.p_rp0, DL.p_alC, DL.p_alN, DL.p_gdS, DL.p_gdN, DL.p_tlS, DL.p_tlN, DL.p_ieC, DL.p_ieN, DL.p_nt, DL.p_nf, DL.p_atb, DL.p_afb, DL.p_abt, DL.p_abf, DL.p_eqS, DL.p_dT, DL.p_dF, DL.p_TA, DL.p_AT, DL.p_TO, DL.p_OT, DL.p_startD, DL.p_startR, DL.forK_nx, DL.forK_ct, DL.forK_rt, DL.yesM_a, DL.it1_a, DL.compM_a, DL.wipeR_c, DL.wipeR_n, DL.restR_c, DL.restR_n, Nat.reduceAdd, Nat.reduceSub, Nat.reduceMul, Int.reduceLT, Int.reduceLE, Int.reducePow, Int.reduceNeg, Int.reduceAdd, Int.reduceSub, Int.reduceMul, Int.reduceBEq, Int.reduceBNe, Int.reduceToNat, $xs,*])
namespace DL
open PySem L2 GT PySem.W
/-! order of rows of ints -/
theorem alikeAll_ints : ∀ a b : List Int, alikeAll (a.map PyData.int) (b.map PyData.int) = true
  | [], _ => by simp [alikeAll]
  | _ :: _, [] => by simp [alikeAll]
  | x :: a, y :: b => by simp [alikeAll, alike, alikeAll_ints a b]
theorem alike_TI (a b : List Int) : alike (TI a) (TI b) = true := by simp [alike, alikeAll_ints]
theorem dataLt_TI : ∀ a b : List Int, dataLt (TI a) (TI b) = llt a b
  | [], [] => by decide
  | [], y :: b => by
    rw [dataLt_tuple, List.map_cons, toks_all_cons]; rfl
  | x :: a, [] => by
    rw [dataLt_tuple, List.map_cons, toks_all_cons]; rfl
  | x :: a, y :: b => by
    rw [dataLt_tuple]
    simp only [List.map_cons, llt]
    by_cases e : x = y
    · subst e
      rw [if_pos rfl, dataLt_all_yes (x := PyData.int x) (y := PyData.int x) (by simp [alike]) (by simp [PyData.eqv]), ← dataLt_tuple]
      exact dataLt_TI a b
    · rw [if_neg e, dataLt_all_no (x := PyData.int x) (y := PyData.int y) (by simp [alike]) (by simp [PyData.eqv, e]), dataLt_int]
theorem dataLe_TI (a b : List Int) : dataLe false id (TI a) (TI b) = lle a b := by
  rw [dataLe_eq]
  simp only [cond_false, id]
  rw [dataLt_TI]; rfl
theorem sortL_TI (xs : List (List Int)) : sortL (xs.map TI) = (sortR xs).map TI := by
  unfold sortL sortR
  exact (List.map_mergeSort (fun a _ b _ => (dataLe_TI a b).symm)).symm
theorem dataLe_I (a b : Int) : dataLe false id (.int a) (.int b) = decide (a ≤ b) := by
  rw [dataLe_eq]
  simp only [cond_false, id]
  rw [dataLt_int]
  by_cases h : b < a
  · rw [decide_eq_true h, decide_eq_false (by omega)]; rfl
  · rw [decide_eq_false h, decide_eq_true (by omega)]; rfl
theorem sortL_I (xs : List Int) : sortL (xs.map .int) = (GT.sortI xs).map .int := by
  unfold sortL GT.sortI
  exact (List.map_mergeSort (fun a _ b _ => (dataLe_I a b).symm)).symm
theorem depth_ints : ∀ xs : List Int, PyData.depthAll (xs.map PyData.int) ≤ 1
  | [] => by simp [PyData.depthAll]
  | x :: xs => by have := depth_ints xs; simp [PyData.depthAll, PyData.depth]; omega
theorem sortOk_I {xs : List Int} (h : xs.length ≤ 1000000) : sortOk (xs.map .int) = true := by
  unfold sortOk
  have h1 : (xs.map PyData.int).all (fun d => (xs.map PyData.int).all fun e => alike d e) = true := by simp [List.all_eq_true, alike]
  have h2 : (xs.map PyData.int).all nonTup = true := by simp [List.all_eq_true, nonTup]
  have h3 : (xs.map PyData.int).all (fun d => decide (d.depth ≤ 60)) = true := by simp [List.all_eq_true, PyData.depth]
  rw [h1, h2, h3, List.length_map, szOk_of h]
  simp
theorem sortOk_TI {xs : List (List Int)} (h : xs.length ≤ 1000000) (hn : ∀ x ∈ xs, x ≠ []) : sortOk (xs.map TI) = true := by
  unfold sortOk
  have h1 : (xs.map TI).all (fun d => (xs.map TI).all fun e => alike d e) = true := by simp [List.all_eq_true, alike_TI]
  have h2 : (xs.map TI).all tupCons = true := by
    simp only [List.all_eq_true, List.mem_map]
    rintro d ⟨x, m, rfl⟩
    cases x with
    | nil => exact absurd rfl (hn _ m)
    | cons a x => rfl
  have h3 : (xs.map TI).all (fun d => decide (d.depth ≤ 60)) = true := by
    simp only [List.all_eq_true, List.mem_map, decide_eq_true_eq]
    rintro d ⟨x, m, rfl⟩
    have := depth_ints x
    simp only [PyData.depth]; omega
  rw [h1, h2, h3, List.length_map, szOk_of h]
  simp
/-! ties -/
/-! dicts with ties as keys -/
end DL
namespace DL
open PySem L2 GT
theorem gtD_i (i j : Int) : gtD (.int i) (.int j) = some (decide (j < i)) := (rfl)
theorem gtD_T (a b : List Int) : gtD (TI a) (TI b) = some (llt b a) := by
  have h1 := alike_TI a b
  have h2 : decide (PyData.depth (TI a) ≤ 60) = true := by
    have := depth_ints a
    rw [decide_eq_true_eq]
    simp only [PyData.depth]; omega
  show (if (PySem.W.alike (TI a) (TI b) && decide (PyData.depth (TI a) ≤ 60)) = true then some (PySem.W.dataLt (TI b) (TI a)) else none) = _
  rw [h1, h2, Bool.and_self, if_pos rfl]
  exact congrArg some (dataLt_TI b a)
/-! what an evaluation comes to -/
def wp {α : Type} (e : Option α) (Q : α → Prop) : Prop := ∃ a, e = some a ∧ Q a
theorem wp_ok {α : Type} {a : α} {Q : α → Prop} (h : Q a) : wp (some a) Q := ⟨a, rfl, h⟩
theorem wp_bind {α β : Type} {e : Option α} {K : α → Option β} {P : α → Prop} {Q : β → Prop} (h : wp e P) (k : ∀ a, P a → wp (K a) Q) : wp (e.bind K) Q := by
  obtain ⟨a, rfl, ha⟩ := h
  exact k a ha
theorem wp_mono {α : Type} {e : Option α} {P Q : α → Prop} (h : wp e P) (k : ∀ a, P a → Q a) : wp e Q := by
  obtain ⟨a, e, ha⟩ := h
  exact ⟨a, e, k a ha⟩
theorem wp_val {α : Type} {e : Option α} {a : α} (h : wp e (· = a)) : e = some a := by
  obtain ⟨b, e, rfl⟩ := h; exact e
theorem ob_assoc {α β γ : Type} (x : Option α) (f : α → Option β) (g : β → Option γ) : (x.bind f).bind g = x.bind fun a => (f a).bind g := by cases x <;> rfl
theorem om_bind {α β γ : Type} (x : Option α) (f : α → β) (g : β → Option γ) : (x.map f).bind g = x.bind fun a => g (f a) := by cases x <;> rfl
theorem ob_map {α β γ : Type} (x : Option α) (f : α → Option β) (g : β → γ) : (x.bind f).map g = x.bind fun a => (f a).map g := by cases x <;> rfl
theorem om_map {α β γ : Type} (x : Option α) (f : α → β) (g : β → γ) : (x.map f).map g = x.map fun a => g (f a) := by cases x <;> rfl
theorem cnd_bind {α β : Type} (b : Bool) (x y : Unit → Option α) (f : α → Option β) : (cnd b x y).bind f = cnd b (fun u => (x u).bind f) (fun u => (y u).bind f) := by cases b <;> rfl
theorem cnd_map {α β : Type} (b : Bool) (x y : Unit → Option α) (f : α → β) : (cnd b x y).map f = cnd b (fun u => (x u).map f) (fun u => (y u).map f) := by cases b <;> rfl
theorem guard_bind {α β : Type} (b : Bool) (x : Unit → Option α) (f : α → Option β) : (guard' b x).bind f = guard' b fun u => (x u).bind f := by cases b <;> rfl
theorem guard_map {α β : Type} (b : Bool) (x : Unit → Option α) (f : α → β) : (guard' b x).map f = guard' b fun u => (x u).map f := by cases b <;> rfl
theorem wp_cnd {α : Type} {b : Bool} {x y : Unit → Option α} {Q : α → Prop} (h1 : b = true → wp (x ()) Q) (h2 : b = false → wp (y ()) Q) : wp (cnd b x y) Q := by
  cases b with
  | true => exact h1 rfl
  | false => exact h2 rfl
theorem wp_guard {α : Type} {b : Bool} {x : Unit → Option α} {Q : α → Prop} (h : b = true) (k : wp (x ()) Q) : wp (guard' b x) Q := by subst h; exact k
theorem atI_nat {α : Type} (xs : List α) (k : Nat) : atI xs (k : Int) = xs[k]? := by
  by_cases h : k < xs.length
  · obtain ⟨x, h1, h2⟩ := atI_lt (xs := xs) (i := (k : Int)) (by omega) (by omega)
    rw [h1, ← h2]; simp
  · unfold atI ixN
    rw [if_pos (by omega), if_neg (by omega)]
    exact (List.getElem?_eq_none (by omega)).symm
theorem atI_c0 {α : Type} (a : α) (l : List α) : atI (a :: l) 0 = some a := atI_nat (a :: l) 0
theorem atI_c1 {α : Type} (a b : α) (l : List α) : atI (a :: b :: l) 1 = some b := atI_nat (a :: b :: l) 1
theorem atI_c2 {α : Type} (a b c : α) (l : List α) : atI (a :: b :: c :: l) 2 = some c := atI_nat (a :: b :: c :: l) 2
theorem atI_c3 {α : Type} (a b c d : α) (l : List α) : atI (a :: b :: c :: d :: l) 3 = some d := atI_nat (a :: b :: c :: d :: l) 3
/-- a net's parts -/
theorem encN_0 (N : Net) : ixD (encN N) (.int 0) = some (.int N.n) := (rfl)
theorem encN_1 (N : Net) : ixD (encN N) (.int 1) = some (.tuple (N.ties.map encT)) := (rfl)
theorem encN_2 (N : Net) : ixD (encN N) (.int 2) = some (TI N.rim) := (rfl)
theorem encN_u (N : Net) (n : Nat) (t : GMs) (r : Rho) : tupG n t r (encN N) = tupG n t r (.tuple [.int N.n, .tuple (N.ties.map encT), TI N.rim]) := (rfl)
/-- what a turn leaves -/
def goesOn (P : Rho → Prop) : Out → Prop
  | .nx r => P r
  | .ct r => P r
  | _ => False
theorem wp_for {A β : Type} {g : GM} {f : SM} {as : List A} {r : Rho} {K : Out → Option β} {Q : β → Prop} (enc : A → D) (P : List A → Rho → Prop) (h0 : P as r)
    (step : ∀ a as r, P (a :: as) r → wp ((g r (enc a)).bind f) (goesOn (P as)))
    (k : ∀ r, P [] r → wp (K (.nx r)) Q) : wp ((forL g f (as.map enc) r).bind K) Q := by
  obtain ⟨r', h1, h2⟩ := forL_inv (g := g) (f := f) enc P (fun a as r h => by
    obtain ⟨o, e, ho⟩ := step a as r h
    cases o with
    | nx r2 => exact ⟨r2, .inl e, ho⟩
    | ct r2 => exact ⟨r2, .inr e, ho⟩
    | rt _ _ => exact ho.elim
    | bk _ => exact ho.elim
    | ex _ _ => exact ho.elim) as r h0
  rw [h1]; exact k r' h2
end DL
local macro_rules | `(tactic| simp_arith [$xs,*]) => `(tactic| simp only [DL.ob_some, DL.om_some, DL.dat_d, DL.lis_l, DL.dic_m, DL.gt_0, DL.gt_1, DL.gt_2, DL.gt_3, DL.gt_4, DL.gt_5, DL.gt_6, DL.gt_7, DL.gt_b, DL.st_0, DL.st_s, DL.plG_d, DL.plG_n, DL.plainAt_a, DL.varM_a, DL.ownM_a, DL.cM_a, DL.ofL_a, DL.opM_a, DL.opOwnM_a, DL.unM_a, DL.truM_a, DL.tstM_a, DL.notM_a, DL.cnd_t, DL.cnd_f, DL.andM_a, DL.orM_a, DL.andVM_a, DL.orVM_a, DL.notVM_a, DL.iteM_a, DL.chM_a, DL.nilM_a, DL.consM_a, DL.guard_tt, DL.tupM_a, DL.lstM_a, DL.noM_a, DL.intV_i, DL.someM_a, DL.slM_a, DL.rng1M_a, DL.rng2M_a, DL.zipV_t, DL.zipV_l, DL.zipM_a, DL.seqM_a, DL.callM_a, DL.hereM_a, DL.callRM_a, DL.appM_a, DL.lisV_l, DL.extM_a, DL.popM_a, DL.popAtM_a, DL.newDM_a, DL.putM_a, DL.lenDM_a, DL.sortDM_a, DL.nameG_a, DL.nilG_a, DL.consG_a, DL.tupG_a, DL.seqS_a, DL.seqK_nx, DL.seqK_rt, DL.seqK_ct, DL.skipM_a, DL.asgM_a, DL.asgG_a, DL.newM_a, DL.asgLM_a, DL.retM_a, DL.exprM_a, DL.ifM_a, DL.forM_a, DL.frzM_a, DL.runF_a, DL.finF_rt, DL.finF_nx, DL.runR_a, DL.finR_rt, DL.finR_nx, DL.sz_0, DL.sz_1, DL.sz_2, DL.sz_3, DL.sz_4, DL.sz_5, DL.sz_6, DL.sz_7, DL.sz_8, DL.sz_9, DL.sz_10, DL.sz_11, DL.sz_12, DL.sz_13, DL.sz_14, DL.sz_15, DL.sz_16, DL.sz_17, DL.sz_18, DL.sz_19, DL.sz_20, DL.sz_21, DL.sz_22, DL.sz_23, DL.sz_24, DL.sz_25, DL.sz_26, DL.sz_27, DL.sz_28, DL.sz_29, DL.sz_30, DL.nc_0, DL.nc_1, DL.nc_2, DL.nc_3, DL.nc_4, DL.nc_5, DL.nc_6, DL.nc_7, DL.nc_8, DL.nc_9, DL.nc_10, DL.nc_11, DL.nc_12, DL.nc_13, DL.nc_14, DL.nc_15, DL.nc_16, DL.nc_17, DL.nc_18, DL.nc_19, DL.nc_20, DL.nc_21, DL.nc_22, DL.nc_23, DL.nc_24, DL.nc_25, DL.nc_26, DL.nc_27, DL.nc_28, DL.nc_29, DL.nc_30, DL.addD_i, DL.addD_t, DL.addD_l, DL.subD_i, DL.modD_i, DL.fdivD_i, DL.mulD_i, DL.lenD_t, DL.lenD_l, DL.tupleD_t, DL.tupleD_l, DL.truD_i, DL.truD_b, DL.truD_n, DL.truD_l, DL.truD_t, DL.ixD_t, DL.ixD_l, DL.negD_i, DL.bD_a, DL.ltB_i, DL.leB_i, DL.eqB_i, DL.neB_i, DL.min2D_i, DL.max2D_i, DL.items_t, DL.items_l, DL.intD_b, DL.isNN, DL.slD_t, DL.slD_l, DL.sortD2_l, DL.sortD2_t, DL.p_ge0, DL.p_geS, DL.p_tk0, DL.p_tkS, DL.p_tkN, DL.p_dr0, DL.p_drS, DL.p_drN, DL.p_mpC, DL.p_mpN, DL.p_apC, DL.p_apN, DL.p_lnC, DL.p_lnN, DL.p_rpS, DL.p_rp0, DL.p_alC, DL.p_alN, DL.p_gdS, DL.p_gdN, DL.p_tlS, DL.p_tlN, DL.p_ieC, DL.p_ieN, DL.p_nt, DL.p_nf, DL.p_atb, DL.p_afb, DL.p_abt, DL.p_abf, DL.p_eqS, DL.p_dT, DL.p_dF, DL.p_TA, DL.p_AT, DL.p_TO, DL.p_OT, DL.p_startD, DL.p_startR, DL.forK_nx, DL.forK_ct, DL.forK_rt, DL.yesM_a, DL.it1_a, DL.compM_a, DL.wipeR_c, DL.wipeR_n, DL.restR_c, DL.restR_n, DL.gtD_i, DL.gtD_T, DL.ob_assoc, DL.om_bind, DL.ob_map, DL.om_map, DL.cnd_bind, DL.cnd_map, DL.guard_bind, DL.guard_map, DL.atI_c0, DL.atI_c1, DL.atI_c2, DL.atI_c3, DL.encN_0, DL.encN_1, DL.encN_2, DL.encN_u, Nat.reduceAdd, Nat.reduceSub, Nat.reduceMul, Int.reduceLT, Int.reduceLE, Int.reducePow, Int.reduceNeg, Int.reduceAdd, Int.reduceSub, Int.reduceMul, Int.reduceBEq, Int.reduceBNe, Int.reduceToNat, $xs,*])
namespace DL
open PySem L2 GT
/-! kinds of data by their encoder -/
structure EncF {α : Type} [DecidableEq α] (k : Nat) (f : α → D) : Prop where
  lay : ∀ a, (f a).canLay0 = true
  dep : ∀ a, (f a).depth ≤ k
  eqv : ∀ a b, PyData.eqv (f a) (f b) = decide (a = b)
theorem layAll {α : Type} [DecidableEq α] {k : Nat} {f : α → D} (h : EncF k f) : ∀ xs : List α, PyData.canLayAll0 (xs.map f) = true
  | [] => rfl
  | a :: xs => by simp [PyData.canLayAll0, h.lay a, layAll h xs]
theorem depAll {α : Type} [DecidableEq α] {k : Nat} {f : α → D} (h : EncF k f) : ∀ xs : List α, PyData.depthAll (xs.map f) ≤ k
  | [] => by simp [PyData.depthAll]
  | a :: xs => by have h1 := h.dep a; have h2 := depAll h xs; simp only [List.map_cons, PyData.depthAll]; omega
theorem eqvAll_map {α : Type} [DecidableEq α] {k : Nat} {f : α → D} (h : EncF k f) : ∀ xs ys : List α, PyData.eqvAll (xs.map f) (ys.map f) = decide (xs = ys)
  | [], [] => by simp [PyData.eqvAll]
  | [], _ :: _ => by simp [PyData.eqvAll]
  | _ :: _, [] => by simp [PyData.eqvAll]
  | a :: xs, b :: ys => by simp only [List.map_cons, PyData.eqvAll, h.eqv, eqvAll_map h xs ys, List.cons.injEq, Bool.decide_and]
theorem encF_int : EncF 1 PyData.int := ⟨fun _ => rfl, fun _ => by simp [PyData.depth], fun a b => by simp only [PyData.eqv]; by_cases h : a = b <;> simp [h]⟩
theorem encF_bool : EncF 1 PyData.bool := ⟨fun _ => rfl, fun _ => by simp [PyData.depth], fun a b => by simp only [PyData.eqv]; cases a <;> cases b <;> rfl⟩
theorem encF_tup {α : Type} [DecidableEq α] {k : Nat} {f : α → D} (h : EncF k f) : EncF (k + 1) (fun xs : List α => PyData.tuple (xs.map f)) :=
  ⟨fun xs => by simpa [PyData.canLay0] using layAll h xs, fun xs => by have := depAll h xs; simp only [PyData.depth]; omega, fun xs ys => by simp only [PyData.eqv]; exact eqvAll_map h xs ys⟩
theorem encF_TI : EncF 2 TI := encF_tup encF_int
theorem encF_T : EncF 2 encT := ⟨fun t => by simp [PyData.canLay0, PyData.canLayAll0], fun t => by simp [PyData.depth, PyData.depthAll], fun a b => by
  obtain ⟨a1, a2⟩ := a; obtain ⟨b1, b2⟩ := b
  simp only [PyData.eqv, PyData.eqvAll, Bool.and_true, Prod.mk.injEq, Bool.decide_and]
  by_cases h1 : a1 = b1 <;> by_cases h2 : a2 = b2 <;> simp [h1, h2]⟩
section
variable {α : Type} [DecidableEq α] {k : Nat} {f : α → D}
theorem sh_mk {d : D} (l : d.canLay0 = true) (h : d.depth ≤ 64) : SeqAt.shaped d = true := by
  unfold SeqAt.shaped
  rw [l, decide_eq_true h]; rfl
theorem sh_one (h : EncF k f) (hk : k ≤ 60) (a : α) : SeqAt.shaped (f a) = true := sh_mk (h.lay a) (Nat.le_trans (h.dep a) (by omega))
theorem sh_tup (h : EncF k f) (hk : k ≤ 60) (xs : List α) : SeqAt.shaped (.tuple (xs.map f)) = true :=
  sh_mk ((encF_tup h).lay xs) (Nat.le_trans ((encF_tup h).dep xs) (by omega))
theorem sh_lst (h : EncF k f) (hk : k ≤ 60) (xs : List α) : SeqAt.shaped (.list (xs.map f)) = true :=
  sh_mk ((encF_tup h).lay xs) (Nat.le_trans ((encF_tup h).dep xs) (by omega))
/-- the place of the first -/
def idx (xs : List α) (a : α) : Nat := xs.findIdx fun b => decide (b = a)
theorem any_eqv (h : EncF k f) (a : α) (xs : List α) : ((xs.map f).any fun z => PyData.eqv z (f a)) = decide (a ∈ xs) := by
  induction xs with
  | nil => simp
  | cons b xs ih =>
    simp only [List.map_cons, List.any_cons, ih, h.eqv, List.mem_cons]
    by_cases e : b = a
    · simp [e]
    · simp [e, Ne.symm e]
theorem eq_one (h : EncF k f) (hk : k ≤ 60) (a b : α) : eqB (f a) (f b) = some (decide (a = b)) := by
  unfold eqB; simp [sh_one h hk, h.eqv]
theorem ne_one (h : EncF k f) (hk : k ≤ 60) (a b : α) : neB (f a) (f b) = some (!decide (a = b)) := by
  unfold neB; simp [sh_one h hk, h.eqv]
theorem in_tup (h : EncF k f) (hk : k ≤ 60) (a : α) (xs : List α) : inB (f a) (.tuple (xs.map f)) = some (decide (a ∈ xs)) := by
  unfold inB
  rw [show itemsOf (.tuple (xs.map f)) = some (xs.map f) from rfl]
  simp only [Option.bind_some, sh_one h hk, sh_tup h hk, Bool.and_self, if_true, any_eqv h]
theorem in_lst (h : EncF k f) (hk : k ≤ 60) (a : α) (xs : List α) : inB (f a) (.list (xs.map f)) = some (decide (a ∈ xs)) := by
  unfold inB
  rw [show itemsOf (.list (xs.map f)) = some (xs.map f) from rfl]
  simp only [Option.bind_some, sh_one h hk, sh_lst h hk, Bool.and_self, if_true, any_eqv h]
theorem idx_tup (h : EncF k f) (hk : k ≤ 60) (nf : ∀ a, isFlat (f a) = false) {a : α} {xs : List α} (m : a ∈ xs) : indexD (.tuple (xs.map f)) (f a) = some (.int (idx xs a : Nat)) := by
  have ne : ((xs.map f).all isFlat) = false := by
    cases xs with
    | nil => cases m
    | cons b xs => simp [nf]
  have fi : firstAt (xs.map f) (f a) = some (idx xs a) := by
    unfold firstAt
    rw [List.findIdx?_map]
    have : ((fun z => PyData.eqv z (f a)) ∘ f) = fun b => decide (b = a) := by
      funext b; simp only [Function.comp, h.eqv]
    rw [this, List.findIdx?_eq_some_iff_findIdx_eq]
    exact ⟨List.findIdx_lt_length_of_exists ⟨a, m, by simp⟩, rfl⟩
  unfold indexD
  simp [sh_tup h hk, sh_one h hk, ne, fi]
end
theorem eq_TI (a b : List Int) : eqB (TI a) (TI b) = some (decide (a = b)) := eq_one encF_TI (by decide) a b
theorem ne_TI (a b : List Int) : neB (TI a) (TI b) = some (!decide (a = b)) := ne_one encF_TI (by decide) a b
theorem in_I (a : Int) (xs : List Int) : inB (.int a) (.tuple (xs.map .int)) = some (decide (a ∈ xs)) := in_tup encF_int (by decide) a xs
theorem in_Il (a : Int) (xs : List Int) : inB (.int a) (.list (xs.map .int)) = some (decide (a ∈ xs)) := in_lst encF_int (by decide) a xs
theorem in_T (a b : Int) (xs : List Tie) : inB (.tuple [.int a, .int b]) (.tuple (xs.map encT)) = some (decide ((a, b) ∈ xs)) := (in_tup encF_T (by decide) (a, b) xs).trans (by congr)
theorem in_R (a : List Int) (xs : List (List Int)) : inB (TI a) (.tuple (xs.map TI)) = some (decide (a ∈ xs)) := (in_tup encF_TI (by decide) a xs).trans (by congr)
theorem notInB_a (d e : D) : notInB d e = (inB d e).map fun b => !b := (rfl)
theorem idx_T {a b : Int} {xs : List Tie} (m : (a, b) ∈ xs) : indexD (.tuple (xs.map encT)) (.tuple [.int a, .int b]) = some (.int (idx xs (a, b) : Nat)) := idx_tup encF_T (by decide) (fun _ => rfl) m
theorem enumM_a (f : EM) (r : Rho) : enumM f r = (f r).bind fun p => (itemsOf p.1).map fun ds => (enumL ds, p.2) := (rfl)
theorem exM_a (c : String) (r : Rho) : exM c r = some (.ex c r) := (rfl)
theorem seqK_ex (g : SM) (c : String) (r : Rho) : seqK g (.ex c r) = some (.ex c r) := (rfl)
theorem finF_ex (c : String) (r : Rho) : finF (.ex c r) = none := (rfl)
theorem forK_ex (g : GM) (f : SM) (xs : List D) (c : String) (r : Rho) : forK g f xs (.ex c r) = some (.ex c r) := (rfl)
theorem tri_no {α β : Type} (f : α → Option β) : (none : Option α).bind f = none := (rfl)
theorem trm_no {α β : Type} (f : α → β) : (none : Option α).map f = none := (rfl)
theorem atI_neg1 {α : Type} (xs : List α) : atI xs (-1) = xs.getLast? := by
  cases xs with
  | nil => rfl
  | cons a l =>
    unfold atI ixN
    rw [if_neg (by decide), if_pos (by simp only [List.length_cons]; omega)]
    simp only [Option.bind_some, List.length_cons]
    rw [show ((-1 : Int) + ((l.length + 1 : Nat) : Int)).toNat = l.length by omega, List.getLast?_eq_getElem?]
    simp
theorem enumL_map {α : Type} (f : α → D) (xs : List α) : enumL (xs.map f) = (xs.zipIdx).map fun p => pairD (.int (p.2 : Nat)) (f p.1) := by
  unfold enumL zipL
  apply List.ext_getElem?
  intro i
  simp only [List.getElem?_zipWith, List.getElem?_map, List.getElem?_zipIdx, List.length_map, Nat.zero_add]
  cases h : xs[i]? with
  | none => simp
  | some a =>
    have hl := (List.getElem?_eq_some_iff.mp h).1
    simp [hl]
end DL
local macro_rules | `(tactic| simp_arith [$xs,*]) => `(tactic| simp only [DL.ob_some, DL.om_some, DL.dat_d, DL.lis_l, DL.dic_m, DL.gt_0, DL.gt_1, DL.gt_2, DL.gt_3, DL.gt_4, DL.gt_5, DL.gt_6, DL.gt_7, DL.gt_b, DL.st_0, DL.st_s, DL.plG_d, DL.plG_n, DL.plainAt_a, DL.varM_a, DL.ownM_a, DL.cM_a, DL.ofL_a, DL.opM_a, DL.opOwnM_a, DL.unM_a, DL.truM_a, DL.tstM_a, DL.notM_a, DL.cnd_t, DL.cnd_f, DL.andM_a, DL.orM_a, DL.andVM_a, DL.orVM_a, DL.notVM_a, DL.iteM_a, DL.chM_a, DL.nilM_a, DL.consM_a, DL.guard_tt, DL.tupM_a, DL.lstM_a, DL.noM_a, DL.intV_i, DL.someM_a, DL.slM_a, DL.rng1M_a, DL.rng2M_a, DL.zipV_t, DL.zipV_l, DL.zipM_a, DL.seqM_a, DL.callM_a, DL.hereM_a, DL.callRM_a, DL.appM_a, DL.lisV_l, DL.extM_a, DL.popM_a, DL.popAtM_a, DL.newDM_a, DL.putM_a, DL.lenDM_a, DL.sortDM_a, DL.nameG_a, DL.nilG_a, DL.consG_a, DL.tupG_a, DL.seqS_a, DL.seqK_nx, DL.seqK_rt, DL.seqK_ct, DL.skipM_a, DL.asgM_a, DL.asgG_a, DL.newM_a, DL.asgLM_a, DL.retM_a, DL.exprM_a, DL.ifM_a, DL.forM_a, DL.frzM_a, DL.runF_a, DL.finF_rt, DL.finF_nx, DL.runR_a, DL.finR_rt, DL.finR_nx, DL.sz_0, DL.sz_1, DL.sz_2, DL.sz_3, DL.sz_4, DL.sz_5, DL.sz_6, DL.sz_7, DL.sz_8, DL.sz_9, DL.sz_10, DL.sz_11, DL.sz_12, DL.sz_13, DL.sz_14, DL.sz_15, DL.sz_16, DL.sz_17, DL.sz_18, DL.sz_19, DL.sz_20, DL.sz_21, DL.sz_22, DL.sz_23, DL.sz_24, DL.sz_25, DL.sz_26, DL.sz_27, DL.sz_28, DL.sz_29, DL.sz_30, DL.nc_0, DL.nc_1, DL.nc_2, DL.nc_3, DL.nc_4, DL.nc_5, DL.nc_6, DL.nc_7, DL.nc_8, DL.nc_9, DL.nc_10, DL.nc_11, DL.nc_12, DL.nc_13, DL.nc_14, DL.nc_15, DL.nc_16, DL.nc_17, DL.nc_18, DL.nc_19, DL.nc_20, DL.nc_21, DL.nc_22, DL.nc_23, DL.nc_24, DL.nc_25, DL.nc_26, DL.nc_27, DL.nc_28, DL.nc_29, DL.nc_30, DL.addD_i, DL.addD_t, DL.addD_l, DL.subD_i, DL.modD_i, DL.fdivD_i, DL.mulD_i, DL.lenD_t, DL.lenD_l, DL.tupleD_t, DL.tupleD_l, DL.truD_i, DL.truD_b, DL.truD_n, DL.truD_l, DL.truD_t, DL.ixD_t, DL.ixD_l, DL.negD_i, DL.bD_a, DL.ltB_i, DL.leB_i, DL.eqB_i, DL.neB_i, DL.min2D_i, DL.max2D_i, DL.items_t, DL.items_l, DL.intD_b, DL.isNN, DL.slD_t, DL.slD_l, DL.sortD2_l, DL.sortD2_t, DL.p_ge0, DL.p_geS, DL.p_tk0, DL.p_tkS, DL.p_tkN, DL.p_dr0, DL.p_drS, DL.p_drN, DL.p_mpC, DL.p_mpN, DL.p_apC, DL.p_apN, DL.p_lnC, DL.p_lnN, DL.p_rpS, DL.p_rp0, DL.p_alC, DL.p_alN, DL.p_gdS, DL.p_gdN, DL.p_tlS, DL.p_tlN, DL.p_ieC, DL.p_ieN, DL.p_nt, DL.p_nf, DL.p_atb, DL.p_afb, DL.p_abt, DL.p_abf, DL.p_eqS, DL.p_dT, DL.p_dF, DL.p_TA, DL.p_AT, DL.p_TO, DL.p_OT, DL.p_startD, DL.p_startR, DL.forK_nx, DL.forK_ct, DL.forK_rt, DL.yesM_a, DL.it1_a, DL.compM_a, DL.wipeR_c, DL.wipeR_n, DL.restR_c, DL.restR_n, DL.gtD_i, DL.gtD_T, DL.ob_assoc, DL.om_bind, DL.ob_map, DL.om_map, DL.cnd_bind, DL.cnd_map, DL.guard_bind, DL.guard_map, DL.atI_c0, DL.atI_c1, DL.atI_c2, DL.atI_c3, DL.encN_0, DL.encN_1, DL.encN_2, DL.encN_u, DL.eq_TI, DL.ne_TI, DL.in_I, DL.in_Il, DL.in_T, DL.in_R, DL.notInB_a, DL.enumM_a, DL.exM_a, DL.seqK_ex, DL.finF_ex, DL.forK_ex, DL.tri_no, DL.trm_no, DL.atI_neg1, Nat.reduceAdd, Nat.reduceSub, Nat.reduceMul, Int.reduceLT, Int.reduceLE, Int.reducePow, Int.reduceNeg, Int.reduceAdd, Int.reduceSub, Int.reduceMul, Int.reduceBEq, Int.reduceBNe, Int.reduceToNat, $xs,*])
namespace DL
open PySem L2 GT
theorem wipO_nx (is : List Nat) (r : Rho) : wipO is (.nx r) = .nx (wipeR r is) := (rfl)
theorem wipO_ct (is : List Nat) (r : Rho) : wipO is (.ct r) = .ct (wipeR r is) := (rfl)
theorem wipO_bk (is : List Nat) (r : Rho) : wipO is (.bk r) = .bk (wipeR r is) := (rfl)
theorem wipO_rt (is : List Nat) (d : D) (r : Rho) : wipO is (.rt d r) = .rt d r := (rfl)
theorem wipO_ex (is : List Nat) (c : String) (r : Rho) : wipO is (.ex c r) = .ex c r := (rfl)
theorem wipM_a (is : List Nat) (f : SM) (r : Rho) : wipM is f r = (f r).map (wipO is) := (rfl)
theorem preM_a (is : List Nat) (f : SM) (r : Rho) : preM is f r = f (wipeR r is) := (rfl)
theorem two_a (i j : Nat) (r : Rho) (d e : D) : two i j r [d, e] = some (.nx ((r.set i (some (.d d))).set j (some (.d e)))) := (rfl)
theorem parLM_a (i j : Nat) (f : EM) (g : AM) (r : Rho) : parLM i j f g r = (f r).bind fun p => (g p.2).map fun q => .nx ((q.2.set i (some (.d p.1))).set j (some (.l false q.1))) := (rfl)
theorem finR_ex (j : Nat) (c : String) (r : Rho) : finR j (.ex c r) = none := (rfl)
theorem len_map {α β : Type} (f : α → β) (xs : List α) : (xs.map f).length = xs.length := by simp
theorem len_app {α : Type} (xs ys : List α) : (xs ++ ys).length = xs.length + ys.length := by simp
theorem len_ir (n : Nat) : (ir n).length = n := ir_len n
theorem len_rev {α : Type} (xs : List α) : xs.reverse.length = xs.length := by simp
theorem sz_c {n : Nat} (h : n ≤ 1000000) : szOk n = true := szOk_of h
theorem rng_c {i : Int} (h1 : -1000000 ≤ i) (h2 : i ≤ 1000000) : rngOk i = true := rng_ok h1 h2
theorem rngL_n (n : Nat) : rngL 0 (n : Int) = (ir n).map .int := rngL_ir n
theorem forM_a' (it : AM) (g : GM) (f : SM) (r : Rho) : forM it g f r = (it r).bind fun p => forL g f p.1 p.2 := (rfl)
theorem rev_map {α β : Type} (f : α → β) (xs : List α) : (xs.map f).reverse = xs.reverse.map f := by simp
theorem seqK_bk (g : SM) (r : Rho) : seqK g (.bk r) = some (.bk r) := (rfl)
theorem forK_bk (g : GM) (f : SM) (xs : List D) (r : Rho) : forK g f xs (.bk r) = some (.nx r) := (rfl)
theorem enum_m {α : Type} (f : α → D) (xs : List α) : enumL (xs.map f) = (xs.zipIdx).map fun p => .tuple [.int (p.2 : Nat), f p.1] := enumL_map f xs
theorem emp_map {α β : Type} (f : α → β) (xs : List α) : (xs.map f).isEmpty = xs.isEmpty := by cases xs <;> rfl
/-! steps of an evaluation -/
theorem wp_last {α : Type} {e : Option α} {Q : α → Prop} (h : wp (e.bind some) Q) : wp e Q := by
  cases e with
  | none => exact h
  | some a => exact h
/-- a loop that changes nothing -/
theorem wp_all {A β : Type} {g : GM} {f : SM} {as : List A} {r : Rho} {K : Out → Option β} {Q : β → Prop} {enc : A → D}
    (step : ∀ a ∈ as, wp ((g r (enc a)).bind f) (goesOn (· = r))) (k : wp (K (.nx r)) Q) : wp ((forL g f (as.map enc) r).bind K) Q := by
  refine wp_for enc (fun bs q => (∀ b ∈ bs, b ∈ as) ∧ q = r) ⟨fun _ h => h, rfl⟩ ?_ ?_
  · rintro a bs q ⟨h, rfl⟩
    refine wp_mono (step a (h a (by simp))) fun o ho => ?_
    cases o with
    | nx r2 => exact ⟨fun b m => h b (List.mem_cons_of_mem _ m), ho⟩
    | ct r2 => exact ⟨fun b m => h b (List.mem_cons_of_mem _ m), ho⟩
    | _ => exact ho.elim
  · rintro q ⟨_, rfl⟩; exact k
/-- a loop that draws: each turn at most c times -/
theorem wp_town {A β : Type} {g : GM} {f : SM} {as : List A} {K : Out → Option β} {Q : β → Prop} {enc : A → D} (st : List D → Rho) (c : Nat) (tw0 : List D)
    (step : ∀ a ∈ as, ∀ tw : List D, tw.length ≤ tw0.length + c * as.length → wp ((g (st tw) (enc a)).bind f) (goesOn fun r => ∃ tw' : List D, tw'.length ≤ tw.length + c ∧ r = st tw'))
    (k : ∀ tw : List D, tw.length ≤ tw0.length + c * as.length → wp (K (.nx (st tw))) Q) : wp ((forL g f (as.map enc) (st tw0)).bind K) Q := by
  refine wp_for enc (fun bs q => (∀ b ∈ bs, b ∈ as) ∧ ∃ tw : List D, tw.length + c * bs.length ≤ tw0.length + c * as.length ∧ q = st tw) ⟨fun _ h => h, tw0, Nat.le_refl _, rfl⟩ ?_ ?_
  · rintro a bs q ⟨h, tw, hl, rfl⟩
    simp only [List.length_cons, Nat.mul_add, Nat.mul_one] at hl
    refine wp_mono (step a (h a (by simp)) tw (by omega)) fun o ho => ?_
    cases o with
    | nx r2 => obtain ⟨tw', h1, h2⟩ := ho; exact ⟨fun b m => h b (List.mem_cons_of_mem _ m), tw', by omega, h2⟩
    | ct r2 => obtain ⟨tw', h1, h2⟩ := ho; exact ⟨fun b m => h b (List.mem_cons_of_mem _ m), tw', by omega, h2⟩
    | _ => exact ho.elim
  · rintro q ⟨_, tw, hl, rfl⟩; exact k tw (by simpa using hl)
/-- a loop whose state is a function of what it has seen -/
theorem wp_fold {A S β : Type} {g : GM} {f : SM} {as : List A} {K : Out → Option β} {Q : β → Prop} {enc : A → D} (st : S → Rho) (up : S → A → S) (s0 : S)
    (step : ∀ pre a post, as = pre ++ a :: post → wp ((g (st (pre.foldl up s0)) (enc a)).bind f) (goesOn (· = st (up (pre.foldl up s0) a))))
    (k : wp (K (.nx (st (as.foldl up s0)))) Q) : wp ((forL g f (as.map enc) (st s0)).bind K) Q := by
  refine wp_for enc (fun bs q => ∃ pre, as = pre ++ bs ∧ q = st (pre.foldl up s0)) ⟨[], rfl, rfl⟩ ?_ ?_
  · rintro a bs q ⟨pre, h, rfl⟩
    refine wp_mono (step pre a bs h) fun o ho => ?_
    cases o with
    | nx r2 => exact ⟨pre ++ [a], by simp [h], by rw [List.foldl_append]; exact ho⟩
    | ct r2 => exact ⟨pre ++ [a], by simp [h], by rw [List.foldl_append]; exact ho⟩
    | _ => exact ho.elim
  · rintro q ⟨pre, h, rfl⟩
    rw [List.append_nil] at h; subst h; exact k
/-- .. of a list that is filled -/
theorem wp_fill {A B β : Type} {g : GM} {f : SM} {as : List A} {K : Out → Option β} {Q : β → Prop} {enc : A → D} (st : List B → Rho) (e : A → List B)
    (step : ∀ pre a post, as = pre ++ a :: post → wp ((g (st (pre.flatMap e)) (enc a)).bind f) (goesOn (· = st (pre.flatMap e ++ e a))))
    (k : wp (K (.nx (st (as.flatMap e)))) Q) : wp ((forL g f (as.map enc) (st [])).bind K) Q := by
  have key : ∀ (xs : List A) (s : List B), xs.foldl (fun s a => s ++ e a) s = s ++ xs.flatMap e := by
    intro xs
    induction xs with
    | nil => simp
    | cons a xs ih => intro s; simp [ih]
  refine wp_fold st (fun s a => s ++ e a) [] ?_ (by rw [key, List.nil_append]; exact k)
  intro pre a post h
  rw [key, List.nil_append]
  exact step pre a post h
/-- comprehensions -/
theorem wp_cmap {A β : Type} {g : GM} {el : EM} {is : List Nat} {as : List A} {r : Rho} {K : List D × Rho → Option β} {Q : β → Prop} {enc : A → D} (e : A → D)
    (step : ∀ a ∈ as, wp (it1 g yesM el is r (enc a)) (· = (some (e a), r))) (k : wp (K (as.map e, r)) Q) : wp ((compL g yesM el is (as.map enc) r).bind K) Q := by
  rw [compL_map enc e as fun a m => wp_val (step a m)]; exact k
theorem wp_cfil {A β : Type} {g : GM} {t : TM} {el : EM} {is : List Nat} {as : List A} {r : Rho} {K : List D × Rho → Option β} {Q : β → Prop} {enc : A → D} (p : A → Bool) (e : A → D)
    (step : ∀ a ∈ as, wp (it1 g t el is r (enc a)) (· = (if p a = true then some (e a) else none, r))) (k : wp (K ((as.filter p).map e, r)) Q) : wp ((compL g t el is (as.map enc) r).bind K) Q := by
  rw [compL_pure enc e p as fun a m => wp_val (step a m)]; exact k
/-- a comprehension that draws -/
theorem wp_ctown {A β : Type} {g : GM} {t : TM} {el : EM} {is : List Nat} {as : List A} {K : List D × Rho → Option β} {Q : β → Prop} {enc : A → D} (st : List D → Rho) (c : Nat) (tw0 : List D) (G : A → D → Prop)
    (step : ∀ a ∈ as, ∀ tw : List D, tw.length ≤ tw0.length + c * as.length → wp (it1 g t el is (st tw) (enc a)) (fun q => (∃ tw' : List D, tw'.length ≤ tw.length + c ∧ q.2 = st tw') ∧ ∀ d, q.1 = some d → G a d))
    (k : ∀ (bs : List (A × D)) (tw : List D), (bs.map (·.1)).Sublist as → (∀ b ∈ bs, G b.1 b.2) → tw.length ≤ tw0.length + c * as.length → wp (K (bs.map (·.2), st tw)) Q) : wp ((compL g t el is (as.map enc) (st tw0)).bind K) Q := by
  obtain ⟨bs, r', h1, h2, h3, _, tw, h4, rfl⟩ := compL_inv (g := g) (t := t) (el := el) (is := is) enc G (fun bs q => (∀ b ∈ bs, b ∈ as) ∧ ∃ tw : List D, tw.length + c * bs.length ≤ tw0.length + c * as.length ∧ q = st tw) (fun a bs q ⟨h, tw, hl, hq⟩ => by
    subst hq
    simp only [List.length_cons, Nat.mul_add, Nat.mul_one] at hl
    obtain ⟨⟨o, r1⟩, e, ⟨tw', h1, h2⟩, h3⟩ := step a (h a (by simp)) tw (by omega)
    exact ⟨o, r1, e, h3, fun b m => h b (List.mem_cons_of_mem _ m), tw', by omega, h2⟩) as (st tw0) ⟨fun _ h => h, tw0, Nat.le_refl _, rfl⟩
  rw [h3]
  exact k bs tw h1 h2 (by simpa using h4)
/-- the parts of a row without one -/
theorem cut_from {α : Type} (xs : List α) (k : Nat) : cutD xs (some (k : Int)) none = xs.drop k := by
  unfold cutD
  rw [HT.sIx_none, HT.sIx_nat]
  rcases Nat.le_total k xs.length with h | h
  · rw [Nat.min_eq_left h]
    exact List.take_of_length_le (by simp)
  · rw [Nat.min_eq_right h, List.drop_of_length_le h]
    simp
theorem cut_to {α : Type} (xs : List α) (k : Nat) : cutD xs none (some (k : Int)) = xs.take k := by
  unfold cutD
  rw [HT.sIx_none, HT.sIx_nat, List.drop_zero, Nat.sub_zero]
  rcases Nat.le_total k xs.length with h | h
  · rw [Nat.min_eq_left h]
  · rw [Nat.min_eq_right h, List.take_length, List.take_of_length_le h]
theorem cut_from1 {α : Type} (xs : List α) (k : Nat) : cutD xs (some ((k : Int) + 1)) none = xs.drop (k + 1) := by
  rw [show ((k : Int) + 1) = ((k + 1 : Nat) : Int) by omega]; exact cut_from xs (k + 1)
end DL
local macro_rules | `(tactic| simp_arith [$xs,*]) => `(tactic| simp only [DL.ob_some, DL.om_some, DL.dat_d, DL.lis_l, DL.dic_m, DL.gt_0, DL.gt_1, DL.gt_2, DL.gt_3, DL.gt_4, DL.gt_5, DL.gt_6, DL.gt_7, DL.gt_b, DL.st_0, DL.st_s, DL.plG_d, DL.plG_n, DL.plainAt_a, DL.varM_a, DL.ownM_a, DL.cM_a, DL.ofL_a, DL.opM_a, DL.opOwnM_a, DL.unM_a, DL.truM_a, DL.tstM_a, DL.notM_a, DL.cnd_t, DL.cnd_f, DL.andM_a, DL.orM_a, DL.andVM_a, DL.orVM_a, DL.notVM_a, DL.iteM_a, DL.chM_a, DL.nilM_a, DL.consM_a, DL.guard_tt, DL.tupM_a, DL.lstM_a, DL.noM_a, DL.intV_i, DL.someM_a, DL.slM_a, DL.rng1M_a, DL.rng2M_a, DL.zipV_t, DL.zipV_l, DL.zipM_a, DL.seqM_a, DL.callM_a, DL.hereM_a, DL.callRM_a, DL.appM_a, DL.lisV_l, DL.extM_a, DL.popM_a, DL.popAtM_a, DL.newDM_a, DL.putM_a, DL.lenDM_a, DL.sortDM_a, DL.nameG_a, DL.nilG_a, DL.consG_a, DL.tupG_a, DL.seqS_a, DL.seqK_nx, DL.seqK_rt, DL.seqK_ct, DL.skipM_a, DL.asgM_a, DL.asgG_a, DL.newM_a, DL.asgLM_a, DL.retM_a, DL.exprM_a, DL.ifM_a, DL.forM_a, DL.frzM_a, DL.runF_a, DL.finF_rt, DL.finF_nx, DL.runR_a, DL.finR_rt, DL.finR_nx, DL.sz_0, DL.sz_1, DL.sz_2, DL.sz_3, DL.sz_4, DL.sz_5, DL.sz_6, DL.sz_7, DL.sz_8, DL.sz_9, DL.sz_10, DL.sz_11, DL.sz_12, DL.sz_13, DL.sz_14, DL.sz_15, DL.sz_16, DL.sz_17, DL.sz_18, DL.sz_19, DL.sz_20, DL.sz_21, DL.sz_22, DL.sz_23, DL.sz_24, DL.sz_25, DL.sz_26, DL.sz_27, DL.sz_28, DL.sz_29, DL.sz_30, DL.nc_0, DL.nc_1, DL.nc_2, DL.nc_3, DL.nc_4, DL.nc_5, DL.nc_6, DL.nc_7, DL.nc_8, DL.nc_9, DL.nc_10, DL.nc_11, DL.nc_12, DL.nc_13, DL.nc_14, DL.nc_15, DL.nc_16, DL.nc_17, DL.nc_18, DL.nc_19, DL.nc_20, DL.nc_21, DL.nc_22, DL.nc_23, DL.nc_24, DL.nc_25, DL.nc_26, DL.nc_27, DL.nc_28, DL.nc_29, DL.nc_30, DL.addD_i, DL.addD_t, DL.addD_l, DL.subD_i, DL.modD_i, DL.fdivD_i, DL.mulD_i, DL.lenD_t, DL.lenD_l, DL.tupleD_t, DL.tupleD_l, DL.truD_i, DL.truD_b, DL.truD_n, DL.truD_l, DL.truD_t, DL.ixD_t, DL.ixD_l, DL.negD_i, DL.bD_a, DL.ltB_i, DL.leB_i, DL.eqB_i, DL.neB_i, DL.min2D_i, DL.max2D_i, DL.items_t, DL.items_l, DL.intD_b, DL.isNN, DL.slD_t, DL.slD_l, DL.sortD2_l, DL.sortD2_t, DL.p_ge0, DL.p_geS, DL.p_tk0, DL.p_tkS, DL.p_tkN, DL.p_dr0, DL.p_drS, DL.p_drN, DL.p_mpC, DL.p_mpN, DL.p_apC, DL.p_apN, DL.p_lnC, DL.p_lnN, DL.p_rpS, DL.p_rp0, DL.p_alC, DL.p_alN, DL.p_gdS, DL.p_gdN, DL.p_tlS, DL.p_tlN, DL.p_ieC, DL.p_ieN, DL.p_nt, DL.p_nf, DL.p_atb, DL.p_afb, DL.p_abt, DL.p_abf, DL.p_eqS, DL.p_dT, DL.p_dF, DL.p_TA, DL.p_AT, DL.p_TO, DL.p_OT, DL.p_startD, DL.p_startR, DL.forK_nx, DL.forK_ct, DL.forK_rt, DL.yesM_a, DL.it1_a, DL.compM_a, DL.wipeR_c, DL.wipeR_n, DL.restR_c, DL.restR_n, DL.gtD_i, DL.gtD_T, DL.ob_assoc, DL.om_bind, DL.ob_map, DL.om_map, DL.cnd_bind, DL.cnd_map, DL.guard_bind, DL.guard_map, DL.atI_c0, DL.atI_c1, DL.atI_c2, DL.atI_c3, DL.encN_0, DL.encN_1, DL.encN_2, DL.encN_u, PG.Sq_failing_1_a, PG.Sq_failing_2_a, PG.Sq_twins_1_a, PG.Sq_twins_2_a, PG.Sq_suspects_1_a, PG.Sq_suspects_2_a, PG.Sq_the_one_1_a, PG.Sq_cases_1_a, PG.Sq_split_1_a, PG.Sq_shortest_1_a, PG.Sq_shortest_2_a, PG.Sq_written_1_a, PG.Sq_tie_in_1_a, PG.Sq_read_1_a, PG.Sq_read_2_a, PG.Sq_read_3_a, PG.Sq_read_4_a, Nat.reduceAdd, Nat.reduceSub, Nat.reduceMul, Int.reduceLT, Int.reduceLE, Int.reducePow, Int.reduceNeg, Int.reduceAdd, Int.reduceSub, Int.reduceMul, Int.reduceBEq, Int.reduceBNe, Int.reduceToNat, $xs,*])
namespace DL
open PySem L2 GT
def wholeD (d : D) (lo hi : Int) : Bool := match d with
  | .int i => decide (lo ≤ i) && decide (i ≤ hi)
  | _ => false
theorem isi_int (d : D) : isiD .int d = some (.bool (match d with | .int _ => true | .bool _ => true | _ => false)) := by cases d <;> rfl
theorem isi_bool (d : D) : isiD .bool d = some (.bool (match d with | .bool _ => true | _ => false)) := by cases d <;> rfl
theorem isi_tuple (d : D) : isiD .tuple d = some (.bool (match d with | .tuple _ => true | _ => false)) := by cases d <;> rfl
theorem cut_init {α : Type} (xs : List α) : cutD xs none (some (-1)) = xs.dropLast := by
  unfold cutD
  have e : HT.sIx xs.length xs.length (some (-1)) = xs.length - 1 := by
    show (if (-1 : Int) < 0 then ((-1 : Int) + (xs.length : Int)).toNat else min (-1 : Int).toNat xs.length) = _
    rw [if_pos (by decide)]; omega
  rw [e, HT.sIx_none, List.drop_zero, Nat.sub_zero, List.dropLast_eq_take]
theorem cut_tail {α : Type} (xs : List α) : cutD xs (some 1) none = xs.tail := by
  unfold cutD
  have e : HT.sIx xs.length 0 (some 1) = min 1 xs.length := HT.sIx_nat xs.length 0 1
  rw [e, HT.sIx_none]
  cases xs with
  | nil => rfl
  | cons x xs => simp
theorem zipL_enc {α : Type} (enc : α → D) (xs ys : List α) : zipL (xs.map enc) (ys.map enc) = (xs.zip ys).map fun p => pairD (enc p.1) (enc p.2) := by
  unfold zipL
  rw [List.zipWith_map, List.zip, List.map_zipWith]
theorem allD_b (bs : List Bool) : allD (.list (bs.map .bool)) = some (.bool (bs.all id)) := by
  show (blsOf (bs.map .bool)).map _ = _
  rw [show blsOf (bs.map PyData.bool) = some bs from by induction bs with
    | nil => rfl
    | cons b bs ih => simp [blsOf, ih]]
  rfl
theorem anyD_b (bs : List Bool) : anyD (.list (bs.map .bool)) = some (.bool (bs.any id)) := by
  show (blsOf (bs.map .bool)).map _ = _
  rw [show blsOf (bs.map PyData.bool) = some bs from by induction bs with
    | nil => rfl
    | cons b bs ih => simp [blsOf, ih]]
  rfl
theorem allD_map {α : Type} (p : α → Bool) (xs : List α) : allD (.list (xs.map fun x => .bool (p x))) = some (.bool (xs.all p)) := by
  have := allD_b (xs.map p)
  rw [List.map_map] at this
  rw [show (fun x => PyData.bool (p x)) = PyData.bool ∘ p from rfl, this]
  simp [List.all_map]
end DL
namespace PG
open PySem L2 DL GT
theorem whole_eval (d : D) (lo hi : Int) : g_is_whole [d, .int lo, .int hi] = some (.bool (wholeD d lo hi)) := by
  unfold g_is_whole b_is_whole N_is_whole
  cases d with
  | int i =>
    simp_arith [isi_int, isi_bool]
    by_cases h : lo ≤ i
    · simp_arith [h, wholeD]
    · simp_arith [h, wholeD]
  | _ => simp_arith [isi_int, isi_bool, wholeD]
end PG
namespace DL
open PySem L2 GT
end DL
namespace PG
open PySem L2 DL GT
end PG
local macro_rules | `(tactic| simp_arith [$xs,*]) => `(tactic| simp (maxSteps := 2000000) (disch := omega) only [DL.ob_some, DL.om_some, DL.dat_d, DL.lis_l, DL.dic_m, DL.gt_0, DL.gt_1, DL.gt_2, DL.gt_3, DL.gt_4, DL.gt_5, DL.gt_6, DL.gt_7, DL.gt_b, DL.st_0, DL.st_s, DL.plG_d, DL.plG_n, DL.plainAt_a, DL.varM_a, DL.ownM_a, DL.cM_a, DL.ofL_a, DL.opM_a, DL.opOwnM_a, DL.unM_a, DL.truM_a, DL.tstM_a, DL.notM_a, DL.cnd_t, DL.cnd_f, DL.andM_a, DL.orM_a, DL.andVM_a, DL.orVM_a, DL.notVM_a, DL.iteM_a, DL.chM_a, DL.nilM_a, DL.consM_a, DL.guard_tt, DL.tupM_a, DL.lstM_a, DL.noM_a, DL.intV_i, DL.someM_a, DL.slM_a, DL.rng1M_a, DL.rng2M_a, DL.zipV_t, DL.zipV_l, DL.zipM_a, DL.seqM_a, DL.callM_a, DL.hereM_a, DL.callRM_a, DL.appM_a, DL.lisV_l, DL.extM_a, DL.popM_a, DL.popAtM_a, DL.newDM_a, DL.putM_a, DL.lenDM_a, DL.sortDM_a, DL.nameG_a, DL.nilG_a, DL.consG_a, DL.tupG_a, DL.seqS_a, DL.seqK_nx, DL.seqK_rt, DL.seqK_ct, DL.skipM_a, DL.asgM_a, DL.asgG_a, DL.newM_a, DL.asgLM_a, DL.retM_a, DL.exprM_a, DL.ifM_a, DL.forM_a, DL.frzM_a, DL.runF_a, DL.finF_rt, DL.finF_nx, DL.runR_a, DL.finR_rt, DL.finR_nx, DL.sz_0, DL.sz_1, DL.sz_2, DL.sz_3, DL.sz_4, DL.sz_5, DL.sz_6, DL.sz_7, DL.sz_8, DL.sz_9, DL.sz_10, DL.sz_11, DL.sz_12, DL.sz_13, DL.sz_14, DL.sz_15, DL.sz_16, DL.sz_17, DL.sz_18, DL.sz_19, DL.sz_20, DL.sz_21, DL.sz_22, DL.sz_23, DL.sz_24, DL.sz_25, DL.sz_26, DL.sz_27, DL.sz_28, DL.sz_29, DL.sz_30, DL.nc_0, DL.nc_1, DL.nc_2, DL.nc_3, DL.nc_4, DL.nc_5, DL.nc_6, DL.nc_7, DL.nc_8, DL.nc_9, DL.nc_10, DL.nc_11, DL.nc_12, DL.nc_13, DL.nc_14, DL.nc_15, DL.nc_16, DL.nc_17, DL.nc_18, DL.nc_19, DL.nc_20, DL.nc_21, DL.nc_22, DL.nc_23, DL.nc_24, DL.nc_25, DL.nc_26, DL.nc_27, DL.nc_28, DL.nc_29, DL.nc_30, DL.addD_i, DL.addD_t, DL.addD_l, DL.subD_i, DL.modD_i, DL.fdivD_i, DL.mulD_i, DL.lenD_t, DL.lenD_l, DL.tupleD_t, DL.tupleD_l, DL.truD_i, DL.truD_b, DL.truD_n, DL.truD_l, DL.truD_t, DL.ixD_t, DL.ixD_l, DL.negD_i, DL.bD_a, DL.ltB_i, DL.leB_i, DL.eqB_i, DL.neB_i, DL.min2D_i, DL.max2D_i, DL.items_t, DL.items_l, DL.intD_b, DL.isNN, DL.slD_t, DL.slD_l, DL.sortD2_l, DL.sortD2_t, DL.p_ge0, DL.p_geS, DL.p_tk0, DL.p_tkS, DL.p_tkN, DL.p_dr0, DL.p_drS, DL.p_drN, DL.p_mpC, DL.p_mpN, DL.p_apC, DL.p_apN, DL.p_lnC, DL.p_lnN, DL.p_rpS, DL.p_rp0, DL.p_alC, DL.p_alN, DL.p_gdS, DL.p_gdN, DL.p_tlS, DL.p_tlN, DL.p_ieC, DL.p_ieN, DL.p_nt, DL.p_nf, DL.p_atb, DL.p_afb, DL.p_abt, DL.p_abf, DL.p_eqS, DL.p_dT, DL.p_dF, DL.p_TA, DL.p_AT, DL.p_TO, DL.p_OT, DL.p_startD, DL.p_startR, DL.forK_nx, DL.forK_ct, DL.forK_rt, DL.yesM_a, DL.it1_a, DL.compM_a, DL.wipeR_c, DL.wipeR_n, DL.restR_c, DL.restR_n, DL.gtD_i, DL.gtD_T, DL.ob_assoc, DL.om_bind, DL.ob_map, DL.om_map, DL.cnd_bind, DL.cnd_map, DL.guard_bind, DL.guard_map, DL.atI_c0, DL.atI_c1, DL.atI_c2, DL.atI_c3, DL.encN_0, DL.encN_1, DL.encN_2, DL.encN_u, DL.eq_TI, DL.ne_TI, DL.in_I, DL.in_Il, DL.in_T, DL.in_R, DL.notInB_a, DL.enumM_a, DL.exM_a, DL.seqK_ex, DL.finF_ex, DL.forK_ex, DL.tri_no, DL.trm_no, DL.atI_neg1, DL.wipO_nx, DL.wipO_ct, DL.wipO_bk, DL.wipO_rt, DL.wipO_ex, DL.wipM_a, DL.preM_a, DL.two_a, DL.parLM_a, DL.finR_ex, DL.len_map, DL.len_app, DL.len_ir, DL.len_rev, DL.sz_c, DL.rng_c, DL.rngL_n, DL.forM_a', DL.rev_map, DL.seqK_bk, DL.forK_bk, DL.enum_m, DL.emp_map, PG.Sq_failing_1_a, PG.Sq_failing_2_a, PG.Sq_twins_1_a, PG.Sq_twins_2_a, PG.Sq_suspects_1_a, PG.Sq_suspects_2_a, PG.Sq_the_one_1_a, PG.Sq_cases_1_a, PG.Sq_split_1_a, PG.Sq_shortest_1_a, PG.Sq_shortest_2_a, PG.Sq_written_1_a, PG.Sq_tie_in_1_a, PG.Sq_read_1_a, PG.Sq_read_2_a, PG.Sq_read_3_a, PG.Sq_read_4_a, Nat.reduceAdd, Nat.reduceSub, Nat.reduceMul, Int.reduceLT, Int.reduceLE, Int.reducePow, Int.reduceNeg, Int.reduceAdd, Int.reduceSub, Int.reduceMul, Int.reduceBEq, Int.reduceBNe, Int.reduceToNat, $xs,*])
namespace DL
open PySem L2 GT
theorem encF_lst {α : Type} [DecidableEq α] {k : Nat} {f : α → D} (h : EncF k f) : EncF (k + 1) (fun xs : List α => PyData.list (xs.map f)) :=
  ⟨fun xs => by simpa [PyData.canLay0] using layAll h xs, fun xs => by have := depAll h xs; simp only [PyData.depth]; omega, fun xs ys => by simp only [PyData.eqv]; exact eqvAll_map h xs ys⟩
theorem eq_LI (a b : List Int) : eqB (.list (a.map .int)) (.list (b.map .int)) = some (decide (a = b)) := eq_one (encF_lst encF_int) (by decide) a b
theorem ne_LI (a b : List Int) : neB (.list (a.map .int)) (.list (b.map .int)) = some (!decide (a = b)) := ne_one (encF_lst encF_int) (by decide) a b
theorem eq_LI0 (a : List Int) : eqB (.list (a.map .int)) (.list []) = some a.isEmpty := (eq_one (encF_lst encF_int) (by decide) a []).trans (by cases a <;> rfl)
theorem ne_LI0 (a : List Int) : neB (.list (a.map .int)) (.list []) = some (!a.isEmpty) := (ne_one (encF_lst encF_int) (by decide) a []).trans (by cases a <;> rfl)
theorem eq_LT (a b : List Tie) : eqB (.list (a.map encT)) (.list (b.map encT)) = some (decide (a = b)) := eq_one (encF_lst encF_T) (by decide) a b
theorem ne_LT (a b : List Tie) : neB (.list (a.map encT)) (.list (b.map encT)) = some (!decide (a = b)) := ne_one (encF_lst encF_T) (by decide) a b
theorem eq_LR (a b : List (List Int)) : eqB (.list (a.map TI)) (.list (b.map TI)) = some (decide (a = b)) := eq_one (encF_lst encF_TI) (by decide) a b
theorem ne_LR (a b : List (List Int)) : neB (.list (a.map TI)) (.list (b.map TI)) = some (!decide (a = b)) := ne_one (encF_lst encF_TI) (by decide) a b
theorem eq_TR (a b : List (List Int)) : eqB (.tuple (a.map TI)) (.tuple (b.map TI)) = some (decide (a = b)) := eq_one (encF_tup encF_TI) (by decide) a b
theorem ne_TR (a b : List (List Int)) : neB (.tuple (a.map TI)) (.tuple (b.map TI)) = some (!decide (a = b)) := ne_one (encF_tup encF_TI) (by decide) a b
theorem eq_B (a b : Bool) : eqB (.bool a) (.bool b) = some (decide (a = b)) := eq_one encF_bool (by decide) a b
theorem ne_B (a b : Bool) : neB (.bool a) (.bool b) = some (!decide (a = b)) := ne_one encF_bool (by decide) a b
theorem wp_mapE {α β : Type} (e : Option α) (f : α → β) (Q : β → Prop) : wp (e.map f) Q = wp (e.bind fun a => some (f a)) Q := by cases e <;> rfl
theorem map_id_int (xs : List Int) : (xs.map fun a => a) = xs := by simp
theorem cut_f {α : Type} (xs : List α) (k : Nat) : cutD xs (some (k : Int)) none = xs.drop k := DL.cut_from xs k
theorem cut_t {α : Type} (xs : List α) (k : Nat) : cutD xs none (some (k : Int)) = xs.take k := DL.cut_to xs k
theorem cut_f1 {α : Type} (xs : List α) (k : Nat) : cutD xs (some ((k : Int) + 1)) none = xs.drop (k + 1) := DL.cut_from1 xs k
theorem map_drop' {α β : Type} (f : α → β) (xs : List α) (k : Nat) : (xs.map f).drop k = (xs.drop k).map f := List.map_drop.symm
theorem map_take' {α β : Type} (f : α → β) (xs : List α) (k : Nat) : (xs.map f).take k = (xs.take k).map f := List.map_take.symm
theorem map_app' {α β : Type} (f : α → β) (xs ys : List α) : xs.map f ++ ys.map f = (xs ++ ys).map f := List.map_append.symm
theorem len_zip {α : Type} (xs : List α) (i : Nat) : (xs.zipIdx i).length = xs.length := by simp
end DL
local macro_rules | `(tactic| simp_arith [$xs,*]) => `(tactic| simp only [DL.ob_some, DL.om_some, DL.dat_d, DL.lis_l, DL.dic_m, DL.gt_0, DL.gt_1, DL.gt_2, DL.gt_3, DL.gt_4, DL.gt_5, DL.gt_6, DL.gt_7, DL.gt_b, DL.st_0, DL.st_s, DL.plG_d, DL.plG_n, DL.plainAt_a, DL.varM_a, DL.ownM_a, DL.cM_a, DL.ofL_a, DL.opM_a, DL.opOwnM_a, DL.unM_a, DL.truM_a, DL.tstM_a, DL.notM_a, DL.cnd_t, DL.cnd_f, DL.andM_a, DL.orM_a, DL.andVM_a, DL.orVM_a, DL.notVM_a, DL.iteM_a, DL.chM_a, DL.nilM_a, DL.consM_a, DL.guard_tt, DL.tupM_a, DL.lstM_a, DL.noM_a, DL.intV_i, DL.someM_a, DL.slM_a, DL.rng1M_a, DL.rng2M_a, DL.zipV_t, DL.zipV_l, DL.zipM_a, DL.seqM_a, DL.callM_a, DL.hereM_a, DL.callRM_a, DL.appM_a, DL.lisV_l, DL.extM_a, DL.popM_a, DL.popAtM_a, DL.newDM_a, DL.putM_a, DL.lenDM_a, DL.sortDM_a, DL.nameG_a, DL.nilG_a, DL.consG_a, DL.tupG_a, DL.seqS_a, DL.seqK_nx, DL.seqK_rt, DL.seqK_ct, DL.skipM_a, DL.asgM_a, DL.asgG_a, DL.newM_a, DL.asgLM_a, DL.retM_a, DL.exprM_a, DL.ifM_a, DL.forM_a, DL.frzM_a, DL.runF_a, DL.finF_rt, DL.finF_nx, DL.runR_a, DL.finR_rt, DL.finR_nx, DL.sz_0, DL.sz_1, DL.sz_2, DL.sz_3, DL.sz_4, DL.sz_5, DL.sz_6, DL.sz_7, DL.sz_8, DL.sz_9, DL.sz_10, DL.sz_11, DL.sz_12, DL.sz_13, DL.sz_14, DL.sz_15, DL.sz_16, DL.sz_17, DL.sz_18, DL.sz_19, DL.sz_20, DL.sz_21, DL.sz_22, DL.sz_23, DL.sz_24, DL.sz_25, DL.sz_26, DL.sz_27, DL.sz_28, DL.sz_29, DL.sz_30, DL.nc_0, DL.nc_1, DL.nc_2, DL.nc_3, DL.nc_4, DL.nc_5, DL.nc_6, DL.nc_7, DL.nc_8, DL.nc_9, DL.nc_10, DL.nc_11, DL.nc_12, DL.nc_13, DL.nc_14, DL.nc_15, DL.nc_16, DL.nc_17, DL.nc_18, DL.nc_19, DL.nc_20, DL.nc_21, DL.nc_22, DL.nc_23, DL.nc_24, DL.nc_25, DL.nc_26, DL.nc_27, DL.nc_28, DL.nc_29, DL.nc_30, DL.addD_i, DL.addD_t, DL.addD_l, DL.subD_i, DL.modD_i, DL.fdivD_i, DL.mulD_i, DL.lenD_t, DL.lenD_l, DL.tupleD_t, DL.tupleD_l, DL.truD_i, DL.truD_b, DL.truD_n, DL.truD_l, DL.truD_t, DL.ixD_t, DL.ixD_l, DL.negD_i, DL.bD_a, DL.ltB_i, DL.leB_i, DL.eqB_i, DL.neB_i, DL.min2D_i, DL.max2D_i, DL.items_t, DL.items_l, DL.intD_b, DL.isNN, DL.slD_t, DL.slD_l, DL.sortD2_l, DL.sortD2_t, DL.p_ge0, DL.p_geS, DL.p_tk0, DL.p_tkS, DL.p_tkN, DL.p_dr0, DL.p_drS, DL.p_drN, DL.p_mpC, DL.p_mpN, DL.p_apC, DL.p_apN, DL.p_lnC, DL.p_lnN, DL.p_rpS, DL.p_rp0, DL.p_alC, DL.p_alN, DL.p_gdS, DL.p_gdN, DL.p_tlS, DL.p_tlN, DL.p_ieC, DL.p_ieN, DL.p_nt, DL.p_nf, DL.p_atb, DL.p_afb, DL.p_abt, DL.p_abf, DL.p_eqS, DL.p_dT, DL.p_dF, DL.p_TA, DL.p_AT, DL.p_TO, DL.p_OT, DL.p_startD, DL.p_startR, DL.forK_nx, DL.forK_ct, DL.forK_rt, DL.yesM_a, DL.it1_a, DL.compM_a, DL.wipeR_c, DL.wipeR_n, DL.restR_c, DL.restR_n, DL.gtD_i, DL.gtD_T, DL.ob_assoc, DL.om_bind, DL.ob_map, DL.om_map, DL.cnd_bind, DL.cnd_map, DL.guard_bind, DL.guard_map, DL.atI_c0, DL.atI_c1, DL.atI_c2, DL.atI_c3, DL.encN_0, DL.encN_1, DL.encN_2, DL.encN_u, DL.eq_TI, DL.ne_TI, DL.in_I, DL.in_Il, DL.in_T, DL.in_R, DL.notInB_a, DL.enumM_a, DL.exM_a, DL.seqK_ex, DL.finF_ex, DL.forK_ex, DL.tri_no, DL.trm_no, DL.atI_neg1, PG.Sq_failing_1_a, PG.Sq_failing_2_a, PG.Sq_twins_1_a, PG.Sq_twins_2_a, PG.Sq_suspects_1_a, PG.Sq_suspects_2_a, PG.Sq_the_one_1_a, PG.Sq_cases_1_a, PG.Sq_split_1_a, PG.Sq_shortest_1_a, PG.Sq_shortest_2_a, PG.Sq_written_1_a, PG.Sq_tie_in_1_a, PG.Sq_read_1_a, PG.Sq_read_2_a, PG.Sq_read_3_a, PG.Sq_read_4_a, Nat.reduceAdd, Nat.reduceSub, Nat.reduceMul, Int.reduceLT, Int.reduceLE, Int.reducePow, Int.reduceNeg, Int.reduceAdd, Int.reduceSub, Int.reduceMul, Int.reduceBEq, Int.reduceBNe, Int.reduceToNat, $xs,*])
namespace DL
open PySem L2 GT
theorem rk {n : Nat} (h : n ≤ 1000) : rngOk (n : Int) = true := rng_ok (by omega) (by omega)
theorem sk {n : Nat} (h : n ≤ 1000) : szOk n = true := szOk_of (by omega)
theorem rl {n : Nat} (h : n ≤ 1000) : szOk (rngL 0 (n : Int)).length = true := by rw [rngL_ir, List.length_map, ir_len]; exact sk h
end DL
namespace PG
open PySem L2 DL GT
theorem beside_eval {N : Net} (w : N.WF) (k : Int) : g_beside [encN N, .int k] = some (TI (nb N k)) := by
  have := w.small
  unfold g_beside b_beside N_beside
  simp_arith [rk (show N.n ≤ 1000 by omega), rl (show N.n ≤ 1000 by omega)]
  rw [rngL_ir, compL_pure PyData.int PyData.int (fun o => adj N k o) (ir N.n) (fun o _ => by
    unfold Ct_beside_1 Ce_beside_1 adj pr
    simp_arith [DL.p_nt]
    cases decide ((min k o, max k o) ∈ N.ties) <;> rfl)]
  simp_arith [DL.p_nt]
  rfl
theorem tie_between_eval {N : Net} {a b : Int} (h : adj N a b = true) : g_tie_between [encN N, .int a, .int b] = some (.int (idx N.ties (pr a b) : Nat)) := by
  have m : (min a b, max a b) ∈ N.ties := of_decide_eq_true h
  unfold g_tie_between b_tie_between N_tie_between
  simp_arith [m, idx_T m]
  rfl
/-- the ties of a way, by their numbers -/
def tiesOf (N : Net) (r : List Int) : List Int := sortI ((r.dropLast.zip r.tail).map fun p => (idx N.ties (pr p.1 p.2) : Int))
theorem linked_zip {N : Net} : ∀ {r : List Int}, linked N r = true → ∀ p ∈ r.dropLast.zip r.tail, adj N p.1 p.2 = true
  | [], _, p, m => by simp at m
  | [_], _, p, m => by simp at m
  | a :: b :: r, h, p, m => by
    obtain ⟨h1, h2⟩ := linked_cons.mp h
    simp only [List.dropLast_cons_cons, List.tail_cons, List.zip_cons_cons, List.mem_cons] at m
    rcases m with rfl | m
    · exact h1
    · exact linked_zip h2 p (by simpa using m)
theorem md {α β : Type} (f : α → β) (xs : List α) : (xs.map f).dropLast = xs.dropLast.map f := (List.map_dropLast ..).symm
theorem mt' {α β : Type} (f : α → β) (xs : List α) : (xs.map f).tail = xs.tail.map f := (List.map_tail ..).symm
theorem ties_of_eval {N : Net} {r : List Int} (hl : linked N r = true) (len : r.length ≤ 100) : g_ties_of [encN N, TI r] = some (TI (tiesOf N r)) := by
  unfold g_ties_of b_ties_of N_ties_of
  have z : szOk ((r.dropLast.zip r.tail).map fun p => pairD (.int p.1) (.int p.2)).length = true := sk (by simp; omega)
  simp_arith [cut_init, cut_tail, md, mt', zipL_enc, z]
  rw [compL_map (fun p : Int × Int => pairD (.int p.1) (.int p.2)) (fun p => .int (idx N.ties (pr p.1 p.2) : Nat)) (r.dropLast.zip r.tail) (fun p m => by
    unfold Ce_ties_of_1 pairD
    simp_arith [tie_between_eval (linked_zip hl p m)])]
  have e : (r.dropLast.zip r.tail).map (fun p => PyData.int (idx N.ties (pr p.1 p.2) : Nat)) = ((r.dropLast.zip r.tail).map fun p => (idx N.ties (pr p.1 p.2) : Int)).map .int := by rw [List.map_map]; rfl
  have so : sortOk (((r.dropLast.zip r.tail).map fun p => (idx N.ties (pr p.1 p.2) : Int)).map .int) = true := sortOk_I (by simp; omega)
  rw [e]
  simp_arith [so, sortL_I]
  rfl
/-- all that begin so, the ends first -/
theorem F1_led {N : Net} (w : N.WF) {f : Nat} {way : List Int} (hl : way.length ≤ 50) : ∀ (ks : List Int) (acc : List (List Int)) (x3 : Option SV),
    (∀ k ∈ ks, k ∉ way → gr_led_on f [encN N, TI (way ++ [k])] = some (.list ((ledOn N f (way ++ [k])).map TI))) →
    acc.length + ((ks.filter fun k => decide (k ∉ way)).flatMap fun k => ledOn N f (way ++ [k])).length ≤ 1000000 →
    ∃ x3', forL (nameG 3) (F_led_on_1 (gr_led_on f)) (ks.map .int) [some (.d (encN N)), some (.d (TI way)), some (.l false (acc.map TI)), x3] =
      some (.nx [some (.d (encN N)), some (.d (TI way)), some (.l false ((acc ++ (ks.filter fun k => decide (k ∉ way)).flatMap fun k => ledOn N f (way ++ [k])).map TI)), x3'])
  | [], acc, x3, _, _ => ⟨x3, by simp [forL_nil]⟩
  | k :: ks, acc, x3, hrec, hz => by
    rw [List.map_cons, forL_cons]
    unfold F_led_on_1
    by_cases m : k ∈ way
    · obtain ⟨x3', e⟩ := F1_led w hl ks acc (some (.d (.int k))) (fun j mj => hrec j (List.mem_cons_of_mem _ mj)) (by simpa [m] using hz)
      refine ⟨x3', ?_⟩
      unfold F_led_on_1 at e
      simp_arith [m]
      simpa [m] using e
    · have h1 := hrec k (by simp) m
      rw [List.filter_cons_of_pos (by simpa using m), List.flatMap_cons] at hz ⊢
      simp only [List.length_append] at hz
      obtain ⟨x3', e⟩ := F1_led w hl ks (acc ++ ledOn N f (way ++ [k])) (some (.d (.int k))) (fun j mj => hrec j (List.mem_cons_of_mem _ mj)) (by simp only [List.length_append]; omega)
      refine ⟨x3', ?_⟩
      unfold F_led_on_1 at e
      have e0 : addD (TI way) (.tuple [.int k]) = some (TI (way ++ [k])) := by
        simp_arith [sk (show (way.map PyData.int).length + 1 ≤ 1000 by simp; omega)]
        simp
      have z : szOk ((acc.map TI).length + ((ledOn N f (way ++ [k])).map TI).length) = true := szOk_of (by simp; omega)
      simp_arith [m, e0, h1, z, lisV]
      rw [← List.map_append, e, List.append_assoc]
/-- how many ways there can be with so many knots left -/
def cap : Nat → Nat
  | 0 => 1
  | m + 1 => 1 + (m + 1) * cap m
theorem flat_le {α β : Type} {f : α → List β} {c : Nat} : ∀ {xs : List α}, (∀ x ∈ xs, (f x).length ≤ c) → (xs.flatMap f).length ≤ xs.length * c
  | [], _ => by simp
  | x :: xs, h => by
    have h1 := h x (by simp)
    have h2 := flat_le (f := f) (c := c) (xs := xs) fun y m => h y (List.mem_cons_of_mem _ m)
    rw [List.flatMap_cons, List.length_append, List.length_cons, Nat.succ_mul]
    omega
theorem flat_congr {α β : Type} {f g : α → List β} {xs : List α} (h : ∀ x ∈ xs, f x = g x) : xs.flatMap f = xs.flatMap g := by
  rw [List.flatMap_def, List.flatMap_def, List.map_congr_left h]
theorem fresh_few {N : Net} (w : N.WF) {way : List Int} (hn : way.Nodup) (hi : ∀ x ∈ way, 0 ≤ x ∧ x < N.n) (a : Int) : ((nb N a).filter fun k => decide (k ∉ way)).length + way.length ≤ 7 := by
  have h1 : ((nb N a).filter fun k => decide (k ∉ way)).Nodup := (nodup_of_lt (fun a => Int.lt_irrefl a) (nb_sorted N a)).filter _
  have h2 : (((nb N a).filter fun k => decide (k ∉ way)) ++ way).Nodup := by
    rw [List.nodup_append]
    refine ⟨h1, hn, fun x m y my e => ?_⟩
    subst e
    have := (List.mem_filter.mp m).2
    simp at this
    exact this my
  have h3 := nodup_len_le _ (ir N.n) h2 fun x m => by
    rcases List.mem_append.mp m with m | m
    · exact (List.mem_filter.mp (List.mem_filter.mp m).1).1
    · exact mem_ir.mpr (hi x m)
  rw [ir_len, List.length_append] at h3
  have := w.small
  omega
theorem longer_ok {N : Net} {way : List Int} {a k : Int} (hn : way.Nodup) (hi : ∀ x ∈ way, 0 ≤ x ∧ x < N.n) (m : k ∈ (nb N a).filter fun k => decide (k ∉ way)) : (way ++ [k]).Nodup ∧ (∀ x ∈ way ++ [k], 0 ≤ x ∧ x < N.n) := by
  obtain ⟨m1, m2⟩ := List.mem_filter.mp m
  have m3 := mem_ir.mp (List.mem_filter.mp m1).1
  have m2 : k ∉ way := by simpa using m2
  constructor
  · rw [List.nodup_append]
    exact ⟨hn, by simp, fun x mx y my e => by simp at my; subst my; exact m2 (e ▸ mx)⟩
  · intro x mx
    rcases List.mem_append.mp mx with mx | mx
    · exact hi x mx
    · simp at mx; subst mx; exact m3
theorem ledOn_cap {N : Net} (w : N.WF) : ∀ (f m : Nat) (way : List Int), way.Nodup → (∀ x ∈ way, 0 ≤ x ∧ x < N.n) → way.length + m = 7 → (ledOn N f way).length ≤ cap m
  | 0, m, way, _, _, _ => by simp [ledOn]
  | f + 1, m, way, hn, hi, hm => by
    have few := fresh_few w hn hi (way.getLast?.getD 0)
    rw [ledOn, List.length_append]
    have h1 : (if isEnd N way = true then [way] else []).length ≤ 1 := by split <;> simp
    cases m with
    | zero =>
      have e : ((nb N (way.getLast?.getD 0)).filter fun k => decide (k ∉ way)) = [] := List.eq_nil_of_length_eq_zero (by omega)
      rw [e]
      simp only [List.flatMap_nil, List.length_nil, cap]; omega
    | succ m =>
      have h2 := flat_le (c := cap m) (f := fun k => ledOn N f (way ++ [k])) (xs := (nb N (way.getLast?.getD 0)).filter fun k => decide (k ∉ way)) fun k mk => by
        obtain ⟨a, b⟩ := longer_ok hn hi mk
        exact ledOn_cap w f m _ a b (by simp; omega)
      have h3 : ((nb N (way.getLast?.getD 0)).filter fun k => decide (k ∉ way)).length * cap m ≤ (m + 1) * cap m := Nat.mul_le_mul_right _ (by omega)
      rw [cap]
      omega
theorem cap_le : ∀ m, m ≤ 6 → cap m ≤ 1957 := by decide
theorem ledOn_small {N : Net} (w : N.WF) (f : Nat) {way : List Int} (h0 : way ≠ []) (hn : way.Nodup) (hi : ∀ x ∈ way, 0 ≤ x ∧ x < N.n) : (ledOn N f way).length ≤ 1957 := by
  have h1 := nodup_len_le way (ir N.n) hn fun x m => mem_ir.mpr (hi x m)
  rw [ir_len] at h1
  have h2 := w.small
  have h3 := List.length_pos_iff.mpr h0
  exact Nat.le_trans (ledOn_cap w f (7 - way.length) way hn hi (by omega)) (cap_le _ (by omega))
theorem ledOn_fuel {N : Net} (w : N.WF) : ∀ (f g : Nat) (way : List Int), way.Nodup → (∀ x ∈ way, 0 ≤ x ∧ x < N.n) → N.n < f + way.length → N.n < g + way.length → ledOn N f way = ledOn N g way
  | 0, _, way, hn, hi, hf, _ => by
    have := nodup_len_le way (ir N.n) hn fun x m => mem_ir.mpr (hi x m)
    rw [ir_len] at this; omega
  | _ + 1, 0, way, hn, hi, _, hg => by
    have := nodup_len_le way (ir N.n) hn fun x m => mem_ir.mpr (hi x m)
    rw [ir_len] at this; omega
  | f + 1, g + 1, way, hn, hi, hf, hg => by
    rw [ledOn, ledOn]
    congr 1
    apply flat_congr
    intro k mk
    obtain ⟨a, b⟩ := longer_ok hn hi mk
    exact ledOn_fuel w f g _ a b (by simp; omega) (by simp; omega)
theorem led_on_eval {N : Net} (w : N.WF) : ∀ (f : Nat) (way : List Int), way ≠ [] → way.Nodup → (∀ x ∈ way, 0 ≤ x ∧ x < N.n) → N.n < f + way.length → gr_led_on f [encN N, TI way] = some (.list ((ledOn N f way).map TI))
  | 0, way, _, hn, hi, hf => by
    have := nodup_len_le way (ir N.n) hn fun x m => mem_ir.mpr (hi x m)
    rw [ir_len] at this; omega
  | f + 1, way, h0, hn, hi, hf => by
    have small := ledOn_small w (f + 1) h0 hn hi
    have len : way.length ≤ 7 := by
      have := nodup_len_le way (ir N.n) hn fun x m => mem_ir.mpr (hi x m)
      rw [ir_len] at this; have := w.small; omega
    obtain ⟨a, ha⟩ : ∃ a, way.head? = some a := by
      cases way with
      | nil => exact absurd rfl h0
      | cons a l => exact ⟨a, rfl⟩
    obtain ⟨b, last⟩ : ∃ b, way.getLast? = some b := ⟨_, List.getLast?_eq_some_getLast h0⟩
    have ie : isEnd N way = (decide (1 < way.length) && decide (b ∈ N.rim) && decide (a < b)) := by unfold isEnd; rw [ha, last]
    have recs : ∀ k ∈ nb N b, k ∉ way → gr_led_on f [encN N, TI (way ++ [k])] = some (.list ((ledOn N f (way ++ [k])).map TI)) := fun k mk nk => by
      obtain ⟨x, y⟩ := longer_ok (a := b) hn hi (List.mem_filter.mpr ⟨mk, by simpa using nk⟩)
      exact led_on_eval w f _ (by simp) x y (by simp at hf ⊢; omega)
    rw [ledOn, last, Option.getD_some, List.length_append] at small
    show runF N_led_on (b_led_on (gr_led_on f)) _ = _
    unfold b_led_on N_led_on
    rw [ledOn, last, Option.getD_some]
    obtain ⟨x3', g⟩ := F1_led w (by omega) (nb N b) (if isEnd N way = true then [way] else []) none recs (by omega)
    have e1 : ixD (TI way) (.int 0) = some (.int a) := by
      cases way with
      | nil => exact absurd rfl h0
      | cons c l => cases ha; simp_arith [DL.p_nt]
    have e2 : ixD (TI way) (.int (-1)) = some (.int b) := by
      simp_arith [DL.p_nt]
      rw [List.getLast?_map, last]; rfl
    have e3 : decide ((1 : Int) < ((way.map PyData.int).length : Nat)) = decide (1 < way.length) := by simp; omega
    have bes := beside_eval w b
    cases ee : isEnd N way with
    | true =>
      rw [ee, if_pos rfl] at g
      rw [ie] at ee
      simp only [Bool.and_eq_true] at ee
      rw [if_pos rfl]
      have z0 : szOk 0 = true := by decide
      simp_arith [e1, e2, e3, ee.1.1, ee.1.2, ee.2, bes, forM_a, z0]
      rw [List.map_cons, List.map_nil] at g
      rw [g]
      simp_arith [DL.p_nt]
    | false =>
      rw [ee, if_neg (by simp)] at g
      rw [ie] at ee
      rw [if_neg (by simp)]
      by_cases h1 : 1 < way.length
      · by_cases h2 : b ∈ N.rim
        · have h3 : decide (a < b) = false := by simpa [h1, h2] using ee
          simp_arith [e1, e2, e3, decide_eq_true h1, decide_eq_true h2, h3, bes, forM_a]
          rw [List.map_nil] at g
          rw [g]
          simp_arith [DL.p_nt]
        · simp_arith [e1, e2, e3, decide_eq_true h1, decide_eq_false h2, bes, forM_a]
          rw [List.map_nil] at g
          rw [g]
          simp_arith [DL.p_nt]
      · simp_arith [e1, e2, e3, decide_eq_false h1, bes, forM_a]
        rw [List.map_nil] at g
        rw [g]
        simp_arith [DL.p_nt]
theorem F1_routes {N : Net} (w : N.WF) : ∀ (ks : List Int) (acc : List (List Int)) (x2 : Option SV), (∀ k ∈ ks, 0 ≤ k ∧ k < N.n) → acc.length + 1957 * ks.length ≤ 1000000 →
    ∃ x2', forL (nameG 2) F_routes_1 (ks.map .int) [some (.d (encN N)), some (.l false (acc.map TI)), x2] = some (.nx [some (.d (encN N)), some (.l false ((acc ++ ks.flatMap fun k => ledOn N 8 [k]).map TI)), x2'])
  | [], acc, x2, _, _ => ⟨x2, by simp [forL_nil]⟩
  | k :: ks, acc, x2, hk, hz => by
    have sm := w.small
    have h0 := hk k (by simp)
    have one : ∀ x ∈ [k], 0 ≤ x ∧ x < N.n := by simpa using h0
    have e1 : g_led_on [encN N, .tuple [.int k]] = some (.list ((ledOn N 8 [k]).map TI)) := by
      rw [← ledOn_fuel w 40 8 [k] (by simp) one (by simp; omega) (by simp; omega)]
      exact led_on_eval w 40 [k] (by simp) (by simp) one (by simp; omega)
    have few := ledOn_small w 8 (way := [k]) (by simp) (by simp) one
    simp only [List.length_cons] at hz
    obtain ⟨x2', e⟩ := F1_routes w ks (acc ++ ledOn N 8 [k]) (some (.d (.int k))) (fun j m => hk j (List.mem_cons_of_mem _ m)) (by simp only [List.length_append]; omega)
    refine ⟨x2', ?_⟩
    rw [List.map_cons, forL_cons]
    unfold F_routes_1 at e ⊢
    have z : szOk ((acc.map TI).length + ((ledOn N 8 [k]).map TI).length) = true := szOk_of (by simp; omega)
    simp_arith [e1, z, lisV]
    rw [← List.map_append, e, List.flatMap_cons, List.append_assoc]
theorem rim_len {N : Net} (w : N.WF) : N.rim.length ≤ 7 := by
  have := nodup_len_le N.rim (ir N.n) (nodup_of_lt (fun a => Int.lt_irrefl a) w.rimUp) fun a m => mem_ir.mpr (w.rimIn a m)
  rw [ir_len] at this
  have := w.small
  omega
theorem ledOn_ne {N : Net} {f : Nat} {way r : List Int} (m : r ∈ ledOn N f way) (h : way ≠ []) : r ≠ [] := fun e => by
  have := ledOn_pre f way r m
  rw [e] at this
  exact h (List.prefix_nil.mp this)
theorem routes_many {N : Net} (w : N.WF) : (routes N).length ≤ 13699 := by
  have h1 := rim_len w
  have h2 := flat_le (f := fun k => ledOn N 8 [k]) (c := 1957) (xs := N.rim) fun k m => ledOn_small w 8 (by simp) (by simp) (by simpa using w.rimIn k m)
  unfold routes
  rw [sortR_len]
  have : N.rim.length * 1957 ≤ 7 * 1957 := Nat.mul_le_mul_right _ h1
  omega
theorem routes_eval {N : Net} (w : N.WF) : g_routes [encN N] = some (.tuple ((routes N).map TI)) := by
  have h1 := rim_len w
  obtain ⟨x2', e⟩ := F1_routes w N.rim [] none w.rimIn (by simp; omega)
  have many := routes_many w
  unfold routes at many
  rw [sortR_len] at many
  have so : sortOk ((N.rim.flatMap fun k => ledOn N 8 [k]).map TI) = true := sortOk_TI (by omega) fun r m => by
    obtain ⟨k, _, mk⟩ := List.mem_flatMap.mp m
    exact ledOn_ne mk (by simp)
  unfold g_routes b_routes N_routes
  rw [List.map_nil] at e
  simp_arith [forM_a, e, List.nil_append, so, sortL_TI]
  rfl
end PG
namespace GT
theorem mem_routes {N : Net} (w : N.WF) {r : List Int} : r ∈ routes N ↔ IsRoute N r := by
  have sm := w.small
  unfold routes
  rw [mem_sortR, List.mem_flatMap]
  constructor
  · rintro ⟨k, mk, m⟩
    obtain ⟨h1, h2, h3, h4⟩ := (mem_ledOn w 8 [k] r (by simp) (by simp) rfl (by simpa using w.rimIn k mk) (by simp; omega)).mp m
    unfold isEnd at h4
    split at h4
    · rename_i a b ha hb
      simp only [Bool.and_eq_true, decide_eq_true_eq] at h4
      have ka : a = k := by
        obtain ⟨t, e⟩ := h1
        rw [← e] at ha; simpa using ha.symm
      exact ⟨by omega, h2, h3, a, b, ha, hb, ka ▸ mk, h4.1.2, h4.2⟩
    · cases h4
  · rintro ⟨two, nd, lk, a, b, ha, hb, ra, rb, lt⟩
    refine ⟨a, ra, (mem_ledOn w 8 [a] r (by simp) (by simp) rfl (by simpa using w.rimIn a ra) (by simp; omega)).mpr ⟨?_, nd, lk, ?_⟩⟩
    · cases r with
      | nil => simp at ha
      | cons c t => simp at ha; subst ha; exact ⟨t, rfl⟩
    · unfold isEnd
      rw [ha, hb]
      simp only [Bool.and_eq_true, decide_eq_true_eq]
      exact ⟨⟨by omega, rb⟩, lt⟩
/-- a route, as a truth -/
def isRouteB (N : Net) (r : List Int) : Bool :=
  decide (2 ≤ r.length) && r.all (fun x => decide (0 ≤ x ∧ x < N.n)) && decide (r.Nodup) && (match r.head?, r.getLast? with | some a, some b => decide (a ∈ N.rim) && decide (b ∈ N.rim) && decide (a ≤ b) | _, _ => false) && (r.dropLast.zip r.tail).all fun p => adj N p.1 p.2
theorem linked_all {N : Net} : ∀ r : List Int, ((r.dropLast.zip r.tail).all fun p => adj N p.1 p.2) = linked N r
  | [] => rfl
  | [_] => rfl
  | a :: b :: r => by
    have ih := linked_all (N := N) (b :: r)
    simp only [List.dropLast_cons_cons, List.tail_cons, List.zip_cons_cons, List.all_cons, linked] at ih ⊢
    rw [ih]
theorem isRouteB_iff {N : Net} (w : N.WF) {r : List Int} : isRouteB N r = true ↔ IsRoute N r := by
  unfold isRouteB
  rw [linked_all]
  simp only [Bool.and_eq_true, decide_eq_true_eq]
  constructor
  · rintro ⟨⟨⟨⟨two, _⟩, nd⟩, ends⟩, lk⟩
    split at ends
    · rename_i a b ha hb
      simp only [Bool.and_eq_true, decide_eq_true_eq] at ends
      refine ⟨two, nd, lk, a, b, ha, hb, ends.1.1, ends.1.2, ?_⟩
      rcases Int.lt_or_eq_of_le ends.2 with h | h
      · exact h
      · exfalso
        subst h
        match r, two, nd, ha, hb with
        | c :: d :: t, _, nd, ha, hb =>
          simp only [List.head?_cons, Option.some.injEq] at ha
          subst ha
          have : c ∈ d :: t := by
            rw [List.getLast?_cons_cons] at hb
            exact List.mem_of_getLast? hb
          exact (List.nodup_cons.mp nd).1 this
    · cases ends
  · rintro ⟨two, nd, lk, a, b, ha, hb, ra, rb, lt⟩
    rw [ha, hb]
    refine ⟨⟨⟨⟨two, ?_⟩, nd⟩, ?_⟩, lk⟩
    · rw [List.all_eq_true]
      intro x m
      exact decide_eq_true (linked_in w two lk x m)
    · simp only [Bool.and_eq_true, decide_eq_true_eq]
      exact ⟨⟨ra, rb⟩, by omega⟩
end GT
namespace PG
open PySem L2 DL GT
theorem dedup_eq {r : List Int} : (dedup r).length = r.length ↔ r.Nodup := by
  induction r with
  | nil => simp [dedup]
  | cons a r ih =>
    unfold dedup
    split
    · rename_i m
      have : (dedup r).length ≤ r.length := nodup_len_le _ _ (dedup_nodup r) fun x mx => mem_dedup.mp mx
      simp only [List.length_cons, List.nodup_cons, m, not_true, false_and, iff_false]; omega
    · rename_i m
      simp [m, ih]
theorem is_route_TI {N : Net} (w : N.WF) (r : List Int) (hr : r.length ≤ 900) : g_is_route [encN N, TI r] = some (.bool (isRouteB N r)) := by
  have sm := w.small
  have sz : szOk (r.map PyData.int).length = true := sk (by simp; omega)
  have c1 : compL (nameG 2) yesM Ce_is_route_1 [2] (r.map PyData.int) [some (.d (encN N)), some (.d (TI r)), none, none] = some (r.map fun x => .bool (wholeD (.int x) 0 ((N.n : Int) - 1)), [some (.d (encN N)), some (.d (TI r)), none, none]) :=
    compL_map PyData.int (fun x => .bool (wholeD (.int x) 0 ((N.n : Int) - 1))) r fun x _ => by
      unfold Ce_is_route_1
      simp_arith [whole_eval]
  have c2 : compL (tupG 2 (consG (nameG 2) (consG (nameG 3) nilG))) yesM Ce_is_route_2 [2, 3] ((r.dropLast.zip r.tail).map fun p => pairD (.int p.1) (.int p.2)) [some (.d (encN N)), some (.d (TI r)), none, none] = some ((r.dropLast.zip r.tail).map fun p => .bool (adj N p.1 p.2), [some (.d (encN N)), some (.d (TI r)), none, none]) :=
    compL_map (fun p : Int × Int => pairD (.int p.1) (.int p.2)) (fun p => .bool (adj N p.1 p.2)) _ fun p _ => by
      unfold Ce_is_route_2 pairD
      have mm : decide (p.2 ∈ nb N p.1) = adj N p.1 p.2 := by
        by_cases h : adj N p.1 p.2 = true
        · rw [h]; exact decide_eq_true ((mem_nb (w := w)).mpr h)
        · rw [Bool.not_eq_true] at h; rw [h]; exact decide_eq_false fun q => by rw [(mem_nb (w := w)).mp q] at h; cases h
      simp_arith [beside_eval w, mm]
  have all1 : allD (.list (r.map fun x => .bool (wholeD (.int x) 0 ((N.n : Int) - 1)))) = some (.bool (r.all fun x => decide (0 ≤ x ∧ x < N.n))) := by
    rw [allD_map]
    congr 2
    congr 1
    funext x
    simp only [wholeD]
    by_cases h1 : 0 ≤ x <;> by_cases h2 : x < N.n <;> simp [h1, h2] <;> omega
  have all2 : allD (.list ((r.dropLast.zip r.tail).map fun p => .bool (adj N p.1 p.2))) = some (.bool ((r.dropLast.zip r.tail).all fun p => adj N p.1 p.2)) := allD_map _ _
  have z2 : szOk ((r.dropLast.zip r.tail).map fun p => pairD (.int p.1) (.int p.2)).length = true := sk (by simp; omega)
  unfold g_is_route b_is_route N_is_route isRouteB
  by_cases h2 : 2 ≤ r.length
  · have d2 : decide (((r.map PyData.int).length : Int) < 2) = false := decide_eq_false (by simp; omega)
    rw [decide_eq_true h2, Bool.true_and]
    cases hA : r.all fun x => decide (0 ≤ x ∧ x < N.n) with
    | false => simp_arith [isi_tuple, d2, sz, c1, all1, hA]
    | true =>
      have ls : lenSetD (TI r) = some (.int (dedup r).length) := by
        show (intsOf (r.map .int)).bind _ = _
        rw [intsOf_map]
        simp only [Option.bind_some]
        rw [if_pos (by omega)]
      by_cases hN : r.Nodup
      · have dn : ((((dedup r).length : Nat) : Int) == ((r.map PyData.int).length : Nat)) = true := by rw [dedup_eq.mpr hN]; simp
        obtain ⟨a, ha⟩ : ∃ a, r.head? = some a := by
          cases r with
          | nil => simp at h2
          | cons a l => exact ⟨a, rfl⟩
        obtain ⟨b, last⟩ : ∃ b, r.getLast? = some b := ⟨_, List.getLast?_eq_some_getLast (by intro e; simp [e] at h2)⟩
        have e1 : ixD (TI r) (.int 0) = some (.int a) := by
          cases r with
          | nil => simp at h2
          | cons c l => cases ha; simp_arith [DL.p_nt]
        have e2 : ixD (TI r) (.int (-1)) = some (.int b) := by
          simp_arith [DL.p_nt]
          rw [List.getLast?_map, last]; rfl
        rw [decide_eq_true hN, Bool.true_and, ha, last, Bool.true_and]
        dsimp only
        by_cases h3 : a ∈ N.rim
        · by_cases h4 : b ∈ N.rim
          · by_cases h5 : b < a
            · simp_arith [isi_tuple, d2, sz, c1, all1, hA, ls, dn, e1, e2, decide_eq_true h3, decide_eq_true h4, decide_eq_true h5]
              simp [h3, h4]; omega
            · simp_arith [isi_tuple, d2, sz, c1, all1, hA, ls, dn, e1, e2, decide_eq_true h3, decide_eq_true h4, decide_eq_false h5, cut_init, cut_tail, md, mt', zipL_enc, z2, c2, all2]
              have : a ≤ b := by omega
              simp [h3, h4, this]
          · simp_arith [isi_tuple, d2, sz, c1, all1, hA, ls, dn, e1, e2, decide_eq_true h3, decide_eq_false h4]
        · simp_arith [isi_tuple, d2, sz, c1, all1, hA, ls, dn, e1, e2, decide_eq_false h3]
      · have dn : ((((dedup r).length : Nat) : Int) == ((r.map PyData.int).length : Nat)) = false := by
          rw [beq_eq_false_iff_ne]
          intro q
          rw [List.length_map] at q
          exact hN (dedup_eq.mp (by omega))
        rw [decide_eq_false hN]
        simp_arith [isi_tuple, d2, sz, c1, all1, hA, ls, dn]
  · have d2 : decide (((r.map PyData.int).length : Int) < 2) = true := decide_eq_true (by simp; omega)
    rw [decide_eq_false h2]
    simp_arith [isi_tuple, d2]
end PG
namespace DL
open PySem L2 GT
/-! dicts with ints as keys -/
def dI (ks : List Int) : List (DK × D) := ks.map fun i => (.inl (.inl i), .bool true)
theorem dI_len (ks : List Int) : (dI ks).length = ks.length := by simp [dI]
theorem dI_put (ks : List Int) (i : Int) : putG (dI ks) (.inl (.inl i)) (.bool true) = dI (if i ∈ ks then ks else ks ++ [i]) := by
  have there : (Sum.inl (Sum.inl i) : DK) ∈ (dI ks).map Prod.fst ↔ i ∈ ks := by
    simp [dI]
  unfold putG
  by_cases h : i ∈ ks
  · rw [if_pos (there.mpr h), if_pos h]
    simp [dI, Function.comp_def]
  · rw [if_neg fun q => h (there.mp q), if_neg h]
    simp [dI]
theorem dI_get (ks : List Int) (i : Int) : (getG (dI ks) (.inl (.inl i))).isSome = decide (i ∈ ks) := by
  unfold getG dI
  rw [Option.isSome_map, Bool.eq_iff_iff, List.find?_isSome, decide_eq_true_iff]
  constructor
  · rintro ⟨kv, m, e⟩
    obtain ⟨j, mj, rfl⟩ := List.mem_map.mp m
    have : j = i := by simpa using e
    exact this ▸ mj
  · exact fun h => ⟨_, List.mem_map.mpr ⟨i, h, rfl⟩, by simp⟩
theorem dI_keys : ∀ ks : List Int, intKeys (dI ks) = some ks
  | [] => rfl
  | k :: ks => by
    have := dI_keys ks
    unfold dI at this ⊢
    rw [List.map_cons, intKeys, this]; rfl
theorem inDM_a (neg : Bool) (i : Nat) (f : EM) (r : Rho) : inDM neg i f r = (f r).bind fun p => (gt p.2 i).bind fun s => s.dic.bind fun x => (dkOf x.2.1 p.1).map fun k => ((getG x.2.2 k).isSome != neg, p.2) := by
  unfold inDM gt
  congr 1; funext p
  cases p.2[i]? with
  | none => rfl
  | some o => cases o with
    | none => rfl
    | some s => cases s <;> rfl
theorem dkOf_i (i : Int) : dkOf false (.int i) = some (.inl (.inl i)) := (rfl)
theorem sortIM_a (i : Nat) (r : Rho) : sortIM i r = (gt r i).bind fun s => s.dic.bind fun x => guard' (!x.2.1) fun _ => (intKeys x.2.2).bind fun ks => guard' (decide (ks.length < 64)) fun _ => some (.list ((sortI ks).map .int), r) := by
  unfold sortIM gt
  cases r[i]? with
  | none => rfl
  | some o => cases o with
    | none => rfl
    | some s => cases s with
      | m b t xs =>
        cases t with
        | true => rfl
        | false =>
          simp only [ob_some, id, SV.dic]
          show _ = (intKeys xs).bind _
          cases intKeys xs with
          | none => rfl
          | some ks =>
            simp only [ob_some]
            by_cases h : ks.length < 64 <;> simp [h, guard', sortI]
      | _ => rfl
theorem newDispM_a (i : Nat) (fk fv : EM) (r : Rho) : newDispM i fk fv r = (fk r).bind fun p => (fv p.2).bind fun q => (keyOf p.1).map fun k => .nx (q.2.set i (some (.m false false [(.inl k, q.1)]))) := (rfl)
theorem keyOf_i (i : Int) : keyOf (.int i) = some (.inl i) := (rfl)
end DL
local macro_rules | `(tactic| simp_arith [$xs,*]) => `(tactic| simp only [DL.ob_some, DL.om_some, DL.dat_d, DL.lis_l, DL.dic_m, DL.gt_0, DL.gt_1, DL.gt_2, DL.gt_3, DL.gt_4, DL.gt_5, DL.gt_6, DL.gt_7, DL.gt_b, DL.st_0, DL.st_s, DL.plG_d, DL.plG_n, DL.plainAt_a, DL.varM_a, DL.ownM_a, DL.cM_a, DL.ofL_a, DL.opM_a, DL.opOwnM_a, DL.unM_a, DL.truM_a, DL.tstM_a, DL.notM_a, DL.cnd_t, DL.cnd_f, DL.andM_a, DL.orM_a, DL.andVM_a, DL.orVM_a, DL.notVM_a, DL.iteM_a, DL.chM_a, DL.nilM_a, DL.consM_a, DL.guard_tt, DL.tupM_a, DL.lstM_a, DL.noM_a, DL.intV_i, DL.someM_a, DL.slM_a, DL.rng1M_a, DL.rng2M_a, DL.zipV_t, DL.zipV_l, DL.zipM_a, DL.seqM_a, DL.callM_a, DL.hereM_a, DL.callRM_a, DL.appM_a, DL.lisV_l, DL.extM_a, DL.popM_a, DL.popAtM_a, DL.newDM_a, DL.putM_a, DL.lenDM_a, DL.sortDM_a, DL.nameG_a, DL.nilG_a, DL.consG_a, DL.tupG_a, DL.seqS_a, DL.seqK_nx, DL.seqK_rt, DL.seqK_ct, DL.skipM_a, DL.asgM_a, DL.asgG_a, DL.newM_a, DL.asgLM_a, DL.retM_a, DL.exprM_a, DL.ifM_a, DL.forM_a, DL.frzM_a, DL.runF_a, DL.finF_rt, DL.finF_nx, DL.runR_a, DL.finR_rt, DL.finR_nx, DL.sz_0, DL.sz_1, DL.sz_2, DL.sz_3, DL.sz_4, DL.sz_5, DL.sz_6, DL.sz_7, DL.sz_8, DL.sz_9, DL.sz_10, DL.sz_11, DL.sz_12, DL.sz_13, DL.sz_14, DL.sz_15, DL.sz_16, DL.sz_17, DL.sz_18, DL.sz_19, DL.sz_20, DL.sz_21, DL.sz_22, DL.sz_23, DL.sz_24, DL.sz_25, DL.sz_26, DL.sz_27, DL.sz_28, DL.sz_29, DL.sz_30, DL.nc_0, DL.nc_1, DL.nc_2, DL.nc_3, DL.nc_4, DL.nc_5, DL.nc_6, DL.nc_7, DL.nc_8, DL.nc_9, DL.nc_10, DL.nc_11, DL.nc_12, DL.nc_13, DL.nc_14, DL.nc_15, DL.nc_16, DL.nc_17, DL.nc_18, DL.nc_19, DL.nc_20, DL.nc_21, DL.nc_22, DL.nc_23, DL.nc_24, DL.nc_25, DL.nc_26, DL.nc_27, DL.nc_28, DL.nc_29, DL.nc_30, DL.addD_i, DL.addD_t, DL.addD_l, DL.subD_i, DL.modD_i, DL.fdivD_i, DL.mulD_i, DL.lenD_t, DL.lenD_l, DL.tupleD_t, DL.tupleD_l, DL.truD_i, DL.truD_b, DL.truD_n, DL.truD_l, DL.truD_t, DL.ixD_t, DL.ixD_l, DL.negD_i, DL.bD_a, DL.ltB_i, DL.leB_i, DL.eqB_i, DL.neB_i, DL.min2D_i, DL.max2D_i, DL.items_t, DL.items_l, DL.intD_b, DL.isNN, DL.slD_t, DL.slD_l, DL.sortD2_l, DL.sortD2_t, DL.p_ge0, DL.p_geS, DL.p_tk0, DL.p_tkS, DL.p_tkN, DL.p_dr0, DL.p_drS, DL.p_drN, DL.p_mpC, DL.p_mpN, DL.p_apC, DL.p_apN, DL.p_lnC, DL.p_lnN, DL.p_rpS, DL.p_rp0, DL.p_alC, DL.p_alN, DL.p_gdS, DL.p_gdN, DL.p_tlS, DL.p_tlN, DL.p_ieC, DL.p_ieN, DL.p_nt, DL.p_nf, DL.p_atb, DL.p_afb, DL.p_abt, DL.p_abf, DL.p_eqS, DL.p_dT, DL.p_dF, DL.p_TA, DL.p_AT, DL.p_TO, DL.p_OT, DL.p_startD, DL.p_startR, DL.forK_nx, DL.forK_ct, DL.forK_rt, DL.yesM_a, DL.it1_a, DL.compM_a, DL.wipeR_c, DL.wipeR_n, DL.restR_c, DL.restR_n, DL.gtD_i, DL.gtD_T, DL.ob_assoc, DL.om_bind, DL.ob_map, DL.om_map, DL.cnd_bind, DL.cnd_map, DL.guard_bind, DL.guard_map, DL.atI_c0, DL.atI_c1, DL.atI_c2, DL.atI_c3, DL.encN_0, DL.encN_1, DL.encN_2, DL.encN_u, DL.eq_TI, DL.ne_TI, DL.in_I, DL.in_Il, DL.in_T, DL.in_R, DL.notInB_a, DL.enumM_a, DL.exM_a, DL.seqK_ex, DL.finF_ex, DL.forK_ex, DL.tri_no, DL.trm_no, DL.atI_neg1, PG.Sq_failing_1_a, PG.Sq_failing_2_a, PG.Sq_twins_1_a, PG.Sq_twins_2_a, PG.Sq_suspects_1_a, PG.Sq_suspects_2_a, PG.Sq_the_one_1_a, PG.Sq_cases_1_a, PG.Sq_split_1_a, PG.Sq_shortest_1_a, PG.Sq_shortest_2_a, PG.Sq_written_1_a, PG.Sq_tie_in_1_a, PG.Sq_read_1_a, PG.Sq_read_2_a, PG.Sq_read_3_a, PG.Sq_read_4_a, DL.inDM_a, DL.dkOf_i, DL.sortIM_a, DL.newDispM_a, DL.keyOf_i, Nat.reduceAdd, Nat.reduceSub, Nat.reduceMul, Int.reduceLT, Int.reduceLE, Int.reducePow, Int.reduceNeg, Int.reduceAdd, Int.reduceSub, Int.reduceMul, Int.reduceBEq, Int.reduceBNe, Int.reduceToNat, $xs,*])
open PySem L2 GT
namespace PG
open PySem L2 DL GT
theorem route_lk {N : Net} (w : N.WF) {r : List Int} (m : r ∈ routes N) : linked N r = true ∧ r.length ≤ 7 := by
  have h := (mem_routes w).mp m
  have := nodup_len_le r (ir N.n) h.nd fun x mx => mem_ir.mpr (linked_in w h.two h.lk x mx)
  rw [ir_len] at this
  have := w.small
  exact ⟨h.lk, by omega⟩
theorem ties_of_route {N : Net} (w : N.WF) {r : List Int} (m : r ∈ routes N) : g_ties_of [encN N, TI r] = some (TI (tiesOf N r)) :=
  ties_of_eval (route_lk w m).1 (by have := (route_lk w m).2; omega)
end PG
namespace GT
/-- nothing together -/
def disj (a b : List Int) : Bool := !(b.any fun x => decide (x ∈ a))
/-- a choice of rows, no two with something together -/
abbrev Apart (s : List (List Int)) : Prop := s.Pairwise fun a b => disj a b = true
end GT
namespace PG
open PySem L2 DL GT
def between (N : Net) (a b : Int) : List (List Int) := (routes N).filter fun r => decide (r.head? = some (min a b) ∧ r.getLast? = some (max a b))
end PG
local macro_rules | `(tactic| simp_arith [$xs,*]) => `(tactic| simp only [PG.Sq_failing_1_a, PG.Sq_failing_2_a, PG.Sq_twins_1_a, PG.Sq_twins_2_a, PG.Sq_suspects_1_a, PG.Sq_suspects_2_a, PG.Sq_the_one_1_a, PG.Sq_cases_1_a, PG.Sq_split_1_a, PG.Sq_shortest_1_a, PG.Sq_shortest_2_a, PG.Sq_written_1_a, PG.Sq_tie_in_1_a, PG.Sq_read_1_a, PG.Sq_read_2_a, PG.Sq_read_3_a, PG.Sq_read_4_a, Nat.reduceAdd, Nat.reduceSub, Nat.reduceMul, Int.reduceLT, Int.reduceLE, Int.reducePow, Int.reduceNeg, Int.reduceAdd, Int.reduceSub, Int.reduceMul, Int.reduceBEq, Int.reduceBNe, Int.reduceToNat, $xs,*])
namespace FA
open PySem L2 DL PG
def N__law_draw : List Str := ["_law_script", "_law_town", "_law_many", "_law_k", "_law_cell", "_law_number"]
def b__law_draw : SM :=
    (seqS (exprM (appM 1 (cM (PyData.int 0))))
    (seqS (asgM 3 (unM lenD (ownM 1)))
    (seqS (asgM 4 (cM (PyData.int 0)))
    (seqS (ifM (truM (varM 0)) (asgM 4 (opM ixD (varM 0) (opM modD (varM 3) (unM lenD (varM 0))))) skipM)
    (seqS (asgM 5 (opM modD (opM addD (varM 4) (opM mulD (cM (PyData.int 104729)) (varM 3))) (cM (PyData.int 4294967291))))
    (seqS (asgM 5 (opM modD (opM mulD (opM modD (opM mulD (varM 5) (varM 5)) (cM (PyData.int 4294967279))) (cM (PyData.int 48271))) (cM (PyData.int 4294967291))))
    (retM (opM modD (opM fdivD (varM 5) (cM (PyData.int 64))) (varM 2)))))))))
def g__law_draw : List D → List D → Option (D × List D) := runR N__law_draw 1 b__law_draw
def N__law_pick : List Str := ["_law_script", "_law_town", "_law_some"]
def b__law_pick : SM :=
    (retM (opM ixD (varM 2) (callRM 1 g__law_draw (consM (varM 0) (hereM 1 (consM (unM lenD (varM 2)) nilM))))))
def g__law_pick : List D → List D → Option (D × List D) := runR N__law_pick 1 b__law_pick
def N__law_net : List Str := ["_law_script", "_law_town", "_law_high", "_law_wide", "_law_many", "_law_every", "_law_one", "_law_ties_here", "_law_k", "_law_rim", "_law_knot", "_law_other"]
def Ce__law_net_1 : EM :=
    (tupM (consM (varM 6) (consM (varM 11) nilM)))
def F__law_net_1 : SM :=
    (asgM 5 (opM addD (varM 5) (ofL (compM [11] (rng2M (opM addD (varM 6) (cM (PyData.int 1))) (varM 4)) (nameG 11) yesM Ce__law_net_1))))
def F__law_net_2 : SM :=
    (seqS (asgM 11 (callRM 1 g__law_draw (consM (varM 0) (hereM 1 (consM (varM 10) nilM)))))
    (putM 7 (tupM (consM (varM 11) (consM (varM 10) nilM))) (cM (PyData.int 0))))
def F__law_net_3 : SM :=
    (ifM (andM (truM (varM 5)) (tstM ltB (lenDM 7) (varM 3))) (putM 7 (callRM 1 g__law_pick (consM (varM 0) (hereM 1 (consM (varM 5) nilM)))) (cM (PyData.int 0))) skipM)
def Ct__law_net_1 : TM :=
    (tstM eqB (callRM 1 g__law_draw (consM (varM 0) (hereM 1 (consM (cM (PyData.int 2)) nilM)))) (cM (PyData.int 0)))
def Ce__law_net_2 : EM :=
    (varM 10)
def b__law_net : SM :=
    (seqS (asgM 4 (opM addD (cM (PyData.int 1)) (callRM 1 g__law_draw (consM (varM 0) (hereM 1 (consM (varM 2) nilM))))))
    (seqS (asgM 5 (ofL (lstM nilM)))
    (seqS (forM (rng1M (varM 4)) (nameG 6) F__law_net_1)
    (seqS (newDM 7 true)
    (seqS (ifM (tstM gtD (callRM 1 g__law_draw (consM (varM 0) (hereM 1 (consM (cM (PyData.int 3)) nilM)))) (cM (PyData.int 0))) (forM (rng2M (cM (PyData.int 1)) (varM 4)) (nameG 10) F__law_net_2) skipM)
    (seqS (forM (rng1M (callRM 1 g__law_draw (consM (varM 0) (hereM 1 (consM (opM addD (varM 3) (cM (PyData.int 1))) nilM))))) (nameG 8) F__law_net_3)
    (seqS (asgLM 9 (compM [10] (rng1M (varM 4)) (nameG 10) Ct__law_net_1 Ce__law_net_2))
    (seqS (ifM (notM (truM (varM 9))) (asgM 9 (ofL (lstM (consM (callRM 1 g__law_draw (consM (varM 0) (hereM 1 (consM (varM 4) nilM)))) nilM)))) skipM)
    (retM (tupM (consM (varM 4) (consM (slM (unM tupleD (sortDM 7)) noM (someM (varM 3))) (consM (unM tupleD (varM 9)) nilM)))))))))))))
def g__law_net : List D → List D → Option (D × List D) := runR N__law_net 1 b__law_net
end FA
local macro_rules | `(tactic| simp_arith [$xs,*]) => `(tactic| simp only [DL.ob_some, DL.om_some, DL.dat_d, DL.lis_l, DL.dic_m, DL.gt_0, DL.gt_1, DL.gt_2, DL.gt_3, DL.gt_4, DL.gt_5, DL.gt_6, DL.gt_7, DL.gt_b, DL.st_0, DL.st_s, DL.plG_d, DL.plG_n, DL.plainAt_a, DL.varM_a, DL.ownM_a, DL.cM_a, DL.ofL_a, DL.opM_a, DL.opOwnM_a, DL.unM_a, DL.truM_a, DL.tstM_a, DL.notM_a, DL.cnd_t, DL.cnd_f, DL.andM_a, DL.orM_a, DL.andVM_a, DL.orVM_a, DL.notVM_a, DL.iteM_a, DL.chM_a, DL.nilM_a, DL.consM_a, DL.guard_tt, DL.tupM_a, DL.lstM_a, DL.noM_a, DL.intV_i, DL.someM_a, DL.slM_a, DL.rng1M_a, DL.rng2M_a, DL.zipV_t, DL.zipV_l, DL.zipM_a, DL.seqM_a, DL.callM_a, DL.hereM_a, DL.callRM_a, DL.appM_a, DL.lisV_l, DL.extM_a, DL.popM_a, DL.popAtM_a, DL.newDM_a, DL.putM_a, DL.lenDM_a, DL.sortDM_a, DL.nameG_a, DL.nilG_a, DL.consG_a, DL.tupG_a, DL.seqS_a, DL.seqK_nx, DL.seqK_rt, DL.seqK_ct, DL.skipM_a, DL.asgM_a, DL.asgG_a, DL.newM_a, DL.asgLM_a, DL.retM_a, DL.exprM_a, DL.ifM_a, DL.forM_a, DL.frzM_a, DL.runF_a, DL.finF_rt, DL.finF_nx, DL.runR_a, DL.finR_rt, DL.finR_nx, DL.sz_0, DL.sz_1, DL.sz_2, DL.sz_3, DL.sz_4, DL.sz_5, DL.sz_6, DL.sz_7, DL.sz_8, DL.sz_9, DL.sz_10, DL.sz_11, DL.sz_12, DL.sz_13, DL.sz_14, DL.sz_15, DL.sz_16, DL.sz_17, DL.sz_18, DL.sz_19, DL.sz_20, DL.sz_21, DL.sz_22, DL.sz_23, DL.sz_24, DL.sz_25, DL.sz_26, DL.sz_27, DL.sz_28, DL.sz_29, DL.sz_30, DL.nc_0, DL.nc_1, DL.nc_2, DL.nc_3, DL.nc_4, DL.nc_5, DL.nc_6, DL.nc_7, DL.nc_8, DL.nc_9, DL.nc_10, DL.nc_11, DL.nc_12, DL.nc_13, DL.nc_14, DL.nc_15, DL.nc_16, DL.nc_17, DL.nc_18, DL.nc_19, DL.nc_20, DL.nc_21, DL.nc_22, DL.nc_23, DL.nc_24, DL.nc_25, DL.nc_26, DL.nc_27, DL.nc_28, DL.nc_29, DL.nc_30, DL.addD_i, DL.addD_t, DL.addD_l, DL.subD_i, DL.modD_i, DL.fdivD_i, DL.mulD_i, DL.lenD_t, DL.lenD_l, DL.tupleD_t, DL.tupleD_l, DL.truD_i, DL.truD_b, DL.truD_n, DL.truD_l, DL.truD_t, DL.ixD_t, DL.ixD_l, DL.negD_i, DL.bD_a, DL.ltB_i, DL.leB_i, DL.eqB_i, DL.neB_i, DL.min2D_i, DL.max2D_i, DL.items_t, DL.items_l, DL.intD_b, DL.isNN, DL.slD_t, DL.slD_l, DL.sortD2_l, DL.sortD2_t, DL.p_ge0, DL.p_geS, DL.p_tk0, DL.p_tkS, DL.p_tkN, DL.p_dr0, DL.p_drS, DL.p_drN, DL.p_mpC, DL.p_mpN, DL.p_apC, DL.p_apN, DL.p_lnC, DL.p_lnN, DL.p_rpS, DL.p_rp0, DL.p_alC, DL.p_alN, DL.p_gdS, DL.p_gdN, DL.p_tlS, DL.p_tlN, DL.p_ieC, DL.p_ieN, DL.p_nt, DL.p_nf, DL.p_atb, DL.p_afb, DL.p_abt, DL.p_abf, DL.p_eqS, DL.p_dT, DL.p_dF, DL.p_TA, DL.p_AT, DL.p_TO, DL.p_OT, DL.p_startD, DL.p_startR, DL.forK_nx, DL.forK_ct, DL.forK_rt, DL.yesM_a, DL.it1_a, DL.compM_a, DL.wipeR_c, DL.wipeR_n, DL.restR_c, DL.restR_n, DL.gtD_i, DL.gtD_T, DL.ob_assoc, DL.om_bind, DL.ob_map, DL.om_map, DL.cnd_bind, DL.cnd_map, DL.guard_bind, DL.guard_map, DL.atI_c0, DL.atI_c1, DL.atI_c2, DL.atI_c3, DL.encN_0, DL.encN_1, DL.encN_2, DL.encN_u, PG.Sq_failing_1_a, PG.Sq_failing_2_a, PG.Sq_twins_1_a, PG.Sq_twins_2_a, PG.Sq_suspects_1_a, PG.Sq_suspects_2_a, PG.Sq_the_one_1_a, PG.Sq_cases_1_a, PG.Sq_split_1_a, PG.Sq_shortest_1_a, PG.Sq_shortest_2_a, PG.Sq_written_1_a, PG.Sq_tie_in_1_a, PG.Sq_read_1_a, PG.Sq_read_2_a, PG.Sq_read_3_a, PG.Sq_read_4_a, Nat.reduceAdd, Nat.reduceSub, Nat.reduceMul, Int.reduceLT, Int.reduceLE, Int.reducePow, Int.reduceNeg, Int.reduceAdd, Int.reduceSub, Int.reduceMul, Int.reduceBEq, Int.reduceBNe, Int.reduceToNat, $xs,*])
local macro_rules | `(tactic| simp_arith [$xs,*]) => `(tactic| simp only [DL.ob_some, DL.om_some, DL.dat_d, DL.lis_l, DL.dic_m, DL.gt_0, DL.gt_1, DL.gt_2, DL.gt_3, DL.gt_4, DL.gt_5, DL.gt_6, DL.gt_7, DL.gt_b, DL.st_0, DL.st_s, DL.plG_d, DL.plG_n, DL.plainAt_a, DL.varM_a, DL.ownM_a, DL.cM_a, DL.ofL_a, DL.opM_a, DL.opOwnM_a, DL.unM_a, DL.truM_a, DL.tstM_a, DL.notM_a, DL.cnd_t, DL.cnd_f, DL.andM_a, DL.orM_a, DL.andVM_a, DL.orVM_a, DL.notVM_a, DL.iteM_a, DL.chM_a, DL.nilM_a, DL.consM_a, DL.guard_tt, DL.tupM_a, DL.lstM_a, DL.noM_a, DL.intV_i, DL.someM_a, DL.slM_a, DL.rng1M_a, DL.rng2M_a, DL.zipV_t, DL.zipV_l, DL.zipM_a, DL.seqM_a, DL.callM_a, DL.hereM_a, DL.callRM_a, DL.appM_a, DL.lisV_l, DL.extM_a, DL.popM_a, DL.popAtM_a, DL.newDM_a, DL.putM_a, DL.lenDM_a, DL.sortDM_a, DL.nameG_a, DL.nilG_a, DL.consG_a, DL.tupG_a, DL.seqS_a, DL.seqK_nx, DL.seqK_rt, DL.seqK_ct, DL.skipM_a, DL.asgM_a, DL.asgG_a, DL.newM_a, DL.asgLM_a, DL.retM_a, DL.exprM_a, DL.ifM_a, DL.forM_a, DL.frzM_a, DL.runF_a, DL.finF_rt, DL.finF_nx, DL.runR_a, DL.finR_rt, DL.finR_nx, DL.sz_0, DL.sz_1, DL.sz_2, DL.sz_3, DL.sz_4, DL.sz_5, DL.sz_6, DL.sz_7, DL.sz_8, DL.sz_9, DL.sz_10, DL.sz_11, DL.sz_12, DL.sz_13, DL.sz_14, DL.sz_15, DL.sz_16, DL.sz_17, DL.sz_18, DL.sz_19, DL.sz_20, DL.sz_21, DL.sz_22, DL.sz_23, DL.sz_24, DL.sz_25, DL.sz_26, DL.sz_27, DL.sz_28, DL.sz_29, DL.sz_30, DL.nc_0, DL.nc_1, DL.nc_2, DL.nc_3, DL.nc_4, DL.nc_5, DL.nc_6, DL.nc_7, DL.nc_8, DL.nc_9, DL.nc_10, DL.nc_11, DL.nc_12, DL.nc_13, DL.nc_14, DL.nc_15, DL.nc_16, DL.nc_17, DL.nc_18, DL.nc_19, DL.nc_20, DL.nc_21, DL.nc_22, DL.nc_23, DL.nc_24, DL.nc_25, DL.nc_26, DL.nc_27, DL.nc_28, DL.nc_29, DL.nc_30, DL.addD_i, DL.addD_t, DL.addD_l, DL.subD_i, DL.modD_i, DL.fdivD_i, DL.mulD_i, DL.lenD_t, DL.lenD_l, DL.tupleD_t, DL.tupleD_l, DL.truD_i, DL.truD_b, DL.truD_n, DL.truD_l, DL.truD_t, DL.ixD_t, DL.ixD_l, DL.negD_i, DL.bD_a, DL.ltB_i, DL.leB_i, DL.eqB_i, DL.neB_i, DL.min2D_i, DL.max2D_i, DL.items_t, DL.items_l, DL.intD_b, DL.isNN, DL.slD_t, DL.slD_l, DL.sortD2_l, DL.sortD2_t, DL.p_ge0, DL.p_geS, DL.p_tk0, DL.p_tkS, DL.p_tkN, DL.p_dr0, DL.p_drS, DL.p_drN, DL.p_mpC, DL.p_mpN, DL.p_apC, DL.p_apN, DL.p_lnC, DL.p_lnN, DL.p_rpS, DL.p_rp0, DL.p_alC, DL.p_alN, DL.p_gdS, DL.p_gdN, DL.p_tlS, DL.p_tlN, DL.p_ieC, DL.p_ieN, DL.p_nt, DL.p_nf, DL.p_atb, DL.p_afb, DL.p_abt, DL.p_abf, DL.p_eqS, DL.p_dT, DL.p_dF, DL.p_TA, DL.p_AT, DL.p_TO, DL.p_OT, DL.p_startD, DL.p_startR, DL.forK_nx, DL.forK_ct, DL.forK_rt, DL.yesM_a, DL.it1_a, DL.compM_a, DL.wipeR_c, DL.wipeR_n, DL.restR_c, DL.restR_n, DL.gtD_i, DL.gtD_T, DL.ob_assoc, DL.om_bind, DL.ob_map, DL.om_map, DL.cnd_bind, DL.cnd_map, DL.guard_bind, DL.guard_map, DL.atI_c0, DL.atI_c1, DL.atI_c2, DL.atI_c3, DL.encN_0, DL.encN_1, DL.encN_2, DL.encN_u, PG.Sq_failing_1_a, PG.Sq_failing_2_a, PG.Sq_twins_1_a, PG.Sq_twins_2_a, PG.Sq_suspects_1_a, PG.Sq_suspects_2_a, PG.Sq_the_one_1_a, PG.Sq_cases_1_a, PG.Sq_split_1_a, PG.Sq_shortest_1_a, PG.Sq_shortest_2_a, PG.Sq_written_1_a, PG.Sq_tie_in_1_a, PG.Sq_read_1_a, PG.Sq_read_2_a, PG.Sq_read_3_a, PG.Sq_read_4_a, DL.eq_TI, DL.ne_TI, DL.in_I, DL.in_Il, DL.in_T, DL.in_R, DL.notInB_a, DL.enumM_a, DL.exM_a, DL.seqK_ex, DL.finF_ex, DL.forK_ex, DL.tri_no, DL.trm_no, DL.atI_neg1, Nat.reduceAdd, Nat.reduceSub, Nat.reduceMul, Int.reduceLT, Int.reduceLE, Int.reducePow, Int.reduceNeg, Int.reduceAdd, Int.reduceSub, Int.reduceMul, Int.reduceBEq, Int.reduceBNe, Int.reduceToNat, $xs,*])
namespace DL
open PySem L2 GT
end DL
namespace DL
open PySem L2 GT
end DL
namespace GT
/-- a way longer by a tie that leads on -/
def leads (row : List Int) (b : Int) (t : Tie) : Bool := decide (b ∈ [t.1, t.2]) && (decide (t.1 ∉ row) || decide (t.2 ∉ row))
def ext (N : Net) (row : List Int) : List (List Int) := (N.ties.filter (leads row (row.getLast?.getD 0))).map fun t => row ++ [t.1 + t.2 - row.getLast?.getD 0]
end GT
namespace DL
open PySem L2 GT
def whileK (t : TM) (f : SM) (n : Nat) : Out → Option Out
  | .nx r => whileL t f n r
  | .ct r => whileL t f n r
  | .bk r => some (.nx r)
  | o => some o
theorem whileL_s (t : TM) (f : SM) (n : Nat) (r : Rho) : whileL t f (n + 1) r = (t r).bind fun p => cnd p.1 (fun _ => (f p.2).bind (whileK t f n)) (fun _ => some (.nx p.2)) := by
  rw [whileL]
  cases t r with
  | none => rfl
  | some p =>
    obtain ⟨b, r1⟩ := p
    cases b with
    | false => rfl
    | true =>
      simp only [ob_some, cnd_t, if_true]
      cases f r1 with
      | none => rfl
      | some o => cases o <;> rfl
theorem whileK_nx (t : TM) (f : SM) (n : Nat) (r : Rho) : whileK t f n (.nx r) = whileL t f n r := (rfl)
end DL
local macro_rules | `(tactic| simp_arith [$xs,*]) => `(tactic| simp only [DL.ob_some, DL.om_some, DL.dat_d, DL.lis_l, DL.dic_m, DL.gt_0, DL.gt_1, DL.gt_2, DL.gt_3, DL.gt_4, DL.gt_5, DL.gt_6, DL.gt_7, DL.gt_b, DL.st_0, DL.st_s, DL.plG_d, DL.plG_n, DL.plainAt_a, DL.varM_a, DL.ownM_a, DL.cM_a, DL.ofL_a, DL.opM_a, DL.opOwnM_a, DL.unM_a, DL.truM_a, DL.tstM_a, DL.notM_a, DL.cnd_t, DL.cnd_f, DL.andM_a, DL.orM_a, DL.andVM_a, DL.orVM_a, DL.notVM_a, DL.iteM_a, DL.chM_a, DL.nilM_a, DL.consM_a, DL.guard_tt, DL.tupM_a, DL.lstM_a, DL.noM_a, DL.intV_i, DL.someM_a, DL.slM_a, DL.rng1M_a, DL.rng2M_a, DL.zipV_t, DL.zipV_l, DL.zipM_a, DL.seqM_a, DL.callM_a, DL.hereM_a, DL.callRM_a, DL.appM_a, DL.lisV_l, DL.extM_a, DL.popM_a, DL.popAtM_a, DL.newDM_a, DL.putM_a, DL.lenDM_a, DL.sortDM_a, DL.nameG_a, DL.nilG_a, DL.consG_a, DL.tupG_a, DL.seqS_a, DL.seqK_nx, DL.seqK_rt, DL.seqK_ct, DL.skipM_a, DL.asgM_a, DL.asgG_a, DL.newM_a, DL.asgLM_a, DL.retM_a, DL.exprM_a, DL.ifM_a, DL.forM_a, DL.frzM_a, DL.runF_a, DL.finF_rt, DL.finF_nx, DL.runR_a, DL.finR_rt, DL.finR_nx, DL.sz_0, DL.sz_1, DL.sz_2, DL.sz_3, DL.sz_4, DL.sz_5, DL.sz_6, DL.sz_7, DL.sz_8, DL.sz_9, DL.sz_10, DL.sz_11, DL.sz_12, DL.sz_13, DL.sz_14, DL.sz_15, DL.sz_16, DL.sz_17, DL.sz_18, DL.sz_19, DL.sz_20, DL.sz_21, DL.sz_22, DL.sz_23, DL.sz_24, DL.sz_25, DL.sz_26, DL.sz_27, DL.sz_28, DL.sz_29, DL.sz_30, DL.nc_0, DL.nc_1, DL.nc_2, DL.nc_3, DL.nc_4, DL.nc_5, DL.nc_6, DL.nc_7, DL.nc_8, DL.nc_9, DL.nc_10, DL.nc_11, DL.nc_12, DL.nc_13, DL.nc_14, DL.nc_15, DL.nc_16, DL.nc_17, DL.nc_18, DL.nc_19, DL.nc_20, DL.nc_21, DL.nc_22, DL.nc_23, DL.nc_24, DL.nc_25, DL.nc_26, DL.nc_27, DL.nc_28, DL.nc_29, DL.nc_30, DL.addD_i, DL.addD_t, DL.addD_l, DL.subD_i, DL.modD_i, DL.fdivD_i, DL.mulD_i, DL.lenD_t, DL.lenD_l, DL.tupleD_t, DL.tupleD_l, DL.truD_i, DL.truD_b, DL.truD_n, DL.truD_l, DL.truD_t, DL.ixD_t, DL.ixD_l, DL.negD_i, DL.bD_a, DL.ltB_i, DL.leB_i, DL.eqB_i, DL.neB_i, DL.min2D_i, DL.max2D_i, DL.items_t, DL.items_l, DL.intD_b, DL.isNN, DL.slD_t, DL.slD_l, DL.sortD2_l, DL.sortD2_t, DL.p_ge0, DL.p_geS, DL.p_tk0, DL.p_tkS, DL.p_tkN, DL.p_dr0, DL.p_drS, DL.p_drN, DL.p_mpC, DL.p_mpN, DL.p_apC, DL.p_apN, DL.p_lnC, DL.p_lnN, DL.p_rpS, DL.p_rp0, DL.p_alC, DL.p_alN, DL.p_gdS, DL.p_gdN, DL.p_tlS, DL.p_tlN, DL.p_ieC, DL.p_ieN, DL.p_nt, DL.p_nf, DL.p_atb, DL.p_afb, DL.p_abt, DL.p_abf, DL.p_eqS, DL.p_dT, DL.p_dF, DL.p_TA, DL.p_AT, DL.p_TO, DL.p_OT, DL.p_startD, DL.p_startR, DL.forK_nx, DL.forK_ct, DL.forK_rt, DL.yesM_a, DL.it1_a, DL.compM_a, DL.wipeR_c, DL.wipeR_n, DL.restR_c, DL.restR_n, DL.gtD_i, DL.gtD_T, DL.ob_assoc, DL.om_bind, DL.ob_map, DL.om_map, DL.cnd_bind, DL.cnd_map, DL.guard_bind, DL.guard_map, DL.atI_c0, DL.atI_c1, DL.atI_c2, DL.atI_c3, DL.encN_0, DL.encN_1, DL.encN_2, DL.encN_u, DL.eq_TI, DL.ne_TI, DL.in_I, DL.in_Il, DL.in_T, DL.in_R, DL.notInB_a, DL.enumM_a, DL.exM_a, DL.seqK_ex, DL.finF_ex, DL.forK_ex, DL.tri_no, DL.trm_no, DL.atI_neg1, PG.Sq_failing_1_a, PG.Sq_failing_2_a, PG.Sq_twins_1_a, PG.Sq_twins_2_a, PG.Sq_suspects_1_a, PG.Sq_suspects_2_a, PG.Sq_the_one_1_a, PG.Sq_cases_1_a, PG.Sq_split_1_a, PG.Sq_shortest_1_a, PG.Sq_shortest_2_a, PG.Sq_written_1_a, PG.Sq_tie_in_1_a, PG.Sq_read_1_a, PG.Sq_read_2_a, PG.Sq_read_3_a, PG.Sq_read_4_a, DL.inDM_a, DL.dkOf_i, DL.sortIM_a, DL.newDispM_a, DL.keyOf_i, DL.whileK_nx, Nat.reduceAdd, Nat.reduceSub, Nat.reduceMul, Int.reduceLT, Int.reduceLE, Int.reducePow, Int.reduceNeg, Int.reduceAdd, Int.reduceSub, Int.reduceMul, Int.reduceBEq, Int.reduceBNe, Int.reduceToNat, $xs,*])
namespace PG
open PySem L2 DL GT
abbrev tD (p : Tie × Nat) : D := pairD (.int (p.2 : Nat)) (encT p.1)
theorem enum_ties (N : Net) : enumL (N.ties.map encT) = N.ties.zipIdx.map tD := enumL_map encT N.ties
theorem without_eval {N : Net} (hl : N.ties.length ≤ 900) (B : List Int) : g_without [encN N, TI B] = some (encN (GT.without N B)) := by
  have z : szOk (N.ties.zipIdx.map tD).length = true := sk (by simp; omega)
  unfold g_without b_without N_without
  simp_arith [enum_ties, z]
  rw [compL_pure tD (fun p => encT p.1) (fun p => !decide ((p.2 : Int) ∈ B)) N.ties.zipIdx (fun p m => by
    unfold Ct_without_1 Ce_without_1 tD pairD
    simp_arith [DL.p_nt]
    cases decide ((p.2 : Int) ∈ B) <;> rfl)]
  simp_arith [DL.p_nt]
  unfold encN GT.without keepF
  simp only [List.map_map, List.contains_eq_mem]
  rfl
theorem F1_reached {x0 x1 x2 x3 : Option SV} : ∀ (os ks td : List Int) (x6 : Option SV), ks.length + os.length ≤ 900000 → td.length + os.length ≤ 900000 → ∃ (new : List Int) (x6' : Option SV), (∀ x, x ∈ new ↔ x ∈ os ∧ x ∉ ks) ∧ new.Nodup ∧
    forL (nameG 6) F_reached_1 (os.map .int) [x0, x1, x2, x3, some (.m false false (dI ks)), some (.l false (td.map .int)), x6] = some (.nx [x0, x1, x2, x3, some (.m false false (dI (ks ++ new))), some (.l false ((td ++ new).map .int)), x6'])
  | [], ks, td, x6, _, _ => ⟨[], x6, by simp, by simp, by simp [forL_nil]⟩
  | o :: os, ks, td, x6, h1, h2 => by
    simp only [List.length_cons] at h1 h2
    by_cases q : o ∈ ks
    · obtain ⟨new, x6', g1, g2, g3⟩ := F1_reached (x0 := x0) (x1 := x1) (x2 := x2) (x3 := x3) os ks td (some (.d (.int o))) (by omega) (by omega)
      refine ⟨new, x6', fun x => ?_, g2, ?_⟩
      · rw [g1, List.mem_cons]
        constructor
        · rintro ⟨a, b⟩; exact ⟨.inr a, b⟩
        · rintro ⟨rfl | a, b⟩
          · exact absurd q b
          · exact ⟨a, b⟩
      · rw [List.map_cons, forL_cons]
        unfold F_reached_1 at g3 ⊢
        simp_arith [dI_get, decide_eq_true q]
        exact g3
    · obtain ⟨new, x6', g1, g2, g3⟩ := F1_reached (x0 := x0) (x1 := x1) (x2 := x2) (x3 := x3) os (ks ++ [o]) (td ++ [o]) (some (.d (.int o))) (by simp; omega) (by simp; omega)
      refine ⟨o :: new, x6', fun x => ?_, ?_, ?_⟩
      · rw [List.mem_cons, List.mem_cons, g1, List.mem_append, List.mem_singleton]
        constructor
        · rintro (rfl | ⟨a, b⟩)
          · exact ⟨.inl rfl, q⟩
          · exact ⟨.inr a, fun m => b (.inl m)⟩
        · rintro ⟨rfl | a, b⟩
          · exact .inl rfl
          · by_cases e : x = o
            · exact .inl e
            · exact .inr ⟨a, fun m => m.elim b e⟩
      · refine List.nodup_cons.mpr ⟨fun m => ?_, g2⟩
        have := ((g1 o).mp m).2
        simp at this
      · rw [List.map_cons, forL_cons]
        have z1 : szOk (dI ks).length = true := by rw [dI_len]; exact szOk_of (by omega)
        have z2 : szOk (td.map PyData.int).length = true := szOk_of (by simp; omega)
        have e1 : td.map PyData.int ++ [PyData.int o] = (td ++ [o]).map PyData.int := by simp
        unfold F_reached_1 at g3 ⊢
        have b1 : (false != true) = true := rfl
        simp_arith [dI_get, decide_eq_false q, b1, dI_put, z1, z2, if_neg q]
        rw [e1, g3]
        simp
structure RInv (L : Net) (k : Int) (ks td : List Int) : Prop where
  nd : ks.Nodup
  tnd : td.Nodup
  at_ : k ∈ ks
  sub : ∀ x ∈ td, x ∈ ks
  sound : ∀ x ∈ ks, Reach L k x
  closed : ∀ b ∈ ks, b ∉ td → ∀ c, adj L b c = true → c ∈ ks
theorem RInv.few {L : Net} (w : L.WF) {k : Int} (hk : 0 ≤ k ∧ k < L.n) {ks td : List Int} (h : RInv L k ks td) : ks.length ≤ L.n := by
  have := nodup_len_le ks (ir L.n) h.nd fun x m => mem_ir.mpr ((h.sound x m).inn w hk)
  rwa [ir_len] at this
theorem RInv.step {L : Net} (w : L.WF) {k b : Int} {ks td new : List Int} (h : RInv L k ks (td ++ [b])) (hn : ∀ x, x ∈ new ↔ x ∈ nb L b ∧ x ∉ ks) (nn : new.Nodup) : RInv L k (ks ++ new) (td ++ new) where
  nd := List.nodup_append.mpr ⟨h.nd, nn, fun x m y my e => ((hn y).mp my).2 (e ▸ m)⟩
  tnd := List.nodup_append.mpr ⟨(List.nodup_append.mp h.tnd).1, nn, fun x m y my e => ((hn y).mp my).2 (e ▸ h.sub x (List.mem_append_left _ m))⟩
  at_ := List.mem_append_left _ h.at_
  sub := fun x m => by
    rcases List.mem_append.mp m with m | m
    · exact List.mem_append_left _ (h.sub x (List.mem_append_left _ m))
    · exact List.mem_append_right _ m
  sound := fun x m => by
    rcases List.mem_append.mp m with m | m
    · exact h.sound x m
    · exact (h.sound b (h.sub b (by simp))).step ((mem_nb (w := w)).mp ((hn x).mp m).1)
  closed := fun x m no c ha => by
    have no1 : x ∉ td := fun z => no (List.mem_append_left _ z)
    have no2 : x ∉ new := fun z => no (List.mem_append_right _ z)
    have mk : x ∈ ks := (List.mem_append.mp m).resolve_right no2
    by_cases e : x = b
    · subst e
      by_cases q : c ∈ ks
      · exact List.mem_append_left _ q
      · exact List.mem_append_right _ ((hn c).mpr ⟨(mem_nb (w := w)).mpr ha, q⟩)
    · exact List.mem_append_left _ (h.closed x mk (by simp [no1, e]) c ha)
theorem W_reached {L : Net} (w : L.WF) {k : Int} (hk : 0 ≤ k ∧ k < L.n) {x0 x1 x2 : Option SV} : ∀ (m : Nat) (ks td : List Int) (x6 : Option SV), RInv L k ks td → (L.n - ks.length) + td.length ≤ m → ∃ (ks' : List Int) (x6' : Option SV), RInv L k ks' [] ∧
    whileL Wt_reached_1 Wb_reached_1 (m + 1) [x0, x1, x2, some (.d (encN L)), some (.m false false (dI ks)), some (.l false (td.map .int)), x6] = some (.nx [x0, x1, x2, some (.d (encN L)), some (.m false false (dI ks')), some (.l false []), x6'])
  | m, ks, td, x6, h, hm => by
    have few := h.few w hk
    have sm := w.small
    rcases List.eq_nil_or_concat td with rfl | ⟨td0, b, e⟩
    · refine ⟨ks, x6, h, ?_⟩
      rw [whileL_s]
      unfold Wt_reached_1
      simp_arith [DL.p_nt]
    · rw [List.concat_eq_append] at e
      subst e
      cases m with
      | zero => simp at hm
      | succ m =>
      simp only [List.length_append, List.length_cons, List.length_nil] at hm
      have nl : (nb L b).length ≤ 7 := by
        unfold nb
        refine Nat.le_trans (List.length_filter_le _ _) ?_
        rw [ir_len]; omega
      have tl : td0.length ≤ 1000 := by
        have := nodup_len_le (td0 ++ [b]) ks h.tnd h.sub
        simp at this; omega
      obtain ⟨new, y6, n1, n2, n3⟩ := F1_reached (x0 := x0) (x1 := x1) (x2 := x2) (x3 := some (.d (encN L))) (nb L b) ks td0 x6 (by omega) (by omega)
      have h2 := h.step w n1 n2
      have few2 := h2.few w hk
      simp only [List.length_append] at few2
      obtain ⟨ks', x6', g1, g2⟩ := W_reached w hk (x0 := x0) (x1 := x1) (x2 := x2) m (ks ++ new) (td0 ++ new) y6 h2 (by simp only [List.length_append]; omega)
      refine ⟨ks', x6', g1, ?_⟩
      have la : ((td0 ++ [b]).map PyData.int)[((td0 ++ [b]).map PyData.int).length - 1]? = some (.int b) := by simp
      have dl : ((td0 ++ [b]).map PyData.int).dropLast = td0.map .int := by simp
      have ne : ((td0 ++ [b]).map PyData.int).isEmpty = false := by simp
      rw [whileL_s]
      unfold Wt_reached_1 Wb_reached_1 at g2 ⊢
      simp_arith [ne, la, dl, beside_eval w b, forM_a, n3]
      exact g2
theorem reached_eval {N : Net} (w : N.WF) (hl : N.ties.length ≤ 900) (B : List Int) {k : Int} (hk : 0 ≤ k ∧ k < N.n) : g_reached [encN N, TI B, .int k] = some (TI (GT.reached (GT.without N B) k)) := by
  have w2 := without_wf w B
  have sm := w.small
  have start : RInv (GT.without N B) k [k] [k] := ⟨by simp, by simp, by simp, by simp, fun x m => by simp at m; subst m; exact .refl, fun b m no => by simp at m no; exact absurd m no⟩
  have hk2 : 0 ≤ k ∧ k < (GT.without N B).n := hk
  obtain ⟨ks, x6, g1, g2⟩ := W_reached w2 hk2 (x0 := some (.d (encN N))) (x1 := some (.d (TI B))) (x2 := some (.d (.int k))) 999 [k] [k] none start (by show N.n - 1 + 1 ≤ 999; omega)
  have few := g1.few w2 hk2
  have sm2 := w2.small
  have f64 : decide (ks.length < 64) = true := decide_eq_true (by omega)
  have so := reached_unique w2 hk2 g1.nd g1.at_ (fun b m c ha => g1.closed b m (by simp) c ha) g1.sound
  have g2' : whileL Wt_reached_1 Wb_reached_1 1000 [some (.d (encN N)), some (.d (TI B)), some (.d (.int k)), some (.d (encN (GT.without N B))), some (.m false false [(.inl (.inl k), .bool true)]), some (.l false [.int k]), none] = _ := g2
  unfold g_reached b_reached N_reached
  simp_arith [without_eval hl B, g2', dI_keys, f64, so]
end PG
namespace GT
structure HInv (L : Net) (k : Int) (got : List Int) : Prop where
  nd : got.Nodup
  at_ : k ∈ got
  sound : ∀ x ∈ got, Reach L k x
theorem HInv.few {L : Net} (w : L.WF) {k : Int} (hk : 0 ≤ k ∧ k < L.n) {got : List Int} (h : HInv L k got) : got.length ≤ L.n := by
  have := nodup_len_le got (ir L.n) h.nd fun x m => mem_ir.mpr ((h.sound x m).inn w hk)
  rwa [ir_len] at this
end GT
namespace DL
open PySem L2 GT
end DL
local macro_rules | `(tactic| simp_arith [$xs,*]) => `(tactic| simp only [DL.ob_some, DL.om_some, DL.dat_d, DL.lis_l, DL.dic_m, DL.gt_0, DL.gt_1, DL.gt_2, DL.gt_3, DL.gt_4, DL.gt_5, DL.gt_6, DL.gt_7, DL.gt_b, DL.st_0, DL.st_s, DL.plG_d, DL.plG_n, DL.plainAt_a, DL.varM_a, DL.ownM_a, DL.cM_a, DL.ofL_a, DL.opM_a, DL.opOwnM_a, DL.unM_a, DL.truM_a, DL.tstM_a, DL.notM_a, DL.cnd_t, DL.cnd_f, DL.andM_a, DL.orM_a, DL.andVM_a, DL.orVM_a, DL.notVM_a, DL.iteM_a, DL.chM_a, DL.nilM_a, DL.consM_a, DL.guard_tt, DL.tupM_a, DL.lstM_a, DL.noM_a, DL.intV_i, DL.someM_a, DL.slM_a, DL.rng1M_a, DL.rng2M_a, DL.zipV_t, DL.zipV_l, DL.zipM_a, DL.seqM_a, DL.callM_a, DL.hereM_a, DL.callRM_a, DL.appM_a, DL.lisV_l, DL.extM_a, DL.popM_a, DL.popAtM_a, DL.newDM_a, DL.putM_a, DL.lenDM_a, DL.sortDM_a, DL.nameG_a, DL.nilG_a, DL.consG_a, DL.tupG_a, DL.seqS_a, DL.seqK_nx, DL.seqK_rt, DL.seqK_ct, DL.skipM_a, DL.asgM_a, DL.asgG_a, DL.newM_a, DL.asgLM_a, DL.retM_a, DL.exprM_a, DL.ifM_a, DL.forM_a, DL.frzM_a, DL.runF_a, DL.finF_rt, DL.finF_nx, DL.runR_a, DL.finR_rt, DL.finR_nx, DL.sz_0, DL.sz_1, DL.sz_2, DL.sz_3, DL.sz_4, DL.sz_5, DL.sz_6, DL.sz_7, DL.sz_8, DL.sz_9, DL.sz_10, DL.sz_11, DL.sz_12, DL.sz_13, DL.sz_14, DL.sz_15, DL.sz_16, DL.sz_17, DL.sz_18, DL.sz_19, DL.sz_20, DL.sz_21, DL.sz_22, DL.sz_23, DL.sz_24, DL.sz_25, DL.sz_26, DL.sz_27, DL.sz_28, DL.sz_29, DL.sz_30, DL.nc_0, DL.nc_1, DL.nc_2, DL.nc_3, DL.nc_4, DL.nc_5, DL.nc_6, DL.nc_7, DL.nc_8, DL.nc_9, DL.nc_10, DL.nc_11, DL.nc_12, DL.nc_13, DL.nc_14, DL.nc_15, DL.nc_16, DL.nc_17, DL.nc_18, DL.nc_19, DL.nc_20, DL.nc_21, DL.nc_22, DL.nc_23, DL.nc_24, DL.nc_25, DL.nc_26, DL.nc_27, DL.nc_28, DL.nc_29, DL.nc_30, DL.addD_i, DL.addD_t, DL.addD_l, DL.subD_i, DL.modD_i, DL.fdivD_i, DL.mulD_i, DL.lenD_t, DL.lenD_l, DL.tupleD_t, DL.tupleD_l, DL.truD_i, DL.truD_b, DL.truD_n, DL.truD_l, DL.truD_t, DL.ixD_t, DL.ixD_l, DL.negD_i, DL.bD_a, DL.ltB_i, DL.leB_i, DL.eqB_i, DL.neB_i, DL.min2D_i, DL.max2D_i, DL.items_t, DL.items_l, DL.intD_b, DL.isNN, DL.slD_t, DL.slD_l, DL.sortD2_l, DL.sortD2_t, DL.p_ge0, DL.p_geS, DL.p_tk0, DL.p_tkS, DL.p_tkN, DL.p_dr0, DL.p_drS, DL.p_drN, DL.p_mpC, DL.p_mpN, DL.p_apC, DL.p_apN, DL.p_lnC, DL.p_lnN, DL.p_rpS, DL.p_rp0, DL.p_alC, DL.p_alN, DL.p_gdS, DL.p_gdN, DL.p_tlS, DL.p_tlN, DL.p_ieC, DL.p_ieN, DL.p_nt, DL.p_nf, DL.p_atb, DL.p_afb, DL.p_abt, DL.p_abf, DL.p_eqS, DL.p_dT, DL.p_dF, DL.p_TA, DL.p_AT, DL.p_TO, DL.p_OT, DL.p_startD, DL.p_startR, DL.forK_nx, DL.forK_ct, DL.forK_rt, DL.yesM_a, DL.it1_a, DL.compM_a, DL.wipeR_c, DL.wipeR_n, DL.restR_c, DL.restR_n, DL.gtD_i, DL.gtD_T, DL.ob_assoc, DL.om_bind, DL.ob_map, DL.om_map, DL.cnd_bind, DL.cnd_map, DL.guard_bind, DL.guard_map, DL.atI_c0, DL.atI_c1, DL.atI_c2, DL.atI_c3, DL.encN_0, DL.encN_1, DL.encN_2, DL.encN_u, DL.eq_TI, DL.ne_TI, DL.in_I, DL.in_Il, DL.in_T, DL.in_R, DL.notInB_a, DL.enumM_a, DL.exM_a, DL.seqK_ex, DL.finF_ex, DL.forK_ex, DL.tri_no, DL.trm_no, DL.atI_neg1, PG.Sq_failing_1_a, PG.Sq_failing_2_a, PG.Sq_twins_1_a, PG.Sq_twins_2_a, PG.Sq_suspects_1_a, PG.Sq_suspects_2_a, PG.Sq_the_one_1_a, PG.Sq_cases_1_a, PG.Sq_split_1_a, PG.Sq_shortest_1_a, PG.Sq_shortest_2_a, PG.Sq_written_1_a, PG.Sq_tie_in_1_a, PG.Sq_read_1_a, PG.Sq_read_2_a, PG.Sq_read_3_a, PG.Sq_read_4_a, DL.inDM_a, DL.dkOf_i, DL.sortIM_a, DL.newDispM_a, DL.keyOf_i, DL.whileK_nx, Nat.reduceAdd, Nat.reduceSub, Nat.reduceMul, Int.reduceLT, Int.reduceLE, Int.reducePow, Int.reduceNeg, Int.reduceAdd, Int.reduceSub, Int.reduceMul, Int.reduceBEq, Int.reduceBNe, Int.reduceToNat, $xs,*])
open PySem L2 GT
namespace PG
open PySem L2 DL GT
abbrev kD (p : Int × Nat) : D := pairD (.int (p.2 : Nat)) (.int p.1)
theorem cut_from {α : Type} (xs : List α) (k : Nat) : cutD xs (some (k : Int)) none = xs.drop k := by
  unfold cutD
  rw [HT.sIx_none, HT.sIx_nat]
  rcases Nat.le_total k xs.length with h | h
  · rw [Nat.min_eq_left h, List.take_of_length_le (by simp)]
  · rw [Nat.min_eq_right h, List.drop_of_length_le h]
    simp
noncomputable def parts (N : Net) (p : Tie × Nat) : Bool := !decide (p.1.2 ∈ GT.reached (GT.without N [(p.2 : Int)]) p.1.1)
end PG
local macro_rules | `(tactic| simp_arith [$xs,*]) => `(tactic| simp (maxSteps := 2000000) (disch := omega) only [DL.ob_some, DL.om_some, DL.dat_d, DL.lis_l, DL.dic_m, DL.gt_0, DL.gt_1, DL.gt_2, DL.gt_3, DL.gt_4, DL.gt_5, DL.gt_6, DL.gt_7, DL.gt_b, DL.st_0, DL.st_s, DL.plG_d, DL.plG_n, DL.plainAt_a, DL.varM_a, DL.ownM_a, DL.cM_a, DL.ofL_a, DL.opM_a, DL.opOwnM_a, DL.unM_a, DL.truM_a, DL.tstM_a, DL.notM_a, DL.cnd_t, DL.cnd_f, DL.andM_a, DL.orM_a, DL.andVM_a, DL.orVM_a, DL.notVM_a, DL.iteM_a, DL.chM_a, DL.nilM_a, DL.consM_a, DL.guard_tt, DL.tupM_a, DL.lstM_a, DL.noM_a, DL.intV_i, DL.someM_a, DL.slM_a, DL.rng1M_a, DL.rng2M_a, DL.zipV_t, DL.zipV_l, DL.zipM_a, DL.seqM_a, DL.callM_a, DL.hereM_a, DL.callRM_a, DL.appM_a, DL.lisV_l, DL.extM_a, DL.popM_a, DL.popAtM_a, DL.newDM_a, DL.putM_a, DL.lenDM_a, DL.sortDM_a, DL.nameG_a, DL.nilG_a, DL.consG_a, DL.tupG_a, DL.seqS_a, DL.seqK_nx, DL.seqK_rt, DL.seqK_ct, DL.skipM_a, DL.asgM_a, DL.asgG_a, DL.newM_a, DL.asgLM_a, DL.retM_a, DL.exprM_a, DL.ifM_a, DL.forM_a, DL.frzM_a, DL.runF_a, DL.finF_rt, DL.finF_nx, DL.runR_a, DL.finR_rt, DL.finR_nx, DL.sz_0, DL.sz_1, DL.sz_2, DL.sz_3, DL.sz_4, DL.sz_5, DL.sz_6, DL.sz_7, DL.sz_8, DL.sz_9, DL.sz_10, DL.sz_11, DL.sz_12, DL.sz_13, DL.sz_14, DL.sz_15, DL.sz_16, DL.sz_17, DL.sz_18, DL.sz_19, DL.sz_20, DL.sz_21, DL.sz_22, DL.sz_23, DL.sz_24, DL.sz_25, DL.sz_26, DL.sz_27, DL.sz_28, DL.sz_29, DL.sz_30, DL.nc_0, DL.nc_1, DL.nc_2, DL.nc_3, DL.nc_4, DL.nc_5, DL.nc_6, DL.nc_7, DL.nc_8, DL.nc_9, DL.nc_10, DL.nc_11, DL.nc_12, DL.nc_13, DL.nc_14, DL.nc_15, DL.nc_16, DL.nc_17, DL.nc_18, DL.nc_19, DL.nc_20, DL.nc_21, DL.nc_22, DL.nc_23, DL.nc_24, DL.nc_25, DL.nc_26, DL.nc_27, DL.nc_28, DL.nc_29, DL.nc_30, DL.addD_i, DL.addD_t, DL.addD_l, DL.subD_i, DL.modD_i, DL.fdivD_i, DL.mulD_i, DL.lenD_t, DL.lenD_l, DL.tupleD_t, DL.tupleD_l, DL.truD_i, DL.truD_b, DL.truD_n, DL.truD_l, DL.truD_t, DL.ixD_t, DL.ixD_l, DL.negD_i, DL.bD_a, DL.ltB_i, DL.leB_i, DL.eqB_i, DL.neB_i, DL.min2D_i, DL.max2D_i, DL.items_t, DL.items_l, DL.intD_b, DL.isNN, DL.slD_t, DL.slD_l, DL.sortD2_l, DL.sortD2_t, DL.p_ge0, DL.p_geS, DL.p_tk0, DL.p_tkS, DL.p_tkN, DL.p_dr0, DL.p_drS, DL.p_drN, DL.p_mpC, DL.p_mpN, DL.p_apC, DL.p_apN, DL.p_lnC, DL.p_lnN, DL.p_rpS, DL.p_rp0, DL.p_alC, DL.p_alN, DL.p_gdS, DL.p_gdN, DL.p_tlS, DL.p_tlN, DL.p_ieC, DL.p_ieN, DL.p_nt, DL.p_nf, DL.p_atb, DL.p_afb, DL.p_abt, DL.p_abf, DL.p_eqS, DL.p_dT, DL.p_dF, DL.p_TA, DL.p_AT, DL.p_TO, DL.p_OT, DL.p_startD, DL.p_startR, DL.forK_nx, DL.forK_ct, DL.forK_rt, DL.yesM_a, DL.it1_a, DL.compM_a, DL.wipeR_c, DL.wipeR_n, DL.restR_c, DL.restR_n, DL.gtD_i, DL.gtD_T, DL.ob_assoc, DL.om_bind, DL.ob_map, DL.om_map, DL.cnd_bind, DL.cnd_map, DL.guard_bind, DL.guard_map, DL.atI_c0, DL.atI_c1, DL.atI_c2, DL.atI_c3, DL.encN_0, DL.encN_1, DL.encN_2, DL.encN_u, DL.eq_TI, DL.ne_TI, DL.in_I, DL.in_Il, DL.in_T, DL.in_R, DL.notInB_a, DL.enumM_a, DL.exM_a, DL.seqK_ex, DL.finF_ex, DL.forK_ex, DL.tri_no, DL.trm_no, DL.atI_neg1, DL.wipO_nx, DL.wipO_ct, DL.wipO_bk, DL.wipO_rt, DL.wipO_ex, DL.wipM_a, DL.preM_a, DL.two_a, DL.parLM_a, DL.finR_ex, DL.len_map, DL.len_app, DL.len_ir, DL.len_rev, DL.sz_c, DL.rng_c, DL.rngL_n, DL.forM_a', DL.rev_map, DL.seqK_bk, DL.forK_bk, DL.enum_m, DL.emp_map, PG.Sq_failing_1_a, PG.Sq_failing_2_a, PG.Sq_twins_1_a, PG.Sq_twins_2_a, PG.Sq_suspects_1_a, PG.Sq_suspects_2_a, PG.Sq_the_one_1_a, PG.Sq_cases_1_a, PG.Sq_split_1_a, PG.Sq_shortest_1_a, PG.Sq_shortest_2_a, PG.Sq_written_1_a, PG.Sq_tie_in_1_a, PG.Sq_read_1_a, PG.Sq_read_2_a, PG.Sq_read_3_a, PG.Sq_read_4_a, DL.eq_LI, DL.ne_LI, DL.eq_LI0, DL.ne_LI0, DL.eq_LT, DL.ne_LT, DL.eq_LR, DL.ne_LR, DL.eq_TR, DL.ne_TR, DL.eq_B, DL.ne_B, DL.wp_mapE, DL.map_id_int, DL.cut_f, DL.cut_t, DL.cut_f1, DL.map_drop', DL.map_take', DL.map_app', DL.len_zip, DL.inDM_a, DL.dkOf_i, DL.sortIM_a, DL.newDispM_a, DL.keyOf_i, DL.whileK_nx, Nat.reduceAdd, Nat.reduceSub, Nat.reduceMul, Int.reduceLT, Int.reduceLE, Int.reducePow, Int.reduceNeg, Int.reduceAdd, Int.reduceSub, Int.reduceMul, Int.reduceBEq, Int.reduceBNe, Int.reduceToNat, $xs,*])
namespace RX
open PySem L2 DL GT PG
/-! plain: nets without ties -/
theorem without_nil (N : Net) : GT.without N [] = N := by
  unfold GT.without keepF
  have : (N.ties.zipIdx 0).filter (fun p => !([] : List Int).contains (p.2 : Int)) = N.ties.zipIdx 0 := List.filter_eq_self.mpr (by simp)
  rw [this, List.zipIdx_map_fst]
/-! a drawn net is one -/
theorem reached_nil {N : Net} (w : N.WF) (hl : N.ties.length ≤ 900) {k : Int} (hk : 0 ≤ k ∧ k < N.n) : g_reached [encN N, .tuple [], .int k] = some (TI (GT.reached N k)) := by
  have := reached_eval w hl [] hk
  rwa [without_nil] at this
end RX
namespace PG
open PySem L2 DL GT RX
/-! what probes show -/
def showB (N : Net) (B : List Int) (p : List Int) : Bool := !((tiesOf N p).any fun t => decide (t ∈ B))
abbrev encB (bs : List Bool) : D := .tuple (bs.map .bool)
abbrev TR (ps : List (List Int)) : D := .tuple (ps.map TI)
/-- probes that can be asked -/
def Probes (N : Net) (ps : List (List Int)) : Prop := ps.length ≤ 20000 ∧ ∀ p ∈ ps, linked N p = true ∧ p.length ≤ 7
theorem probes_of {N : Net} (w : N.WF) {ps : List (List Int)} (hl : ps.length ≤ 20000) (h : ∀ p ∈ ps, p ∈ routes N) : Probes N ps := ⟨hl, fun p m => route_lk w (h p m)⟩
theorem probes_routes {N : Net} (w : N.WF) : Probes N (routes N) := probes_of w (by have := routes_many w; omega) fun _ h => h
theorem ties_len (N : Net) {p : List Int} (h : p.length ≤ 7) : (tiesOf N p).length ≤ 7 := by
  unfold tiesOf
  rw [sortI_len]; simp; omega
theorem anyD_map {α : Type} (p : α → Bool) (xs : List α) : anyD (.list (xs.map fun x => .bool (p x))) = some (.bool (xs.any p)) := by
  have := anyD_b (xs.map p)
  rw [List.map_map] at this
  rw [show (xs.map fun x => PyData.bool (p x)) = xs.map (PyData.bool ∘ p) from rfl, this, List.any_map]
  rfl
theorem allD_map' {α : Type} (p : α → Bool) (xs : List α) : allD (.list (xs.map fun x => .bool (p x))) = some (.bool (xs.all p)) := allD_map p xs
end PG
local macro_rules | `(tactic| simp_arith [$xs,*]) => `(tactic| simp (maxSteps := 2000000) (disch := omega) only [DL.ob_some, DL.om_some, DL.dat_d, DL.lis_l, DL.dic_m, DL.gt_0, DL.gt_1, DL.gt_2, DL.gt_3, DL.gt_4, DL.gt_5, DL.gt_6, DL.gt_7, DL.gt_b, DL.st_0, DL.st_s, DL.plG_d, DL.plG_n, DL.plainAt_a, DL.varM_a, DL.ownM_a, DL.cM_a, DL.ofL_a, DL.opM_a, DL.opOwnM_a, DL.unM_a, DL.truM_a, DL.tstM_a, DL.notM_a, DL.cnd_t, DL.cnd_f, DL.andM_a, DL.orM_a, DL.andVM_a, DL.orVM_a, DL.notVM_a, DL.iteM_a, DL.chM_a, DL.nilM_a, DL.consM_a, DL.guard_tt, DL.tupM_a, DL.lstM_a, DL.noM_a, DL.intV_i, DL.someM_a, DL.slM_a, DL.rng1M_a, DL.rng2M_a, DL.zipV_t, DL.zipV_l, DL.zipM_a, DL.seqM_a, DL.callM_a, DL.hereM_a, DL.callRM_a, DL.appM_a, DL.lisV_l, DL.extM_a, DL.popM_a, DL.popAtM_a, DL.newDM_a, DL.putM_a, DL.lenDM_a, DL.sortDM_a, DL.nameG_a, DL.nilG_a, DL.consG_a, DL.tupG_a, DL.seqS_a, DL.seqK_nx, DL.seqK_rt, DL.seqK_ct, DL.skipM_a, DL.asgM_a, DL.asgG_a, DL.newM_a, DL.asgLM_a, DL.retM_a, DL.exprM_a, DL.ifM_a, DL.forM_a, DL.frzM_a, DL.runF_a, DL.finF_rt, DL.finF_nx, DL.runR_a, DL.finR_rt, DL.finR_nx, DL.sz_0, DL.sz_1, DL.sz_2, DL.sz_3, DL.sz_4, DL.sz_5, DL.sz_6, DL.sz_7, DL.sz_8, DL.sz_9, DL.sz_10, DL.sz_11, DL.sz_12, DL.sz_13, DL.sz_14, DL.sz_15, DL.sz_16, DL.sz_17, DL.sz_18, DL.sz_19, DL.sz_20, DL.sz_21, DL.sz_22, DL.sz_23, DL.sz_24, DL.sz_25, DL.sz_26, DL.sz_27, DL.sz_28, DL.sz_29, DL.sz_30, DL.nc_0, DL.nc_1, DL.nc_2, DL.nc_3, DL.nc_4, DL.nc_5, DL.nc_6, DL.nc_7, DL.nc_8, DL.nc_9, DL.nc_10, DL.nc_11, DL.nc_12, DL.nc_13, DL.nc_14, DL.nc_15, DL.nc_16, DL.nc_17, DL.nc_18, DL.nc_19, DL.nc_20, DL.nc_21, DL.nc_22, DL.nc_23, DL.nc_24, DL.nc_25, DL.nc_26, DL.nc_27, DL.nc_28, DL.nc_29, DL.nc_30, DL.addD_i, DL.addD_t, DL.addD_l, DL.subD_i, DL.modD_i, DL.fdivD_i, DL.mulD_i, DL.lenD_t, DL.lenD_l, DL.tupleD_t, DL.tupleD_l, DL.truD_i, DL.truD_b, DL.truD_n, DL.truD_l, DL.truD_t, DL.ixD_t, DL.ixD_l, DL.negD_i, DL.bD_a, DL.ltB_i, DL.leB_i, DL.eqB_i, DL.neB_i, DL.min2D_i, DL.max2D_i, DL.items_t, DL.items_l, DL.intD_b, DL.isNN, DL.slD_t, DL.slD_l, DL.sortD2_l, DL.sortD2_t, DL.p_ge0, DL.p_geS, DL.p_tk0, DL.p_tkS, DL.p_tkN, DL.p_dr0, DL.p_drS, DL.p_drN, DL.p_mpC, DL.p_mpN, DL.p_apC, DL.p_apN, DL.p_lnC, DL.p_lnN, DL.p_rpS, DL.p_rp0, DL.p_alC, DL.p_alN, DL.p_gdS, DL.p_gdN, DL.p_tlS, DL.p_tlN, DL.p_ieC, DL.p_ieN, DL.p_nt, DL.p_nf, DL.p_atb, DL.p_afb, DL.p_abt, DL.p_abf, DL.p_eqS, DL.p_dT, DL.p_dF, DL.p_TA, DL.p_AT, DL.p_TO, DL.p_OT, DL.p_startD, DL.p_startR, DL.forK_nx, DL.forK_ct, DL.forK_rt, DL.yesM_a, DL.it1_a, DL.compM_a, DL.wipeR_c, DL.wipeR_n, DL.restR_c, DL.restR_n, DL.gtD_i, DL.gtD_T, DL.ob_assoc, DL.om_bind, DL.ob_map, DL.om_map, DL.cnd_bind, DL.cnd_map, DL.guard_bind, DL.guard_map, DL.atI_c0, DL.atI_c1, DL.atI_c2, DL.atI_c3, DL.encN_0, DL.encN_1, DL.encN_2, DL.encN_u, DL.eq_TI, DL.ne_TI, DL.in_I, DL.in_Il, DL.in_T, DL.in_R, DL.notInB_a, DL.enumM_a, DL.exM_a, DL.seqK_ex, DL.finF_ex, DL.forK_ex, DL.tri_no, DL.trm_no, DL.atI_neg1, DL.wipO_nx, DL.wipO_ct, DL.wipO_bk, DL.wipO_rt, DL.wipO_ex, DL.wipM_a, DL.preM_a, DL.two_a, DL.parLM_a, DL.finR_ex, DL.len_map, DL.len_app, DL.len_ir, DL.len_rev, DL.sz_c, DL.rng_c, DL.rngL_n, DL.forM_a', DL.rev_map, DL.seqK_bk, DL.forK_bk, DL.enum_m, DL.emp_map, PG.Sq_failing_1_a, PG.Sq_failing_2_a, PG.Sq_twins_1_a, PG.Sq_twins_2_a, PG.Sq_suspects_1_a, PG.Sq_suspects_2_a, PG.Sq_the_one_1_a, PG.Sq_cases_1_a, PG.Sq_split_1_a, PG.Sq_shortest_1_a, PG.Sq_shortest_2_a, PG.Sq_written_1_a, PG.Sq_tie_in_1_a, PG.Sq_read_1_a, PG.Sq_read_2_a, PG.Sq_read_3_a, PG.Sq_read_4_a, DL.eq_LI, DL.ne_LI, DL.eq_LI0, DL.ne_LI0, DL.eq_LT, DL.ne_LT, DL.eq_LR, DL.ne_LR, DL.eq_TR, DL.ne_TR, DL.eq_B, DL.ne_B, DL.wp_mapE, DL.map_id_int, DL.cut_f, DL.cut_t, DL.cut_f1, DL.map_drop', DL.map_take', DL.map_app', DL.len_zip, DL.inDM_a, DL.dkOf_i, DL.sortIM_a, DL.newDispM_a, DL.keyOf_i, DL.whileK_nx, PG.anyD_map, PG.allD_map', Nat.reduceAdd, Nat.reduceSub, Nat.reduceMul, Int.reduceLT, Int.reduceLE, Int.reducePow, Int.reduceNeg, Int.reduceAdd, Int.reduceSub, Int.reduceMul, Int.reduceBEq, Int.reduceBNe, Int.reduceToNat, $xs,*])
namespace PG
open PySem L2 DL GT RX
theorem shows_eval {N : Net} {ps : List (List Int)} (h : Probes N ps) (B : List Int) : g_shows [encN N, TR ps, TI B] = some (encB (ps.map (showB N B))) := by
  have hl := h.1
  refine wp_val ?_
  unfold g_shows b_shows N_shows
  simp_arith [DL.p_nt]
  refine wp_cmap (fun p => .bool (showB N B p)) (fun p m => ?_) ?_
  · obtain ⟨h1, h2⟩ := h.2 p m
    have tl := ties_len N h2
    unfold Ce_shows_2
    simp_arith [ties_of_eval h1 (by omega)]
    refine wp_cmap (fun t => .bool (decide (t ∈ B))) (fun t _ => ?_) ?_
    · unfold Ce_shows_1
      simp_arith [DL.p_nt]
      exact wp_ok rfl
    · simp_arith [DL.p_nt]
      exact wp_ok rfl
  · simp_arith [DL.p_nt]
    refine wp_ok ?_
    simp [List.map_map, Function.comp_def]
theorem enum_ir {m : Nat} (g : Int → D) : enumL ((ir m).map g) = (ir m).map fun t => .tuple [.int t, g t] := by
  unfold ir
  rw [List.map_map, List.map_map]
  unfold enumL zipL
  apply List.ext_getElem?
  intro i
  simp only [List.getElem?_zipWith, List.getElem?_map, List.getElem?_range, List.length_map, List.length_range]
  by_cases h : i < m
  · simp [h, pairD]
  · simp [h]
end PG
local macro_rules | `(tactic| simp_arith [$xs,*]) => `(tactic| simp (maxSteps := 2000000) (disch := omega) only [DL.ob_some, DL.om_some, DL.dat_d, DL.lis_l, DL.dic_m, DL.gt_0, DL.gt_1, DL.gt_2, DL.gt_3, DL.gt_4, DL.gt_5, DL.gt_6, DL.gt_7, DL.gt_b, DL.st_0, DL.st_s, DL.plG_d, DL.plG_n, DL.plainAt_a, DL.varM_a, DL.ownM_a, DL.cM_a, DL.ofL_a, DL.opM_a, DL.opOwnM_a, DL.unM_a, DL.truM_a, DL.tstM_a, DL.notM_a, DL.cnd_t, DL.cnd_f, DL.andM_a, DL.orM_a, DL.andVM_a, DL.orVM_a, DL.notVM_a, DL.iteM_a, DL.chM_a, DL.nilM_a, DL.consM_a, DL.guard_tt, DL.tupM_a, DL.lstM_a, DL.noM_a, DL.intV_i, DL.someM_a, DL.slM_a, DL.rng1M_a, DL.rng2M_a, DL.zipV_t, DL.zipV_l, DL.zipM_a, DL.seqM_a, DL.callM_a, DL.hereM_a, DL.callRM_a, DL.appM_a, DL.lisV_l, DL.extM_a, DL.popM_a, DL.popAtM_a, DL.newDM_a, DL.putM_a, DL.lenDM_a, DL.sortDM_a, DL.nameG_a, DL.nilG_a, DL.consG_a, DL.tupG_a, DL.seqS_a, DL.seqK_nx, DL.seqK_rt, DL.seqK_ct, DL.skipM_a, DL.asgM_a, DL.asgG_a, DL.newM_a, DL.asgLM_a, DL.retM_a, DL.exprM_a, DL.ifM_a, DL.forM_a, DL.frzM_a, DL.runF_a, DL.finF_rt, DL.finF_nx, DL.runR_a, DL.finR_rt, DL.finR_nx, DL.sz_0, DL.sz_1, DL.sz_2, DL.sz_3, DL.sz_4, DL.sz_5, DL.sz_6, DL.sz_7, DL.sz_8, DL.sz_9, DL.sz_10, DL.sz_11, DL.sz_12, DL.sz_13, DL.sz_14, DL.sz_15, DL.sz_16, DL.sz_17, DL.sz_18, DL.sz_19, DL.sz_20, DL.sz_21, DL.sz_22, DL.sz_23, DL.sz_24, DL.sz_25, DL.sz_26, DL.sz_27, DL.sz_28, DL.sz_29, DL.sz_30, DL.nc_0, DL.nc_1, DL.nc_2, DL.nc_3, DL.nc_4, DL.nc_5, DL.nc_6, DL.nc_7, DL.nc_8, DL.nc_9, DL.nc_10, DL.nc_11, DL.nc_12, DL.nc_13, DL.nc_14, DL.nc_15, DL.nc_16, DL.nc_17, DL.nc_18, DL.nc_19, DL.nc_20, DL.nc_21, DL.nc_22, DL.nc_23, DL.nc_24, DL.nc_25, DL.nc_26, DL.nc_27, DL.nc_28, DL.nc_29, DL.nc_30, DL.addD_i, DL.addD_t, DL.addD_l, DL.subD_i, DL.modD_i, DL.fdivD_i, DL.mulD_i, DL.lenD_t, DL.lenD_l, DL.tupleD_t, DL.tupleD_l, DL.truD_i, DL.truD_b, DL.truD_n, DL.truD_l, DL.truD_t, DL.ixD_t, DL.ixD_l, DL.negD_i, DL.bD_a, DL.ltB_i, DL.leB_i, DL.eqB_i, DL.neB_i, DL.min2D_i, DL.max2D_i, DL.items_t, DL.items_l, DL.intD_b, DL.isNN, DL.slD_t, DL.slD_l, DL.sortD2_l, DL.sortD2_t, DL.p_ge0, DL.p_geS, DL.p_tk0, DL.p_tkS, DL.p_tkN, DL.p_dr0, DL.p_drS, DL.p_drN, DL.p_mpC, DL.p_mpN, DL.p_apC, DL.p_apN, DL.p_lnC, DL.p_lnN, DL.p_rpS, DL.p_rp0, DL.p_alC, DL.p_alN, DL.p_gdS, DL.p_gdN, DL.p_tlS, DL.p_tlN, DL.p_ieC, DL.p_ieN, DL.p_nt, DL.p_nf, DL.p_atb, DL.p_afb, DL.p_abt, DL.p_abf, DL.p_eqS, DL.p_dT, DL.p_dF, DL.p_TA, DL.p_AT, DL.p_TO, DL.p_OT, DL.p_startD, DL.p_startR, DL.forK_nx, DL.forK_ct, DL.forK_rt, DL.yesM_a, DL.it1_a, DL.compM_a, DL.wipeR_c, DL.wipeR_n, DL.restR_c, DL.restR_n, DL.gtD_i, DL.gtD_T, DL.ob_assoc, DL.om_bind, DL.ob_map, DL.om_map, DL.cnd_bind, DL.cnd_map, DL.guard_bind, DL.guard_map, DL.atI_c0, DL.atI_c1, DL.atI_c2, DL.atI_c3, DL.encN_0, DL.encN_1, DL.encN_2, DL.encN_u, DL.eq_TI, DL.ne_TI, DL.in_I, DL.in_Il, DL.in_T, DL.in_R, DL.notInB_a, DL.enumM_a, DL.exM_a, DL.seqK_ex, DL.finF_ex, DL.forK_ex, DL.tri_no, DL.trm_no, DL.atI_neg1, DL.wipO_nx, DL.wipO_ct, DL.wipO_bk, DL.wipO_rt, DL.wipO_ex, DL.wipM_a, DL.preM_a, DL.two_a, DL.parLM_a, DL.finR_ex, DL.len_map, DL.len_app, DL.len_ir, DL.len_rev, DL.sz_c, DL.rng_c, DL.rngL_n, DL.forM_a', DL.rev_map, DL.seqK_bk, DL.forK_bk, DL.enum_m, DL.emp_map, PG.Sq_failing_1_a, PG.Sq_failing_2_a, PG.Sq_twins_1_a, PG.Sq_twins_2_a, PG.Sq_suspects_1_a, PG.Sq_suspects_2_a, PG.Sq_the_one_1_a, PG.Sq_cases_1_a, PG.Sq_split_1_a, PG.Sq_shortest_1_a, PG.Sq_shortest_2_a, PG.Sq_written_1_a, PG.Sq_tie_in_1_a, PG.Sq_read_1_a, PG.Sq_read_2_a, PG.Sq_read_3_a, PG.Sq_read_4_a, DL.eq_LI, DL.ne_LI, DL.eq_LI0, DL.ne_LI0, DL.eq_LT, DL.ne_LT, DL.eq_LR, DL.ne_LR, DL.eq_TR, DL.ne_TR, DL.eq_B, DL.ne_B, DL.wp_mapE, DL.map_id_int, DL.cut_f, DL.cut_t, DL.cut_f1, DL.map_drop', DL.map_take', DL.map_app', DL.len_zip, DL.inDM_a, DL.dkOf_i, DL.sortIM_a, DL.newDispM_a, DL.keyOf_i, DL.whileK_nx, PG.anyD_map, PG.allD_map', PG.enum_ir, Nat.reduceAdd, Nat.reduceSub, Nat.reduceMul, Int.reduceLT, Int.reduceLE, Int.reducePow, Int.reduceNeg, Int.reduceAdd, Int.reduceSub, Int.reduceMul, Int.reduceBEq, Int.reduceBNe, Int.reduceToNat, $xs,*])
namespace PG
open PySem L2 DL GT RX
def rowF (N : Net) (ps : List (List Int)) (t : Int) : List Int := (ps.zipIdx.filter fun q => decide (t ∈ tiesOf N q.1)).map fun q => (q.2 : Int)
theorem rowF_len (N : Net) (ps : List (List Int)) (t : Int) : (rowF N ps t).length ≤ ps.length := by
  unfold rowF
  rw [List.length_map]
  refine Nat.le_trans (List.length_filter_le _ _) ?_
  simp
theorem flat_one {α β : Type} (f : α → β) : ∀ xs : List α, (xs.flatMap fun t => [f t]) = xs.map f
  | [] => rfl
  | x :: xs => by rw [List.flatMap_cons, flat_one f xs]; rfl
theorem failing_eval {N : Net} {ps : List (List Int)} (h : Probes N ps) (ht : N.ties.length ≤ 900) : g_failing [encN N, TR ps] = some (.tuple ((ir N.ties.length).map fun t => TI (rowF N ps t))) := by
  have hl := h.1
  refine wp_val ?_
  unfold g_failing b_failing N_failing
  simp_arith [DL.p_nt]
  refine wp_cmap (fun p => TI (tiesOf N p)) (fun p m => ?_) ?_
  · obtain ⟨h1, h2⟩ := h.2 p m
    unfold Ce_failing_1
    simp_arith [ties_of_eval h1 (by omega)]
    exact wp_ok rfl
  · simp_arith [DL.p_nt]
    refine wp_fill (B := List Int) (enc := PyData.int) (fun l => [some (.d (encN N)), some (.d (TR ps)), some (.d (.tuple (l.map TI))), some (.d (.list (ps.map fun p => TI (tiesOf N p)))), none, none, none, none]) (fun t => [rowF N ps t]) ?_ ?_
    · intro pre t post hp
      have pl : (pre.flatMap fun t => [rowF N ps t]).length ≤ 900 := by
        have := congrArg List.length hp
        rw [ir_len] at this
        simp at this
        have e : (pre.flatMap fun t => [rowF N ps t]).length = pre.length := by rw [flat_one, List.length_map]
        omega
      unfold F_failing_1
      simp_arith [DL.p_nt]
      refine wp_cfil (fun q : List Int × Nat => decide (t ∈ tiesOf N q.1)) (fun q => .int (q.2 : Nat)) (fun q m => ?_) ?_
      · unfold Ct_failing_1 Ce_failing_2
        simp_arith [DL.p_nt]
        by_cases c : t ∈ tiesOf N q.1 <;> simp [c, cnd] <;> exact wp_ok rfl
      · simp_arith [DL.p_nt]
        refine wp_ok ?_
        show _ = _
        simp [rowF, List.map_map, Function.comp_def]
    · rw [flat_one]
      simp_arith [DL.p_nt]
      refine wp_ok ?_
      simp [List.map_map, Function.comp_def]
def unseenL (N : Net) (ps : List (List Int)) : List Int := (ir N.ties.length).filter fun t => decide (rowF N ps t = [])
theorem unseen_eval {N : Net} {ps : List (List Int)} (h : Probes N ps) (ht : N.ties.length ≤ 900) : g_unseen [encN N, TR ps] = some (TI (unseenL N ps)) := by
  refine wp_val ?_
  unfold g_unseen b_unseen N_unseen
  simp_arith [-DL.enum_m, failing_eval h ht]
  refine wp_cfil (fun t => decide (rowF N ps t = [])) PyData.int (fun t m => ?_) ?_
  · have e : eqB (TI (rowF N ps t)) (.tuple []) = some (decide (rowF N ps t = [])) := eq_TI _ []
    unfold Ct_unseen_1 Ce_unseen_1
    simp_arith [e]
    by_cases c : rowF N ps t = [] <;> simp [c, cnd] <;> exact wp_ok rfl
  · simp_arith [DL.p_nt]
    exact wp_ok rfl
/-! groups -/
section
variable (row : Int → List Int)
def firstsF (pre : List Int) : List Int := pre.filter fun t => decide (∀ u ∈ pre, u < t → row u ≠ row t)
def groupF (pre : List Int) (t : Int) : List Int := pre.filter fun u => decide (row u = row t)
def twinsF (pre : List Int) : List (List Int) := (firstsF row pre).map (groupF row pre)
variable {row}
theorem firsts_snoc {pre : List Int} {a : Int} (h : ∀ u ∈ pre, u < a) : firstsF row (pre ++ [a]) = firstsF row pre ++ if row a ∈ pre.map row then [] else [a] := by
  unfold firstsF
  rw [List.filter_append]
  congr 1
  · refine List.filter_congr fun t mt => ?_
    rw [Bool.eq_iff_iff]
    simp only [decide_eq_true_eq, List.mem_append, List.mem_cons, List.not_mem_nil, or_false]
    refine ⟨fun q u mu => q u (.inl mu), fun q u mu lt => ?_⟩
    rcases mu with mu | rfl
    · exact q u mu lt
    · have := h t mt; omega
  · by_cases c : row a ∈ pre.map row
    · rw [if_pos c, List.filter_cons_of_neg, List.filter_nil]
      obtain ⟨u, mu, e⟩ := List.mem_map.mp c
      simp only [decide_eq_true_eq]
      intro q
      exact q u (by simp [mu]) (h u mu) e
    · rw [if_neg c, List.filter_cons_of_pos, List.filter_nil]
      simp only [decide_eq_true_eq, List.mem_append, List.mem_cons, List.not_mem_nil, or_false]
      intro u mu lt e
      rcases mu with mu | rfl
      · exact c (List.mem_map.mpr ⟨u, mu, e⟩)
      · omega
theorem group_snoc (pre : List Int) (a t : Int) : groupF row (pre ++ [a]) t = groupF row pre t ++ if row a = row t then [a] else [] := by
  unfold groupF
  rw [List.filter_append]
  congr 1
  by_cases c : row a = row t <;> simp [c]
theorem group_head {pre : List Int} {t : Int} (m : t ∈ pre) : ∃ u l, groupF row pre t = u :: l ∧ row u = row t ∧ u ∈ pre := by
  have mt : t ∈ groupF row pre t := by unfold groupF; rw [List.mem_filter]; simp [m]
  cases q : groupF row pre t with
  | nil => rw [q] at mt; cases mt
  | cons u l =>
    have mu : u ∈ groupF row pre t := by rw [q]; simp
    unfold groupF at mu
    rw [List.mem_filter] at mu
    exact ⟨u, l, rfl, of_decide_eq_true mu.2, mu.1⟩
end
theorem ir_pre {m : Nat} {pre post : List Int} {a : Int} (h : ir m = pre ++ a :: post) : a = (pre.length : Nat) ∧ pre = ir pre.length ∧ pre.length < m ∧ ∀ u ∈ pre, u < a := by
  have hl := congrArg List.length h
  rw [ir_len] at hl
  simp at hl
  have e1 : (ir m)[pre.length]? = some a := by rw [h]; simp
  have e2 : (ir m)[pre.length]? = some ((pre.length : Nat) : Int) := by
    unfold ir
    rw [List.getElem?_map, List.getElem?_range (by omega)]; rfl
  have ea : a = (pre.length : Nat) := Option.some.inj (e1.symm.trans e2)
  have ep : pre = ir pre.length := by
    have : (ir m).take pre.length = pre := by rw [h]; simp
    rw [← this]
    unfold ir
    rw [← List.map_take, List.take_range]
    simp
  refine ⟨ea, ep, by omega, fun u mu => ?_⟩
  rw [ep] at mu
  have := mem_ir.mp mu
  omega
end PG
namespace DL
open PySem L2 GT
theorem forXL_fold {A : Type} {g : GM} {f : XM} {as : List A} {r : Rho} (enc : A → D) (G : List A → List (List D)) (step : ∀ pre a post, as = pre ++ a :: post → wp ((g r (enc a)).bind fun r1 => f r1 (G pre)) (· = (r, G (pre ++ [a])))) :
    forXL g f (as.map enc) r (G []) = some (r, G as) := by
  have key : ∀ (post pre : List A), as = pre ++ post → forXL g f (post.map enc) r (G pre) = some (r, G as) := by
    intro post
    induction post with
    | nil => intro pre h; rw [List.append_nil] at h; subst h; rfl
    | cons a post ih =>
      intro pre h
      have st := wp_val (step pre a post h)
      obtain ⟨r1, e1, e2⟩ := Option.bind_eq_some_iff.mp st
      rw [List.map_cons]
      show (g r (enc a)).bind _ = _
      rw [e1, ob_some, e2, ob_some]
      exact ih (pre ++ [a]) (by simp [h])
  exact key as [] rfl
theorem grpL_map {A : Type} {j : Nat} {f : CM} {r : Rho} (e e' : A → List D) (hj : j < r.length) (hn : r.set j none = r) : ∀ xs : List A, (∀ x ∈ xs, f (r.set j (some (.l false (e x)))) = some (r.set j (some (.l false (e' x))))) → grpL j f (xs.map e) r = some (r, xs.map e')
  | [], _ => rfl
  | x :: xs, h => by
    rw [List.map_cons]
    show (f _).bind _ = _
    rw [h x (by simp), ob_some]
    rw [List.getElem?_set_self hj]
    simp only [List.set_set]
    rw [hn, grpL_map e e' hj hn xs fun y m => h y (List.mem_cons_of_mem _ m)]
    rfl
theorem wipX_a (is : List Nat) (f : XM) (r : Rho) (rows : List (List D)) : wipX is f r rows = (f r rows).map fun q => (wipeR q.1 is, q.2) := (rfl)
theorem ifX_a (t : TM) (f g : XM) (r : Rho) (rows : List (List D)) : ifX t f g r rows = (t r).bind fun p => cnd p.1 (fun _ => f p.2 rows) (fun _ => g p.2 rows) := (rfl)
theorem grpX_a (j : Nat) (f : CM) (r : Rho) (rows : List (List D)) : grpX j f r rows = grpL j f rows (r.set j none) := (rfl)
theorem appX_a (g : AM) (r : Rho) (rows : List (List D)) : appX g r rows = (g r).bind fun q => guard' (szOk rows.length) fun _ => some (q.2, rows ++ [q.1]) := (rfl)
theorem forX_a (it : AM) (g : GM) (f : XM) (r : Rho) (rows : List (List D)) : forX it g f r rows = (it r).bind fun q => forXL g f q.1 q.2 rows := (rfl)
theorem ifC_a (t : TM) (f : CM) (r : Rho) : ifC t f r = (t r).bind fun p => cnd p.1 (fun _ => f p.2) (fun _ => some p.2) := (rfl)
theorem exprC_a (f : EM) (r : Rho) : exprC f r = (f r).map (·.2) := (rfl)
def llK (f : XM) (i : Nat) (r : Rho) : Option (Bool × List D) → Option Out
  | some (false, []) => (f (r.set i none) []).map fun q => .nx (q.1.set i (some (.d (.list (q.2.map .list)))))
  | _ => none
theorem llM_a (i : Nat) (f : XM) (r : Rho) : llM i f r = (gt r i).bind fun s => llK f i r s.lis := by
  unfold llM gt
  cases r[i]? with
  | none => rfl
  | some o => cases o with
    | none => rfl
    | some s => cases s with
      | l b xs => cases b <;> cases xs <;> rfl
      | _ => rfl
theorem llK_0 (f : XM) (i : Nat) (r : Rho) : llK f i r (some (false, [])) = (f (r.set i none) []).map fun q => .nx (q.1.set i (some (.d (.list (q.2.map .list))))) := (rfl)
end DL
local macro_rules | `(tactic| simp_arith [$xs,*]) => `(tactic| simp (maxSteps := 2000000) (disch := omega) only [DL.ob_some, DL.om_some, DL.dat_d, DL.lis_l, DL.dic_m, DL.gt_0, DL.gt_1, DL.gt_2, DL.gt_3, DL.gt_4, DL.gt_5, DL.gt_6, DL.gt_7, DL.gt_b, DL.st_0, DL.st_s, DL.plG_d, DL.plG_n, DL.plainAt_a, DL.varM_a, DL.ownM_a, DL.cM_a, DL.ofL_a, DL.opM_a, DL.opOwnM_a, DL.unM_a, DL.truM_a, DL.tstM_a, DL.notM_a, DL.cnd_t, DL.cnd_f, DL.andM_a, DL.orM_a, DL.andVM_a, DL.orVM_a, DL.notVM_a, DL.iteM_a, DL.chM_a, DL.nilM_a, DL.consM_a, DL.guard_tt, DL.tupM_a, DL.lstM_a, DL.noM_a, DL.intV_i, DL.someM_a, DL.slM_a, DL.rng1M_a, DL.rng2M_a, DL.zipV_t, DL.zipV_l, DL.zipM_a, DL.seqM_a, DL.callM_a, DL.hereM_a, DL.callRM_a, DL.appM_a, DL.lisV_l, DL.extM_a, DL.popM_a, DL.popAtM_a, DL.newDM_a, DL.putM_a, DL.lenDM_a, DL.sortDM_a, DL.nameG_a, DL.nilG_a, DL.consG_a, DL.tupG_a, DL.seqS_a, DL.seqK_nx, DL.seqK_rt, DL.seqK_ct, DL.skipM_a, DL.asgM_a, DL.asgG_a, DL.newM_a, DL.asgLM_a, DL.retM_a, DL.exprM_a, DL.ifM_a, DL.forM_a, DL.frzM_a, DL.runF_a, DL.finF_rt, DL.finF_nx, DL.runR_a, DL.finR_rt, DL.finR_nx, DL.sz_0, DL.sz_1, DL.sz_2, DL.sz_3, DL.sz_4, DL.sz_5, DL.sz_6, DL.sz_7, DL.sz_8, DL.sz_9, DL.sz_10, DL.sz_11, DL.sz_12, DL.sz_13, DL.sz_14, DL.sz_15, DL.sz_16, DL.sz_17, DL.sz_18, DL.sz_19, DL.sz_20, DL.sz_21, DL.sz_22, DL.sz_23, DL.sz_24, DL.sz_25, DL.sz_26, DL.sz_27, DL.sz_28, DL.sz_29, DL.sz_30, DL.nc_0, DL.nc_1, DL.nc_2, DL.nc_3, DL.nc_4, DL.nc_5, DL.nc_6, DL.nc_7, DL.nc_8, DL.nc_9, DL.nc_10, DL.nc_11, DL.nc_12, DL.nc_13, DL.nc_14, DL.nc_15, DL.nc_16, DL.nc_17, DL.nc_18, DL.nc_19, DL.nc_20, DL.nc_21, DL.nc_22, DL.nc_23, DL.nc_24, DL.nc_25, DL.nc_26, DL.nc_27, DL.nc_28, DL.nc_29, DL.nc_30, DL.addD_i, DL.addD_t, DL.addD_l, DL.subD_i, DL.modD_i, DL.fdivD_i, DL.mulD_i, DL.lenD_t, DL.lenD_l, DL.tupleD_t, DL.tupleD_l, DL.truD_i, DL.truD_b, DL.truD_n, DL.truD_l, DL.truD_t, DL.ixD_t, DL.ixD_l, DL.negD_i, DL.bD_a, DL.ltB_i, DL.leB_i, DL.eqB_i, DL.neB_i, DL.min2D_i, DL.max2D_i, DL.items_t, DL.items_l, DL.intD_b, DL.isNN, DL.slD_t, DL.slD_l, DL.sortD2_l, DL.sortD2_t, DL.p_ge0, DL.p_geS, DL.p_tk0, DL.p_tkS, DL.p_tkN, DL.p_dr0, DL.p_drS, DL.p_drN, DL.p_mpC, DL.p_mpN, DL.p_apC, DL.p_apN, DL.p_lnC, DL.p_lnN, DL.p_rpS, DL.p_rp0, DL.p_alC, DL.p_alN, DL.p_gdS, DL.p_gdN, DL.p_tlS, DL.p_tlN, DL.p_ieC, DL.p_ieN, DL.p_nt, DL.p_nf, DL.p_atb, DL.p_afb, DL.p_abt, DL.p_abf, DL.p_eqS, DL.p_dT, DL.p_dF, DL.p_TA, DL.p_AT, DL.p_TO, DL.p_OT, DL.p_startD, DL.p_startR, DL.forK_nx, DL.forK_ct, DL.forK_rt, DL.yesM_a, DL.it1_a, DL.compM_a, DL.wipeR_c, DL.wipeR_n, DL.restR_c, DL.restR_n, DL.gtD_i, DL.gtD_T, DL.ob_assoc, DL.om_bind, DL.ob_map, DL.om_map, DL.cnd_bind, DL.cnd_map, DL.guard_bind, DL.guard_map, DL.atI_c0, DL.atI_c1, DL.atI_c2, DL.atI_c3, DL.encN_0, DL.encN_1, DL.encN_2, DL.encN_u, DL.eq_TI, DL.ne_TI, DL.in_I, DL.in_Il, DL.in_T, DL.in_R, DL.notInB_a, DL.enumM_a, DL.exM_a, DL.seqK_ex, DL.finF_ex, DL.forK_ex, DL.tri_no, DL.trm_no, DL.atI_neg1, DL.wipO_nx, DL.wipO_ct, DL.wipO_bk, DL.wipO_rt, DL.wipO_ex, DL.wipM_a, DL.preM_a, DL.two_a, DL.parLM_a, DL.finR_ex, DL.len_map, DL.len_app, DL.len_ir, DL.len_rev, DL.sz_c, DL.rng_c, DL.rngL_n, DL.forM_a', DL.rev_map, DL.seqK_bk, DL.forK_bk, DL.enum_m, DL.emp_map, PG.Sq_failing_1_a, PG.Sq_failing_2_a, PG.Sq_twins_1_a, PG.Sq_twins_2_a, PG.Sq_suspects_1_a, PG.Sq_suspects_2_a, PG.Sq_the_one_1_a, PG.Sq_cases_1_a, PG.Sq_split_1_a, PG.Sq_shortest_1_a, PG.Sq_shortest_2_a, PG.Sq_written_1_a, PG.Sq_tie_in_1_a, PG.Sq_read_1_a, PG.Sq_read_2_a, PG.Sq_read_3_a, PG.Sq_read_4_a, DL.eq_LI, DL.ne_LI, DL.eq_LI0, DL.ne_LI0, DL.eq_LT, DL.ne_LT, DL.eq_LR, DL.ne_LR, DL.eq_TR, DL.ne_TR, DL.eq_B, DL.ne_B, DL.wp_mapE, DL.map_id_int, DL.cut_f, DL.cut_t, DL.cut_f1, DL.map_drop', DL.map_take', DL.map_app', DL.len_zip, DL.inDM_a, DL.dkOf_i, DL.sortIM_a, DL.newDispM_a, DL.keyOf_i, DL.whileK_nx, PG.anyD_map, PG.allD_map', PG.enum_ir, DL.wipX_a, DL.ifX_a, DL.grpX_a, DL.appX_a, DL.forX_a, DL.ifC_a, DL.exprC_a, DL.llM_a, DL.llK_0, Nat.reduceAdd, Nat.reduceSub, Nat.reduceMul, Int.reduceLT, Int.reduceLE, Int.reducePow, Int.reduceNeg, Int.reduceAdd, Int.reduceSub, Int.reduceMul, Int.reduceBEq, Int.reduceBNe, Int.reduceToNat, $xs,*])
namespace PG
open PySem L2 DL GT RX
abbrev LG (gs : List (List Int)) : List (List D) := gs.map fun g => g.map .int
theorem twins_len {row : Int → List Int} {pre : List Int} : (twinsF row pre).length ≤ pre.length := by
  unfold twinsF firstsF
  rw [List.length_map]
  exact List.length_filter_le _ _
theorem group_len {row : Int → List Int} {pre : List Int} (t : Int) : (groupF row pre t).length ≤ pre.length := by
  unfold groupF
  exact List.length_filter_le _ _
theorem twins_step {row : Int → List Int} {m : Nat} (hm : m ≤ 900) (hr : ∀ t, (row t).length ≤ 100000) {x0 x1 : Option SV} {pre post : List Int} {a : Int} (h : ir m = pre ++ a :: post) :
    wp ((tupG 2 (consG (nameG 4) (consG (nameG 5) nilG)) [x0, x1, some (.d (.tuple ((ir m).map fun t => TI (row t)))), none, none, none, none] (.tuple [.int a, TI (row a)])).bind fun r1 => Fx_twins_1 r1 (LG (twinsF row pre)))
      (· = ([x0, x1, some (.d (.tuple ((ir m).map fun t => TI (row t)))), none, none, none, none], LG (twinsF row (pre ++ [a])))) := by
  obtain ⟨ha, hp, hl, hu⟩ := ir_pre h
  have tl := twins_len (row := row) (pre := pre)
  have cu : cutD ((ir m).map fun t => TI (row t)) none (some a) = (pre.map row).map TI := by
    rw [ha, cut_to, ← List.map_take]
    have : (ir m).take pre.length = pre := by rw [h]; simp
    rw [this, List.map_map]; rfl
  have e1 : inB (TI (row a)) (.tuple ((pre.map row).map TI)) = some (decide (row a ∈ pre.map row)) := in_R _ _
  unfold Fx_twins_1
  simp_arith [cu, e1]
  by_cases c : row a ∈ pre.map row
  · simp_arith [decide_eq_true c]
    have key : grpL 6 Gb_twins_1 (LG (twinsF row pre)) [x0, x1, some (.d (.tuple ((ir m).map fun t => TI (row t)))), none, some (.d (.int a)), some (.d (TI (row a))), none] =
        some ([x0, x1, some (.d (.tuple ((ir m).map fun t => TI (row t)))), none, some (.d (.int a)), some (.d (TI (row a))), none], (firstsF row pre).map fun t => ((groupF row pre t) ++ if row a = row t then [a] else []).map PyData.int) := by
      have := grpL_map (j := 6) (f := Gb_twins_1) (r := [x0, x1, some (.d (.tuple ((ir m).map fun t => TI (row t)))), none, some (.d (.int a)), some (.d (TI (row a))), none]) (fun t => (groupF row pre t).map PyData.int) (fun t => ((groupF row pre t) ++ if row a = row t then [a] else []).map PyData.int) (by simp) rfl (firstsF row pre) (fun t mt => by
        have mp : t ∈ pre := (List.mem_filter.mp mt).1
        obtain ⟨u, l, e2, e3, mu⟩ := group_head (row := row) mp
        have gl := group_len (row := row) (pre := pre) t
        have um : 0 ≤ u ∧ u < m := by rw [hp] at mu; have := mem_ir.mp mu; omega
        have e4 : atI ((ir m).map fun t => TI (row t)) u = some (TI (row t)) := by
          obtain ⟨k, rfl⟩ : ∃ k : Nat, u = k := ⟨u.toNat, by omega⟩
          rw [DL.atI_nat, List.getElem?_map]
          have : (ir m)[k]? = some (k : Int) := by
            unfold ir
            rw [List.getElem?_map, List.getElem?_range (by omega)]; rfl
          rw [this, Option.map_some, e3]
        have e5 : atI ((groupF row pre t).map PyData.int) 0 = some (.int u) := by rw [e2]; exact atI_c0 _ _
        have e6 : eqB (TI (row t)) (TI (row a)) = some (decide (row t = row a)) := eq_TI _ _
        unfold Gb_twins_1
        refine wp_val ?_
        simp_arith [e5, e4, e6]
        by_cases q : row t = row a
        · simp_arith [decide_eq_true q]
          refine wp_ok ?_
          rw [if_pos q.symm]
          simp
        · simp_arith [decide_eq_false q]
          refine wp_ok ?_
          rw [if_neg fun w => q w.symm]
          simp)
      unfold twinsF
      rw [show LG ((firstsF row pre).map (groupF row pre)) = (firstsF row pre).map fun t => (groupF row pre t).map PyData.int from by simp [List.map_map, Function.comp_def]]
      exact this
    simp_arith [key]
    refine wp_ok ?_
    unfold twinsF
    rw [firsts_snoc hu, if_pos c, List.append_nil]
    have : (firstsF row pre).map (groupF row (pre ++ [a])) = (firstsF row pre).map fun t => groupF row pre t ++ if row a = row t then [a] else [] := List.map_congr_left fun t _ => group_snoc pre a t
    rw [this]
    simp [List.map_map, Function.comp_def]
  · simp_arith [decide_eq_false c]
    refine wp_ok ?_
    unfold twinsF
    rw [firsts_snoc hu, if_neg c, List.map_append]
    have e2 : (firstsF row pre).map (groupF row (pre ++ [a])) = (firstsF row pre).map (groupF row pre) := List.map_congr_left fun t mt => by
      rw [group_snoc, if_neg, List.append_nil]
      intro q
      exact c (List.mem_map.mpr ⟨t, (List.mem_filter.mp mt).1, q.symm⟩)
    have e3 : groupF row (pre ++ [a]) a = [a] := by
      rw [group_snoc, if_pos rfl]
      have : groupF row pre a = [] := by
        unfold groupF
        rw [List.filter_eq_nil_iff]
        intro u mu q
        exact c (List.mem_map.mpr ⟨u, mu, of_decide_eq_true q⟩)
      rw [this]; rfl
    rw [e2, List.map_cons, List.map_nil, e3]
    simp
def twinsL (N : Net) (ps : List (List Int)) : List (List Int) := twinsF (rowF N ps) (ir N.ties.length)
theorem twins_eval {N : Net} {ps : List (List Int)} (h : Probes N ps) (ht : N.ties.length ≤ 900) : g_twins [encN N, TR ps] = some (TR (twinsL N ps)) := by
  have hl := h.1
  have tl : (twinsL N ps).length ≤ 900 := by
    have := twins_len (row := rowF N ps) (pre := ir N.ties.length)
    rw [ir_len] at this
    unfold twinsL; omega
  refine wp_val ?_
  unfold g_twins b_twins N_twins
  have key := forXL_fold (g := tupG 2 (consG (nameG 4) (consG (nameG 5) nilG))) (f := Fx_twins_1) (as := ir N.ties.length) (r := [some (.d (encN N)), some (.d (TR ps)), some (.d (.tuple ((ir N.ties.length).map fun t => TI (rowF N ps t)))), none, none, none, none])
    (fun t => .tuple [.int t, TI (rowF N ps t)]) (fun pre => LG (twinsF (rowF N ps) pre)) (fun pre a post hp => twins_step ht (fun t => by have := rowF_len N ps t; omega) hp)
  have e0 : LG (twinsF (rowF N ps) []) = [] := rfl
  rw [e0] at key
  simp_arith [-DL.enum_m, failing_eval h ht, key]
  have e1 : (LG (twinsF (rowF N ps) (ir N.ties.length))).map PyData.list = (twinsL N ps).map fun g => PyData.list (g.map .int) := by
    unfold twinsL
    simp [List.map_map, Function.comp_def]
  rw [e1]
  refine wp_guard (szOk_of (show (twinsL N ps).length ≤ 1000000 by omega)) ?_
  refine wp_cmap (fun g => TI g) (fun g m => ?_) ?_
  · unfold Ce_twins_1
    simp_arith [DL.p_nt]
    exact wp_ok rfl
  · simp_arith [DL.p_nt]
    exact wp_ok rfl
theorem kinds_eval {N : Net} (w : N.WF) (ht : N.ties.length ≤ 900) : g_kinds [encN N] = some (TR (twinsL N (routes N))) := by
  unfold g_kinds b_kinds N_kinds
  simp_arith [routes_eval w, twins_eval (probes_routes w) ht]
def enoughB (N : Net) (ps : List (List Int)) : Bool := decide (twinsL N ps = twinsL N (routes N)) && decide (unseenL N ps = unseenL N (routes N))
/-! suspects -/
theorem eq_BB (a b : List Bool) : eqB (.tuple (a.map .bool)) (.tuple (b.map .bool)) = some (decide (a = b)) := eq_one (encF_tup encF_bool) (by decide) a b
theorem ne_BB (a b : List Bool) : neB (.tuple (a.map .bool)) (.tuple (b.map .bool)) = some (!decide (a = b)) := ne_one (encF_tup encF_bool) (by decide) a b
theorem bls_map : ∀ bs : List Bool, blsOf (bs.map .bool) = some bs
  | [] => rfl
  | b :: bs => by rw [List.map_cons, blsOf, bls_map bs]; rfl
theorem allT_t (bs : List Bool) : allT (.tuple (bs.map .bool)) = some (.bool (bs.all id)) := by
  show (blsOf _).map _ = _
  rw [bls_map]; rfl
end PG
local macro_rules | `(tactic| simp_arith [$xs,*]) => `(tactic| simp (maxSteps := 2000000) (disch := omega) only [DL.ob_some, DL.om_some, DL.dat_d, DL.lis_l, DL.dic_m, DL.gt_0, DL.gt_1, DL.gt_2, DL.gt_3, DL.gt_4, DL.gt_5, DL.gt_6, DL.gt_7, DL.gt_b, DL.st_0, DL.st_s, DL.plG_d, DL.plG_n, DL.plainAt_a, DL.varM_a, DL.ownM_a, DL.cM_a, DL.ofL_a, DL.opM_a, DL.opOwnM_a, DL.unM_a, DL.truM_a, DL.tstM_a, DL.notM_a, DL.cnd_t, DL.cnd_f, DL.andM_a, DL.orM_a, DL.andVM_a, DL.orVM_a, DL.notVM_a, DL.iteM_a, DL.chM_a, DL.nilM_a, DL.consM_a, DL.guard_tt, DL.tupM_a, DL.lstM_a, DL.noM_a, DL.intV_i, DL.someM_a, DL.slM_a, DL.rng1M_a, DL.rng2M_a, DL.zipV_t, DL.zipV_l, DL.zipM_a, DL.seqM_a, DL.callM_a, DL.hereM_a, DL.callRM_a, DL.appM_a, DL.lisV_l, DL.extM_a, DL.popM_a, DL.popAtM_a, DL.newDM_a, DL.putM_a, DL.lenDM_a, DL.sortDM_a, DL.nameG_a, DL.nilG_a, DL.consG_a, DL.tupG_a, DL.seqS_a, DL.seqK_nx, DL.seqK_rt, DL.seqK_ct, DL.skipM_a, DL.asgM_a, DL.asgG_a, DL.newM_a, DL.asgLM_a, DL.retM_a, DL.exprM_a, DL.ifM_a, DL.forM_a, DL.frzM_a, DL.runF_a, DL.finF_rt, DL.finF_nx, DL.runR_a, DL.finR_rt, DL.finR_nx, DL.sz_0, DL.sz_1, DL.sz_2, DL.sz_3, DL.sz_4, DL.sz_5, DL.sz_6, DL.sz_7, DL.sz_8, DL.sz_9, DL.sz_10, DL.sz_11, DL.sz_12, DL.sz_13, DL.sz_14, DL.sz_15, DL.sz_16, DL.sz_17, DL.sz_18, DL.sz_19, DL.sz_20, DL.sz_21, DL.sz_22, DL.sz_23, DL.sz_24, DL.sz_25, DL.sz_26, DL.sz_27, DL.sz_28, DL.sz_29, DL.sz_30, DL.nc_0, DL.nc_1, DL.nc_2, DL.nc_3, DL.nc_4, DL.nc_5, DL.nc_6, DL.nc_7, DL.nc_8, DL.nc_9, DL.nc_10, DL.nc_11, DL.nc_12, DL.nc_13, DL.nc_14, DL.nc_15, DL.nc_16, DL.nc_17, DL.nc_18, DL.nc_19, DL.nc_20, DL.nc_21, DL.nc_22, DL.nc_23, DL.nc_24, DL.nc_25, DL.nc_26, DL.nc_27, DL.nc_28, DL.nc_29, DL.nc_30, DL.addD_i, DL.addD_t, DL.addD_l, DL.subD_i, DL.modD_i, DL.fdivD_i, DL.mulD_i, DL.lenD_t, DL.lenD_l, DL.tupleD_t, DL.tupleD_l, DL.truD_i, DL.truD_b, DL.truD_n, DL.truD_l, DL.truD_t, DL.ixD_t, DL.ixD_l, DL.negD_i, DL.bD_a, DL.ltB_i, DL.leB_i, DL.eqB_i, DL.neB_i, DL.min2D_i, DL.max2D_i, DL.items_t, DL.items_l, DL.intD_b, DL.isNN, DL.slD_t, DL.slD_l, DL.sortD2_l, DL.sortD2_t, DL.p_ge0, DL.p_geS, DL.p_tk0, DL.p_tkS, DL.p_tkN, DL.p_dr0, DL.p_drS, DL.p_drN, DL.p_mpC, DL.p_mpN, DL.p_apC, DL.p_apN, DL.p_lnC, DL.p_lnN, DL.p_rpS, DL.p_rp0, DL.p_alC, DL.p_alN, DL.p_gdS, DL.p_gdN, DL.p_tlS, DL.p_tlN, DL.p_ieC, DL.p_ieN, DL.p_nt, DL.p_nf, DL.p_atb, DL.p_afb, DL.p_abt, DL.p_abf, DL.p_eqS, DL.p_dT, DL.p_dF, DL.p_TA, DL.p_AT, DL.p_TO, DL.p_OT, DL.p_startD, DL.p_startR, DL.forK_nx, DL.forK_ct, DL.forK_rt, DL.yesM_a, DL.it1_a, DL.compM_a, DL.wipeR_c, DL.wipeR_n, DL.restR_c, DL.restR_n, DL.gtD_i, DL.gtD_T, DL.ob_assoc, DL.om_bind, DL.ob_map, DL.om_map, DL.cnd_bind, DL.cnd_map, DL.guard_bind, DL.guard_map, DL.atI_c0, DL.atI_c1, DL.atI_c2, DL.atI_c3, DL.encN_0, DL.encN_1, DL.encN_2, DL.encN_u, DL.eq_TI, DL.ne_TI, DL.in_I, DL.in_Il, DL.in_T, DL.in_R, DL.notInB_a, DL.enumM_a, DL.exM_a, DL.seqK_ex, DL.finF_ex, DL.forK_ex, DL.tri_no, DL.trm_no, DL.atI_neg1, DL.wipO_nx, DL.wipO_ct, DL.wipO_bk, DL.wipO_rt, DL.wipO_ex, DL.wipM_a, DL.preM_a, DL.two_a, DL.parLM_a, DL.finR_ex, DL.len_map, DL.len_app, DL.len_ir, DL.len_rev, DL.sz_c, DL.rng_c, DL.rngL_n, DL.forM_a', DL.rev_map, DL.seqK_bk, DL.forK_bk, DL.enum_m, DL.emp_map, PG.Sq_failing_1_a, PG.Sq_failing_2_a, PG.Sq_twins_1_a, PG.Sq_twins_2_a, PG.Sq_suspects_1_a, PG.Sq_suspects_2_a, PG.Sq_the_one_1_a, PG.Sq_cases_1_a, PG.Sq_split_1_a, PG.Sq_shortest_1_a, PG.Sq_shortest_2_a, PG.Sq_written_1_a, PG.Sq_tie_in_1_a, PG.Sq_read_1_a, PG.Sq_read_2_a, PG.Sq_read_3_a, PG.Sq_read_4_a, DL.eq_LI, DL.ne_LI, DL.eq_LI0, DL.ne_LI0, DL.eq_LT, DL.ne_LT, DL.eq_LR, DL.ne_LR, DL.eq_TR, DL.ne_TR, DL.eq_B, DL.ne_B, DL.wp_mapE, DL.map_id_int, DL.cut_f, DL.cut_t, DL.cut_f1, DL.map_drop', DL.map_take', DL.map_app', DL.len_zip, DL.inDM_a, DL.dkOf_i, DL.sortIM_a, DL.newDispM_a, DL.keyOf_i, DL.whileK_nx, PG.anyD_map, PG.allD_map', PG.enum_ir, DL.wipX_a, DL.ifX_a, DL.grpX_a, DL.appX_a, DL.forX_a, DL.ifC_a, DL.exprC_a, DL.llM_a, DL.llK_0, PG.eq_BB, PG.ne_BB, PG.allT_t, Nat.reduceAdd, Nat.reduceSub, Nat.reduceMul, Int.reduceLT, Int.reduceLE, Int.reducePow, Int.reduceNeg, Int.reduceAdd, Int.reduceSub, Int.reduceMul, Int.reduceBEq, Int.reduceBNe, Int.reduceToNat, $xs,*])
namespace PG
open PySem L2 DL GT RX
def shown1 (N : Net) (ps : List (List Int)) (sh : List Bool) : List Int := (ir N.ties.length).filter fun t => decide (ps.map (showB N [t]) = sh)
abbrev encO (o : Option Int) : D := match o with
  | none => .none
  | some i => .int i
def suspL (N : Net) (ps : List (List Int)) (sh : List Bool) : List (Option Int) := (if sh.all id then [none] else []) ++ (shown1 N ps sh).map some
theorem shown1_len (N : Net) (ps : List (List Int)) (sh : List Bool) : (shown1 N ps sh).length ≤ N.ties.length := by
  unfold shown1
  refine Nat.le_trans (List.length_filter_le _ _) ?_
  rw [ir_len]; exact Nat.le_refl _
theorem suspects_eval {N : Net} {ps : List (List Int)} (h : Probes N ps) (ht : N.ties.length ≤ 900) (sh : List Bool) : g_suspects [encN N, TR ps, encB sh] = some (.tuple ((suspL N ps sh).map encO)) := by
  have hl := h.1
  have sl := shown1_len N ps sh
  refine wp_val ?_
  unfold g_suspects b_suspects N_suspects
  have fin : ∀ x3 : Option SV, wp (compL (nameG 4) Ct_suspects_1 Ce_suspects_1 [4] ((ir N.ties.length).map .int) [some (.d (encN N)), some (.d (TR ps)), some (.d (encB sh)), x3, none]) (· = ((shown1 N ps sh).map PyData.int, [some (.d (encN N)), some (.d (TR ps)), some (.d (encB sh)), x3, none])) := fun x3 => by
    refine wp_last ?_
    refine wp_cfil (fun t => decide (ps.map (showB N [t]) = sh)) PyData.int (fun t m => ?_) (wp_ok rfl)
    have e : g_shows [encN N, TR ps, .tuple [.int t]] = some (encB (ps.map (showB N [t]))) := shows_eval h [t]
    unfold Ct_suspects_1 Ce_suspects_1
    simp_arith [e]
    by_cases c : ps.map (showB N [t]) = sh <;> simp [c, cnd] <;> exact wp_ok rfl
  by_cases c : sh.all id = true
  · simp_arith [c]
    refine wp_bind (fin _) ?_
    rintro _ rfl
    simp_arith [DL.p_nt]
    refine wp_ok ?_
    unfold suspL
    rw [if_pos c]
    simp [List.map_map, Function.comp_def, encO]
  · have c' : sh.all id = false := by simpa using c
    simp_arith [c']
    refine wp_bind (fin _) ?_
    rintro _ rfl
    simp_arith [DL.p_nt]
    refine wp_ok ?_
    unfold suspL
    rw [if_neg c]
    simp [List.map_map, Function.comp_def, encO]
end PG
namespace DL
open PySem L2 GT
def finX : Out → Option (Except String D)
  | .rt d _ => some (.ok d)
  | .nx _ => some (.ok .none)
  | .ex c _ => some (.error c)
  | _ => none
theorem runX_a (N : List Str) (b : SM) (ds : List D) : runX N b ds = (b (startD N ds)).bind finX := by
  unfold runX
  cases b (startD N ds) with
  | none => rfl
  | some o => cases o <;> rfl
theorem finX_rt (d : D) (r : Rho) : finX (.rt d r) = some (.ok d) := (rfl)
theorem finX_ex (c : String) (r : Rho) : finX (.ex c r) = some (.error c) := (rfl)
theorem finX_nx (r : Rho) : finX (.nx r) = some (.ok .none) := (rfl)
theorem isN_i (i : Int) : isB (.int i) .none = some false := (rfl)
theorem isNotN_i (i : Int) : isNotB (.int i) .none = some true := (rfl)
theorem isNotN_n : isNotB .none .none = some false := (rfl)
def rg (a b : Int) : List Int := (List.range (b - a).toNat).map fun (i : Nat) => a + (i : Int)
theorem rngL_g1 (a b : Int) : rngL (a + 1) b = (rg (a + 1) b).map .int := rngL_eq (a + 1) b
end DL
local macro_rules | `(tactic| simp_arith [$xs,*]) => `(tactic| simp (maxSteps := 2000000) (disch := omega) only [DL.ob_some, DL.om_some, DL.dat_d, DL.lis_l, DL.dic_m, DL.gt_0, DL.gt_1, DL.gt_2, DL.gt_3, DL.gt_4, DL.gt_5, DL.gt_6, DL.gt_7, DL.gt_b, DL.st_0, DL.st_s, DL.plG_d, DL.plG_n, DL.plainAt_a, DL.varM_a, DL.ownM_a, DL.cM_a, DL.ofL_a, DL.opM_a, DL.opOwnM_a, DL.unM_a, DL.truM_a, DL.tstM_a, DL.notM_a, DL.cnd_t, DL.cnd_f, DL.andM_a, DL.orM_a, DL.andVM_a, DL.orVM_a, DL.notVM_a, DL.iteM_a, DL.chM_a, DL.nilM_a, DL.consM_a, DL.guard_tt, DL.tupM_a, DL.lstM_a, DL.noM_a, DL.intV_i, DL.someM_a, DL.slM_a, DL.rng1M_a, DL.rng2M_a, DL.zipV_t, DL.zipV_l, DL.zipM_a, DL.seqM_a, DL.callM_a, DL.hereM_a, DL.callRM_a, DL.appM_a, DL.lisV_l, DL.extM_a, DL.popM_a, DL.popAtM_a, DL.newDM_a, DL.putM_a, DL.lenDM_a, DL.sortDM_a, DL.nameG_a, DL.nilG_a, DL.consG_a, DL.tupG_a, DL.seqS_a, DL.seqK_nx, DL.seqK_rt, DL.seqK_ct, DL.skipM_a, DL.asgM_a, DL.asgG_a, DL.newM_a, DL.asgLM_a, DL.retM_a, DL.exprM_a, DL.ifM_a, DL.forM_a, DL.frzM_a, DL.runF_a, DL.finF_rt, DL.finF_nx, DL.runR_a, DL.finR_rt, DL.finR_nx, DL.sz_0, DL.sz_1, DL.sz_2, DL.sz_3, DL.sz_4, DL.sz_5, DL.sz_6, DL.sz_7, DL.sz_8, DL.sz_9, DL.sz_10, DL.sz_11, DL.sz_12, DL.sz_13, DL.sz_14, DL.sz_15, DL.sz_16, DL.sz_17, DL.sz_18, DL.sz_19, DL.sz_20, DL.sz_21, DL.sz_22, DL.sz_23, DL.sz_24, DL.sz_25, DL.sz_26, DL.sz_27, DL.sz_28, DL.sz_29, DL.sz_30, DL.nc_0, DL.nc_1, DL.nc_2, DL.nc_3, DL.nc_4, DL.nc_5, DL.nc_6, DL.nc_7, DL.nc_8, DL.nc_9, DL.nc_10, DL.nc_11, DL.nc_12, DL.nc_13, DL.nc_14, DL.nc_15, DL.nc_16, DL.nc_17, DL.nc_18, DL.nc_19, DL.nc_20, DL.nc_21, DL.nc_22, DL.nc_23, DL.nc_24, DL.nc_25, DL.nc_26, DL.nc_27, DL.nc_28, DL.nc_29, DL.nc_30, DL.addD_i, DL.addD_t, DL.addD_l, DL.subD_i, DL.modD_i, DL.fdivD_i, DL.mulD_i, DL.lenD_t, DL.lenD_l, DL.tupleD_t, DL.tupleD_l, DL.truD_i, DL.truD_b, DL.truD_n, DL.truD_l, DL.truD_t, DL.ixD_t, DL.ixD_l, DL.negD_i, DL.bD_a, DL.ltB_i, DL.leB_i, DL.eqB_i, DL.neB_i, DL.min2D_i, DL.max2D_i, DL.items_t, DL.items_l, DL.intD_b, DL.isNN, DL.slD_t, DL.slD_l, DL.sortD2_l, DL.sortD2_t, DL.p_ge0, DL.p_geS, DL.p_tk0, DL.p_tkS, DL.p_tkN, DL.p_dr0, DL.p_drS, DL.p_drN, DL.p_mpC, DL.p_mpN, DL.p_apC, DL.p_apN, DL.p_lnC, DL.p_lnN, DL.p_rpS, DL.p_rp0, DL.p_alC, DL.p_alN, DL.p_gdS, DL.p_gdN, DL.p_tlS, DL.p_tlN, DL.p_ieC, DL.p_ieN, DL.p_nt, DL.p_nf, DL.p_atb, DL.p_afb, DL.p_abt, DL.p_abf, DL.p_eqS, DL.p_dT, DL.p_dF, DL.p_TA, DL.p_AT, DL.p_TO, DL.p_OT, DL.p_startD, DL.p_startR, DL.forK_nx, DL.forK_ct, DL.forK_rt, DL.yesM_a, DL.it1_a, DL.compM_a, DL.wipeR_c, DL.wipeR_n, DL.restR_c, DL.restR_n, DL.gtD_i, DL.gtD_T, DL.ob_assoc, DL.om_bind, DL.ob_map, DL.om_map, DL.cnd_bind, DL.cnd_map, DL.guard_bind, DL.guard_map, DL.atI_c0, DL.atI_c1, DL.atI_c2, DL.atI_c3, DL.encN_0, DL.encN_1, DL.encN_2, DL.encN_u, DL.eq_TI, DL.ne_TI, DL.in_I, DL.in_Il, DL.in_T, DL.in_R, DL.notInB_a, DL.enumM_a, DL.exM_a, DL.seqK_ex, DL.finF_ex, DL.forK_ex, DL.tri_no, DL.trm_no, DL.atI_neg1, DL.wipO_nx, DL.wipO_ct, DL.wipO_bk, DL.wipO_rt, DL.wipO_ex, DL.wipM_a, DL.preM_a, DL.two_a, DL.parLM_a, DL.finR_ex, DL.len_map, DL.len_app, DL.len_ir, DL.len_rev, DL.sz_c, DL.rng_c, DL.rngL_n, DL.forM_a', DL.rev_map, DL.seqK_bk, DL.forK_bk, DL.enum_m, DL.emp_map, PG.Sq_failing_1_a, PG.Sq_failing_2_a, PG.Sq_twins_1_a, PG.Sq_twins_2_a, PG.Sq_suspects_1_a, PG.Sq_suspects_2_a, PG.Sq_the_one_1_a, PG.Sq_cases_1_a, PG.Sq_split_1_a, PG.Sq_shortest_1_a, PG.Sq_shortest_2_a, PG.Sq_written_1_a, PG.Sq_tie_in_1_a, PG.Sq_read_1_a, PG.Sq_read_2_a, PG.Sq_read_3_a, PG.Sq_read_4_a, DL.eq_LI, DL.ne_LI, DL.eq_LI0, DL.ne_LI0, DL.eq_LT, DL.ne_LT, DL.eq_LR, DL.ne_LR, DL.eq_TR, DL.ne_TR, DL.eq_B, DL.ne_B, DL.wp_mapE, DL.map_id_int, DL.cut_f, DL.cut_t, DL.cut_f1, DL.map_drop', DL.map_take', DL.map_app', DL.len_zip, DL.inDM_a, DL.dkOf_i, DL.sortIM_a, DL.newDispM_a, DL.keyOf_i, DL.whileK_nx, PG.anyD_map, PG.allD_map', PG.enum_ir, DL.wipX_a, DL.ifX_a, DL.grpX_a, DL.appX_a, DL.forX_a, DL.ifC_a, DL.exprC_a, DL.llM_a, DL.llK_0, PG.eq_BB, PG.ne_BB, PG.allT_t, DL.runX_a, DL.finX_rt, DL.finX_ex, DL.finX_nx, DL.isN_i, DL.isNotN_i, DL.isNotN_n, DL.rngL_g1, Nat.reduceAdd, Nat.reduceSub, Nat.reduceMul, Int.reduceLT, Int.reduceLE, Int.reducePow, Int.reduceNeg, Int.reduceAdd, Int.reduceSub, Int.reduceMul, Int.reduceBEq, Int.reduceBNe, Int.reduceToNat, $xs,*])
namespace DL
open PySem L2 GT
/-! own dicts under rows, own things handed on: evaluation -/
def SV.ow (s : SV) : Option SV := if s.own = true then some s else none
theorem ow_k (b : Bool) (x : List (List NK × Int)) : (SV.k b x).ow = some (.k b x) := (rfl)
theorem as_k (b c : Bool) (x : List (List NK × Int)) : (SV.k b x).as c = .k c x := (rfl)
theorem flag_k (b : Bool) (x : List (List NK × Int)) : (SV.k b x).flag = b := (rfl)
theorem ownS_gt (r : Rho) (i : Nat) : ownS i r = (gt r i).bind SV.ow := (rfl)
theorem callOM_a (i : Nat) (g : List D → SV → Option (D × SV)) (f : AM) (r : Rho) : callOM i g f r = (f r).bind fun p => (gt p.2 i).bind fun s => s.ow.bind fun sv => (g p.1 (sv.as true)).map fun q => (q.1, p.2.set i (some (q.2.as sv.flag))) := by
  unfold callOM
  congr 1; funext p
  rw [ownS_gt]
  cases gt p.2 i <;> rfl
theorem hereOM_a (i : Nat) (f : AM) (r : Rho) : hereOM i f r = (gt r i).bind fun s => s.ow.bind fun _ => f r := by
  unfold hereOM
  rw [ownS_gt]
  cases gt r i <;> rfl
def finO (j : Nat) : Out → Option (D × SV)
  | .rt d r => (gt r j).bind fun s => guard' s.flag fun _ => some (d, s)
  | .nx r => (gt r j).bind fun s => guard' s.flag fun _ => some (.none, s)
  | _ => none
theorem endO_gt (j : Nat) (r : Rho) (d : D) : (endO j r).map (fun x => (d, x)) = (gt r j).bind fun s => guard' s.flag fun _ => some (d, s) := by
  show (((gt r j).bind fun sv => if sv.flag = true then some sv else none).map _) = _
  cases gt r j with
  | none => rfl
  | some s =>
    cases h : s.flag
    · simp [guard', h]
    · simp [guard', h]
theorem runO_a (N : List Str) (j : Nat) (b : SM) (ds : List D) (sv : SV) : runO N j b ds sv = (b (startO N j ds sv)).bind (finO j) := by
  unfold runO
  cases b (startO N j ds sv) with
  | none => rfl
  | some o => cases o <;> first | rfl | exact endO_gt _ _ _
theorem finO_rt (j : Nat) (d : D) (r : Rho) : finO j (.rt d r) = (gt r j).bind fun s => guard' s.flag fun _ => some (d, s) := (rfl)
theorem finO_nx (j : Nat) (r : Rho) : finO j (.nx r) = (gt r j).bind fun s => guard' s.flag fun _ => some (.none, s) := (rfl)
theorem p_startO (N : List Str) (j : Nat) (ds : List D) (sv : SV) : startO N j ds sv = (ds.take j).map (fun d => some (.d d)) ++ some sv :: ((ds.drop j).map (fun d => some (.d d)) ++ List.replicate (N.length - (ds.length + 1)) none) := (rfl)
/-! what stands under a row -/
theorem getN_mem {kvs : List (List NK × Int)} {k : List NK} {v : Int} (h : getN kvs k = some v) : (k, v) ∈ kvs := by
  obtain ⟨p, h1, h2⟩ := Option.map_eq_some_iff.mp h
  have q := List.find?_some (p := fun p : List NK × Int => decide (p.1 = k)) h1
  have e : p.1 = k := by simpa using q
  have := List.mem_of_find?_eq_some h1
  rw [← e, ← h2]
  exact this
theorem getN_none {kvs : List (List NK × Int)} {k : List NK} (h : getN kvs k = none) : k ∉ kvs.map (·.1) := by
  intro m
  obtain ⟨p, mp, rfl⟩ := List.mem_map.mp m
  have := List.find?_eq_none.mp (Option.map_eq_none_iff.mp h) p mp
  simp at this
end DL
local macro_rules | `(tactic| simp_arith [$xs,*]) => `(tactic| simp (maxSteps := 2000000) (disch := omega) only [DL.ob_some, DL.om_some, DL.dat_d, DL.lis_l, DL.dic_m, DL.gt_0, DL.gt_1, DL.gt_2, DL.gt_3, DL.gt_4, DL.gt_5, DL.gt_6, DL.gt_7, DL.gt_b, DL.st_0, DL.st_s, DL.plG_d, DL.plG_n, DL.plainAt_a, DL.varM_a, DL.ownM_a, DL.cM_a, DL.ofL_a, DL.opM_a, DL.opOwnM_a, DL.unM_a, DL.truM_a, DL.tstM_a, DL.notM_a, DL.cnd_t, DL.cnd_f, DL.andM_a, DL.orM_a, DL.andVM_a, DL.orVM_a, DL.notVM_a, DL.iteM_a, DL.chM_a, DL.nilM_a, DL.consM_a, DL.guard_tt, DL.tupM_a, DL.lstM_a, DL.noM_a, DL.intV_i, DL.someM_a, DL.slM_a, DL.rng1M_a, DL.rng2M_a, DL.zipV_t, DL.zipV_l, DL.zipM_a, DL.seqM_a, DL.callM_a, DL.hereM_a, DL.callRM_a, DL.appM_a, DL.lisV_l, DL.extM_a, DL.popM_a, DL.popAtM_a, DL.newDM_a, DL.putM_a, DL.lenDM_a, DL.sortDM_a, DL.nameG_a, DL.nilG_a, DL.consG_a, DL.tupG_a, DL.seqS_a, DL.seqK_nx, DL.seqK_rt, DL.seqK_ct, DL.skipM_a, DL.asgM_a, DL.asgG_a, DL.newM_a, DL.asgLM_a, DL.retM_a, DL.exprM_a, DL.ifM_a, DL.forM_a, DL.frzM_a, DL.runF_a, DL.finF_rt, DL.finF_nx, DL.runR_a, DL.finR_rt, DL.finR_nx, DL.sz_0, DL.sz_1, DL.sz_2, DL.sz_3, DL.sz_4, DL.sz_5, DL.sz_6, DL.sz_7, DL.sz_8, DL.sz_9, DL.sz_10, DL.sz_11, DL.sz_12, DL.sz_13, DL.sz_14, DL.sz_15, DL.sz_16, DL.sz_17, DL.sz_18, DL.sz_19, DL.sz_20, DL.sz_21, DL.sz_22, DL.sz_23, DL.sz_24, DL.sz_25, DL.sz_26, DL.sz_27, DL.sz_28, DL.sz_29, DL.sz_30, DL.nc_0, DL.nc_1, DL.nc_2, DL.nc_3, DL.nc_4, DL.nc_5, DL.nc_6, DL.nc_7, DL.nc_8, DL.nc_9, DL.nc_10, DL.nc_11, DL.nc_12, DL.nc_13, DL.nc_14, DL.nc_15, DL.nc_16, DL.nc_17, DL.nc_18, DL.nc_19, DL.nc_20, DL.nc_21, DL.nc_22, DL.nc_23, DL.nc_24, DL.nc_25, DL.nc_26, DL.nc_27, DL.nc_28, DL.nc_29, DL.nc_30, DL.addD_i, DL.addD_t, DL.addD_l, DL.subD_i, DL.modD_i, DL.fdivD_i, DL.mulD_i, DL.lenD_t, DL.lenD_l, DL.tupleD_t, DL.tupleD_l, DL.truD_i, DL.truD_b, DL.truD_n, DL.truD_l, DL.truD_t, DL.ixD_t, DL.ixD_l, DL.negD_i, DL.bD_a, DL.ltB_i, DL.leB_i, DL.eqB_i, DL.neB_i, DL.min2D_i, DL.max2D_i, DL.items_t, DL.items_l, DL.intD_b, DL.isNN, DL.slD_t, DL.slD_l, DL.sortD2_l, DL.sortD2_t, DL.p_ge0, DL.p_geS, DL.p_tk0, DL.p_tkS, DL.p_tkN, DL.p_dr0, DL.p_drS, DL.p_drN, DL.p_mpC, DL.p_mpN, DL.p_apC, DL.p_apN, DL.p_lnC, DL.p_lnN, DL.p_rpS, DL.p_rp0, DL.p_alC, DL.p_alN, DL.p_gdS, DL.p_gdN, DL.p_tlS, DL.p_tlN, DL.p_ieC, DL.p_ieN, DL.p_nt, DL.p_nf, DL.p_atb, DL.p_afb, DL.p_abt, DL.p_abf, DL.p_eqS, DL.p_dT, DL.p_dF, DL.p_TA, DL.p_AT, DL.p_TO, DL.p_OT, DL.p_startD, DL.p_startR, DL.forK_nx, DL.forK_ct, DL.forK_rt, DL.yesM_a, DL.it1_a, DL.compM_a, DL.wipeR_c, DL.wipeR_n, DL.restR_c, DL.restR_n, DL.gtD_i, DL.gtD_T, DL.ob_assoc, DL.om_bind, DL.ob_map, DL.om_map, DL.cnd_bind, DL.cnd_map, DL.guard_bind, DL.guard_map, DL.atI_c0, DL.atI_c1, DL.atI_c2, DL.atI_c3, DL.encN_0, DL.encN_1, DL.encN_2, DL.encN_u, DL.eq_TI, DL.ne_TI, DL.in_I, DL.in_Il, DL.in_T, DL.in_R, DL.notInB_a, DL.enumM_a, DL.exM_a, DL.seqK_ex, DL.finF_ex, DL.forK_ex, DL.tri_no, DL.trm_no, DL.atI_neg1, DL.wipO_nx, DL.wipO_ct, DL.wipO_bk, DL.wipO_rt, DL.wipO_ex, DL.wipM_a, DL.preM_a, DL.two_a, DL.parLM_a, DL.finR_ex, DL.len_map, DL.len_app, DL.len_ir, DL.len_rev, DL.sz_c, DL.rng_c, DL.rngL_n, DL.forM_a', DL.rev_map, DL.seqK_bk, DL.forK_bk, DL.enum_m, DL.emp_map, PG.Sq_failing_1_a, PG.Sq_failing_2_a, PG.Sq_twins_1_a, PG.Sq_twins_2_a, PG.Sq_suspects_1_a, PG.Sq_suspects_2_a, PG.Sq_the_one_1_a, PG.Sq_cases_1_a, PG.Sq_split_1_a, PG.Sq_shortest_1_a, PG.Sq_shortest_2_a, PG.Sq_written_1_a, PG.Sq_tie_in_1_a, PG.Sq_read_1_a, PG.Sq_read_2_a, PG.Sq_read_3_a, PG.Sq_read_4_a, DL.eq_LI, DL.ne_LI, DL.eq_LI0, DL.ne_LI0, DL.eq_LT, DL.ne_LT, DL.eq_LR, DL.ne_LR, DL.eq_TR, DL.ne_TR, DL.eq_B, DL.ne_B, DL.wp_mapE, DL.map_id_int, DL.cut_f, DL.cut_t, DL.cut_f1, DL.map_drop', DL.map_take', DL.map_app', DL.len_zip, DL.inDM_a, DL.dkOf_i, DL.sortIM_a, DL.newDispM_a, DL.keyOf_i, DL.whileK_nx, PG.anyD_map, PG.allD_map', PG.enum_ir, DL.wipX_a, DL.ifX_a, DL.grpX_a, DL.appX_a, DL.forX_a, DL.ifC_a, DL.exprC_a, DL.llM_a, DL.llK_0, PG.eq_BB, PG.ne_BB, PG.allT_t, DL.runX_a, DL.finX_rt, DL.finX_ex, DL.finX_nx, DL.isN_i, DL.isNotN_i, DL.isNotN_n, DL.rngL_g1, DL.ow_k, DL.as_k, DL.flag_k, DL.callOM_a, DL.hereOM_a, DL.runO_a, DL.finO_rt, DL.finO_nx, DL.p_startO, Nat.reduceAdd, Nat.reduceSub, Nat.reduceMul, Int.reduceLT, Int.reduceLE, Int.reducePow, Int.reduceNeg, Int.reduceAdd, Int.reduceSub, Int.reduceMul, Int.reduceBEq, Int.reduceBNe, Int.reduceToNat, $xs,*])
namespace DL
open PySem L2
/-! seekers -/
def SV.skr : SV → Option (Bool × D × D × List D)
  | .s b n t rows => some (b, n, t, rows)
  | _ => none
theorem skr_s (b : Bool) (n t : D) (rows : List D) : (SV.s b n t rows).skr = some (b, n, t, rows) := (rfl)
theorem ow_s (b : Bool) (n t : D) (rows : List D) : (SV.s b n t rows).ow = some (.s b n t rows) := (rfl)
theorem as_s (b c : Bool) (n t : D) (rows : List D) : (SV.s b n t rows).as c = .s c n t rows := (rfl)
theorem flag_s (b : Bool) (n t : D) (rows : List D) : (SV.s b n t rows).flag = b := (rfl)
theorem netM_a (i : Nat) (r : Rho) : netM i r = (gt r i).bind fun s => s.skr.bind fun x => some (x.2.1, r) := by
  unfold netM gt
  cases r[i]? with
  | none => rfl
  | some o => cases o with
    | none => rfl
    | some s => cases s <;> rfl
theorem toldM_a (i : Nat) (r : Rho) : toldM i r = (gt r i).bind fun s => s.skr.bind fun x => some (x.2.2.1, r) := by
  unfold toldM gt
  cases r[i]? with
  | none => rfl
  | some o => cases o with
    | none => rfl
    | some s => cases s <;> rfl
theorem lastM_a (i : Nat) (r : Rho) : lastM i r = (gt r i).bind fun s => s.skr.bind fun x => (atI x.2.2.2 (-1)).map fun d => (d, r) := by
  unfold lastM gt
  cases r[i]? with
  | none => rfl
  | some o => cases o with
    | none => rfl
    | some s => cases s <;> rfl
theorem setTM_a (i : Nat) (f : EM) (r : Rho) : setTM i f r = (f r).bind fun p => (gt p.2 i).bind fun s => s.skr.bind fun x => some (.nx (p.2.set i (some (.s x.1 x.2.1 p.1 x.2.2.2)))) := by
  unfold setTM gt
  congr 1; funext p
  cases p.2[i]? with
  | none => rfl
  | some o => cases o with
    | none => rfl
    | some s => cases s <;> rfl
theorem rowsAppM_a (i j : Nat) (r : Rho) : rowsAppM i j r = (gt r i).bind fun s => s.skr.bind fun x => (gt r j).bind fun s2 => s2.dat.bind fun d => guard' (szOk x.2.2.2.length) fun _ => some (.none, r.set i (some (.s x.1 x.2.1 x.2.2.1 (x.2.2.2 ++ [d])))) := by
  unfold rowsAppM gt
  cases r[i]? with
  | none => rfl
  | some o => cases o with
    | none => rfl
    | some s =>
      cases s with
      | s b n t rows =>
        cases r[j]? with
        | none => rfl
        | some o => cases o with
          | none => rfl
          | some s2 => cases s2 <;> rfl
      | _ => rfl
theorem rowsPopM_a (i : Nat) (r : Rho) : rowsPopM i r = (gt r i).bind fun s => s.skr.bind fun x => (x.2.2.2[x.2.2.2.length - 1]?).map fun d => (d, r.set i (some (.s x.1 x.2.1 x.2.2.1 x.2.2.2.dropLast))) := by
  unfold rowsPopM gt
  cases r[i]? with
  | none => rfl
  | some o => cases o with
    | none => rfl
    | some s => cases s <;> rfl
theorem skS_gt {β : Type} (i : Nat) (r : Rho) (k : Option β) : ((skS i r).bind fun _ => k) = (gt r i).bind fun s => s.skr.bind fun _ => k := by
  unfold skS gt
  cases r[i]? with
  | none => rfl
  | some o => cases o with
    | none => rfl
    | some s => cases s <;> rfl
theorem methM_a (i : Nat) (g : List D → SV → Option (D × SV)) (f : AM) (r : Rho) : methM i g f r = (gt r i).bind fun s => s.skr.bind fun _ => (f r).bind fun p => (gt p.2 i).bind fun s => s.ow.bind fun sv => (g p.1 (sv.as true)).map fun q => (q.1, p.2.set i (some (q.2.as sv.flag))) := by
  unfold methM
  rw [skS_gt, callOM_a]
theorem mkM_a (g : D → Option D) (f : EM) (r : Rho) : mkM g f r = (f r).bind fun p => (g p.1).map fun c => ((p.1, [c]), p.2) := (rfl)
theorem newSM_a (i : Nat) (f : NM) (r : Rho) : newSM i f r = (f r).map fun p => .nx (p.2.set i (some (.s false p.1.1 (.tuple []) p.1.2))) := (rfl)
def finOX (j : Nat) : Out → Option (Except String D × SV)
  | .rt d r => (gt r j).bind fun s => guard' s.flag fun _ => some (.ok d, s)
  | .nx r => (gt r j).bind fun s => guard' s.flag fun _ => some (.ok .none, s)
  | .ex c r => (gt r j).bind fun s => guard' s.flag fun _ => some (.error c, s)
  | _ => none
theorem endO_gtX (j : Nat) (r : Rho) (d : Except String D) : (endO j r).map (fun x => (d, x)) = (gt r j).bind fun s => guard' s.flag fun _ => some (d, s) := by
  show (((gt r j).bind fun sv => if sv.flag = true then some sv else none).map _) = _
  cases gt r j with
  | none => rfl
  | some s =>
    cases h : s.flag
    · simp [guard', h]
    · simp [guard', h]
theorem runOX_a (N : List Str) (j : Nat) (b : SM) (ds : List D) (sv : SV) : runOX N j b ds sv = (b (startO N j ds sv)).bind (finOX j) := by
  unfold runOX
  cases b (startO N j ds sv) with
  | none => rfl
  | some o => cases o <;> first | rfl | exact endO_gtX _ _ _
theorem finOX_rt (j : Nat) (d : D) (r : Rho) : finOX j (.rt d r) = (gt r j).bind fun s => guard' s.flag fun _ => some (.ok d, s) := (rfl)
theorem finOX_nx (j : Nat) (r : Rho) : finOX j (.nx r) = (gt r j).bind fun s => guard' s.flag fun _ => some (.ok .none, s) := (rfl)
theorem finOX_ex (j : Nat) (c : String) (r : Rho) : finOX j (.ex c r) = (gt r j).bind fun s => guard' s.flag fun _ => some (.error c, s) := (rfl)
theorem finO_ex (j : Nat) (c : String) (r : Rho) : finO j (.ex c r) = none := (rfl)
end DL
local macro_rules | `(tactic| simp_arith [$xs,*]) => `(tactic| simp (maxSteps := 2000000) (disch := omega) only [DL.ob_some, DL.om_some, DL.dat_d, DL.lis_l, DL.dic_m, DL.gt_0, DL.gt_1, DL.gt_2, DL.gt_3, DL.gt_4, DL.gt_5, DL.gt_6, DL.gt_7, DL.gt_b, DL.st_0, DL.st_s, DL.plG_d, DL.plG_n, DL.plainAt_a, DL.varM_a, DL.ownM_a, DL.cM_a, DL.ofL_a, DL.opM_a, DL.opOwnM_a, DL.unM_a, DL.truM_a, DL.tstM_a, DL.notM_a, DL.cnd_t, DL.cnd_f, DL.andM_a, DL.orM_a, DL.andVM_a, DL.orVM_a, DL.notVM_a, DL.iteM_a, DL.chM_a, DL.nilM_a, DL.consM_a, DL.guard_tt, DL.tupM_a, DL.lstM_a, DL.noM_a, DL.intV_i, DL.someM_a, DL.slM_a, DL.rng1M_a, DL.rng2M_a, DL.zipV_t, DL.zipV_l, DL.zipM_a, DL.seqM_a, DL.callM_a, DL.hereM_a, DL.callRM_a, DL.appM_a, DL.lisV_l, DL.extM_a, DL.popM_a, DL.popAtM_a, DL.newDM_a, DL.putM_a, DL.lenDM_a, DL.sortDM_a, DL.nameG_a, DL.nilG_a, DL.consG_a, DL.tupG_a, DL.seqS_a, DL.seqK_nx, DL.seqK_rt, DL.seqK_ct, DL.skipM_a, DL.asgM_a, DL.asgG_a, DL.newM_a, DL.asgLM_a, DL.retM_a, DL.exprM_a, DL.ifM_a, DL.forM_a, DL.frzM_a, DL.runF_a, DL.finF_rt, DL.finF_nx, DL.runR_a, DL.finR_rt, DL.finR_nx, DL.sz_0, DL.sz_1, DL.sz_2, DL.sz_3, DL.sz_4, DL.sz_5, DL.sz_6, DL.sz_7, DL.sz_8, DL.sz_9, DL.sz_10, DL.sz_11, DL.sz_12, DL.sz_13, DL.sz_14, DL.sz_15, DL.sz_16, DL.sz_17, DL.sz_18, DL.sz_19, DL.sz_20, DL.sz_21, DL.sz_22, DL.sz_23, DL.sz_24, DL.sz_25, DL.sz_26, DL.sz_27, DL.sz_28, DL.sz_29, DL.sz_30, DL.nc_0, DL.nc_1, DL.nc_2, DL.nc_3, DL.nc_4, DL.nc_5, DL.nc_6, DL.nc_7, DL.nc_8, DL.nc_9, DL.nc_10, DL.nc_11, DL.nc_12, DL.nc_13, DL.nc_14, DL.nc_15, DL.nc_16, DL.nc_17, DL.nc_18, DL.nc_19, DL.nc_20, DL.nc_21, DL.nc_22, DL.nc_23, DL.nc_24, DL.nc_25, DL.nc_26, DL.nc_27, DL.nc_28, DL.nc_29, DL.nc_30, DL.addD_i, DL.addD_t, DL.addD_l, DL.subD_i, DL.modD_i, DL.fdivD_i, DL.mulD_i, DL.lenD_t, DL.lenD_l, DL.tupleD_t, DL.tupleD_l, DL.truD_i, DL.truD_b, DL.truD_n, DL.truD_l, DL.truD_t, DL.ixD_t, DL.ixD_l, DL.negD_i, DL.bD_a, DL.ltB_i, DL.leB_i, DL.eqB_i, DL.neB_i, DL.min2D_i, DL.max2D_i, DL.items_t, DL.items_l, DL.intD_b, DL.isNN, DL.slD_t, DL.slD_l, DL.sortD2_l, DL.sortD2_t, DL.p_ge0, DL.p_geS, DL.p_tk0, DL.p_tkS, DL.p_tkN, DL.p_dr0, DL.p_drS, DL.p_drN, DL.p_mpC, DL.p_mpN, DL.p_apC, DL.p_apN, DL.p_lnC, DL.p_lnN, DL.p_rpS, DL.p_rp0, DL.p_alC, DL.p_alN, DL.p_gdS, DL.p_gdN, DL.p_tlS, DL.p_tlN, DL.p_ieC, DL.p_ieN, DL.p_nt, DL.p_nf, DL.p_atb, DL.p_afb, DL.p_abt, DL.p_abf, DL.p_eqS, DL.p_dT, DL.p_dF, DL.p_TA, DL.p_AT, DL.p_TO, DL.p_OT, DL.p_startD, DL.p_startR, DL.forK_nx, DL.forK_ct, DL.forK_rt, DL.yesM_a, DL.it1_a, DL.compM_a, DL.wipeR_c, DL.wipeR_n, DL.restR_c, DL.restR_n, DL.gtD_i, DL.gtD_T, DL.ob_assoc, DL.om_bind, DL.ob_map, DL.om_map, DL.cnd_bind, DL.cnd_map, DL.guard_bind, DL.guard_map, DL.atI_c0, DL.atI_c1, DL.atI_c2, DL.atI_c3, DL.encN_0, DL.encN_1, DL.encN_2, DL.encN_u, DL.eq_TI, DL.ne_TI, DL.in_I, DL.in_Il, DL.in_T, DL.in_R, DL.notInB_a, DL.enumM_a, DL.exM_a, DL.seqK_ex, DL.finF_ex, DL.forK_ex, DL.tri_no, DL.trm_no, DL.atI_neg1, DL.wipO_nx, DL.wipO_ct, DL.wipO_bk, DL.wipO_rt, DL.wipO_ex, DL.wipM_a, DL.preM_a, DL.two_a, DL.parLM_a, DL.finR_ex, DL.len_map, DL.len_app, DL.len_ir, DL.len_rev, DL.sz_c, DL.rng_c, DL.rngL_n, DL.forM_a', DL.rev_map, DL.seqK_bk, DL.forK_bk, DL.enum_m, DL.emp_map, PG.Sq_failing_1_a, PG.Sq_failing_2_a, PG.Sq_twins_1_a, PG.Sq_twins_2_a, PG.Sq_suspects_1_a, PG.Sq_suspects_2_a, PG.Sq_the_one_1_a, PG.Sq_cases_1_a, PG.Sq_split_1_a, PG.Sq_shortest_1_a, PG.Sq_shortest_2_a, PG.Sq_written_1_a, PG.Sq_tie_in_1_a, PG.Sq_read_1_a, PG.Sq_read_2_a, PG.Sq_read_3_a, PG.Sq_read_4_a, DL.eq_LI, DL.ne_LI, DL.eq_LI0, DL.ne_LI0, DL.eq_LT, DL.ne_LT, DL.eq_LR, DL.ne_LR, DL.eq_TR, DL.ne_TR, DL.eq_B, DL.ne_B, DL.wp_mapE, DL.map_id_int, DL.cut_f, DL.cut_t, DL.cut_f1, DL.map_drop', DL.map_take', DL.map_app', DL.len_zip, DL.inDM_a, DL.dkOf_i, DL.sortIM_a, DL.newDispM_a, DL.keyOf_i, DL.whileK_nx, PG.anyD_map, PG.allD_map', PG.enum_ir, DL.wipX_a, DL.ifX_a, DL.grpX_a, DL.appX_a, DL.forX_a, DL.ifC_a, DL.exprC_a, DL.llM_a, DL.llK_0, PG.eq_BB, PG.ne_BB, PG.allT_t, DL.runX_a, DL.finX_rt, DL.finX_ex, DL.finX_nx, DL.isN_i, DL.isNotN_i, DL.isNotN_n, DL.rngL_g1, DL.ow_k, DL.as_k, DL.flag_k, DL.callOM_a, DL.hereOM_a, DL.runO_a, DL.finO_rt, DL.finO_nx, DL.p_startO, DL.skr_s, DL.ow_s, DL.as_s, DL.flag_s, DL.netM_a, DL.toldM_a, DL.lastM_a, DL.setTM_a, DL.rowsAppM_a, DL.rowsPopM_a, DL.methM_a, DL.mkM_a, DL.newSM_a, DL.runOX_a, DL.finOX_rt, DL.finOX_nx, DL.finOX_ex, DL.finO_ex, Nat.reduceAdd, Nat.reduceSub, Nat.reduceMul, Int.reduceLT, Int.reduceLE, Int.reducePow, Int.reduceNeg, Int.reduceAdd, Int.reduceSub, Int.reduceMul, Int.reduceBEq, Int.reduceBNe, Int.reduceToNat, $xs,*])
namespace DL
open PySem L2
/-! several own things handed on; the body of a try -/
theorem ow_l (b : Bool) (xs : List D) : (SV.l b xs).ow = some (.l b xs) := (rfl)
theorem as_l (b c : Bool) (xs : List D) : (SV.l b xs).as c = .l c xs := (rfl)
theorem flag_l (b : Bool) (xs : List D) : (SV.l b xs).flag = b := (rfl)
def methK (r : Rho) : Except String D → Out
  | .ok _ => .nx r
  | .error c => .ex c r
theorem methK_ok (r : Rho) (d : D) : methK r (.ok d) = .nx r := (rfl)
theorem methK_er (r : Rho) (c : String) : methK r (.error c) = .ex c r := (rfl)
theorem methX_a (i : Nat) (g : List D → SV → Option (Except String D × SV)) (f : AM) (r : Rho) : methX i g f r = (gt r i).bind fun s => s.skr.bind fun _ => (f r).bind fun p => (gt p.2 i).bind fun s => s.ow.bind fun sv => (g p.1 (sv.as true)).map fun q => methK (p.2.set i (some (q.2.as sv.flag))) q.1 := by
  unfold methX
  rw [skS_gt]
  congr 1; funext s
  congr 1; funext _
  congr 1; funext p
  rw [ownS_gt]
  cases gt p.2 i with
  | none => rfl
  | some s =>
    show (s.ow.bind _) = s.ow.bind _
    cases s.ow with
    | none => rfl
    | some sv =>
      show (g p.1 (sv.as true)).map _ = (g p.1 (sv.as true)).map _
      cases g p.1 (sv.as true) with
      | none => rfl
      | some q =>
        obtain ⟨o, x⟩ := q
        cases o <;> rfl
end DL
local macro_rules | `(tactic| simp_arith [$xs,*]) => `(tactic| simp (maxSteps := 2000000) (disch := omega) only [DL.ob_some, DL.om_some, DL.dat_d, DL.lis_l, DL.dic_m, DL.gt_0, DL.gt_1, DL.gt_2, DL.gt_3, DL.gt_4, DL.gt_5, DL.gt_6, DL.gt_7, DL.gt_b, DL.st_0, DL.st_s, DL.plG_d, DL.plG_n, DL.plainAt_a, DL.varM_a, DL.ownM_a, DL.cM_a, DL.ofL_a, DL.opM_a, DL.opOwnM_a, DL.unM_a, DL.truM_a, DL.tstM_a, DL.notM_a, DL.cnd_t, DL.cnd_f, DL.andM_a, DL.orM_a, DL.andVM_a, DL.orVM_a, DL.notVM_a, DL.iteM_a, DL.chM_a, DL.nilM_a, DL.consM_a, DL.guard_tt, DL.tupM_a, DL.lstM_a, DL.noM_a, DL.intV_i, DL.someM_a, DL.slM_a, DL.rng1M_a, DL.rng2M_a, DL.zipV_t, DL.zipV_l, DL.zipM_a, DL.seqM_a, DL.callM_a, DL.hereM_a, DL.callRM_a, DL.appM_a, DL.lisV_l, DL.extM_a, DL.popM_a, DL.popAtM_a, DL.newDM_a, DL.putM_a, DL.lenDM_a, DL.sortDM_a, DL.nameG_a, DL.nilG_a, DL.consG_a, DL.tupG_a, DL.seqS_a, DL.seqK_nx, DL.seqK_rt, DL.seqK_ct, DL.skipM_a, DL.asgM_a, DL.asgG_a, DL.newM_a, DL.asgLM_a, DL.retM_a, DL.exprM_a, DL.ifM_a, DL.forM_a, DL.frzM_a, DL.runF_a, DL.finF_rt, DL.finF_nx, DL.runR_a, DL.finR_rt, DL.finR_nx, DL.sz_0, DL.sz_1, DL.sz_2, DL.sz_3, DL.sz_4, DL.sz_5, DL.sz_6, DL.sz_7, DL.sz_8, DL.sz_9, DL.sz_10, DL.sz_11, DL.sz_12, DL.sz_13, DL.sz_14, DL.sz_15, DL.sz_16, DL.sz_17, DL.sz_18, DL.sz_19, DL.sz_20, DL.sz_21, DL.sz_22, DL.sz_23, DL.sz_24, DL.sz_25, DL.sz_26, DL.sz_27, DL.sz_28, DL.sz_29, DL.sz_30, DL.nc_0, DL.nc_1, DL.nc_2, DL.nc_3, DL.nc_4, DL.nc_5, DL.nc_6, DL.nc_7, DL.nc_8, DL.nc_9, DL.nc_10, DL.nc_11, DL.nc_12, DL.nc_13, DL.nc_14, DL.nc_15, DL.nc_16, DL.nc_17, DL.nc_18, DL.nc_19, DL.nc_20, DL.nc_21, DL.nc_22, DL.nc_23, DL.nc_24, DL.nc_25, DL.nc_26, DL.nc_27, DL.nc_28, DL.nc_29, DL.nc_30, DL.addD_i, DL.addD_t, DL.addD_l, DL.subD_i, DL.modD_i, DL.fdivD_i, DL.mulD_i, DL.lenD_t, DL.lenD_l, DL.tupleD_t, DL.tupleD_l, DL.truD_i, DL.truD_b, DL.truD_n, DL.truD_l, DL.truD_t, DL.ixD_t, DL.ixD_l, DL.negD_i, DL.bD_a, DL.ltB_i, DL.leB_i, DL.eqB_i, DL.neB_i, DL.min2D_i, DL.max2D_i, DL.items_t, DL.items_l, DL.intD_b, DL.isNN, DL.slD_t, DL.slD_l, DL.sortD2_l, DL.sortD2_t, DL.p_ge0, DL.p_geS, DL.p_tk0, DL.p_tkS, DL.p_tkN, DL.p_dr0, DL.p_drS, DL.p_drN, DL.p_mpC, DL.p_mpN, DL.p_apC, DL.p_apN, DL.p_lnC, DL.p_lnN, DL.p_rpS, DL.p_rp0, DL.p_alC, DL.p_alN, DL.p_gdS, DL.p_gdN, DL.p_tlS, DL.p_tlN, DL.p_ieC, DL.p_ieN, DL.p_nt, DL.p_nf, DL.p_atb, DL.p_afb, DL.p_abt, DL.p_abf, DL.p_eqS, DL.p_dT, DL.p_dF, DL.p_TA, DL.p_AT, DL.p_TO, DL.p_OT, DL.p_startD, DL.p_startR, DL.forK_nx, DL.forK_ct, DL.forK_rt, DL.yesM_a, DL.it1_a, DL.compM_a, DL.wipeR_c, DL.wipeR_n, DL.restR_c, DL.restR_n, DL.gtD_i, DL.gtD_T, DL.ob_assoc, DL.om_bind, DL.ob_map, DL.om_map, DL.cnd_bind, DL.cnd_map, DL.guard_bind, DL.guard_map, DL.atI_c0, DL.atI_c1, DL.atI_c2, DL.atI_c3, DL.encN_0, DL.encN_1, DL.encN_2, DL.encN_u, DL.eq_TI, DL.ne_TI, DL.in_I, DL.in_Il, DL.in_T, DL.in_R, DL.notInB_a, DL.enumM_a, DL.exM_a, DL.seqK_ex, DL.finF_ex, DL.forK_ex, DL.tri_no, DL.trm_no, DL.atI_neg1, DL.wipO_nx, DL.wipO_ct, DL.wipO_bk, DL.wipO_rt, DL.wipO_ex, DL.wipM_a, DL.preM_a, DL.two_a, DL.parLM_a, DL.finR_ex, DL.len_map, DL.len_app, DL.len_ir, DL.len_rev, DL.sz_c, DL.rng_c, DL.rngL_n, DL.forM_a', DL.rev_map, DL.seqK_bk, DL.forK_bk, DL.enum_m, DL.emp_map, PG.Sq_failing_1_a, PG.Sq_failing_2_a, PG.Sq_twins_1_a, PG.Sq_twins_2_a, PG.Sq_suspects_1_a, PG.Sq_suspects_2_a, PG.Sq_the_one_1_a, PG.Sq_cases_1_a, PG.Sq_split_1_a, PG.Sq_shortest_1_a, PG.Sq_shortest_2_a, PG.Sq_written_1_a, PG.Sq_tie_in_1_a, PG.Sq_read_1_a, PG.Sq_read_2_a, PG.Sq_read_3_a, PG.Sq_read_4_a, DL.eq_LI, DL.ne_LI, DL.eq_LI0, DL.ne_LI0, DL.eq_LT, DL.ne_LT, DL.eq_LR, DL.ne_LR, DL.eq_TR, DL.ne_TR, DL.eq_B, DL.ne_B, DL.wp_mapE, DL.map_id_int, DL.cut_f, DL.cut_t, DL.cut_f1, DL.map_drop', DL.map_take', DL.map_app', DL.len_zip, DL.inDM_a, DL.dkOf_i, DL.sortIM_a, DL.newDispM_a, DL.keyOf_i, DL.whileK_nx, PG.anyD_map, PG.allD_map', PG.enum_ir, DL.wipX_a, DL.ifX_a, DL.grpX_a, DL.appX_a, DL.forX_a, DL.ifC_a, DL.exprC_a, DL.llM_a, DL.llK_0, PG.eq_BB, PG.ne_BB, PG.allT_t, DL.runX_a, DL.finX_rt, DL.finX_ex, DL.finX_nx, DL.isN_i, DL.isNotN_i, DL.isNotN_n, DL.rngL_g1, Nat.reduceAdd, Nat.reduceSub, Nat.reduceMul, Int.reduceLT, Int.reduceLE, Int.reducePow, Int.reduceNeg, Int.reduceAdd, Int.reduceSub, Int.reduceMul, Int.reduceBEq, Int.reduceBNe, Int.reduceToNat, $xs,*])
namespace PG
open PySem L2 DL GT RX
/-! untold pairs -/
end PG
namespace PG
open PySem L2 DL GT RX PySem.W
theorem encF_opt : EncF 1 encO := ⟨fun o => by cases o <;> rfl, fun o => by cases o <;> simp [encO, PyData.depth], fun a b => by
  cases a with
  | none => cases b <;> rfl
  | some a => cases b with
    | none => rfl
    | some b =>
      simp only [encO, PyData.eqv]
      by_cases h : a = b <;> simp [h]⟩
theorem eq_OO (a b : List (Option Int)) : eqB (.tuple (a.map encO)) (.tuple (b.map encO)) = some (decide (a = b)) := (eq_one (encF_tup encF_opt) (by decide) a b).trans (by congr)
theorem ne_OO (a b : List (Option Int)) : neB (.tuple (a.map encO)) (.tuple (b.map encO)) = some (!decide (a = b)) := (ne_one (encF_tup encF_opt) (by decide) a b).trans (by congr)
theorem in_O (a : Option Int) (xs : List (Option Int)) : inB (encO a) (.tuple (xs.map encO)) = some (decide (a ∈ xs)) := (in_tup encF_opt (by decide) a xs).trans (by congr)
/-! what one tie shows -/
/-! untold pairs: the order -/
end PG
local macro_rules | `(tactic| simp_arith [$xs,*]) => `(tactic| simp (maxSteps := 2000000) (disch := omega) only [DL.ob_some, DL.om_some, DL.dat_d, DL.lis_l, DL.dic_m, DL.gt_0, DL.gt_1, DL.gt_2, DL.gt_3, DL.gt_4, DL.gt_5, DL.gt_6, DL.gt_7, DL.gt_b, DL.st_0, DL.st_s, DL.plG_d, DL.plG_n, DL.plainAt_a, DL.varM_a, DL.ownM_a, DL.cM_a, DL.ofL_a, DL.opM_a, DL.opOwnM_a, DL.unM_a, DL.truM_a, DL.tstM_a, DL.notM_a, DL.cnd_t, DL.cnd_f, DL.andM_a, DL.orM_a, DL.andVM_a, DL.orVM_a, DL.notVM_a, DL.iteM_a, DL.chM_a, DL.nilM_a, DL.consM_a, DL.guard_tt, DL.tupM_a, DL.lstM_a, DL.noM_a, DL.intV_i, DL.someM_a, DL.slM_a, DL.rng1M_a, DL.rng2M_a, DL.zipV_t, DL.zipV_l, DL.zipM_a, DL.seqM_a, DL.callM_a, DL.hereM_a, DL.callRM_a, DL.appM_a, DL.lisV_l, DL.extM_a, DL.popM_a, DL.popAtM_a, DL.newDM_a, DL.putM_a, DL.lenDM_a, DL.sortDM_a, DL.nameG_a, DL.nilG_a, DL.consG_a, DL.tupG_a, DL.seqS_a, DL.seqK_nx, DL.seqK_rt, DL.seqK_ct, DL.skipM_a, DL.asgM_a, DL.asgG_a, DL.newM_a, DL.asgLM_a, DL.retM_a, DL.exprM_a, DL.ifM_a, DL.forM_a, DL.frzM_a, DL.runF_a, DL.finF_rt, DL.finF_nx, DL.runR_a, DL.finR_rt, DL.finR_nx, DL.sz_0, DL.sz_1, DL.sz_2, DL.sz_3, DL.sz_4, DL.sz_5, DL.sz_6, DL.sz_7, DL.sz_8, DL.sz_9, DL.sz_10, DL.sz_11, DL.sz_12, DL.sz_13, DL.sz_14, DL.sz_15, DL.sz_16, DL.sz_17, DL.sz_18, DL.sz_19, DL.sz_20, DL.sz_21, DL.sz_22, DL.sz_23, DL.sz_24, DL.sz_25, DL.sz_26, DL.sz_27, DL.sz_28, DL.sz_29, DL.sz_30, DL.nc_0, DL.nc_1, DL.nc_2, DL.nc_3, DL.nc_4, DL.nc_5, DL.nc_6, DL.nc_7, DL.nc_8, DL.nc_9, DL.nc_10, DL.nc_11, DL.nc_12, DL.nc_13, DL.nc_14, DL.nc_15, DL.nc_16, DL.nc_17, DL.nc_18, DL.nc_19, DL.nc_20, DL.nc_21, DL.nc_22, DL.nc_23, DL.nc_24, DL.nc_25, DL.nc_26, DL.nc_27, DL.nc_28, DL.nc_29, DL.nc_30, DL.addD_i, DL.addD_t, DL.addD_l, DL.subD_i, DL.modD_i, DL.fdivD_i, DL.mulD_i, DL.lenD_t, DL.lenD_l, DL.tupleD_t, DL.tupleD_l, DL.truD_i, DL.truD_b, DL.truD_n, DL.truD_l, DL.truD_t, DL.ixD_t, DL.ixD_l, DL.negD_i, DL.bD_a, DL.ltB_i, DL.leB_i, DL.eqB_i, DL.neB_i, DL.min2D_i, DL.max2D_i, DL.items_t, DL.items_l, DL.intD_b, DL.isNN, DL.slD_t, DL.slD_l, DL.sortD2_l, DL.sortD2_t, DL.p_ge0, DL.p_geS, DL.p_tk0, DL.p_tkS, DL.p_tkN, DL.p_dr0, DL.p_drS, DL.p_drN, DL.p_mpC, DL.p_mpN, DL.p_apC, DL.p_apN, DL.p_lnC, DL.p_lnN, DL.p_rpS, DL.p_rp0, DL.p_alC, DL.p_alN, DL.p_gdS, DL.p_gdN, DL.p_tlS, DL.p_tlN, DL.p_ieC, DL.p_ieN, DL.p_nt, DL.p_nf, DL.p_atb, DL.p_afb, DL.p_abt, DL.p_abf, DL.p_eqS, DL.p_dT, DL.p_dF, DL.p_TA, DL.p_AT, DL.p_TO, DL.p_OT, DL.p_startD, DL.p_startR, DL.forK_nx, DL.forK_ct, DL.forK_rt, DL.yesM_a, DL.it1_a, DL.compM_a, DL.wipeR_c, DL.wipeR_n, DL.restR_c, DL.restR_n, DL.gtD_i, DL.gtD_T, DL.ob_assoc, DL.om_bind, DL.ob_map, DL.om_map, DL.cnd_bind, DL.cnd_map, DL.guard_bind, DL.guard_map, DL.atI_c0, DL.atI_c1, DL.atI_c2, DL.atI_c3, DL.encN_0, DL.encN_1, DL.encN_2, DL.encN_u, DL.eq_TI, DL.ne_TI, DL.in_I, DL.in_Il, DL.in_T, DL.in_R, DL.notInB_a, DL.enumM_a, DL.exM_a, DL.seqK_ex, DL.finF_ex, DL.forK_ex, DL.tri_no, DL.trm_no, DL.atI_neg1, DL.wipO_nx, DL.wipO_ct, DL.wipO_bk, DL.wipO_rt, DL.wipO_ex, DL.wipM_a, DL.preM_a, DL.two_a, DL.parLM_a, DL.finR_ex, DL.len_map, DL.len_app, DL.len_ir, DL.len_rev, DL.sz_c, DL.rng_c, DL.rngL_n, DL.forM_a', DL.rev_map, DL.seqK_bk, DL.forK_bk, DL.enum_m, DL.emp_map, PG.Sq_failing_1_a, PG.Sq_failing_2_a, PG.Sq_twins_1_a, PG.Sq_twins_2_a, PG.Sq_suspects_1_a, PG.Sq_suspects_2_a, PG.Sq_the_one_1_a, PG.Sq_cases_1_a, PG.Sq_split_1_a, PG.Sq_shortest_1_a, PG.Sq_shortest_2_a, PG.Sq_written_1_a, PG.Sq_tie_in_1_a, PG.Sq_read_1_a, PG.Sq_read_2_a, PG.Sq_read_3_a, PG.Sq_read_4_a, DL.eq_LI, DL.ne_LI, DL.eq_LI0, DL.ne_LI0, DL.eq_LT, DL.ne_LT, DL.eq_LR, DL.ne_LR, DL.eq_TR, DL.ne_TR, DL.eq_B, DL.ne_B, DL.wp_mapE, DL.map_id_int, DL.cut_f, DL.cut_t, DL.cut_f1, DL.map_drop', DL.map_take', DL.map_app', DL.len_zip, DL.inDM_a, DL.dkOf_i, DL.sortIM_a, DL.newDispM_a, DL.keyOf_i, DL.whileK_nx, PG.anyD_map, PG.allD_map', PG.enum_ir, DL.wipX_a, DL.ifX_a, DL.grpX_a, DL.appX_a, DL.forX_a, DL.ifC_a, DL.exprC_a, DL.llM_a, DL.llK_0, PG.eq_BB, PG.ne_BB, PG.allT_t, DL.runX_a, DL.finX_rt, DL.finX_ex, DL.finX_nx, DL.isN_i, DL.isNotN_i, DL.isNotN_n, DL.rngL_g1, PG.eq_OO, PG.ne_OO, PG.in_O, Nat.reduceAdd, Nat.reduceSub, Nat.reduceMul, Int.reduceLT, Int.reduceLE, Int.reducePow, Int.reduceNeg, Int.reduceAdd, Int.reduceSub, Int.reduceMul, Int.reduceBEq, Int.reduceBNe, Int.reduceToNat, $xs,*])
namespace PG
open PySem L2 DL GT RX
/-! probes as a set -/
/-! short -/
end PG
local macro_rules | `(tactic| simp_arith [$xs,*]) => `(tactic| simp (maxSteps := 2000000) (disch := omega) only [DL.ob_some, DL.om_some, DL.dat_d, DL.lis_l, DL.dic_m, DL.gt_0, DL.gt_1, DL.gt_2, DL.gt_3, DL.gt_4, DL.gt_5, DL.gt_6, DL.gt_7, DL.gt_b, DL.st_0, DL.st_s, DL.plG_d, DL.plG_n, DL.plainAt_a, DL.varM_a, DL.ownM_a, DL.cM_a, DL.ofL_a, DL.opM_a, DL.opOwnM_a, DL.unM_a, DL.truM_a, DL.tstM_a, DL.notM_a, DL.cnd_t, DL.cnd_f, DL.andM_a, DL.orM_a, DL.andVM_a, DL.orVM_a, DL.notVM_a, DL.iteM_a, DL.chM_a, DL.nilM_a, DL.consM_a, DL.guard_tt, DL.tupM_a, DL.lstM_a, DL.noM_a, DL.intV_i, DL.someM_a, DL.slM_a, DL.rng1M_a, DL.rng2M_a, DL.zipV_t, DL.zipV_l, DL.zipM_a, DL.seqM_a, DL.callM_a, DL.hereM_a, DL.callRM_a, DL.appM_a, DL.lisV_l, DL.extM_a, DL.popM_a, DL.popAtM_a, DL.newDM_a, DL.putM_a, DL.lenDM_a, DL.sortDM_a, DL.nameG_a, DL.nilG_a, DL.consG_a, DL.tupG_a, DL.seqS_a, DL.seqK_nx, DL.seqK_rt, DL.seqK_ct, DL.skipM_a, DL.asgM_a, DL.asgG_a, DL.newM_a, DL.asgLM_a, DL.retM_a, DL.exprM_a, DL.ifM_a, DL.forM_a, DL.frzM_a, DL.runF_a, DL.finF_rt, DL.finF_nx, DL.runR_a, DL.finR_rt, DL.finR_nx, DL.sz_0, DL.sz_1, DL.sz_2, DL.sz_3, DL.sz_4, DL.sz_5, DL.sz_6, DL.sz_7, DL.sz_8, DL.sz_9, DL.sz_10, DL.sz_11, DL.sz_12, DL.sz_13, DL.sz_14, DL.sz_15, DL.sz_16, DL.sz_17, DL.sz_18, DL.sz_19, DL.sz_20, DL.sz_21, DL.sz_22, DL.sz_23, DL.sz_24, DL.sz_25, DL.sz_26, DL.sz_27, DL.sz_28, DL.sz_29, DL.sz_30, DL.nc_0, DL.nc_1, DL.nc_2, DL.nc_3, DL.nc_4, DL.nc_5, DL.nc_6, DL.nc_7, DL.nc_8, DL.nc_9, DL.nc_10, DL.nc_11, DL.nc_12, DL.nc_13, DL.nc_14, DL.nc_15, DL.nc_16, DL.nc_17, DL.nc_18, DL.nc_19, DL.nc_20, DL.nc_21, DL.nc_22, DL.nc_23, DL.nc_24, DL.nc_25, DL.nc_26, DL.nc_27, DL.nc_28, DL.nc_29, DL.nc_30, DL.addD_i, DL.addD_t, DL.addD_l, DL.subD_i, DL.modD_i, DL.fdivD_i, DL.mulD_i, DL.lenD_t, DL.lenD_l, DL.tupleD_t, DL.tupleD_l, DL.truD_i, DL.truD_b, DL.truD_n, DL.truD_l, DL.truD_t, DL.ixD_t, DL.ixD_l, DL.negD_i, DL.bD_a, DL.ltB_i, DL.leB_i, DL.eqB_i, DL.neB_i, DL.min2D_i, DL.max2D_i, DL.items_t, DL.items_l, DL.intD_b, DL.isNN, DL.slD_t, DL.slD_l, DL.sortD2_l, DL.sortD2_t, DL.p_ge0, DL.p_geS, DL.p_tk0, DL.p_tkS, DL.p_tkN, DL.p_dr0, DL.p_drS, DL.p_drN, DL.p_mpC, DL.p_mpN, DL.p_apC, DL.p_apN, DL.p_lnC, DL.p_lnN, DL.p_rpS, DL.p_rp0, DL.p_alC, DL.p_alN, DL.p_gdS, DL.p_gdN, DL.p_tlS, DL.p_tlN, DL.p_ieC, DL.p_ieN, DL.p_nt, DL.p_nf, DL.p_atb, DL.p_afb, DL.p_abt, DL.p_abf, DL.p_eqS, DL.p_dT, DL.p_dF, DL.p_TA, DL.p_AT, DL.p_TO, DL.p_OT, DL.p_startD, DL.p_startR, DL.forK_nx, DL.forK_ct, DL.forK_rt, DL.yesM_a, DL.it1_a, DL.compM_a, DL.wipeR_c, DL.wipeR_n, DL.restR_c, DL.restR_n, DL.gtD_i, DL.gtD_T, DL.ob_assoc, DL.om_bind, DL.ob_map, DL.om_map, DL.cnd_bind, DL.cnd_map, DL.guard_bind, DL.guard_map, DL.atI_c0, DL.atI_c1, DL.atI_c2, DL.atI_c3, DL.encN_0, DL.encN_1, DL.encN_2, DL.encN_u, DL.eq_TI, DL.ne_TI, DL.in_I, DL.in_Il, DL.in_T, DL.in_R, DL.notInB_a, DL.enumM_a, DL.exM_a, DL.seqK_ex, DL.finF_ex, DL.forK_ex, DL.tri_no, DL.trm_no, DL.atI_neg1, DL.wipO_nx, DL.wipO_ct, DL.wipO_bk, DL.wipO_rt, DL.wipO_ex, DL.wipM_a, DL.preM_a, DL.two_a, DL.parLM_a, DL.finR_ex, DL.len_map, DL.len_app, DL.len_ir, DL.len_rev, DL.sz_c, DL.rng_c, DL.rngL_n, DL.forM_a', DL.rev_map, DL.seqK_bk, DL.forK_bk, DL.enum_m, DL.emp_map, PG.Sq_failing_1_a, PG.Sq_failing_2_a, PG.Sq_twins_1_a, PG.Sq_twins_2_a, PG.Sq_suspects_1_a, PG.Sq_suspects_2_a, PG.Sq_the_one_1_a, PG.Sq_cases_1_a, PG.Sq_split_1_a, PG.Sq_shortest_1_a, PG.Sq_shortest_2_a, PG.Sq_written_1_a, PG.Sq_tie_in_1_a, PG.Sq_read_1_a, PG.Sq_read_2_a, PG.Sq_read_3_a, PG.Sq_read_4_a, DL.eq_LI, DL.ne_LI, DL.eq_LI0, DL.ne_LI0, DL.eq_LT, DL.ne_LT, DL.eq_LR, DL.ne_LR, DL.eq_TR, DL.ne_TR, DL.eq_B, DL.ne_B, DL.wp_mapE, DL.map_id_int, DL.cut_f, DL.cut_t, DL.cut_f1, DL.map_drop', DL.map_take', DL.map_app', DL.len_zip, DL.inDM_a, DL.dkOf_i, DL.sortIM_a, DL.newDispM_a, DL.keyOf_i, DL.whileK_nx, PG.anyD_map, PG.allD_map', PG.enum_ir, DL.wipX_a, DL.ifX_a, DL.grpX_a, DL.appX_a, DL.forX_a, DL.ifC_a, DL.exprC_a, DL.llM_a, DL.llK_0, PG.eq_BB, PG.ne_BB, PG.allT_t, DL.runX_a, DL.finX_rt, DL.finX_ex, DL.finX_nx, DL.isN_i, DL.isNotN_i, DL.isNotN_n, DL.rngL_g1, PG.eq_OO, PG.ne_OO, PG.in_O, Nat.reduceAdd, Nat.reduceSub, Nat.reduceMul, Int.reduceLT, Int.reduceLE, Int.reducePow, Int.reduceNeg, Int.reduceAdd, Int.reduceSub, Int.reduceMul, Int.reduceBEq, Int.reduceBNe, Int.reduceToNat, $xs,*])
namespace PG
open PySem L2 DL GT RX
end PG
namespace PG
open PySem L2 DL GT RX
/-! any thing as a row of whole numbers -/
/-! cuts -/
/-! barrings -/
end PG
namespace PG
open PySem L2 DL GT RX
end PG
namespace PG
open PySem L2 DL GT RX PySem.W
/-! the cases of a plan -/
theorem grp_first {row : Int → List Int} {pre : List Int} (up : pre.Pairwise (· < ·)) {t : Int} (m : t ∈ firstsF row pre) : ∃ l, groupF row pre t = t :: l := by
  obtain ⟨mt, ft⟩ := List.mem_filter.mp m
  have ft := of_decide_eq_true ft
  obtain ⟨u, l, e, ru, mu⟩ := group_head (row := row) mt
  refine ⟨l, ?_⟩
  rw [e]
  congr 1
  have up2 := up.filter (fun u => decide (row u = row t))
  have e' : pre.filter (fun u => decide (row u = row t)) = u :: l := e
  have mg : t ∈ u :: l := by rw [← e']; exact List.mem_filter.mpr ⟨mt, by simp⟩
  rw [e'] at up2
  rcases List.mem_cons.mp mg with q | q
  · exact q.symm
  · exact absurd ru (ft u mu ((List.pairwise_cons.mp up2).1 t q))
def casesT (N : Net) : List Int := (firstsF (rowF N (routes N)) (ir N.ties.length)).filter fun t => decide (t ∉ unseenL N (routes N))
def casesL (N : Net) : List (Option Int) := none :: (casesT N).map some
theorem casesT_len (N : Net) : (casesT N).length ≤ N.ties.length := by
  refine Nat.le_trans (List.length_filter_le _ _) (Nat.le_trans (List.length_filter_le _ _) ?_)
  rw [ir_len]
  exact Nat.le_refl _
theorem cases_eval {N : Net} (w : N.WF) (ht : N.ties.length ≤ 900) : g_cases [encN N] = some (.tuple ((casesL N).map encO)) := by
  have un := unseen_eval (probes_routes w) ht
  have kd := kinds_eval w ht
  have many := routes_many w
  have cl := casesT_len N
  have fl : (firstsF (rowF N (routes N)) (ir N.ties.length)).length ≤ N.ties.length := by
    refine Nat.le_trans (List.length_filter_le _ _) ?_
    rw [ir_len]
    exact Nat.le_refl _
  have e : TR (twinsL N (routes N)) = .tuple ((firstsF (rowF N (routes N)) (ir N.ties.length)).map fun t => TI (groupF (rowF N (routes N)) (ir N.ties.length) t)) := by
    show PyData.tuple _ = _
    unfold twinsL twinsF
    rw [List.map_map]
    rfl
  rw [e] at kd
  refine wp_val ?_
  unfold g_cases b_cases N_cases
  have re : g_routes [encN N] = some (TR (routes N)) := routes_eval w
  simp_arith [re, un, kd]
  refine wp_cfil (fun t => decide (t ∉ unseenL N (routes N))) PyData.int (fun t m => ?_) ?_
  · obtain ⟨l, el⟩ := grp_first (ir_sorted _) m
    have ix : ixD (TI (groupF (rowF N (routes N)) (ir N.ties.length) t)) (.int 0) = some (.int t) := by
      rw [el]
      simp_arith [DL.p_nt]
    unfold Ct_cases_1 Ce_cases_1
    by_cases q : t ∈ unseenL N (routes N)
    · have q1 : decide (t ∈ unseenL N (routes N)) = true := decide_eq_true q
      simp_arith [-DL.ixD_t, ix, q1]
      refine wp_ok ?_
      rw [if_neg (by simp [q])]
    · have q1 : decide (t ∈ unseenL N (routes N)) = false := decide_eq_false q
      simp_arith [-DL.ixD_t, ix, q1]
      refine wp_ok ?_
      rw [if_pos (by simp [q])]
  · show wp (_) _
    have ec : (firstsF (rowF N (routes N)) (ir N.ties.length)).filter (fun t => decide (t ∉ unseenL N (routes N))) = casesT N := rfl
    rw [ec]
    have e2 : PyData.tuple ((casesL N).map encO) = .tuple ([PyData.none] ++ (casesT N).map PyData.int) := by
      unfold casesL
      rw [List.map_cons, List.map_map]
      rfl
    rw [e2]
    simp_arith [DL.p_nt]
    exact wp_ok rfl
/-! what a probe leaves of some cases -/
def inRow (row : List Int) (o : Option Int) : Bool := decide (o ∈ row.map some)
theorem in_row (o : Option Int) (row : List Int) : inB (encO o) (.tuple (row.map .int)) = some (inRow row o) := by
  have := in_O o (row.map some)
  rw [List.map_map] at this
  exact this
theorem split_eval {N : Net} (w : N.WF) {r : List Int} (m : r ∈ routes N) (some_ : List (Option Int)) (few : some_.length ≤ 1000) : g_split [encN N, TI r, .tuple (some_.map encO)] = some (.tuple [.tuple ((some_.filter fun o => !inRow (tiesOf N r) o).map encO), .tuple ((some_.filter (inRow (tiesOf N r))).map encO)]) := by
  have to : g_ties_of [encN N, TI r] = some (TI (tiesOf N r)) := ties_of_route w m
  have f1 := List.length_filter_le (fun o => !inRow (tiesOf N r) o) some_
  have f2 := List.length_filter_le (inRow (tiesOf N r)) some_
  refine wp_val ?_
  unfold g_split b_split N_split
  simp_arith [to]
  refine wp_cfil (fun o => !inRow (tiesOf N r) o) encO (fun o mo => ?_) ?_
  · unfold Ct_split_1 Ce_split_1
    cases q : inRow (tiesOf N r) o
    · simp_arith [in_row, q]
      exact wp_ok rfl
    · simp_arith [in_row, q]
      exact wp_ok rfl
  · simp_arith [DL.p_nt]
    refine wp_cfil (inRow (tiesOf N r)) encO (fun o mo => ?_) ?_
    · unfold Ct_split_2 Ce_split_2
      cases q : inRow (tiesOf N r) o
      · simp_arith [in_row, q]
        exact wp_ok rfl
      · simp_arith [in_row, q]
        exact wp_ok rfl
    · simp_arith [DL.p_nt]
      exact wp_ok rfl
end PG
namespace PG
open PySem L2 DL GT RX PySem.W
/-! any thing as a plan -/
/-- a thing that is not too long -/
def fit : Nat → D → Bool
  | _, .none => true
  | _, .bool _ => true
  | _, .int _ => true
  | _, .str x => PyData.strOk x && decide (x.length ≤ 900)
  | k + 1, .tuple xs => decide (xs.length ≤ 900) && xs.all (fit k)
  | k + 1, .list xs => decide (xs.length ≤ 900) && xs.all (fit k)
  | _, _ => false
theorem neB_sh {a b : D} (ha : SeqAt.shaped a = true) (hb : SeqAt.shaped b = true) : neB a b = some (!PyData.eqv a b) := by
  unfold neB
  rw [ha, hb]
  rfl
end PG
namespace DL
open PySem L2 GT
end DL
namespace PG
open PySem L2 DL GT RX
/-! groups -/
end PG
/-! plain: as many ties part two knots as there are ways without a tie together (flows of ones) -/
namespace GT
/-! sums over a list -/
def S {α : Type} (l : List α) (g : α → Int) : Int := (l.map g).sum
section
variable {α β : Type}
theorem S_nil (g : α → Int) : S [] g = 0 := rfl
theorem S_cons (a : α) (l : List α) (g : α → Int) : S (a :: l) g = g a + S l g := by simp [S]
theorem S_add (l : List α) (g h : α → Int) : S l (fun x => g x + h x) = S l g + S l h := by
  induction l with
  | nil => rfl
  | cons a l ih => simp only [S_cons, ih]; omega
theorem S_neg (l : List α) (g : α → Int) : S l (fun x => - g x) = - S l g := by
  induction l with
  | nil => rfl
  | cons a l ih => simp only [S_cons, ih]; omega
theorem S_congr {l : List α} {g h : α → Int} (e : ∀ x ∈ l, g x = h x) : S l g = S l h := by
  induction l with
  | nil => rfl
  | cons a l ih => rw [S_cons, S_cons, e a (by simp), ih fun x m => e x (List.mem_cons_of_mem _ m)]
theorem S_zero {l : List α} {g : α → Int} (e : ∀ x ∈ l, g x = 0) : S l g = 0 := by
  rw [S_congr e]
  induction l with
  | nil => rfl
  | cons a l ih => rw [S_cons, ih fun x m => e x (List.mem_cons_of_mem _ m)]; rfl
theorem S_mul (l : List α) (c : Int) (g : α → Int) : S l (fun x => c * g x) = c * S l g := by
  induction l with
  | nil => simp [S_nil]
  | cons a l ih => simp only [S_cons, ih, Int.mul_add]
theorem S_swap (l : List α) (m : List β) (g : α → β → Int) : S l (fun x => S m (g x)) = S m (fun y => S l (fun x => g x y)) := by
  induction l with
  | nil => rw [S_nil, S_zero]; intro y _; rfl
  | cons a l ih =>
    rw [S_cons, ih, ← S_add]
    exact S_congr fun y _ => by rw [S_cons]
theorem S_one [DecidableEq α] {l : List α} (nd : l.Nodup) (a : α) (c : Int) : S l (fun x => if x = a then c else 0) = if a ∈ l then c else 0 := by
  induction l with
  | nil => simp [S_nil]
  | cons b l ih =>
    have nd' := List.nodup_cons.mp nd
    rw [S_cons, ih nd'.2]
    by_cases e : b = a
    · subst e
      rw [if_pos rfl, if_neg nd'.1, if_pos (by simp)]; omega
    · rw [if_neg e]
      by_cases m : a ∈ l
      · rw [if_pos m, if_pos (List.mem_cons_of_mem _ m)]; omega
      · rw [if_neg m, if_neg (by simp [m, Ne.symm e])]; omega
end
/-! ways by a relation -/
inductive Rch (R : Int → Int → Prop) (a : Int) : Int → Prop
  | refl : Rch R a a
  | step {b c : Int} : Rch R a b → R b c → Rch R a c
/-- next to one another in a row -/
def Nx : List Int → Int → Int → Prop
  | u :: v :: l, x, y => (x = u ∧ y = v) ∨ Nx (v :: l) x y
  | _, _, _ => False
theorem Nx.of_append : ∀ {p q : List Int} {x y : Int}, Nx p x y → Nx (p ++ q) x y
  | u :: v :: l, q, x, y, h => by
    rcases h with h | h
    · exact .inl h
    · exact .inr (Nx.of_append (p := v :: l) h)
theorem Nx.snoc : ∀ {p : List Int} {b c x y : Int}, p.getLast? = some b → Nx (p ++ [c]) x y → Nx p x y ∨ (x = b ∧ y = c)
  | [], _, _, _, _, h, _ => by simp at h
  | [u], b, c, x, y, h, n => by
    simp at h
    subst h
    rcases n with n | n
    · exact .inr n
    · exact n.elim
  | u :: v :: l, b, c, x, y, h, n => by
    rcases n with n | n
    · exact .inl (.inl n)
    · have h' : (v :: l).getLast? = some b := by rwa [List.getLast?_cons_cons] at h
      rcases Nx.snoc (p := v :: l) h' n with n | n
      · exact .inl (.inr n)
      · exact .inr n
theorem Rch.way {R : Int → Int → Prop} {a b : Int} (h : Rch R a b) : ∃ p : List Int, p.Nodup ∧ p.head? = some a ∧ p.getLast? = some b ∧ ∀ x y, Nx p x y → R x y := by
  induction h with
  | refl => exact ⟨[a], by simp, rfl, rfl, fun x y n => n.elim⟩
  | @step b c _ hr ih =>
    obtain ⟨p, h1, h2, h3, h4⟩ := ih
    by_cases m : c ∈ p
    · obtain ⟨s, t, rfl⟩ := List.append_of_mem m
      have e : s ++ c :: t = (s ++ [c]) ++ t := by simp
      refine ⟨s ++ [c], ?_, ?_, by simp, fun x y n => h4 x y ?_⟩
      · rw [e] at h1; exact (List.nodup_append.mp h1).1
      · cases s with
        | nil => simpa using h2
        | cons u s => simpa using h2
      · rw [e]; exact n.of_append
    · refine ⟨p ++ [c], ?_, ?_, by simp, fun x y n => ?_⟩
      · rw [List.nodup_append]
        exact ⟨h1, by simp, fun x mx y my e => by simp at my; subst my; exact m (e ▸ mx)⟩
      · cases p with
        | nil => simp at h2
        | cons u p => simpa using h2
      · rcases n.snoc h3 with n | ⟨rfl, rfl⟩
        · exact h4 x y n
        · exact hr
/-! flows of ones -/
abbrev Fl := Int → Int → Int
structure Flow (N : Net) (a b : Int) (f : Fl) (k : Int) : Prop where
  anti : ∀ u v : Int, f u v = - f v u
  sup : ∀ u v : Int, f u v ≠ 0 → adj N u v = true
  bd : ∀ u v : Int, f u v ≤ 1
  cons : ∀ u : Int, 0 ≤ u → u < N.n → u ≠ a → u ≠ b → S (ir N.n) (f u) = 0
  val : S (ir N.n) (f a) = k
/-! more along a way that has room -/
/-! what goes out of a set of knots -/
open Classical in
noncomputable def ch (X : Int → Prop) (x : Int) : Int := if X x then 1 else 0
theorem ch_cases (X : Int → Prop) (x : Int) : (X x ∧ ch X x = 1) ∨ (¬ X x ∧ ch X x = 0) := by
  unfold ch
  by_cases h : X x
  · exact .inl ⟨h, if_pos h⟩
  · exact .inr ⟨h, if_neg h⟩
theorem inner_zero {l : List Int} {f : Fl} (anti : ∀ u v, f u v = - f v u) (c : Int → Int) : S l (fun u => S l (fun v => c u * c v * f u v)) = 0 := by
  have e1 : S l (fun u => S l (fun v => c u * c v * f u v)) = S l (fun v => S l (fun u => c u * c v * f u v)) := S_swap l l _
  have e2 : S l (fun v => S l (fun u => c u * c v * f u v)) = S l (fun v => - S l (fun u => c v * c u * f v u)) := S_congr fun v _ => by
    rw [← S_neg]
    refine S_congr fun u _ => ?_
    rw [anti u v, Int.mul_comm (c u) (c v), Int.mul_neg]
  rw [S_neg] at e2
  omega
theorem Flow.out {N : Net} {a b : Int} (ha : 0 ≤ a ∧ a < N.n) {f : Fl} {k : Int} (F : Flow N a b f k) {X : Int → Prop} (xa : X a) (xb : ¬ X b) :
    S (ir N.n) (fun u => S (ir N.n) (fun v => ch X u * (1 - ch X v) * f u v)) = k := by
  have ca : ch X a = 1 := (ch_cases X a).elim (·.2) (fun h => absurd xa h.1)
  have cb : ch X b = 0 := (ch_cases X b).elim (fun h => absurd h.1 xb) (·.2)
  have h1 : S (ir N.n) (fun u => ch X u * S (ir N.n) (f u)) = k := by
    have e : ∀ u ∈ ir N.n, ch X u * S (ir N.n) (f u) = if u = a then k else 0 := fun u mu => by
      have hu := mem_ir.mp mu
      by_cases c : u = a
      · subst c; rw [if_pos rfl, ca, F.val]; omega
      · rw [if_neg c]
        by_cases c2 : u = b
        · subst c2; rw [cb]; omega
        · rw [F.cons u hu.1 hu.2 c c2]; omega
    rw [S_congr e, S_one (ir_nodup _), if_pos (mem_ir.mpr ha)]
  have h2 : S (ir N.n) (fun u => ch X u * S (ir N.n) (f u)) = S (ir N.n) (fun u => S (ir N.n) (fun v => ch X u * ch X v * f u v)) + S (ir N.n) (fun u => S (ir N.n) (fun v => ch X u * (1 - ch X v) * f u v)) := by
    rw [← S_add]
    refine S_congr fun u _ => ?_
    rw [← S_add, ← S_mul]
    refine S_congr fun v _ => ?_
    rcases ch_cases X u with ⟨_, c1⟩ | ⟨_, c1⟩ <;> rcases ch_cases X v with ⟨_, c2⟩ | ⟨_, c2⟩ <;> rw [c1, c2] <;> omega
  rw [inner_zero F.anti (ch X)] at h2
  omega
end GT
namespace GT
/-! ways out of a flow -/
/-! the ties that go out -/
end GT
namespace PG
open PySem L2 DL GT RX
/-! choices -/
/-! the least cut -/
end PG
namespace PG
open PySem L2 DL GT RX
section
variable {N : Net} {a b : Int}
/-! ways and routes -/
theorem nx_linked : ∀ {p : List Int}, (∀ x y, Nx p x y → adj N x y = true) → linked N p = true
  | [], _ => rfl
  | [_], _ => rfl
  | u :: v :: l, h => linked_cons.mpr ⟨h u v (.inl ⟨rfl, rfl⟩), nx_linked fun x y n => h x y (.inr n)⟩
theorem linked_nx : ∀ {p : List Int}, linked N p = true → ∀ x y, Nx p x y → adj N x y = true
  | u :: v :: l, h, x, y, n => by
    obtain ⟨h1, h2⟩ := linked_cons.mp h
    rcases n with ⟨rfl, rfl⟩ | n
    · exact h1
    · exact linked_nx h2 x y n
/-- a way without broken ties leads -/
theorem way_reach : ∀ {p : List Int} {a b : Int}, p.head? = some a → p.getLast? = some b → (∀ x y, Nx p x y → adj N x y = true) → Reach N a b
  | [], _, _, h, _, _ => by simp at h
  | [u], a, b, h1, h2, _ => by simp at h1 h2; subst h1 h2; exact .refl
  | u :: v :: l, a, b, h1, h2, h => by
    have e : u = a := by simpa using h1
    subst e
    have h2' : (v :: l).getLast? = some b := by rwa [List.getLast?_cons_cons] at h2
    exact Reach.head (h u v (.inl ⟨rfl, rfl⟩)) (way_reach (p := v :: l) rfl h2' fun x y n => h x y (.inr n))
theorem reach_way {M : Net} (h : Reach M a b) : ∃ p : List Int, p.Nodup ∧ p.head? = some a ∧ p.getLast? = some b ∧ ∀ x y, Nx p x y → adj M x y = true := by
  have r : Rch (fun x y => adj M x y = true) a b := by
    induction h with
    | refl => exact .refl
    | step _ hs ih => exact ih.step hs
  exact r.way
theorem mem_between (w : N.WF) {r : List Int} (ab : a < b) : r ∈ between N a b ↔ IsRoute N r ∧ r.head? = some a ∧ r.getLast? = some b := by
  unfold between
  rw [List.mem_filter, decide_eq_true_eq, Int.min_eq_left (by omega), Int.max_eq_right (by omega), mem_routes w]
theorem way_route (w : N.WF) (ab : a < b) (ra : a ∈ N.rim) (rb : b ∈ N.rim) {p : List Int} (h0 : p.Nodup) (h1 : p.head? = some a) (h2 : p.getLast? = some b) (h3 : ∀ x y, Nx p x y → adj N x y = true) : p ∈ between N a b := by
  rw [mem_between w ab]
  refine ⟨⟨?_, h0, nx_linked h3, a, b, h1, h2, ra, rb, ab⟩, h1, h2⟩
  match p, h1, h2 with
  | [], h1, _ => simp at h1
  | [u], h1, h2 => simp at h1 h2; omega
  | _ :: _ :: _, _, _ => simp
end
end PG
namespace PG
open PySem L2 DL GT RX
end PG
namespace PG
open PySem L2 DL GT RX
end PG
namespace PG
open PySem L2 DL GT RX
section
variable {N : Net} {a b : Int}
theorem between_nil (w : N.WF) (ab : a < b) (ra : a ∈ N.rim) (rb : b ∈ N.rim) : between N a b = [] ↔ ¬ Reach N a b := by
  constructor
  · intro e r
    obtain ⟨p, h0, h1, h2, h3⟩ := reach_way r
    have := way_route w ab ra rb h0 h1 h2 h3
    rw [e] at this
    cases this
  · intro h
    refine List.eq_nil_iff_forall_not_mem.mpr fun r m => h ?_
    obtain ⟨hr, h1, h2⟩ := (mem_between w ab).mp m
    exact way_reach h1 h2 (linked_nx hr.lk)
end
end PG
local macro_rules | `(tactic| simp_arith [$xs,*]) => `(tactic| simp (maxSteps := 2000000) (disch := omega) only [DL.ob_some, DL.om_some, DL.dat_d, DL.lis_l, DL.dic_m, DL.gt_0, DL.gt_1, DL.gt_2, DL.gt_3, DL.gt_4, DL.gt_5, DL.gt_6, DL.gt_7, DL.gt_b, DL.st_0, DL.st_s, DL.plG_d, DL.plG_n, DL.plainAt_a, DL.varM_a, DL.ownM_a, DL.cM_a, DL.ofL_a, DL.opM_a, DL.opOwnM_a, DL.unM_a, DL.truM_a, DL.tstM_a, DL.notM_a, DL.cnd_t, DL.cnd_f, DL.andM_a, DL.orM_a, DL.andVM_a, DL.orVM_a, DL.notVM_a, DL.iteM_a, DL.chM_a, DL.nilM_a, DL.consM_a, DL.guard_tt, DL.tupM_a, DL.lstM_a, DL.noM_a, DL.intV_i, DL.someM_a, DL.slM_a, DL.rng1M_a, DL.rng2M_a, DL.zipV_t, DL.zipV_l, DL.zipM_a, DL.seqM_a, DL.callM_a, DL.hereM_a, DL.callRM_a, DL.appM_a, DL.lisV_l, DL.extM_a, DL.popM_a, DL.popAtM_a, DL.newDM_a, DL.putM_a, DL.lenDM_a, DL.sortDM_a, DL.nameG_a, DL.nilG_a, DL.consG_a, DL.tupG_a, DL.seqS_a, DL.seqK_nx, DL.seqK_rt, DL.seqK_ct, DL.skipM_a, DL.asgM_a, DL.asgG_a, DL.newM_a, DL.asgLM_a, DL.retM_a, DL.exprM_a, DL.ifM_a, DL.forM_a, DL.frzM_a, DL.runF_a, DL.finF_rt, DL.finF_nx, DL.runR_a, DL.finR_rt, DL.finR_nx, DL.sz_0, DL.sz_1, DL.sz_2, DL.sz_3, DL.sz_4, DL.sz_5, DL.sz_6, DL.sz_7, DL.sz_8, DL.sz_9, DL.sz_10, DL.sz_11, DL.sz_12, DL.sz_13, DL.sz_14, DL.sz_15, DL.sz_16, DL.sz_17, DL.sz_18, DL.sz_19, DL.sz_20, DL.sz_21, DL.sz_22, DL.sz_23, DL.sz_24, DL.sz_25, DL.sz_26, DL.sz_27, DL.sz_28, DL.sz_29, DL.sz_30, DL.nc_0, DL.nc_1, DL.nc_2, DL.nc_3, DL.nc_4, DL.nc_5, DL.nc_6, DL.nc_7, DL.nc_8, DL.nc_9, DL.nc_10, DL.nc_11, DL.nc_12, DL.nc_13, DL.nc_14, DL.nc_15, DL.nc_16, DL.nc_17, DL.nc_18, DL.nc_19, DL.nc_20, DL.nc_21, DL.nc_22, DL.nc_23, DL.nc_24, DL.nc_25, DL.nc_26, DL.nc_27, DL.nc_28, DL.nc_29, DL.nc_30, DL.addD_i, DL.addD_t, DL.addD_l, DL.subD_i, DL.modD_i, DL.fdivD_i, DL.mulD_i, DL.lenD_t, DL.lenD_l, DL.tupleD_t, DL.tupleD_l, DL.truD_i, DL.truD_b, DL.truD_n, DL.truD_l, DL.truD_t, DL.ixD_t, DL.ixD_l, DL.negD_i, DL.bD_a, DL.ltB_i, DL.leB_i, DL.eqB_i, DL.neB_i, DL.min2D_i, DL.max2D_i, DL.items_t, DL.items_l, DL.intD_b, DL.isNN, DL.slD_t, DL.slD_l, DL.sortD2_l, DL.sortD2_t, DL.p_ge0, DL.p_geS, DL.p_tk0, DL.p_tkS, DL.p_tkN, DL.p_dr0, DL.p_drS, DL.p_drN, DL.p_mpC, DL.p_mpN, DL.p_apC, DL.p_apN, DL.p_lnC, DL.p_lnN, DL.p_rpS, DL.p_rp0, DL.p_alC, DL.p_alN, DL.p_gdS, DL.p_gdN, DL.p_tlS, DL.p_tlN, DL.p_ieC, DL.p_ieN, DL.p_nt, DL.p_nf, DL.p_atb, DL.p_afb, DL.p_abt, DL.p_abf, DL.p_eqS, DL.p_dT, DL.p_dF, DL.p_TA, DL.p_AT, DL.p_TO, DL.p_OT, DL.p_startD, DL.p_startR, DL.forK_nx, DL.forK_ct, DL.forK_rt, DL.yesM_a, DL.it1_a, DL.compM_a, DL.wipeR_c, DL.wipeR_n, DL.restR_c, DL.restR_n, DL.gtD_i, DL.gtD_T, DL.ob_assoc, DL.om_bind, DL.ob_map, DL.om_map, DL.cnd_bind, DL.cnd_map, DL.guard_bind, DL.guard_map, DL.atI_c0, DL.atI_c1, DL.atI_c2, DL.atI_c3, DL.encN_0, DL.encN_1, DL.encN_2, DL.encN_u, DL.eq_TI, DL.ne_TI, DL.in_I, DL.in_Il, DL.in_T, DL.in_R, DL.notInB_a, DL.enumM_a, DL.exM_a, DL.seqK_ex, DL.finF_ex, DL.forK_ex, DL.tri_no, DL.trm_no, DL.atI_neg1, DL.wipO_nx, DL.wipO_ct, DL.wipO_bk, DL.wipO_rt, DL.wipO_ex, DL.wipM_a, DL.preM_a, DL.two_a, DL.parLM_a, DL.finR_ex, DL.len_map, DL.len_app, DL.len_ir, DL.len_rev, DL.sz_c, DL.rng_c, DL.rngL_n, DL.forM_a', DL.rev_map, DL.seqK_bk, DL.forK_bk, DL.enum_m, DL.emp_map, PG.Sq_failing_1_a, PG.Sq_failing_2_a, PG.Sq_twins_1_a, PG.Sq_twins_2_a, PG.Sq_suspects_1_a, PG.Sq_suspects_2_a, PG.Sq_the_one_1_a, PG.Sq_cases_1_a, PG.Sq_split_1_a, PG.Sq_shortest_1_a, PG.Sq_shortest_2_a, PG.Sq_written_1_a, PG.Sq_tie_in_1_a, PG.Sq_read_1_a, PG.Sq_read_2_a, PG.Sq_read_3_a, PG.Sq_read_4_a, DL.eq_LI, DL.ne_LI, DL.eq_LI0, DL.ne_LI0, DL.eq_LT, DL.ne_LT, DL.eq_LR, DL.ne_LR, DL.eq_TR, DL.ne_TR, DL.eq_B, DL.ne_B, DL.wp_mapE, DL.map_id_int, DL.cut_f, DL.cut_t, DL.cut_f1, DL.map_drop', DL.map_take', DL.map_app', DL.len_zip, DL.inDM_a, DL.dkOf_i, DL.sortIM_a, DL.newDispM_a, DL.keyOf_i, DL.whileK_nx, PG.anyD_map, PG.allD_map', PG.enum_ir, DL.wipX_a, DL.ifX_a, DL.grpX_a, DL.appX_a, DL.forX_a, DL.ifC_a, DL.exprC_a, DL.llM_a, DL.llK_0, PG.eq_BB, PG.ne_BB, PG.allT_t, Nat.reduceAdd, Nat.reduceSub, Nat.reduceMul, Int.reduceLT, Int.reduceLE, Int.reducePow, Int.reduceNeg, Int.reduceAdd, Int.reduceSub, Int.reduceMul, Int.reduceBEq, Int.reduceBNe, Int.reduceToNat, $xs,*])
namespace FA
open PySem L2 DL GT PG RX
theorem isNot_bb (a b : Bool) : isNotB (.bool a) (.bool b) = some (!(a == b)) := (rfl)
end FA
local macro_rules | `(tactic| simp_arith [$xs,*]) => `(tactic| simp (maxSteps := 2000000) (disch := omega) only [DL.ob_some, DL.om_some, DL.dat_d, DL.lis_l, DL.dic_m, DL.gt_0, DL.gt_1, DL.gt_2, DL.gt_3, DL.gt_4, DL.gt_5, DL.gt_6, DL.gt_7, DL.gt_b, DL.st_0, DL.st_s, DL.plG_d, DL.plG_n, DL.plainAt_a, DL.varM_a, DL.ownM_a, DL.cM_a, DL.ofL_a, DL.opM_a, DL.opOwnM_a, DL.unM_a, DL.truM_a, DL.tstM_a, DL.notM_a, DL.cnd_t, DL.cnd_f, DL.andM_a, DL.orM_a, DL.andVM_a, DL.orVM_a, DL.notVM_a, DL.iteM_a, DL.chM_a, DL.nilM_a, DL.consM_a, DL.guard_tt, DL.tupM_a, DL.lstM_a, DL.noM_a, DL.intV_i, DL.someM_a, DL.slM_a, DL.rng1M_a, DL.rng2M_a, DL.zipV_t, DL.zipV_l, DL.zipM_a, DL.seqM_a, DL.callM_a, DL.hereM_a, DL.callRM_a, DL.appM_a, DL.lisV_l, DL.extM_a, DL.popM_a, DL.popAtM_a, DL.newDM_a, DL.putM_a, DL.lenDM_a, DL.sortDM_a, DL.nameG_a, DL.nilG_a, DL.consG_a, DL.tupG_a, DL.seqS_a, DL.seqK_nx, DL.seqK_rt, DL.seqK_ct, DL.skipM_a, DL.asgM_a, DL.asgG_a, DL.newM_a, DL.asgLM_a, DL.retM_a, DL.exprM_a, DL.ifM_a, DL.forM_a, DL.frzM_a, DL.runF_a, DL.finF_rt, DL.finF_nx, DL.runR_a, DL.finR_rt, DL.finR_nx, DL.sz_0, DL.sz_1, DL.sz_2, DL.sz_3, DL.sz_4, DL.sz_5, DL.sz_6, DL.sz_7, DL.sz_8, DL.sz_9, DL.sz_10, DL.sz_11, DL.sz_12, DL.sz_13, DL.sz_14, DL.sz_15, DL.sz_16, DL.sz_17, DL.sz_18, DL.sz_19, DL.sz_20, DL.sz_21, DL.sz_22, DL.sz_23, DL.sz_24, DL.sz_25, DL.sz_26, DL.sz_27, DL.sz_28, DL.sz_29, DL.sz_30, DL.nc_0, DL.nc_1, DL.nc_2, DL.nc_3, DL.nc_4, DL.nc_5, DL.nc_6, DL.nc_7, DL.nc_8, DL.nc_9, DL.nc_10, DL.nc_11, DL.nc_12, DL.nc_13, DL.nc_14, DL.nc_15, DL.nc_16, DL.nc_17, DL.nc_18, DL.nc_19, DL.nc_20, DL.nc_21, DL.nc_22, DL.nc_23, DL.nc_24, DL.nc_25, DL.nc_26, DL.nc_27, DL.nc_28, DL.nc_29, DL.nc_30, DL.addD_i, DL.addD_t, DL.addD_l, DL.subD_i, DL.modD_i, DL.fdivD_i, DL.mulD_i, DL.lenD_t, DL.lenD_l, DL.tupleD_t, DL.tupleD_l, DL.truD_i, DL.truD_b, DL.truD_n, DL.truD_l, DL.truD_t, DL.ixD_t, DL.ixD_l, DL.negD_i, DL.bD_a, DL.ltB_i, DL.leB_i, DL.eqB_i, DL.neB_i, DL.min2D_i, DL.max2D_i, DL.items_t, DL.items_l, DL.intD_b, DL.isNN, DL.slD_t, DL.slD_l, DL.sortD2_l, DL.sortD2_t, DL.p_ge0, DL.p_geS, DL.p_tk0, DL.p_tkS, DL.p_tkN, DL.p_dr0, DL.p_drS, DL.p_drN, DL.p_mpC, DL.p_mpN, DL.p_apC, DL.p_apN, DL.p_lnC, DL.p_lnN, DL.p_rpS, DL.p_rp0, DL.p_alC, DL.p_alN, DL.p_gdS, DL.p_gdN, DL.p_tlS, DL.p_tlN, DL.p_ieC, DL.p_ieN, DL.p_nt, DL.p_nf, DL.p_atb, DL.p_afb, DL.p_abt, DL.p_abf, DL.p_eqS, DL.p_dT, DL.p_dF, DL.p_TA, DL.p_AT, DL.p_TO, DL.p_OT, DL.p_startD, DL.p_startR, DL.forK_nx, DL.forK_ct, DL.forK_rt, DL.yesM_a, DL.it1_a, DL.compM_a, DL.wipeR_c, DL.wipeR_n, DL.restR_c, DL.restR_n, DL.gtD_i, DL.gtD_T, DL.ob_assoc, DL.om_bind, DL.ob_map, DL.om_map, DL.cnd_bind, DL.cnd_map, DL.guard_bind, DL.guard_map, DL.atI_c0, DL.atI_c1, DL.atI_c2, DL.atI_c3, DL.encN_0, DL.encN_1, DL.encN_2, DL.encN_u, DL.eq_TI, DL.ne_TI, DL.in_I, DL.in_Il, DL.in_T, DL.in_R, DL.notInB_a, DL.enumM_a, DL.exM_a, DL.seqK_ex, DL.finF_ex, DL.forK_ex, DL.tri_no, DL.trm_no, DL.atI_neg1, DL.wipO_nx, DL.wipO_ct, DL.wipO_bk, DL.wipO_rt, DL.wipO_ex, DL.wipM_a, DL.preM_a, DL.two_a, DL.parLM_a, DL.finR_ex, DL.len_map, DL.len_app, DL.len_ir, DL.len_rev, DL.sz_c, DL.rng_c, DL.rngL_n, DL.forM_a', DL.rev_map, DL.seqK_bk, DL.forK_bk, DL.enum_m, DL.emp_map, PG.Sq_failing_1_a, PG.Sq_failing_2_a, PG.Sq_twins_1_a, PG.Sq_twins_2_a, PG.Sq_suspects_1_a, PG.Sq_suspects_2_a, PG.Sq_the_one_1_a, PG.Sq_cases_1_a, PG.Sq_split_1_a, PG.Sq_shortest_1_a, PG.Sq_shortest_2_a, PG.Sq_written_1_a, PG.Sq_tie_in_1_a, PG.Sq_read_1_a, PG.Sq_read_2_a, PG.Sq_read_3_a, PG.Sq_read_4_a, DL.eq_LI, DL.ne_LI, DL.eq_LI0, DL.ne_LI0, DL.eq_LT, DL.ne_LT, DL.eq_LR, DL.ne_LR, DL.eq_TR, DL.ne_TR, DL.eq_B, DL.ne_B, DL.wp_mapE, DL.map_id_int, DL.cut_f, DL.cut_t, DL.cut_f1, DL.map_drop', DL.map_take', DL.map_app', DL.len_zip, DL.inDM_a, DL.dkOf_i, DL.sortIM_a, DL.newDispM_a, DL.keyOf_i, DL.whileK_nx, PG.anyD_map, PG.allD_map', PG.enum_ir, DL.wipX_a, DL.ifX_a, DL.grpX_a, DL.appX_a, DL.forX_a, DL.ifC_a, DL.exprC_a, DL.llM_a, DL.llK_0, PG.eq_BB, PG.ne_BB, PG.allT_t, FA.isNot_bb, Nat.reduceAdd, Nat.reduceSub, Nat.reduceMul, Int.reduceLT, Int.reduceLE, Int.reducePow, Int.reduceNeg, Int.reduceAdd, Int.reduceSub, Int.reduceMul, Int.reduceBEq, Int.reduceBNe, Int.reduceToNat, $xs,*])
local macro_rules | `(tactic| simp_arith [$xs,*]) => `(tactic| simp (maxSteps := 2000000) (disch := omega) only [DL.ob_some, DL.om_some, DL.dat_d, DL.lis_l, DL.dic_m, DL.gt_0, DL.gt_1, DL.gt_2, DL.gt_3, DL.gt_4, DL.gt_5, DL.gt_6, DL.gt_7, DL.gt_b, DL.st_0, DL.st_s, DL.plG_d, DL.plG_n, DL.plainAt_a, DL.varM_a, DL.ownM_a, DL.cM_a, DL.ofL_a, DL.opM_a, DL.opOwnM_a, DL.unM_a, DL.truM_a, DL.tstM_a, DL.notM_a, DL.cnd_t, DL.cnd_f, DL.andM_a, DL.orM_a, DL.andVM_a, DL.orVM_a, DL.notVM_a, DL.iteM_a, DL.chM_a, DL.nilM_a, DL.consM_a, DL.guard_tt, DL.tupM_a, DL.lstM_a, DL.noM_a, DL.intV_i, DL.someM_a, DL.slM_a, DL.rng1M_a, DL.rng2M_a, DL.zipV_t, DL.zipV_l, DL.zipM_a, DL.seqM_a, DL.callM_a, DL.hereM_a, DL.callRM_a, DL.appM_a, DL.lisV_l, DL.extM_a, DL.popM_a, DL.popAtM_a, DL.newDM_a, DL.putM_a, DL.lenDM_a, DL.sortDM_a, DL.nameG_a, DL.nilG_a, DL.consG_a, DL.tupG_a, DL.seqS_a, DL.seqK_nx, DL.seqK_rt, DL.seqK_ct, DL.skipM_a, DL.asgM_a, DL.asgG_a, DL.newM_a, DL.asgLM_a, DL.retM_a, DL.exprM_a, DL.ifM_a, DL.forM_a, DL.frzM_a, DL.runF_a, DL.finF_rt, DL.finF_nx, DL.runR_a, DL.finR_rt, DL.finR_nx, DL.sz_0, DL.sz_1, DL.sz_2, DL.sz_3, DL.sz_4, DL.sz_5, DL.sz_6, DL.sz_7, DL.sz_8, DL.sz_9, DL.sz_10, DL.sz_11, DL.sz_12, DL.sz_13, DL.sz_14, DL.sz_15, DL.sz_16, DL.sz_17, DL.sz_18, DL.sz_19, DL.sz_20, DL.sz_21, DL.sz_22, DL.sz_23, DL.sz_24, DL.sz_25, DL.sz_26, DL.sz_27, DL.sz_28, DL.sz_29, DL.sz_30, DL.nc_0, DL.nc_1, DL.nc_2, DL.nc_3, DL.nc_4, DL.nc_5, DL.nc_6, DL.nc_7, DL.nc_8, DL.nc_9, DL.nc_10, DL.nc_11, DL.nc_12, DL.nc_13, DL.nc_14, DL.nc_15, DL.nc_16, DL.nc_17, DL.nc_18, DL.nc_19, DL.nc_20, DL.nc_21, DL.nc_22, DL.nc_23, DL.nc_24, DL.nc_25, DL.nc_26, DL.nc_27, DL.nc_28, DL.nc_29, DL.nc_30, DL.addD_i, DL.addD_t, DL.addD_l, DL.subD_i, DL.modD_i, DL.fdivD_i, DL.mulD_i, DL.lenD_t, DL.lenD_l, DL.tupleD_t, DL.tupleD_l, DL.truD_i, DL.truD_b, DL.truD_n, DL.truD_l, DL.truD_t, DL.ixD_t, DL.ixD_l, DL.negD_i, DL.bD_a, DL.ltB_i, DL.leB_i, DL.eqB_i, DL.neB_i, DL.min2D_i, DL.max2D_i, DL.items_t, DL.items_l, DL.intD_b, DL.isNN, DL.slD_t, DL.slD_l, DL.sortD2_l, DL.sortD2_t, DL.p_ge0, DL.p_geS, DL.p_tk0, DL.p_tkS, DL.p_tkN, DL.p_dr0, DL.p_drS, DL.p_drN, DL.p_mpC, DL.p_mpN, DL.p_apC, DL.p_apN, DL.p_lnC, DL.p_lnN, DL.p_rpS, DL.p_rp0, DL.p_alC, DL.p_alN, DL.p_gdS, DL.p_gdN, DL.p_tlS, DL.p_tlN, DL.p_ieC, DL.p_ieN, DL.p_nt, DL.p_nf, DL.p_atb, DL.p_afb, DL.p_abt, DL.p_abf, DL.p_eqS, DL.p_dT, DL.p_dF, DL.p_TA, DL.p_AT, DL.p_TO, DL.p_OT, DL.p_startD, DL.p_startR, DL.forK_nx, DL.forK_ct, DL.forK_rt, DL.yesM_a, DL.it1_a, DL.compM_a, DL.wipeR_c, DL.wipeR_n, DL.restR_c, DL.restR_n, DL.gtD_i, DL.gtD_T, DL.ob_assoc, DL.om_bind, DL.ob_map, DL.om_map, DL.cnd_bind, DL.cnd_map, DL.guard_bind, DL.guard_map, DL.atI_c0, DL.atI_c1, DL.atI_c2, DL.atI_c3, DL.encN_0, DL.encN_1, DL.encN_2, DL.encN_u, DL.eq_TI, DL.ne_TI, DL.in_I, DL.in_Il, DL.in_T, DL.in_R, DL.notInB_a, DL.enumM_a, DL.exM_a, DL.seqK_ex, DL.finF_ex, DL.forK_ex, DL.tri_no, DL.trm_no, DL.atI_neg1, DL.wipO_nx, DL.wipO_ct, DL.wipO_bk, DL.wipO_rt, DL.wipO_ex, DL.wipM_a, DL.preM_a, DL.two_a, DL.parLM_a, DL.finR_ex, DL.len_map, DL.len_app, DL.len_ir, DL.len_rev, DL.sz_c, DL.rng_c, DL.rngL_n, DL.forM_a', DL.rev_map, DL.seqK_bk, DL.forK_bk, DL.enum_m, DL.emp_map, PG.Sq_failing_1_a, PG.Sq_failing_2_a, PG.Sq_twins_1_a, PG.Sq_twins_2_a, PG.Sq_suspects_1_a, PG.Sq_suspects_2_a, PG.Sq_the_one_1_a, PG.Sq_cases_1_a, PG.Sq_split_1_a, PG.Sq_shortest_1_a, PG.Sq_shortest_2_a, PG.Sq_written_1_a, PG.Sq_tie_in_1_a, PG.Sq_read_1_a, PG.Sq_read_2_a, PG.Sq_read_3_a, PG.Sq_read_4_a, DL.eq_LI, DL.ne_LI, DL.eq_LI0, DL.ne_LI0, DL.eq_LT, DL.ne_LT, DL.eq_LR, DL.ne_LR, DL.eq_TR, DL.ne_TR, DL.eq_B, DL.ne_B, DL.wp_mapE, DL.map_id_int, DL.cut_f, DL.cut_t, DL.cut_f1, DL.map_drop', DL.map_take', DL.map_app', DL.len_zip, DL.inDM_a, DL.dkOf_i, DL.sortIM_a, DL.newDispM_a, DL.keyOf_i, DL.whileK_nx, PG.anyD_map, PG.allD_map', PG.enum_ir, DL.wipX_a, DL.ifX_a, DL.grpX_a, DL.appX_a, DL.forX_a, DL.ifC_a, DL.exprC_a, DL.llM_a, DL.llK_0, PG.eq_BB, PG.ne_BB, PG.allT_t, DL.runX_a, DL.finX_rt, DL.finX_ex, DL.finX_nx, DL.isN_i, DL.isNotN_i, DL.isNotN_n, DL.rngL_g1, PG.eq_OO, PG.ne_OO, PG.in_O, FA.isNot_bb, Nat.reduceAdd, Nat.reduceSub, Nat.reduceMul, Int.reduceLT, Int.reduceLE, Int.reducePow, Int.reduceNeg, Int.reduceAdd, Int.reduceSub, Int.reduceMul, Int.reduceBEq, Int.reduceBNe, Int.reduceToNat, $xs,*])
namespace PG
open PySem L2 DL GT RX
/-! the first choice that is right -/
/-! how many groups rows tell apart -/
def word (rows : List (List Int)) (t : Int) : List Bool := rows.map fun row => decide (t ∈ row)
def told (rows : List (List Int)) (m : Nat) : Int × Int := (((once ((ir m).map (word rows))).length : Nat), (((ir m).filter fun t => !(word rows t).any id).length : Nat))
/-! told_by and is_enough -/
/-! the fewest -/
end PG
namespace PG
open PySem L2 DL GT RX
/-! the fewest that see all -/
end PG
namespace PG
open PySem L2 DL GT RX
/-! needless, short -/
/-- from the last one on, one by one -/
def shortR (N : Net) : List (List Int) → List (List Int) → List (List Int)
  | [], kept => kept
  | p :: rp, kept => if enoughB N (rp.reverse ++ kept) = true then shortR N rp kept else shortR N rp (p :: kept)
end PG
namespace DL
open PySem L2 GT PySem.W
/-! data that are ordered -/
structure OrdE {α : Type} [DecidableEq α] (k : Nat) (enc : α → D) (lt : α → α → Bool) : Prop where
  al : ∀ a b, alike (enc a) (enc b) = true
  eq : ∀ a b, PyData.eqv (enc a) (enc b) = decide (a = b)
  lt_ : ∀ a b, dataLt (enc a) (enc b) = lt a b
  dep : ∀ a, (enc a).depth ≤ k
  irr : ∀ a, lt a a = false
  tr : ∀ a b c, lt a b = true → lt b c = true → lt a c = true
  tot : ∀ a b, a = b ∨ lt a b = true ∨ lt b a = true
def lexB {α : Type} [DecidableEq α] (lt : α → α → Bool) : List α → List α → Bool
  | [], [] => false
  | [], _ :: _ => true
  | _ :: _, [] => false
  | x :: xs, y :: ys => if x = y then lexB lt xs ys else lt x y
theorem ordE_int : OrdE 1 PyData.int (fun a b : Int => decide (a < b)) where
  al := fun a b => by simp [alike]
  eq := encF_int.eqv
  lt_ := fun a b => dataLt_int a b
  dep := encF_int.dep
  irr := fun a => by simp
  tr := fun a b c h1 h2 => by simp only [decide_eq_true_eq] at *; omega
  tot := fun a b => by simp only [decide_eq_true_eq]; omega
theorem lexB_irr {α : Type} [DecidableEq α] {lt : α → α → Bool} : ∀ a : List α, lexB lt a a = false
  | [] => rfl
  | x :: a => by simp only [lexB, if_true]; exact lexB_irr a
theorem lexB_tr {α : Type} [DecidableEq α] {lt : α → α → Bool} (irr : ∀ a, lt a a = false) (tr : ∀ a b c, lt a b = true → lt b c = true → lt a c = true) : ∀ a b c : List α, lexB lt a b = true → lexB lt b c = true → lexB lt a c = true
  | [], [], _, h, _ => by simp [lexB] at h
  | [], _ :: _, [], _, h => by simp [lexB] at h
  | [], _ :: _, _ :: _, _, _ => rfl
  | _ :: _, [], _, h, _ => by simp [lexB] at h
  | _ :: _, _ :: _, [], _, h => by simp [lexB] at h
  | x :: a, y :: b, z :: c, h1, h2 => by
    simp only [lexB] at h1 h2 ⊢
    by_cases e1 : x = y
    · subst e1
      rw [if_pos rfl] at h1
      by_cases e2 : x = z
      · rw [if_pos e2] at h2 ⊢
        exact lexB_tr irr tr a b c h1 h2
      · rw [if_neg e2] at h2 ⊢
        exact h2
    · rw [if_neg e1] at h1
      by_cases e2 : y = z
      · subst e2
        rw [if_neg e1]
        exact h1
      · rw [if_neg e2] at h2
        have h3 := tr _ _ _ h1 h2
        by_cases e3 : x = z
        · subst e3
          rw [irr] at h3; cases h3
        · rw [if_neg e3]; exact h3
theorem lexB_tot {α : Type} [DecidableEq α] {lt : α → α → Bool} (tot : ∀ a b, a = b ∨ lt a b = true ∨ lt b a = true) : ∀ a b : List α, a = b ∨ lexB lt a b = true ∨ lexB lt b a = true
  | [], [] => .inl rfl
  | [], _ :: _ => .inr (.inl rfl)
  | _ :: _, [] => .inr (.inr rfl)
  | x :: a, y :: b => by
    simp only [lexB]
    by_cases e : x = y
    · subst e
      rw [if_pos rfl, if_pos rfl]
      rcases lexB_tot tot a b with h | h
      · exact .inl (by rw [h])
      · exact .inr h
    · rw [if_neg e, if_neg (Ne.symm e)]
      exact .inr ((tot x y).resolve_left e)
theorem ordE_tup {α : Type} [DecidableEq α] {k : Nat} {enc : α → D} {lt : α → α → Bool} (h : OrdE k enc lt) : OrdE (k + 1) (fun xs : List α => PyData.tuple (xs.map enc)) (lexB lt) where
  al := by
    have all : ∀ a b : List α, alikeAll (a.map enc) (b.map enc) = true := by
      intro a
      induction a with
      | nil => intro b; simp [alikeAll]
      | cons x a ih =>
        intro b
        cases b with
        | nil => simp [alikeAll]
        | cons y b => simp [alikeAll, h.al, ih]
    intro a b
    simp [alike, all]
  eq := by
    have all : ∀ a b : List α, PyData.eqvAll (a.map enc) (b.map enc) = decide (a = b) := by
      intro a
      induction a with
      | nil => intro b; cases b <;> simp [PyData.eqvAll]
      | cons x a ih =>
        intro b
        cases b with
        | nil => simp [PyData.eqvAll]
        | cons y b => simp [PyData.eqvAll, h.eq, ih]
    intro a b
    simp only [PyData.eqv]
    exact all a b
  lt_ := by
    intro a
    induction a with
    | nil =>
      intro b
      cases b with
      | nil => rfl
      | cons y b => rw [dataLt_tuple, List.map_cons, toks_all_cons]; rfl
    | cons x a ih =>
      intro b
      cases b with
      | nil => rw [dataLt_tuple, List.map_cons, toks_all_cons]; rfl
      | cons y b =>
        rw [dataLt_tuple]
        simp only [List.map_cons, lexB]
        by_cases e : x = y
        · subst e
          rw [if_pos rfl, dataLt_all_yes (h.al x x) (by rw [h.eq]; simp), ← dataLt_tuple]
          exact ih b
        · rw [if_neg e, dataLt_all_no (h.al x y) (by rw [h.eq]; simp [e]), h.lt_]
  dep := by
    have all : ∀ a : List α, PyData.depthAll (a.map enc) ≤ k := by
      intro a
      induction a with
      | nil => simp [PyData.depthAll]
      | cons x a ih =>
        have := h.dep x
        simp only [List.map_cons, PyData.depthAll]
        omega
    intro a
    have := all a
    simp only [PyData.depth]
    omega
  irr := lexB_irr
  tr := lexB_tr h.irr h.tr
  tot := lexB_tot h.tot
/-- with its length ahead -/
def lenB {α : Type} [DecidableEq α] (lt : α → α → Bool) (a b : List α) : Bool := if a.length = b.length then lexB lt a b else decide (a.length < b.length)
theorem ordE_len {α : Type} [DecidableEq α] {k : Nat} {enc : α → D} {lt : α → α → Bool} (h : OrdE k enc lt) : OrdE (k + 2) (fun xs : List α => PyData.tuple [.int (xs.length : Int), .tuple (xs.map enc)]) (lenB lt) where
  al := fun a b => by
    have := (ordE_tup h).al a b
    simp [alike, alikeAll] at this ⊢
    exact this
  eq := fun a b => by
    have := (ordE_tup h).eq a b
    simp only [PyData.eqv, PyData.eqvAll] at this ⊢
    rw [this]
    by_cases e : a = b
    · subst e; simp
    · simp [e]
  lt_ := fun a b => by
    have t := ordE_tup h
    unfold lenB
    rw [dataLt_tuple]
    by_cases e : a.length = b.length
    · rw [if_pos e, dataLt_all_yes (x := PyData.int (a.length : Int)) (y := PyData.int (b.length : Int)) (by simp [alike]) (by simp [PyData.eqv, e])]
      by_cases e2 : a = b
      · subst e2
        rw [dataLt_all_yes (t.al a a) (by rw [t.eq]; simp), lexB_irr]
        rfl
      · rw [dataLt_all_no (t.al a b) (by rw [t.eq]; simp [e2]), t.lt_]
    · rw [if_neg e, dataLt_all_no (x := PyData.int (a.length : Int)) (y := PyData.int (b.length : Int)) (by simp [alike]) (by simp [PyData.eqv]; omega), dataLt_int, Bool.eq_iff_iff]
      simp
  dep := fun a => by
    have := (ordE_tup h).dep a
    simp only [PyData.depth, PyData.depthAll] at this ⊢
    omega
  irr := fun a => by simp [lenB, lexB_irr]
  tr := fun a b c h1 h2 => by
    have t := lexB_tr h.irr h.tr a b c
    unfold lenB at *
    by_cases e1 : a.length = b.length
    · rw [if_pos e1] at h1
      by_cases e2 : b.length = c.length
      · rw [if_pos e2] at h2
        rw [if_pos (by omega)]
        exact t h1 h2
      · rw [if_neg e2] at h2
        have := of_decide_eq_true h2
        rw [if_neg (by omega)]
        exact decide_eq_true (by omega)
    · rw [if_neg e1] at h1
      have := of_decide_eq_true h1
      by_cases e2 : b.length = c.length
      · rw [if_neg (by omega)]
        exact decide_eq_true (by omega)
      · rw [if_neg e2] at h2
        have := of_decide_eq_true h2
        rw [if_neg (by omega)]
        exact decide_eq_true (by omega)
  tot := fun a b => by
    unfold lenB
    by_cases e : a.length = b.length
    · rw [if_pos e, if_pos e.symm]
      exact lexB_tot h.tot a b
    · rw [if_neg e, if_neg (Ne.symm e)]
      simp only [decide_eq_true_eq]
      omega
end DL
namespace PG
open PySem L2 DL GT RX
/-! all choices, by their lengths, then rising -/
end PG
local macro_rules | `(tactic| simp_arith [$xs,*]) => `(tactic| simp (maxSteps := 2000000) (disch := omega) only [DL.ob_some, DL.om_some, DL.dat_d, DL.lis_l, DL.dic_m, DL.gt_0, DL.gt_1, DL.gt_2, DL.gt_3, DL.gt_4, DL.gt_5, DL.gt_6, DL.gt_7, DL.gt_b, DL.st_0, DL.st_s, DL.plG_d, DL.plG_n, DL.plainAt_a, DL.varM_a, DL.ownM_a, DL.cM_a, DL.ofL_a, DL.opM_a, DL.opOwnM_a, DL.unM_a, DL.truM_a, DL.tstM_a, DL.notM_a, DL.cnd_t, DL.cnd_f, DL.andM_a, DL.orM_a, DL.andVM_a, DL.orVM_a, DL.notVM_a, DL.iteM_a, DL.chM_a, DL.nilM_a, DL.consM_a, DL.guard_tt, DL.tupM_a, DL.lstM_a, DL.noM_a, DL.intV_i, DL.someM_a, DL.slM_a, DL.rng1M_a, DL.rng2M_a, DL.zipV_t, DL.zipV_l, DL.zipM_a, DL.seqM_a, DL.callM_a, DL.hereM_a, DL.callRM_a, DL.appM_a, DL.lisV_l, DL.extM_a, DL.popM_a, DL.popAtM_a, DL.newDM_a, DL.putM_a, DL.lenDM_a, DL.sortDM_a, DL.nameG_a, DL.nilG_a, DL.consG_a, DL.tupG_a, DL.seqS_a, DL.seqK_nx, DL.seqK_rt, DL.seqK_ct, DL.skipM_a, DL.asgM_a, DL.asgG_a, DL.newM_a, DL.asgLM_a, DL.retM_a, DL.exprM_a, DL.ifM_a, DL.forM_a, DL.frzM_a, DL.runF_a, DL.finF_rt, DL.finF_nx, DL.runR_a, DL.finR_rt, DL.finR_nx, DL.sz_0, DL.sz_1, DL.sz_2, DL.sz_3, DL.sz_4, DL.sz_5, DL.sz_6, DL.sz_7, DL.sz_8, DL.sz_9, DL.sz_10, DL.sz_11, DL.sz_12, DL.sz_13, DL.sz_14, DL.sz_15, DL.sz_16, DL.sz_17, DL.sz_18, DL.sz_19, DL.sz_20, DL.sz_21, DL.sz_22, DL.sz_23, DL.sz_24, DL.sz_25, DL.sz_26, DL.sz_27, DL.sz_28, DL.sz_29, DL.sz_30, DL.nc_0, DL.nc_1, DL.nc_2, DL.nc_3, DL.nc_4, DL.nc_5, DL.nc_6, DL.nc_7, DL.nc_8, DL.nc_9, DL.nc_10, DL.nc_11, DL.nc_12, DL.nc_13, DL.nc_14, DL.nc_15, DL.nc_16, DL.nc_17, DL.nc_18, DL.nc_19, DL.nc_20, DL.nc_21, DL.nc_22, DL.nc_23, DL.nc_24, DL.nc_25, DL.nc_26, DL.nc_27, DL.nc_28, DL.nc_29, DL.nc_30, DL.addD_i, DL.addD_t, DL.addD_l, DL.subD_i, DL.modD_i, DL.fdivD_i, DL.mulD_i, DL.lenD_t, DL.lenD_l, DL.tupleD_t, DL.tupleD_l, DL.truD_i, DL.truD_b, DL.truD_n, DL.truD_l, DL.truD_t, DL.ixD_t, DL.ixD_l, DL.negD_i, DL.bD_a, DL.ltB_i, DL.leB_i, DL.eqB_i, DL.neB_i, DL.min2D_i, DL.max2D_i, DL.items_t, DL.items_l, DL.intD_b, DL.isNN, DL.slD_t, DL.slD_l, DL.sortD2_l, DL.sortD2_t, DL.p_ge0, DL.p_geS, DL.p_tk0, DL.p_tkS, DL.p_tkN, DL.p_dr0, DL.p_drS, DL.p_drN, DL.p_mpC, DL.p_mpN, DL.p_apC, DL.p_apN, DL.p_lnC, DL.p_lnN, DL.p_rpS, DL.p_rp0, DL.p_alC, DL.p_alN, DL.p_gdS, DL.p_gdN, DL.p_tlS, DL.p_tlN, DL.p_ieC, DL.p_ieN, DL.p_nt, DL.p_nf, DL.p_atb, DL.p_afb, DL.p_abt, DL.p_abf, DL.p_eqS, DL.p_dT, DL.p_dF, DL.p_TA, DL.p_AT, DL.p_TO, DL.p_OT, DL.p_startD, DL.p_startR, DL.forK_nx, DL.forK_ct, DL.forK_rt, DL.yesM_a, DL.it1_a, DL.compM_a, DL.wipeR_c, DL.wipeR_n, DL.restR_c, DL.restR_n, DL.gtD_i, DL.gtD_T, DL.ob_assoc, DL.om_bind, DL.ob_map, DL.om_map, DL.cnd_bind, DL.cnd_map, DL.guard_bind, DL.guard_map, DL.atI_c0, DL.atI_c1, DL.atI_c2, DL.atI_c3, DL.encN_0, DL.encN_1, DL.encN_2, DL.encN_u, DL.eq_TI, DL.ne_TI, DL.in_I, DL.in_Il, DL.in_T, DL.in_R, DL.notInB_a, DL.enumM_a, DL.exM_a, DL.seqK_ex, DL.finF_ex, DL.forK_ex, DL.tri_no, DL.trm_no, DL.atI_neg1, DL.wipO_nx, DL.wipO_ct, DL.wipO_bk, DL.wipO_rt, DL.wipO_ex, DL.wipM_a, DL.preM_a, DL.two_a, DL.parLM_a, DL.finR_ex, DL.len_map, DL.len_app, DL.len_ir, DL.len_rev, DL.sz_c, DL.rng_c, DL.rngL_n, DL.forM_a', DL.rev_map, DL.seqK_bk, DL.forK_bk, DL.enum_m, DL.emp_map, PG.Sq_failing_1_a, PG.Sq_failing_2_a, PG.Sq_twins_1_a, PG.Sq_twins_2_a, PG.Sq_suspects_1_a, PG.Sq_suspects_2_a, PG.Sq_the_one_1_a, PG.Sq_cases_1_a, PG.Sq_split_1_a, PG.Sq_shortest_1_a, PG.Sq_shortest_2_a, PG.Sq_written_1_a, PG.Sq_tie_in_1_a, PG.Sq_read_1_a, PG.Sq_read_2_a, PG.Sq_read_3_a, PG.Sq_read_4_a, DL.eq_LI, DL.ne_LI, DL.eq_LI0, DL.ne_LI0, DL.eq_LT, DL.ne_LT, DL.eq_LR, DL.ne_LR, DL.eq_TR, DL.ne_TR, DL.eq_B, DL.ne_B, DL.wp_mapE, DL.map_id_int, DL.cut_f, DL.cut_t, DL.cut_f1, DL.map_drop', DL.map_take', DL.map_app', DL.len_zip, DL.inDM_a, DL.dkOf_i, DL.sortIM_a, DL.newDispM_a, DL.keyOf_i, DL.whileK_nx, PG.anyD_map, PG.allD_map', PG.enum_ir, DL.wipX_a, DL.ifX_a, DL.grpX_a, DL.appX_a, DL.forX_a, DL.ifC_a, DL.exprC_a, DL.llM_a, DL.llK_0, PG.eq_BB, PG.ne_BB, PG.allT_t, DL.runX_a, DL.finX_rt, DL.finX_ex, DL.finX_nx, DL.isN_i, DL.isNotN_i, DL.isNotN_n, DL.rngL_g1, PG.eq_OO, PG.ne_OO, PG.in_O, Nat.reduceAdd, Nat.reduceSub, Nat.reduceMul, Int.reduceLT, Int.reduceLE, Int.reducePow, Int.reduceNeg, Int.reduceAdd, Int.reduceSub, Int.reduceMul, Int.reduceBEq, Int.reduceBNe, Int.reduceToNat, $xs,*])
namespace PG
open PySem L2 DL GT RX
/-! a net with one more tie -/
end PG
namespace PG
open PySem L2 DL GT RX
end PG
namespace PG
open PySem L2 DL GT RX
end PG
namespace DL
open PySem L2 GT
/-! sorted(dict([(tie, 0) ..])) -/
/-! nets compared -/
theorem shaped_net (N : Net) : SeqAt.shaped (encN N) = true := by
  refine sh_mk ?_ ?_
  · simp [encN, PyData.canLay0, PyData.canLayAll0, layAll encF_T, layAll encF_int]
  · have h1 := depAll encF_T N.ties
    have h2 := depAll encF_int N.rim
    simp only [encN, PyData.depth, PyData.depthAll]
    omega
def netEq (A B : Net) : Bool := decide (A.n = B.n) && decide (A.ties = B.ties) && decide (A.rim = B.rim)
theorem eqv_net (A B : Net) : PyData.eqv (encN A) (encN B) = netEq A B := by
  have h1 := eqvAll_map encF_T A.ties B.ties
  have h2 := eqvAll_map encF_int A.rim B.rim
  have h3 := encF_int.eqv (A.n : Int) (B.n : Int)
  simp only [encN, PyData.eqv, PyData.eqvAll] at h1 h2 h3 ⊢
  rw [h1, h2, h3, netEq, Bool.eq_iff_iff]
  simp [and_assoc]
  omega
theorem eq_NN (A B : Net) : eqB (encN A) (encN B) = some (netEq A B) := by
  unfold eqB; rw [shaped_net, shaped_net, eqv_net]; rfl
theorem ne_NN (A B : Net) : neB (encN A) (encN B) = some (!netEq A B) := by
  unfold neB; rw [shaped_net, shaped_net, eqv_net]; rfl
theorem encF_TT : EncF 3 (fun xs : List Tie => PyData.tuple (xs.map encT)) := encF_tup encF_T
theorem eq_TT (a b : List Tie) : eqB (.tuple (a.map encT)) (.tuple (b.map encT)) = some (decide (a = b)) := eq_one encF_TT (by omega) a b
theorem ne_TT (a b : List Tie) : neB (.tuple (a.map encT)) (.tuple (b.map encT)) = some (!decide (a = b)) := ne_one encF_TT (by omega) a b
theorem eq_TT0 (a : List Tie) : eqB (.tuple (a.map encT)) (.tuple []) = some (decide (a = [])) := eq_TT a []
theorem ne_TI0 (a : List Int) : neB (.tuple (a.map .int)) (.tuple []) = some (!decide (a = [])) := ne_TI a []
theorem eq_TI0 (a : List Int) : eqB (.tuple (a.map .int)) (.tuple []) = some (decide (a = [])) := eq_TI a []
end DL
namespace PG
open PySem L2 DL GT RX
end PG
local macro_rules | `(tactic| simp_arith [$xs,*]) => `(tactic| simp (maxSteps := 2000000) (disch := omega) only [DL.ob_some, DL.om_some, DL.dat_d, DL.lis_l, DL.dic_m, DL.gt_0, DL.gt_1, DL.gt_2, DL.gt_3, DL.gt_4, DL.gt_5, DL.gt_6, DL.gt_7, DL.gt_b, DL.st_0, DL.st_s, DL.plG_d, DL.plG_n, DL.plainAt_a, DL.varM_a, DL.ownM_a, DL.cM_a, DL.ofL_a, DL.opM_a, DL.opOwnM_a, DL.unM_a, DL.truM_a, DL.tstM_a, DL.notM_a, DL.cnd_t, DL.cnd_f, DL.andM_a, DL.orM_a, DL.andVM_a, DL.orVM_a, DL.notVM_a, DL.iteM_a, DL.chM_a, DL.nilM_a, DL.consM_a, DL.guard_tt, DL.tupM_a, DL.lstM_a, DL.noM_a, DL.intV_i, DL.someM_a, DL.slM_a, DL.rng1M_a, DL.rng2M_a, DL.zipV_t, DL.zipV_l, DL.zipM_a, DL.seqM_a, DL.callM_a, DL.hereM_a, DL.callRM_a, DL.appM_a, DL.lisV_l, DL.extM_a, DL.popM_a, DL.popAtM_a, DL.newDM_a, DL.putM_a, DL.lenDM_a, DL.sortDM_a, DL.nameG_a, DL.nilG_a, DL.consG_a, DL.tupG_a, DL.seqS_a, DL.seqK_nx, DL.seqK_rt, DL.seqK_ct, DL.skipM_a, DL.asgM_a, DL.asgG_a, DL.newM_a, DL.asgLM_a, DL.retM_a, DL.exprM_a, DL.ifM_a, DL.forM_a, DL.frzM_a, DL.runF_a, DL.finF_rt, DL.finF_nx, DL.runR_a, DL.finR_rt, DL.finR_nx, DL.sz_0, DL.sz_1, DL.sz_2, DL.sz_3, DL.sz_4, DL.sz_5, DL.sz_6, DL.sz_7, DL.sz_8, DL.sz_9, DL.sz_10, DL.sz_11, DL.sz_12, DL.sz_13, DL.sz_14, DL.sz_15, DL.sz_16, DL.sz_17, DL.sz_18, DL.sz_19, DL.sz_20, DL.sz_21, DL.sz_22, DL.sz_23, DL.sz_24, DL.sz_25, DL.sz_26, DL.sz_27, DL.sz_28, DL.sz_29, DL.sz_30, DL.nc_0, DL.nc_1, DL.nc_2, DL.nc_3, DL.nc_4, DL.nc_5, DL.nc_6, DL.nc_7, DL.nc_8, DL.nc_9, DL.nc_10, DL.nc_11, DL.nc_12, DL.nc_13, DL.nc_14, DL.nc_15, DL.nc_16, DL.nc_17, DL.nc_18, DL.nc_19, DL.nc_20, DL.nc_21, DL.nc_22, DL.nc_23, DL.nc_24, DL.nc_25, DL.nc_26, DL.nc_27, DL.nc_28, DL.nc_29, DL.nc_30, DL.addD_i, DL.addD_t, DL.addD_l, DL.subD_i, DL.modD_i, DL.fdivD_i, DL.mulD_i, DL.lenD_t, DL.lenD_l, DL.tupleD_t, DL.tupleD_l, DL.truD_i, DL.truD_b, DL.truD_n, DL.truD_l, DL.truD_t, DL.ixD_t, DL.ixD_l, DL.negD_i, DL.bD_a, DL.ltB_i, DL.leB_i, DL.eqB_i, DL.neB_i, DL.min2D_i, DL.max2D_i, DL.items_t, DL.items_l, DL.intD_b, DL.isNN, DL.slD_t, DL.slD_l, DL.sortD2_l, DL.sortD2_t, DL.p_ge0, DL.p_geS, DL.p_tk0, DL.p_tkS, DL.p_tkN, DL.p_dr0, DL.p_drS, DL.p_drN, DL.p_mpC, DL.p_mpN, DL.p_apC, DL.p_apN, DL.p_lnC, DL.p_lnN, DL.p_rpS, DL.p_rp0, DL.p_alC, DL.p_alN, DL.p_gdS, DL.p_gdN, DL.p_tlS, DL.p_tlN, DL.p_ieC, DL.p_ieN, DL.p_nt, DL.p_nf, DL.p_atb, DL.p_afb, DL.p_abt, DL.p_abf, DL.p_eqS, DL.p_dT, DL.p_dF, DL.p_TA, DL.p_AT, DL.p_TO, DL.p_OT, DL.p_startD, DL.p_startR, DL.forK_nx, DL.forK_ct, DL.forK_rt, DL.yesM_a, DL.it1_a, DL.compM_a, DL.wipeR_c, DL.wipeR_n, DL.restR_c, DL.restR_n, DL.gtD_i, DL.gtD_T, DL.ob_assoc, DL.om_bind, DL.ob_map, DL.om_map, DL.cnd_bind, DL.cnd_map, DL.guard_bind, DL.guard_map, DL.atI_c0, DL.atI_c1, DL.atI_c2, DL.atI_c3, DL.encN_0, DL.encN_1, DL.encN_2, DL.encN_u, DL.eq_TI, DL.ne_TI, DL.in_I, DL.in_Il, DL.in_T, DL.in_R, DL.notInB_a, DL.enumM_a, DL.exM_a, DL.seqK_ex, DL.finF_ex, DL.forK_ex, DL.tri_no, DL.trm_no, DL.atI_neg1, DL.wipO_nx, DL.wipO_ct, DL.wipO_bk, DL.wipO_rt, DL.wipO_ex, DL.wipM_a, DL.preM_a, DL.two_a, DL.parLM_a, DL.finR_ex, DL.len_map, DL.len_app, DL.len_ir, DL.len_rev, DL.sz_c, DL.rng_c, DL.rngL_n, DL.forM_a', DL.rev_map, DL.seqK_bk, DL.forK_bk, DL.enum_m, DL.emp_map, PG.Sq_failing_1_a, PG.Sq_failing_2_a, PG.Sq_twins_1_a, PG.Sq_twins_2_a, PG.Sq_suspects_1_a, PG.Sq_suspects_2_a, PG.Sq_the_one_1_a, PG.Sq_cases_1_a, PG.Sq_split_1_a, PG.Sq_shortest_1_a, PG.Sq_shortest_2_a, PG.Sq_written_1_a, PG.Sq_tie_in_1_a, PG.Sq_read_1_a, PG.Sq_read_2_a, PG.Sq_read_3_a, PG.Sq_read_4_a, DL.eq_LI, DL.ne_LI, DL.eq_LI0, DL.ne_LI0, DL.eq_LT, DL.ne_LT, DL.eq_LR, DL.ne_LR, DL.eq_TR, DL.ne_TR, DL.eq_B, DL.ne_B, DL.wp_mapE, DL.map_id_int, DL.cut_f, DL.cut_t, DL.cut_f1, DL.map_drop', DL.map_take', DL.map_app', DL.len_zip, DL.inDM_a, DL.dkOf_i, DL.sortIM_a, DL.newDispM_a, DL.keyOf_i, DL.whileK_nx, PG.anyD_map, PG.allD_map', PG.enum_ir, DL.wipX_a, DL.ifX_a, DL.grpX_a, DL.appX_a, DL.forX_a, DL.ifC_a, DL.exprC_a, DL.llM_a, DL.llK_0, PG.eq_BB, PG.ne_BB, PG.allT_t, DL.runX_a, DL.finX_rt, DL.finX_ex, DL.finX_nx, DL.isN_i, DL.isNotN_i, DL.isNotN_n, DL.rngL_g1, PG.eq_OO, PG.ne_OO, PG.in_O, DL.eq_NN, DL.ne_NN, DL.eq_TT, DL.ne_TT, DL.eq_TT0, DL.ne_TI0, DL.eq_TI0, Nat.reduceAdd, Nat.reduceSub, Nat.reduceMul, Int.reduceLT, Int.reduceLE, Int.reducePow, Int.reduceNeg, Int.reduceAdd, Int.reduceSub, Int.reduceMul, Int.reduceBEq, Int.reduceBNe, Int.reduceToNat, $xs,*])
namespace PG
open PySem L2 DL GT RX
end PG
namespace PG
open PySem L2 DL GT RX
section
variable {N : Net} {a b : Int}
theorem between_comm : between N a b = between N b a := by
  unfold between
  rw [Int.min_comm, Int.max_comm]
end
end PG
namespace PG
open PySem L2 DL GT RX
end PG
local macro_rules | `(tactic| simp_arith [$xs,*]) => `(tactic| simp (maxSteps := 2000000) (disch := omega) only [DL.ob_some, DL.om_some, DL.dat_d, DL.lis_l, DL.dic_m, DL.gt_0, DL.gt_1, DL.gt_2, DL.gt_3, DL.gt_4, DL.gt_5, DL.gt_6, DL.gt_7, DL.gt_b, DL.st_0, DL.st_s, DL.plG_d, DL.plG_n, DL.plainAt_a, DL.varM_a, DL.ownM_a, DL.cM_a, DL.ofL_a, DL.opM_a, DL.opOwnM_a, DL.unM_a, DL.truM_a, DL.tstM_a, DL.notM_a, DL.cnd_t, DL.cnd_f, DL.andM_a, DL.orM_a, DL.andVM_a, DL.orVM_a, DL.notVM_a, DL.iteM_a, DL.chM_a, DL.nilM_a, DL.consM_a, DL.guard_tt, DL.tupM_a, DL.lstM_a, DL.noM_a, DL.intV_i, DL.someM_a, DL.slM_a, DL.rng1M_a, DL.rng2M_a, DL.zipV_t, DL.zipV_l, DL.zipM_a, DL.seqM_a, DL.callM_a, DL.hereM_a, DL.callRM_a, DL.appM_a, DL.lisV_l, DL.extM_a, DL.popM_a, DL.popAtM_a, DL.newDM_a, DL.putM_a, DL.lenDM_a, DL.sortDM_a, DL.nameG_a, DL.nilG_a, DL.consG_a, DL.tupG_a, DL.seqS_a, DL.seqK_nx, DL.seqK_rt, DL.seqK_ct, DL.skipM_a, DL.asgM_a, DL.asgG_a, DL.newM_a, DL.asgLM_a, DL.retM_a, DL.exprM_a, DL.ifM_a, DL.forM_a, DL.frzM_a, DL.runF_a, DL.finF_rt, DL.finF_nx, DL.runR_a, DL.finR_rt, DL.finR_nx, DL.sz_0, DL.sz_1, DL.sz_2, DL.sz_3, DL.sz_4, DL.sz_5, DL.sz_6, DL.sz_7, DL.sz_8, DL.sz_9, DL.sz_10, DL.sz_11, DL.sz_12, DL.sz_13, DL.sz_14, DL.sz_15, DL.sz_16, DL.sz_17, DL.sz_18, DL.sz_19, DL.sz_20, DL.sz_21, DL.sz_22, DL.sz_23, DL.sz_24, DL.sz_25, DL.sz_26, DL.sz_27, DL.sz_28, DL.sz_29, DL.sz_30, DL.nc_0, DL.nc_1, DL.nc_2, DL.nc_3, DL.nc_4, DL.nc_5, DL.nc_6, DL.nc_7, DL.nc_8, DL.nc_9, DL.nc_10, DL.nc_11, DL.nc_12, DL.nc_13, DL.nc_14, DL.nc_15, DL.nc_16, DL.nc_17, DL.nc_18, DL.nc_19, DL.nc_20, DL.nc_21, DL.nc_22, DL.nc_23, DL.nc_24, DL.nc_25, DL.nc_26, DL.nc_27, DL.nc_28, DL.nc_29, DL.nc_30, DL.addD_i, DL.addD_t, DL.addD_l, DL.subD_i, DL.modD_i, DL.fdivD_i, DL.mulD_i, DL.lenD_t, DL.lenD_l, DL.tupleD_t, DL.tupleD_l, DL.truD_i, DL.truD_b, DL.truD_n, DL.truD_l, DL.truD_t, DL.ixD_t, DL.ixD_l, DL.negD_i, DL.bD_a, DL.ltB_i, DL.leB_i, DL.eqB_i, DL.neB_i, DL.min2D_i, DL.max2D_i, DL.items_t, DL.items_l, DL.intD_b, DL.isNN, DL.slD_t, DL.slD_l, DL.sortD2_l, DL.sortD2_t, DL.p_ge0, DL.p_geS, DL.p_tk0, DL.p_tkS, DL.p_tkN, DL.p_dr0, DL.p_drS, DL.p_drN, DL.p_mpC, DL.p_mpN, DL.p_apC, DL.p_apN, DL.p_lnC, DL.p_lnN, DL.p_rpS, DL.p_rp0, DL.p_alC, DL.p_alN, DL.p_gdS, DL.p_gdN, DL.p_tlS, DL.p_tlN, DL.p_ieC, DL.p_ieN, DL.p_nt, DL.p_nf, DL.p_atb, DL.p_afb, DL.p_abt, DL.p_abf, DL.p_eqS, DL.p_dT, DL.p_dF, DL.p_TA, DL.p_AT, DL.p_TO, DL.p_OT, DL.p_startD, DL.p_startR, DL.forK_nx, DL.forK_ct, DL.forK_rt, DL.yesM_a, DL.it1_a, DL.compM_a, DL.wipeR_c, DL.wipeR_n, DL.restR_c, DL.restR_n, DL.gtD_i, DL.gtD_T, DL.ob_assoc, DL.om_bind, DL.ob_map, DL.om_map, DL.cnd_bind, DL.cnd_map, DL.guard_bind, DL.guard_map, DL.atI_c0, DL.atI_c1, DL.atI_c2, DL.atI_c3, DL.encN_0, DL.encN_1, DL.encN_2, DL.encN_u, DL.eq_TI, DL.ne_TI, DL.in_I, DL.in_Il, DL.in_T, DL.in_R, DL.notInB_a, DL.enumM_a, DL.exM_a, DL.seqK_ex, DL.finF_ex, DL.forK_ex, DL.tri_no, DL.trm_no, DL.atI_neg1, DL.wipO_nx, DL.wipO_ct, DL.wipO_bk, DL.wipO_rt, DL.wipO_ex, DL.wipM_a, DL.preM_a, DL.two_a, DL.parLM_a, DL.finR_ex, DL.len_map, DL.len_app, DL.len_ir, DL.len_rev, DL.sz_c, DL.rng_c, DL.rngL_n, DL.forM_a', DL.rev_map, DL.seqK_bk, DL.forK_bk, DL.enum_m, DL.emp_map, PG.Sq_failing_1_a, PG.Sq_failing_2_a, PG.Sq_twins_1_a, PG.Sq_twins_2_a, PG.Sq_suspects_1_a, PG.Sq_suspects_2_a, PG.Sq_the_one_1_a, PG.Sq_cases_1_a, PG.Sq_split_1_a, PG.Sq_shortest_1_a, PG.Sq_shortest_2_a, PG.Sq_written_1_a, PG.Sq_tie_in_1_a, PG.Sq_read_1_a, PG.Sq_read_2_a, PG.Sq_read_3_a, PG.Sq_read_4_a, DL.eq_LI, DL.ne_LI, DL.eq_LI0, DL.ne_LI0, DL.eq_LT, DL.ne_LT, DL.eq_LR, DL.ne_LR, DL.eq_TR, DL.ne_TR, DL.eq_B, DL.ne_B, DL.wp_mapE, DL.map_id_int, DL.cut_f, DL.cut_t, DL.cut_f1, DL.map_drop', DL.map_take', DL.map_app', DL.len_zip, DL.inDM_a, DL.dkOf_i, DL.sortIM_a, DL.newDispM_a, DL.keyOf_i, DL.whileK_nx, PG.anyD_map, PG.allD_map', PG.enum_ir, DL.wipX_a, DL.ifX_a, DL.grpX_a, DL.appX_a, DL.forX_a, DL.ifC_a, DL.exprC_a, DL.llM_a, DL.llK_0, PG.eq_BB, PG.ne_BB, PG.allT_t, DL.runX_a, DL.finX_rt, DL.finX_ex, DL.finX_nx, DL.isN_i, DL.isNotN_i, DL.isNotN_n, DL.rngL_g1, PG.eq_OO, PG.ne_OO, PG.in_O, FA.isNot_bb, DL.eq_NN, DL.ne_NN, DL.eq_TT, DL.ne_TT, DL.eq_TT0, DL.ne_TI0, DL.eq_TI0, Nat.reduceAdd, Nat.reduceSub, Nat.reduceMul, Int.reduceLT, Int.reduceLE, Int.reducePow, Int.reduceNeg, Int.reduceAdd, Int.reduceSub, Int.reduceMul, Int.reduceBEq, Int.reduceBNe, Int.reduceToNat, $xs,*])
namespace DL
open PySem L2 GT PySem.W
/-! the least of data that are ordered -/
def leastO {α : Type} (lt : α → α → Bool) (m : α) (xs : List α) : α := xs.foldl (fun m x => if lt x m = true then x else m) m
theorem minV_gen {α : Type} [DecidableEq α] {k : Nat} {enc : α → D} {lt : α → α → Bool} (h : OrdE k enc lt) (hk : k ≤ 60) (nn : ∀ a, enc a ≠ .none) (x : α) (xs : List α) : minV (.list ((x :: xs).map enc)) = some (enc (leastO lt x xs)) := by
  have ok : minOk ((x :: xs).map enc) = true := by
    unfold minOk
    rw [Bool.and_eq_true]
    constructor
    · simp only [List.all_eq_true, List.mem_map]
      rintro _ ⟨a, _, rfl⟩ _ ⟨b, _, rfl⟩
      exact h.al a b
    · simp only [List.all_eq_true, List.mem_map]
      rintro _ ⟨a, _, rfl⟩
      have d := h.dep a
      have n := nn a
      rw [Bool.and_eq_true]
      refine ⟨?_, decide_eq_true (by omega)⟩
      generalize enc a = e at n
      cases e <;> first | rfl | exact absurd rfl n
  rw [List.map_cons] at ok ⊢
  show (if minOk (enc x :: xs.map enc) = true then some ((xs.map enc).foldl lesser (enc x)) else none) = _
  rw [if_pos ok]
  congr 1
  unfold leastO
  induction xs generalizing x with
  | nil => rfl
  | cons y xs ih =>
    rw [List.map_cons, List.foldl_cons, List.foldl_cons]
    have e : lesser (enc x) (enc y) = enc (if lt y x = true then y else x) := by
      unfold lesser
      rw [h.lt_]
      split <;> rfl
    rw [e]
    clear ok e
    have gen : ∀ (xs : List α) (m : α), (xs.map enc).foldl lesser (enc m) = enc (xs.foldl (fun m x => if lt x m = true then x else m) m) := by
      intro xs
      induction xs with
      | nil => intro m; rfl
      | cons z xs ih =>
        intro m
        rw [List.map_cons, List.foldl_cons, List.foldl_cons, ← ih]
        congr 1
        unfold lesser
        rw [h.lt_]
        split <;> rfl
    exact gen xs _
end DL
namespace PG
open PySem L2 DL GT RX
/-! the routes that barring takes are the least of the most -/
end PG
namespace PG
open PySem L2 DL GT RX
/-! the shortest -/
def encL (r : List Int) : D := .tuple [.int (r.length : Int), TI r]
def ltL : List Int → List Int → Bool := lenB (fun a b : Int => decide (a < b))
theorem ordS : OrdE 3 encL ltL := ordE_len ordE_int
def least1 : List (List Int) → List Int
  | [] => []
  | r :: rs => leastO ltL r rs
theorem min_pairs {rs : List (List Int)} (h : rs ≠ []) : minV (.list (rs.map encL)) = some (encL (least1 rs)) := by
  cases rs with
  | nil => exact absurd rfl h
  | cons r rs => exact minV_gen ordS (by omega) (fun a => by simp [encL]) r rs
theorem shortX {N : Net} (w : N.WF) (a b : Int) : runX N_shortest b_shortest [encN N, .int a, .int b] = some (if between N a b = [] then .error "NoRoute" else .ok (TI (least1 (between N a b)))) := by
  have many := routes_many w
  refine wp_val ?_
  unfold b_shortest N_shortest
  simp_arith [routes_eval w]
  refine wp_cfil (fun r => decide (r.head? = some (min a b) ∧ r.getLast? = some (max a b))) encL (fun r m => ?_) ?_
  · have hr := (mem_routes w).mp m
    obtain ⟨c, d, hc, hd, _⟩ := hr.ends
    have e1 : ixD (TI r) (.int 0) = some (.int c) := by
      cases r with
      | nil => simp at hc
      | cons x l => cases hc; simp_arith [DL.p_nt]
    have e2 : ixD (TI r) (.int (-1)) = some (.int d) := by
      simp_arith [DL.p_nt]
      rw [List.getLast?_map, hd]; rfl
    have e3 : eqB (.tuple [.int c, .int d]) (.tuple [.int (min a b), .int (max a b)]) = some (decide ([c, d] = [min a b, max a b])) := eq_TI [c, d] [min a b, max a b]
    unfold Ct_shortest_1 Ce_shortest_1
    rw [hc, hd]
    by_cases q : c = min a b ∧ d = max a b
    · have : decide ([c, d] = [min a b, max a b]) = true := by simp [q]
      simp_arith [-DL.ixD_t, e1, e2, e3, this]
      refine wp_ok ?_
      rw [if_pos (by simp [q])]
      rfl
    · have : decide ([c, d] = [min a b, max a b]) = false := by simpa using q
      simp_arith [-DL.ixD_t, e1, e2, e3, this]
      refine wp_ok ?_
      rw [if_neg (by simpa using q)]
  · show wp (_) _
    have bl : ((routes N).filter fun r => decide (r.head? = some (min a b) ∧ r.getLast? = some (max a b))) = between N a b := rfl
    rw [bl]
    by_cases q : between N a b = []
    · rw [q, if_pos rfl]
      simp_arith [DL.p_nt]
      exact wp_ok rfl
    · rw [if_neg q]
      have mp := min_pairs q
      have tr : (between N a b).isEmpty = false := by
        cases e : between N a b with
        | nil => exact absurd e q
        | cons x xs => rfl
      have ix : ixD (encL (least1 (between N a b))) (.int 1) = some (TI (least1 (between N a b))) := by
        unfold encL
        simp_arith [DL.p_nt]
      simp_arith [mp, tr, ix]
      exact wp_ok rfl
end PG
namespace PG
open PySem L2 DL GT RX
/-! ways, knots perhaps more than once -/
structure Wk (N : Net) (a b : Int) (p : List Int) : Prop where
  hd : p.head? = some a
  la : p.getLast? = some b
  lk : linked N p = true
section
variable {N : Net} {a b : Int}
theorem Wk.cons {c : Int} {p : List Int} (e : adj N c a = true) (h : Wk N a b p) : Wk N c b (c :: p) := by
  cases p with
  | nil => have := h.hd; simp at this
  | cons x p =>
    have := h.hd
    simp at this
    subst this
    exact ⟨rfl, by rw [List.getLast?_cons_cons]; exact h.la, linked_cons.mpr ⟨e, h.lk⟩⟩
theorem Wk.snoc {c : Int} {p : List Int} (h : Wk N a b p) (e : adj N b c = true) : Wk N a c (p ++ [c]) := by
  refine ⟨?_, by simp, (linked_snoc h.la).mpr ⟨h.lk, e⟩⟩
  cases p with
  | nil => have := h.hd; simp at this
  | cons x p => simpa using h.hd
/-- the last step -/
theorem Wk.back {p : List Int} (h : Wk N a b p) (two : 2 ≤ p.length) : ∃ c q, Wk N a c q ∧ adj N c b = true ∧ p.length = q.length + 1 := by
  have la := h.la
  rcases List.eq_nil_or_concat p with rfl | ⟨q, x, rfl⟩
  · simp at la
  · rw [List.concat_eq_append] at la h two ⊢
    simp at la
    subst la
    have qn : q ≠ [] := by rintro rfl; simp at two
    have hl : q.getLast? = some (q.getLast qn) := List.getLast?_eq_some_getLast qn
    obtain ⟨h1, h2⟩ := (linked_snoc hl).mp h.lk
    refine ⟨q.getLast qn, q, ⟨?_, hl, h1⟩, h2, by simp⟩
    have := h.hd
    cases q with
    | nil => exact absurd rfl qn
    | cons y q => simpa using this
end
/-! knots with how far they are -/
/-! step by step -/
structure Lev (N : Net) (a : Int) (L : Nat) (fs : List (Int × Nat)) (ring : List Int) : Prop where
  pos : 1 ≤ L
  nd : (fs.map (·.1)).Nodup
  inn : ∀ k ∈ fs.map (·.1), k ∈ ir N.n
  way : ∀ k v, (k, v) ∈ fs → ∃ p, Wk N a k p ∧ p.length = v
  least : ∀ k p, Wk N a k p → p.length ≤ L → ∃ v, (k, v) ∈ fs ∧ v ≤ p.length
  top : ∀ k v, (k, v) ∈ fs → v ≤ L
  rg : ∀ k, k ∈ ring ↔ (k, L) ∈ fs
  rn : ring.Nodup
def upL (fs : List (Int × Nat)) (late : List Int) (k : Int) : List Int := if k ∈ fs.map (·.1) ∨ k ∈ late then late else late ++ [k]
theorem upL_fold (fs : List (Int × Nat)) : ∀ (ks late : List Int), late.Nodup → (∀ k ∈ late, k ∉ fs.map (·.1)) → (ks.foldl (upL fs) late).Nodup ∧ ∀ k, k ∈ ks.foldl (upL fs) late ↔ k ∈ late ∨ (k ∈ ks ∧ k ∉ fs.map (·.1))
  | [], late, nd, no => ⟨nd, fun k => by simp⟩
  | x :: ks, late, nd, no => by
    rw [List.foldl_cons]
    by_cases c : x ∈ fs.map (·.1) ∨ x ∈ late
    · have e : upL fs late x = late := if_pos c
      rw [e]
      obtain ⟨h1, h2⟩ := upL_fold fs ks late nd no
      refine ⟨h1, fun k => (h2 k).trans ⟨fun h => h.imp id fun h => ⟨List.mem_cons_of_mem _ h.1, h.2⟩, fun h => ?_⟩⟩
      rcases h with h | ⟨h, n⟩
      · exact .inl h
      · rcases List.mem_cons.mp h with rfl | h
        · exact .inl (c.resolve_left n)
        · exact .inr ⟨h, n⟩
    · have e : upL fs late x = late ++ [x] := if_neg c
      rw [e]
      have c1 : x ∉ fs.map (·.1) := fun h => c (.inl h)
      have c2 : x ∉ late := fun h => c (.inr h)
      obtain ⟨h1, h2⟩ := upL_fold fs ks (late ++ [x]) (by
        rw [List.nodup_append]
        exact ⟨nd, by simp, fun u mu v mv e => c2 (by rw [List.mem_singleton] at mv; rw [← mv, ← e]; exact mu)⟩) (fun k m => by
        rcases List.mem_append.mp m with m | m
        · exact no k m
        · rw [List.mem_singleton] at m; rw [m]; exact c1)
      refine ⟨h1, fun k => (h2 k).trans ⟨fun h => ?_, fun h => ?_⟩⟩
      · rcases h with h | ⟨h, n⟩
        · rcases List.mem_append.mp h with h | h
          · exact .inl h
          · rw [List.mem_singleton] at h; subst h; exact .inr ⟨by simp, c1⟩
        · exact .inr ⟨List.mem_cons_of_mem _ h, n⟩
      · rcases h with h | ⟨h, n⟩
        · exact .inl (List.mem_append_left _ h)
        · rcases List.mem_cons.mp h with rfl | h
          · exact .inl (by simp)
          · exact .inr ⟨h, n⟩
def lateL (N : Net) (fs : List (Int × Nat)) (ring : List Int) : List Int := (ring.flatMap (nb N)).foldl (upL fs) []
def moreF (L : Nat) (fs : List (Int × Nat)) (late : List Int) : List (Int × Nat) := fs ++ late.map fun k => (k, L + 1)
theorem moreF_keys (L : Nat) (fs : List (Int × Nat)) (late : List Int) : (moreF L fs late).map (·.1) = fs.map (·.1) ++ late := by
  unfold moreF; simp [Function.comp_def]
section
variable {N : Net} {a : Int} {L : Nat} {fs : List (Int × Nat)} {ring : List Int}
theorem Lev.one (ha : 0 ≤ a ∧ a < N.n) : Lev N a 1 [(a, 1)] [a] where
  pos := Nat.le_refl _
  nd := by simp
  inn := fun k m => by simp at m; subst m; exact mem_ir.mpr ha
  way := fun k v m => by simp at m; obtain ⟨rfl, rfl⟩ := m; exact ⟨[k], ⟨rfl, rfl, rfl⟩, rfl⟩
  least := fun k p h le => by
    have h1 := h.hd
    have h2 := h.la
    match p, h1, h2, le with
    | [], h1, _, _ => simp at h1
    | [u], h1, h2, _ => simp at h1 h2; subst h1 h2; exact ⟨1, by simp, by simp⟩
    | _ :: _ :: _, _, _, le => simp at le
  top := fun k v m => by simp at m; omega
  rg := fun k => by simp
  rn := by simp
theorem Lev.next (w : N.WF) (h : Lev N a L fs ring) : Lev N a (L + 1) (moreF L fs (lateL N fs ring)) (lateL N fs ring) := by
  obtain ⟨nd, mem⟩ := upL_fold fs (ring.flatMap (nb N)) [] (by simp) (by simp)
  have mem : ∀ k, k ∈ lateL N fs ring ↔ (∃ j ∈ ring, adj N j k = true) ∧ k ∉ fs.map (·.1) := fun k => (mem k).trans (by
    simp only [List.not_mem_nil, false_or, List.mem_flatMap, mem_nb (w := w)])
  have nd : (lateL N fs ring).Nodup := nd
  have old : ∀ k p, Wk N a k p → p.length ≤ L → k ∈ fs.map (·.1) := fun k p hp le => by
    obtain ⟨v, m, _⟩ := h.least k p hp le
    exact List.mem_map.mpr ⟨_, m, rfl⟩
  have L1 := h.pos
  refine ⟨by omega, ?_, fun k m => ?_, fun k v m => ?_, fun k p hp le => ?_, fun k v m => ?_, fun k => ?_, nd⟩
  · rw [moreF_keys, List.nodup_append]
    exact ⟨h.nd, nd, fun u mu v mv e => ((mem v).mp mv).2 (e ▸ mu)⟩
  · rw [moreF_keys] at m
    rcases List.mem_append.mp m with m | m
    · exact h.inn k m
    · obtain ⟨⟨j, _, e⟩, _⟩ := (mem k).mp m
      exact mem_ir.mpr (adj_in w e).2.1
  · rcases List.mem_append.mp m with m | m
    · exact h.way k v m
    · obtain ⟨x, mx, e⟩ := List.mem_map.mp m
      cases e
      obtain ⟨⟨j, mj, e⟩, _⟩ := (mem k).mp mx
      obtain ⟨p, hp, hl⟩ := h.way j L ((h.rg j).mp mj)
      exact ⟨p ++ [k], hp.snoc e, by simp [hl]⟩
  · by_cases le2 : p.length ≤ L
    · obtain ⟨v, m, hv⟩ := h.least k p hp le2
      exact ⟨v, List.mem_append_left _ m, hv⟩
    · have pl : p.length = L + 1 := by omega
      obtain ⟨c, q, hq, e, ql⟩ := hp.back (by omega)
      obtain ⟨v, m, hv⟩ := h.least c q hq (by omega)
      by_cases k0 : k ∈ fs.map (·.1)
      · obtain ⟨⟨k', u⟩, mu, rfl⟩ := List.mem_map.mp k0
        exact ⟨u, List.mem_append_left _ mu, by have := h.top _ _ mu; omega⟩
      · have vL : v = L := by
          refine Classical.byContradiction fun ne => k0 ?_
          have := h.top _ _ m
          obtain ⟨s, hs, sl⟩ := h.way c v m
          exact old k (s ++ [k]) (hs.snoc e) (by simp [sl]; omega)
        subst vL
        exact ⟨v + 1, List.mem_append_right _ (List.mem_map.mpr ⟨k, (mem k).mpr ⟨⟨c, (h.rg c).mpr m, e⟩, k0⟩, rfl⟩), by omega⟩
  · rcases List.mem_append.mp m with m | m
    · have := h.top k v m; omega
    · obtain ⟨x, mx, e⟩ := List.mem_map.mp m
      cases e; omega
  · constructor
    · intro m
      exact List.mem_append_right _ (List.mem_map.mpr ⟨k, m, rfl⟩)
    · intro m
      rcases List.mem_append.mp m with m | m
      · have := h.top _ _ m; omega
      · obtain ⟨x, mx, e⟩ := List.mem_map.mp m
        cases e; exact mx
end
end PG
namespace PG
open PySem L2 DL GT RX
section
variable {N : Net} {a b : Int} {L : Nat} {fs : List (Int × Nat)}
theorem Lev.done (h : Lev N a L fs []) : ∀ (n : Nat) (k : Int) (p : List Int), p.length ≤ n → Wk N a k p → ∃ v, (k, v) ∈ fs ∧ v ≤ p.length
  | 0, k, p, le, hp => by
    have := hp.hd
    cases p with
    | nil => simp at this
    | cons _ _ => simp at le
  | n + 1, k, p, le, hp => by
    have L1 := h.pos
    by_cases le2 : p.length ≤ L
    · exact h.least k p hp le2
    · obtain ⟨c, q, hq, e, ql⟩ := hp.back (by omega)
      obtain ⟨v, m, hv⟩ := Lev.done h n c q (by omega) hq
      have vL := h.top c v m
      have ne : v ≠ L := by
        rintro rfl
        have := (h.rg c).mpr m
        cases this
      obtain ⟨s, hs, sl⟩ := h.way c v m
      obtain ⟨u, mu, hu⟩ := h.least k (s ++ [k]) (hs.snoc e) (by simp [sl]; omega)
      exact ⟨u, mu, by simp [sl] at hu; omega⟩
end
end PG
local macro_rules | `(tactic| simp_arith [$xs,*]) => `(tactic| simp (maxSteps := 2000000) (disch := omega) only [DL.ob_some, DL.om_some, DL.dat_d, DL.lis_l, DL.dic_m, DL.gt_0, DL.gt_1, DL.gt_2, DL.gt_3, DL.gt_4, DL.gt_5, DL.gt_6, DL.gt_7, DL.gt_b, DL.st_0, DL.st_s, DL.plG_d, DL.plG_n, DL.plainAt_a, DL.varM_a, DL.ownM_a, DL.cM_a, DL.ofL_a, DL.opM_a, DL.opOwnM_a, DL.unM_a, DL.truM_a, DL.tstM_a, DL.notM_a, DL.cnd_t, DL.cnd_f, DL.andM_a, DL.orM_a, DL.andVM_a, DL.orVM_a, DL.notVM_a, DL.iteM_a, DL.chM_a, DL.nilM_a, DL.consM_a, DL.guard_tt, DL.tupM_a, DL.lstM_a, DL.noM_a, DL.intV_i, DL.someM_a, DL.slM_a, DL.rng1M_a, DL.rng2M_a, DL.zipV_t, DL.zipV_l, DL.zipM_a, DL.seqM_a, DL.callM_a, DL.hereM_a, DL.callRM_a, DL.appM_a, DL.lisV_l, DL.extM_a, DL.popM_a, DL.popAtM_a, DL.newDM_a, DL.putM_a, DL.lenDM_a, DL.sortDM_a, DL.nameG_a, DL.nilG_a, DL.consG_a, DL.tupG_a, DL.seqS_a, DL.seqK_nx, DL.seqK_rt, DL.seqK_ct, DL.skipM_a, DL.asgM_a, DL.asgG_a, DL.newM_a, DL.asgLM_a, DL.retM_a, DL.exprM_a, DL.ifM_a, DL.forM_a, DL.frzM_a, DL.runF_a, DL.finF_rt, DL.finF_nx, DL.runR_a, DL.finR_rt, DL.finR_nx, DL.sz_0, DL.sz_1, DL.sz_2, DL.sz_3, DL.sz_4, DL.sz_5, DL.sz_6, DL.sz_7, DL.sz_8, DL.sz_9, DL.sz_10, DL.sz_11, DL.sz_12, DL.sz_13, DL.sz_14, DL.sz_15, DL.sz_16, DL.sz_17, DL.sz_18, DL.sz_19, DL.sz_20, DL.sz_21, DL.sz_22, DL.sz_23, DL.sz_24, DL.sz_25, DL.sz_26, DL.sz_27, DL.sz_28, DL.sz_29, DL.sz_30, DL.nc_0, DL.nc_1, DL.nc_2, DL.nc_3, DL.nc_4, DL.nc_5, DL.nc_6, DL.nc_7, DL.nc_8, DL.nc_9, DL.nc_10, DL.nc_11, DL.nc_12, DL.nc_13, DL.nc_14, DL.nc_15, DL.nc_16, DL.nc_17, DL.nc_18, DL.nc_19, DL.nc_20, DL.nc_21, DL.nc_22, DL.nc_23, DL.nc_24, DL.nc_25, DL.nc_26, DL.nc_27, DL.nc_28, DL.nc_29, DL.nc_30, DL.addD_i, DL.addD_t, DL.addD_l, DL.subD_i, DL.modD_i, DL.fdivD_i, DL.mulD_i, DL.lenD_t, DL.lenD_l, DL.tupleD_t, DL.tupleD_l, DL.truD_i, DL.truD_b, DL.truD_n, DL.truD_l, DL.truD_t, DL.ixD_t, DL.ixD_l, DL.negD_i, DL.bD_a, DL.ltB_i, DL.leB_i, DL.eqB_i, DL.neB_i, DL.min2D_i, DL.max2D_i, DL.items_t, DL.items_l, DL.intD_b, DL.isNN, DL.slD_t, DL.slD_l, DL.sortD2_l, DL.sortD2_t, DL.p_ge0, DL.p_geS, DL.p_tk0, DL.p_tkS, DL.p_tkN, DL.p_dr0, DL.p_drS, DL.p_drN, DL.p_mpC, DL.p_mpN, DL.p_apC, DL.p_apN, DL.p_lnC, DL.p_lnN, DL.p_rpS, DL.p_rp0, DL.p_alC, DL.p_alN, DL.p_gdS, DL.p_gdN, DL.p_tlS, DL.p_tlN, DL.p_ieC, DL.p_ieN, DL.p_nt, DL.p_nf, DL.p_atb, DL.p_afb, DL.p_abt, DL.p_abf, DL.p_eqS, DL.p_dT, DL.p_dF, DL.p_TA, DL.p_AT, DL.p_TO, DL.p_OT, DL.p_startD, DL.p_startR, DL.forK_nx, DL.forK_ct, DL.forK_rt, DL.yesM_a, DL.it1_a, DL.compM_a, DL.wipeR_c, DL.wipeR_n, DL.restR_c, DL.restR_n, DL.gtD_i, DL.gtD_T, DL.ob_assoc, DL.om_bind, DL.ob_map, DL.om_map, DL.cnd_bind, DL.cnd_map, DL.guard_bind, DL.guard_map, DL.atI_c0, DL.atI_c1, DL.atI_c2, DL.atI_c3, DL.encN_0, DL.encN_1, DL.encN_2, DL.encN_u, DL.eq_TI, DL.ne_TI, DL.in_I, DL.in_Il, DL.in_T, DL.in_R, DL.notInB_a, DL.enumM_a, DL.exM_a, DL.seqK_ex, DL.finF_ex, DL.forK_ex, DL.tri_no, DL.trm_no, DL.atI_neg1, DL.wipO_nx, DL.wipO_ct, DL.wipO_bk, DL.wipO_rt, DL.wipO_ex, DL.wipM_a, DL.preM_a, DL.two_a, DL.parLM_a, DL.finR_ex, DL.len_map, DL.len_app, DL.len_ir, DL.len_rev, DL.sz_c, DL.rng_c, DL.rngL_n, DL.forM_a', DL.rev_map, DL.seqK_bk, DL.forK_bk, DL.enum_m, DL.emp_map, PG.Sq_failing_1_a, PG.Sq_failing_2_a, PG.Sq_twins_1_a, PG.Sq_twins_2_a, PG.Sq_suspects_1_a, PG.Sq_suspects_2_a, PG.Sq_the_one_1_a, PG.Sq_cases_1_a, PG.Sq_split_1_a, PG.Sq_shortest_1_a, PG.Sq_shortest_2_a, PG.Sq_written_1_a, PG.Sq_tie_in_1_a, PG.Sq_read_1_a, PG.Sq_read_2_a, PG.Sq_read_3_a, PG.Sq_read_4_a, DL.eq_LI, DL.ne_LI, DL.eq_LI0, DL.ne_LI0, DL.eq_LT, DL.ne_LT, DL.eq_LR, DL.ne_LR, DL.eq_TR, DL.ne_TR, DL.eq_B, DL.ne_B, DL.wp_mapE, DL.map_id_int, DL.cut_f, DL.cut_t, DL.cut_f1, DL.map_drop', DL.map_take', DL.map_app', DL.len_zip, DL.inDM_a, DL.dkOf_i, DL.sortIM_a, DL.newDispM_a, DL.keyOf_i, DL.whileK_nx, PG.anyD_map, PG.allD_map', PG.enum_ir, DL.wipX_a, DL.ifX_a, DL.grpX_a, DL.appX_a, DL.forX_a, DL.ifC_a, DL.exprC_a, DL.llM_a, DL.llK_0, PG.eq_BB, PG.ne_BB, PG.allT_t, DL.runX_a, DL.finX_rt, DL.finX_ex, DL.finX_nx, DL.isN_i, DL.isNotN_i, DL.isNotN_n, DL.rngL_g1, DL.ow_k, DL.as_k, DL.flag_k, DL.callOM_a, DL.hereOM_a, DL.runO_a, DL.finO_rt, DL.finO_nx, DL.p_startO, DL.skr_s, DL.ow_s, DL.as_s, DL.flag_s, DL.netM_a, DL.toldM_a, DL.lastM_a, DL.setTM_a, DL.rowsAppM_a, DL.rowsPopM_a, DL.methM_a, DL.mkM_a, DL.newSM_a, DL.runOX_a, DL.finOX_rt, DL.finOX_nx, DL.finOX_ex, DL.finO_ex, DL.ow_l, DL.as_l, DL.flag_l, DL.methK_ok, DL.methK_er, DL.methX_a, PG.eq_OO, PG.ne_OO, PG.in_O, FA.isNot_bb, DL.eq_NN, DL.ne_NN, DL.eq_TT, DL.ne_TT, DL.eq_TT0, DL.ne_TI0, DL.eq_TI0, Nat.reduceAdd, Nat.reduceSub, Nat.reduceMul, Int.reduceLT, Int.reduceLE, Int.reducePow, Int.reduceNeg, Int.reduceAdd, Int.reduceSub, Int.reduceMul, Int.reduceBEq, Int.reduceBNe, Int.reduceToNat, $xs,*])
namespace DL
open PySem L2
/-! what is the same equals itself -/
mutual
theorem eqv_self : ∀ d : D, PyData.canLay0 d = true → PyData.eqv d d = true
  | .none, _ => by simp [PyData.eqv]
  | .bool b, _ => by simp [PyData.eqv]
  | .int i, _ => by simp [PyData.eqv]
  | .str x, _ => by simp [PyData.eqv]
  | .list xs, h => by
    simp only [PyData.eqv]
    exact eqvAll_self xs (by simpa [PyData.canLay0] using h)
  | .tuple xs, h => by
    simp only [PyData.eqv]
    exact eqvAll_self xs (by simpa [PyData.canLay0] using h)
  | .dict _, h => by simp [PyData.canLay0] at h
theorem eqvAll_self : ∀ ds : List D, PyData.canLayAll0 ds = true → PyData.eqvAll ds ds = true
  | [], _ => by simp [PyData.eqvAll]
  | d :: ds, h => by
    simp only [PyData.canLayAll0, Bool.and_eq_true] at h
    simp only [PyData.eqvAll, Bool.and_eq_true]
    exact ⟨eqv_self d h.1, eqvAll_self ds h.2⟩
end
theorem ne_same {d : D} (h : SeqAt.shaped d = true) : neB d d = some false := by rw [PG.neB_sh h h, eqv_self d (SeqAt.canLay_of_shaped h)]; rfl
/-- shaped, by depth -/
structure Shp (k : Nat) (d : D) : Prop where
  lay : d.canLay0 = true
  dep : d.depth ≤ k
theorem Shp.shaped {k : Nat} {d : D} (h : Shp k d) (hk : k ≤ 64 := by omega) : SeqAt.shaped d = true := sh_mk h.lay (Nat.le_trans h.dep hk)
theorem Shp.mono {j k : Nat} {d : D} (h : Shp j d) (hk : j ≤ k := by omega) : Shp k d := ⟨h.lay, Nat.le_trans h.dep hk⟩
theorem shpAll {k : Nat} : ∀ {ds : List D}, (∀ d ∈ ds, Shp k d) → PyData.canLayAll0 ds = true ∧ PyData.depthAll ds ≤ k
  | [], _ => by simp [PyData.canLayAll0, PyData.depthAll]
  | d :: ds, h => by
    obtain ⟨h1, h2⟩ := shpAll (ds := ds) fun x m => h x (List.mem_cons_of_mem _ m)
    have h3 := h d List.mem_cons_self
    simp only [PyData.canLayAll0, PyData.depthAll, h3.lay, h1, Bool.and_self, true_and]
    have := h3.dep
    omega
theorem Shp.tup {k : Nat} {ds : List D} (h : ∀ d ∈ ds, Shp k d) : Shp (k + 1) (.tuple ds) := by
  obtain ⟨h1, h2⟩ := shpAll h
  exact ⟨by simpa [PyData.canLay0] using h1, by simp only [PyData.depth]; omega⟩
theorem Shp.lst {k : Nat} {ds : List D} (h : ∀ d ∈ ds, Shp k d) : Shp (k + 1) (.list ds) := by
  obtain ⟨h1, h2⟩ := shpAll h
  exact ⟨by simpa [PyData.canLay0] using h1, by simp only [PyData.depth]; omega⟩
theorem Shp.int (i : Int) : Shp 1 (.int i) := ⟨by simp [PyData.canLay0], by simp [PyData.depth]⟩
theorem Shp.none : Shp 1 .none := ⟨by simp [PyData.canLay0], by simp [PyData.depth]⟩
theorem Shp.bool (b : Bool) : Shp 1 (.bool b) := ⟨by simp [PyData.canLay0], by simp [PyData.depth]⟩
theorem Shp.of {α : Type} [DecidableEq α] {k : Nat} {f : α → D} (h : EncF k f) (a : α) : Shp k (f a) := ⟨h.lay a, h.dep a⟩
/-! slices with a step -/
end DL
local macro_rules | `(tactic| simp_arith [$xs,*]) => `(tactic| simp (maxSteps := 2000000) (disch := omega) only [DL.ob_some, DL.om_some, DL.dat_d, DL.lis_l, DL.dic_m, DL.gt_0, DL.gt_1, DL.gt_2, DL.gt_3, DL.gt_4, DL.gt_5, DL.gt_6, DL.gt_7, DL.gt_b, DL.st_0, DL.st_s, DL.plG_d, DL.plG_n, DL.plainAt_a, DL.varM_a, DL.ownM_a, DL.cM_a, DL.ofL_a, DL.opM_a, DL.opOwnM_a, DL.unM_a, DL.truM_a, DL.tstM_a, DL.notM_a, DL.cnd_t, DL.cnd_f, DL.andM_a, DL.orM_a, DL.andVM_a, DL.orVM_a, DL.notVM_a, DL.iteM_a, DL.chM_a, DL.nilM_a, DL.consM_a, DL.guard_tt, DL.tupM_a, DL.lstM_a, DL.noM_a, DL.intV_i, DL.someM_a, DL.slM_a, DL.rng1M_a, DL.rng2M_a, DL.zipV_t, DL.zipV_l, DL.zipM_a, DL.seqM_a, DL.callM_a, DL.hereM_a, DL.callRM_a, DL.appM_a, DL.lisV_l, DL.extM_a, DL.popM_a, DL.popAtM_a, DL.newDM_a, DL.putM_a, DL.lenDM_a, DL.sortDM_a, DL.nameG_a, DL.nilG_a, DL.consG_a, DL.tupG_a, DL.seqS_a, DL.seqK_nx, DL.seqK_rt, DL.seqK_ct, DL.skipM_a, DL.asgM_a, DL.asgG_a, DL.newM_a, DL.asgLM_a, DL.retM_a, DL.exprM_a, DL.ifM_a, DL.forM_a, DL.frzM_a, DL.runF_a, DL.finF_rt, DL.finF_nx, DL.runR_a, DL.finR_rt, DL.finR_nx, DL.sz_0, DL.sz_1, DL.sz_2, DL.sz_3, DL.sz_4, DL.sz_5, DL.sz_6, DL.sz_7, DL.sz_8, DL.sz_9, DL.sz_10, DL.sz_11, DL.sz_12, DL.sz_13, DL.sz_14, DL.sz_15, DL.sz_16, DL.sz_17, DL.sz_18, DL.sz_19, DL.sz_20, DL.sz_21, DL.sz_22, DL.sz_23, DL.sz_24, DL.sz_25, DL.sz_26, DL.sz_27, DL.sz_28, DL.sz_29, DL.sz_30, DL.nc_0, DL.nc_1, DL.nc_2, DL.nc_3, DL.nc_4, DL.nc_5, DL.nc_6, DL.nc_7, DL.nc_8, DL.nc_9, DL.nc_10, DL.nc_11, DL.nc_12, DL.nc_13, DL.nc_14, DL.nc_15, DL.nc_16, DL.nc_17, DL.nc_18, DL.nc_19, DL.nc_20, DL.nc_21, DL.nc_22, DL.nc_23, DL.nc_24, DL.nc_25, DL.nc_26, DL.nc_27, DL.nc_28, DL.nc_29, DL.nc_30, DL.addD_i, DL.addD_t, DL.addD_l, DL.subD_i, DL.modD_i, DL.fdivD_i, DL.mulD_i, DL.lenD_t, DL.lenD_l, DL.tupleD_t, DL.tupleD_l, DL.truD_i, DL.truD_b, DL.truD_n, DL.truD_l, DL.truD_t, DL.ixD_t, DL.ixD_l, DL.negD_i, DL.bD_a, DL.ltB_i, DL.leB_i, DL.eqB_i, DL.neB_i, DL.min2D_i, DL.max2D_i, DL.items_t, DL.items_l, DL.intD_b, DL.isNN, DL.slD_t, DL.slD_l, DL.sortD2_l, DL.sortD2_t, DL.p_ge0, DL.p_geS, DL.p_tk0, DL.p_tkS, DL.p_tkN, DL.p_dr0, DL.p_drS, DL.p_drN, DL.p_mpC, DL.p_mpN, DL.p_apC, DL.p_apN, DL.p_lnC, DL.p_lnN, DL.p_rpS, DL.p_rp0, DL.p_alC, DL.p_alN, DL.p_gdS, DL.p_gdN, DL.p_tlS, DL.p_tlN, DL.p_ieC, DL.p_ieN, DL.p_nt, DL.p_nf, DL.p_atb, DL.p_afb, DL.p_abt, DL.p_abf, DL.p_eqS, DL.p_dT, DL.p_dF, DL.p_TA, DL.p_AT, DL.p_TO, DL.p_OT, DL.p_startD, DL.p_startR, DL.forK_nx, DL.forK_ct, DL.forK_rt, DL.yesM_a, DL.it1_a, DL.compM_a, DL.wipeR_c, DL.wipeR_n, DL.restR_c, DL.restR_n, DL.gtD_i, DL.gtD_T, DL.ob_assoc, DL.om_bind, DL.ob_map, DL.om_map, DL.cnd_bind, DL.cnd_map, DL.guard_bind, DL.guard_map, DL.atI_c0, DL.atI_c1, DL.atI_c2, DL.atI_c3, DL.encN_0, DL.encN_1, DL.encN_2, DL.encN_u, DL.eq_TI, DL.ne_TI, DL.in_I, DL.in_Il, DL.in_T, DL.in_R, DL.notInB_a, DL.enumM_a, DL.exM_a, DL.seqK_ex, DL.finF_ex, DL.forK_ex, DL.tri_no, DL.trm_no, DL.atI_neg1, DL.wipO_nx, DL.wipO_ct, DL.wipO_bk, DL.wipO_rt, DL.wipO_ex, DL.wipM_a, DL.preM_a, DL.two_a, DL.parLM_a, DL.finR_ex, DL.len_map, DL.len_app, DL.len_ir, DL.len_rev, DL.sz_c, DL.rng_c, DL.rngL_n, DL.forM_a', DL.rev_map, DL.seqK_bk, DL.forK_bk, DL.enum_m, DL.emp_map, PG.Sq_failing_1_a, PG.Sq_failing_2_a, PG.Sq_twins_1_a, PG.Sq_twins_2_a, PG.Sq_suspects_1_a, PG.Sq_suspects_2_a, PG.Sq_the_one_1_a, PG.Sq_cases_1_a, PG.Sq_split_1_a, PG.Sq_shortest_1_a, PG.Sq_shortest_2_a, PG.Sq_written_1_a, PG.Sq_tie_in_1_a, PG.Sq_read_1_a, PG.Sq_read_2_a, PG.Sq_read_3_a, PG.Sq_read_4_a, DL.eq_LI, DL.ne_LI, DL.eq_LI0, DL.ne_LI0, DL.eq_LT, DL.ne_LT, DL.eq_LR, DL.ne_LR, DL.eq_TR, DL.ne_TR, DL.eq_B, DL.ne_B, DL.wp_mapE, DL.map_id_int, DL.cut_f, DL.cut_t, DL.cut_f1, DL.map_drop', DL.map_take', DL.map_app', DL.len_zip, DL.inDM_a, DL.dkOf_i, DL.sortIM_a, DL.newDispM_a, DL.keyOf_i, DL.whileK_nx, PG.anyD_map, PG.allD_map', PG.enum_ir, DL.wipX_a, DL.ifX_a, DL.grpX_a, DL.appX_a, DL.forX_a, DL.ifC_a, DL.exprC_a, DL.llM_a, DL.llK_0, PG.eq_BB, PG.ne_BB, PG.allT_t, DL.runX_a, DL.finX_rt, DL.finX_ex, DL.finX_nx, DL.isN_i, DL.isNotN_i, DL.isNotN_n, DL.rngL_g1, DL.ow_k, DL.as_k, DL.flag_k, DL.callOM_a, DL.hereOM_a, DL.runO_a, DL.finO_rt, DL.finO_nx, DL.p_startO, DL.skr_s, DL.ow_s, DL.as_s, DL.flag_s, DL.netM_a, DL.toldM_a, DL.lastM_a, DL.setTM_a, DL.rowsAppM_a, DL.rowsPopM_a, DL.methM_a, DL.mkM_a, DL.newSM_a, DL.runOX_a, DL.finOX_rt, DL.finOX_nx, DL.finOX_ex, DL.finO_ex, DL.ow_l, DL.as_l, DL.flag_l, DL.methK_ok, DL.methK_er, DL.methX_a, PG.eq_OO, PG.ne_OO, PG.in_O, FA.isNot_bb, DL.eq_NN, DL.ne_NN, DL.eq_TT, DL.ne_TT, DL.eq_TT0, DL.ne_TI0, DL.eq_TI0, Nat.reduceAdd, Nat.reduceSub, Nat.reduceMul, Int.reduceLT, Int.reduceLE, Int.reducePow, Int.reduceNeg, Int.reduceAdd, Int.reduceSub, Int.reduceMul, Int.reduceBEq, Int.reduceBNe, Int.reduceToNat, $xs,*])
namespace DL
open PySem L2
/-! statements that may raise; except .. as e -/
theorem exprXM_a (g : List D → Option (Except String D)) (f : AM) (r : Rho) : exprXM g f r = (f r).bind fun p => (g p.1).map fun o => methK p.2 o := by
  unfold exprXM
  congr 1
theorem callOXM_a (i : Nat) (g : List D → SV → Option (Except String D × SV)) (f : AM) (r : Rho) : callOXM i g f r = (f r).bind fun p => (gt p.2 i).bind fun s => s.ow.bind fun sv => (g p.1 (sv.as true)).map fun q => methK (p.2.set i (some (q.2.as sv.flag))) q.1 := by
  unfold callOXM
  congr 1; funext p
  rw [ownS_gt]
  cases gt p.2 i with
  | none => rfl
  | some s =>
    show (s.ow.bind fun sv => _) = s.ow.bind fun sv => _
    cases s.ow with
    | none => rfl
    | some sv =>
      show (g p.1 (sv.as true)).map _ = (g p.1 (sv.as true)).map _
      cases g p.1 (sv.as true) with
      | none => rfl
      | some q =>
        obtain ⟨o, q2⟩ := q
        cases o <;> rfl
def tryAK (rs : List String) (i : Nat) (h : String → SM) : Out → Option Out
  | .ex c r' => cnd (rs.contains c) (fun _ => h c (r'.set i none)) fun _ => none
  | o => some o
theorem tryAM_a (rs : List String) (i : Nat) (f : SM) (h : String → SM) (r : Rho) : tryAM rs i f h r = (f r).bind (tryAK rs i h) := by
  unfold tryAM
  cases f r with
  | none => rfl
  | some o =>
    cases o with
    | ex c r' =>
      show (if rs.contains c = true then h c (r'.set i none) else none) = cnd (rs.contains c) (fun _ => h c (r'.set i none)) fun _ => none
      cases rs.contains c <;> rfl
    | _ => rfl
theorem tryAK_nx (rs : List String) (i : Nat) (h : String → SM) (r : Rho) : tryAK rs i h (.nx r) = some (.nx r) := (rfl)
theorem tryAK_rt (rs : List String) (i : Nat) (h : String → SM) (d : D) (r : Rho) : tryAK rs i h (.rt d r) = some (.rt d r) := (rfl)
theorem tryAK_ex (rs : List String) (i : Nat) (h : String → SM) (c : String) (r : Rho) : tryAK rs i h (.ex c r) = cnd (rs.contains c) (fun _ => h c (r.set i none)) fun _ => none := (rfl)
end DL
local macro_rules | `(tactic| simp_arith [$xs,*]) => `(tactic| simp (maxSteps := 2000000) (disch := omega) only [DL.ob_some, DL.om_some, DL.dat_d, DL.lis_l, DL.dic_m, DL.gt_0, DL.gt_1, DL.gt_2, DL.gt_3, DL.gt_4, DL.gt_5, DL.gt_6, DL.gt_7, DL.gt_b, DL.st_0, DL.st_s, DL.plG_d, DL.plG_n, DL.plainAt_a, DL.varM_a, DL.ownM_a, DL.cM_a, DL.ofL_a, DL.opM_a, DL.opOwnM_a, DL.unM_a, DL.truM_a, DL.tstM_a, DL.notM_a, DL.cnd_t, DL.cnd_f, DL.andM_a, DL.orM_a, DL.andVM_a, DL.orVM_a, DL.notVM_a, DL.iteM_a, DL.chM_a, DL.nilM_a, DL.consM_a, DL.guard_tt, DL.tupM_a, DL.lstM_a, DL.noM_a, DL.intV_i, DL.someM_a, DL.slM_a, DL.rng1M_a, DL.rng2M_a, DL.zipV_t, DL.zipV_l, DL.zipM_a, DL.seqM_a, DL.callM_a, DL.hereM_a, DL.callRM_a, DL.appM_a, DL.lisV_l, DL.extM_a, DL.popM_a, DL.popAtM_a, DL.newDM_a, DL.putM_a, DL.lenDM_a, DL.sortDM_a, DL.nameG_a, DL.nilG_a, DL.consG_a, DL.tupG_a, DL.seqS_a, DL.seqK_nx, DL.seqK_rt, DL.seqK_ct, DL.skipM_a, DL.asgM_a, DL.asgG_a, DL.newM_a, DL.asgLM_a, DL.retM_a, DL.exprM_a, DL.ifM_a, DL.forM_a, DL.frzM_a, DL.runF_a, DL.finF_rt, DL.finF_nx, DL.runR_a, DL.finR_rt, DL.finR_nx, DL.sz_0, DL.sz_1, DL.sz_2, DL.sz_3, DL.sz_4, DL.sz_5, DL.sz_6, DL.sz_7, DL.sz_8, DL.sz_9, DL.sz_10, DL.sz_11, DL.sz_12, DL.sz_13, DL.sz_14, DL.sz_15, DL.sz_16, DL.sz_17, DL.sz_18, DL.sz_19, DL.sz_20, DL.sz_21, DL.sz_22, DL.sz_23, DL.sz_24, DL.sz_25, DL.sz_26, DL.sz_27, DL.sz_28, DL.sz_29, DL.sz_30, DL.nc_0, DL.nc_1, DL.nc_2, DL.nc_3, DL.nc_4, DL.nc_5, DL.nc_6, DL.nc_7, DL.nc_8, DL.nc_9, DL.nc_10, DL.nc_11, DL.nc_12, DL.nc_13, DL.nc_14, DL.nc_15, DL.nc_16, DL.nc_17, DL.nc_18, DL.nc_19, DL.nc_20, DL.nc_21, DL.nc_22, DL.nc_23, DL.nc_24, DL.nc_25, DL.nc_26, DL.nc_27, DL.nc_28, DL.nc_29, DL.nc_30, DL.addD_i, DL.addD_t, DL.addD_l, DL.subD_i, DL.modD_i, DL.fdivD_i, DL.mulD_i, DL.lenD_t, DL.lenD_l, DL.tupleD_t, DL.tupleD_l, DL.truD_i, DL.truD_b, DL.truD_n, DL.truD_l, DL.truD_t, DL.ixD_t, DL.ixD_l, DL.negD_i, DL.bD_a, DL.ltB_i, DL.leB_i, DL.eqB_i, DL.neB_i, DL.min2D_i, DL.max2D_i, DL.items_t, DL.items_l, DL.intD_b, DL.isNN, DL.slD_t, DL.slD_l, DL.sortD2_l, DL.sortD2_t, DL.p_ge0, DL.p_geS, DL.p_tk0, DL.p_tkS, DL.p_tkN, DL.p_dr0, DL.p_drS, DL.p_drN, DL.p_mpC, DL.p_mpN, DL.p_apC, DL.p_apN, DL.p_lnC, DL.p_lnN, DL.p_rpS, DL.p_rp0, DL.p_alC, DL.p_alN, DL.p_gdS, DL.p_gdN, DL.p_tlS, DL.p_tlN, DL.p_ieC, DL.p_ieN, DL.p_nt, DL.p_nf, DL.p_atb, DL.p_afb, DL.p_abt, DL.p_abf, DL.p_eqS, DL.p_dT, DL.p_dF, DL.p_TA, DL.p_AT, DL.p_TO, DL.p_OT, DL.p_startD, DL.p_startR, DL.forK_nx, DL.forK_ct, DL.forK_rt, DL.yesM_a, DL.it1_a, DL.compM_a, DL.wipeR_c, DL.wipeR_n, DL.restR_c, DL.restR_n, DL.gtD_i, DL.gtD_T, DL.ob_assoc, DL.om_bind, DL.ob_map, DL.om_map, DL.cnd_bind, DL.cnd_map, DL.guard_bind, DL.guard_map, DL.atI_c0, DL.atI_c1, DL.atI_c2, DL.atI_c3, DL.encN_0, DL.encN_1, DL.encN_2, DL.encN_u, DL.eq_TI, DL.ne_TI, DL.in_I, DL.in_Il, DL.in_T, DL.in_R, DL.notInB_a, DL.enumM_a, DL.exM_a, DL.seqK_ex, DL.finF_ex, DL.forK_ex, DL.tri_no, DL.trm_no, DL.atI_neg1, DL.wipO_nx, DL.wipO_ct, DL.wipO_bk, DL.wipO_rt, DL.wipO_ex, DL.wipM_a, DL.preM_a, DL.two_a, DL.parLM_a, DL.finR_ex, DL.len_map, DL.len_app, DL.len_ir, DL.len_rev, DL.sz_c, DL.rng_c, DL.rngL_n, DL.forM_a', DL.rev_map, DL.seqK_bk, DL.forK_bk, DL.enum_m, DL.emp_map, PG.Sq_failing_1_a, PG.Sq_failing_2_a, PG.Sq_twins_1_a, PG.Sq_twins_2_a, PG.Sq_suspects_1_a, PG.Sq_suspects_2_a, PG.Sq_the_one_1_a, PG.Sq_cases_1_a, PG.Sq_split_1_a, PG.Sq_shortest_1_a, PG.Sq_shortest_2_a, PG.Sq_written_1_a, PG.Sq_tie_in_1_a, PG.Sq_read_1_a, PG.Sq_read_2_a, PG.Sq_read_3_a, PG.Sq_read_4_a, DL.eq_LI, DL.ne_LI, DL.eq_LI0, DL.ne_LI0, DL.eq_LT, DL.ne_LT, DL.eq_LR, DL.ne_LR, DL.eq_TR, DL.ne_TR, DL.eq_B, DL.ne_B, DL.wp_mapE, DL.map_id_int, DL.cut_f, DL.cut_t, DL.cut_f1, DL.map_drop', DL.map_take', DL.map_app', DL.len_zip, DL.inDM_a, DL.dkOf_i, DL.sortIM_a, DL.newDispM_a, DL.keyOf_i, DL.whileK_nx, PG.anyD_map, PG.allD_map', PG.enum_ir, DL.wipX_a, DL.ifX_a, DL.grpX_a, DL.appX_a, DL.forX_a, DL.ifC_a, DL.exprC_a, DL.llM_a, DL.llK_0, PG.eq_BB, PG.ne_BB, PG.allT_t, DL.runX_a, DL.finX_rt, DL.finX_ex, DL.finX_nx, DL.isN_i, DL.isNotN_i, DL.isNotN_n, DL.rngL_g1, PG.eq_OO, PG.ne_OO, PG.in_O, Nat.reduceAdd, Nat.reduceSub, Nat.reduceMul, Int.reduceLT, Int.reduceLE, Int.reducePow, Int.reduceNeg, Int.reduceAdd, Int.reduceSub, Int.reduceMul, Int.reduceBEq, Int.reduceBNe, Int.reduceToNat, $xs,*])
namespace PG
open PySem L2 DL GT RX
/-! cases are told apart by routes -/
/-! plans -/
inductive Pl where
  | is (o : Option Int)
  | ask (r : List Int) (w b : Pl)
end PG
local macro_rules | `(tactic| simp_arith [$xs,*]) => `(tactic| simp (maxSteps := 2000000) (disch := omega) only [DL.ob_some, DL.om_some, DL.dat_d, DL.lis_l, DL.dic_m, DL.gt_0, DL.gt_1, DL.gt_2, DL.gt_3, DL.gt_4, DL.gt_5, DL.gt_6, DL.gt_7, DL.gt_b, DL.st_0, DL.st_s, DL.plG_d, DL.plG_n, DL.plainAt_a, DL.varM_a, DL.ownM_a, DL.cM_a, DL.ofL_a, DL.opM_a, DL.opOwnM_a, DL.unM_a, DL.truM_a, DL.tstM_a, DL.notM_a, DL.cnd_t, DL.cnd_f, DL.andM_a, DL.orM_a, DL.andVM_a, DL.orVM_a, DL.notVM_a, DL.iteM_a, DL.chM_a, DL.nilM_a, DL.consM_a, DL.guard_tt, DL.tupM_a, DL.lstM_a, DL.noM_a, DL.intV_i, DL.someM_a, DL.slM_a, DL.rng1M_a, DL.rng2M_a, DL.zipV_t, DL.zipV_l, DL.zipM_a, DL.seqM_a, DL.callM_a, DL.hereM_a, DL.callRM_a, DL.appM_a, DL.lisV_l, DL.extM_a, DL.popM_a, DL.popAtM_a, DL.newDM_a, DL.putM_a, DL.lenDM_a, DL.sortDM_a, DL.nameG_a, DL.nilG_a, DL.consG_a, DL.tupG_a, DL.seqS_a, DL.seqK_nx, DL.seqK_rt, DL.seqK_ct, DL.skipM_a, DL.asgM_a, DL.asgG_a, DL.newM_a, DL.asgLM_a, DL.retM_a, DL.exprM_a, DL.ifM_a, DL.forM_a, DL.frzM_a, DL.runF_a, DL.finF_rt, DL.finF_nx, DL.runR_a, DL.finR_rt, DL.finR_nx, DL.sz_0, DL.sz_1, DL.sz_2, DL.sz_3, DL.sz_4, DL.sz_5, DL.sz_6, DL.sz_7, DL.sz_8, DL.sz_9, DL.sz_10, DL.sz_11, DL.sz_12, DL.sz_13, DL.sz_14, DL.sz_15, DL.sz_16, DL.sz_17, DL.sz_18, DL.sz_19, DL.sz_20, DL.sz_21, DL.sz_22, DL.sz_23, DL.sz_24, DL.sz_25, DL.sz_26, DL.sz_27, DL.sz_28, DL.sz_29, DL.sz_30, DL.nc_0, DL.nc_1, DL.nc_2, DL.nc_3, DL.nc_4, DL.nc_5, DL.nc_6, DL.nc_7, DL.nc_8, DL.nc_9, DL.nc_10, DL.nc_11, DL.nc_12, DL.nc_13, DL.nc_14, DL.nc_15, DL.nc_16, DL.nc_17, DL.nc_18, DL.nc_19, DL.nc_20, DL.nc_21, DL.nc_22, DL.nc_23, DL.nc_24, DL.nc_25, DL.nc_26, DL.nc_27, DL.nc_28, DL.nc_29, DL.nc_30, DL.addD_i, DL.addD_t, DL.addD_l, DL.subD_i, DL.modD_i, DL.fdivD_i, DL.mulD_i, DL.lenD_t, DL.lenD_l, DL.tupleD_t, DL.tupleD_l, DL.truD_i, DL.truD_b, DL.truD_n, DL.truD_l, DL.truD_t, DL.ixD_t, DL.ixD_l, DL.negD_i, DL.bD_a, DL.ltB_i, DL.leB_i, DL.eqB_i, DL.neB_i, DL.min2D_i, DL.max2D_i, DL.items_t, DL.items_l, DL.intD_b, DL.isNN, DL.slD_t, DL.slD_l, DL.sortD2_l, DL.sortD2_t, DL.p_ge0, DL.p_geS, DL.p_tk0, DL.p_tkS, DL.p_tkN, DL.p_dr0, DL.p_drS, DL.p_drN, DL.p_mpC, DL.p_mpN, DL.p_apC, DL.p_apN, DL.p_lnC, DL.p_lnN, DL.p_rpS, DL.p_rp0, DL.p_alC, DL.p_alN, DL.p_gdS, DL.p_gdN, DL.p_tlS, DL.p_tlN, DL.p_ieC, DL.p_ieN, DL.p_nt, DL.p_nf, DL.p_atb, DL.p_afb, DL.p_abt, DL.p_abf, DL.p_eqS, DL.p_dT, DL.p_dF, DL.p_TA, DL.p_AT, DL.p_TO, DL.p_OT, DL.p_startD, DL.p_startR, DL.forK_nx, DL.forK_ct, DL.forK_rt, DL.yesM_a, DL.it1_a, DL.compM_a, DL.wipeR_c, DL.wipeR_n, DL.restR_c, DL.restR_n, DL.gtD_i, DL.gtD_T, DL.ob_assoc, DL.om_bind, DL.ob_map, DL.om_map, DL.cnd_bind, DL.cnd_map, DL.guard_bind, DL.guard_map, DL.atI_c0, DL.atI_c1, DL.atI_c2, DL.atI_c3, DL.encN_0, DL.encN_1, DL.encN_2, DL.encN_u, DL.eq_TI, DL.ne_TI, DL.in_I, DL.in_Il, DL.in_T, DL.in_R, DL.notInB_a, DL.enumM_a, DL.exM_a, DL.seqK_ex, DL.finF_ex, DL.forK_ex, DL.tri_no, DL.trm_no, DL.atI_neg1, DL.wipO_nx, DL.wipO_ct, DL.wipO_bk, DL.wipO_rt, DL.wipO_ex, DL.wipM_a, DL.preM_a, DL.two_a, DL.parLM_a, DL.finR_ex, DL.len_map, DL.len_app, DL.len_ir, DL.len_rev, DL.sz_c, DL.rng_c, DL.rngL_n, DL.forM_a', DL.rev_map, DL.seqK_bk, DL.forK_bk, DL.enum_m, DL.emp_map, PG.Sq_failing_1_a, PG.Sq_failing_2_a, PG.Sq_twins_1_a, PG.Sq_twins_2_a, PG.Sq_suspects_1_a, PG.Sq_suspects_2_a, PG.Sq_the_one_1_a, PG.Sq_cases_1_a, PG.Sq_split_1_a, PG.Sq_shortest_1_a, PG.Sq_shortest_2_a, PG.Sq_written_1_a, PG.Sq_tie_in_1_a, PG.Sq_read_1_a, PG.Sq_read_2_a, PG.Sq_read_3_a, PG.Sq_read_4_a, DL.eq_LI, DL.ne_LI, DL.eq_LI0, DL.ne_LI0, DL.eq_LT, DL.ne_LT, DL.eq_LR, DL.ne_LR, DL.eq_TR, DL.ne_TR, DL.eq_B, DL.ne_B, DL.wp_mapE, DL.map_id_int, DL.cut_f, DL.cut_t, DL.cut_f1, DL.map_drop', DL.map_take', DL.map_app', DL.len_zip, DL.inDM_a, DL.dkOf_i, DL.sortIM_a, DL.newDispM_a, DL.keyOf_i, DL.whileK_nx, PG.anyD_map, PG.allD_map', PG.enum_ir, DL.wipX_a, DL.ifX_a, DL.grpX_a, DL.appX_a, DL.forX_a, DL.ifC_a, DL.exprC_a, DL.llM_a, DL.llK_0, PG.eq_BB, PG.ne_BB, PG.allT_t, DL.runX_a, DL.finX_rt, DL.finX_ex, DL.finX_nx, DL.isN_i, DL.isNotN_i, DL.isNotN_n, DL.rngL_g1, PG.eq_OO, PG.ne_OO, PG.in_O, DL.ow_k, DL.as_k, DL.flag_k, DL.callOM_a, DL.hereOM_a, DL.runO_a, DL.finO_rt, DL.finO_nx, DL.p_startO, Nat.reduceAdd, Nat.reduceSub, Nat.reduceMul, Int.reduceLT, Int.reduceLE, Int.reducePow, Int.reduceNeg, Int.reduceAdd, Int.reduceSub, Int.reduceMul, Int.reduceBEq, Int.reduceBNe, Int.reduceToNat, $xs,*])
namespace PG
open PySem L2 DL GT RX
/-! how deep a plan must be -/
def whO (N : Net) (r : List Int) (os : List (Option Int)) : List (Option Int) := os.filter fun o => !inRow (tiesOf N r) o
def brO (N : Net) (r : List Int) (os : List (Option Int)) : List (Option Int) := os.filter (inRow (tiesOf N r))
def midO (N : Net) (os : List (Option Int)) (r : List Int) : Bool := !(whO N r os).isEmpty && !(brO N r os).isEmpty
section
variable {N : Net} {os top : List (Option Int)} {r : List Int}
/-- one more route looked at -/
def stepO (N : Net) (dp : List (Option Int) → Nat) (os : List (Option Int)) (best : Nat) (r : List Int) : Nat := if midO N os r = true then min best (1 + max (dp (whO N r os)) (dp (brO N r os))) else best
def dpF (N : Net) : Nat → List (Option Int) → Nat
  | 0, _ => 0
  | f + 1, os => if os.length < 2 then 0 else (routes N).foldl (stepO N (dpF N f) os) os.length
def dp (N : Net) (os : List (Option Int)) : Nat := dpF N os.length os
/-! what is known -/
def subs {α : Type} : List α → List (List α)
  | [] => [[]]
  | x :: xs => subs xs ++ (subs xs).map (x :: ·)
theorem mem_subs {α : Type} {c xs : List α} (h : c.Sublist xs) : c ∈ subs xs := by
  induction h with
  | slnil => simp [subs]
  | cons x _ ih => exact List.mem_append.mpr (.inl ih)
  | cons_cons x _ ih => exact List.mem_append.mpr (.inr (List.mem_map.mpr ⟨_, ih, rfl⟩))
theorem subs_len {α : Type} : ∀ xs : List α, (subs xs).length = 2 ^ xs.length
  | [] => rfl
  | x :: xs => by
    rw [subs, List.length_append, List.length_map, subs_len xs, List.length_cons, Nat.pow_succ]
    omega
structure Memo (N : Net) (top : List (Option Int)) (kv : List (List NK × Int)) : Prop where
  nd : (kv.map (·.1)).Nodup
  ok : ∀ p ∈ kv, p.1.Sublist top ∧ p.2 = ((dp N p.1 : Nat) : Int)
theorem Memo.nil : Memo N top [] := ⟨by simp, nofun⟩
theorem Memo.len {kv : List (List NK × Int)} (h : Memo N top kv) : kv.length ≤ 2 ^ top.length := by
  have := nodup_len_le (kv.map (·.1)) (subs top) h.nd fun k m => by
    obtain ⟨p, mp, rfl⟩ := List.mem_map.mp m
    exact mem_subs (h.ok p mp).1
  rwa [List.length_map, subs_len] at this
theorem Memo.get {kv : List (List NK × Int)} {v : Int} (h : Memo N top kv) (g : getN kv os = some v) : v = ((dp N os : Nat) : Int) := (h.ok _ (getN_mem g)).2
theorem Memo.put {kv : List (List NK × Int)} (h : Memo N top kv) (sub : os.Sublist top) : Memo N top (putN kv os ((dp N os : Nat) : Int)) := by
  cases g : getN kv os with
  | some v =>
    have e : putN kv os ((dp N os : Nat) : Int) = kv := by
      unfold putN
      rw [g, if_pos (show (some v).isSome = true from rfl)]
      conv => rhs; rw [← List.map_id kv]
      refine List.map_congr_left fun p m => ?_
      split
      · rename_i q
        rw [← q, ← (h.ok p m).2]; rfl
      · rfl
    rw [e]; exact h
  | none =>
    unfold putN
    rw [g]
    refine ⟨?_, fun p m => ?_⟩
    · show ((kv ++ [(os, ((dp N os : Nat) : Int))]).map (·.1)).Nodup
      rw [List.map_append, List.nodup_append]
      refine ⟨h.nd, by simp, fun a ma b mb e => ?_⟩
      have := List.mem_singleton.mp mb
      subst e
      subst this
      exact getN_none g ma
    · have m : p ∈ kv ++ [(os, ((dp N os : Nat) : Int))] := m
      rcases List.mem_append.mp m with m | m
      · exact h.ok p m
      · have := List.mem_singleton.mp m
        subst this
        exact ⟨sub, rfl⟩
end
end PG
namespace PG
open PySem L2 DL GT RX
section
variable {N : Net} {top : List (Option Int)}
theorem cases_len (N : Net) : (casesL N).length ≤ N.ties.length + 1 := by
  have := casesT_len N
  unfold casesL
  rw [List.length_cons, List.length_map]
  omega
/-! a plan -/
def plF (N : Net) : Nat → List (Option Int) → Pl
  | 0, os => .is (os.head?.getD none)
  | f + 1, os => if os.length < 2 then .is (os.head?.getD none) else
    match (routes N).find? fun r => midO N os r && decide (1 + max (dp N (whO N r os)) (dp N (brO N r os)) = dp N os) with
    | some r => .ask r (plF N f (whO N r os)) (plF N f (brO N r os))
    | none => .is (os.head?.getD none)
def pl (N : Net) (os : List (Option Int)) : Pl := plF N os.length os
/-! how deep a plan is -/
end
end PG
local macro_rules | `(tactic| simp_arith [$xs,*]) => `(tactic| simp (maxSteps := 2000000) (disch := omega) only [DL.ob_some, DL.om_some, DL.dat_d, DL.lis_l, DL.dic_m, DL.gt_0, DL.gt_1, DL.gt_2, DL.gt_3, DL.gt_4, DL.gt_5, DL.gt_6, DL.gt_7, DL.gt_b, DL.st_0, DL.st_s, DL.plG_d, DL.plG_n, DL.plainAt_a, DL.varM_a, DL.ownM_a, DL.cM_a, DL.ofL_a, DL.opM_a, DL.opOwnM_a, DL.unM_a, DL.truM_a, DL.tstM_a, DL.notM_a, DL.cnd_t, DL.cnd_f, DL.andM_a, DL.orM_a, DL.andVM_a, DL.orVM_a, DL.notVM_a, DL.iteM_a, DL.chM_a, DL.nilM_a, DL.consM_a, DL.guard_tt, DL.tupM_a, DL.lstM_a, DL.noM_a, DL.intV_i, DL.someM_a, DL.slM_a, DL.rng1M_a, DL.rng2M_a, DL.zipV_t, DL.zipV_l, DL.zipM_a, DL.seqM_a, DL.callM_a, DL.hereM_a, DL.callRM_a, DL.appM_a, DL.lisV_l, DL.extM_a, DL.popM_a, DL.popAtM_a, DL.newDM_a, DL.putM_a, DL.lenDM_a, DL.sortDM_a, DL.nameG_a, DL.nilG_a, DL.consG_a, DL.tupG_a, DL.seqS_a, DL.seqK_nx, DL.seqK_rt, DL.seqK_ct, DL.skipM_a, DL.asgM_a, DL.asgG_a, DL.newM_a, DL.asgLM_a, DL.retM_a, DL.exprM_a, DL.ifM_a, DL.forM_a, DL.frzM_a, DL.runF_a, DL.finF_rt, DL.finF_nx, DL.runR_a, DL.finR_rt, DL.finR_nx, DL.sz_0, DL.sz_1, DL.sz_2, DL.sz_3, DL.sz_4, DL.sz_5, DL.sz_6, DL.sz_7, DL.sz_8, DL.sz_9, DL.sz_10, DL.sz_11, DL.sz_12, DL.sz_13, DL.sz_14, DL.sz_15, DL.sz_16, DL.sz_17, DL.sz_18, DL.sz_19, DL.sz_20, DL.sz_21, DL.sz_22, DL.sz_23, DL.sz_24, DL.sz_25, DL.sz_26, DL.sz_27, DL.sz_28, DL.sz_29, DL.sz_30, DL.nc_0, DL.nc_1, DL.nc_2, DL.nc_3, DL.nc_4, DL.nc_5, DL.nc_6, DL.nc_7, DL.nc_8, DL.nc_9, DL.nc_10, DL.nc_11, DL.nc_12, DL.nc_13, DL.nc_14, DL.nc_15, DL.nc_16, DL.nc_17, DL.nc_18, DL.nc_19, DL.nc_20, DL.nc_21, DL.nc_22, DL.nc_23, DL.nc_24, DL.nc_25, DL.nc_26, DL.nc_27, DL.nc_28, DL.nc_29, DL.nc_30, DL.addD_i, DL.addD_t, DL.addD_l, DL.subD_i, DL.modD_i, DL.fdivD_i, DL.mulD_i, DL.lenD_t, DL.lenD_l, DL.tupleD_t, DL.tupleD_l, DL.truD_i, DL.truD_b, DL.truD_n, DL.truD_l, DL.truD_t, DL.ixD_t, DL.ixD_l, DL.negD_i, DL.bD_a, DL.ltB_i, DL.leB_i, DL.eqB_i, DL.neB_i, DL.min2D_i, DL.max2D_i, DL.items_t, DL.items_l, DL.intD_b, DL.isNN, DL.slD_t, DL.slD_l, DL.sortD2_l, DL.sortD2_t, DL.p_ge0, DL.p_geS, DL.p_tk0, DL.p_tkS, DL.p_tkN, DL.p_dr0, DL.p_drS, DL.p_drN, DL.p_mpC, DL.p_mpN, DL.p_apC, DL.p_apN, DL.p_lnC, DL.p_lnN, DL.p_rpS, DL.p_rp0, DL.p_alC, DL.p_alN, DL.p_gdS, DL.p_gdN, DL.p_tlS, DL.p_tlN, DL.p_ieC, DL.p_ieN, DL.p_nt, DL.p_nf, DL.p_atb, DL.p_afb, DL.p_abt, DL.p_abf, DL.p_eqS, DL.p_dT, DL.p_dF, DL.p_TA, DL.p_AT, DL.p_TO, DL.p_OT, DL.p_startD, DL.p_startR, DL.forK_nx, DL.forK_ct, DL.forK_rt, DL.yesM_a, DL.it1_a, DL.compM_a, DL.wipeR_c, DL.wipeR_n, DL.restR_c, DL.restR_n, DL.gtD_i, DL.gtD_T, DL.ob_assoc, DL.om_bind, DL.ob_map, DL.om_map, DL.cnd_bind, DL.cnd_map, DL.guard_bind, DL.guard_map, DL.atI_c0, DL.atI_c1, DL.atI_c2, DL.atI_c3, DL.encN_0, DL.encN_1, DL.encN_2, DL.encN_u, DL.eq_TI, DL.ne_TI, DL.in_I, DL.in_Il, DL.in_T, DL.in_R, DL.notInB_a, DL.enumM_a, DL.exM_a, DL.seqK_ex, DL.finF_ex, DL.forK_ex, DL.tri_no, DL.trm_no, DL.atI_neg1, DL.wipO_nx, DL.wipO_ct, DL.wipO_bk, DL.wipO_rt, DL.wipO_ex, DL.wipM_a, DL.preM_a, DL.two_a, DL.parLM_a, DL.finR_ex, DL.len_map, DL.len_app, DL.len_ir, DL.len_rev, DL.sz_c, DL.rng_c, DL.rngL_n, DL.forM_a', DL.rev_map, DL.seqK_bk, DL.forK_bk, DL.enum_m, DL.emp_map, PG.Sq_failing_1_a, PG.Sq_failing_2_a, PG.Sq_twins_1_a, PG.Sq_twins_2_a, PG.Sq_suspects_1_a, PG.Sq_suspects_2_a, PG.Sq_the_one_1_a, PG.Sq_cases_1_a, PG.Sq_split_1_a, PG.Sq_shortest_1_a, PG.Sq_shortest_2_a, PG.Sq_written_1_a, PG.Sq_tie_in_1_a, PG.Sq_read_1_a, PG.Sq_read_2_a, PG.Sq_read_3_a, PG.Sq_read_4_a, DL.eq_LI, DL.ne_LI, DL.eq_LI0, DL.ne_LI0, DL.eq_LT, DL.ne_LT, DL.eq_LR, DL.ne_LR, DL.eq_TR, DL.ne_TR, DL.eq_B, DL.ne_B, DL.wp_mapE, DL.map_id_int, DL.cut_f, DL.cut_t, DL.cut_f1, DL.map_drop', DL.map_take', DL.map_app', DL.len_zip, DL.inDM_a, DL.dkOf_i, DL.sortIM_a, DL.newDispM_a, DL.keyOf_i, DL.whileK_nx, PG.anyD_map, PG.allD_map', PG.enum_ir, DL.wipX_a, DL.ifX_a, DL.grpX_a, DL.appX_a, DL.forX_a, DL.ifC_a, DL.exprC_a, DL.llM_a, DL.llK_0, PG.eq_BB, PG.ne_BB, PG.allT_t, DL.runX_a, DL.finX_rt, DL.finX_ex, DL.finX_nx, DL.isN_i, DL.isNotN_i, DL.isNotN_n, DL.rngL_g1, PG.eq_OO, PG.ne_OO, PG.in_O, FA.isNot_bb, Nat.reduceAdd, Nat.reduceSub, Nat.reduceMul, Int.reduceLT, Int.reduceLE, Int.reducePow, Int.reduceNeg, Int.reduceAdd, Int.reduceSub, Int.reduceMul, Int.reduceBEq, Int.reduceBNe, Int.reduceToNat, $xs,*])
namespace PG
open PySem L2 DL GT RX
/-! two nets side by side -/
end PG
namespace PG
open PySem L2 DL GT RX
end PG
namespace PG
open PySem L2 DL GT RX
/-! two nets side by side: reaching, cuts, ties that part -/
end PG
local macro_rules | `(tactic| simp_arith [$xs,*]) => `(tactic| simp (maxSteps := 2000000) (disch := omega) only [DL.ob_some, DL.om_some, DL.dat_d, DL.lis_l, DL.dic_m, DL.gt_0, DL.gt_1, DL.gt_2, DL.gt_3, DL.gt_4, DL.gt_5, DL.gt_6, DL.gt_7, DL.gt_b, DL.st_0, DL.st_s, DL.plG_d, DL.plG_n, DL.plainAt_a, DL.varM_a, DL.ownM_a, DL.cM_a, DL.ofL_a, DL.opM_a, DL.opOwnM_a, DL.unM_a, DL.truM_a, DL.tstM_a, DL.notM_a, DL.cnd_t, DL.cnd_f, DL.andM_a, DL.orM_a, DL.andVM_a, DL.orVM_a, DL.notVM_a, DL.iteM_a, DL.chM_a, DL.nilM_a, DL.consM_a, DL.guard_tt, DL.tupM_a, DL.lstM_a, DL.noM_a, DL.intV_i, DL.someM_a, DL.slM_a, DL.rng1M_a, DL.rng2M_a, DL.zipV_t, DL.zipV_l, DL.zipM_a, DL.seqM_a, DL.callM_a, DL.hereM_a, DL.callRM_a, DL.appM_a, DL.lisV_l, DL.extM_a, DL.popM_a, DL.popAtM_a, DL.newDM_a, DL.putM_a, DL.lenDM_a, DL.sortDM_a, DL.nameG_a, DL.nilG_a, DL.consG_a, DL.tupG_a, DL.seqS_a, DL.seqK_nx, DL.seqK_rt, DL.seqK_ct, DL.skipM_a, DL.asgM_a, DL.asgG_a, DL.newM_a, DL.asgLM_a, DL.retM_a, DL.exprM_a, DL.ifM_a, DL.forM_a, DL.frzM_a, DL.runF_a, DL.finF_rt, DL.finF_nx, DL.runR_a, DL.finR_rt, DL.finR_nx, DL.sz_0, DL.sz_1, DL.sz_2, DL.sz_3, DL.sz_4, DL.sz_5, DL.sz_6, DL.sz_7, DL.sz_8, DL.sz_9, DL.sz_10, DL.sz_11, DL.sz_12, DL.sz_13, DL.sz_14, DL.sz_15, DL.sz_16, DL.sz_17, DL.sz_18, DL.sz_19, DL.sz_20, DL.sz_21, DL.sz_22, DL.sz_23, DL.sz_24, DL.sz_25, DL.sz_26, DL.sz_27, DL.sz_28, DL.sz_29, DL.sz_30, DL.nc_0, DL.nc_1, DL.nc_2, DL.nc_3, DL.nc_4, DL.nc_5, DL.nc_6, DL.nc_7, DL.nc_8, DL.nc_9, DL.nc_10, DL.nc_11, DL.nc_12, DL.nc_13, DL.nc_14, DL.nc_15, DL.nc_16, DL.nc_17, DL.nc_18, DL.nc_19, DL.nc_20, DL.nc_21, DL.nc_22, DL.nc_23, DL.nc_24, DL.nc_25, DL.nc_26, DL.nc_27, DL.nc_28, DL.nc_29, DL.nc_30, DL.addD_i, DL.addD_t, DL.addD_l, DL.subD_i, DL.modD_i, DL.fdivD_i, DL.mulD_i, DL.lenD_t, DL.lenD_l, DL.tupleD_t, DL.tupleD_l, DL.truD_i, DL.truD_b, DL.truD_n, DL.truD_l, DL.truD_t, DL.ixD_t, DL.ixD_l, DL.negD_i, DL.bD_a, DL.ltB_i, DL.leB_i, DL.eqB_i, DL.neB_i, DL.min2D_i, DL.max2D_i, DL.items_t, DL.items_l, DL.intD_b, DL.isNN, DL.slD_t, DL.slD_l, DL.sortD2_l, DL.sortD2_t, DL.p_ge0, DL.p_geS, DL.p_tk0, DL.p_tkS, DL.p_tkN, DL.p_dr0, DL.p_drS, DL.p_drN, DL.p_mpC, DL.p_mpN, DL.p_apC, DL.p_apN, DL.p_lnC, DL.p_lnN, DL.p_rpS, DL.p_rp0, DL.p_alC, DL.p_alN, DL.p_gdS, DL.p_gdN, DL.p_tlS, DL.p_tlN, DL.p_ieC, DL.p_ieN, DL.p_nt, DL.p_nf, DL.p_atb, DL.p_afb, DL.p_abt, DL.p_abf, DL.p_eqS, DL.p_dT, DL.p_dF, DL.p_TA, DL.p_AT, DL.p_TO, DL.p_OT, DL.p_startD, DL.p_startR, DL.forK_nx, DL.forK_ct, DL.forK_rt, DL.yesM_a, DL.it1_a, DL.compM_a, DL.wipeR_c, DL.wipeR_n, DL.restR_c, DL.restR_n, DL.gtD_i, DL.gtD_T, DL.ob_assoc, DL.om_bind, DL.ob_map, DL.om_map, DL.cnd_bind, DL.cnd_map, DL.guard_bind, DL.guard_map, DL.atI_c0, DL.atI_c1, DL.atI_c2, DL.atI_c3, DL.encN_0, DL.encN_1, DL.encN_2, DL.encN_u, DL.eq_TI, DL.ne_TI, DL.in_I, DL.in_Il, DL.in_T, DL.in_R, DL.notInB_a, DL.enumM_a, DL.exM_a, DL.seqK_ex, DL.finF_ex, DL.forK_ex, DL.tri_no, DL.trm_no, DL.atI_neg1, DL.wipO_nx, DL.wipO_ct, DL.wipO_bk, DL.wipO_rt, DL.wipO_ex, DL.wipM_a, DL.preM_a, DL.two_a, DL.parLM_a, DL.finR_ex, DL.len_map, DL.len_app, DL.len_ir, DL.len_rev, DL.sz_c, DL.rng_c, DL.rngL_n, DL.forM_a', DL.rev_map, DL.seqK_bk, DL.forK_bk, DL.enum_m, DL.emp_map, PG.Sq_failing_1_a, PG.Sq_failing_2_a, PG.Sq_twins_1_a, PG.Sq_twins_2_a, PG.Sq_suspects_1_a, PG.Sq_suspects_2_a, PG.Sq_the_one_1_a, PG.Sq_cases_1_a, PG.Sq_split_1_a, PG.Sq_shortest_1_a, PG.Sq_shortest_2_a, PG.Sq_written_1_a, PG.Sq_tie_in_1_a, PG.Sq_read_1_a, PG.Sq_read_2_a, PG.Sq_read_3_a, PG.Sq_read_4_a, DL.eq_LI, DL.ne_LI, DL.eq_LI0, DL.ne_LI0, DL.eq_LT, DL.ne_LT, DL.eq_LR, DL.ne_LR, DL.eq_TR, DL.ne_TR, DL.eq_B, DL.ne_B, DL.wp_mapE, DL.map_id_int, DL.cut_f, DL.cut_t, DL.cut_f1, DL.map_drop', DL.map_take', DL.map_app', DL.len_zip, DL.inDM_a, DL.dkOf_i, DL.sortIM_a, DL.newDispM_a, DL.keyOf_i, DL.whileK_nx, PG.anyD_map, PG.allD_map', PG.enum_ir, DL.wipX_a, DL.ifX_a, DL.grpX_a, DL.appX_a, DL.forX_a, DL.ifC_a, DL.exprC_a, DL.llM_a, DL.llK_0, PG.eq_BB, PG.ne_BB, PG.allT_t, DL.runX_a, DL.finX_rt, DL.finX_ex, DL.finX_nx, DL.isN_i, DL.isNotN_i, DL.isNotN_n, DL.rngL_g1, PG.eq_OO, PG.ne_OO, PG.in_O, FA.isNot_bb, DL.eq_NN, DL.ne_NN, DL.eq_TT, DL.ne_TT, DL.eq_TT0, DL.ne_TI0, DL.eq_TI0, Nat.reduceAdd, Nat.reduceSub, Nat.reduceMul, Int.reduceLT, Int.reduceLE, Int.reducePow, Int.reduceNeg, Int.reduceAdd, Int.reduceSub, Int.reduceMul, Int.reduceBEq, Int.reduceBNe, Int.reduceToNat, $xs,*])
namespace PG
open PySem L2 DL GT RX
/-! two nets side by side: rows, cases, groups, the fewest probes -/
end PG
local macro_rules | `(tactic| simp_arith [$xs,*]) => `(tactic| simp (maxSteps := 2000000) (disch := omega) only [DL.ob_some, DL.om_some, DL.dat_d, DL.lis_l, DL.dic_m, DL.gt_0, DL.gt_1, DL.gt_2, DL.gt_3, DL.gt_4, DL.gt_5, DL.gt_6, DL.gt_7, DL.gt_b, DL.st_0, DL.st_s, DL.plG_d, DL.plG_n, DL.plainAt_a, DL.varM_a, DL.ownM_a, DL.cM_a, DL.ofL_a, DL.opM_a, DL.opOwnM_a, DL.unM_a, DL.truM_a, DL.tstM_a, DL.notM_a, DL.cnd_t, DL.cnd_f, DL.andM_a, DL.orM_a, DL.andVM_a, DL.orVM_a, DL.notVM_a, DL.iteM_a, DL.chM_a, DL.nilM_a, DL.consM_a, DL.guard_tt, DL.tupM_a, DL.lstM_a, DL.noM_a, DL.intV_i, DL.someM_a, DL.slM_a, DL.rng1M_a, DL.rng2M_a, DL.zipV_t, DL.zipV_l, DL.zipM_a, DL.seqM_a, DL.callM_a, DL.hereM_a, DL.callRM_a, DL.appM_a, DL.lisV_l, DL.extM_a, DL.popM_a, DL.popAtM_a, DL.newDM_a, DL.putM_a, DL.lenDM_a, DL.sortDM_a, DL.nameG_a, DL.nilG_a, DL.consG_a, DL.tupG_a, DL.seqS_a, DL.seqK_nx, DL.seqK_rt, DL.seqK_ct, DL.skipM_a, DL.asgM_a, DL.asgG_a, DL.newM_a, DL.asgLM_a, DL.retM_a, DL.exprM_a, DL.ifM_a, DL.forM_a, DL.frzM_a, DL.runF_a, DL.finF_rt, DL.finF_nx, DL.runR_a, DL.finR_rt, DL.finR_nx, DL.sz_0, DL.sz_1, DL.sz_2, DL.sz_3, DL.sz_4, DL.sz_5, DL.sz_6, DL.sz_7, DL.sz_8, DL.sz_9, DL.sz_10, DL.sz_11, DL.sz_12, DL.sz_13, DL.sz_14, DL.sz_15, DL.sz_16, DL.sz_17, DL.sz_18, DL.sz_19, DL.sz_20, DL.sz_21, DL.sz_22, DL.sz_23, DL.sz_24, DL.sz_25, DL.sz_26, DL.sz_27, DL.sz_28, DL.sz_29, DL.sz_30, DL.nc_0, DL.nc_1, DL.nc_2, DL.nc_3, DL.nc_4, DL.nc_5, DL.nc_6, DL.nc_7, DL.nc_8, DL.nc_9, DL.nc_10, DL.nc_11, DL.nc_12, DL.nc_13, DL.nc_14, DL.nc_15, DL.nc_16, DL.nc_17, DL.nc_18, DL.nc_19, DL.nc_20, DL.nc_21, DL.nc_22, DL.nc_23, DL.nc_24, DL.nc_25, DL.nc_26, DL.nc_27, DL.nc_28, DL.nc_29, DL.nc_30, DL.addD_i, DL.addD_t, DL.addD_l, DL.subD_i, DL.modD_i, DL.fdivD_i, DL.mulD_i, DL.lenD_t, DL.lenD_l, DL.tupleD_t, DL.tupleD_l, DL.truD_i, DL.truD_b, DL.truD_n, DL.truD_l, DL.truD_t, DL.ixD_t, DL.ixD_l, DL.negD_i, DL.bD_a, DL.ltB_i, DL.leB_i, DL.eqB_i, DL.neB_i, DL.min2D_i, DL.max2D_i, DL.items_t, DL.items_l, DL.intD_b, DL.isNN, DL.slD_t, DL.slD_l, DL.sortD2_l, DL.sortD2_t, DL.p_ge0, DL.p_geS, DL.p_tk0, DL.p_tkS, DL.p_tkN, DL.p_dr0, DL.p_drS, DL.p_drN, DL.p_mpC, DL.p_mpN, DL.p_apC, DL.p_apN, DL.p_lnC, DL.p_lnN, DL.p_rpS, DL.p_rp0, DL.p_alC, DL.p_alN, DL.p_gdS, DL.p_gdN, DL.p_tlS, DL.p_tlN, DL.p_ieC, DL.p_ieN, DL.p_nt, DL.p_nf, DL.p_atb, DL.p_afb, DL.p_abt, DL.p_abf, DL.p_eqS, DL.p_dT, DL.p_dF, DL.p_TA, DL.p_AT, DL.p_TO, DL.p_OT, DL.p_startD, DL.p_startR, DL.forK_nx, DL.forK_ct, DL.forK_rt, DL.yesM_a, DL.it1_a, DL.compM_a, DL.wipeR_c, DL.wipeR_n, DL.restR_c, DL.restR_n, DL.gtD_i, DL.gtD_T, DL.ob_assoc, DL.om_bind, DL.ob_map, DL.om_map, DL.cnd_bind, DL.cnd_map, DL.guard_bind, DL.guard_map, DL.atI_c0, DL.atI_c1, DL.atI_c2, DL.atI_c3, DL.encN_0, DL.encN_1, DL.encN_2, DL.encN_u, DL.eq_TI, DL.ne_TI, DL.in_I, DL.in_Il, DL.in_T, DL.in_R, DL.notInB_a, DL.enumM_a, DL.exM_a, DL.seqK_ex, DL.finF_ex, DL.forK_ex, DL.tri_no, DL.trm_no, DL.atI_neg1, DL.wipO_nx, DL.wipO_ct, DL.wipO_bk, DL.wipO_rt, DL.wipO_ex, DL.wipM_a, DL.preM_a, DL.two_a, DL.parLM_a, DL.finR_ex, DL.len_map, DL.len_app, DL.len_ir, DL.len_rev, DL.sz_c, DL.rng_c, DL.rngL_n, DL.forM_a', DL.rev_map, DL.seqK_bk, DL.forK_bk, DL.enum_m, DL.emp_map, PG.Sq_failing_1_a, PG.Sq_failing_2_a, PG.Sq_twins_1_a, PG.Sq_twins_2_a, PG.Sq_suspects_1_a, PG.Sq_suspects_2_a, PG.Sq_the_one_1_a, PG.Sq_cases_1_a, PG.Sq_split_1_a, PG.Sq_shortest_1_a, PG.Sq_shortest_2_a, PG.Sq_written_1_a, PG.Sq_tie_in_1_a, PG.Sq_read_1_a, PG.Sq_read_2_a, PG.Sq_read_3_a, PG.Sq_read_4_a, DL.eq_LI, DL.ne_LI, DL.eq_LI0, DL.ne_LI0, DL.eq_LT, DL.ne_LT, DL.eq_LR, DL.ne_LR, DL.eq_TR, DL.ne_TR, DL.eq_B, DL.ne_B, DL.wp_mapE, DL.map_id_int, DL.cut_f, DL.cut_t, DL.cut_f1, DL.map_drop', DL.map_take', DL.map_app', DL.len_zip, DL.inDM_a, DL.dkOf_i, DL.sortIM_a, DL.newDispM_a, DL.keyOf_i, DL.whileK_nx, PG.anyD_map, PG.allD_map', PG.enum_ir, DL.wipX_a, DL.ifX_a, DL.grpX_a, DL.appX_a, DL.forX_a, DL.ifC_a, DL.exprC_a, DL.llM_a, DL.llK_0, PG.eq_BB, PG.ne_BB, PG.allT_t, DL.runX_a, DL.finX_rt, DL.finX_ex, DL.finX_nx, DL.isN_i, DL.isNotN_i, DL.isNotN_n, DL.rngL_g1, PG.eq_OO, PG.ne_OO, PG.in_O, DL.ow_k, DL.as_k, DL.flag_k, DL.callOM_a, DL.hereOM_a, DL.runO_a, DL.finO_rt, DL.finO_nx, DL.p_startO, FA.isNot_bb, DL.eq_NN, DL.ne_NN, DL.eq_TT, DL.ne_TT, DL.eq_TT0, DL.ne_TI0, DL.eq_TI0, Nat.reduceAdd, Nat.reduceSub, Nat.reduceMul, Int.reduceLT, Int.reduceLE, Int.reducePow, Int.reduceNeg, Int.reduceAdd, Int.reduceSub, Int.reduceMul, Int.reduceBEq, Int.reduceBNe, Int.reduceToNat, $xs,*])
namespace PG
open PySem L2 DL GT RX
section
variable {N : Net} {os : List (Option Int)}
theorem in_none {row : List Int} : inRow row none = false := by simp [inRow]
theorem mem_cases {o : Option Int} : o ∈ casesL N ↔ o = none ∨ ∃ t ∈ casesT N, o = some t := by
  unfold casesL
  rw [List.mem_cons, List.mem_map]
  refine or_congr Iff.rfl ⟨?_, ?_⟩
  · rintro ⟨t, m, e⟩; exact ⟨t, m, e.symm⟩
  · rintro ⟨t, m, e⟩; exact ⟨t, m, e.symm⟩
/-! the plan told is one -/
end
end PG
namespace PG
open PySem L2 DL GT RX
/-! a plan followed -/
end PG
local macro_rules | `(tactic| simp_arith [$xs,*]) => `(tactic| simp (maxSteps := 2000000) (disch := omega) only [DL.ob_some, DL.om_some, DL.dat_d, DL.lis_l, DL.dic_m, DL.gt_0, DL.gt_1, DL.gt_2, DL.gt_3, DL.gt_4, DL.gt_5, DL.gt_6, DL.gt_7, DL.gt_b, DL.st_0, DL.st_s, DL.plG_d, DL.plG_n, DL.plainAt_a, DL.varM_a, DL.ownM_a, DL.cM_a, DL.ofL_a, DL.opM_a, DL.opOwnM_a, DL.unM_a, DL.truM_a, DL.tstM_a, DL.notM_a, DL.cnd_t, DL.cnd_f, DL.andM_a, DL.orM_a, DL.andVM_a, DL.orVM_a, DL.notVM_a, DL.iteM_a, DL.chM_a, DL.nilM_a, DL.consM_a, DL.guard_tt, DL.tupM_a, DL.lstM_a, DL.noM_a, DL.intV_i, DL.someM_a, DL.slM_a, DL.rng1M_a, DL.rng2M_a, DL.zipV_t, DL.zipV_l, DL.zipM_a, DL.seqM_a, DL.callM_a, DL.hereM_a, DL.callRM_a, DL.appM_a, DL.lisV_l, DL.extM_a, DL.popM_a, DL.popAtM_a, DL.newDM_a, DL.putM_a, DL.lenDM_a, DL.sortDM_a, DL.nameG_a, DL.nilG_a, DL.consG_a, DL.tupG_a, DL.seqS_a, DL.seqK_nx, DL.seqK_rt, DL.seqK_ct, DL.skipM_a, DL.asgM_a, DL.asgG_a, DL.newM_a, DL.asgLM_a, DL.retM_a, DL.exprM_a, DL.ifM_a, DL.forM_a, DL.frzM_a, DL.runF_a, DL.finF_rt, DL.finF_nx, DL.runR_a, DL.finR_rt, DL.finR_nx, DL.sz_0, DL.sz_1, DL.sz_2, DL.sz_3, DL.sz_4, DL.sz_5, DL.sz_6, DL.sz_7, DL.sz_8, DL.sz_9, DL.sz_10, DL.sz_11, DL.sz_12, DL.sz_13, DL.sz_14, DL.sz_15, DL.sz_16, DL.sz_17, DL.sz_18, DL.sz_19, DL.sz_20, DL.sz_21, DL.sz_22, DL.sz_23, DL.sz_24, DL.sz_25, DL.sz_26, DL.sz_27, DL.sz_28, DL.sz_29, DL.sz_30, DL.nc_0, DL.nc_1, DL.nc_2, DL.nc_3, DL.nc_4, DL.nc_5, DL.nc_6, DL.nc_7, DL.nc_8, DL.nc_9, DL.nc_10, DL.nc_11, DL.nc_12, DL.nc_13, DL.nc_14, DL.nc_15, DL.nc_16, DL.nc_17, DL.nc_18, DL.nc_19, DL.nc_20, DL.nc_21, DL.nc_22, DL.nc_23, DL.nc_24, DL.nc_25, DL.nc_26, DL.nc_27, DL.nc_28, DL.nc_29, DL.nc_30, DL.addD_i, DL.addD_t, DL.addD_l, DL.subD_i, DL.modD_i, DL.fdivD_i, DL.mulD_i, DL.lenD_t, DL.lenD_l, DL.tupleD_t, DL.tupleD_l, DL.truD_i, DL.truD_b, DL.truD_n, DL.truD_l, DL.truD_t, DL.ixD_t, DL.ixD_l, DL.negD_i, DL.bD_a, DL.ltB_i, DL.leB_i, DL.eqB_i, DL.neB_i, DL.min2D_i, DL.max2D_i, DL.items_t, DL.items_l, DL.intD_b, DL.isNN, DL.slD_t, DL.slD_l, DL.sortD2_l, DL.sortD2_t, DL.p_ge0, DL.p_geS, DL.p_tk0, DL.p_tkS, DL.p_tkN, DL.p_dr0, DL.p_drS, DL.p_drN, DL.p_mpC, DL.p_mpN, DL.p_apC, DL.p_apN, DL.p_lnC, DL.p_lnN, DL.p_rpS, DL.p_rp0, DL.p_alC, DL.p_alN, DL.p_gdS, DL.p_gdN, DL.p_tlS, DL.p_tlN, DL.p_ieC, DL.p_ieN, DL.p_nt, DL.p_nf, DL.p_atb, DL.p_afb, DL.p_abt, DL.p_abf, DL.p_eqS, DL.p_dT, DL.p_dF, DL.p_TA, DL.p_AT, DL.p_TO, DL.p_OT, DL.p_startD, DL.p_startR, DL.forK_nx, DL.forK_ct, DL.forK_rt, DL.yesM_a, DL.it1_a, DL.compM_a, DL.wipeR_c, DL.wipeR_n, DL.restR_c, DL.restR_n, DL.gtD_i, DL.gtD_T, DL.ob_assoc, DL.om_bind, DL.ob_map, DL.om_map, DL.cnd_bind, DL.cnd_map, DL.guard_bind, DL.guard_map, DL.atI_c0, DL.atI_c1, DL.atI_c2, DL.atI_c3, DL.encN_0, DL.encN_1, DL.encN_2, DL.encN_u, DL.eq_TI, DL.ne_TI, DL.in_I, DL.in_Il, DL.in_T, DL.in_R, DL.notInB_a, DL.enumM_a, DL.exM_a, DL.seqK_ex, DL.finF_ex, DL.forK_ex, DL.tri_no, DL.trm_no, DL.atI_neg1, DL.wipO_nx, DL.wipO_ct, DL.wipO_bk, DL.wipO_rt, DL.wipO_ex, DL.wipM_a, DL.preM_a, DL.two_a, DL.parLM_a, DL.finR_ex, DL.len_map, DL.len_app, DL.len_ir, DL.len_rev, DL.sz_c, DL.rng_c, DL.rngL_n, DL.forM_a', DL.rev_map, DL.seqK_bk, DL.forK_bk, DL.enum_m, DL.emp_map, PG.Sq_failing_1_a, PG.Sq_failing_2_a, PG.Sq_twins_1_a, PG.Sq_twins_2_a, PG.Sq_suspects_1_a, PG.Sq_suspects_2_a, PG.Sq_the_one_1_a, PG.Sq_cases_1_a, PG.Sq_split_1_a, PG.Sq_shortest_1_a, PG.Sq_shortest_2_a, PG.Sq_written_1_a, PG.Sq_tie_in_1_a, PG.Sq_read_1_a, PG.Sq_read_2_a, PG.Sq_read_3_a, PG.Sq_read_4_a, DL.eq_LI, DL.ne_LI, DL.eq_LI0, DL.ne_LI0, DL.eq_LT, DL.ne_LT, DL.eq_LR, DL.ne_LR, DL.eq_TR, DL.ne_TR, DL.eq_B, DL.ne_B, DL.wp_mapE, DL.map_id_int, DL.cut_f, DL.cut_t, DL.cut_f1, DL.map_drop', DL.map_take', DL.map_app', DL.len_zip, DL.inDM_a, DL.dkOf_i, DL.sortIM_a, DL.newDispM_a, DL.keyOf_i, DL.whileK_nx, PG.anyD_map, PG.allD_map', PG.enum_ir, DL.wipX_a, DL.ifX_a, DL.grpX_a, DL.appX_a, DL.forX_a, DL.ifC_a, DL.exprC_a, DL.llM_a, DL.llK_0, PG.eq_BB, PG.ne_BB, PG.allT_t, DL.runX_a, DL.finX_rt, DL.finX_ex, DL.finX_nx, DL.isN_i, DL.isNotN_i, DL.isNotN_n, DL.rngL_g1, DL.ow_k, DL.as_k, DL.flag_k, DL.callOM_a, DL.hereOM_a, DL.runO_a, DL.finO_rt, DL.finO_nx, DL.p_startO, DL.skr_s, DL.ow_s, DL.as_s, DL.flag_s, DL.netM_a, DL.toldM_a, DL.lastM_a, DL.setTM_a, DL.rowsAppM_a, DL.rowsPopM_a, DL.methM_a, DL.mkM_a, DL.newSM_a, DL.runOX_a, DL.finOX_rt, DL.finOX_nx, DL.finOX_ex, DL.finO_ex, PG.eq_OO, PG.ne_OO, PG.in_O, FA.isNot_bb, DL.eq_NN, DL.ne_NN, DL.eq_TT, DL.ne_TT, DL.eq_TT0, DL.ne_TI0, DL.eq_TI0, SK.Sq_Seeker__tell_1_a, SK.Sq_Seeker__tell_2_a, SK.Sq_Seeker__tell_3_a, SK.Sq_Seeker__tell_4_a, SK.Sq_Seeker__back_1_a, Nat.reduceAdd, Nat.reduceSub, Nat.reduceMul, Int.reduceLT, Int.reduceLE, Int.reducePow, Int.reduceNeg, Int.reduceAdd, Int.reduceSub, Int.reduceMul, Int.reduceBEq, Int.reduceBNe, Int.reduceToNat, $xs,*])
namespace SK
open PySem L2 DL GT PG RX
/-- what may still be, by what was told -/
def leftL (N : Net) (told : List (List Int × Bool)) : List (Option Int) := (casesL N).filter fun o => told.all fun p => decide ((!inRow (tiesOf N p.1) o) = p.2)
theorem leftL_nil (N : Net) : leftL N [] = casesL N := by unfold leftL; simp
theorem leftL_snoc (N : Net) (told : List (List Int × Bool)) (p : List Int × Bool) : leftL N (told ++ [p]) = (leftL N told).filter fun o => decide ((!inRow (tiesOf N p.1) o) = p.2) := by
  unfold leftL
  rw [List.filter_filter]
  refine List.filter_congr fun o _ => ?_
  simp [Bool.and_comm]
theorem leftL_len (N : Net) (told : List (List Int × Bool)) : (leftL N told).length ≤ (casesL N).length := List.length_filter_le _ _
/-- its rows -/
def rowsL (N : Net) (told : List (List Int × Bool)) : List (List (Option Int)) := (List.range (told.length + 1)).map fun k => leftL N (told.take k)
theorem rowsL_snoc (N : Net) (told : List (List Int × Bool)) (p : List Int × Bool) : rowsL N (told ++ [p]) = rowsL N told ++ [leftL N (told ++ [p])] := by
  unfold rowsL
  rw [List.length_append, List.length_singleton, List.range_succ, List.map_append]
  congr 1
  · refine List.map_congr_left fun k m => ?_
    rw [List.mem_range] at m
    rw [List.take_append_of_le_length (by omega)]
  · rw [List.map_singleton, List.take_of_length_le (by simp)]
theorem rowsL_len (N : Net) (told : List (List Int × Bool)) : (rowsL N told).length = told.length + 1 := by unfold rowsL; simp
theorem rowsL_last (N : Net) (told : List (List Int × Bool)) : (rowsL N told).getLast? = some (leftL N told) := by
  unfold rowsL
  rw [List.range_succ, List.map_append, List.map_singleton, List.getLast?_append]
  simp
def encT1 (p : List Int × Bool) : D := .tuple [TI p.1, .bool p.2]
theorem encF_T1 : EncF 3 encT1 := by
  refine ⟨fun p => ?_, fun p => ?_, fun a b => ?_⟩
  · have := layAll encF_int p.1
    unfold encT1
    simp only [PyData.canLay0, PyData.canLayAll0, this, Bool.and_true, Bool.true_and]
  · have := depAll encF_int p.1
    unfold encT1
    simp only [PyData.depth, PyData.depthAll]
    omega
  · have h1 := eqvAll_map encF_int a.1 b.1
    have h2 := encF_bool.eqv a.2 b.2
    obtain ⟨a1, a2⟩ := a
    obtain ⟨b1, b2⟩ := b
    simp only at h1 h2
    unfold encT1
    simp only [PyData.eqv, PyData.eqvAll] at h2 ⊢
    rw [h1, Bool.and_true, h2]
    by_cases e1 : a1 = b1 <;> by_cases e2 : a2 = b2 <;> simp [e1, e2]
def encR (row : List (Option Int)) : D := .tuple (row.map encO)
def encS (b : Bool) (N : Net) (told : List (List Int × Bool)) : SV := .s b (encN N) (.tuple (told.map encT1)) ((rowsL N told).map encR)
section
variable {N : Net} {told : List (List Int × Bool)} {b : Bool}
theorem last_row : ((rowsL N told).map encR).getLast? = some (encR (leftL N told)) := by
  rw [List.getLast?_map, rowsL_last]; rfl
theorem left_eval : g_Seeker__left [] (encS true N told) = some (encR (leftL N told), encS true N told) := by
  have e := last_row (N := N) (told := told)
  unfold g_Seeker__left b_Seeker__left N_Seeker__left encS
  simp_arith [e]
theorem history_eval : g_Seeker__history [] (encS true N told) = some (.tuple (told.map encT1), encS true N told) := by
  unfold g_Seeker__history b_Seeker__history N_Seeker__history encS
  simp_arith [DL.p_nt]
theorem cases_len (N : Net) : (casesL N).length ≤ N.ties.length + 1 := by
  unfold casesL
  rw [List.length_cons, List.length_map]
  have := casesT_len N
  omega
theorem row_nil (row : List (Option Int)) : eqB (encR row) (.tuple []) = some (decide (row = [])) := by
  have := eq_OO row []
  exact this
theorem tell_core (w : N.WF) (ht : N.ties.length ≤ 60) (few : told.length ≤ 1000) {r : List Int} (m : r ∈ routes N) (v : Bool) :
    gX_Seeker__tell [TI r, .bool v] (encS true N told) = some (if leftL N (told ++ [(r, v)]) = [] then (.error "NoSuspect", encS true N told) else (.ok .none, encS true N (told ++ [(r, v)]))) := by
  have e := last_row (N := N) (told := told)
  have ll := leftL_len N told
  have cl := cases_len N
  have rl := rowsL_len N told
  have sp := split_eval w m (leftL N told) (by omega)
  have ir := is_route_TI w r (by have := (route_lk w m).2; omega)
  rw [(isRouteB_iff w).mpr ((mem_routes w).mp m)] at ir
  have sp : g_split [encN N, TI r, encR (leftL N told)] = some (.tuple [encR ((leftL N told).filter fun o => !inRow (tiesOf N r) o), encR ((leftL N told).filter (inRow (tiesOf N r)))]) := sp
  have after : leftL N (told ++ [(r, v)]) = if v = true then ((leftL N told).filter fun o => !inRow (tiesOf N r) o) else (leftL N told).filter (inRow (tiesOf N r)) := by
    rw [leftL_snoc]
    cases v
    · rw [if_neg (by decide)]
      refine List.filter_congr fun o _ => ?_
      cases inRow (tiesOf N r) o <;> rfl
    · rw [if_pos rfl]
      refine List.filter_congr fun o _ => ?_
      cases inRow (tiesOf N r) o <;> rfl
  have rs := rowsL_snoc N told (r, v)
  have n1 := row_nil ((leftL N told).filter fun o => !inRow (tiesOf N r) o)
  have n2 := row_nil ((leftL N told).filter (inRow (tiesOf N r)))
  unfold gX_Seeker__tell b_Seeker__tell N_Seeker__tell encS
  cases v with
  | true =>
    rw [if_pos rfl] at after
    rw [after] at rs ⊢
    by_cases q : ((leftL N told).filter fun o => !inRow (tiesOf N r) o) = []
    · rw [if_pos q]
      simp_arith [ir, e, sp, n1, decide_eq_true q]
    · rw [if_neg q, rs]
      simp_arith [ir, e, sp, n1, decide_eq_false q]
      simp [encT1, encR, List.map_append]
  | false =>
    rw [if_neg (by decide)] at after
    rw [after] at rs ⊢
    by_cases q : ((leftL N told).filter (inRow (tiesOf N r))) = []
    · rw [if_pos q]
      simp_arith [ir, e, sp, n2, decide_eq_true q]
    · rw [if_neg q, rs]
      simp_arith [ir, e, sp, n2, decide_eq_false q]
      simp [encT1, encR, List.map_append]
theorem tell_no (w : N.WF) {r : List Int} (rl : r.length ≤ 900) (no : isRouteB N r = false) (v : Bool) : gX_Seeker__tell [TI r, .bool v] (encS true N told) = some (.error "NoRoute", encS true N told) := by
  have ir := is_route_TI w r rl
  rw [no] at ir
  unfold gX_Seeker__tell b_Seeker__tell N_Seeker__tell encS
  simp_arith [ir]
theorem told_eq (xs ys : List (List Int × Bool)) : eqB (.tuple (xs.map encT1)) (.tuple (ys.map encT1)) = some (decide (xs = ys)) := (eq_one (encF_tup encF_T1) (by decide) xs ys).trans (by congr)
theorem told_ne (xs ys : List (List Int × Bool)) : neB (.tuple (xs.map encT1)) (.tuple (ys.map encT1)) = some (!decide (xs = ys)) := (ne_one (encF_tup encF_T1) (by decide) xs ys).trans (by congr)
theorem told_nil (xs : List (List Int × Bool)) : eqB (.tuple (xs.map encT1)) (.tuple []) = some (decide (xs = [])) := told_eq xs []
theorem back_no : gX_Seeker__back [] (encS true N []) = some (.error "NoStep", encS true N []) := by
  have e : eqB (.tuple []) (.tuple []) = some true := told_nil []
  unfold gX_Seeker__back b_Seeker__back N_Seeker__back encS
  simp_arith [e]
theorem back_ok {p : List Int × Bool} (few : told.length ≤ 1000) : gX_Seeker__back [] (encS true N (told ++ [p])) = some (.ok .none, encS true N told) := by
  have e := told_nil (told ++ [p])
  have e2 : decide (told ++ [p] = []) = false := decide_eq_false (by simp)
  rw [e2] at e
  have e3 := last_row (N := N) (told := told ++ [p])
  rw [List.getLast?_eq_getElem?, List.length_map] at e3
  have dl : ((rowsL N (told ++ [p])).map encR).dropLast = (rowsL N told).map encR := by rw [rowsL_snoc, List.map_append]; simp
  have dt : cutD ((told ++ [p]).map encT1) none (some (-1)) = told.map encT1 := by rw [cut_init, List.map_append]; simp
  unfold gX_Seeker__back b_Seeker__back N_Seeker__back encS
  simp_arith [e, e3, dl, dt]
end
end SK
namespace DL
open PySem L2 GT PySem.W
/-! an int ahead -/
end DL
namespace SK
open PySem L2 DL GT PG RX
end SK
local macro_rules | `(tactic| simp_arith [$xs,*]) => `(tactic| simp (maxSteps := 2000000) (disch := omega) only [DL.ob_some, DL.om_some, DL.dat_d, DL.lis_l, DL.dic_m, DL.gt_0, DL.gt_1, DL.gt_2, DL.gt_3, DL.gt_4, DL.gt_5, DL.gt_6, DL.gt_7, DL.gt_b, DL.st_0, DL.st_s, DL.plG_d, DL.plG_n, DL.plainAt_a, DL.varM_a, DL.ownM_a, DL.cM_a, DL.ofL_a, DL.opM_a, DL.opOwnM_a, DL.unM_a, DL.truM_a, DL.tstM_a, DL.notM_a, DL.cnd_t, DL.cnd_f, DL.andM_a, DL.orM_a, DL.andVM_a, DL.orVM_a, DL.notVM_a, DL.iteM_a, DL.chM_a, DL.nilM_a, DL.consM_a, DL.guard_tt, DL.tupM_a, DL.lstM_a, DL.noM_a, DL.intV_i, DL.someM_a, DL.slM_a, DL.rng1M_a, DL.rng2M_a, DL.zipV_t, DL.zipV_l, DL.zipM_a, DL.seqM_a, DL.callM_a, DL.hereM_a, DL.callRM_a, DL.appM_a, DL.lisV_l, DL.extM_a, DL.popM_a, DL.popAtM_a, DL.newDM_a, DL.putM_a, DL.lenDM_a, DL.sortDM_a, DL.nameG_a, DL.nilG_a, DL.consG_a, DL.tupG_a, DL.seqS_a, DL.seqK_nx, DL.seqK_rt, DL.seqK_ct, DL.skipM_a, DL.asgM_a, DL.asgG_a, DL.newM_a, DL.asgLM_a, DL.retM_a, DL.exprM_a, DL.ifM_a, DL.forM_a, DL.frzM_a, DL.runF_a, DL.finF_rt, DL.finF_nx, DL.runR_a, DL.finR_rt, DL.finR_nx, DL.sz_0, DL.sz_1, DL.sz_2, DL.sz_3, DL.sz_4, DL.sz_5, DL.sz_6, DL.sz_7, DL.sz_8, DL.sz_9, DL.sz_10, DL.sz_11, DL.sz_12, DL.sz_13, DL.sz_14, DL.sz_15, DL.sz_16, DL.sz_17, DL.sz_18, DL.sz_19, DL.sz_20, DL.sz_21, DL.sz_22, DL.sz_23, DL.sz_24, DL.sz_25, DL.sz_26, DL.sz_27, DL.sz_28, DL.sz_29, DL.sz_30, DL.nc_0, DL.nc_1, DL.nc_2, DL.nc_3, DL.nc_4, DL.nc_5, DL.nc_6, DL.nc_7, DL.nc_8, DL.nc_9, DL.nc_10, DL.nc_11, DL.nc_12, DL.nc_13, DL.nc_14, DL.nc_15, DL.nc_16, DL.nc_17, DL.nc_18, DL.nc_19, DL.nc_20, DL.nc_21, DL.nc_22, DL.nc_23, DL.nc_24, DL.nc_25, DL.nc_26, DL.nc_27, DL.nc_28, DL.nc_29, DL.nc_30, DL.addD_i, DL.addD_t, DL.addD_l, DL.subD_i, DL.modD_i, DL.fdivD_i, DL.mulD_i, DL.lenD_t, DL.lenD_l, DL.tupleD_t, DL.tupleD_l, DL.truD_i, DL.truD_b, DL.truD_n, DL.truD_l, DL.truD_t, DL.ixD_t, DL.ixD_l, DL.negD_i, DL.bD_a, DL.ltB_i, DL.leB_i, DL.eqB_i, DL.neB_i, DL.min2D_i, DL.max2D_i, DL.items_t, DL.items_l, DL.intD_b, DL.isNN, DL.slD_t, DL.slD_l, DL.sortD2_l, DL.sortD2_t, DL.p_ge0, DL.p_geS, DL.p_tk0, DL.p_tkS, DL.p_tkN, DL.p_dr0, DL.p_drS, DL.p_drN, DL.p_mpC, DL.p_mpN, DL.p_apC, DL.p_apN, DL.p_lnC, DL.p_lnN, DL.p_rpS, DL.p_rp0, DL.p_alC, DL.p_alN, DL.p_gdS, DL.p_gdN, DL.p_tlS, DL.p_tlN, DL.p_ieC, DL.p_ieN, DL.p_nt, DL.p_nf, DL.p_atb, DL.p_afb, DL.p_abt, DL.p_abf, DL.p_eqS, DL.p_dT, DL.p_dF, DL.p_TA, DL.p_AT, DL.p_TO, DL.p_OT, DL.p_startD, DL.p_startR, DL.forK_nx, DL.forK_ct, DL.forK_rt, DL.yesM_a, DL.it1_a, DL.compM_a, DL.wipeR_c, DL.wipeR_n, DL.restR_c, DL.restR_n, DL.gtD_i, DL.gtD_T, DL.ob_assoc, DL.om_bind, DL.ob_map, DL.om_map, DL.cnd_bind, DL.cnd_map, DL.guard_bind, DL.guard_map, DL.atI_c0, DL.atI_c1, DL.atI_c2, DL.atI_c3, DL.encN_0, DL.encN_1, DL.encN_2, DL.encN_u, DL.eq_TI, DL.ne_TI, DL.in_I, DL.in_Il, DL.in_T, DL.in_R, DL.notInB_a, DL.enumM_a, DL.exM_a, DL.seqK_ex, DL.finF_ex, DL.forK_ex, DL.tri_no, DL.trm_no, DL.atI_neg1, DL.wipO_nx, DL.wipO_ct, DL.wipO_bk, DL.wipO_rt, DL.wipO_ex, DL.wipM_a, DL.preM_a, DL.two_a, DL.parLM_a, DL.finR_ex, DL.len_map, DL.len_app, DL.len_ir, DL.len_rev, DL.sz_c, DL.rng_c, DL.rngL_n, DL.forM_a', DL.rev_map, DL.seqK_bk, DL.forK_bk, DL.enum_m, DL.emp_map, PG.Sq_failing_1_a, PG.Sq_failing_2_a, PG.Sq_twins_1_a, PG.Sq_twins_2_a, PG.Sq_suspects_1_a, PG.Sq_suspects_2_a, PG.Sq_the_one_1_a, PG.Sq_cases_1_a, PG.Sq_split_1_a, PG.Sq_shortest_1_a, PG.Sq_shortest_2_a, PG.Sq_written_1_a, PG.Sq_tie_in_1_a, PG.Sq_read_1_a, PG.Sq_read_2_a, PG.Sq_read_3_a, PG.Sq_read_4_a, DL.eq_LI, DL.ne_LI, DL.eq_LI0, DL.ne_LI0, DL.eq_LT, DL.ne_LT, DL.eq_LR, DL.ne_LR, DL.eq_TR, DL.ne_TR, DL.eq_B, DL.ne_B, DL.wp_mapE, DL.map_id_int, DL.cut_f, DL.cut_t, DL.cut_f1, DL.map_drop', DL.map_take', DL.map_app', DL.len_zip, DL.inDM_a, DL.dkOf_i, DL.sortIM_a, DL.newDispM_a, DL.keyOf_i, DL.whileK_nx, PG.anyD_map, PG.allD_map', PG.enum_ir, DL.wipX_a, DL.ifX_a, DL.grpX_a, DL.appX_a, DL.forX_a, DL.ifC_a, DL.exprC_a, DL.llM_a, DL.llK_0, PG.eq_BB, PG.ne_BB, PG.allT_t, DL.runX_a, DL.finX_rt, DL.finX_ex, DL.finX_nx, DL.isN_i, DL.isNotN_i, DL.isNotN_n, DL.rngL_g1, DL.ow_k, DL.as_k, DL.flag_k, DL.callOM_a, DL.hereOM_a, DL.runO_a, DL.finO_rt, DL.finO_nx, DL.p_startO, DL.skr_s, DL.ow_s, DL.as_s, DL.flag_s, DL.netM_a, DL.toldM_a, DL.lastM_a, DL.setTM_a, DL.rowsAppM_a, DL.rowsPopM_a, DL.methM_a, DL.mkM_a, DL.newSM_a, DL.runOX_a, DL.finOX_rt, DL.finOX_nx, DL.finOX_ex, DL.finO_ex, PG.eq_OO, PG.ne_OO, PG.in_O, FA.isNot_bb, DL.eq_NN, DL.ne_NN, DL.eq_TT, DL.ne_TT, DL.eq_TT0, DL.ne_TI0, DL.eq_TI0, SK.Sq_Seeker__tell_1_a, SK.Sq_Seeker__tell_2_a, SK.Sq_Seeker__tell_3_a, SK.Sq_Seeker__tell_4_a, SK.Sq_Seeker__back_1_a, DL.ow_l, DL.as_l, DL.flag_l, DL.methK_ok, DL.methK_er, DL.methX_a, Nat.reduceAdd, Nat.reduceSub, Nat.reduceMul, Int.reduceLT, Int.reduceLE, Int.reducePow, Int.reduceNeg, Int.reduceAdd, Int.reduceSub, Int.reduceMul, Int.reduceBEq, Int.reduceBNe, Int.reduceToNat, $xs,*])
namespace SK
open PySem L2 DL GT PG RX
end SK
local macro_rules | `(tactic| simp_arith [$xs,*]) => `(tactic| simp (maxSteps := 2000000) (disch := omega) only [DL.ob_some, DL.om_some, DL.dat_d, DL.lis_l, DL.dic_m, DL.gt_0, DL.gt_1, DL.gt_2, DL.gt_3, DL.gt_4, DL.gt_5, DL.gt_6, DL.gt_7, DL.gt_b, DL.st_0, DL.st_s, DL.plG_d, DL.plG_n, DL.plainAt_a, DL.varM_a, DL.ownM_a, DL.cM_a, DL.ofL_a, DL.opM_a, DL.opOwnM_a, DL.unM_a, DL.truM_a, DL.tstM_a, DL.notM_a, DL.cnd_t, DL.cnd_f, DL.andM_a, DL.orM_a, DL.andVM_a, DL.orVM_a, DL.notVM_a, DL.iteM_a, DL.chM_a, DL.nilM_a, DL.consM_a, DL.guard_tt, DL.tupM_a, DL.lstM_a, DL.noM_a, DL.intV_i, DL.someM_a, DL.slM_a, DL.rng1M_a, DL.rng2M_a, DL.zipV_t, DL.zipV_l, DL.zipM_a, DL.seqM_a, DL.callM_a, DL.hereM_a, DL.callRM_a, DL.appM_a, DL.lisV_l, DL.extM_a, DL.popM_a, DL.popAtM_a, DL.newDM_a, DL.putM_a, DL.lenDM_a, DL.sortDM_a, DL.nameG_a, DL.nilG_a, DL.consG_a, DL.tupG_a, DL.seqS_a, DL.seqK_nx, DL.seqK_rt, DL.seqK_ct, DL.skipM_a, DL.asgM_a, DL.asgG_a, DL.newM_a, DL.asgLM_a, DL.retM_a, DL.exprM_a, DL.ifM_a, DL.forM_a, DL.frzM_a, DL.runF_a, DL.finF_rt, DL.finF_nx, DL.runR_a, DL.finR_rt, DL.finR_nx, DL.sz_0, DL.sz_1, DL.sz_2, DL.sz_3, DL.sz_4, DL.sz_5, DL.sz_6, DL.sz_7, DL.sz_8, DL.sz_9, DL.sz_10, DL.sz_11, DL.sz_12, DL.sz_13, DL.sz_14, DL.sz_15, DL.sz_16, DL.sz_17, DL.sz_18, DL.sz_19, DL.sz_20, DL.sz_21, DL.sz_22, DL.sz_23, DL.sz_24, DL.sz_25, DL.sz_26, DL.sz_27, DL.sz_28, DL.sz_29, DL.sz_30, DL.nc_0, DL.nc_1, DL.nc_2, DL.nc_3, DL.nc_4, DL.nc_5, DL.nc_6, DL.nc_7, DL.nc_8, DL.nc_9, DL.nc_10, DL.nc_11, DL.nc_12, DL.nc_13, DL.nc_14, DL.nc_15, DL.nc_16, DL.nc_17, DL.nc_18, DL.nc_19, DL.nc_20, DL.nc_21, DL.nc_22, DL.nc_23, DL.nc_24, DL.nc_25, DL.nc_26, DL.nc_27, DL.nc_28, DL.nc_29, DL.nc_30, DL.addD_i, DL.addD_t, DL.addD_l, DL.subD_i, DL.modD_i, DL.fdivD_i, DL.mulD_i, DL.lenD_t, DL.lenD_l, DL.tupleD_t, DL.tupleD_l, DL.truD_i, DL.truD_b, DL.truD_n, DL.truD_l, DL.truD_t, DL.ixD_t, DL.ixD_l, DL.negD_i, DL.bD_a, DL.ltB_i, DL.leB_i, DL.eqB_i, DL.neB_i, DL.min2D_i, DL.max2D_i, DL.items_t, DL.items_l, DL.intD_b, DL.isNN, DL.slD_t, DL.slD_l, DL.sortD2_l, DL.sortD2_t, DL.p_ge0, DL.p_geS, DL.p_tk0, DL.p_tkS, DL.p_tkN, DL.p_dr0, DL.p_drS, DL.p_drN, DL.p_mpC, DL.p_mpN, DL.p_apC, DL.p_apN, DL.p_lnC, DL.p_lnN, DL.p_rpS, DL.p_rp0, DL.p_alC, DL.p_alN, DL.p_gdS, DL.p_gdN, DL.p_tlS, DL.p_tlN, DL.p_ieC, DL.p_ieN, DL.p_nt, DL.p_nf, DL.p_atb, DL.p_afb, DL.p_abt, DL.p_abf, DL.p_eqS, DL.p_dT, DL.p_dF, DL.p_TA, DL.p_AT, DL.p_TO, DL.p_OT, DL.p_startD, DL.p_startR, DL.forK_nx, DL.forK_ct, DL.forK_rt, DL.yesM_a, DL.it1_a, DL.compM_a, DL.wipeR_c, DL.wipeR_n, DL.restR_c, DL.restR_n, DL.gtD_i, DL.gtD_T, DL.ob_assoc, DL.om_bind, DL.ob_map, DL.om_map, DL.cnd_bind, DL.cnd_map, DL.guard_bind, DL.guard_map, DL.atI_c0, DL.atI_c1, DL.atI_c2, DL.atI_c3, DL.encN_0, DL.encN_1, DL.encN_2, DL.encN_u, DL.eq_TI, DL.ne_TI, DL.in_I, DL.in_Il, DL.in_T, DL.in_R, DL.notInB_a, DL.enumM_a, DL.exM_a, DL.seqK_ex, DL.finF_ex, DL.forK_ex, DL.tri_no, DL.trm_no, DL.atI_neg1, DL.wipO_nx, DL.wipO_ct, DL.wipO_bk, DL.wipO_rt, DL.wipO_ex, DL.wipM_a, DL.preM_a, DL.two_a, DL.parLM_a, DL.finR_ex, DL.len_map, DL.len_app, DL.len_ir, DL.len_rev, DL.sz_c, DL.rng_c, DL.rngL_n, DL.forM_a', DL.rev_map, DL.seqK_bk, DL.forK_bk, DL.enum_m, DL.emp_map, PG.Sq_failing_1_a, PG.Sq_failing_2_a, PG.Sq_twins_1_a, PG.Sq_twins_2_a, PG.Sq_suspects_1_a, PG.Sq_suspects_2_a, PG.Sq_the_one_1_a, PG.Sq_cases_1_a, PG.Sq_split_1_a, PG.Sq_shortest_1_a, PG.Sq_shortest_2_a, PG.Sq_written_1_a, PG.Sq_tie_in_1_a, PG.Sq_read_1_a, PG.Sq_read_2_a, PG.Sq_read_3_a, PG.Sq_read_4_a, FB.Sq__law_draw_1_a, FB.Sq__law_draw_2_a, FB.Sq__law_draw_3_a, FB.Sq__law_draw_4_a, FB.Sq__law_draw_5_a, FB.Sq__law_draw_6_a, FB.Sq__law_net_1_a, FB.Sq__law_net_2_a, FB.Sq__law_net_3_a, FB.Sq__law_net_4_a, DL.inDM_a, DL.dkOf_i, DL.sortIM_a, DL.newDispM_a, DL.keyOf_i, DL.whileK_nx, Nat.reduceAdd, Nat.reduceSub, Nat.reduceMul, Int.reduceLT, Int.reduceLE, Int.reducePow, Int.reduceNeg, Int.reduceAdd, Int.reduceSub, Int.reduceMul, Int.reduceBEq, Int.reduceBNe, Int.reduceToNat, $xs,*])
namespace FB
open PySem L2 DL GT PG
abbrev SC (ns : List Int) : D := .list (ns.map .int)
theorem draw_spec (ns : List Int) (town : List D) (m : Int) (hm : 0 < m) (hl : town.length < 900000) : ∃ v, 0 ≤ v ∧ v < m ∧ g__law_draw [SC ns, .int m] town = some (.int v, town ++ [.int 0]) := by
  have hz : szOk town.length = true := szOk_of (by omega)
  have key : ∀ x : Int, 0 ≤ x % m ∧ x % m < m := fun x => ⟨Int.emod_nonneg _ (by omega), Int.emod_lt_of_pos _ hm⟩
  have mo : ∀ x : Int, mulOk (x % 4294967291 / 64) 67108864 = true := fun x => mulOk_of (by have := Int.emod_nonneg x (b := 4294967291) (by decide); omega) (by have := Int.emod_lt_of_pos x (b := 4294967291) (by decide); omega)
  have goal : wp (g__law_draw [SC ns, .int m] town) (fun q => ∃ v, 0 ≤ v ∧ v < m ∧ q = (.int v, town ++ [.int 0])) := by
    unfold g__law_draw b__law_draw N__law_draw
    cases ns with
    | nil =>
      simp_arith [hz, mulOk_a, mulOk_b, mulOk_c, hm, mo]
      exact wp_ok ⟨_, (key _).1, (key _).2, rfl⟩
    | cons a as =>
      have hpos : (0 : Int) < ((a :: as).length : Nat) := by simp only [List.length_cons]; omega
      obtain ⟨c, _, hc⟩ := atI_mem (xs := a :: as) (i := ((town.length + 1 : Nat) : Int) % ((a :: as).length : Nat)) (Int.emod_nonneg _ (by omega)) (Int.emod_lt_of_pos _ hpos)
      have hne : (List.map PyData.int (a :: as)).isEmpty = false := rfl
      have hlen : (List.map PyData.int (a :: as)).length = (a :: as).length := List.length_map ..
      have hix : ixD (.list (List.map PyData.int (a :: as))) (.int (((town.length + 1 : Nat) : Int) % ((a :: as).length : Nat))) = some (.int c) := by
        rw [ixD_l, atI_map, hc]; rfl
      show wp (runR _ _ _ [.list (List.map PyData.int (a :: as)), .int m] town) _
      generalize hA : List.map PyData.int (a :: as) = A at *
      generalize hB : (a :: as).length = B at *
      simp_arith [hz, hne, mulOk_a, mulOk_b, mulOk_c, hm, hlen, hpos, hix, mo]
      exact wp_ok ⟨_, (key _).1, (key _).2, rfl⟩
  obtain ⟨q, e, v, v0, v1, rfl⟩ := goal
  exact ⟨v, v0, v1, e⟩
theorem pick_specT (ns : List Int) (town : List D) (ds : List D) (hd : ds ≠ []) (hl : town.length < 900000) : ∃ d ∈ ds, g__law_pick [SC ns, .tuple ds] town = some (d, town ++ [.int 0]) := by
  have hpos : (0 : Int) < (ds.length : Nat) := by
    have := List.length_pos_iff.mpr hd; omega
  obtain ⟨v, h0, h1, e⟩ := draw_spec ns town ds.length hpos hl
  obtain ⟨d, m, hc⟩ := atI_mem h0 h1
  refine ⟨d, m, ?_⟩
  unfold g__law_pick b__law_pick N__law_pick
  simp_arith [e, hc]
/-! a net by cells -/
def rg (a b : Int) : List Int := (List.range (b - a).toNat).map fun (i : Nat) => a + (i : Int)
theorem rngL_rg (a b : Int) : rngL a b = (rg a b).map .int := rngL_eq a b
theorem mem_rg' {a b x : Int} : x ∈ rg a b ↔ a ≤ x ∧ x < b := mem_rg
theorem rg_len (a b : Int) : (rg a b).length = (b - a).toNat := by simp [rg]
theorem rg_up (a b : Int) : (rg a b).Pairwise (· < ·) := by
  unfold rg
  exact List.pairwise_map.mpr (List.pairwise_lt_range.imp fun h => by omega)
def rowT (n : Nat) (a : Int) : List Tie := (rg (a + 1) n).map fun b => (a, b)
def allT (n : Nat) : List Tie := (ir n).flatMap (rowT n)
theorem mem_rowT {n : Nat} {a : Int} {t : Tie} : t ∈ rowT n a ↔ t.1 = a ∧ a < t.2 ∧ t.2 < n := by
  unfold rowT
  simp only [List.mem_map, mem_rg']
  constructor
  · rintro ⟨b, h, rfl⟩; exact ⟨rfl, by show a < b; omega, h.2⟩
  · rintro ⟨rfl, h1, h2⟩; exact ⟨t.2, by omega, rfl⟩
theorem mem_allT {n : Nat} {t : Tie} : t ∈ allT n ↔ 0 ≤ t.1 ∧ t.1 < t.2 ∧ t.2 < n := by
  unfold allT
  simp only [List.mem_flatMap, mem_rowT, mem_ir]
  constructor
  · rintro ⟨a, h, rfl, h2⟩; omega
  · rintro h; exact ⟨t.1, by omega, rfl, by omega⟩
theorem flat_up : ∀ {as : List Int} {f : Int → List Tie}, as.Pairwise (· < ·) → (∀ a ∈ as, (f a).Pairwise tlt ∧ ∀ t ∈ f a, t.1 = a) → (as.flatMap f).Pairwise tlt
  | [], _, _, _ => by simp
  | a :: as, f, h, hf => by
    rw [List.flatMap_cons, List.pairwise_append]
    have h' := List.pairwise_cons.mp h
    refine ⟨(hf a (by simp)).1, flat_up h'.2 fun b m => hf b (List.mem_cons_of_mem _ m), fun t mt u mu => ?_⟩
    obtain ⟨b, mb, mu⟩ := List.mem_flatMap.mp mu
    have e1 := (hf a (by simp)).2 t mt
    have e2 := (hf b (List.mem_cons_of_mem _ mb)).2 u mu
    have := h'.1 b mb
    unfold tlt; omega
theorem allT_up (n : Nat) : (allT n).Pairwise tlt := flat_up (ir_sorted n) fun a _ => ⟨by
  unfold rowT
  exact List.pairwise_map.mpr ((rg_up _ _).imp fun h => .inr ⟨rfl, h⟩), fun t m => (mem_rowT.mp m).1⟩
theorem flat_len {α β : Type} {f : α → List β} {c : Nat} : ∀ {xs : List α}, (∀ x ∈ xs, (f x).length ≤ c) → (xs.flatMap f).length ≤ c * xs.length
  | [], _ => by simp
  | a :: xs, h => by
    rw [List.flatMap_cons, List.length_append, List.length_cons, Nat.mul_add]
    have := h a (by simp); have := flat_len fun x m => h x (List.mem_cons_of_mem a m); omega
theorem allT_len {n : Nat} (h : n ≤ 7) : (allT n).length ≤ 49 := by
  have := flat_len (f := rowT n) (c := 7) (xs := ir n) fun a m => by
    unfold rowT; rw [List.length_map, rg_len]; have := mem_ir.mp m; omega
  rw [ir_len] at this
  unfold allT; omega
theorem erase_map {α β : Type} (f : α → β) : ∀ (xs : List α) (i : Nat), (xs.map f).eraseIdx i = (xs.eraseIdx i).map f
  | [], _ => rfl
  | _ :: _, 0 => rfl
  | x :: xs, i + 1 => by simp [erase_map f xs i]
abbrev stN (ns : List Int) (high wide n : Nat) (tw : List D) (ts : List Tie) : Rho := [some (.d (SC ns)), some (.l true tw), some (.d (.int high)), some (.d (.int wide)), none, none, some (.d (.int n)), some (.l false (ts.map encT)), none, none]
theorem W_net {ns : List Int} {high wide n : Nat} : ∀ (fuel : Nat) (ts : List Tie) (tw : List D), ts.length < fuel → ts.length ≤ 100 → tw.length + 2 * ts.length < 800000 →
    wp (whileL Wt__law_net_1 Wb__law_net_1 fuel (stN ns high wide n tw ts)) (fun o => ∃ ts' tw', o = .nx (stN ns high wide n tw' ts') ∧ ts'.Sublist ts ∧ ts'.length ≤ wide ∧ tw'.length ≤ tw.length + 2 * ts.length + 1)
  | 0, ts, tw, h, _, _ => by omega
  | fuel + 1, ts, tw, h, h100, hl => by
    rw [whileL_s]
    obtain ⟨v, v0, v1, e1⟩ := draw_spec ns tw 5 (by omega) (by omega)
    have body : ∀ tw1 : List D, tw1.length ≤ tw.length + 1 → 0 < ts.length → wp ((Wb__law_net_1 (stN ns high wide n tw1 ts)).bind (whileK Wt__law_net_1 Wb__law_net_1 fuel)) (fun o => ∃ ts' tw', o = .nx (stN ns high wide n tw' ts') ∧ ts'.Sublist ts ∧ ts'.length ≤ wide ∧ tw'.length ≤ tw.length + 2 * ts.length + 1) := fun tw1 h1 hp => by
      obtain ⟨u, u0, u1, e2⟩ := draw_spec ns tw1 ts.length (by omega) (by omega)
      have g1 : decide (0 ≤ u ∧ u < 1000000) = true := decide_eq_true ⟨u0, by omega⟩
      have g2 : (ts.map encT)[u.toNat]? = some (encT (ts[u.toNat]'(by omega))) := by
        rw [List.getElem?_map, List.getElem?_eq_getElem (by omega)]; rfl
      have g3 : (ts.map encT).eraseIdx u.toNat = (ts.eraseIdx u.toNat).map encT := erase_map encT ts _
      have g4 : (ts.eraseIdx u.toNat).length = ts.length - 1 := List.length_eraseIdx_of_lt (by omega)
      have ih := W_net (ns := ns) (high := high) (wide := wide) (n := n) fuel (ts.eraseIdx u.toNat) (tw1 ++ [.int 0]) (by omega) (by omega) (by simp; omega)
      have st : Wb__law_net_1 (stN ns high wide n tw1 ts) = some (.nx (stN ns high wide n (tw1 ++ [.int 0]) (ts.eraseIdx u.toNat))) := by
        unfold Wb__law_net_1 stN
        simp_arith [e2, g1, g2, g3]
      rw [st, ob_some]
      refine wp_mono ih ?_
      rintro o ⟨ts', tw', rfl, i1, i2, i3⟩
      exact ⟨ts', tw', rfl, i1.trans (List.eraseIdx_sublist ..), i2, by simp at i3; omega⟩
    by_cases c1 : (wide : Int) < ((ts.length : Nat) : Int)
    · have t : Wt__law_net_1 (stN ns high wide n tw ts) = some (true, stN ns high wide n tw ts) := by
        unfold Wt__law_net_1 stN
        simp_arith [c1]
      rw [t, ob_some, cnd_t]
      exact body tw (by omega) (by omega)
    · by_cases c0 : ts = []
      · subst c0
        have t : Wt__law_net_1 (stN ns high wide n tw []) = some (false, stN ns high wide n tw []) := by
          have c2 : decide ((wide : Int) < 0) = false := decide_eq_false (by omega)
          unfold Wt__law_net_1 stN
          simp_arith [c2]
        rw [t, ob_some, cnd_f]
        exact wp_ok ⟨[], tw, rfl, .slnil, by simp, by omega⟩
      · have ne : ts.isEmpty = false := by cases ts with
          | nil => exact absurd rfl c0
          | cons _ _ => rfl
        have lp : 0 < ts.length := List.length_pos_iff.mpr c0
        have t : Wt__law_net_1 (stN ns high wide n tw ts) = some (v == 0, stN ns high wide n (tw ++ [.int 0]) ts) := by
          unfold Wt__law_net_1 stN
          simp_arith [c1, ne, e1]
        cases hv : v == 0 <;> rw [hv] at t
        · rw [t, ob_some, cnd_f]
          exact wp_ok ⟨ts, tw ++ [.int 0], rfl, List.Sublist.refl _, by omega, by simp⟩
        · rw [t, ob_some, cnd_t]
          have b := body (tw ++ [PyData.int 0]) (by simp) lp
          exact b
end FB
namespace FB
open PySem L2 DL GT PG
theorem net_spec (ns : List Int) (town : List D) (high wide : Nat) (h1 : 1 ≤ high) (h2 : high ≤ 7) (h3 : wide ≤ 20) (hl : town.length < 700000) :
    ∃ (N : Net) (town' : List D), N.WF ∧ N.n ≤ high ∧ N.ties.length ≤ wide ∧ N.rim ≠ [] ∧ town'.length ≤ town.length + 150 ∧ g__law_net [SC ns, .int high, .int wide] town = some (encN N, town') := by
  have goal : wp (g__law_net [SC ns, .int high, .int wide] town) (fun q => ∃ N : Net, N.WF ∧ N.n ≤ high ∧ N.ties.length ≤ wide ∧ N.rim ≠ [] ∧ q.2.length ≤ town.length + 150 ∧ q.1 = encN N) := by
    obtain ⟨v, v0, v1, e1⟩ := draw_spec ns town high (by omega) (by omega)
    obtain ⟨n, rfl⟩ : ∃ n : Nat, v = n := ⟨v.toNat, by omega⟩
    have hn1 : ((1 : Int) + (n : Int)) = ((n + 1 : Nat) : Int) := by omega
    unfold g__law_net b__law_net N__law_net
    simp_arith [e1, hn1]
    refine wp_fill (B := Tie) (enc := PyData.int) (fun l => stN ns high wide (n + 1) (town ++ [.int 0]) l) (rowT (n + 1)) ?_ ?_
    · intro pre a post h
      have ma := mem_ir.mp (show a ∈ ir (n + 1) by rw [h]; simp)
      have pl : (pre.flatMap (rowT (n + 1))).length ≤ 49 := by
        have := allT_len (n := n + 1) (by omega)
        unfold allT at this
        rw [h, List.flatMap_append, List.length_append] at this
        omega
      have rl : (rowT (n + 1) a).length ≤ 7 := by unfold rowT; rw [List.length_map, rg_len]; omega
      have rl2 : (rg (a + 1) ((n + 1 : Nat) : Int)).length ≤ 7 := by rw [rg_len]; omega
      unfold F__law_net_1 stN
      simp_arith [rngL_rg]
      refine wp_cmap (fun b => encT (a, b)) (fun b _ => ?_) ?_
      · unfold Ce__law_net_1
        simp_arith [DL.p_nt]
        exact wp_ok rfl
      · simp_arith [DL.p_nt]
        refine wp_ok ?_
        show _ = _
        unfold rowT
        simp [List.map_map, Function.comp_def]
    · have al := allT_len (n := n + 1) (by omega)
      rw [show (ir (n + 1)).flatMap (rowT (n + 1)) = allT (n + 1) from rfl]
      simp_arith [DL.p_nt]
      have wl := W_net (ns := ns) (high := high) (wide := wide) (n := n + 1) 1000 (allT (n + 1)) (town ++ [PyData.int 0]) (by omega) (by omega) (by simp; omega)
      refine wp_bind wl ?_
      rintro _ ⟨ts, tw, rfl, s1, s2, s3⟩
      simp only [List.length_append, List.length_cons, List.length_nil] at s3
      have tl : ts.length ≤ 49 := Nat.le_trans s1.length_le al
      unfold stN
      simp_arith [DL.p_nt]
      refine wp_ctown (A := Int) (enc := PyData.int) (fun tw => [some (.d (SC ns)), some (.l true tw), some (.d (.int high)), some (.d (.int wide)), none, none, some (.d (.int ((n + 1 : Nat) : Int))), some (.l false (ts.map encT)), none, none]) 1 tw (fun a d => d = .int a) ?_ ?_
      · intro a _ tw1 hw
        rw [ir_len] at hw
        obtain ⟨u, u0, u1, e2⟩ := draw_spec ns tw1 3 (by omega) (by omega)
        unfold Ct__law_net_1 Ce__law_net_2
        simp_arith [e2]
        refine wp_cnd (fun _ => ?_) (fun _ => ?_)
        · exact wp_ok ⟨⟨tw1 ++ [.int 0], by simp, rfl⟩, fun d e => by cases e; rfl⟩
        · exact wp_ok ⟨⟨tw1 ++ [.int 0], by simp, rfl⟩, fun d e => by cases e⟩
      · intro bs tw1 b1 b2 hw
        rw [ir_len] at hw
        have e3 : bs.map (·.2) = (bs.map (·.1)).map PyData.int := by
          rw [List.map_map]
          exact List.map_congr_left fun b m => b2 b m
        rw [e3]
        generalize bs.map (·.1) = cs at b1
        have cl : cs.length ≤ n + 1 := by have := b1.length_le; rwa [ir_len] at this
        have fin : ∀ (rim : List Int) (tw2 : List D), rim ≠ [] → (∀ k ∈ rim, 0 ≤ k ∧ k < ((n + 1 : Nat) : Int)) → rim.Pairwise (· < ·) → tw2.length ≤ town.length + 150 →
            ∃ N : Net, N.WF ∧ N.n ≤ high ∧ N.ties.length ≤ wide ∧ N.rim ≠ [] ∧ tw2.length ≤ town.length + 150 ∧ PyData.tuple [.int ((n + 1 : Nat) : Int), .tuple (ts.map encT), .tuple (rim.map .int)] = encN N := fun rim tw2 r1 r2 r3 r4 =>
          ⟨⟨n + 1, ts, rim⟩, ⟨by simp, by simp; omega, fun t mt => by
            have := mem_allT.mp (s1.subset mt); exact this, (allT_up _).sublist s1, r2, r3⟩, by simp; omega, s2, r1, r4, rfl⟩
        cases cs with
        | nil =>
          obtain ⟨q, q0, q1, e4⟩ := draw_spec ns tw1 ((n + 1 : Nat) : Int) (by omega) (by omega)
          simp_arith [e4]
          exact wp_ok (fin [q] (tw1 ++ [PyData.int 0]) (by simp) (by simp; omega) (by simp) (by simp; omega))
        | cons c cs =>
          simp_arith [DL.p_nt]
          exact wp_ok (fin (c :: cs) tw1 (by simp) (fun k m => mem_ir.mp (b1.subset m)) ((ir_sorted _).sublist b1) (by omega))
  obtain ⟨⟨d, tw⟩, e, N, a1, a2, a3, a4, a5, rfl⟩ := goal
  exact ⟨N, tw, a1, a2, a3, a4, a5, e⟩
end FB
local macro_rules | `(tactic| simp_arith [$xs,*]) => `(tactic| simp (maxSteps := 2000000) (disch := omega) only [DL.ob_some, DL.om_some, DL.dat_d, DL.lis_l, DL.dic_m, DL.gt_0, DL.gt_1, DL.gt_2, DL.gt_3, DL.gt_4, DL.gt_5, DL.gt_6, DL.gt_7, DL.gt_b, DL.st_0, DL.st_s, DL.plG_d, DL.plG_n, DL.plainAt_a, DL.varM_a, DL.ownM_a, DL.cM_a, DL.ofL_a, DL.opM_a, DL.opOwnM_a, DL.unM_a, DL.truM_a, DL.tstM_a, DL.notM_a, DL.cnd_t, DL.cnd_f, DL.andM_a, DL.orM_a, DL.andVM_a, DL.orVM_a, DL.notVM_a, DL.iteM_a, DL.chM_a, DL.nilM_a, DL.consM_a, DL.guard_tt, DL.tupM_a, DL.lstM_a, DL.noM_a, DL.intV_i, DL.someM_a, DL.slM_a, DL.rng1M_a, DL.rng2M_a, DL.zipV_t, DL.zipV_l, DL.zipM_a, DL.seqM_a, DL.callM_a, DL.hereM_a, DL.callRM_a, DL.appM_a, DL.lisV_l, DL.extM_a, DL.popM_a, DL.popAtM_a, DL.newDM_a, DL.putM_a, DL.lenDM_a, DL.sortDM_a, DL.nameG_a, DL.nilG_a, DL.consG_a, DL.tupG_a, DL.seqS_a, DL.seqK_nx, DL.seqK_rt, DL.seqK_ct, DL.skipM_a, DL.asgM_a, DL.asgG_a, DL.newM_a, DL.asgLM_a, DL.retM_a, DL.exprM_a, DL.ifM_a, DL.forM_a, DL.frzM_a, DL.runF_a, DL.finF_rt, DL.finF_nx, DL.runR_a, DL.finR_rt, DL.finR_nx, DL.sz_0, DL.sz_1, DL.sz_2, DL.sz_3, DL.sz_4, DL.sz_5, DL.sz_6, DL.sz_7, DL.sz_8, DL.sz_9, DL.sz_10, DL.sz_11, DL.sz_12, DL.sz_13, DL.sz_14, DL.sz_15, DL.sz_16, DL.sz_17, DL.sz_18, DL.sz_19, DL.sz_20, DL.sz_21, DL.sz_22, DL.sz_23, DL.sz_24, DL.sz_25, DL.sz_26, DL.sz_27, DL.sz_28, DL.sz_29, DL.sz_30, DL.nc_0, DL.nc_1, DL.nc_2, DL.nc_3, DL.nc_4, DL.nc_5, DL.nc_6, DL.nc_7, DL.nc_8, DL.nc_9, DL.nc_10, DL.nc_11, DL.nc_12, DL.nc_13, DL.nc_14, DL.nc_15, DL.nc_16, DL.nc_17, DL.nc_18, DL.nc_19, DL.nc_20, DL.nc_21, DL.nc_22, DL.nc_23, DL.nc_24, DL.nc_25, DL.nc_26, DL.nc_27, DL.nc_28, DL.nc_29, DL.nc_30, DL.addD_i, DL.addD_t, DL.addD_l, DL.subD_i, DL.modD_i, DL.fdivD_i, DL.mulD_i, DL.lenD_t, DL.lenD_l, DL.tupleD_t, DL.tupleD_l, DL.truD_i, DL.truD_b, DL.truD_n, DL.truD_l, DL.truD_t, DL.ixD_t, DL.ixD_l, DL.negD_i, DL.bD_a, DL.ltB_i, DL.leB_i, DL.eqB_i, DL.neB_i, DL.min2D_i, DL.max2D_i, DL.items_t, DL.items_l, DL.intD_b, DL.isNN, DL.slD_t, DL.slD_l, DL.sortD2_l, DL.sortD2_t, DL.p_ge0, DL.p_geS, DL.p_tk0, DL.p_tkS, DL.p_tkN, DL.p_dr0, DL.p_drS, DL.p_drN, DL.p_mpC, DL.p_mpN, DL.p_apC, DL.p_apN, DL.p_lnC, DL.p_lnN, DL.p_rpS, DL.p_rp0, DL.p_alC, DL.p_alN, DL.p_gdS, DL.p_gdN, DL.p_tlS, DL.p_tlN, DL.p_ieC, DL.p_ieN, DL.p_nt, DL.p_nf, DL.p_atb, DL.p_afb, DL.p_abt, DL.p_abf, DL.p_eqS, DL.p_dT, DL.p_dF, DL.p_TA, DL.p_AT, DL.p_TO, DL.p_OT, DL.p_startD, DL.p_startR, DL.forK_nx, DL.forK_ct, DL.forK_rt, DL.yesM_a, DL.it1_a, DL.compM_a, DL.wipeR_c, DL.wipeR_n, DL.restR_c, DL.restR_n, DL.gtD_i, DL.gtD_T, DL.ob_assoc, DL.om_bind, DL.ob_map, DL.om_map, DL.cnd_bind, DL.cnd_map, DL.guard_bind, DL.guard_map, DL.atI_c0, DL.atI_c1, DL.atI_c2, DL.atI_c3, DL.encN_0, DL.encN_1, DL.encN_2, DL.encN_u, DL.eq_TI, DL.ne_TI, DL.in_I, DL.in_Il, DL.in_T, DL.in_R, DL.notInB_a, DL.enumM_a, DL.exM_a, DL.seqK_ex, DL.finF_ex, DL.forK_ex, DL.tri_no, DL.trm_no, DL.atI_neg1, DL.wipO_nx, DL.wipO_ct, DL.wipO_bk, DL.wipO_rt, DL.wipO_ex, DL.wipM_a, DL.preM_a, DL.two_a, DL.parLM_a, DL.finR_ex, DL.len_map, DL.len_app, DL.len_ir, DL.len_rev, DL.sz_c, DL.rng_c, DL.rngL_n, DL.forM_a', DL.rev_map, DL.seqK_bk, DL.forK_bk, DL.enum_m, DL.emp_map, PG.Sq_failing_1_a, PG.Sq_failing_2_a, PG.Sq_twins_1_a, PG.Sq_twins_2_a, PG.Sq_suspects_1_a, PG.Sq_suspects_2_a, PG.Sq_the_one_1_a, PG.Sq_cases_1_a, PG.Sq_split_1_a, PG.Sq_shortest_1_a, PG.Sq_shortest_2_a, PG.Sq_written_1_a, PG.Sq_tie_in_1_a, PG.Sq_read_1_a, PG.Sq_read_2_a, PG.Sq_read_3_a, PG.Sq_read_4_a, FB.Sq__law_draw_1_a, FB.Sq__law_draw_2_a, FB.Sq__law_draw_3_a, FB.Sq__law_draw_4_a, FB.Sq__law_draw_5_a, FB.Sq__law_draw_6_a, FB.Sq__law_net_1_a, FB.Sq__law_net_2_a, FB.Sq__law_net_3_a, FB.Sq__law_net_4_a, DL.inDM_a, DL.dkOf_i, DL.sortIM_a, DL.newDispM_a, DL.keyOf_i, DL.whileK_nx, DL.eq_LI, DL.ne_LI, DL.eq_LI0, DL.ne_LI0, DL.eq_LT, DL.ne_LT, DL.eq_LR, DL.ne_LR, DL.eq_TR, DL.ne_TR, DL.eq_B, DL.ne_B, DL.wp_mapE, DL.map_id_int, DL.cut_f, DL.cut_t, DL.cut_f1, DL.map_drop', DL.map_take', DL.map_app', DL.len_zip, PG.anyD_map, PG.allD_map', PG.enum_ir, DL.wipX_a, DL.ifX_a, DL.grpX_a, DL.appX_a, DL.forX_a, DL.ifC_a, DL.exprC_a, DL.llM_a, DL.llK_0, PG.eq_BB, PG.ne_BB, PG.allT_t, DL.runX_a, DL.finX_rt, DL.finX_ex, DL.finX_nx, DL.isN_i, DL.isNotN_i, DL.isNotN_n, DL.rngL_g1, PG.eq_OO, PG.ne_OO, PG.in_O, Nat.reduceAdd, Nat.reduceSub, Nat.reduceMul, Int.reduceLT, Int.reduceLE, Int.reducePow, Int.reduceNeg, Int.reduceAdd, Int.reduceSub, Int.reduceMul, Int.reduceBEq, Int.reduceBNe, Int.reduceToNat, $xs,*])
namespace FB
open PySem L2 DL GT PG RX
end FB
/-! texts as lists of signs -/
local macro_rules | `(tactic| simp_arith [$xs,*]) => `(tactic| simp (maxSteps := 2000000) (disch := omega) only [DL.ob_some, DL.om_some, DL.dat_d, DL.lis_l, DL.dic_m, DL.gt_0, DL.gt_1, DL.gt_2, DL.gt_3, DL.gt_4, DL.gt_5, DL.gt_6, DL.gt_7, DL.gt_b, DL.st_0, DL.st_s, DL.plG_d, DL.plG_n, DL.plainAt_a, DL.varM_a, DL.ownM_a, DL.cM_a, DL.ofL_a, DL.opM_a, DL.opOwnM_a, DL.unM_a, DL.truM_a, DL.tstM_a, DL.notM_a, DL.cnd_t, DL.cnd_f, DL.andM_a, DL.orM_a, DL.andVM_a, DL.orVM_a, DL.notVM_a, DL.iteM_a, DL.chM_a, DL.nilM_a, DL.consM_a, DL.guard_tt, DL.tupM_a, DL.lstM_a, DL.noM_a, DL.intV_i, DL.someM_a, DL.slM_a, DL.rng1M_a, DL.rng2M_a, DL.zipV_t, DL.zipV_l, DL.zipM_a, DL.seqM_a, DL.callM_a, DL.hereM_a, DL.callRM_a, DL.appM_a, DL.lisV_l, DL.extM_a, DL.popM_a, DL.popAtM_a, DL.newDM_a, DL.putM_a, DL.lenDM_a, DL.sortDM_a, DL.nameG_a, DL.nilG_a, DL.consG_a, DL.tupG_a, DL.seqS_a, DL.seqK_nx, DL.seqK_rt, DL.seqK_ct, DL.skipM_a, DL.asgM_a, DL.asgG_a, DL.newM_a, DL.asgLM_a, DL.retM_a, DL.exprM_a, DL.ifM_a, DL.forM_a, DL.frzM_a, DL.runF_a, DL.finF_rt, DL.finF_nx, DL.runR_a, DL.finR_rt, DL.finR_nx, DL.sz_0, DL.sz_1, DL.sz_2, DL.sz_3, DL.sz_4, DL.sz_5, DL.sz_6, DL.sz_7, DL.sz_8, DL.sz_9, DL.sz_10, DL.sz_11, DL.sz_12, DL.sz_13, DL.sz_14, DL.sz_15, DL.sz_16, DL.sz_17, DL.sz_18, DL.sz_19, DL.sz_20, DL.sz_21, DL.sz_22, DL.sz_23, DL.sz_24, DL.sz_25, DL.sz_26, DL.sz_27, DL.sz_28, DL.sz_29, DL.sz_30, DL.nc_0, DL.nc_1, DL.nc_2, DL.nc_3, DL.nc_4, DL.nc_5, DL.nc_6, DL.nc_7, DL.nc_8, DL.nc_9, DL.nc_10, DL.nc_11, DL.nc_12, DL.nc_13, DL.nc_14, DL.nc_15, DL.nc_16, DL.nc_17, DL.nc_18, DL.nc_19, DL.nc_20, DL.nc_21, DL.nc_22, DL.nc_23, DL.nc_24, DL.nc_25, DL.nc_26, DL.nc_27, DL.nc_28, DL.nc_29, DL.nc_30, DL.addD_i, DL.addD_t, DL.addD_l, DL.subD_i, DL.modD_i, DL.fdivD_i, DL.mulD_i, DL.lenD_t, DL.lenD_l, DL.tupleD_t, DL.tupleD_l, DL.truD_i, DL.truD_b, DL.truD_n, DL.truD_l, DL.truD_t, DL.ixD_t, DL.ixD_l, DL.negD_i, DL.bD_a, DL.ltB_i, DL.leB_i, DL.eqB_i, DL.neB_i, DL.min2D_i, DL.max2D_i, DL.items_t, DL.items_l, DL.intD_b, DL.isNN, DL.slD_t, DL.slD_l, DL.sortD2_l, DL.sortD2_t, DL.p_ge0, DL.p_geS, DL.p_tk0, DL.p_tkS, DL.p_tkN, DL.p_dr0, DL.p_drS, DL.p_drN, DL.p_mpC, DL.p_mpN, DL.p_apC, DL.p_apN, DL.p_lnC, DL.p_lnN, DL.p_rpS, DL.p_rp0, DL.p_alC, DL.p_alN, DL.p_gdS, DL.p_gdN, DL.p_tlS, DL.p_tlN, DL.p_ieC, DL.p_ieN, DL.p_nt, DL.p_nf, DL.p_atb, DL.p_afb, DL.p_abt, DL.p_abf, DL.p_eqS, DL.p_dT, DL.p_dF, DL.p_TA, DL.p_AT, DL.p_TO, DL.p_OT, DL.p_startD, DL.p_startR, DL.forK_nx, DL.forK_ct, DL.forK_rt, DL.yesM_a, DL.it1_a, DL.compM_a, DL.wipeR_c, DL.wipeR_n, DL.restR_c, DL.restR_n, DL.gtD_i, DL.gtD_T, DL.ob_assoc, DL.om_bind, DL.ob_map, DL.om_map, DL.cnd_bind, DL.cnd_map, DL.guard_bind, DL.guard_map, DL.atI_c0, DL.atI_c1, DL.atI_c2, DL.atI_c3, DL.encN_0, DL.encN_1, DL.encN_2, DL.encN_u, DL.eq_TI, DL.ne_TI, DL.in_I, DL.in_Il, DL.in_T, DL.in_R, DL.notInB_a, DL.enumM_a, DL.exM_a, DL.seqK_ex, DL.finF_ex, DL.forK_ex, DL.tri_no, DL.trm_no, DL.atI_neg1, DL.wipO_nx, DL.wipO_ct, DL.wipO_bk, DL.wipO_rt, DL.wipO_ex, DL.wipM_a, DL.preM_a, DL.two_a, DL.parLM_a, DL.finR_ex, DL.len_map, DL.len_app, DL.len_ir, DL.len_rev, DL.sz_c, DL.rng_c, DL.rngL_n, DL.forM_a', DL.rev_map, DL.seqK_bk, DL.forK_bk, DL.enum_m, DL.emp_map, PG.Sq_failing_1_a, PG.Sq_failing_2_a, PG.Sq_twins_1_a, PG.Sq_twins_2_a, PG.Sq_suspects_1_a, PG.Sq_suspects_2_a, PG.Sq_the_one_1_a, PG.Sq_cases_1_a, PG.Sq_split_1_a, PG.Sq_shortest_1_a, PG.Sq_shortest_2_a, PG.Sq_written_1_a, PG.Sq_tie_in_1_a, PG.Sq_read_1_a, PG.Sq_read_2_a, PG.Sq_read_3_a, PG.Sq_read_4_a, DL.eq_LI, DL.ne_LI, DL.eq_LI0, DL.ne_LI0, DL.eq_LT, DL.ne_LT, DL.eq_LR, DL.ne_LR, DL.eq_TR, DL.ne_TR, DL.eq_B, DL.ne_B, DL.wp_mapE, DL.map_id_int, DL.cut_f, DL.cut_t, DL.cut_f1, DL.map_drop', DL.map_take', DL.map_app', DL.len_zip, DL.inDM_a, DL.dkOf_i, DL.sortIM_a, DL.newDispM_a, DL.keyOf_i, DL.whileK_nx, PG.anyD_map, PG.allD_map', PG.enum_ir, DL.wipX_a, DL.ifX_a, DL.grpX_a, DL.appX_a, DL.forX_a, DL.ifC_a, DL.exprC_a, DL.llM_a, DL.llK_0, PG.eq_BB, PG.ne_BB, PG.allT_t, DL.runX_a, DL.finX_rt, DL.finX_ex, DL.finX_nx, DL.isN_i, DL.isNotN_i, DL.isNotN_n, DL.rngL_g1, DL.ow_k, DL.as_k, DL.flag_k, DL.callOM_a, DL.hereOM_a, DL.runO_a, DL.finO_rt, DL.finO_nx, DL.p_startO, DL.skr_s, DL.ow_s, DL.as_s, DL.flag_s, DL.netM_a, DL.toldM_a, DL.lastM_a, DL.setTM_a, DL.rowsAppM_a, DL.rowsPopM_a, DL.methM_a, DL.mkM_a, DL.newSM_a, DL.runOX_a, DL.finOX_rt, DL.finOX_nx, DL.finOX_ex, DL.finO_ex, DL.ow_l, DL.as_l, DL.flag_l, DL.methK_ok, DL.methK_er, DL.methX_a, PG.eq_OO, PG.ne_OO, PG.in_O, FA.isNot_bb, DL.eq_NN, DL.ne_NN, DL.eq_TT, DL.ne_TT, DL.eq_TT0, DL.ne_TI0, DL.eq_TI0, Nat.reduceAdd, Nat.reduceSub, Nat.reduceMul, Int.reduceLT, Int.reduceLE, Int.reducePow, Int.reduceNeg, Int.reduceAdd, Int.reduceSub, Int.reduceMul, Int.reduceBEq, Int.reduceBNe, Int.reduceToNat, $xs,*])
namespace DL
open PySem L2
abbrev mkS (l : List Nat) : Str := ⟨l.toArray⟩
abbrev tx (l : List Nat) : D := .str (mkS l)
theorem mkS_app (a b : List Nat) : mkS a ++ mkS b = mkS (a ++ b) := Str.mk.injEq .. ▸ (by show (a.toArray ++ b.toArray) = _; simp)
theorem mkS_len (l : List Nat) : (mkS l).length = l.length := by show l.toArray.size = _; simp
theorem mkS_list (l : List Nat) : (mkS l).cps.toList = l := by simp
theorem mkS_of (x : Str) : mkS x.cps.toList = x := by cases x; simp
theorem mkS_inj {a b : List Nat} (h : mkS a = mkS b) : a = b := by
  have := congrArg (fun x : Str => x.cps.toList) h
  simpa using this
/-- joined by signs -/
def joinN (s : List Nat) : List (List Nat) → List Nat
  | [] => []
  | [x] => x
  | x :: y :: r => x ++ s ++ joinN s (y :: r)
theorem join_mk (s : List Nat) : ∀ ls : List (List Nat), Txt.join (mkS s) (ls.map mkS) = mkS (joinN s ls) := by
  have key : ∀ ls : List (List Nat), Str.join (mkS s) (ls.map mkS) = mkS (joinN s ls) := fun ls => by
    induction ls with
    | nil => rfl
    | cons x r ih =>
      cases r with
      | nil => rfl
      | cons y r =>
        show mkS x ++ mkS s ++ Str.join (mkS s) ((y :: r).map mkS) = mkS (x ++ s ++ joinN s (y :: r))
        rw [ih, mkS_app, mkS_app]
  exact fun ls => (StrLaws.glued_eq_join (mkS s) _).trans (key ls)
/-- parted at a sign -/
def splitN (c : Nat) : List Nat → List (List Nat)
  | [] => [[]]
  | a :: l => if a = c then [] :: splitN c l else match splitN c l with
    | [] => [[a]]
    | p :: ps => (a :: p) :: ps
theorem splitN_cons (c a : Nat) (l : List Nat) : splitN c (a :: l) = if a = c then [] :: splitN c l else match splitN c l with
    | [] => [[a]]
    | p :: ps => (a :: p) :: ps := rfl
theorem splitN_free {c : Nat} : ∀ {l : List Nat}, c ∉ l → splitN c l = [l]
  | [], _ => rfl
  | a :: l, h => by
    simp only [List.mem_cons, not_or] at h
    unfold splitN
    rw [if_neg (Ne.symm h.1), splitN_free h.2]
theorem splitN_app {c : Nat} : ∀ {p : List Nat} (l : List Nat), c ∉ p → splitN c (p ++ c :: l) = p :: splitN c l
  | [], l, _ => by simp [splitN]
  | a :: p, l, h => by
    simp only [List.mem_cons, not_or] at h
    rw [List.cons_append, splitN_cons, if_neg (Ne.symm h.1), splitN_app l h.2]
theorem splitN_join {c : Nat} : ∀ {ps : List (List Nat)}, ps ≠ [] → (∀ p ∈ ps, c ∉ p) → splitN c (joinN [c] ps) = ps
  | [], h, _ => absurd rfl h
  | [p], _, h => splitN_free (h p (by simp))
  | p :: q :: r, _, h => by
    show splitN c (p ++ [c] ++ joinN [c] (q :: r)) = _
    rw [List.append_assoc, List.singleton_append, splitN_app _ (h p (by simp)), splitN_join (by simp) fun x m => h x (List.mem_cons_of_mem _ m)]
theorem split_ne (x : Str) (c : Nat) : Txt.split x ⟨#[c]⟩ ≠ [] := by
  unfold Txt.split
  split
  · simp
  · split
    · simp
    · obtain ⟨p, r, e⟩ := StrLaws.partsFrom_ne x (⟨#[c]⟩ : Str).length 0 (Builtin.Str.occurrences x ⟨#[c]⟩ 0 x.length (x.length + 1))
      rw [StrLaws.partsBetween_eq, e]
      simp
theorem split_mk (c : Nat) (l : List Nat) : Txt.split (mkS l) ⟨#[c]⟩ = (splitN c l).map mkS := by
  have e1 := StrLaws.join_split (mkS l) ⟨#[c]⟩
  have e2 := StrLaws.split_free (mkS l) c
  have e3 := split_ne (mkS l) c
  revert e1 e2 e3
  generalize Txt.split (mkS l) ⟨#[c]⟩ = ps
  intro e1 e2 e3
  have em : ps = (ps.map fun p => p.cps.toList).map mkS := by
    rw [List.map_map]
    conv => lhs; rw [← List.map_id ps]
    exact List.map_congr_left fun p _ => (mkS_of p).symm
  have ej : joinN [c] (ps.map fun p => p.cps.toList) = l := by
    have := join_mk [c] (ps.map fun p => p.cps.toList)
    rw [← em] at this
    have t2 : Txt.join (mkS [c]) ps = mkS l := (StrLaws.glued_eq_join (mkS [c]) _).trans e1
    rw [t2] at this
    exact (mkS_inj this).symm
  have := splitN_join (c := c) (ps := ps.map fun p => p.cps.toList) (by simpa using e3) fun p m => by
    obtain ⟨q, mq, rfl⟩ := List.mem_map.mp m
    exact e2 q mq
  rw [ej] at this
  rw [this, ← em]
/-! evaluation -/
theorem fmtM_a (f : EM) (r : Rho) : fmtM f r = (f r).bind fun p => (fmtT p.1).map fun y => (.str y, p.2) := (rfl)
theorem jsM_a (fs : List EM) (r : Rho) : jsM fs r = (jsL fs Str.empty r).map fun p => (.str p.1, p.2) := (rfl)
theorem jsL_nil (acc : Str) (r : Rho) : jsL [] acc r = some (acc, r) := (rfl)
def strV : D → Option Str
  | .str y => some y
  | _ => none
theorem strV_s (y : Str) : strV (.str y) = some y := (rfl)
theorem jsL_cons (f : EM) (fs : List EM) (acc : Str) (r : Rho) : jsL (f :: fs) acc r = (f r).bind fun p => (strV p.1).bind fun y => guard' (szOk (acc ++ y).length) fun _ => jsL fs (acc ++ y) p.2 := by
  show (f r).bind _ = (f r).bind _
  congr 1; funext p
  obtain ⟨d, r1⟩ := p
  cases d with
  | str y =>
    cases h : szOk (acc ++ y).length <;> simp [strV, guard', h]
  | _ => rfl
theorem splitM_a (f g : EM) (r : Rho) : splitM f g r = (f r).bind fun p => (g p.2).bind fun q => (splitV p.1 q.1).map fun ds => (ds, q.2) := (rfl)
theorem splitV_tx (l : List Nat) (c : Nat) (h : l.length ≤ 1000000) : splitV (tx l) (tx [c]) = some ((splitN c l).map tx) := by
  have hz : szOk (mkS l).length = true := by rw [mkS_len]; exact szOk_of h
  show (if ((mkS [c]).length == 0) = false ∧ szOk (mkS l).length = true then _ else _) = _
  rw [if_pos ⟨rfl, hz⟩]
  congr 1
  rw [show (mkS [c]) = ⟨#[c]⟩ from rfl, split_mk, List.map_map]
  rfl
theorem inSB_tx (c : Nat) (l : List Nat) : inSB (tx [c]) (tx l) = some (decide (c ∈ l)) := by
  show some (decide (c ∈ (mkS l).cps.toList)) = _
  rw [mkS_list]
theorem notInSB_tx (c : Nat) (l : List Nat) : notInSB (tx [c]) (tx l) = some (!decide (c ∈ l)) := by
  show (inSB (tx [c]) (tx l)).map _ = _
  rw [inSB_tx]; rfl
theorem seqSM_a (f : EM) (r : Rho) : seqSM f r = (f r).bind fun p => (signsOf p.1).map fun ds => (ds, p.2) := (rfl)
theorem signsOf_tx (l : List Nat) : signsOf (tx l) = some (l.map fun c => tx [c]) := by
  show some ((mkS l).cps.toList.map _) = _
  rw [mkS_list]
theorem lenD_tx (l : List Nat) : lenD (tx l) = guard' (szOk l.length) fun _ => some (.int (l.length : Nat)) := by
  show (if szOk (mkS l).length = true then _ else _) = _
  rw [mkS_len]
  cases szOk l.length <;> rfl
theorem ixD_tx (l : List Nat) (i : Int) : ixD (tx l) (.int i) = guard' (szOk l.length) fun _ => (atI l i).map fun c => tx [c] := by
  show (if szOk (mkS l).length = true then _ else _) = _
  rw [mkS_len, mkS_list]
  cases szOk l.length <;> rfl
theorem addD_tx (a b : List Nat) : addD (tx a) (tx b) = guard' (szOk (a.length + b.length)) fun _ => some (tx (a ++ b)) := by
  show (if szOk ((mkS a).length + (mkS b).length) = true then some (PyData.str (mkS a ++ mkS b)) else none) = _
  rw [mkS_len, mkS_len, mkS_app]
  cases szOk (a.length + b.length) <;> rfl
theorem mkS_app' (a b : List Nat) : mkS a ++ mkS b = mkS (a ++ b) := mkS_app a b
theorem empty_app (a : List Nat) : Str.empty ++ mkS a = mkS a := by
  rw [show Str.empty = mkS [] from rfl, mkS_app]; rfl
theorem mkS_length (l : List Nat) : (mkS l).length = l.length := mkS_len l
end DL
local macro_rules | `(tactic| simp_arith [$xs,*]) => `(tactic| simp (maxSteps := 2000000) (disch := omega) only [DL.ob_some, DL.om_some, DL.dat_d, DL.lis_l, DL.dic_m, DL.gt_0, DL.gt_1, DL.gt_2, DL.gt_3, DL.gt_4, DL.gt_5, DL.gt_6, DL.gt_7, DL.gt_b, DL.st_0, DL.st_s, DL.plG_d, DL.plG_n, DL.plainAt_a, DL.varM_a, DL.ownM_a, DL.cM_a, DL.ofL_a, DL.opM_a, DL.opOwnM_a, DL.unM_a, DL.truM_a, DL.tstM_a, DL.notM_a, DL.cnd_t, DL.cnd_f, DL.andM_a, DL.orM_a, DL.andVM_a, DL.orVM_a, DL.notVM_a, DL.iteM_a, DL.chM_a, DL.nilM_a, DL.consM_a, DL.guard_tt, DL.tupM_a, DL.lstM_a, DL.noM_a, DL.intV_i, DL.someM_a, DL.slM_a, DL.rng1M_a, DL.rng2M_a, DL.zipV_t, DL.zipV_l, DL.zipM_a, DL.seqM_a, DL.callM_a, DL.hereM_a, DL.callRM_a, DL.appM_a, DL.lisV_l, DL.extM_a, DL.popM_a, DL.popAtM_a, DL.newDM_a, DL.putM_a, DL.lenDM_a, DL.sortDM_a, DL.nameG_a, DL.nilG_a, DL.consG_a, DL.tupG_a, DL.seqS_a, DL.seqK_nx, DL.seqK_rt, DL.seqK_ct, DL.skipM_a, DL.asgM_a, DL.asgG_a, DL.newM_a, DL.asgLM_a, DL.retM_a, DL.exprM_a, DL.ifM_a, DL.forM_a, DL.frzM_a, DL.runF_a, DL.finF_rt, DL.finF_nx, DL.runR_a, DL.finR_rt, DL.finR_nx, DL.sz_0, DL.sz_1, DL.sz_2, DL.sz_3, DL.sz_4, DL.sz_5, DL.sz_6, DL.sz_7, DL.sz_8, DL.sz_9, DL.sz_10, DL.sz_11, DL.sz_12, DL.sz_13, DL.sz_14, DL.sz_15, DL.sz_16, DL.sz_17, DL.sz_18, DL.sz_19, DL.sz_20, DL.sz_21, DL.sz_22, DL.sz_23, DL.sz_24, DL.sz_25, DL.sz_26, DL.sz_27, DL.sz_28, DL.sz_29, DL.sz_30, DL.nc_0, DL.nc_1, DL.nc_2, DL.nc_3, DL.nc_4, DL.nc_5, DL.nc_6, DL.nc_7, DL.nc_8, DL.nc_9, DL.nc_10, DL.nc_11, DL.nc_12, DL.nc_13, DL.nc_14, DL.nc_15, DL.nc_16, DL.nc_17, DL.nc_18, DL.nc_19, DL.nc_20, DL.nc_21, DL.nc_22, DL.nc_23, DL.nc_24, DL.nc_25, DL.nc_26, DL.nc_27, DL.nc_28, DL.nc_29, DL.nc_30, DL.addD_i, DL.addD_t, DL.addD_l, DL.subD_i, DL.modD_i, DL.fdivD_i, DL.mulD_i, DL.lenD_t, DL.lenD_l, DL.tupleD_t, DL.tupleD_l, DL.truD_i, DL.truD_b, DL.truD_n, DL.truD_l, DL.truD_t, DL.ixD_t, DL.ixD_l, DL.negD_i, DL.bD_a, DL.ltB_i, DL.leB_i, DL.eqB_i, DL.neB_i, DL.min2D_i, DL.max2D_i, DL.items_t, DL.items_l, DL.intD_b, DL.isNN, DL.slD_t, DL.slD_l, DL.sortD2_l, DL.sortD2_t, DL.p_ge0, DL.p_geS, DL.p_tk0, DL.p_tkS, DL.p_tkN, DL.p_dr0, DL.p_drS, DL.p_drN, DL.p_mpC, DL.p_mpN, DL.p_apC, DL.p_apN, DL.p_lnC, DL.p_lnN, DL.p_rpS, DL.p_rp0, DL.p_alC, DL.p_alN, DL.p_gdS, DL.p_gdN, DL.p_tlS, DL.p_tlN, DL.p_ieC, DL.p_ieN, DL.p_nt, DL.p_nf, DL.p_atb, DL.p_afb, DL.p_abt, DL.p_abf, DL.p_eqS, DL.p_dT, DL.p_dF, DL.p_TA, DL.p_AT, DL.p_TO, DL.p_OT, DL.p_startD, DL.p_startR, DL.forK_nx, DL.forK_ct, DL.forK_rt, DL.yesM_a, DL.it1_a, DL.compM_a, DL.wipeR_c, DL.wipeR_n, DL.restR_c, DL.restR_n, DL.gtD_i, DL.gtD_T, DL.ob_assoc, DL.om_bind, DL.ob_map, DL.om_map, DL.cnd_bind, DL.cnd_map, DL.guard_bind, DL.guard_map, DL.atI_c0, DL.atI_c1, DL.atI_c2, DL.atI_c3, DL.encN_0, DL.encN_1, DL.encN_2, DL.encN_u, DL.eq_TI, DL.ne_TI, DL.in_I, DL.in_Il, DL.in_T, DL.in_R, DL.notInB_a, DL.enumM_a, DL.exM_a, DL.seqK_ex, DL.finF_ex, DL.forK_ex, DL.tri_no, DL.trm_no, DL.atI_neg1, DL.wipO_nx, DL.wipO_ct, DL.wipO_bk, DL.wipO_rt, DL.wipO_ex, DL.wipM_a, DL.preM_a, DL.two_a, DL.parLM_a, DL.finR_ex, DL.len_map, DL.len_app, DL.len_ir, DL.len_rev, DL.sz_c, DL.rng_c, DL.rngL_n, DL.forM_a', DL.rev_map, DL.seqK_bk, DL.forK_bk, DL.enum_m, DL.emp_map, PG.Sq_failing_1_a, PG.Sq_failing_2_a, PG.Sq_twins_1_a, PG.Sq_twins_2_a, PG.Sq_suspects_1_a, PG.Sq_suspects_2_a, PG.Sq_the_one_1_a, PG.Sq_cases_1_a, PG.Sq_split_1_a, PG.Sq_shortest_1_a, PG.Sq_shortest_2_a, PG.Sq_written_1_a, PG.Sq_tie_in_1_a, PG.Sq_read_1_a, PG.Sq_read_2_a, PG.Sq_read_3_a, PG.Sq_read_4_a, DL.eq_LI, DL.ne_LI, DL.eq_LI0, DL.ne_LI0, DL.eq_LT, DL.ne_LT, DL.eq_LR, DL.ne_LR, DL.eq_TR, DL.ne_TR, DL.eq_B, DL.ne_B, DL.wp_mapE, DL.map_id_int, DL.cut_f, DL.cut_t, DL.cut_f1, DL.map_drop', DL.map_take', DL.map_app', DL.len_zip, DL.inDM_a, DL.dkOf_i, DL.sortIM_a, DL.newDispM_a, DL.keyOf_i, DL.whileK_nx, PG.anyD_map, PG.allD_map', PG.enum_ir, DL.wipX_a, DL.ifX_a, DL.grpX_a, DL.appX_a, DL.forX_a, DL.ifC_a, DL.exprC_a, DL.llM_a, DL.llK_0, PG.eq_BB, PG.ne_BB, PG.allT_t, DL.runX_a, DL.finX_rt, DL.finX_ex, DL.finX_nx, DL.isN_i, DL.isNotN_i, DL.isNotN_n, DL.rngL_g1, DL.ow_k, DL.as_k, DL.flag_k, DL.callOM_a, DL.hereOM_a, DL.runO_a, DL.finO_rt, DL.finO_nx, DL.p_startO, DL.skr_s, DL.ow_s, DL.as_s, DL.flag_s, DL.netM_a, DL.toldM_a, DL.lastM_a, DL.setTM_a, DL.rowsAppM_a, DL.rowsPopM_a, DL.methM_a, DL.mkM_a, DL.newSM_a, DL.runOX_a, DL.finOX_rt, DL.finOX_nx, DL.finOX_ex, DL.finO_ex, DL.ow_l, DL.as_l, DL.flag_l, DL.methK_ok, DL.methK_er, DL.methX_a, PG.eq_OO, PG.ne_OO, PG.in_O, FA.isNot_bb, DL.eq_NN, DL.ne_NN, DL.eq_TT, DL.ne_TT, DL.eq_TT0, DL.ne_TI0, DL.eq_TI0, DL.fmtM_a, DL.jsM_a, DL.jsL_nil, DL.strV_s, DL.jsL_cons, DL.splitM_a, DL.inSB_tx, DL.notInSB_tx, DL.seqSM_a, DL.signsOf_tx, DL.lenD_tx, DL.ixD_tx, DL.addD_tx, DL.mkS_app', DL.empty_app, DL.mkS_length, Nat.reduceAdd, Nat.reduceSub, Nat.reduceMul, Int.reduceLT, Int.reduceLE, Int.reducePow, Int.reduceNeg, Int.reduceAdd, Int.reduceSub, Int.reduceMul, Int.reduceBEq, Int.reduceBNe, Int.reduceToNat, $xs,*])
namespace PG
open PySem L2 DL GT RX
/-! nets as texts -/
theorem s_semi : PyData.str (Str.ofString ";") = tx [59] := congrArg PyData.str (by decide +kernel : Str.ofString ";" = mkS [59])
end PG
local macro_rules | `(tactic| simp_arith [$xs,*]) => `(tactic| simp (maxSteps := 2000000) (disch := omega) only [PG.Sq_failing_1_a, PG.Sq_failing_2_a, PG.Sq_twins_1_a, PG.Sq_twins_2_a, PG.Sq_suspects_1_a, PG.Sq_suspects_2_a, PG.Sq_the_one_1_a, PG.Sq_cases_1_a, PG.Sq_split_1_a, PG.Sq_shortest_1_a, PG.Sq_shortest_2_a, PG.Sq_written_1_a, PG.Sq_tie_in_1_a, PG.Sq_read_1_a, PG.Sq_read_2_a, PG.Sq_read_3_a, PG.Sq_read_4_a, FB.Sq__law_draw_1_a, FB.Sq__law_draw_2_a, FB.Sq__law_draw_3_a, FB.Sq__law_draw_4_a, FB.Sq__law_draw_5_a, FB.Sq__law_draw_6_a, FB.Sq__law_net_1_a, FB.Sq__law_net_2_a, FB.Sq__law_net_3_a, FB.Sq__law_net_4_a, SK.Sq_Seeker__tell_1_a, SK.Sq_Seeker__tell_2_a, SK.Sq_Seeker__tell_3_a, SK.Sq_Seeker__tell_4_a, SK.Sq_Seeker__back_1_a, L_k38.Sq_law_1_a, L_k38.Sq_law_2_a, L_k38.Sq_law_3_a, L_k38.Sq_law_4_a, L_k38.Sq_law_5_a, L_k38.Sq_law_6_a, L_k38.Sq_law_7_a, L_k38.Sq_law_8_a, L_k38.Sq_law_9_a, L_k38.Sq_law_10_a, L_k38.Sq_law_11_a, L_k38.Sq_law_12_a, L_k38.Sq_law_13_a, L_k38.Sq_law_14_a, DL.ob_some, DL.om_some, DL.dat_d, DL.lis_l, DL.dic_m, DL.gt_0, DL.gt_1, DL.gt_2, DL.gt_3, DL.gt_4, DL.gt_5, DL.gt_6, DL.gt_7, DL.gt_b, DL.st_0, DL.st_s, DL.plG_d, DL.plG_n, DL.plainAt_a, DL.varM_a, DL.ownM_a, DL.cM_a, DL.ofL_a, DL.opM_a, DL.opOwnM_a, DL.unM_a, DL.truM_a, DL.tstM_a, DL.notM_a, DL.cnd_t, DL.cnd_f, DL.andM_a, DL.orM_a, DL.andVM_a, DL.orVM_a, DL.notVM_a, DL.iteM_a, DL.chM_a, DL.nilM_a, DL.consM_a, DL.guard_tt, DL.tupM_a, DL.lstM_a, DL.noM_a, DL.intV_i, DL.someM_a, DL.slM_a, DL.rng1M_a, DL.rng2M_a, DL.zipV_t, DL.zipV_l, DL.zipM_a, DL.seqM_a, DL.callM_a, DL.hereM_a, DL.callRM_a, DL.appM_a, DL.lisV_l, DL.extM_a, DL.popM_a, DL.popAtM_a, DL.newDM_a, DL.putM_a, DL.lenDM_a, DL.sortDM_a, DL.nameG_a, DL.nilG_a, DL.consG_a, DL.tupG_a, DL.seqS_a, DL.seqK_nx, DL.seqK_rt, DL.seqK_ct, DL.skipM_a, DL.asgM_a, DL.asgG_a, DL.newM_a, DL.asgLM_a, DL.retM_a, DL.exprM_a, DL.ifM_a, DL.forM_a, DL.frzM_a, DL.runF_a, DL.finF_rt, DL.finF_nx, DL.runR_a, DL.finR_rt, DL.finR_nx, DL.sz_0, DL.sz_1, DL.sz_2, DL.sz_3, DL.sz_4, DL.sz_5, DL.sz_6, DL.sz_7, DL.sz_8, DL.sz_9, DL.sz_10, DL.sz_11, DL.sz_12, DL.sz_13, DL.sz_14, DL.sz_15, DL.sz_16, DL.sz_17, DL.sz_18, DL.sz_19, DL.sz_20, DL.sz_21, DL.sz_22, DL.sz_23, DL.sz_24, DL.sz_25, DL.sz_26, DL.sz_27, DL.sz_28, DL.sz_29, DL.sz_30, DL.nc_0, DL.nc_1, DL.nc_2, DL.nc_3, DL.nc_4, DL.nc_5, DL.nc_6, DL.nc_7, DL.nc_8, DL.nc_9, DL.nc_10, DL.nc_11, DL.nc_12, DL.nc_13, DL.nc_14, DL.nc_15, DL.nc_16, DL.nc_17, DL.nc_18, DL.nc_19, DL.nc_20, DL.nc_21, DL.nc_22, DL.nc_23, DL.nc_24, DL.nc_25, DL.nc_26, DL.nc_27, DL.nc_28, DL.nc_29, DL.nc_30, DL.addD_i, DL.addD_t, DL.addD_l, DL.subD_i, DL.modD_i, DL.fdivD_i, DL.mulD_i, DL.lenD_t, DL.lenD_l, DL.tupleD_t, DL.tupleD_l, DL.truD_i, DL.truD_b, DL.truD_n, DL.truD_l, DL.truD_t, DL.ixD_t, DL.ixD_l, DL.negD_i, DL.bD_a, DL.ltB_i, DL.leB_i, DL.eqB_i, DL.neB_i, DL.min2D_i, DL.max2D_i, DL.items_t, DL.items_l, DL.intD_b, DL.isNN, DL.slD_t, DL.slD_l, DL.sortD2_l, DL.sortD2_t, DL.p_ge0, DL.p_geS, DL.p_tk0, DL.p_tkS, DL.p_tkN, DL.p_dr0, DL.p_drS, DL.p_drN, DL.p_mpC, DL.p_mpN, DL.p_apC, DL.p_apN, DL.p_lnC, DL.p_lnN, DL.p_rpS, DL.p_rp0, DL.p_alC, DL.p_alN, DL.p_gdS, DL.p_gdN, DL.p_tlS, DL.p_tlN, DL.p_ieC, DL.p_ieN, DL.p_nt, DL.p_nf, DL.p_atb, DL.p_afb, DL.p_abt, DL.p_abf, DL.p_eqS, DL.p_dT, DL.p_dF, DL.p_TA, DL.p_AT, DL.p_TO, DL.p_OT, DL.p_startD, DL.p_startR, DL.forK_nx, DL.forK_ct, DL.forK_rt, DL.yesM_a, DL.it1_a, DL.compM_a, DL.wipeR_c, DL.wipeR_n, DL.restR_c, DL.restR_n, DL.gtD_i, DL.gtD_T, DL.ob_assoc, DL.om_bind, DL.ob_map, DL.om_map, DL.cnd_bind, DL.cnd_map, DL.guard_bind, DL.guard_map, DL.atI_c0, DL.atI_c1, DL.atI_c2, DL.atI_c3, DL.encN_0, DL.encN_1, DL.encN_2, DL.encN_u, DL.eq_TI, DL.ne_TI, DL.in_I, DL.in_Il, DL.in_T, DL.in_R, DL.notInB_a, DL.enumM_a, DL.exM_a, DL.seqK_ex, DL.finF_ex, DL.forK_ex, DL.tri_no, DL.trm_no, DL.atI_neg1, DL.wipO_nx, DL.wipO_ct, DL.wipO_bk, DL.wipO_rt, DL.wipO_ex, DL.wipM_a, DL.preM_a, DL.two_a, DL.parLM_a, DL.finR_ex, DL.len_map, DL.len_app, DL.len_ir, DL.len_rev, DL.sz_c, DL.rng_c, DL.rngL_n, DL.forM_a', DL.rev_map, DL.seqK_bk, DL.forK_bk, DL.enum_m, DL.emp_map, DL.eq_LI, DL.ne_LI, DL.eq_LI0, DL.ne_LI0, DL.eq_LT, DL.ne_LT, DL.eq_LR, DL.ne_LR, DL.eq_TR, DL.ne_TR, DL.eq_B, DL.ne_B, DL.wp_mapE, DL.map_id_int, DL.cut_f, DL.cut_t, DL.cut_f1, DL.map_drop', DL.map_take', DL.map_app', DL.len_zip, DL.inDM_a, DL.dkOf_i, DL.sortIM_a, DL.newDispM_a, DL.keyOf_i, DL.whileK_nx, PG.anyD_map, PG.allD_map', PG.enum_ir, DL.wipX_a, DL.ifX_a, DL.grpX_a, DL.appX_a, DL.forX_a, DL.ifC_a, DL.exprC_a, DL.llM_a, DL.llK_0, PG.eq_BB, PG.ne_BB, PG.allT_t, DL.runX_a, DL.finX_rt, DL.finX_ex, DL.finX_nx, DL.isN_i, DL.isNotN_i, DL.isNotN_n, DL.rngL_g1, DL.ow_k, DL.as_k, DL.flag_k, DL.callOM_a, DL.hereOM_a, DL.runO_a, DL.finO_rt, DL.finO_nx, DL.p_startO, DL.skr_s, DL.ow_s, DL.as_s, DL.flag_s, DL.netM_a, DL.toldM_a, DL.lastM_a, DL.setTM_a, DL.rowsAppM_a, DL.rowsPopM_a, DL.methM_a, DL.mkM_a, DL.newSM_a, DL.runOX_a, DL.finOX_rt, DL.finOX_nx, DL.finOX_ex, DL.finO_ex, DL.ow_l, DL.as_l, DL.flag_l, DL.methK_ok, DL.methK_er, DL.methX_a, PG.eq_OO, PG.ne_OO, PG.in_O, FA.isNot_bb, DL.eq_NN, DL.ne_NN, DL.eq_TT, DL.ne_TT, DL.eq_TT0, DL.ne_TI0, DL.eq_TI0, DL.exprXM_a, DL.callOXM_a, DL.tryAM_a, DL.tryAK_nx, DL.tryAK_rt, DL.tryAK_ex, DL.fmtM_a, DL.jsM_a, DL.jsL_nil, DL.strV_s, DL.jsL_cons, DL.splitM_a, DL.inSB_tx, DL.notInSB_tx, DL.seqSM_a, DL.signsOf_tx, DL.lenD_tx, DL.ixD_tx, DL.addD_tx, DL.mkS_app', DL.empty_app, DL.mkS_length, Nat.reduceAdd, Nat.reduceSub, Nat.reduceMul, Int.reduceLT, Int.reduceLE, Int.reducePow, Int.reduceNeg, Int.reduceAdd, Int.reduceSub, Int.reduceMul, Int.reduceBEq, Int.reduceBNe, Int.reduceToNat, $xs,*])
namespace L_k38
open PySem L2 DL GT PG FB RX SK
theorem q_tie_tie : eqB (.str "tie") (.str "tie") = some true := by decide +kernel
theorem q_shortest_tie : eqB (.str "shortest") (.str "tie") = some false := by decide +kernel
theorem q_shortest_shortest : eqB (.str "shortest") (.str "shortest") = some true := by decide +kernel
theorem q_one_tie : eqB (.str "one") (.str "tie") = some false := by decide +kernel
theorem q_one_shortest : eqB (.str "one") (.str "shortest") = some false := by decide +kernel
theorem q_one_one : eqB (.str "one") (.str "one") = some true := by decide +kernel
theorem q_tell_tie : eqB (.str "tell") (.str "tie") = some false := by decide +kernel
theorem q_tell_shortest : eqB (.str "tell") (.str "shortest") = some false := by decide +kernel
theorem q_tell_one : eqB (.str "tell") (.str "one") = some false := by decide +kernel
theorem q_tell_tell : eqB (.str "tell") (.str "tell") = some true := by decide +kernel
theorem q_back_tie : eqB (.str "back") (.str "tie") = some false := by decide +kernel
theorem q_back_shortest : eqB (.str "back") (.str "shortest") = some false := by decide +kernel
theorem q_back_one : eqB (.str "back") (.str "one") = some false := by decide +kernel
theorem q_back_tell : eqB (.str "back") (.str "tell") = some false := by decide +kernel
theorem q_back_back : eqB (.str "back") (.str "back") = some true := by decide +kernel
theorem q_read_tie : eqB (.str "read") (.str "tie") = some false := by decide +kernel
theorem q_read_shortest : eqB (.str "read") (.str "shortest") = some false := by decide +kernel
theorem q_read_one : eqB (.str "read") (.str "one") = some false := by decide +kernel
theorem q_read_tell : eqB (.str "read") (.str "tell") = some false := by decide +kernel
theorem q_read_back : eqB (.str "read") (.str "back") = some false := by decide +kernel
theorem c_tie : rs_errs.contains "NoTie" = true := by decide
theorem c_route : rs_errs.contains "NoRoute" = true := by decide
theorem c_susp : rs_errs.contains "NoSuspect" = true := by decide
theorem c_step : rs_errs.contains "NoStep" = true := by decide
theorem c_text : rs_errs.contains "NoText" = true := by decide
section
variable {N : Net} {t : List (List Int × Bool)}
/-! what each deed comes to -/
theorem tieX (a b : Int) : gX_tie_between [encN N, .int a, .int b] = some (if adj N a b = true then .ok (.int (idx N.ties (pr a b) : Nat)) else .error "NoTie") := by
  cases h : adj N a b with
  | true =>
    have m : (min a b, max a b) ∈ N.ties := of_decide_eq_true h
    unfold gX_tie_between b_tie_between N_tie_between
    simp_arith [m, idx_T m]
    rfl
  | false =>
    have m : (min a b, max a b) ∉ N.ties := of_decide_eq_false h
    unfold gX_tie_between b_tie_between N_tie_between
    simp_arith [decide_eq_false m]
    rfl
theorem the_oneX {ps : List (List Int)} (h : Probes N ps) (ht : N.ties.length ≤ 900) (sh : List Bool) (no : (suspL N ps sh).length ≠ 1 ∨ (suspL N ps sh).head? = some none) :
    gX_the_one [encN N, TR ps, encB sh] = some (.error "NoSuspect") := by
  have e1 := suspects_eval h ht sh
  unfold gX_the_one b_the_one N_the_one
  match q : suspL N ps sh with
  | [] =>
    rw [q] at e1
    have e1' : g_suspects [encN N, TR ps, encB sh] = some (.tuple []) := e1
    simp_arith [e1']
  | [none] =>
    rw [q] at e1
    have e1' : g_suspects [encN N, TR ps, encB sh] = some (.tuple [.none]) := e1
    simp_arith [e1']
  | [some i] =>
    rw [q] at no
    simp at no
  | a :: b :: l =>
    rw [q] at e1
    have e1' : g_suspects [encN N, TR ps, encB sh] = some (.tuple (encO a :: encO b :: l.map encO)) := e1
    have c : ((((l.map encO).length + 1 + 1 : Nat) : Int) == 1) = false := by
      rw [beq_eq_false_iff_ne]; omega
    rw [List.length_map] at c
    simp_arith [e1', c]
theorem readX : gX_read [.str "x"] = some (.error "NoText") := by
  have e0 : PyData.str (Str.ofString "x") = tx [120] := congrArg PyData.str (by decide +kernel : Str.ofString "x" = mkS [120])
  have sp : splitV (tx [120]) (tx [59]) = some [tx [120]] := splitV_tx [120] 59 (by decide)
  show gX_read [PyData.str (Str.ofString "x")] = _
  rw [e0]
  unfold gX_read b_read N_read
  simp_arith [s_semi, sp]
theorem plain_tie (a b : Int) : gX__law_plain [.str "tie", encN N, .int a, .int b] (encS true N t) = some (if adj N a b = true then .ok .none else .error "NoTie", encS true N t) := by
  have e := tieX (N := N) a b
  unfold gX__law_plain b__law_plain N__law_plain encS
  cases h : adj N a b <;> rw [h] at e
  · rw [if_neg (by simp)] at e; simp_arith [q_tie_tie, e]; rfl
  · rw [if_pos rfl] at e; simp_arith [q_tie_tie, e]; rfl
theorem plain_short (w : N.WF) (a b : Int) : gX__law_plain [.str "shortest", encN N, .int a, .int b] (encS true N t) = some (if between N a b = [] then .error "NoRoute" else .ok .none, encS true N t) := by
  have e : gX_shortest [encN N, .int a, .int b] = _ := shortX w a b
  unfold gX__law_plain b__law_plain N__law_plain encS
  by_cases h : between N a b = []
  · rw [if_pos h] at e; rw [if_pos h]; simp_arith [q_shortest_tie, q_shortest_shortest, e]
  · rw [if_neg h] at e; rw [if_neg h]; simp_arith [q_shortest_tie, q_shortest_shortest, e]
theorem plain_one (ht : N.ties.length ≤ 900) : gX__law_plain [.str "one", encN N, .tuple [], .tuple []] (encS true N t) = some (.error "NoSuspect", encS true N t) := by
  have pr : Probes N [] := ⟨by simp, by simp⟩
  have e : gX_the_one [encN N, .tuple [], .tuple []] = some (.error "NoSuspect") := the_oneX pr ht [] (by
    right
    unfold suspL
    simp)
  unfold gX__law_plain b__law_plain N__law_plain encS
  simp_arith [q_one_tie, q_one_shortest, q_one_one, e]
theorem plain_tell {d v : D} {o : Except String D} {t' : List (List Int × Bool)} (h : gX_Seeker__tell [d, v] (encS true N t) = some (o, encS true N t')) : gX__law_plain [.str "tell", encN N, d, v] (encS true N t) = some (match o with | .ok _ => .ok .none | .error c => .error c, encS true N t') := by
  unfold gX__law_plain b__law_plain N__law_plain
  unfold encS at h ⊢
  cases o <;> simp_arith [q_tell_tie, q_tell_shortest, q_tell_one, q_tell_tell, h]
theorem plain_back {d v : D} {o : Except String D} {t' : List (List Int × Bool)} (h : gX_Seeker__back [] (encS true N t) = some (o, encS true N t')) : gX__law_plain [.str "back", encN N, d, v] (encS true N t) = some (match o with | .ok _ => .ok .none | .error c => .error c, encS true N t') := by
  unfold gX__law_plain b__law_plain N__law_plain
  unfold encS at h ⊢
  cases o <;> simp_arith [q_back_tie, q_back_shortest, q_back_one, q_back_tell, q_back_back, h]
theorem plain_read {v : D} : gX__law_plain [.str "read", encN N, .str "x", v] (encS true N t) = some (.error "NoText", encS true N t) := by
  have e := readX
  unfold gX__law_plain b__law_plain N__law_plain encS
  simp_arith [q_read_tie, q_read_shortest, q_read_one, q_read_tell, q_read_back, e]
/-- what is told of it -/
def kE : Except String D → D
  | .ok _ => .none
  | .error c => kD__law_kind c
theorem told_of {d e f : D} {o : Except String D} {t' : List (List Int × Bool)} (ok : ∀ c, o = .error c → rs_errs.contains c = true) (h : gX__law_plain [f, encN N, d, e] (encS true N t) = some (o, encS true N t')) : g__law_told [f, encN N, d, e] (encS true N t) = some (kE o, encS true N t') := by
  unfold g__law_told b__law_told N__law_told
  unfold encS at h ⊢
  cases o with
  | ok x => simp_arith [h]; rfl
  | error c => simp_arith [h, ok c rfl]; rfl
theorem due_eval : g__law_due [.none] = some .none ∧ g__law_due [.int 0] = some (kD__law_kind "NoTie") ∧ g__law_due [.int 1] = some (kD__law_kind "NoRoute") ∧ g__law_due [.int 2] = some (kD__law_kind "NoSuspect") ∧ g__law_due [.int 3] = some (kD__law_kind "NoStep") ∧ g__law_due [.int 4] = some (kD__law_kind "NoText") := by
  have i0 : isB .none .none = some true := rfl
  have i1 : ∀ i : Int, isB (.int i) .none = some false := fun _ => rfl
  have e5 : rngL 0 5 = (ir 5).map .int := rngL_ir 5
  have key : ∀ k : Int, g__law_due [.int k] = some (.tuple [.list ((ir 5).map fun i => .int (if (i == k) = true then 1 else 0)), .bool true]) := fun k => by
    refine wp_val ?_
    unfold g__law_due b__law_due N__law_due
    simp_arith [i1, e5]
    refine wp_cmap (fun i => .int (if (i == k) = true then 1 else 0)) (fun i _ => ?_) ?_
    · unfold Ce__law_due_1
      simp_arith [DL.p_nt]
      exact wp_ok rfl
    · simp_arith [DL.p_nt]
      exact wp_ok rfl
  refine ⟨?_, ?_, ?_, ?_, ?_, ?_⟩
  · unfold g__law_due b__law_due N__law_due
    simp_arith [i0]
  · rw [key]; simp [ir, kD__law_kind, kL__law_kind, List.range, List.range.loop]
  · rw [key]; simp [ir, kD__law_kind, kL__law_kind, List.range, List.range.loop]
  · rw [key]; simp [ir, kD__law_kind, kL__law_kind, List.range, List.range.loop]
  · rw [key]; simp [ir, kD__law_kind, kL__law_kind, List.range, List.range.loop]
  · rw [key]; simp [ir, kD__law_kind, kL__law_kind, List.range, List.range.loop]
end
end L_k38
namespace L_k38
open PySem L2 DL GT PG FB RX SK
theorem shp_kind (c : String) : Shp 4 (kD__law_kind c) := by
  unfold kD__law_kind
  refine Shp.tup (k := 3) fun d m => ?_
  simp only [List.mem_cons, List.not_mem_nil, or_false] at m
  rcases m with rfl | rfl
  · refine Shp.lst (k := 2) fun d m => ?_
    simp only [kL__law_kind, List.mem_cons, List.not_mem_nil, or_false] at m
    rcases m with rfl | rfl | rfl | rfl | rfl <;> exact (Shp.int _).mono
  · exact (Shp.bool true).mono
theorem ne_kind (c : String) : neB (kD__law_kind c) (kD__law_kind c) = some false := ne_same (shp_kind c).shaped
theorem ne_none : neB .none .none = some false := rfl
theorem btw_iff {N : Net} (w : N.WF) {a b : Int} (ab : a ≠ b) (ra : a ∈ N.rim) (rb : b ∈ N.rim) : between N a b = [] ↔ ¬ Reach N a b := by
  rcases Int.lt_or_gt_of_ne ab with h | h
  · exact between_nil w h ra rb
  · rw [between_comm]
    exact (between_nil w h rb ra).trans (not_congr ⟨Reach.symm, Reach.symm⟩)
def befD (N : Net) : D := .tuple [encR (casesL N), .tuple []]
theorem ne_bef (N : Net) : neB (befD N) (befD N) = some false := by
  refine ne_same (Shp.shaped (k := 5) ?_)
  unfold befD
  refine Shp.tup (k := 4) fun d m => ?_
  simp only [List.mem_cons, List.not_mem_nil, or_false] at m
  rcases m with rfl | rfl
  · exact (Shp.of (encF_tup encF_opt) (casesL N)).mono
  · exact (Shp.tup (k := 0) (by simp)).mono
abbrev stA (ns : List Int) (tw : List D) (x2 : Option SV) (N : Net) (x6 : Option SV) : Rho := [some (.d (SC ns)), some (.l false tw), x2, some (.d (encN N)), some (encS false N []), some (.d (befD N)), x6, none, none, none, none]
section
variable {ns : List Int} {tw : List D} {x2 : Option SV} {N : Net}
set_option maxHeartbeats 4000000 in
theorem tieT (w : N.WF) (a b : Int) : wp ((nameG 7 (stA ns tw x2 N (some (.d (.int a)))) (.int b)).bind F_law_1) (goesOn (· = stA ns tw x2 N (some (.d (.int a))))) := by
  obtain ⟨d0, d1, d2, d3, d4, d5⟩ := due_eval
  have be := beside_eval w a
  have mn : decide (b ∈ nb N a) = adj N a b := by
    rw [Bool.eq_iff_iff, decide_eq_true_eq]
    exact mem_nb (w := w)
  have nn := ne_none
  have nk := ne_kind "NoTie"
  have to := told_of (N := N) (t := []) (o := if adj N a b = true then .ok .none else .error "NoTie") (by
    intro c e
    split at e
    · cases e
    · cases e; exact c_tie) (plain_tie (t := []) a b)
  have ab0 : (a == b) = decide (a = b) := by by_cases c : a = b <;> simp [c]
  unfold F_law_1 stA
  unfold encS at to ⊢
  rw [List.map_nil] at to ⊢
  cases h : adj N a b with
  | true =>
    rw [h] at to mn
    simp only [if_true, kE] at to
    by_cases c : a = b
    · simp_arith [be, mn, ab0, decide_eq_true c]
      exact wp_ok rfl
    · simp_arith [be, mn, ab0, decide_eq_false c, to, d0, nn]
      exact wp_ok rfl
  | false =>
    rw [h] at to mn
    simp only [Bool.false_eq_true, if_false, kE] at to
    by_cases c : a = b
    · simp_arith [be, mn, ab0, decide_eq_true c]
      exact wp_ok rfl
    · simp_arith [be, mn, ab0, decide_eq_false c, to, d1, nk]
      exact wp_ok rfl
set_option maxHeartbeats 4000000 in
theorem shortT (w : N.WF) (ht : N.ties.length ≤ 60) {a b : Int} (ra : a ∈ N.rim) (rb : b ∈ N.rim) : wp ((nameG 7 (stA ns tw x2 N (some (.d (.int a)))) (.int b)).bind F_law_3) (goesOn (· = stA ns tw x2 N (some (.d (.int a))))) := by
  obtain ⟨d0, d1, d2, d3, d4, d5⟩ := due_eval
  have ha := w.rimIn a ra
  have re := reached_nil w (by omega) ha
  have nn := ne_none
  have nk := ne_kind "NoRoute"
  have to := told_of (N := N) (t := []) (o := if between N a b = [] then .error "NoRoute" else .ok .none) (by
    intro c e
    split at e
    · cases e; exact c_route
    · cases e) (plain_short (t := []) w a b)
  have ab0 : (a == b) = decide (a = b) := by by_cases c : a = b <;> simp [c]
  unfold F_law_3 stA
  unfold encS at to ⊢
  rw [List.map_nil] at to ⊢
  by_cases q : b ∈ GT.reached N a
  · by_cases c : a = b
    · simp_arith [re, decide_eq_true q, d0, ab0, decide_eq_true c]
      exact wp_ok rfl
    · have h : ¬ between N a b = [] := fun e => (btw_iff w c ra rb).mp e ((mem_reached w ha).mp q)
      rw [if_neg h] at to
      simp only [kE] at to
      simp_arith [re, decide_eq_true q, d0, ab0, decide_eq_false c, to, nn]
      exact wp_ok rfl
  · by_cases c : a = b
    · simp_arith [re, decide_eq_false q, d2, ab0, decide_eq_true c]
      exact wp_ok rfl
    · have h : between N a b = [] := (btw_iff w c ra rb).mpr fun r => q ((mem_reached w ha).mpr r)
      rw [if_pos h] at to
      simp only [kE] at to
      simp_arith [re, decide_eq_false q, d2, ab0, decide_eq_false c, to, nk]
      exact wp_ok rfl
set_option maxHeartbeats 4000000 in
theorem tieR (w : N.WF) (a : Int) : wp ((nameG 6 (stA ns tw x2 N none) (.int a)).bind F_law_2) (goesOn (· = stA ns tw x2 N none)) := by
  have rn : rngL 0 (N.n : Int) = (ir N.n).map .int := rngL_ir _
  have := w.small
  unfold F_law_2 stA
  simp_arith [rn]
  refine wp_all (fun b _ => ?_) ?_
  · exact tieT w a b
  · simp_arith [DL.p_nt]
    exact wp_ok rfl
set_option maxHeartbeats 4000000 in
theorem shortR (w : N.WF) (ht : N.ties.length ≤ 60) {a : Int} (ra : a ∈ N.rim) : wp ((nameG 6 (stA ns tw x2 N none) (.int a)).bind F_law_4) (goesOn (· = stA ns tw x2 N none)) := by
  unfold F_law_4 stA
  simp_arith [DL.p_nt]
  refine wp_all (fun b mb => ?_) ?_
  · exact shortT w ht ra mb
  · simp_arith [DL.p_nt]
    exact wp_ok rfl
end
end L_k38
namespace L_k38
open PySem L2 DL GT PG FB RX SK
section
variable {ns : List Int} {tw : List D} {x2 : Option SV} {N : Net}
theorem left_true {r : List Int} (mr : r ∈ routes N) : leftL N [(r, true)] ≠ [] := fun e => by
  have m : none ∈ leftL N [(r, true)] := by
    unfold leftL
    rw [List.mem_filter]
    refine ⟨mem_cases.mpr (.inl rfl), ?_⟩
    simp [in_none]
  rw [e] at m
  simp at m
theorem left_false (r : List Int) : leftL N ([(r, true)] ++ [(r, false)]) = [] := by
  unfold leftL
  rw [List.filter_eq_nil_iff]
  intro o _
  cases h : inRow (tiesOf N r) o <;> simp [h]
set_option maxHeartbeats 8000000 in
theorem rest10 (w : N.WF) (ht : N.ties.length ≤ 60) (h : tw.length < 600000) : wp (Sq_law_10 (stA ns tw x2 N none)) (fun o => ∃ tw' : List D, tw'.length ≤ tw.length + 1 ∧ o = .nx (stA ns tw' x2 N none)) := by
  obtain ⟨d0, d1, d2, d3, d4, d5⟩ := due_eval
  have nn := ne_none
  have k1 := ne_kind "NoRoute"
  have k2 := ne_kind "NoSuspect"
  have k3 := ne_kind "NoStep"
  have k4 := ne_kind "NoText"
  have er : ∀ {c c' : String}, (Except.error c : Except String D) = .error c' → c = c' := fun e => by cases e; rfl
  have t1 := told_of (N := N) (t := []) (o := .error "NoSuspect") (fun c e => er e ▸ c_susp) (plain_one (t := []) (by omega))
  have t2 := told_of (N := N) (t := []) (o := .error "NoStep") (fun c e => er e ▸ c_step) (plain_back (d := .int 0) (v := .int 0) (back_no (N := N)))
  have no : isRouteB N [0] = false := by
    rw [Bool.eq_false_iff]
    intro c
    have := ((isRouteB_iff w).mp c).two
    simp at this
  have t3 := told_of (N := N) (t := []) (o := .error "NoRoute") (fun c e => er e ▸ c_route) (plain_tell (tell_no (told := []) w (r := [0]) (by simp) no true))
  have t4 := told_of (N := N) (t := []) (o := .error "NoText") (fun c e => er e ▸ c_text) (plain_read (t := []) (v := .int 0))
  have le0 := left_eval (N := N) (told := [])
  have hi0 := history_eval (N := N) (told := [])
  have nb := ne_bef N
  rw [leftL_nil] at le0
  have t3 : g__law_told [.str "tell", encN N, .tuple [.int 0], .bool true] (encS true N []) = _ := t3
  unfold befD at nb
  simp only [kE] at t1 t2 t3 t4
  unfold stA befD
  unfold encS at t1 t2 t3 t4 le0 hi0 ⊢
  rw [List.map_nil] at t1 t2 t3 t4 le0 hi0 ⊢
  by_cases q : routes N = []
  · have tr : truD (.tuple ((routes N).map TI)) = some false := by rw [q]; rfl
    simp_arith [t1, d3, k2, t2, d4, k3, t3, d2, k1, t4, d5, k4, le0, hi0, nb, routes_eval w, tr]
    exact wp_ok ⟨tw, by omega, rfl⟩
  · have tr : truD (.tuple ((routes N).map TI)) = some true := by
      cases e : routes N with
      | nil => exact absurd e q
      | cons a l => rfl
    obtain ⟨d', md, pe⟩ := pick_specT ns tw ((routes N).map TI) (by simpa using q) (by omega)
    obtain ⟨r, mr, rfl⟩ := List.mem_map.mp md
    have a1 := tell_core (told := []) w ht (by simp) mr true
    rw [List.nil_append, if_neg (left_true mr)] at a1
    have u1 := told_of (N := N) (t := []) (o := .ok .none) (fun c e => by cases e) (plain_tell a1)
    have a2 := tell_core (told := [(r, true)]) w ht (by simp) mr false
    rw [if_pos (left_false r)] at a2
    have u2 := told_of (N := N) (t := [(r, true)]) (o := .error "NoSuspect") (fun c e => er e ▸ c_susp) (plain_tell a2)
    have hi1 := history_eval (N := N) (told := [(r, true)])
    have a3 := back_ok (N := N) (told := []) (p := (r, true)) (by simp)
    have u3 := told_of (N := N) (t := [(r, true)]) (o := .ok .none) (fun c e => by cases e) (plain_back (d := .int 0) (v := .int 0) a3)
    have nh : neB (.tuple [.tuple [TI r, .bool true]]) (.tuple [.tuple [TI r, .bool true]]) = some false := (told_ne [(r, true)] [(r, true)]).trans (by simp)
    have i0 : isNotB .none .none = some false := rfl
    simp only [kE] at u1 u2 u3
    unfold encS at u1 u2 u3 hi1
    simp only [List.map_cons, List.map_nil] at u1 u2 u3 hi1
    unfold encT1 at u1 u2 u3 hi1
    simp_arith [t1, d3, k2, t2, d4, k3, t3, d2, k1, t4, d5, k4, le0, hi0, nb, routes_eval w, tr, pe, u1, i0, u2, hi1, nh, u3]
    exact wp_ok ⟨tw ++ [.int 0], by simp, rfl⟩
end
abbrev st38 (ns : List Int) (tw : List D) : Rho := [some (.d (SC ns)), some (.l false tw), none, none, none, none, none, none, none, none, none]
set_option maxHeartbeats 8000000 in
theorem turn {ns : List Int} (tw : List D) (h : tw.length < 500000) (a : Int) :
    wp ((nameG 2 (st38 ns tw) (.int a)).bind F_law_5) (goesOn fun r => ∃ tw' : List D, tw'.length ≤ tw.length + 300 ∧ r = st38 ns tw') := by
  obtain ⟨N, tw1, w, n2, n3, n4, n5, n6⟩ := net_spec ns tw 6 6 (by omega) (by omega) (by omega) (by omega)
  have n6' : g__law_net [SC ns, .int 6, .int 6] tw = some (encN N, tw1) := n6
  have small := w.small
  have ce : g_cases [encN N] = some (encR (casesL N)) := cases_eval w (by omega)
  have gi : gI_Seeker (encN N) = some (encR (casesL N)) := ce
  have r0 : rowsL N [] = [casesL N] := by unfold rowsL; simp [leftL_nil]
  have e0 : encS false N [] = .s false (encN N) (.tuple []) [encR (casesL N)] := by unfold encS; rw [r0]; rfl
  have le0 := left_eval (N := N) (told := [])
  have hi0 := history_eval (N := N) (told := [])
  rw [leftL_nil] at le0
  have rn : rngL 0 (N.n : Int) = (ir N.n).map .int := rngL_ir _
  unfold encS at le0 hi0
  rw [r0] at le0 hi0
  simp only [List.map_cons, List.map_nil] at le0 hi0
  have R := rest10 (ns := ns) (x2 := some (.d (.int a))) (tw := tw1) w (by omega) (by omega)
  have T := fun b => tieR (ns := ns) (x2 := some (.d (.int a))) (tw := tw1) w b
  have S := fun (b : Int) (m : b ∈ N.rim) => shortR (ns := ns) (x2 := some (.d (.int a))) (tw := tw1) w (by omega) m
  unfold stA befD at R T S
  rw [e0] at R T S
  unfold F_law_5 st38
  simp_arith [-L_k38.Sq_law_11_a, n6', gi, le0, hi0, rn]
  refine wp_all (fun b _ => T b) ?_
  simp_arith [-L_k38.Sq_law_10_a]
  refine wp_all (fun b mb => S b mb) ?_
  obtain ⟨q, eR, tw2, h2, rfl⟩ := R
  simp_arith [-L_k38.Sq_law_10_a, eR]
  exact wp_ok ⟨tw2, by omega, rfl⟩
theorem law_true (ns : List Int) (hl : ns.length ≤ 63) : g_law [.list (ns.map .int)] = some (.bool true) := by
  refine wp_val ?_
  unfold g_law b_law N_law
  have e5 : rngL 0 3 = (ir 3).map .int := rngL_ir 3
  simp_arith [e5]
  refine wp_town (st38 ns) 300 [] (fun a _ tw h => ?_) (fun tw h => ?_)
  · simp [ir_len] at h
    exact turn tw (by omega) a
  · simp_arith [DL.p_nt]
    exact wp_ok rfl
end L_k38
namespace L_k38
open PySem L2 DL PyProof.Rows FB PG SK
def topS (i : Nat) : Stmt := PySem.Challenge.pw_probeties_k38_whole_refusals_apart.main.body.getD i (.Pass ⟨0, 0, 0, 0⟩)
def mthS (i j : Nat) : Stmt := match topS i with
  | .ClassDef (body := b) .. => b.getD j (.Pass ⟨0, 0, 0, 0⟩)
  | _ => .Pass ⟨0, 0, 0, 0⟩
abbrev s_beside : Stmt := topS 16
abbrev s_without : Stmt := topS 17
abbrev s_reached : Stmt := topS 18
abbrev s_led_on : Stmt := topS 20
abbrev s_routes : Stmt := topS 21
abbrev s_tie_between : Stmt := topS 15
abbrev s_ties_of : Stmt := topS 23
abbrev s_failing : Stmt := topS 26
abbrev s_unseen : Stmt := topS 27
abbrev s_twins : Stmt := topS 28
abbrev s_kinds : Stmt := topS 29
abbrev s_cases : Stmt := topS 33
abbrev s_Seeker__init : Stmt := mthS 36 0
abbrev s_Seeker__left : Stmt := mthS 36 1
abbrev s_Seeker__history : Stmt := mthS 36 2
abbrev s__law_draw : Stmt := topS 46
abbrev s__law_pick : Stmt := topS 47
abbrev s__law_net : Stmt := topS 48
abbrev s__law_kind : Stmt := topS 50
abbrev s_shows : Stmt := topS 25
abbrev s_suspects : Stmt := topS 30
abbrev s_the_one : Stmt := topS 31
abbrev s_is_whole : Stmt := topS 11
abbrev s_is_route : Stmt := topS 22
abbrev s_split : Stmt := topS 34
abbrev s_Seeker__tell : Stmt := mthS 36 3
abbrev s_Seeker__back : Stmt := mthS 36 4
abbrev s_shortest : Stmt := topS 38
abbrev s_are_rising : Stmt := topS 12
abbrev s_is_tie : Stmt := topS 13
abbrev s_is_net : Stmt := topS 14
abbrev s_written : Stmt := topS 41
abbrev s_figure_in : Stmt := topS 42
abbrev s_tie_in : Stmt := topS 43
abbrev s_read : Stmt := topS 44
abbrev s__law_plain : Stmt := topS 51
abbrev s__law_told : Stmt := topS 52
abbrev s__law_due : Stmt := topS 53
abbrev s_law : Stmt := topS 54
theorem sc_beside : FnScope N_beside ["net", "knot"] (defScope s_beside) := ⟨rfl, rfl, rfl, by decide +kernel, rfl, by decide +kernel, by decide +kernel⟩
theorem sc_without : FnScope N_without ["net", "broken"] (defScope s_without) := ⟨rfl, rfl, rfl, by decide +kernel, rfl, by decide +kernel, by decide +kernel⟩
theorem sc_reached : FnScope N_reached ["net", "broken", "knot"] (defScope s_reached) := ⟨rfl, rfl, rfl, by decide +kernel, rfl, by decide +kernel, by decide +kernel⟩
theorem sc_led_on : FnScope N_led_on ["net", "way"] (defScope s_led_on) := ⟨rfl, rfl, rfl, by decide +kernel, rfl, by decide +kernel, by decide +kernel⟩
theorem sc_routes : FnScope N_routes ["net"] (defScope s_routes) := ⟨rfl, rfl, rfl, by decide +kernel, rfl, by decide +kernel, by decide +kernel⟩
theorem sc_tie_between : FnScope N_tie_between ["net", "one", "other"] (defScope s_tie_between) := ⟨rfl, rfl, rfl, by decide +kernel, rfl, by decide +kernel, by decide +kernel⟩
theorem sc_ties_of : FnScope N_ties_of ["net", "route"] (defScope s_ties_of) := ⟨rfl, rfl, rfl, by decide +kernel, rfl, by decide +kernel, by decide +kernel⟩
theorem sc_failing : FnScope N_failing ["net", "probes"] (defScope s_failing) := ⟨rfl, rfl, rfl, by decide +kernel, rfl, by decide +kernel, by decide +kernel⟩
theorem sc_unseen : FnScope N_unseen ["net", "probes"] (defScope s_unseen) := ⟨rfl, rfl, rfl, by decide +kernel, rfl, by decide +kernel, by decide +kernel⟩
theorem sc_twins : FnScope N_twins ["net", "probes"] (defScope s_twins) := ⟨rfl, rfl, rfl, by decide +kernel, rfl, by decide +kernel, by decide +kernel⟩
theorem sc_kinds : FnScope N_kinds ["net"] (defScope s_kinds) := ⟨rfl, rfl, rfl, by decide +kernel, rfl, by decide +kernel, by decide +kernel⟩
theorem sc_cases : FnScope N_cases ["net"] (defScope s_cases) := ⟨rfl, rfl, rfl, by decide +kernel, rfl, by decide +kernel, by decide +kernel⟩
theorem sc_Seeker__init : FnScope N_Seeker__init ["self", "net"] (defScope s_Seeker__init) := ⟨rfl, rfl, rfl, by decide +kernel, rfl, by decide +kernel, by decide +kernel⟩
theorem sc_Seeker__left : FnScope N_Seeker__left ["self"] (defScope s_Seeker__left) := ⟨rfl, rfl, rfl, by decide +kernel, rfl, by decide +kernel, by decide +kernel⟩
theorem sc_Seeker__history : FnScope N_Seeker__history ["self"] (defScope s_Seeker__history) := ⟨rfl, rfl, rfl, by decide +kernel, rfl, by decide +kernel, by decide +kernel⟩
theorem sc__law_draw : FnScope N__law_draw ["_law_script", "_law_town", "_law_many"] (defScope s__law_draw) := ⟨rfl, rfl, rfl, by decide +kernel, rfl, by decide +kernel, by decide +kernel⟩
theorem sc__law_pick : FnScope N__law_pick ["_law_script", "_law_town", "_law_some"] (defScope s__law_pick) := ⟨rfl, rfl, rfl, by decide +kernel, rfl, by decide +kernel, by decide +kernel⟩
theorem sc__law_net : FnScope N__law_net ["_law_script", "_law_town", "_law_knots", "_law_ties"] (defScope s__law_net) := ⟨rfl, rfl, rfl, by decide +kernel, rfl, by decide +kernel, by decide +kernel⟩
theorem sc__law_kind : FnScope N__law_kind ["_law_error"] (defScope s__law_kind) := ⟨rfl, rfl, rfl, by decide +kernel, rfl, by decide +kernel, by decide +kernel⟩
theorem sc_shows : FnScope N_shows ["net", "probes", "broken"] (defScope s_shows) := ⟨rfl, rfl, rfl, by decide +kernel, rfl, by decide +kernel, by decide +kernel⟩
theorem sc_suspects : FnScope N_suspects ["net", "probes", "shown"] (defScope s_suspects) := ⟨rfl, rfl, rfl, by decide +kernel, rfl, by decide +kernel, by decide +kernel⟩
theorem sc_the_one : FnScope N_the_one ["net", "probes", "shown"] (defScope s_the_one) := ⟨rfl, rfl, rfl, by decide +kernel, rfl, by decide +kernel, by decide +kernel⟩
theorem sc_is_whole : FnScope N_is_whole ["thing", "low", "high"] (defScope s_is_whole) := ⟨rfl, rfl, rfl, by decide +kernel, rfl, by decide +kernel, by decide +kernel⟩
theorem sc_is_route : FnScope N_is_route ["net", "thing"] (defScope s_is_route) := ⟨rfl, rfl, rfl, by decide +kernel, rfl, by decide +kernel, by decide +kernel⟩
theorem sc_split : FnScope N_split ["net", "route", "some"] (defScope s_split) := ⟨rfl, rfl, rfl, by decide +kernel, rfl, by decide +kernel, by decide +kernel⟩
theorem sc_Seeker__tell : FnScope N_Seeker__tell ["self", "route", "is_shown"] (defScope s_Seeker__tell) := ⟨rfl, rfl, rfl, by decide +kernel, rfl, by decide +kernel, by decide +kernel⟩
theorem sc_Seeker__back : FnScope N_Seeker__back ["self"] (defScope s_Seeker__back) := ⟨rfl, rfl, rfl, by decide +kernel, rfl, by decide +kernel, by decide +kernel⟩
theorem sc_shortest : FnScope N_shortest ["net", "one", "other"] (defScope s_shortest) := ⟨rfl, rfl, rfl, by decide +kernel, rfl, by decide +kernel, by decide +kernel⟩
theorem sc_are_rising : FnScope N_are_rising ["row"] (defScope s_are_rising) := ⟨rfl, rfl, rfl, by decide +kernel, rfl, by decide +kernel, by decide +kernel⟩
theorem sc_is_tie : FnScope N_is_tie ["thing", "many"] (defScope s_is_tie) := ⟨rfl, rfl, rfl, by decide +kernel, rfl, by decide +kernel, by decide +kernel⟩
theorem sc_is_net : FnScope N_is_net ["thing"] (defScope s_is_net) := ⟨rfl, rfl, rfl, by decide +kernel, rfl, by decide +kernel, by decide +kernel⟩
theorem sc_written : FnScope N_written ["net"] (defScope s_written) := ⟨rfl, rfl, rfl, by decide +kernel, rfl, by decide +kernel, by decide +kernel⟩
theorem sc_figure_in : FnScope N_figure_in ["sign"] (defScope s_figure_in) := ⟨rfl, rfl, rfl, by decide +kernel, rfl, by decide +kernel, by decide +kernel⟩
theorem sc_tie_in : FnScope N_tie_in ["part"] (defScope s_tie_in) := ⟨rfl, rfl, rfl, by decide +kernel, rfl, by decide +kernel, by decide +kernel⟩
theorem sc_read : FnScope N_read ["text"] (defScope s_read) := ⟨rfl, rfl, rfl, by decide +kernel, rfl, by decide +kernel, by decide +kernel⟩
theorem sc__law_plain : FnScope N__law_plain ["_law_word", "_law_net_here", "_law_seeker", "_law_one", "_law_other"] (defScope s__law_plain) := ⟨rfl, rfl, rfl, by decide +kernel, rfl, by decide +kernel, by decide +kernel⟩
theorem sc__law_told : FnScope N__law_told ["_law_word", "_law_net_here", "_law_seeker", "_law_one", "_law_other"] (defScope s__law_told) := ⟨rfl, rfl, rfl, by decide +kernel, rfl, by decide +kernel, by decide +kernel⟩
theorem sc__law_due : FnScope N__law_due ["_law_at"] (defScope s__law_due) := ⟨rfl, rfl, rfl, by decide +kernel, rfl, by decide +kernel, by decide +kernel⟩
theorem sc_law : FnScope N_law ["_law_script"] (defScope s_law) := ⟨rfl, rfl, rfl, by decide +kernel, rfl, by decide +kernel, by decide +kernel⟩
structure Tx (mg : Str → Option Value) : Prop where
  z_ValueError : mg "ValueError" = none
  z_all : mg "all" = none
  z_any : mg "any" = none
  z_bool : mg "bool" = none
  z_enumerate : mg "enumerate" = none
  z_int : mg "int" = none
  z_isinstance : mg "isinstance" = none
  z_len : mg "len" = none
  z_max : mg "max" = none
  z_min : mg "min" = none
  z_range : mg "range" = none
  z_set : mg "set" = none
  z_sorted : mg "sorted" = none
  z_str : mg "str" = none
  z_tuple : mg "tuple" = none
  z_zip : mg "zip" = none
  m_FIGURES : ∃ t, mg "FIGURES" = some (.str "0123456789" t)
  m_KNOTS_MOST : ∃ t, mg "KNOTS_MOST" = some (.int 7 t)
  m_TIES_MOST : ∃ t, mg "TIES_MOST" = some (.int 9 t)
structure Ad where
  a_beside : Addr
  d_beside : FuncData
  a_without : Addr
  d_without : FuncData
  a_reached : Addr
  d_reached : FuncData
  a_led_on : Addr
  d_led_on : FuncData
  a_routes : Addr
  d_routes : FuncData
  a_tie_between : Addr
  d_tie_between : FuncData
  a_ties_of : Addr
  d_ties_of : FuncData
  a_failing : Addr
  d_failing : FuncData
  a_unseen : Addr
  d_unseen : FuncData
  a_twins : Addr
  d_twins : FuncData
  a_kinds : Addr
  d_kinds : FuncData
  a_cases : Addr
  d_cases : FuncData
  a_Seeker__init : Addr
  d_Seeker__init : FuncData
  a_Seeker__left : Addr
  d_Seeker__left : FuncData
  a_Seeker__history : Addr
  d_Seeker__history : FuncData
  a__law_draw : Addr
  d__law_draw : FuncData
  a__law_pick : Addr
  d__law_pick : FuncData
  a__law_net : Addr
  d__law_net : FuncData
  a__law_kind : Addr
  d__law_kind : FuncData
  a_shows : Addr
  d_shows : FuncData
  a_suspects : Addr
  d_suspects : FuncData
  a_the_one : Addr
  d_the_one : FuncData
  a_is_whole : Addr
  d_is_whole : FuncData
  a_is_route : Addr
  d_is_route : FuncData
  a_split : Addr
  d_split : FuncData
  a_Seeker__tell : Addr
  d_Seeker__tell : FuncData
  a_Seeker__back : Addr
  d_Seeker__back : FuncData
  a_shortest : Addr
  d_shortest : FuncData
  a_are_rising : Addr
  d_are_rising : FuncData
  a_is_tie : Addr
  d_is_tie : FuncData
  a_is_net : Addr
  d_is_net : FuncData
  a_written : Addr
  d_written : FuncData
  a_figure_in : Addr
  d_figure_in : FuncData
  a_tie_in : Addr
  d_tie_in : FuncData
  a_read : Addr
  d_read : FuncData
  a__law_plain : Addr
  d__law_plain : FuncData
  a__law_told : Addr
  d__law_told : FuncData
  a__law_due : Addr
  d__law_due : FuncData
  a_law : Addr
  d_law : FuncData
  x_NoRoute : Addr
  x_NoStep : Addr
  x_NoSuspect : Addr
  x_NoText : Addr
  x_NoTie : Addr
  x_ProbeError : Addr
  c_Seeker : Addr
structure Cx1 (K : PySem.W.Frag) (mg : Str → Option Value) (Z : Ad) : Prop where
  f_beside : Fun K "beside" "beside" s_beside Z.a_beside Z.d_beside
  b_beside : Binds K Z.d_beside ["net", "knot"] []
  g_beside : mg "beside" = some (.ref Z.a_beside)
  f_without : Fun K "without" "without" s_without Z.a_without Z.d_without
  b_without : Binds K Z.d_without ["net", "broken"] []
  g_without : mg "without" = some (.ref Z.a_without)
  f_reached : Fun K "reached" "reached" s_reached Z.a_reached Z.d_reached
  b_reached : Binds K Z.d_reached ["net", "broken", "knot"] []
  g_reached : mg "reached" = some (.ref Z.a_reached)
  f_led_on : Fun K "led_on" "led_on" s_led_on Z.a_led_on Z.d_led_on
  b_led_on : Binds K Z.d_led_on ["net", "way"] []
  g_led_on : mg "led_on" = some (.ref Z.a_led_on)
  f_routes : Fun K "routes" "routes" s_routes Z.a_routes Z.d_routes
  b_routes : Binds K Z.d_routes ["net"] []
  g_routes : mg "routes" = some (.ref Z.a_routes)
  f_tie_between : Fun K "tie_between" "tie_between" s_tie_between Z.a_tie_between Z.d_tie_between
  b_tie_between : Binds K Z.d_tie_between ["net", "one", "other"] []
  g_tie_between : mg "tie_between" = some (.ref Z.a_tie_between)
  f_ties_of : Fun K "ties_of" "ties_of" s_ties_of Z.a_ties_of Z.d_ties_of
  b_ties_of : Binds K Z.d_ties_of ["net", "route"] []
  g_ties_of : mg "ties_of" = some (.ref Z.a_ties_of)
  f_failing : Fun K "failing" "failing" s_failing Z.a_failing Z.d_failing
  b_failing : Binds K Z.d_failing ["net", "probes"] []
  g_failing : mg "failing" = some (.ref Z.a_failing)
  f_unseen : Fun K "unseen" "unseen" s_unseen Z.a_unseen Z.d_unseen
  b_unseen : Binds K Z.d_unseen ["net", "probes"] []
  g_unseen : mg "unseen" = some (.ref Z.a_unseen)
  f_twins : Fun K "twins" "twins" s_twins Z.a_twins Z.d_twins
  b_twins : Binds K Z.d_twins ["net", "probes"] []
  g_twins : mg "twins" = some (.ref Z.a_twins)
  f_kinds : Fun K "kinds" "kinds" s_kinds Z.a_kinds Z.d_kinds
  b_kinds : Binds K Z.d_kinds ["net"] []
  g_kinds : mg "kinds" = some (.ref Z.a_kinds)
  f_cases : Fun K "cases" "cases" s_cases Z.a_cases Z.d_cases
  b_cases : Binds K Z.d_cases ["net"] []
  g_cases : mg "cases" = some (.ref Z.a_cases)
  f_Seeker__init : Fun K "__init__" "Seeker.__init__" s_Seeker__init Z.a_Seeker__init Z.d_Seeker__init
  b_Seeker__init : Binds K Z.d_Seeker__init ["self", "net"] []
  mkS : Mk K Z.c_Seeker Z.a_Seeker__init
  f_Seeker__left : Fun K "left" "Seeker.left" s_Seeker__left Z.a_Seeker__left Z.d_Seeker__left
  b_Seeker__left : Binds K Z.d_Seeker__left ["self"] []
  M_Seeker__left : Meth K Z.c_Seeker "left" Z.a_Seeker__left
  f_Seeker__history : Fun K "history" "Seeker.history" s_Seeker__history Z.a_Seeker__history Z.d_Seeker__history
  b_Seeker__history : Binds K Z.d_Seeker__history ["self"] []
  M_Seeker__history : Meth K Z.c_Seeker "history" Z.a_Seeker__history
  f__law_draw : Fun K "_law_draw" "_law_draw" s__law_draw Z.a__law_draw Z.d__law_draw
  b__law_draw : Binds K Z.d__law_draw ["_law_script", "_law_town", "_law_many"] []
  g__law_draw : mg "_law_draw" = some (.ref Z.a__law_draw)
  f__law_pick : Fun K "_law_pick" "_law_pick" s__law_pick Z.a__law_pick Z.d__law_pick
  b__law_pick : Binds K Z.d__law_pick ["_law_script", "_law_town", "_law_some"] []
  g__law_pick : mg "_law_pick" = some (.ref Z.a__law_pick)
  f__law_net : Fun K "_law_net" "_law_net" s__law_net Z.a__law_net Z.d__law_net
  b__law_net : Binds K Z.d__law_net ["_law_script", "_law_town", "_law_knots", "_law_ties"] []
  g__law_net : mg "_law_net" = some (.ref Z.a__law_net)
  f__law_kind : Fun K "_law_kind" "_law_kind" s__law_kind Z.a__law_kind Z.d__law_kind
  b__law_kind : Binds K Z.d__law_kind ["_law_error"] []
  g__law_kind : mg "_law_kind" = some (.ref Z.a__law_kind)
  f_shows : Fun K "shows" "shows" s_shows Z.a_shows Z.d_shows
  b_shows : Binds K Z.d_shows ["net", "probes", "broken"] []
  g_shows : mg "shows" = some (.ref Z.a_shows)
  f_suspects : Fun K "suspects" "suspects" s_suspects Z.a_suspects Z.d_suspects
  b_suspects : Binds K Z.d_suspects ["net", "probes", "shown"] []
  g_suspects : mg "suspects" = some (.ref Z.a_suspects)
  f_the_one : Fun K "the_one" "the_one" s_the_one Z.a_the_one Z.d_the_one
  b_the_one : Binds K Z.d_the_one ["net", "probes", "shown"] []
  g_the_one : mg "the_one" = some (.ref Z.a_the_one)
  f_is_whole : Fun K "is_whole" "is_whole" s_is_whole Z.a_is_whole Z.d_is_whole
  b_is_whole : Binds K Z.d_is_whole ["thing", "low", "high"] []
  g_is_whole : mg "is_whole" = some (.ref Z.a_is_whole)
  f_is_route : Fun K "is_route" "is_route" s_is_route Z.a_is_route Z.d_is_route
  b_is_route : Binds K Z.d_is_route ["net", "thing"] []
  g_is_route : mg "is_route" = some (.ref Z.a_is_route)
  f_split : Fun K "split" "split" s_split Z.a_split Z.d_split
  b_split : Binds K Z.d_split ["net", "route", "some"] []
  g_split : mg "split" = some (.ref Z.a_split)
  f_Seeker__tell : Fun K "tell" "Seeker.tell" s_Seeker__tell Z.a_Seeker__tell Z.d_Seeker__tell
  b_Seeker__tell : Binds K Z.d_Seeker__tell ["self", "route", "is_shown"] []
  M_Seeker__tell : Meth K Z.c_Seeker "tell" Z.a_Seeker__tell
  f_Seeker__back : Fun K "back" "Seeker.back" s_Seeker__back Z.a_Seeker__back Z.d_Seeker__back
  b_Seeker__back : Binds K Z.d_Seeker__back ["self"] []
  M_Seeker__back : Meth K Z.c_Seeker "back" Z.a_Seeker__back
  f_shortest : Fun K "shortest" "shortest" s_shortest Z.a_shortest Z.d_shortest
  b_shortest : Binds K Z.d_shortest ["net", "one", "other"] []
  g_shortest : mg "shortest" = some (.ref Z.a_shortest)
  f_are_rising : Fun K "are_rising" "are_rising" s_are_rising Z.a_are_rising Z.d_are_rising
  b_are_rising : Binds K Z.d_are_rising ["row"] []
  g_are_rising : mg "are_rising" = some (.ref Z.a_are_rising)
  f_is_tie : Fun K "is_tie" "is_tie" s_is_tie Z.a_is_tie Z.d_is_tie
  b_is_tie : Binds K Z.d_is_tie ["thing", "many"] []
  g_is_tie : mg "is_tie" = some (.ref Z.a_is_tie)
  f_is_net : Fun K "is_net" "is_net" s_is_net Z.a_is_net Z.d_is_net
  b_is_net : Binds K Z.d_is_net ["thing"] []
  g_is_net : mg "is_net" = some (.ref Z.a_is_net)
  f_written : Fun K "written" "written" s_written Z.a_written Z.d_written
  b_written : Binds K Z.d_written ["net"] []
  g_written : mg "written" = some (.ref Z.a_written)
  f_figure_in : Fun K "figure_in" "figure_in" s_figure_in Z.a_figure_in Z.d_figure_in
  b_figure_in : Binds K Z.d_figure_in ["sign"] []
  g_figure_in : mg "figure_in" = some (.ref Z.a_figure_in)
  f_tie_in : Fun K "tie_in" "tie_in" s_tie_in Z.a_tie_in Z.d_tie_in
  b_tie_in : Binds K Z.d_tie_in ["part"] []
  g_tie_in : mg "tie_in" = some (.ref Z.a_tie_in)
  f_read : Fun K "read" "read" s_read Z.a_read Z.d_read
  b_read : Binds K Z.d_read ["text"] []
  g_read : mg "read" = some (.ref Z.a_read)
  f__law_plain : Fun K "_law_plain" "_law_plain" s__law_plain Z.a__law_plain Z.d__law_plain
  b__law_plain : Binds K Z.d__law_plain ["_law_word", "_law_net_here", "_law_seeker", "_law_one", "_law_other"] []
  g__law_plain : mg "_law_plain" = some (.ref Z.a__law_plain)
  f__law_told : Fun K "_law_told" "_law_told" s__law_told Z.a__law_told Z.d__law_told
  b__law_told : Binds K Z.d__law_told ["_law_word", "_law_net_here", "_law_seeker", "_law_one", "_law_other"] []
  g__law_told : mg "_law_told" = some (.ref Z.a__law_told)
  f__law_due : Fun K "_law_due" "_law_due" s__law_due Z.a__law_due Z.d__law_due
  b__law_due : Binds K Z.d__law_due ["_law_at"] []
  g__law_due : mg "_law_due" = some (.ref Z.a__law_due)
  f_law : Fun K "law" "law" s_law Z.a_law Z.d_law
  b_law : Binds K Z.d_law ["_law_script"] []
  g_law : mg "law" = some (.ref Z.a_law)
  e_NoRoute : Err K mg "NoRoute" Z.x_NoRoute
  e_NoStep : Err K mg "NoStep" Z.x_NoStep
  e_NoSuspect : Err K mg "NoSuspect" Z.x_NoSuspect
  e_NoText : Err K mg "NoText" Z.x_NoText
  e_NoTie : Err K mg "NoTie" Z.x_NoTie
  n_ProbeError : mg "ProbeError" = some (.ref Z.x_ProbeError)
  sup : ∀ c ∈ rs_errs, ∀ C, mg (Str.ofString c) = some (.ref C) → PySem.W.exmOne K (.ref C) (.ref Z.x_ProbeError) = some true
  exc : ∀ c ∈ rs_errs, ∀ C, mg (Str.ofString c) = some (.ref C) → ExcC K C
  kit_NoRoute : ∀ c ∈ rs_errs, ∀ C, mg (Str.ofString c) = some (.ref C) → PySem.W.kitOne K (.ref C) (.ref Z.x_NoRoute) = some (decide (c = "NoRoute"))
  kit_NoStep : ∀ c ∈ rs_errs, ∀ C, mg (Str.ofString c) = some (.ref C) → PySem.W.kitOne K (.ref C) (.ref Z.x_NoStep) = some (decide (c = "NoStep"))
  kit_NoSuspect : ∀ c ∈ rs_errs, ∀ C, mg (Str.ofString c) = some (.ref C) → PySem.W.kitOne K (.ref C) (.ref Z.x_NoSuspect) = some (decide (c = "NoSuspect"))
  kit_NoText : ∀ c ∈ rs_errs, ∀ C, mg (Str.ofString c) = some (.ref C) → PySem.W.kitOne K (.ref C) (.ref Z.x_NoText) = some (decide (c = "NoText"))
  kit_NoTie : ∀ c ∈ rs_errs, ∀ C, mg (Str.ofString c) = some (.ref C) → PySem.W.kitOne K (.ref C) (.ref Z.x_NoTie) = some (decide (c = "NoTie"))
  kit_ProbeError : ∀ c ∈ rs_errs, ∀ C, mg (Str.ofString c) = some (.ref C) → PySem.W.kitOne K (.ref C) (.ref Z.x_ProbeError) = some true
  kit_ValueError : ∀ c ∈ rs_errs, ∀ C, mg (Str.ofString c) = some (.ref C) → PySem.W.kitOne K (.ref C) (.type "ValueError") = some true
  skc : SkC K Z.c_Seeker
  g_Seeker : mg "Seeker" = some (.ref Z.c_Seeker)
section
variable {P : Program} {w : World} {K : PySem.W.Frag} {mg : Str → Option Value} {base : Heap} {Z : Ad}
set_option maxHeartbeats 4000000 in
theorem ok_beside (C : Cx1 K mg Z) (T : Tx mg) : FnOk P w K mg base CX0 1 Z.a_beside Z.d_beside ["net", "knot"] (spF K 2 g_beside) := by
  have sc := sc_beside
  refine fn_run (k := 0) (N := N_beside) C.f_beside sc_beside fun cdv A outer s H E hr => ?_
  have hU := un1 hr
  exact ((sss_cons (ss_compD 2 (own := [("other", 3)]) (by rfl) sc.nd (si_range1 (by rfl) T.z_range (se_ix (se_var 0) se_int)) (blkOk_by (own := [("other", 3)]) (by rfl)) (fun _ _ _ _ _ => (sg_name 3 sc.nd (by rfl) (by first | exact Or.inl rfl | exact Or.inr rfl) (by decide))) (fun _ _ _ _ _ => (sts_one (st_cmp (or_inB hU.c65) (se_tup (sa_cons (se_b2 (cr_min2 (by rfl)) (by rfl) T.z_min (by decide +kernel) (se_var 1) (SE.sw (se_var 3))) (sa_cons (se_b2 (cr_max2 (by rfl)) (by rfl) T.z_max (by decide +kernel) (se_var 1) (SE.sw (se_var 3))) sa_nil))) (SE.sw (se_ix (se_var 0) se_int))))) (fun _ _ _ _ _ => (se_var 3)) (sw_true (by rfl) (by rfl) (by rfl) (by decide +kernel)))
      (sss_one (ss_ret (se_t1 cr_tuple (by rfl) T.z_tuple (by decide +kernel) (SE.sw (se_var 2)))))))
set_option maxHeartbeats 4000000 in
theorem ok_without (C : Cx1 K mg Z) (T : Tx mg) : FnOk P w K mg base CX0 1 Z.a_without Z.d_without ["net", "broken"] (spF K 2 g_without) := by
  have sc := sc_without
  refine fn_run (k := 0) (N := N_without) C.f_without sc_without fun cdv A outer s H E hr => ?_
  have hU := un1 hr
  exact ((sss_one (ss_ret (se_tup (sa_cons (se_ix (se_var 0) se_int) (sa_cons (se_t1 cr_tuple (by rfl) T.z_tuple (by decide +kernel) (SE.sw (SL.se (sl_comp (own := [("number", 2), ("tie", 3)]) (by rfl) sc.nd (si_enum (by rfl) T.z_enumerate (se_ix (se_var 0) se_int)) (blkOk_by (own := [("number", 2), ("tie", 3)]) (by rfl)) (fun _ _ _ _ _ => (sg_tup (by rfl) (sgs_cons (sg_name 2 sc.nd (by rfl) (by first | exact Or.inl rfl | exact Or.inr rfl) (by decide)) (sgs_cons (sg_name 3 sc.nd (by rfl) (by first | exact Or.inl rfl | exact Or.inr rfl) (by decide)) sgs_nil)))) (fun _ _ _ _ _ => (sts_one (st_cmp (or_notInB hU.c65) (se_var 2) (SE.sw (se_var 1))))) (fun _ _ _ _ _ => (se_var 3)))))) (sa_cons (se_ix (se_var 0) se_int) sa_nil)))))))
set_option maxHeartbeats 4000000 in
theorem ok_reached (C : Cx1 K mg Z) (T : Tx mg) : FnOk P w K mg base CX0 2 Z.a_reached Z.d_reached ["net", "broken", "knot"] (spF K 3 g_reached) := by
  have sc := sc_reached
  refine fn_run (k := 1) (N := N_reached) C.f_reached sc_reached fun cdv A outer s H E hr => ?_
  have hU := un1 hr
  exact ((sss_cons (ss_asg 3 sc.nd (se_call (ok_without C T) (hr.mono (by omega)) (by rfl) C.g_without C.f_without.kp C.b_without (sa_cons (se_var 0) (sa_cons (se_var 1) sa_nil)) (by rfl)))
      (sss_cons (ss_disp 4 sc.nd (se_var 2) se_bl)
      (sss_cons (ss_new 5 sc.nd (sl_lst (sa_cons (se_var 2) sa_nil)))
      (sss_cons (ss_while 1000 PassesOwn.never (st_val (sw_own 5)) (sss_one (ss_for (is := [6]) PassesOwn.never (by rfl) (si_seq (se_call (ok_beside C T) (hr.mono (by omega)) (by rfl) C.g_beside C.f_beside.kp C.b_beside (sa_cons (se_var 3) (sa_cons (se_pop 5) sa_nil)) (by rfl))) (sg_name 6 sc.nd (by rfl) (by first | exact Or.inl rfl | exact Or.inr rfl) (by decide)) (sss_one (ss_if (st_notInD 4 hU.c1 (se_var 6)) (sss_cons (ss_put 4 hU.c1 (se_var 6) se_bl)
      (sss_one (ss_expr (se_app 5 (se_var 6))))) sss_nil)))))
      (sss_one (ss_ret (se_t1 cr_tuple (by rfl) T.z_tuple (by decide +kernel) (SE.sw (se_sortI 4 (by rfl) (by rfl) T.z_sorted))))))))))
set_option maxHeartbeats 4000000 in
theorem okr_led_on (C : Cx1 K mg Z) (T : Tx mg) : ∀ n, FnOk P w K mg base CX0 (1 + n) Z.a_led_on Z.d_led_on ["net", "way"] (spF K 2 (gr_led_on n))
  | 0 => spF_none
  | n + 1 => by
    have G := okr_led_on C T n
    have sc := sc_led_on
    refine fn_run (k := 1 + n) (N := N_led_on) C.f_led_on sc_led_on fun cdv A outer s H E hr => ?_
    have hU := un1 hr
    exact ((sss_cons (ss_new 2 sc.nd (sl_lst sa_nil))
      (sss_cons (ss_if (SWt.st (sw_and (st_cmp (or_gtD hU.c64) (se_b1 cr_len (by rfl) T.z_len (by decide +kernel) (SE.sw (se_var 1))) (SE.sw se_int)) (sw_and (st_cmp (or_inB hU.c65) (se_ix (se_var 1) (se_neg se_int)) (SE.sw (se_ix (se_var 0) se_int))) (sw_and1 (st_cmp (or_ltB hU.c0) (se_ix (se_var 1) se_int) (SE.sw (se_ix (se_var 1) (se_neg se_int)))))))) (sss_one (ss_expr (se_app 2 (se_var 1)))) sss_nil)
      (sss_cons (ss_for (is := [3]) PassesOwn.never (by rfl) (si_seq (se_call (ok_beside C T) (hr.mono (by omega)) (by rfl) C.g_beside C.f_beside.kp C.b_beside (sa_cons (se_var 0) (sa_cons (se_ix (se_var 1) (se_neg se_int)) sa_nil)) (by rfl))) (sg_name 3 sc.nd (by rfl) (by first | exact Or.inl rfl | exact Or.inr rfl) (by decide)) (sss_one (ss_if (st_cmp (or_notInB hU.c65) (se_var 3) (SE.sw (se_var 1))) (sss_one (ss_expr (se_ext 2 (se_call G hr (by rfl) C.g_led_on C.f_led_on.kp C.b_led_on (sa_cons (se_var 0) (sa_cons (se_op or_addD (se_var 1) (SE.sw (se_tup (sa_cons (se_var 3) sa_nil)))) sa_nil)) (by rfl))))) sss_nil)))
      (sss_one (ss_frz 2 (ss_ret (se_var 2))))))))
theorem ok_led_on (C : Cx1 K mg Z) (T : Tx mg) : FnOk P w K mg base CX0 41 Z.a_led_on Z.d_led_on ["net", "way"] (spF K 2 g_led_on) := okr_led_on C T 40
set_option maxHeartbeats 4000000 in
theorem ok_routes (C : Cx1 K mg Z) (T : Tx mg) : FnOk P w K mg base CX0 42 Z.a_routes Z.d_routes ["net"] (spF K 1 g_routes) := by
  have sc := sc_routes
  refine fn_run (k := 41) (N := N_routes) C.f_routes sc_routes fun cdv A outer s H E hr => ?_
  have hU := un1 hr
  exact ((sss_cons (ss_new 1 sc.nd (sl_lst sa_nil))
      (sss_cons (ss_for (is := [2]) PassesOwn.never (by rfl) (si_seq (se_ix (se_var 0) se_int)) (sg_name 2 sc.nd (by rfl) (by first | exact Or.inl rfl | exact Or.inr rfl) (by decide)) (sss_one (ss_expr (se_ext 1 (se_call (ok_led_on C T) (hr.mono (by omega)) (by rfl) C.g_led_on C.f_led_on.kp C.b_led_on (sa_cons (se_var 0) (sa_cons (se_tup (sa_cons (se_var 2) sa_nil)) sa_nil)) (by rfl))))))
      (sss_one (ss_ret (se_t1 cr_tuple (by rfl) T.z_tuple (by decide +kernel) (SE.sw (se_b1 (cr_sortD2 hU.c100) (by rfl) T.z_sorted (by decide +kernel) (sw_own 1)))))))))
set_option maxHeartbeats 4000000 in
theorem ok_tie_between (C : Cx1 K mg Z) (T : Tx mg) : FnOk P w K mg base CX0 1 Z.a_tie_between Z.d_tie_between ["net", "one", "other"] (spF K 3 g_tie_between) := by
  have sc := sc_tie_between
  refine fn_run (k := 0) (N := N_tie_between) C.f_tie_between sc_tie_between fun cdv A outer s H E hr => ?_
  have hU := un1 hr
  exact ((sss_cons (ss_asg 3 sc.nd (se_tup (sa_cons (se_b2 (cr_min2 (by rfl)) (by rfl) T.z_min (by decide +kernel) (se_var 1) (SE.sw (se_var 2))) (sa_cons (se_b2 (cr_max2 (by rfl)) (by rfl) T.z_max (by decide +kernel) (se_var 1) (SE.sw (se_var 2))) sa_nil))))
      (sss_cons (ss_if (st_cmp (or_notInB hU.c65) (se_var 3) (SE.sw (se_ix (se_var 0) se_int))) (sss_one ss_never) sss_nil)
      (sss_one (ss_ret (se_index hU.c65 (se_ix (se_var 0) se_int) (SE.sw (se_var 3))))))))
set_option maxHeartbeats 4000000 in
theorem okX_tie_between (C : Cx1 K mg Z) (T : Tx mg) : FnOk P w K mg base (L2.CX P w) 1 Z.a_tie_between Z.d_tie_between ["net", "one", "other"] (spX K mg 3 gX_tie_between) := by
  have sc := sc_tie_between
  refine fn_runX (k := 0) (N := N_tie_between) C.f_tie_between sc_tie_between fun cdv A outer s H E hr => ?_
  have hU := un1 hr
  exact ((sss_cons (ss_asg 3 sc.nd (se_tup (sa_cons (se_b2 (cr_min2 (by rfl)) (by rfl) T.z_min (by decide +kernel) (se_var 1) (SE.sw (se_var 2))) (sa_cons (se_b2 (cr_max2 (by rfl)) (by rfl) T.z_max (by decide +kernel) (se_var 1) (SE.sw (se_var 2))) sa_nil))))
      (sss_cons (ss_if (st_cmp (or_notInB hU.c65) (se_var 3) (SE.sw (se_ix (se_var 0) se_int))) (sss_one (ss_raise (by rfl) (takes_of rfl rfl rfl rfl) C.e_NoTie (by rfl) (by decide +kernel))) sss_nil)
      (sss_one (ss_ret (se_index hU.c65 (se_ix (se_var 0) se_int) (SE.sw (se_var 3))))))))
set_option maxHeartbeats 4000000 in
theorem ok_ties_of (C : Cx1 K mg Z) (T : Tx mg) : FnOk P w K mg base CX0 2 Z.a_ties_of Z.d_ties_of ["net", "route"] (spF K 2 g_ties_of) := by
  have sc := sc_ties_of
  refine fn_run (k := 1) (N := N_ties_of) C.f_ties_of sc_ties_of fun cdv A outer s H E hr => ?_
  have hU := un1 hr
  exact ((sss_one (ss_ret (se_t1 cr_tuple (by rfl) T.z_tuple (by decide +kernel) (SE.sw (se_b1 (cr_sortD2 hU.c100) (by rfl) T.z_sorted (by decide +kernel) (SE.sw (SL.se (sl_comp (own := [("one", 2), ("other", 3)]) (by rfl) sc.nd (si_zip (by rfl) T.z_zip (se_sl (se_var 1) sp_none (sp_some (se_neg se_int))) (se_sl (se_var 1) (sp_some se_int) sp_none)) (blkOk_by (own := [("one", 2), ("other", 3)]) (by rfl)) (fun _ _ _ _ _ => (sg_tup (by rfl) (sgs_cons (sg_name 2 sc.nd (by rfl) (by first | exact Or.inl rfl | exact Or.inr rfl) (by decide)) (sgs_cons (sg_name 3 sc.nd (by rfl) (by first | exact Or.inl rfl | exact Or.inr rfl) (by decide)) sgs_nil)))) (fun _ _ _ _ _ => sts_nil) (fun _ _ _ _ _ => (se_call (ok_tie_between C T) (hr.mono (by omega)) (by rfl) C.g_tie_between C.f_tie_between.kp C.b_tie_between (sa_cons (se_var 0) (sa_cons (se_var 2) (sa_cons (se_var 3) sa_nil))) (by rfl))))))))))))
set_option maxHeartbeats 4000000 in
theorem ok_failing (C : Cx1 K mg Z) (T : Tx mg) : FnOk P w K mg base CX0 3 Z.a_failing Z.d_failing ["net", "probes"] (spF K 2 g_failing) := by
  have sc := sc_failing
  refine fn_run (k := 2) (N := N_failing) C.f_failing sc_failing fun cdv A outer s H E hr => ?_
  have hU := un1 hr
  exact ((sss_cons (ss_asg 2 sc.nd (se_tup sa_nil))
      (sss_cons (ss_compD 3 (own := [("probe", 5)]) (by rfl) sc.nd (si_seq (se_var 1)) (blkOk_by (own := [("probe", 5)]) (by rfl)) (fun _ _ _ _ _ => (sg_name 5 sc.nd (by rfl) (by first | exact Or.inl rfl | exact Or.inr rfl) (by decide))) (fun _ _ _ _ _ => sts_nil) (fun _ _ _ _ _ => (se_call (ok_ties_of C T) (hr.mono (by omega)) (by rfl) C.g_ties_of C.f_ties_of.kp C.b_ties_of (sa_cons (se_var 0) (sa_cons (se_var 5) sa_nil)) (by rfl))) (sw_true (by rfl) (by rfl) (by rfl) (by decide +kernel)))
      (sss_cons (ss_pre [4, 6, 7] (ss_for (is := [4]) PassesOwn.never (by rfl) (si_range1 (by rfl) T.z_range (se_b1 cr_len (by rfl) T.z_len (by decide +kernel) (SE.sw (se_ix (se_var 0) se_int)))) (sg_name 4 sc.nd (by rfl) (by first | exact Or.inl rfl | exact Or.inr rfl) (by decide)) (sss_wip [4, 6, 7] (sss_one (ss_asg 2 sc.nd (se_op or_addD (se_var 2) (SE.sw (se_tup (sa_cons (se_t1 cr_tuple (by rfl) T.z_tuple (by decide +kernel) (SE.sw (SL.se (sl_comp (own := [("number", 6), ("row", 7)]) (by rfl) sc.nd (si_enum (by rfl) T.z_enumerate (se_var 3)) (blkOk_by (own := [("number", 6), ("row", 7)]) (by rfl)) (fun _ _ _ _ _ => (sg_tup (by rfl) (sgs_cons (sg_name 6 sc.nd (by rfl) (by first | exact Or.inl rfl | exact Or.inr rfl) (by decide)) (sgs_cons (sg_name 7 sc.nd (by rfl) (by first | exact Or.inl rfl | exact Or.inr rfl) (by decide)) sgs_nil)))) (fun _ _ _ _ _ => (sts_one (st_cmp (or_inB hU.c65) (se_var 4) (SE.sw (se_var 7))))) (fun _ _ _ _ _ => (se_var 6)))))) sa_nil)))))))))
      (sss_one (ss_ret (se_var 2)))))))
set_option maxHeartbeats 4000000 in
theorem ok_unseen (C : Cx1 K mg Z) (T : Tx mg) : FnOk P w K mg base CX0 4 Z.a_unseen Z.d_unseen ["net", "probes"] (spF K 2 g_unseen) := by
  have sc := sc_unseen
  refine fn_run (k := 3) (N := N_unseen) C.f_unseen sc_unseen fun cdv A outer s H E hr => ?_
  have hU := un1 hr
  exact ((sss_one (ss_ret (se_t1 cr_tuple (by rfl) T.z_tuple (by decide +kernel) (SE.sw (SL.se (sl_comp (own := [("tie", 2), ("some", 3)]) (by rfl) sc.nd (si_enum (by rfl) T.z_enumerate (se_call (ok_failing C T) (hr.mono (by omega)) (by rfl) C.g_failing C.f_failing.kp C.b_failing (sa_cons (se_var 0) (sa_cons (se_var 1) sa_nil)) (by rfl))) (blkOk_by (own := [("tie", 2), ("some", 3)]) (by rfl)) (fun _ _ _ _ _ => (sg_tup (by rfl) (sgs_cons (sg_name 2 sc.nd (by rfl) (by first | exact Or.inl rfl | exact Or.inr rfl) (by decide)) (sgs_cons (sg_name 3 sc.nd (by rfl) (by first | exact Or.inl rfl | exact Or.inr rfl) (by decide)) sgs_nil)))) (fun _ _ _ _ _ => (sts_one (st_cmp (or_eqB hU.c64) (se_var 3) (SE.sw (se_tup sa_nil))))) (fun _ _ _ _ _ => (se_var 2)))))))))
set_option maxHeartbeats 4000000 in
theorem ok_twins (C : Cx1 K mg Z) (T : Tx mg) : FnOk P w K mg base CX0 4 Z.a_twins Z.d_twins ["net", "probes"] (spF K 2 g_twins) := by
  have sc := sc_twins
  refine fn_run (k := 3) (N := N_twins) C.f_twins sc_twins fun cdv A outer s H E hr => ?_
  have hU := un1 hr
  exact ((sss_cons (ss_asg 2 sc.nd (se_call (ok_failing C T) (hr.mono (by omega)) (by rfl) C.g_failing C.f_failing.kp C.b_failing (sa_cons (se_var 0) (sa_cons (se_var 1) sa_nil)) (by rfl)))
      (sss_cons (ss_new 3 sc.nd (sl_lst sa_nil))
      (sss_cons (ss_pre [4, 5, 6] (ss_wip [4, 5, 6] (ss_ll 3 (sx_for (is := [4, 5]) PassesOwn.never (by rfl) (si_enum (by rfl) T.z_enumerate (se_var 2)) (sg_tup (by rfl) (sgs_cons (sg_name 4 sc.nd (by rfl) (by first | exact Or.inl rfl | exact Or.inr rfl) (by decide)) (sgs_cons (sg_name 5 sc.nd (by rfl) (by first | exact Or.inl rfl | exact Or.inr rfl) (by decide)) sgs_nil))) (sxs_wip [4, 5, 6] (sxs_one (sx_if (st_cmp (or_inB hU.c65) (se_var 5) (SE.sw (se_sl (se_var 2) sp_none (sp_some (se_var 4))))) (sxs_one (sx_grp (i := 3) (j := 6) (by decide) PassesOwn.never (by rfl) sc.nd (scs_one (sc_if (st_cmp (or_eqB hU.c64) (se_ix (se_var 2) (se_ixOwn 6 se_int)) (SE.sw (se_var 5))) (scs_one (sc_expr (se_app 6 (se_var 4)))))))) (sxs_one (sx_app (i := 3) (sl_lst (sa_cons (se_var 4) sa_nil))))))) (by decide)))))
      (sss_one (ss_ret (se_t1 cr_tuple (by rfl) T.z_tuple (by decide +kernel) (SE.sw (SL.se (sl_comp (own := [("group", 6)]) (by rfl) sc.nd (si_seq (se_var 3)) (blkOk_by (own := [("group", 6)]) (by rfl)) (fun _ _ _ _ _ => (sg_name 6 sc.nd (by rfl) (by first | exact Or.inl rfl | exact Or.inr rfl) (by decide))) (fun _ _ _ _ _ => sts_nil) (fun _ _ _ _ _ => (se_t1 cr_tuple (by rfl) T.z_tuple (by decide +kernel) (SE.sw (se_var 6))))))))))))))
set_option maxHeartbeats 4000000 in
theorem ok_kinds (C : Cx1 K mg Z) (T : Tx mg) : FnOk P w K mg base CX0 43 Z.a_kinds Z.d_kinds ["net"] (spF K 1 g_kinds) := by
  have sc := sc_kinds
  refine fn_run (k := 42) (N := N_kinds) C.f_kinds sc_kinds fun cdv A outer s H E hr => ?_
  have hU := un1 hr
  exact ((sss_one (ss_ret (se_call (ok_twins C T) (hr.mono (by omega)) (by rfl) C.g_twins C.f_twins.kp C.b_twins (sa_cons (se_var 0) (sa_cons (se_call (ok_routes C T) (hr.mono (by omega)) (by rfl) C.g_routes C.f_routes.kp C.b_routes (sa_cons (se_var 0) sa_nil) (by rfl)) sa_nil)) (by rfl)))))
set_option maxHeartbeats 4000000 in
theorem ok_cases (C : Cx1 K mg Z) (T : Tx mg) : FnOk P w K mg base CX0 44 Z.a_cases Z.d_cases ["net"] (spF K 1 g_cases) := by
  have sc := sc_cases
  refine fn_run (k := 43) (N := N_cases) C.f_cases sc_cases fun cdv A outer s H E hr => ?_
  have hU := un1 hr
  exact ((sss_cons (ss_asg 1 sc.nd (se_call (ok_unseen C T) (hr.mono (by omega)) (by rfl) C.g_unseen C.f_unseen.kp C.b_unseen (sa_cons (se_var 0) (sa_cons (se_call (ok_routes C T) (hr.mono (by omega)) (by rfl) C.g_routes C.f_routes.kp C.b_routes (sa_cons (se_var 0) sa_nil) (by rfl)) sa_nil)) (by rfl)))
      (sss_one (ss_ret (se_op or_addD (se_tup (sa_cons se_non sa_nil)) (SE.sw (se_t1 cr_tuple (by rfl) T.z_tuple (by decide +kernel) (SE.sw (SL.se (sl_comp (own := [("group", 2)]) (by rfl) sc.nd (si_seq (se_call (ok_kinds C T) (hr.mono (by omega)) (by rfl) C.g_kinds C.f_kinds.kp C.b_kinds (sa_cons (se_var 0) sa_nil) (by rfl))) (blkOk_by (own := [("group", 2)]) (by rfl)) (fun _ _ _ _ _ => (sg_name 2 sc.nd (by rfl) (by first | exact Or.inl rfl | exact Or.inr rfl) (by decide))) (fun _ _ _ _ _ => (sts_one (st_cmp (or_notInB hU.c65) (se_ix (se_var 2) se_int) (SE.sw (se_var 1))))) (fun _ _ _ _ _ => (se_ix (se_var 2) se_int))))))))))))
set_option maxHeartbeats 4000000 in
theorem ok_Seeker__init (C : Cx1 K mg Z) (T : Tx mg) : FnOk P w K mg base CX0 45 Z.a_Seeker__init Z.d_Seeker__init ["self", "net"] (spI K Z.c_Seeker gI_Seeker) := by
  have sc := sc_Seeker__init
  refine fn_init (k := 44) (fl := (lstM (consM (callM g_cases (consM (varM 1) nilM)) nilM))) (ft := (tupM nilM)) C.skc C.f_Seeker__init sc_Seeker__init rfl (fun cdv A outer s H E hr => ?_) (fun n c h => ?_)
  · have hU := un1 hr
    exact ⟨Or.inl rfl, Or.inl rfl, rfl, (sl_lst (sa_cons (se_call (ok_cases C T) (hr.mono (by omega)) (by rfl) C.g_cases C.f_cases.kp C.b_cases (sa_cons (se_var 1) sa_nil) (by rfl)) sa_nil)), (se_tup sa_nil), rfl, rfl⟩
  · exact init_reads h
set_option maxHeartbeats 4000000 in
theorem ok_Seeker__left (C : Cx1 K mg Z) (T : Tx mg) : FnOk P w K mg base CX0 1 Z.a_Seeker__left Z.d_Seeker__left ["self"] (spO K 1 0 g_Seeker__left) := by
  have sc := sc_Seeker__left
  refine fn_runO 0 (k := 0) (N := N_Seeker__left) C.f_Seeker__left sc_Seeker__left fun cdv A outer s H E hr => ?_
  have hU := un1 hr
  exact ((sss_one (ss_ret (se_last C.skc 0))))
set_option maxHeartbeats 4000000 in
theorem ok_Seeker__history (C : Cx1 K mg Z) (T : Tx mg) : FnOk P w K mg base CX0 1 Z.a_Seeker__history Z.d_Seeker__history ["self"] (spO K 1 0 g_Seeker__history) := by
  have sc := sc_Seeker__history
  refine fn_runO 0 (k := 0) (N := N_Seeker__history) C.f_Seeker__history sc_Seeker__history fun cdv A outer s H E hr => ?_
  have hU := un1 hr
  exact ((sss_one (ss_ret (se_told C.skc 0))))
set_option maxHeartbeats 4000000 in
theorem ok__law_draw (C : Cx1 K mg Z) (T : Tx mg) : FnOk P w K mg base CX0 1 Z.a__law_draw Z.d__law_draw ["_law_script", "_law_town", "_law_many"] (spR K 3 1 g__law_draw) := by
  have sc := sc__law_draw
  refine fn_runR 1 (k := 0) (N := N__law_draw) C.f__law_draw sc__law_draw fun cdv A outer s H E hr => ?_
  have hU := un1 hr
  exact ((sss_cons (ss_expr (se_app 1 se_int))
      (sss_cons (ss_asg 3 sc.nd (se_b1 cr_len (by rfl) T.z_len (by decide +kernel) (sw_own 1)))
      (sss_cons (ss_asg 4 sc.nd se_int)
      (sss_cons (ss_if (st_val (SE.sw (se_var 0))) (sss_one (ss_asg 4 sc.nd (se_ix (se_var 0) (se_op or_modD (se_var 3) (SE.sw (se_b1 cr_len (by rfl) T.z_len (by decide +kernel) (SE.sw (se_var 0)))))))) sss_nil)
      (sss_cons (ss_asg 5 sc.nd (se_op or_modD (se_op or_addD (se_var 4) (SE.sw (se_op or_mulD se_int (SE.sw (se_var 3))))) (SE.sw se_int)))
      (sss_cons (ss_asg 5 sc.nd (se_op or_modD (se_op or_mulD (se_op or_modD (se_op or_mulD (se_var 5) (SE.sw (se_var 5))) (SE.sw se_int)) (SE.sw se_int)) (SE.sw se_int)))
      (sss_cons (ss_asg 6 sc.nd (se_op or_modD (se_op or_mulD (se_op or_modD (se_op or_mulD (se_var 5) (SE.sw (se_var 5))) (SE.sw se_int)) (SE.sw se_int)) (SE.sw se_int)))
      (sss_one (ss_ret (se_op or_modD (se_op or_addD (se_op or_mulD (se_op or_fdivD (se_var 5) (SE.sw se_int)) (SE.sw se_int)) (SE.sw (se_op or_fdivD (se_var 6) (SE.sw se_int)))) (SE.sw (se_var 2)))))))))))))
set_option maxHeartbeats 4000000 in
theorem ok__law_pick (C : Cx1 K mg Z) (T : Tx mg) : FnOk P w K mg base CX0 2 Z.a__law_pick Z.d__law_pick ["_law_script", "_law_town", "_law_some"] (spR K 3 1 g__law_pick) := by
  have sc := sc__law_pick
  refine fn_runR 1 (k := 1) (N := N__law_pick) C.f__law_pick sc__law_pick fun cdv A outer s H E hr => ?_
  have hU := un1 hr
  exact ((sss_one (ss_ret (se_ix (se_var 2) (se_callR (ok__law_draw C T) (hr.mono (by omega)) (by rfl) C.g__law_draw C.f__law_draw.kp C.b__law_draw (sar_there (se_var 0) (sar_here 1 (sa_cons (se_b1 cr_len (by rfl) T.z_len (by decide +kernel) (SE.sw (se_var 2))) sa_nil))) (by rfl))))))
set_option maxHeartbeats 4000000 in
theorem ok__law_net (C : Cx1 K mg Z) (T : Tx mg) : FnOk P w K mg base CX0 2 Z.a__law_net Z.d__law_net ["_law_script", "_law_town", "_law_knots", "_law_ties"] (spR K 4 1 g__law_net) := by
  have sc := sc__law_net
  refine fn_runR 1 (k := 1) (N := N__law_net) C.f__law_net sc__law_net fun cdv A outer s H E hr => ?_
  have hU := un1 hr
  exact ((sss_cons (ss_parL 6 7 (by rfl) sc.nd (se_op or_addD se_int (SE.sw (se_callR (ok__law_draw C T) (hr.mono (by omega)) (by rfl) C.g__law_draw C.f__law_draw.kp C.b__law_draw (sar_there (se_var 0) (sar_here 1 (sa_cons (se_var 2) sa_nil))) (by rfl)))) (sl_lst sa_nil))
      (sss_cons (ss_pre [4, 9] (ss_for (is := [4]) PassesOwn.never (by rfl) (si_range1 (by rfl) T.z_range (se_var 6)) (sg_name 4 sc.nd (by rfl) (by first | exact Or.inl rfl | exact Or.inr rfl) (by decide)) (sss_wip [4, 9] (sss_one (ss_expr (se_ext 7 (SL.se (sl_comp (own := [("_law_other", 9)]) (by rfl) sc.nd (si_range2 (by rfl) T.z_range (se_op or_addD (se_var 4) (SE.sw se_int)) (se_var 6)) (blkOk_by (own := [("_law_other", 9)]) (by rfl)) (fun _ _ _ _ _ => (sg_name 9 sc.nd (by rfl) (by first | exact Or.inl rfl | exact Or.inr rfl) (by decide))) (fun _ _ _ _ _ => sts_nil) (fun _ _ _ _ _ => (se_tup (sa_cons (se_var 4) (sa_cons (se_var 9) sa_nil))))))))))))
      (sss_cons (ss_while 1000 PassesOwn.never (SWt.st (sw_or (st_cmp (or_gtD hU.c64) (se_b1 cr_len (by rfl) T.z_len (by decide +kernel) (sw_own 7)) (SE.sw (se_var 3))) (sw_or1 (SWt.st (sw_and (st_val (sw_own 7)) (sw_and1 (st_cmp (or_eqB hU.c64) (se_callR (ok__law_draw C T) (hr.mono (by omega)) (by rfl) C.g__law_draw C.f__law_draw.kp C.b__law_draw (sar_there (se_var 0) (sar_here 1 (sa_cons se_int sa_nil))) (by rfl)) (SE.sw se_int)))))))) (sss_one (ss_expr (se_popAt 7 (se_callR (ok__law_draw C T) (hr.mono (by omega)) (by rfl) C.g__law_draw C.f__law_draw.kp C.b__law_draw (sar_there (se_var 0) (sar_here 1 (sa_cons (se_b1 cr_len (by rfl) T.z_len (by decide +kernel) (sw_own 7)) sa_nil))) (by rfl))))))
      (sss_cons (ss_compD 5 (own := [("_law_knot", 8)]) (by rfl) sc.nd (si_range1 (by rfl) T.z_range (se_var 6)) (blkOk_by (own := [("_law_knot", 8)]) (by rfl)) (fun _ _ _ _ _ => (sg_name 8 sc.nd (by rfl) (by first | exact Or.inl rfl | exact Or.inr rfl) (by decide))) (fun _ _ _ _ _ => (sts_one (st_val (SE.sw (se_callR (ok__law_draw C T) (hr.mono (by omega)) (by rfl) C.g__law_draw C.f__law_draw.kp C.b__law_draw (sar_there (se_var 0) (sar_here 1 (sa_cons se_int sa_nil))) (by rfl)))))) (fun _ _ _ _ _ => (se_var 8)) (sw_true (by rfl) (by rfl) (by rfl) (by decide +kernel)))
      (sss_one (ss_ret (se_tup (sa_cons (se_var 6) (sa_cons (se_t1 cr_tuple (by rfl) T.z_tuple (by decide +kernel) (sw_own 7)) (sa_cons (se_t1 cr_tuple (by rfl) T.z_tuple (by decide +kernel) (SE.sw (se_or (se_var 5) (se_one (SL.se (sl_lst (sa_cons (se_callR (ok__law_draw C T) (hr.mono (by omega)) (by rfl) C.g__law_draw C.f__law_draw.kp C.b__law_draw (sar_there (se_var 0) (sar_here 1 (sa_cons (se_var 6) sa_nil))) (by rfl)) sa_nil))))))) sa_nil)))))))))))
set_option maxHeartbeats 4000000 in
theorem okW__law_kind (C : Cx1 K mg Z) (T : Tx mg) : FnW P w K mg base 1 Z.a__law_kind Z.d__law_kind ["_law_error"] (spK K mg rs_errs kD__law_kind) := by
  have sc := sc__law_kind
  refine fn_runW (k := 0) (N := N__law_kind) b__law_kind C.f__law_kind sc__law_kind (fun cdv A outer s H E p c C0 mc hC hr hz hf => ?_) kD__law_kind_ok
  have hU := un1H hr
  exact ((sss_cons (ss_new 1 sc.nd (sl_lst (sa_cons (se_t1 cr_int (by rfl) T.z_int (by decide +kernel) (SE.sw (se_isx (C.exc c mc C0 hC) hz hf (by rfl) T.z_isinstance (by rfl) C.e_NoTie.at_ (C.kit_NoTie c mc C0 hC)))) (sa_cons (se_t1 cr_int (by rfl) T.z_int (by decide +kernel) (SE.sw (se_isx (C.exc c mc C0 hC) hz hf (by rfl) T.z_isinstance (by rfl) C.e_NoRoute.at_ (C.kit_NoRoute c mc C0 hC)))) (sa_cons (se_t1 cr_int (by rfl) T.z_int (by decide +kernel) (SE.sw (se_isx (C.exc c mc C0 hC) hz hf (by rfl) T.z_isinstance (by rfl) C.e_NoSuspect.at_ (C.kit_NoSuspect c mc C0 hC)))) sa_nil)))))
      (sss_cons (ss_expr (se_ext 1 (SL.se (sl_lst (sa_cons (se_t1 cr_int (by rfl) T.z_int (by decide +kernel) (SE.sw (se_isx (C.exc c mc C0 hC) hz hf (by rfl) T.z_isinstance (by rfl) C.e_NoStep.at_ (C.kit_NoStep c mc C0 hC)))) (sa_cons (se_t1 cr_int (by rfl) T.z_int (by decide +kernel) (SE.sw (se_isx (C.exc c mc C0 hC) hz hf (by rfl) T.z_isinstance (by rfl) C.e_NoText.at_ (C.kit_NoText c mc C0 hC)))) sa_nil))))))
      (sss_one (ss_frz 1 (ss_ret (se_tup (sa_cons (se_var 1) (sa_cons (se_and (se_isx (C.exc c mc C0 hC) hz hf (by rfl) T.z_isinstance (by rfl) C.n_ProbeError (C.kit_ProbeError c mc C0 hC)) (se_one (se_isxB (C.exc c mc C0 hC) hz hf (by rfl) T.z_isinstance (by rfl) T.z_ValueError (by decide +kernel) (C.kit_ValueError c mc C0 hC)))) sa_nil)))))))))
set_option maxHeartbeats 4000000 in
theorem ok_shows (C : Cx1 K mg Z) (T : Tx mg) : FnOk P w K mg base CX0 3 Z.a_shows Z.d_shows ["net", "probes", "broken"] (spF K 3 g_shows) := by
  have sc := sc_shows
  refine fn_run (k := 2) (N := N_shows) C.f_shows sc_shows fun cdv A outer s H E hr => ?_
  have hU := un1 hr
  exact ((sss_one (ss_ret (se_t1 cr_tuple (by rfl) T.z_tuple (by decide +kernel) (SE.sw (SL.se (sl_comp (own := [("probe", 3)]) (by rfl) sc.nd (si_seq (se_var 1)) (blkOk_by (own := [("probe", 3)]) (by rfl)) (fun _ _ _ _ _ => (sg_name 3 sc.nd (by rfl) (by first | exact Or.inl rfl | exact Or.inr rfl) (by decide))) (fun _ _ _ _ _ => sts_nil) (fun _ _ _ _ _ => (se_not (SE.sw (se_b1 (cr_anyD (by rfl)) (by rfl) T.z_any (by decide +kernel) (SE.sw (SL.se (sl_comp (own := [("tie", 4)]) (by rfl) sc.nd (si_seq (se_call (ok_ties_of C T) (hr.mono (by omega)) (by rfl) C.g_ties_of C.f_ties_of.kp C.b_ties_of (sa_cons (se_var 0) (sa_cons (se_var 3) sa_nil)) (by rfl))) (blkOk_by (own := [("tie", 4)]) (by rfl)) (fun _ _ _ _ _ => (sg_name 4 sc.nd (by rfl) (by first | exact Or.inl rfl | exact Or.inr rfl) (by decide))) (fun _ _ _ _ _ => sts_nil) (fun _ _ _ _ _ => (se_cmp (or_inB hU.c65) (se_var 4) (SE.sw (se_var 2))))))))))))))))))
set_option maxHeartbeats 4000000 in
theorem ok_suspects (C : Cx1 K mg Z) (T : Tx mg) : FnOk P w K mg base CX0 4 Z.a_suspects Z.d_suspects ["net", "probes", "shown"] (spF K 3 g_suspects) := by
  have sc := sc_suspects
  refine fn_run (k := 3) (N := N_suspects) C.f_suspects sc_suspects fun cdv A outer s H E hr => ?_
  have hU := un1 hr
  exact ((sss_cons (ss_asg 3 sc.nd (se_tup sa_nil))
      (sss_cons (ss_if (st_val (SE.sw (se_b1 (cr_allT (by rfl)) (by rfl) T.z_all (by decide +kernel) (SE.sw (se_var 2))))) (sss_one (ss_asg 3 sc.nd (se_tup (sa_cons se_non sa_nil)))) sss_nil)
      (sss_one (ss_ret (se_op or_addD (se_var 3) (SE.sw (se_t1 cr_tuple (by rfl) T.z_tuple (by decide +kernel) (SE.sw (SL.se (sl_comp (own := [("tie", 4)]) (by rfl) sc.nd (si_range1 (by rfl) T.z_range (se_b1 cr_len (by rfl) T.z_len (by decide +kernel) (SE.sw (se_ix (se_var 0) se_int)))) (blkOk_by (own := [("tie", 4)]) (by rfl)) (fun _ _ _ _ _ => (sg_name 4 sc.nd (by rfl) (by first | exact Or.inl rfl | exact Or.inr rfl) (by decide))) (fun _ _ _ _ _ => (sts_one (st_cmp (or_eqB hU.c64) (se_call (ok_shows C T) (hr.mono (by omega)) (by rfl) C.g_shows C.f_shows.kp C.b_shows (sa_cons (se_var 0) (sa_cons (se_var 1) (sa_cons (se_tup (sa_cons (se_var 4) sa_nil)) sa_nil))) (by rfl)) (SE.sw (se_var 2))))) (fun _ _ _ _ _ => (se_var 4)))))))))))))
set_option maxHeartbeats 4000000 in
theorem okX_the_one (C : Cx1 K mg Z) (T : Tx mg) : FnOk P w K mg base (L2.CX P w) 5 Z.a_the_one Z.d_the_one ["net", "probes", "shown"] (spX K mg 3 gX_the_one) := by
  have sc := sc_the_one
  refine fn_runX (k := 4) (N := N_the_one) C.f_the_one sc_the_one fun cdv A outer s H E hr => ?_
  have hU := un1 hr
  exact ((sss_cons (ss_asg 3 sc.nd (se_call (ok_suspects C T) (hr.mono (by omega)) (by rfl) C.g_suspects C.f_suspects.kp C.b_suspects (sa_cons (se_var 0) (sa_cons (se_var 1) (sa_cons (se_var 2) sa_nil))) (by rfl)))
      (sss_cons (ss_if (SWt.st (sw_or (st_cmp (or_neB hU.c64) (se_b1 cr_len (by rfl) T.z_len (by decide +kernel) (SE.sw (se_var 3))) (SE.sw se_int)) (sw_or1 (st_cmp or_isB (se_ix (se_var 3) se_int) (SE.sw se_non))))) (sss_one (ss_raise (by rfl) (takes_of rfl rfl rfl rfl) C.e_NoSuspect (by rfl) (by decide +kernel))) sss_nil)
      (sss_one (ss_ret (se_ix (se_var 3) se_int))))))
set_option maxHeartbeats 4000000 in
theorem ok_is_whole (C : Cx1 K mg Z) (T : Tx mg) : FnOk P w K mg base CX0 1 Z.a_is_whole Z.d_is_whole ["thing", "low", "high"] (spF K 3 g_is_whole) := by
  have sc := sc_is_whole
  refine fn_run (k := 0) (N := N_is_whole) C.f_is_whole sc_is_whole fun cdv A outer s H E hr => ?_
  have hU := un1 hr
  exact ((sss_one (ss_ret (se_and (se_isi .int (by rfl) T.z_isinstance (by rfl) T.z_int (by decide +kernel) (SE.sw (se_var 0))) (se_and (se_not (SE.sw (se_isi .bool (by rfl) T.z_isinstance (by rfl) T.z_bool (by decide +kernel) (SE.sw (se_var 0))))) (se_one (se_chain (or_leB hU.c0) (or_leB hU.c0) (se_var 1) (se_var 0) (SE.sw (se_var 2)))))))))
set_option maxHeartbeats 4000000 in
theorem ok_is_route (C : Cx1 K mg Z) (T : Tx mg) : FnOk P w K mg base CX0 2 Z.a_is_route Z.d_is_route ["net", "thing"] (spF K 2 g_is_route) := by
  have sc := sc_is_route
  refine fn_run (k := 1) (N := N_is_route) C.f_is_route sc_is_route fun cdv A outer s H E hr => ?_
  have hU := un1 hr
  exact ((sss_cons (ss_if (SWt.st (sw_or (st_not (st_val (SE.sw (se_isi .tuple (by rfl) T.z_isinstance (by rfl) T.z_tuple (by decide +kernel) (SE.sw (se_var 1)))))) (sw_or (st_cmp (or_ltB hU.c0) (se_b1 cr_len (by rfl) T.z_len (by decide +kernel) (SE.sw (se_var 1))) (SE.sw se_int)) (sw_or1 (st_not (st_val (SE.sw (se_b1 (cr_allD (by rfl)) (by rfl) T.z_all (by decide +kernel) (SE.sw (SL.se (sl_comp (own := [("one", 2)]) (by rfl) sc.nd (si_seq (se_var 1)) (blkOk_by (own := [("one", 2)]) (by rfl)) (fun _ _ _ _ _ => (sg_name 2 sc.nd (by rfl) (by first | exact Or.inl rfl | exact Or.inr rfl) (by decide))) (fun _ _ _ _ _ => sts_nil) (fun _ _ _ _ _ => (se_call (ok_is_whole C T) (hr.mono (by omega)) (by rfl) C.g_is_whole C.f_is_whole.kp C.b_is_whole (sa_cons (se_var 2) (sa_cons se_int (sa_cons (se_op or_subD (se_ix (se_var 0) se_int) (SE.sw se_int)) sa_nil))) (by rfl)))))))))))))) (sss_one (ss_ret se_bl)) sss_nil)
      (sss_cons (ss_if (SWt.st (sw_or (st_cmp (or_neB hU.c64) (se_lenSet (by rfl) (by rfl) T.z_len (by rfl) T.z_set (se_var 1)) (SE.sw (se_b1 cr_len (by rfl) T.z_len (by decide +kernel) (SE.sw (se_var 1))))) (sw_or (st_cmp (or_notInB hU.c65) (se_ix (se_var 1) se_int) (SE.sw (se_ix (se_var 0) se_int))) (sw_or (st_cmp (or_notInB hU.c65) (se_ix (se_var 1) (se_neg se_int)) (SE.sw (se_ix (se_var 0) se_int))) (sw_or1 (st_cmp (or_gtD hU.c64) (se_ix (se_var 1) se_int) (SE.sw (se_ix (se_var 1) (se_neg se_int))))))))) (sss_one (ss_ret se_bl)) sss_nil)
      (sss_one (ss_ret (se_b1 (cr_allD (by rfl)) (by rfl) T.z_all (by decide +kernel) (SE.sw (SL.se (sl_comp (own := [("one", 2), ("other", 3)]) (by rfl) sc.nd (si_zip (by rfl) T.z_zip (se_sl (se_var 1) sp_none (sp_some (se_neg se_int))) (se_sl (se_var 1) (sp_some se_int) sp_none)) (blkOk_by (own := [("one", 2), ("other", 3)]) (by rfl)) (fun _ _ _ _ _ => (sg_tup (by rfl) (sgs_cons (sg_name 2 sc.nd (by rfl) (by first | exact Or.inl rfl | exact Or.inr rfl) (by decide)) (sgs_cons (sg_name 3 sc.nd (by rfl) (by first | exact Or.inl rfl | exact Or.inr rfl) (by decide)) sgs_nil)))) (fun _ _ _ _ _ => sts_nil) (fun _ _ _ _ _ => (se_cmp (or_inB hU.c65) (se_var 3) (SE.sw (se_call (ok_beside C T) (hr.mono (by omega)) (by rfl) C.g_beside C.f_beside.kp C.b_beside (sa_cons (se_var 0) (sa_cons (se_var 2) sa_nil)) (by rfl))))))))))))))
set_option maxHeartbeats 4000000 in
theorem ok_split (C : Cx1 K mg Z) (T : Tx mg) : FnOk P w K mg base CX0 3 Z.a_split Z.d_split ["net", "route", "some"] (spF K 3 g_split) := by
  have sc := sc_split
  refine fn_run (k := 2) (N := N_split) C.f_split sc_split fun cdv A outer s H E hr => ?_
  have hU := un1 hr
  exact ((sss_cons (ss_asg 3 sc.nd (se_call (ok_ties_of C T) (hr.mono (by omega)) (by rfl) C.g_ties_of C.f_ties_of.kp C.b_ties_of (sa_cons (se_var 0) (sa_cons (se_var 1) sa_nil)) (by rfl)))
      (sss_one (ss_ret (se_tup (sa_cons (se_t1 cr_tuple (by rfl) T.z_tuple (by decide +kernel) (SE.sw (SL.se (sl_comp (own := [("case", 4)]) (by rfl) sc.nd (si_seq (se_var 2)) (blkOk_by (own := [("case", 4)]) (by rfl)) (fun _ _ _ _ _ => (sg_name 4 sc.nd (by rfl) (by first | exact Or.inl rfl | exact Or.inr rfl) (by decide))) (fun _ _ _ _ _ => (sts_one (st_cmp (or_notInB hU.c65) (se_var 4) (SE.sw (se_var 3))))) (fun _ _ _ _ _ => (se_var 4)))))) (sa_cons (se_t1 cr_tuple (by rfl) T.z_tuple (by decide +kernel) (SE.sw (SL.se (sl_comp (own := [("case", 4)]) (by rfl) sc.nd (si_seq (se_var 2)) (blkOk_by (own := [("case", 4)]) (by rfl)) (fun _ _ _ _ _ => (sg_name 4 sc.nd (by rfl) (by first | exact Or.inl rfl | exact Or.inr rfl) (by decide))) (fun _ _ _ _ _ => (sts_one (st_cmp (or_inB hU.c65) (se_var 4) (SE.sw (se_var 3))))) (fun _ _ _ _ _ => (se_var 4)))))) sa_nil)))))))
set_option maxHeartbeats 4000000 in
theorem okX_Seeker__tell (C : Cx1 K mg Z) (T : Tx mg) : FnOk P w K mg base (L2.CX P w) 4 Z.a_Seeker__tell Z.d_Seeker__tell ["self", "route", "is_shown"] (spOX K mg 3 0 gX_Seeker__tell) := by
  have sc := sc_Seeker__tell
  refine fn_runOX 0 (k := 3) (N := N_Seeker__tell) C.f_Seeker__tell sc_Seeker__tell fun cdv A outer s H E hr => ?_
  have hU := un1 hr
  exact ((sss_cons (ss_if (st_not (st_val (SE.sw (se_call (ok_is_route C T) (hr.mono (by omega)) (by rfl) C.g_is_route C.f_is_route.kp C.b_is_route (sa_cons (se_net C.skc 0) (sa_cons (se_var 1) sa_nil)) (by rfl))))) (sss_one (ss_raise (by rfl) (takes_of rfl rfl rfl rfl) C.e_NoRoute (by rfl) (by decide +kernel))) sss_nil)
      (sss_cons (ss_asgG (is := [4, 5]) (se_call (ok_split C T) (hr.mono (by omega)) (by rfl) C.g_split C.f_split.kp C.b_split (sa_cons (se_net C.skc 0) (sa_cons (se_var 1) (sa_cons (se_last C.skc 0) sa_nil))) (by rfl)) (sg_tup (by rfl) (sgs_cons (sg_name 4 sc.nd (by rfl) (by first | exact Or.inl rfl | exact Or.inr rfl) (by decide)) (sgs_cons (sg_name 5 sc.nd (by rfl) (by first | exact Or.inl rfl | exact Or.inr rfl) (by decide)) sgs_nil))))
      (sss_cons (ss_asg 3 sc.nd (se_var 5))
      (sss_cons (ss_if (st_val (SE.sw (se_var 2))) (sss_one (ss_asg 3 sc.nd (se_var 4))) sss_nil)
      (sss_cons (ss_if (st_cmp (or_eqB hU.c64) (se_var 3) (SE.sw (se_tup sa_nil))) (sss_one (ss_raise (by rfl) (takes_of rfl rfl rfl rfl) C.e_NoSuspect (by rfl) (by decide +kernel))) sss_nil)
      (sss_cons (ss_expr (se_rowsApp C.skc 0 3))
      (sss_one (ss_told C.skc 0 (se_op or_addD (se_told C.skc 0) (SE.sw (se_tup (sa_cons (se_tup (sa_cons (se_var 1) (sa_cons (se_var 2) sa_nil))) sa_nil)))))))))))))
set_option maxHeartbeats 4000000 in
theorem okX_Seeker__back (C : Cx1 K mg Z) (T : Tx mg) : FnOk P w K mg base (L2.CX P w) 1 Z.a_Seeker__back Z.d_Seeker__back ["self"] (spOX K mg 1 0 gX_Seeker__back) := by
  have sc := sc_Seeker__back
  refine fn_runOX 0 (k := 0) (N := N_Seeker__back) C.f_Seeker__back sc_Seeker__back fun cdv A outer s H E hr => ?_
  have hU := un1 hr
  exact ((sss_cons (ss_if (st_cmp (or_eqB hU.c64) (se_told C.skc 0) (SE.sw (se_tup sa_nil))) (sss_one (ss_raise (by rfl) (takes_of rfl rfl rfl rfl) C.e_NoStep (by rfl) (by decide +kernel))) sss_nil)
      (sss_cons (ss_expr (se_rowsPop C.skc 0))
      (sss_one (ss_told C.skc 0 (se_sl (se_told C.skc 0) sp_none (sp_some (se_neg se_int))))))))
set_option maxHeartbeats 4000000 in
theorem okX_shortest (C : Cx1 K mg Z) (T : Tx mg) : FnOk P w K mg base (L2.CX P w) 43 Z.a_shortest Z.d_shortest ["net", "one", "other"] (spX K mg 3 gX_shortest) := by
  have sc := sc_shortest
  refine fn_runX (k := 42) (N := N_shortest) C.f_shortest sc_shortest fun cdv A outer s H E hr => ?_
  have hU := un1 hr
  exact ((sss_cons (ss_asg 3 sc.nd (se_tup (sa_cons (se_b2 (cr_min2 (by rfl)) (by rfl) T.z_min (by decide +kernel) (se_var 1) (SE.sw (se_var 2))) (sa_cons (se_b2 (cr_max2 (by rfl)) (by rfl) T.z_max (by decide +kernel) (se_var 1) (SE.sw (se_var 2))) sa_nil))))
      (sss_cons (ss_compD 4 (own := [("route", 5)]) (by rfl) sc.nd (si_seq (se_call (ok_routes C T) (hr.mono (by omega)) (by rfl) C.g_routes C.f_routes.kp C.b_routes (sa_cons (se_var 0) sa_nil) (by rfl))) (blkOk_by (own := [("route", 5)]) (by rfl)) (fun _ _ _ _ _ => (sg_name 5 sc.nd (by rfl) (by first | exact Or.inl rfl | exact Or.inr rfl) (by decide))) (fun _ _ _ _ _ => (sts_one (st_cmp (or_eqB hU.c64) (se_tup (sa_cons (se_ix (se_var 5) se_int) (sa_cons (se_ix (se_var 5) (se_neg se_int)) sa_nil))) (SE.sw (se_var 3))))) (fun _ _ _ _ _ => (se_tup (sa_cons (se_b1 cr_len (by rfl) T.z_len (by decide +kernel) (SE.sw (se_var 5))) (sa_cons (se_var 5) sa_nil)))) (sw_true (by rfl) (by rfl) (by rfl) (by decide +kernel)))
      (sss_cons (ss_if (st_not (st_val (SE.sw (se_var 4)))) (sss_one (ss_raise (by rfl) (takes_of rfl rfl rfl rfl) C.e_NoRoute (by rfl) (by decide +kernel))) sss_nil)
      (sss_one (ss_ret (se_ix (se_b1 (cr_minL (by rfl) hU.c64) (by rfl) T.z_min (by decide +kernel) (SE.sw (se_var 4))) se_int)))))))
set_option maxHeartbeats 4000000 in
theorem ok_are_rising (C : Cx1 K mg Z) (T : Tx mg) : FnOk P w K mg base CX0 1 Z.a_are_rising Z.d_are_rising ["row"] (spF K 1 g_are_rising) := by
  have sc := sc_are_rising
  refine fn_run (k := 0) (N := N_are_rising) C.f_are_rising sc_are_rising fun cdv A outer s H E hr => ?_
  have hU := un1 hr
  exact ((sss_one (ss_ret (se_b1 (cr_allD (by rfl)) (by rfl) T.z_all (by decide +kernel) (SE.sw (SL.se (sl_comp (own := [("one", 1), ("two", 2)]) (by rfl) sc.nd (si_zip (by rfl) T.z_zip (se_sl (se_var 0) sp_none (sp_some (se_neg se_int))) (se_sl (se_var 0) (sp_some se_int) sp_none)) (blkOk_by (own := [("one", 1), ("two", 2)]) (by rfl)) (fun _ _ _ _ _ => (sg_tup (by rfl) (sgs_cons (sg_name 1 sc.nd (by rfl) (by first | exact Or.inl rfl | exact Or.inr rfl) (by decide)) (sgs_cons (sg_name 2 sc.nd (by rfl) (by first | exact Or.inl rfl | exact Or.inr rfl) (by decide)) sgs_nil)))) (fun _ _ _ _ _ => sts_nil) (fun _ _ _ _ _ => (se_cmp (or_ltB hU.c0) (se_var 1) (SE.sw (se_var 2)))))))))))
set_option maxHeartbeats 4000000 in
theorem ok_is_tie (C : Cx1 K mg Z) (T : Tx mg) : FnOk P w K mg base CX0 2 Z.a_is_tie Z.d_is_tie ["thing", "many"] (spF K 2 g_is_tie) := by
  have sc := sc_is_tie
  refine fn_run (k := 1) (N := N_is_tie) C.f_is_tie sc_is_tie fun cdv A outer s H E hr => ?_
  have hU := un1 hr
  exact ((sss_cons (ss_if (SWt.st (sw_or (st_not (st_val (SE.sw (se_isi .tuple (by rfl) T.z_isinstance (by rfl) T.z_tuple (by decide +kernel) (SE.sw (se_var 0)))))) (sw_or (st_cmp (or_neB hU.c64) (se_b1 cr_len (by rfl) T.z_len (by decide +kernel) (SE.sw (se_var 0))) (SE.sw se_int)) (sw_or1 (st_not (st_val (SE.sw (se_b1 (cr_allD (by rfl)) (by rfl) T.z_all (by decide +kernel) (SE.sw (SL.se (sl_comp (own := [("one", 2)]) (by rfl) sc.nd (si_seq (se_var 0)) (blkOk_by (own := [("one", 2)]) (by rfl)) (fun _ _ _ _ _ => (sg_name 2 sc.nd (by rfl) (by first | exact Or.inl rfl | exact Or.inr rfl) (by decide))) (fun _ _ _ _ _ => sts_nil) (fun _ _ _ _ _ => (se_call (ok_is_whole C T) (hr.mono (by omega)) (by rfl) C.g_is_whole C.f_is_whole.kp C.b_is_whole (sa_cons (se_var 2) (sa_cons se_int (sa_cons (se_op or_subD (se_var 1) (SE.sw se_int)) sa_nil))) (by rfl)))))))))))))) (sss_one (ss_ret se_bl)) sss_nil)
      (sss_one (ss_ret (se_cmp (or_ltB hU.c0) (se_ix (se_var 0) se_int) (SE.sw (se_ix (se_var 0) se_int)))))))
set_option maxHeartbeats 4000000 in
theorem ok_is_net (C : Cx1 K mg Z) (T : Tx mg) : FnOk P w K mg base CX0 3 Z.a_is_net Z.d_is_net ["thing"] (spF K 1 g_is_net) := by
  have sc := sc_is_net
  refine fn_run (k := 2) (N := N_is_net) C.f_is_net sc_is_net fun cdv A outer s H E hr => ?_
  have hU := un1 hr
  exact ((sss_cons (ss_if (SWt.st (sw_or (st_not (st_val (SE.sw (se_isi .tuple (by rfl) T.z_isinstance (by rfl) T.z_tuple (by decide +kernel) (SE.sw (se_var 0)))))) (sw_or (st_cmp (or_neB hU.c64) (se_b1 cr_len (by rfl) T.z_len (by decide +kernel) (SE.sw (se_var 0))) (SE.sw se_int)) (sw_or1 (st_not (st_val (SE.sw (se_call (ok_is_whole C T) (hr.mono (by omega)) (by rfl) C.g_is_whole C.f_is_whole.kp C.b_is_whole (sa_cons (se_ix (se_var 0) se_int) (sa_cons se_int (sa_cons (se_globI (by rfl) T.m_KNOTS_MOST) sa_nil))) (by rfl))))))))) (sss_one (ss_ret se_bl)) sss_nil)
      (sss_cons (ss_asgG (is := [1, 2, 3]) (se_var 0) (sg_tup (by rfl) (sgs_cons (sg_name 1 sc.nd (by rfl) (by first | exact Or.inl rfl | exact Or.inr rfl) (by decide)) (sgs_cons (sg_name 2 sc.nd (by rfl) (by first | exact Or.inl rfl | exact Or.inr rfl) (by decide)) (sgs_cons (sg_name 3 sc.nd (by rfl) (by first | exact Or.inl rfl | exact Or.inr rfl) (by decide)) sgs_nil)))))
      (sss_cons (ss_if (SWt.st (sw_or (st_not (st_val (SE.sw (se_isi .tuple (by rfl) T.z_isinstance (by rfl) T.z_tuple (by decide +kernel) (SE.sw (se_var 2)))))) (sw_or (st_cmp (or_gtD hU.c64) (se_b1 cr_len (by rfl) T.z_len (by decide +kernel) (SE.sw (se_var 2))) (SE.sw (se_globI (by rfl) T.m_TIES_MOST))) (sw_or1 (st_not (st_val (SE.sw (se_b1 (cr_allD (by rfl)) (by rfl) T.z_all (by decide +kernel) (SE.sw (SL.se (sl_comp (own := [("tie", 4)]) (by rfl) sc.nd (si_seq (se_var 2)) (blkOk_by (own := [("tie", 4)]) (by rfl)) (fun _ _ _ _ _ => (sg_name 4 sc.nd (by rfl) (by first | exact Or.inl rfl | exact Or.inr rfl) (by decide))) (fun _ _ _ _ _ => sts_nil) (fun _ _ _ _ _ => (se_call (ok_is_tie C T) (hr.mono (by omega)) (by rfl) C.g_is_tie C.f_is_tie.kp C.b_is_tie (sa_cons (se_var 4) (sa_cons (se_var 1) sa_nil)) (by rfl)))))))))))))) (sss_one (ss_ret se_bl)) sss_nil)
      (sss_cons (ss_if (SWt.st (sw_or (st_not (st_val (SE.sw (se_isi .tuple (by rfl) T.z_isinstance (by rfl) T.z_tuple (by decide +kernel) (SE.sw (se_var 3)))))) (sw_or (st_cmp (or_eqB hU.c64) (se_var 3) (SE.sw (se_tup sa_nil))) (sw_or1 (st_not (st_val (SE.sw (se_b1 (cr_allD (by rfl)) (by rfl) T.z_all (by decide +kernel) (SE.sw (SL.se (sl_comp (own := [("knot", 5)]) (by rfl) sc.nd (si_seq (se_var 3)) (blkOk_by (own := [("knot", 5)]) (by rfl)) (fun _ _ _ _ _ => (sg_name 5 sc.nd (by rfl) (by first | exact Or.inl rfl | exact Or.inr rfl) (by decide))) (fun _ _ _ _ _ => sts_nil) (fun _ _ _ _ _ => (se_call (ok_is_whole C T) (hr.mono (by omega)) (by rfl) C.g_is_whole C.f_is_whole.kp C.b_is_whole (sa_cons (se_var 5) (sa_cons se_int (sa_cons (se_op or_subD (se_var 1) (SE.sw se_int)) sa_nil))) (by rfl)))))))))))))) (sss_one (ss_ret se_bl)) sss_nil)
      (sss_one (ss_ret (se_and (se_call (ok_are_rising C T) (hr.mono (by omega)) (by rfl) C.g_are_rising C.f_are_rising.kp C.b_are_rising (sa_cons (se_var 2) sa_nil) (by rfl)) (se_one (se_call (ok_are_rising C T) (hr.mono (by omega)) (by rfl) C.g_are_rising C.f_are_rising.kp C.b_are_rising (sa_cons (se_var 3) sa_nil) (by rfl)))))))))))
set_option maxHeartbeats 4000000 in
theorem ok_written (C : Cx1 K mg Z) (T : Tx mg) : FnOk P w K mg base CX0 1 Z.a_written Z.d_written ["net"] (spF K 1 g_written) := by
  have sc := sc_written
  refine fn_run (k := 0) (N := N_written) C.f_written sc_written fun cdv A outer s H E hr => ?_
  have hU := un1 hr
  exact ((sss_cons (ss_asgG (is := [1, 2, 3]) (se_var 0) (sg_tup (by rfl) (sgs_cons (sg_name 1 sc.nd (by rfl) (by first | exact Or.inl rfl | exact Or.inr rfl) (by decide)) (sgs_cons (sg_name 2 sc.nd (by rfl) (by first | exact Or.inl rfl | exact Or.inr rfl) (by decide)) (sgs_cons (sg_name 3 sc.nd (by rfl) (by first | exact Or.inl rfl | exact Or.inr rfl) (by decide)) sgs_nil)))))
      (sss_one (ss_ret (se_op or_addD (se_op or_addD (se_op or_addD (se_js (.cons (se_fmt (se_var 1)) (.cons se_str .nil))) (SE.sw (se_join se_str (SL.se (sl_comp (own := [("one", 5), ("other", 6)]) (by rfl) sc.nd (si_seq (se_var 2)) (blkOk_by (own := [("one", 5), ("other", 6)]) (by rfl)) (fun _ _ _ _ _ => (sg_tup (by rfl) (sgs_cons (sg_name 5 sc.nd (by rfl) (by first | exact Or.inl rfl | exact Or.inr rfl) (by decide)) (sgs_cons (sg_name 6 sc.nd (by rfl) (by first | exact Or.inl rfl | exact Or.inr rfl) (by decide)) sgs_nil)))) (fun _ _ _ _ _ => sts_nil) (fun _ _ _ _ _ => (se_js (.cons (se_fmt (se_var 5)) (.cons (se_fmt (se_var 6)) .nil))))))))) (SE.sw se_str)) (SE.sw (se_join se_str (SL.se (sl_comp (own := [("knot", 4)]) (by rfl) sc.nd (si_seq (se_var 3)) (blkOk_by (own := [("knot", 4)]) (by rfl)) (fun _ _ _ _ _ => (sg_name 4 sc.nd (by rfl) (by first | exact Or.inl rfl | exact Or.inr rfl) (by decide))) (fun _ _ _ _ _ => sts_nil) (fun _ _ _ _ _ => (se_t1 cr_str (by rfl) T.z_str (by decide +kernel) (SE.sw (se_var 4)))))))))))))
set_option maxHeartbeats 4000000 in
theorem ok_figure_in (C : Cx1 K mg Z) (T : Tx mg) : FnOk P w K mg base CX0 1 Z.a_figure_in Z.d_figure_in ["sign"] (spF K 1 g_figure_in) := by
  have sc := sc_figure_in
  refine fn_run (k := 0) (N := N_figure_in) C.f_figure_in sc_figure_in fun cdv A outer s H E hr => ?_
  have hU := un1 hr
  exact ((sss_cons (ss_if (SWt.st (sw_or (st_cmp (or_neB hU.c64) (se_b1 cr_len (by rfl) T.z_len (by decide +kernel) (SE.sw (se_var 0))) (SE.sw se_int)) (sw_or1 (st_cmp or_notInSB (se_var 0) (SE.sw (se_globS (by rfl) T.m_FIGURES)))))) (sss_one ss_never) sss_nil)
      (sss_one (ss_ret (se_t1 cr_intS (by rfl) T.z_int (by decide +kernel) (SE.sw (se_var 0)))))))
set_option maxHeartbeats 4000000 in
theorem ok_tie_in (C : Cx1 K mg Z) (T : Tx mg) : FnOk P w K mg base CX0 2 Z.a_tie_in Z.d_tie_in ["part"] (spF K 1 g_tie_in) := by
  have sc := sc_tie_in
  refine fn_run (k := 1) (N := N_tie_in) C.f_tie_in sc_tie_in fun cdv A outer s H E hr => ?_
  have hU := un1 hr
  exact ((sss_cons (ss_if (st_cmp (or_neB hU.c64) (se_b1 cr_len (by rfl) T.z_len (by decide +kernel) (SE.sw (se_var 0))) (SE.sw se_int)) (sss_one ss_never) sss_nil)
      (sss_one (ss_ret (se_tup (sa_cons (se_call (ok_figure_in C T) (hr.mono (by omega)) (by rfl) C.g_figure_in C.f_figure_in.kp C.b_figure_in (sa_cons (se_ix (se_var 0) se_int) sa_nil) (by rfl)) (sa_cons (se_call (ok_figure_in C T) (hr.mono (by omega)) (by rfl) C.g_figure_in C.f_figure_in.kp C.b_figure_in (sa_cons (se_ix (se_var 0) se_int) sa_nil) (by rfl)) sa_nil)))))))
set_option maxHeartbeats 4000000 in
theorem okX_read (C : Cx1 K mg Z) (T : Tx mg) : FnOk P w K mg base (L2.CX P w) 4 Z.a_read Z.d_read ["text"] (spX K mg 1 gX_read) := by
  have sc := sc_read
  refine fn_runX (k := 3) (N := N_read) C.f_read sc_read fun cdv A outer s H E hr => ?_
  have hU := un1 hr
  exact ((sss_cons (ss_asg 1 sc.nd (SL.se (sl_split (se_var 0) se_str)))
      (sss_cons (ss_if (st_cmp (or_neB hU.c64) (se_b1 cr_len (by rfl) T.z_len (by decide +kernel) (SE.sw (se_var 1))) (SE.sw se_int)) (sss_one (ss_raise (by rfl) (takes_of rfl rfl rfl rfl) C.e_NoText (by rfl) (by decide +kernel))) sss_nil)
      (sss_cons (ss_asg 2 sc.nd (se_tup sa_nil))
      (sss_cons (ss_wip [4] (ss_if (st_cmp (or_neB hU.c64) (se_ix (se_var 1) se_int) (SE.sw se_str)) (sss_one (ss_asg 2 sc.nd (se_t1 cr_tuple (by rfl) T.z_tuple (by decide +kernel) (SE.sw (SL.se (sl_comp (own := [("part", 4)]) (by rfl) sc.nd (si_seq (SL.se (sl_split (se_ix (se_var 1) se_int) se_str))) (blkOk_by (own := [("part", 4)]) (by rfl)) (fun _ _ _ _ _ => (sg_name 4 sc.nd (by rfl) (by first | exact Or.inl rfl | exact Or.inr rfl) (by decide))) (fun _ _ _ _ _ => sts_nil) (fun _ _ _ _ _ => (se_call (ok_tie_in C T) (hr.mono (by omega)) (by rfl) C.g_tie_in C.f_tie_in.kp C.b_tie_in (sa_cons (se_var 4) sa_nil) (by rfl))))))))) sss_nil))
      (sss_cons (ss_asg 3 sc.nd (se_tup (sa_cons (se_call (ok_figure_in C T) (hr.mono (by omega)) (by rfl) C.g_figure_in C.f_figure_in.kp C.b_figure_in (sa_cons (se_ix (se_var 1) se_int) sa_nil) (by rfl)) (sa_cons (se_var 2) (sa_cons (se_t1 cr_tuple (by rfl) T.z_tuple (by decide +kernel) (SE.sw (SL.se (sl_comp (own := [("sign", 5)]) (by rfl) sc.nd (si_str (se_ix (se_var 1) se_int)) (blkOk_by (own := [("sign", 5)]) (by rfl)) (fun _ _ _ _ _ => (sg_name 5 sc.nd (by rfl) (by first | exact Or.inl rfl | exact Or.inr rfl) (by decide))) (fun _ _ _ _ _ => sts_nil) (fun _ _ _ _ _ => (se_call (ok_figure_in C T) (hr.mono (by omega)) (by rfl) C.g_figure_in C.f_figure_in.kp C.b_figure_in (sa_cons (se_var 5) sa_nil) (by rfl))))))) sa_nil)))))
      (sss_cons (ss_if (SWt.st (sw_or (st_not (st_val (SE.sw (se_call (ok_is_net C T) (hr.mono (by omega)) (by rfl) C.g_is_net C.f_is_net.kp C.b_is_net (sa_cons (se_var 3) sa_nil) (by rfl))))) (sw_or1 (st_cmp (or_neB hU.c64) (se_call (ok_written C T) (hr.mono (by omega)) (by rfl) C.g_written C.f_written.kp C.b_written (sa_cons (se_var 3) sa_nil) (by rfl)) (SE.sw (se_var 0)))))) (sss_one (ss_raise (by rfl) (takes_of rfl rfl rfl rfl) C.e_NoText (by rfl) (by decide +kernel))) sss_nil)
      (sss_one (ss_ret (se_var 3))))))))))
set_option maxHeartbeats 4000000 in
theorem okX__law_plain (C : Cx1 K mg Z) (T : Tx mg) : FnOk P w K mg base (L2.CX P w) 44 Z.a__law_plain Z.d__law_plain ["_law_word", "_law_net_here", "_law_seeker", "_law_one", "_law_other"] (spOX K mg 5 2 gX__law_plain) := by
  have sc := sc__law_plain
  refine fn_runOX 2 (k := 43) (N := N__law_plain) C.f__law_plain sc__law_plain fun cdv A outer s H E hr => ?_
  have hU := un1 hr
  exact ((TB.sss (tb_if (st_cmp (or_eqB hU.c64) (se_var 0) (SE.sw se_str)) (tb_call (takes_of rfl rfl rfl rfl) (okX_tie_between C T) (hr.mono (by omega)) (by rfl) C.g_tie_between C.f_tie_between.kp C.b_tie_between (sa_cons (se_var 1) (sa_cons (se_var 3) (sa_cons (se_var 4) sa_nil))) (by rfl)) (tb_if (st_cmp (or_eqB hU.c64) (se_var 0) (SE.sw se_str)) (tb_call (takes_of rfl rfl rfl rfl) (okX_shortest C T) (hr.mono (by omega)) (by rfl) C.g_shortest C.f_shortest.kp C.b_shortest (sa_cons (se_var 1) (sa_cons (se_var 3) (sa_cons (se_var 4) sa_nil))) (by rfl)) (tb_if (st_cmp (or_eqB hU.c64) (se_var 0) (SE.sw se_str)) (tb_call (takes_of rfl rfl rfl rfl) (okX_the_one C T) (hr.mono (by omega)) (by rfl) C.g_the_one C.f_the_one.kp C.b_the_one (sa_cons (se_var 1) (sa_cons (se_var 3) (sa_cons (se_var 4) sa_nil))) (by rfl)) (tb_if (st_cmp (or_eqB hU.c64) (se_var 0) (SE.sw se_str)) (tb_meth C.skc (takes_of rfl rfl rfl rfl) (okX_Seeker__tell C T) (hr.mono (by omega)) C.M_Seeker__tell C.b_Seeker__tell (sa_cons (se_var 3) (sa_cons (se_var 4) sa_nil)) (by rfl)) (tb_if (st_cmp (or_eqB hU.c64) (se_var 0) (SE.sw se_str)) (tb_meth0 C.skc (takes_of rfl rfl rfl rfl) (okX_Seeker__back C T) (hr.mono (by omega)) C.M_Seeker__back C.b_Seeker__back (by rfl)) (tb_call (takes_of rfl rfl rfl rfl) (okX_read C T) (hr.mono (by omega)) (by rfl) C.g_read C.f_read.kp C.b_read (sa_cons (se_var 3) sa_nil) (by rfl)))))))))
set_option maxHeartbeats 4000000 in
theorem ok__law_told (C : Cx1 K mg Z) (T : Tx mg) : FnOk P w K mg base CX0 45 Z.a__law_told Z.d__law_told ["_law_word", "_law_net_here", "_law_seeker", "_law_one", "_law_other"] (spO K 5 2 g__law_told) := by
  have sc := sc__law_told
  refine fn_runO 2 (k := 44) (N := N__law_told) C.f__law_told sc__law_told fun cdv A outer s H E hr => ?_
  have hU := un1 hr
  exact ((sss_cons (ss_tryAs rfl rfl sc.nd (by rfl) (by rfl) ⟨by rfl, by decide, .inl C.n_ProbeError⟩ C.sup (fun _ _ _ tk => (tb_callO tk (okX__law_plain C T) (hr.mono (by omega)) (by rfl) C.g__law_plain C.f__law_plain.kp C.b__law_plain (sar_there (se_var 0) (sar_there (se_var 1) (sar_hereO 2 (sa_cons (se_var 3) (sa_cons (se_var 4) sa_nil))))) (by rfl))) (fun a oe pn c C0 mc hC hz hf => suite_ret (okW__law_kind C T) (L2H.roomH_of (hr.mono (by omega))) mc hC hz hf (by rfl) C.g__law_kind C.f__law_kind.kp C.b__law_kind) (fun c r o un h => blind_ret h))
      (sss_one (ss_ret se_non))))
set_option maxHeartbeats 4000000 in
theorem ok__law_due (C : Cx1 K mg Z) (T : Tx mg) : FnOk P w K mg base CX0 1 Z.a__law_due Z.d__law_due ["_law_at"] (spF K 1 g__law_due) := by
  have sc := sc__law_due
  refine fn_run (k := 0) (N := N__law_due) C.f__law_due sc__law_due fun cdv A outer s H E hr => ?_
  have hU := un1 hr
  exact ((sss_one (ss_ret (se_ite (st_cmp or_isB (se_var 0) (SE.sw se_non)) se_non (se_tup (sa_cons (SL.se (sl_comp (own := [("_law_one", 1)]) (by rfl) sc.nd (si_range1 (by rfl) T.z_range se_int) (blkOk_by (own := [("_law_one", 1)]) (by rfl)) (fun _ _ _ _ _ => (sg_name 1 sc.nd (by rfl) (by first | exact Or.inl rfl | exact Or.inr rfl) (by decide))) (fun _ _ _ _ _ => sts_nil) (fun _ _ _ _ _ => (se_t1 cr_int (by rfl) T.z_int (by decide +kernel) (SE.sw (se_cmp (or_eqB hU.c64) (se_var 1) (SE.sw (se_var 0)))))))) (sa_cons se_bl sa_nil)))))))
set_option maxHeartbeats 4000000 in
theorem ok_law (C : Cx1 K mg Z) (T : Tx mg) : FnOk P w K mg base CX0 47 Z.a_law Z.d_law ["_law_script"] (spF K 1 g_law) := by
  have sc := sc_law
  refine fn_run (k := 46) (N := N_law) C.f_law sc_law fun cdv A outer s H E hr => ?_
  have hU := un1 hr
  exact ((sss_cons (ss_new 1 sc.nd (sl_lst sa_nil))
      (sss_cons (ss_pre [2, 3, 4, 5, 6, 7, 8, 9, 10] (ss_for (is := [2]) PassesOwn.never (by rfl) (si_range1 (by rfl) T.z_range se_int) (sg_name 2 sc.nd (by rfl) (by first | exact Or.inl rfl | exact Or.inr rfl) (by decide)) (sss_wip [2, 3, 4, 5, 6, 7, 8, 9, 10] (sss_cons (ss_asg 3 sc.nd (se_callR (ok__law_net C T) (hr.mono (by omega)) (by rfl) C.g__law_net C.f__law_net.kp C.b__law_net (sar_there (se_var 0) (sar_here 1 (sa_cons se_int (sa_cons se_int sa_nil)))) (by rfl)))
      (sss_cons (ss_mk 4 sc.nd (sn_make C.skc C.mkS (ok_Seeker__init C T) (hr.mono (by omega)) (by rfl) C.g_Seeker C.b_Seeker__init (se_var 3)))
      (sss_cons (ss_asg 5 sc.nd (se_tup (sa_cons (se_meth0 C.skc (ok_Seeker__left C T) (hr.mono (by omega)) C.M_Seeker__left C.b_Seeker__left (by rfl)) (sa_cons (se_meth0 C.skc (ok_Seeker__history C T) (hr.mono (by omega)) C.M_Seeker__history C.b_Seeker__history (by rfl)) sa_nil))))
      (sss_cons (ss_pre [6, 7, 9] (ss_for (is := [6]) PassesOwn.never (by rfl) (si_range1 (by rfl) T.z_range (se_ix (se_var 3) se_int)) (sg_name 6 sc.nd (by rfl) (by first | exact Or.inl rfl | exact Or.inr rfl) (by decide)) (sss_wip [6, 7, 9] (sss_one (ss_pre [7, 9] (ss_for (is := [7]) PassesOwn.never (by rfl) (si_range1 (by rfl) T.z_range (se_ix (se_var 3) se_int)) (sg_name 7 sc.nd (by rfl) (by first | exact Or.inl rfl | exact Or.inr rfl) (by decide)) (sss_wip [7, 9] (sss_cons (ss_asg 9 sc.nd (se_ite (st_cmp (or_inB hU.c65) (se_var 7) (SE.sw (se_call (ok_beside C T) (hr.mono (by omega)) (by rfl) C.g_beside C.f_beside.kp C.b_beside (sa_cons (se_var 3) (sa_cons (se_var 6) sa_nil)) (by rfl)))) se_non se_int))
      (sss_one (ss_if (SWt.st (sw_and (st_cmp (or_neB hU.c64) (se_var 6) (SE.sw (se_var 7))) (sw_and1 (st_cmp (or_neB hU.c64) (se_callO (ok__law_told C T) (hr.mono (by omega)) (by rfl) C.g__law_told C.f__law_told.kp C.b__law_told (sar_there se_str (sar_there (se_var 3) (sar_hereO 4 (sa_cons (se_var 6) (sa_cons (se_var 7) sa_nil))))) (by rfl)) (SE.sw (se_call (ok__law_due C T) (hr.mono (by omega)) (by rfl) C.g__law_due C.f__law_due.kp C.b__law_due (sa_cons (se_var 9) sa_nil) (by rfl))))))) (sss_one (ss_ret se_bl)) sss_nil))))))))))
      (sss_cons (ss_pre [6, 7, 10] (ss_for (is := [6]) PassesOwn.never (by rfl) (si_seq (se_ix (se_var 3) se_int)) (sg_name 6 sc.nd (by rfl) (by first | exact Or.inl rfl | exact Or.inr rfl) (by decide)) (sss_wip [6, 7, 10] (sss_one (ss_pre [7, 10] (ss_for (is := [7]) PassesOwn.never (by rfl) (si_seq (se_ix (se_var 3) se_int)) (sg_name 7 sc.nd (by rfl) (by first | exact Or.inl rfl | exact Or.inr rfl) (by decide)) (sss_wip [7, 10] (sss_cons (ss_asg 10 sc.nd (se_call (ok__law_due C T) (hr.mono (by omega)) (by rfl) C.g__law_due C.f__law_due.kp C.b__law_due (sa_cons (se_ite (st_cmp (or_inB hU.c65) (se_var 7) (SE.sw (se_call (ok_reached C T) (hr.mono (by omega)) (by rfl) C.g_reached C.f_reached.kp C.b_reached (sa_cons (se_var 3) (sa_cons (se_tup sa_nil) (sa_cons (se_var 6) sa_nil))) (by rfl)))) se_non se_int) sa_nil) (by rfl)))
      (sss_one (ss_if (SWt.st (sw_and (st_cmp (or_neB hU.c64) (se_var 6) (SE.sw (se_var 7))) (sw_and1 (st_cmp (or_neB hU.c64) (se_callO (ok__law_told C T) (hr.mono (by omega)) (by rfl) C.g__law_told C.f__law_told.kp C.b__law_told (sar_there se_str (sar_there (se_var 3) (sar_hereO 4 (sa_cons (se_var 6) (sa_cons (se_var 7) sa_nil))))) (by rfl)) (SE.sw (se_var 10)))))) (sss_one (ss_ret se_bl)) sss_nil))))))))))
      (sss_cons (ss_if (SWt.st (sw_or (st_cmp (or_neB hU.c64) (se_callO (ok__law_told C T) (hr.mono (by omega)) (by rfl) C.g__law_told C.f__law_told.kp C.b__law_told (sar_there se_str (sar_there (se_var 3) (sar_hereO 4 (sa_cons (se_tup sa_nil) (sa_cons (se_tup sa_nil) sa_nil))))) (by rfl)) (SE.sw (se_call (ok__law_due C T) (hr.mono (by omega)) (by rfl) C.g__law_due C.f__law_due.kp C.b__law_due (sa_cons se_int sa_nil) (by rfl)))) (sw_or1 (st_cmp (or_neB hU.c64) (se_callO (ok__law_told C T) (hr.mono (by omega)) (by rfl) C.g__law_told C.f__law_told.kp C.b__law_told (sar_there se_str (sar_there (se_var 3) (sar_hereO 4 (sa_cons se_int (sa_cons se_int sa_nil))))) (by rfl)) (SE.sw (se_call (ok__law_due C T) (hr.mono (by omega)) (by rfl) C.g__law_due C.f__law_due.kp C.b__law_due (sa_cons se_int sa_nil) (by rfl))))))) (sss_one (ss_ret se_bl)) sss_nil)
      (sss_cons (ss_if (st_cmp (or_neB hU.c64) (se_callO (ok__law_told C T) (hr.mono (by omega)) (by rfl) C.g__law_told C.f__law_told.kp C.b__law_told (sar_there se_str (sar_there (se_var 3) (sar_hereO 4 (sa_cons (se_tup (sa_cons se_int sa_nil)) (sa_cons se_bl sa_nil))))) (by rfl)) (SE.sw (se_call (ok__law_due C T) (hr.mono (by omega)) (by rfl) C.g__law_due C.f__law_due.kp C.b__law_due (sa_cons se_int sa_nil) (by rfl)))) (sss_one (ss_ret se_bl)) sss_nil)
      (sss_cons (ss_if (st_cmp (or_neB hU.c64) (se_callO (ok__law_told C T) (hr.mono (by omega)) (by rfl) C.g__law_told C.f__law_told.kp C.b__law_told (sar_there se_str (sar_there (se_var 3) (sar_hereO 4 (sa_cons se_str (sa_cons se_int sa_nil))))) (by rfl)) (SE.sw (se_call (ok__law_due C T) (hr.mono (by omega)) (by rfl) C.g__law_due C.f__law_due.kp C.b__law_due (sa_cons se_int sa_nil) (by rfl)))) (sss_one (ss_ret se_bl)) sss_nil)
      (sss_cons (ss_if (st_cmp (or_neB hU.c64) (se_tup (sa_cons (se_meth0 C.skc (ok_Seeker__left C T) (hr.mono (by omega)) C.M_Seeker__left C.b_Seeker__left (by rfl)) (sa_cons (se_meth0 C.skc (ok_Seeker__history C T) (hr.mono (by omega)) C.M_Seeker__history C.b_Seeker__history (by rfl)) sa_nil))) (SE.sw (se_var 5))) (sss_one (ss_ret se_bl)) sss_nil)
      (sss_one (ss_wip [8] (ss_if (st_val (SE.sw (se_call (ok_routes C T) (hr.mono (by omega)) (by rfl) C.g_routes C.f_routes.kp C.b_routes (sa_cons (se_var 3) sa_nil) (by rfl)))) (sss_cons (ss_asg 8 sc.nd (se_callR (ok__law_pick C T) (hr.mono (by omega)) (by rfl) C.g__law_pick C.f__law_pick.kp C.b__law_pick (sar_there (se_var 0) (sar_here 1 (sa_cons (se_call (ok_routes C T) (hr.mono (by omega)) (by rfl) C.g_routes C.f_routes.kp C.b_routes (sa_cons (se_var 3) sa_nil) (by rfl)) sa_nil))) (by rfl)))
      (sss_cons (ss_if (st_cmp or_isNotB (se_callO (ok__law_told C T) (hr.mono (by omega)) (by rfl) C.g__law_told C.f__law_told.kp C.b__law_told (sar_there se_str (sar_there (se_var 3) (sar_hereO 4 (sa_cons (se_var 8) (sa_cons se_bl sa_nil))))) (by rfl)) (SE.sw se_non)) (sss_one (ss_ret se_bl)) sss_nil)
      (sss_cons (ss_if (st_cmp (or_neB hU.c64) (se_callO (ok__law_told C T) (hr.mono (by omega)) (by rfl) C.g__law_told C.f__law_told.kp C.b__law_told (sar_there se_str (sar_there (se_var 3) (sar_hereO 4 (sa_cons (se_var 8) (sa_cons se_bl sa_nil))))) (by rfl)) (SE.sw (se_call (ok__law_due C T) (hr.mono (by omega)) (by rfl) C.g__law_due C.f__law_due.kp C.b__law_due (sa_cons se_int sa_nil) (by rfl)))) (sss_one (ss_ret se_bl)) sss_nil)
      (sss_one (ss_if (SWt.st (sw_or (st_cmp (or_neB hU.c64) (se_meth0 C.skc (ok_Seeker__history C T) (hr.mono (by omega)) C.M_Seeker__history C.b_Seeker__history (by rfl)) (SE.sw (se_tup (sa_cons (se_tup (sa_cons (se_var 8) (sa_cons se_bl sa_nil))) sa_nil)))) (sw_or1 (st_cmp or_isNotB (se_callO (ok__law_told C T) (hr.mono (by omega)) (by rfl) C.g__law_told C.f__law_told.kp C.b__law_told (sar_there se_str (sar_there (se_var 3) (sar_hereO 4 (sa_cons se_int (sa_cons se_int sa_nil))))) (by rfl)) (SE.sw se_non))))) (sss_one (ss_ret se_bl)) sss_nil))))) sss_nil)))))))))))))))
      (sss_one (ss_ret se_bl)))))
end
set_option maxHeartbeats 0 in
theorem all_mk {l : PySem.W.OpenLaw} {w : World} {K : PySem.W.Frag} {h : Heap} {mg : Str → Option Value} {fa : Addr} (X : K.In h) (G : h.Ns mainGlobals mg) (hfa : mg "law" = some (.ref fa))
    {cS : Addr}
    {f0 : Addr} {od0 an0 : Option Addr} {sl0 : Array (Option Value)} {oc0 kV0 dc0 pm0 cd0 ct0 : Value}
    {f1 : Addr} {od1 an1 : Option Addr} {sl1 : Array (Option Value)} {oc1 kV1 dc1 pm1 cd1 ct1 : Value}
    {f2 : Addr} {od2 an2 : Option Addr} {sl2 : Array (Option Value)} {oc2 kV2 dc2 pm2 cd2 ct2 : Value}
    {f3 : Addr} {od3 an3 : Option Addr} {sl3 : Array (Option Value)} {oc3 kV3 dc3 pm3 cd3 ct3 : Value}
    {f4 : Addr} {od4 an4 : Option Addr} {sl4 : Array (Option Value)} {oc4 kV4 dc4 pm4 cd4 ct4 : Value}
    {f5 : Addr} {od5 an5 : Option Addr} {sl5 : Array (Option Value)} {oc5 kV5 dc5 pm5 cd5 ct5 : Value}
    {f6 : Addr} {od6 an6 : Option Addr} {sl6 : Array (Option Value)} {oc6 kV6 dc6 pm6 cd6 ct6 : Value}
    {f7 : Addr} {od7 an7 : Option Addr} {sl7 : Array (Option Value)} {oc7 kV7 dc7 pm7 cd7 ct7 : Value}
    {f8 : Addr} {od8 an8 : Option Addr} {sl8 : Array (Option Value)} {oc8 kV8 dc8 pm8 cd8 ct8 : Value}
    {f9 : Addr} {od9 an9 : Option Addr} {sl9 : Array (Option Value)} {oc9 kV9 dc9 pm9 cd9 ct9 : Value}
    {f10 : Addr} {od10 an10 : Option Addr} {sl10 : Array (Option Value)} {oc10 kV10 dc10 pm10 cd10 ct10 : Value}
    {f11 : Addr} {od11 an11 : Option Addr} {sl11 : Array (Option Value)} {oc11 kV11 dc11 pm11 cd11 ct11 : Value}
    {f12 : Addr} {od12 an12 : Option Addr} {sl12 : Array (Option Value)} {oc12 kV12 dc12 pm12 cd12 ct12 : Value}
    {f13 : Addr} {od13 an13 : Option Addr} {sl13 : Array (Option Value)} {oc13 kV13 dc13 pm13 cd13 ct13 : Value}
    {f14 : Addr} {od14 an14 : Option Addr} {sl14 : Array (Option Value)} {oc14 kV14 dc14 pm14 cd14 ct14 : Value}
    {f15 : Addr} {od15 an15 : Option Addr} {sl15 : Array (Option Value)} {oc15 kV15 dc15 pm15 cd15 ct15 : Value}
    {f16 : Addr} {od16 an16 : Option Addr} {sl16 : Array (Option Value)} {oc16 kV16 dc16 pm16 cd16 ct16 : Value}
    {f17 : Addr} {od17 an17 : Option Addr} {sl17 : Array (Option Value)} {oc17 kV17 dc17 pm17 cd17 ct17 : Value}
    {f18 : Addr} {od18 an18 : Option Addr} {sl18 : Array (Option Value)} {oc18 kV18 dc18 pm18 cd18 ct18 : Value}
    {f19 : Addr} {od19 an19 : Option Addr} {sl19 : Array (Option Value)} {oc19 kV19 dc19 pm19 cd19 ct19 : Value}
    {f20 : Addr} {od20 an20 : Option Addr} {sl20 : Array (Option Value)} {oc20 kV20 dc20 pm20 cd20 ct20 : Value}
    {f21 : Addr} {od21 an21 : Option Addr} {sl21 : Array (Option Value)} {oc21 kV21 dc21 pm21 cd21 ct21 : Value}
    {f22 : Addr} {od22 an22 : Option Addr} {sl22 : Array (Option Value)} {oc22 kV22 dc22 pm22 cd22 ct22 : Value}
    {f23 : Addr} {od23 an23 : Option Addr} {sl23 : Array (Option Value)} {oc23 kV23 dc23 pm23 cd23 ct23 : Value}
    {f24 : Addr} {od24 an24 : Option Addr} {sl24 : Array (Option Value)} {oc24 kV24 dc24 pm24 cd24 ct24 : Value}
    {f25 : Addr} {od25 an25 : Option Addr} {sl25 : Array (Option Value)} {oc25 kV25 dc25 pm25 cd25 ct25 : Value}
    {f26 : Addr} {od26 an26 : Option Addr} {sl26 : Array (Option Value)} {oc26 kV26 dc26 pm26 cd26 ct26 : Value}
    {f27 : Addr} {od27 an27 : Option Addr} {sl27 : Array (Option Value)} {oc27 kV27 dc27 pm27 cd27 ct27 : Value}
    {f28 : Addr} {od28 an28 : Option Addr} {sl28 : Array (Option Value)} {oc28 kV28 dc28 pm28 cd28 ct28 : Value}
    {f29 : Addr} {od29 an29 : Option Addr} {sl29 : Array (Option Value)} {oc29 kV29 dc29 pm29 cd29 ct29 : Value}
    {f30 : Addr} {od30 an30 : Option Addr} {sl30 : Array (Option Value)} {oc30 kV30 dc30 pm30 cd30 ct30 : Value}
    {f31 : Addr} {od31 an31 : Option Addr} {sl31 : Array (Option Value)} {oc31 kV31 dc31 pm31 cd31 ct31 : Value}
    {f32 : Addr} {od32 an32 : Option Addr} {sl32 : Array (Option Value)} {oc32 kV32 dc32 pm32 cd32 ct32 : Value}
    {f33 : Addr} {od33 an33 : Option Addr} {sl33 : Array (Option Value)} {oc33 kV33 dc33 pm33 cd33 ct33 : Value}
    {f34 : Addr} {od34 an34 : Option Addr} {sl34 : Array (Option Value)} {oc34 kV34 dc34 pm34 cd34 ct34 : Value}
    {f35 : Addr} {od35 an35 : Option Addr} {sl35 : Array (Option Value)} {oc35 kV35 dc35 pm35 cd35 ct35 : Value}
    {f36 : Addr} {od36 an36 : Option Addr} {sl36 : Array (Option Value)} {oc36 kV36 dc36 pm36 cd36 ct36 : Value}
    {f37 : Addr} {od37 an37 : Option Addr} {sl37 : Array (Option Value)} {oc37 kV37 dc37 pm37 cd37 ct37 : Value}
    {f38 : Addr} {od38 an38 : Option Addr} {sl38 : Array (Option Value)} {oc38 kV38 dc38 pm38 cd38 ct38 : Value}
    {tk0 : Tok}
    {tk1 : Tok}
    {tk2 : Tok}
    {e0 : Addr} {bm0 : List Value} {B0 ni0 ii0 : String}
    {e1 : Addr} {bm1 : List Value} {B1 ni1 ii1 : String}
    {e2 : Addr} {bm2 : List Value} {B2 ni2 ii2 : String}
    {e3 : Addr} {bm3 : List Value} {B3 ni3 ii3 : String}
    {e4 : Addr} {bm4 : List Value} {B4 ni4 ii4 : String}
    {eP : Addr}
    (ef4 : ExcBaseFacts B4 ni4 ii4 bm4)
    (ef3 : ExcBaseFacts B3 ni3 ii3 bm3)
    (ef2 : ExcBaseFacts B2 ni2 ii2 bm2)
    (ef1 : ExcBaseFacts B1 ni1 ii1 bm1)
    (ef0 : ExcBaseFacts B0 ni0 ii0 bm0)
    (sa : PySem.W.nsIn K mainGlobals "Seeker" = some (some (.ref cS))) (sk : PySem.W.keepIn K (.ref cS) = true) (sg : PySem.W.plainGet K cS Str.empty = true) (sh : PySem.W.hasDictIn K cS = true) (sp : PySem.W.plainOver K cS = true) (ss : PySem.W.findIn K (.ref cS) "__setattr__" = some (some (.builtin "object.__setattr__"))) (sn : PySem.W.findIn K (.ref cS) "net" = some none) (sr : PySem.W.findIn K (.ref cS) "rows" = some none) (st : PySem.W.findIn K (.ref cS) "told" = some none) (sm : PySem.W.makesIn K cS = true)
    (a0 : PySem.W.nsIn K mainGlobals "beside" = some (some (.ref f0))) (l0 : K.lookup f0 = some ⟨oc0, od0, .func (PySem.W.fnOf "beside" "beside" (defArgs s_beside) (defBody s_beside) (defScope s_beside) .none kV0 dc0 pm0 an0 cd0 ct0), sl0⟩) (c0 : PySem.W.codeIn K cd0 "beside" = true) (k0 : PySem.W.keepIn K (.ref f0) = true)
    (a1 : PySem.W.nsIn K mainGlobals "without" = some (some (.ref f1))) (l1 : K.lookup f1 = some ⟨oc1, od1, .func (PySem.W.fnOf "without" "without" (defArgs s_without) (defBody s_without) (defScope s_without) .none kV1 dc1 pm1 an1 cd1 ct1), sl1⟩) (c1 : PySem.W.codeIn K cd1 "without" = true) (k1 : PySem.W.keepIn K (.ref f1) = true)
    (a2 : PySem.W.nsIn K mainGlobals "reached" = some (some (.ref f2))) (l2 : K.lookup f2 = some ⟨oc2, od2, .func (PySem.W.fnOf "reached" "reached" (defArgs s_reached) (defBody s_reached) (defScope s_reached) .none kV2 dc2 pm2 an2 cd2 ct2), sl2⟩) (c2 : PySem.W.codeIn K cd2 "reached" = true) (k2 : PySem.W.keepIn K (.ref f2) = true)
    (a3 : PySem.W.nsIn K mainGlobals "led_on" = some (some (.ref f3))) (l3 : K.lookup f3 = some ⟨oc3, od3, .func (PySem.W.fnOf "led_on" "led_on" (defArgs s_led_on) (defBody s_led_on) (defScope s_led_on) .none kV3 dc3 pm3 an3 cd3 ct3), sl3⟩) (c3 : PySem.W.codeIn K cd3 "led_on" = true) (k3 : PySem.W.keepIn K (.ref f3) = true)
    (a4 : PySem.W.nsIn K mainGlobals "routes" = some (some (.ref f4))) (l4 : K.lookup f4 = some ⟨oc4, od4, .func (PySem.W.fnOf "routes" "routes" (defArgs s_routes) (defBody s_routes) (defScope s_routes) .none kV4 dc4 pm4 an4 cd4 ct4), sl4⟩) (c4 : PySem.W.codeIn K cd4 "routes" = true) (k4 : PySem.W.keepIn K (.ref f4) = true)
    (a5 : PySem.W.nsIn K mainGlobals "tie_between" = some (some (.ref f5))) (l5 : K.lookup f5 = some ⟨oc5, od5, .func (PySem.W.fnOf "tie_between" "tie_between" (defArgs s_tie_between) (defBody s_tie_between) (defScope s_tie_between) .none kV5 dc5 pm5 an5 cd5 ct5), sl5⟩) (c5 : PySem.W.codeIn K cd5 "tie_between" = true) (k5 : PySem.W.keepIn K (.ref f5) = true)
    (a6 : PySem.W.nsIn K mainGlobals "ties_of" = some (some (.ref f6))) (l6 : K.lookup f6 = some ⟨oc6, od6, .func (PySem.W.fnOf "ties_of" "ties_of" (defArgs s_ties_of) (defBody s_ties_of) (defScope s_ties_of) .none kV6 dc6 pm6 an6 cd6 ct6), sl6⟩) (c6 : PySem.W.codeIn K cd6 "ties_of" = true) (k6 : PySem.W.keepIn K (.ref f6) = true)
    (a7 : PySem.W.nsIn K mainGlobals "failing" = some (some (.ref f7))) (l7 : K.lookup f7 = some ⟨oc7, od7, .func (PySem.W.fnOf "failing" "failing" (defArgs s_failing) (defBody s_failing) (defScope s_failing) .none kV7 dc7 pm7 an7 cd7 ct7), sl7⟩) (c7 : PySem.W.codeIn K cd7 "failing" = true) (k7 : PySem.W.keepIn K (.ref f7) = true)
    (a8 : PySem.W.nsIn K mainGlobals "unseen" = some (some (.ref f8))) (l8 : K.lookup f8 = some ⟨oc8, od8, .func (PySem.W.fnOf "unseen" "unseen" (defArgs s_unseen) (defBody s_unseen) (defScope s_unseen) .none kV8 dc8 pm8 an8 cd8 ct8), sl8⟩) (c8 : PySem.W.codeIn K cd8 "unseen" = true) (k8 : PySem.W.keepIn K (.ref f8) = true)
    (a9 : PySem.W.nsIn K mainGlobals "twins" = some (some (.ref f9))) (l9 : K.lookup f9 = some ⟨oc9, od9, .func (PySem.W.fnOf "twins" "twins" (defArgs s_twins) (defBody s_twins) (defScope s_twins) .none kV9 dc9 pm9 an9 cd9 ct9), sl9⟩) (c9 : PySem.W.codeIn K cd9 "twins" = true) (k9 : PySem.W.keepIn K (.ref f9) = true)
    (a10 : PySem.W.nsIn K mainGlobals "kinds" = some (some (.ref f10))) (l10 : K.lookup f10 = some ⟨oc10, od10, .func (PySem.W.fnOf "kinds" "kinds" (defArgs s_kinds) (defBody s_kinds) (defScope s_kinds) .none kV10 dc10 pm10 an10 cd10 ct10), sl10⟩) (c10 : PySem.W.codeIn K cd10 "kinds" = true) (k10 : PySem.W.keepIn K (.ref f10) = true)
    (a11 : PySem.W.nsIn K mainGlobals "cases" = some (some (.ref f11))) (l11 : K.lookup f11 = some ⟨oc11, od11, .func (PySem.W.fnOf "cases" "cases" (defArgs s_cases) (defBody s_cases) (defScope s_cases) .none kV11 dc11 pm11 an11 cd11 ct11), sl11⟩) (c11 : PySem.W.codeIn K cd11 "cases" = true) (k11 : PySem.W.keepIn K (.ref f11) = true)
    (a12 : PySem.W.findIn K (.ref cS) "__init__" = some (some (.ref f12))) (i12 : PySem.W.isFn K (.ref f12) = true) (l12 : K.lookup f12 = some ⟨oc12, od12, .func (PySem.W.fnOf "__init__" "Seeker.__init__" (defArgs s_Seeker__init) (defBody s_Seeker__init) (defScope s_Seeker__init) .none kV12 dc12 pm12 an12 cd12 ct12), sl12⟩) (c12 : PySem.W.codeIn K cd12 "Seeker.__init__" = true) (k12 : PySem.W.keepIn K (.ref f12) = true)
    (a13 : PySem.W.findIn K (.ref cS) "left" = some (some (.ref f13))) (i13 : PySem.W.isFn K (.ref f13) = true) (l13 : K.lookup f13 = some ⟨oc13, od13, .func (PySem.W.fnOf "left" "Seeker.left" (defArgs s_Seeker__left) (defBody s_Seeker__left) (defScope s_Seeker__left) .none kV13 dc13 pm13 an13 cd13 ct13), sl13⟩) (c13 : PySem.W.codeIn K cd13 "Seeker.left" = true) (k13 : PySem.W.keepIn K (.ref f13) = true)
    (a14 : PySem.W.findIn K (.ref cS) "history" = some (some (.ref f14))) (i14 : PySem.W.isFn K (.ref f14) = true) (l14 : K.lookup f14 = some ⟨oc14, od14, .func (PySem.W.fnOf "history" "Seeker.history" (defArgs s_Seeker__history) (defBody s_Seeker__history) (defScope s_Seeker__history) .none kV14 dc14 pm14 an14 cd14 ct14), sl14⟩) (c14 : PySem.W.codeIn K cd14 "Seeker.history" = true) (k14 : PySem.W.keepIn K (.ref f14) = true)
    (a15 : PySem.W.nsIn K mainGlobals "_law_draw" = some (some (.ref f15))) (l15 : K.lookup f15 = some ⟨oc15, od15, .func (PySem.W.fnOf "_law_draw" "_law_draw" (defArgs s__law_draw) (defBody s__law_draw) (defScope s__law_draw) .none kV15 dc15 pm15 an15 cd15 ct15), sl15⟩) (c15 : PySem.W.codeIn K cd15 "_law_draw" = true) (k15 : PySem.W.keepIn K (.ref f15) = true)
    (a16 : PySem.W.nsIn K mainGlobals "_law_pick" = some (some (.ref f16))) (l16 : K.lookup f16 = some ⟨oc16, od16, .func (PySem.W.fnOf "_law_pick" "_law_pick" (defArgs s__law_pick) (defBody s__law_pick) (defScope s__law_pick) .none kV16 dc16 pm16 an16 cd16 ct16), sl16⟩) (c16 : PySem.W.codeIn K cd16 "_law_pick" = true) (k16 : PySem.W.keepIn K (.ref f16) = true)
    (a17 : PySem.W.nsIn K mainGlobals "_law_net" = some (some (.ref f17))) (l17 : K.lookup f17 = some ⟨oc17, od17, .func (PySem.W.fnOf "_law_net" "_law_net" (defArgs s__law_net) (defBody s__law_net) (defScope s__law_net) .none kV17 dc17 pm17 an17 cd17 ct17), sl17⟩) (c17 : PySem.W.codeIn K cd17 "_law_net" = true) (k17 : PySem.W.keepIn K (.ref f17) = true)
    (a18 : PySem.W.nsIn K mainGlobals "_law_kind" = some (some (.ref f18))) (l18 : K.lookup f18 = some ⟨oc18, od18, .func (PySem.W.fnOf "_law_kind" "_law_kind" (defArgs s__law_kind) (defBody s__law_kind) (defScope s__law_kind) .none kV18 dc18 pm18 an18 cd18 ct18), sl18⟩) (c18 : PySem.W.codeIn K cd18 "_law_kind" = true) (k18 : PySem.W.keepIn K (.ref f18) = true)
    (a19 : PySem.W.nsIn K mainGlobals "shows" = some (some (.ref f19))) (l19 : K.lookup f19 = some ⟨oc19, od19, .func (PySem.W.fnOf "shows" "shows" (defArgs s_shows) (defBody s_shows) (defScope s_shows) .none kV19 dc19 pm19 an19 cd19 ct19), sl19⟩) (c19 : PySem.W.codeIn K cd19 "shows" = true) (k19 : PySem.W.keepIn K (.ref f19) = true)
    (a20 : PySem.W.nsIn K mainGlobals "suspects" = some (some (.ref f20))) (l20 : K.lookup f20 = some ⟨oc20, od20, .func (PySem.W.fnOf "suspects" "suspects" (defArgs s_suspects) (defBody s_suspects) (defScope s_suspects) .none kV20 dc20 pm20 an20 cd20 ct20), sl20⟩) (c20 : PySem.W.codeIn K cd20 "suspects" = true) (k20 : PySem.W.keepIn K (.ref f20) = true)
    (a21 : PySem.W.nsIn K mainGlobals "the_one" = some (some (.ref f21))) (l21 : K.lookup f21 = some ⟨oc21, od21, .func (PySem.W.fnOf "the_one" "the_one" (defArgs s_the_one) (defBody s_the_one) (defScope s_the_one) .none kV21 dc21 pm21 an21 cd21 ct21), sl21⟩) (c21 : PySem.W.codeIn K cd21 "the_one" = true) (k21 : PySem.W.keepIn K (.ref f21) = true)
    (a22 : PySem.W.nsIn K mainGlobals "is_whole" = some (some (.ref f22))) (l22 : K.lookup f22 = some ⟨oc22, od22, .func (PySem.W.fnOf "is_whole" "is_whole" (defArgs s_is_whole) (defBody s_is_whole) (defScope s_is_whole) .none kV22 dc22 pm22 an22 cd22 ct22), sl22⟩) (c22 : PySem.W.codeIn K cd22 "is_whole" = true) (k22 : PySem.W.keepIn K (.ref f22) = true)
    (a23 : PySem.W.nsIn K mainGlobals "is_route" = some (some (.ref f23))) (l23 : K.lookup f23 = some ⟨oc23, od23, .func (PySem.W.fnOf "is_route" "is_route" (defArgs s_is_route) (defBody s_is_route) (defScope s_is_route) .none kV23 dc23 pm23 an23 cd23 ct23), sl23⟩) (c23 : PySem.W.codeIn K cd23 "is_route" = true) (k23 : PySem.W.keepIn K (.ref f23) = true)
    (a24 : PySem.W.nsIn K mainGlobals "split" = some (some (.ref f24))) (l24 : K.lookup f24 = some ⟨oc24, od24, .func (PySem.W.fnOf "split" "split" (defArgs s_split) (defBody s_split) (defScope s_split) .none kV24 dc24 pm24 an24 cd24 ct24), sl24⟩) (c24 : PySem.W.codeIn K cd24 "split" = true) (k24 : PySem.W.keepIn K (.ref f24) = true)
    (a25 : PySem.W.findIn K (.ref cS) "tell" = some (some (.ref f25))) (i25 : PySem.W.isFn K (.ref f25) = true) (l25 : K.lookup f25 = some ⟨oc25, od25, .func (PySem.W.fnOf "tell" "Seeker.tell" (defArgs s_Seeker__tell) (defBody s_Seeker__tell) (defScope s_Seeker__tell) .none kV25 dc25 pm25 an25 cd25 ct25), sl25⟩) (c25 : PySem.W.codeIn K cd25 "Seeker.tell" = true) (k25 : PySem.W.keepIn K (.ref f25) = true)
    (a26 : PySem.W.findIn K (.ref cS) "back" = some (some (.ref f26))) (i26 : PySem.W.isFn K (.ref f26) = true) (l26 : K.lookup f26 = some ⟨oc26, od26, .func (PySem.W.fnOf "back" "Seeker.back" (defArgs s_Seeker__back) (defBody s_Seeker__back) (defScope s_Seeker__back) .none kV26 dc26 pm26 an26 cd26 ct26), sl26⟩) (c26 : PySem.W.codeIn K cd26 "Seeker.back" = true) (k26 : PySem.W.keepIn K (.ref f26) = true)
    (a27 : PySem.W.nsIn K mainGlobals "shortest" = some (some (.ref f27))) (l27 : K.lookup f27 = some ⟨oc27, od27, .func (PySem.W.fnOf "shortest" "shortest" (defArgs s_shortest) (defBody s_shortest) (defScope s_shortest) .none kV27 dc27 pm27 an27 cd27 ct27), sl27⟩) (c27 : PySem.W.codeIn K cd27 "shortest" = true) (k27 : PySem.W.keepIn K (.ref f27) = true)
    (a28 : PySem.W.nsIn K mainGlobals "are_rising" = some (some (.ref f28))) (l28 : K.lookup f28 = some ⟨oc28, od28, .func (PySem.W.fnOf "are_rising" "are_rising" (defArgs s_are_rising) (defBody s_are_rising) (defScope s_are_rising) .none kV28 dc28 pm28 an28 cd28 ct28), sl28⟩) (c28 : PySem.W.codeIn K cd28 "are_rising" = true) (k28 : PySem.W.keepIn K (.ref f28) = true)
    (a29 : PySem.W.nsIn K mainGlobals "is_tie" = some (some (.ref f29))) (l29 : K.lookup f29 = some ⟨oc29, od29, .func (PySem.W.fnOf "is_tie" "is_tie" (defArgs s_is_tie) (defBody s_is_tie) (defScope s_is_tie) .none kV29 dc29 pm29 an29 cd29 ct29), sl29⟩) (c29 : PySem.W.codeIn K cd29 "is_tie" = true) (k29 : PySem.W.keepIn K (.ref f29) = true)
    (a30 : PySem.W.nsIn K mainGlobals "is_net" = some (some (.ref f30))) (l30 : K.lookup f30 = some ⟨oc30, od30, .func (PySem.W.fnOf "is_net" "is_net" (defArgs s_is_net) (defBody s_is_net) (defScope s_is_net) .none kV30 dc30 pm30 an30 cd30 ct30), sl30⟩) (c30 : PySem.W.codeIn K cd30 "is_net" = true) (k30 : PySem.W.keepIn K (.ref f30) = true)
    (a31 : PySem.W.nsIn K mainGlobals "written" = some (some (.ref f31))) (l31 : K.lookup f31 = some ⟨oc31, od31, .func (PySem.W.fnOf "written" "written" (defArgs s_written) (defBody s_written) (defScope s_written) .none kV31 dc31 pm31 an31 cd31 ct31), sl31⟩) (c31 : PySem.W.codeIn K cd31 "written" = true) (k31 : PySem.W.keepIn K (.ref f31) = true)
    (a32 : PySem.W.nsIn K mainGlobals "figure_in" = some (some (.ref f32))) (l32 : K.lookup f32 = some ⟨oc32, od32, .func (PySem.W.fnOf "figure_in" "figure_in" (defArgs s_figure_in) (defBody s_figure_in) (defScope s_figure_in) .none kV32 dc32 pm32 an32 cd32 ct32), sl32⟩) (c32 : PySem.W.codeIn K cd32 "figure_in" = true) (k32 : PySem.W.keepIn K (.ref f32) = true)
    (a33 : PySem.W.nsIn K mainGlobals "tie_in" = some (some (.ref f33))) (l33 : K.lookup f33 = some ⟨oc33, od33, .func (PySem.W.fnOf "tie_in" "tie_in" (defArgs s_tie_in) (defBody s_tie_in) (defScope s_tie_in) .none kV33 dc33 pm33 an33 cd33 ct33), sl33⟩) (c33 : PySem.W.codeIn K cd33 "tie_in" = true) (k33 : PySem.W.keepIn K (.ref f33) = true)
    (a34 : PySem.W.nsIn K mainGlobals "read" = some (some (.ref f34))) (l34 : K.lookup f34 = some ⟨oc34, od34, .func (PySem.W.fnOf "read" "read" (defArgs s_read) (defBody s_read) (defScope s_read) .none kV34 dc34 pm34 an34 cd34 ct34), sl34⟩) (c34 : PySem.W.codeIn K cd34 "read" = true) (k34 : PySem.W.keepIn K (.ref f34) = true)
    (a35 : PySem.W.nsIn K mainGlobals "_law_plain" = some (some (.ref f35))) (l35 : K.lookup f35 = some ⟨oc35, od35, .func (PySem.W.fnOf "_law_plain" "_law_plain" (defArgs s__law_plain) (defBody s__law_plain) (defScope s__law_plain) .none kV35 dc35 pm35 an35 cd35 ct35), sl35⟩) (c35 : PySem.W.codeIn K cd35 "_law_plain" = true) (k35 : PySem.W.keepIn K (.ref f35) = true)
    (a36 : PySem.W.nsIn K mainGlobals "_law_told" = some (some (.ref f36))) (l36 : K.lookup f36 = some ⟨oc36, od36, .func (PySem.W.fnOf "_law_told" "_law_told" (defArgs s__law_told) (defBody s__law_told) (defScope s__law_told) .none kV36 dc36 pm36 an36 cd36 ct36), sl36⟩) (c36 : PySem.W.codeIn K cd36 "_law_told" = true) (k36 : PySem.W.keepIn K (.ref f36) = true)
    (a37 : PySem.W.nsIn K mainGlobals "_law_due" = some (some (.ref f37))) (l37 : K.lookup f37 = some ⟨oc37, od37, .func (PySem.W.fnOf "_law_due" "_law_due" (defArgs s__law_due) (defBody s__law_due) (defScope s__law_due) .none kV37 dc37 pm37 an37 cd37 ct37), sl37⟩) (c37 : PySem.W.codeIn K cd37 "_law_due" = true) (k37 : PySem.W.keepIn K (.ref f37) = true)
    (a38 : PySem.W.nsIn K mainGlobals "law" = some (some (.ref f38))) (l38 : K.lookup f38 = some ⟨oc38, od38, .func (PySem.W.fnOf "law" "law" (defArgs s_law) (defBody s_law) (defScope s_law) .none kV38 dc38 pm38 an38 cd38 ct38), sl38⟩) (c38 : PySem.W.codeIn K cd38 "law" = true) (k38 : PySem.W.keepIn K (.ref f38) = true)
    (z0 : PySem.W.nsIn K mainGlobals "ValueError" = some none)
    (z1 : PySem.W.nsIn K mainGlobals "all" = some none)
    (z2 : PySem.W.nsIn K mainGlobals "any" = some none)
    (z3 : PySem.W.nsIn K mainGlobals "bool" = some none)
    (z4 : PySem.W.nsIn K mainGlobals "enumerate" = some none)
    (z5 : PySem.W.nsIn K mainGlobals "int" = some none)
    (z6 : PySem.W.nsIn K mainGlobals "isinstance" = some none)
    (z7 : PySem.W.nsIn K mainGlobals "len" = some none)
    (z8 : PySem.W.nsIn K mainGlobals "max" = some none)
    (z9 : PySem.W.nsIn K mainGlobals "min" = some none)
    (z10 : PySem.W.nsIn K mainGlobals "range" = some none)
    (z11 : PySem.W.nsIn K mainGlobals "set" = some none)
    (z12 : PySem.W.nsIn K mainGlobals "sorted" = some none)
    (z13 : PySem.W.nsIn K mainGlobals "str" = some none)
    (z14 : PySem.W.nsIn K mainGlobals "tuple" = some none)
    (z15 : PySem.W.nsIn K mainGlobals "zip" = some none)
    (m0 : PySem.W.nsIn K mainGlobals "FIGURES" = some (some (.str "0123456789" tk0)))
    (m1 : PySem.W.nsIn K mainGlobals "KNOTS_MOST" = some (some (.int 7 tk1)))
    (m2 : PySem.W.nsIn K mainGlobals "TIES_MOST" = some (some (.int 9 tk2)))
    (ea0 : PySem.W.nsIn K mainGlobals "NoRoute" = some (some (.ref e0))) (eq0 : PySem.W.excIn K e0 bm0 ni0 = true) (ek0 : PySem.W.keepIn K (.ref e0) = true) (eb0 : PySem.W.subIn K (.ref e0) (.type "BaseException") = some true) (et0 : PySem.W.typeIn K (.ref e0) = some (.type "type")) (eh0 : PySem.W.hasDictIn K e0 = true) (es0 : PySem.W.subIn K (.ref e0) (.ref e0) = some true)
    (ea1 : PySem.W.nsIn K mainGlobals "NoStep" = some (some (.ref e1))) (eq1 : PySem.W.excIn K e1 bm1 ni1 = true) (ek1 : PySem.W.keepIn K (.ref e1) = true) (eb1 : PySem.W.subIn K (.ref e1) (.type "BaseException") = some true) (et1 : PySem.W.typeIn K (.ref e1) = some (.type "type")) (eh1 : PySem.W.hasDictIn K e1 = true) (es1 : PySem.W.subIn K (.ref e1) (.ref e1) = some true)
    (ea2 : PySem.W.nsIn K mainGlobals "NoSuspect" = some (some (.ref e2))) (eq2 : PySem.W.excIn K e2 bm2 ni2 = true) (ek2 : PySem.W.keepIn K (.ref e2) = true) (eb2 : PySem.W.subIn K (.ref e2) (.type "BaseException") = some true) (et2 : PySem.W.typeIn K (.ref e2) = some (.type "type")) (eh2 : PySem.W.hasDictIn K e2 = true) (es2 : PySem.W.subIn K (.ref e2) (.ref e2) = some true)
    (ea3 : PySem.W.nsIn K mainGlobals "NoText" = some (some (.ref e3))) (eq3 : PySem.W.excIn K e3 bm3 ni3 = true) (ek3 : PySem.W.keepIn K (.ref e3) = true) (eb3 : PySem.W.subIn K (.ref e3) (.type "BaseException") = some true) (et3 : PySem.W.typeIn K (.ref e3) = some (.type "type")) (eh3 : PySem.W.hasDictIn K e3 = true) (es3 : PySem.W.subIn K (.ref e3) (.ref e3) = some true)
    (ea4 : PySem.W.nsIn K mainGlobals "NoTie" = some (some (.ref e4))) (eq4 : PySem.W.excIn K e4 bm4 ni4 = true) (ek4 : PySem.W.keepIn K (.ref e4) = true) (eb4 : PySem.W.subIn K (.ref e4) (.type "BaseException") = some true) (et4 : PySem.W.typeIn K (.ref e4) = some (.type "type")) (eh4 : PySem.W.hasDictIn K e4 = true) (es4 : PySem.W.subIn K (.ref e4) (.ref e4) = some true)
    (pa : PySem.W.nsIn K mainGlobals "ProbeError" = some (some (.ref eP))) (pb : PySem.W.subIn K (.ref eP) (.type "BaseException") = some true) (ph : PySem.W.hasDictIn K eP = true) (pt : PySem.W.typeIn K (.ref eP) = some (.type "type")) (pn : PySem.W.specialIn K (.builtin "object.__class__") "__get__" = some (some (.builtin "getset_descriptor.__get__"))) (pk : PySem.W.takesIn K (.builtin "object.__class__") = some true)
    (xg0 : PySem.W.findIn K (.ref e0) "__getattribute__" = some (some (.builtin "BaseException.__getattribute__"))) (xk0 : PySem.W.findIn K (.ref e0) "__getattr__" = some none) (xa0 : PySem.W.findIn K (.ref e0) "__class__" = some (some (.builtin "object.__class__"))) (xm0 : PySem.W.mroIn K e0 (.type "object") = some true) (xp0 : PySem.W.subIn K (.ref e0) (.ref eP) = some true) (xv0 : PySem.W.subIn K (.ref e0) (.type "ValueError") = some true)
    (xg1 : PySem.W.findIn K (.ref e1) "__getattribute__" = some (some (.builtin "BaseException.__getattribute__"))) (xk1 : PySem.W.findIn K (.ref e1) "__getattr__" = some none) (xa1 : PySem.W.findIn K (.ref e1) "__class__" = some (some (.builtin "object.__class__"))) (xm1 : PySem.W.mroIn K e1 (.type "object") = some true) (xp1 : PySem.W.subIn K (.ref e1) (.ref eP) = some true) (xv1 : PySem.W.subIn K (.ref e1) (.type "ValueError") = some true)
    (xg2 : PySem.W.findIn K (.ref e2) "__getattribute__" = some (some (.builtin "BaseException.__getattribute__"))) (xk2 : PySem.W.findIn K (.ref e2) "__getattr__" = some none) (xa2 : PySem.W.findIn K (.ref e2) "__class__" = some (some (.builtin "object.__class__"))) (xm2 : PySem.W.mroIn K e2 (.type "object") = some true) (xp2 : PySem.W.subIn K (.ref e2) (.ref eP) = some true) (xv2 : PySem.W.subIn K (.ref e2) (.type "ValueError") = some true)
    (xg3 : PySem.W.findIn K (.ref e3) "__getattribute__" = some (some (.builtin "BaseException.__getattribute__"))) (xk3 : PySem.W.findIn K (.ref e3) "__getattr__" = some none) (xa3 : PySem.W.findIn K (.ref e3) "__class__" = some (some (.builtin "object.__class__"))) (xm3 : PySem.W.mroIn K e3 (.type "object") = some true) (xp3 : PySem.W.subIn K (.ref e3) (.ref eP) = some true) (xv3 : PySem.W.subIn K (.ref e3) (.type "ValueError") = some true)
    (xg4 : PySem.W.findIn K (.ref e4) "__getattribute__" = some (some (.builtin "BaseException.__getattribute__"))) (xk4 : PySem.W.findIn K (.ref e4) "__getattr__" = some none) (xa4 : PySem.W.findIn K (.ref e4) "__class__" = some (some (.builtin "object.__class__"))) (xm4 : PySem.W.mroIn K e4 (.type "object") = some true) (xp4 : PySem.W.subIn K (.ref e4) (.ref eP) = some true) (xv4 : PySem.W.subIn K (.ref e4) (.type "ValueError") = some true)
    (ed1_0 : PySem.W.subIn K (.ref e1) (.ref e0) = some false)
    (ed2_0 : PySem.W.subIn K (.ref e2) (.ref e0) = some false)
    (ed3_0 : PySem.W.subIn K (.ref e3) (.ref e0) = some false)
    (ed4_0 : PySem.W.subIn K (.ref e4) (.ref e0) = some false)
    (ed0_1 : PySem.W.subIn K (.ref e0) (.ref e1) = some false)
    (ed2_1 : PySem.W.subIn K (.ref e2) (.ref e1) = some false)
    (ed3_1 : PySem.W.subIn K (.ref e3) (.ref e1) = some false)
    (ed4_1 : PySem.W.subIn K (.ref e4) (.ref e1) = some false)
    (ed0_2 : PySem.W.subIn K (.ref e0) (.ref e2) = some false)
    (ed1_2 : PySem.W.subIn K (.ref e1) (.ref e2) = some false)
    (ed3_2 : PySem.W.subIn K (.ref e3) (.ref e2) = some false)
    (ed4_2 : PySem.W.subIn K (.ref e4) (.ref e2) = some false)
    (ed0_3 : PySem.W.subIn K (.ref e0) (.ref e3) = some false)
    (ed1_3 : PySem.W.subIn K (.ref e1) (.ref e3) = some false)
    (ed2_3 : PySem.W.subIn K (.ref e2) (.ref e3) = some false)
    (ed4_3 : PySem.W.subIn K (.ref e4) (.ref e3) = some false)
    (ed0_4 : PySem.W.subIn K (.ref e0) (.ref e4) = some false)
    (ed1_4 : PySem.W.subIn K (.ref e1) (.ref e4) = some false)
    (ed2_4 : PySem.W.subIn K (.ref e2) (.ref e4) = some false)
    (ed3_4 : PySem.W.subIn K (.ref e3) (.ref e4) = some false)
    : ∃ fd : FuncData, (∀ (s : Shared) (v : Value), BindsTo s fd ⟨[v], []⟩ [("_law_script", v)]) ∧ ∀ base : Heap, K.In base → base.Ns mainGlobals mg → FnOk l.prog w K mg base CX0 47 fa fd ["_law_script"] (spF K 1 g_law) := by
  have e := hfa.symm.trans (PySem.W.mg_of X G a38)
  cases e
  have F0 := fun_mk (st := s_beside) l0 c0 k0
  have b0 := F0.binds (ps := ["net", "knot"]) fun _ _ _ _ _ _ us hl => match us, hl with | [_, _], _ => rfl
  have F1 := fun_mk (st := s_without) l1 c1 k1
  have b1 := F1.binds (ps := ["net", "broken"]) fun _ _ _ _ _ _ us hl => match us, hl with | [_, _], _ => rfl
  have F2 := fun_mk (st := s_reached) l2 c2 k2
  have b2 := F2.binds (ps := ["net", "broken", "knot"]) fun _ _ _ _ _ _ us hl => match us, hl with | [_, _, _], _ => rfl
  have F3 := fun_mk (st := s_led_on) l3 c3 k3
  have b3 := F3.binds (ps := ["net", "way"]) fun _ _ _ _ _ _ us hl => match us, hl with | [_, _], _ => rfl
  have F4 := fun_mk (st := s_routes) l4 c4 k4
  have b4 := F4.binds (ps := ["net"]) fun _ _ _ _ _ _ us hl => match us, hl with | [_], _ => rfl
  have F5 := fun_mk (st := s_tie_between) l5 c5 k5
  have b5 := F5.binds (ps := ["net", "one", "other"]) fun _ _ _ _ _ _ us hl => match us, hl with | [_, _, _], _ => rfl
  have F6 := fun_mk (st := s_ties_of) l6 c6 k6
  have b6 := F6.binds (ps := ["net", "route"]) fun _ _ _ _ _ _ us hl => match us, hl with | [_, _], _ => rfl
  have F7 := fun_mk (st := s_failing) l7 c7 k7
  have b7 := F7.binds (ps := ["net", "probes"]) fun _ _ _ _ _ _ us hl => match us, hl with | [_, _], _ => rfl
  have F8 := fun_mk (st := s_unseen) l8 c8 k8
  have b8 := F8.binds (ps := ["net", "probes"]) fun _ _ _ _ _ _ us hl => match us, hl with | [_, _], _ => rfl
  have F9 := fun_mk (st := s_twins) l9 c9 k9
  have b9 := F9.binds (ps := ["net", "probes"]) fun _ _ _ _ _ _ us hl => match us, hl with | [_, _], _ => rfl
  have F10 := fun_mk (st := s_kinds) l10 c10 k10
  have b10 := F10.binds (ps := ["net"]) fun _ _ _ _ _ _ us hl => match us, hl with | [_], _ => rfl
  have F11 := fun_mk (st := s_cases) l11 c11 k11
  have b11 := F11.binds (ps := ["net"]) fun _ _ _ _ _ _ us hl => match us, hl with | [_], _ => rfl
  have F12 := fun_mk (st := s_Seeker__init) l12 c12 k12
  have b12 := F12.binds (ps := ["self", "net"]) fun _ _ _ _ _ _ us hl => match us, hl with | [_, _], _ => rfl
  have F13 := fun_mk (st := s_Seeker__left) l13 c13 k13
  have b13 := F13.binds (ps := ["self"]) fun _ _ _ _ _ _ us hl => match us, hl with | [_], _ => rfl
  have F14 := fun_mk (st := s_Seeker__history) l14 c14 k14
  have b14 := F14.binds (ps := ["self"]) fun _ _ _ _ _ _ us hl => match us, hl with | [_], _ => rfl
  have F15 := fun_mk (st := s__law_draw) l15 c15 k15
  have b15 := F15.binds (ps := ["_law_script", "_law_town", "_law_many"]) fun _ _ _ _ _ _ us hl => match us, hl with | [_, _, _], _ => rfl
  have F16 := fun_mk (st := s__law_pick) l16 c16 k16
  have b16 := F16.binds (ps := ["_law_script", "_law_town", "_law_some"]) fun _ _ _ _ _ _ us hl => match us, hl with | [_, _, _], _ => rfl
  have F17 := fun_mk (st := s__law_net) l17 c17 k17
  have b17 := F17.binds (ps := ["_law_script", "_law_town", "_law_knots", "_law_ties"]) fun _ _ _ _ _ _ us hl => match us, hl with | [_, _, _, _], _ => rfl
  have F18 := fun_mk (st := s__law_kind) l18 c18 k18
  have b18 := F18.binds (ps := ["_law_error"]) fun _ _ _ _ _ _ us hl => match us, hl with | [_], _ => rfl
  have F19 := fun_mk (st := s_shows) l19 c19 k19
  have b19 := F19.binds (ps := ["net", "probes", "broken"]) fun _ _ _ _ _ _ us hl => match us, hl with | [_, _, _], _ => rfl
  have F20 := fun_mk (st := s_suspects) l20 c20 k20
  have b20 := F20.binds (ps := ["net", "probes", "shown"]) fun _ _ _ _ _ _ us hl => match us, hl with | [_, _, _], _ => rfl
  have F21 := fun_mk (st := s_the_one) l21 c21 k21
  have b21 := F21.binds (ps := ["net", "probes", "shown"]) fun _ _ _ _ _ _ us hl => match us, hl with | [_, _, _], _ => rfl
  have F22 := fun_mk (st := s_is_whole) l22 c22 k22
  have b22 := F22.binds (ps := ["thing", "low", "high"]) fun _ _ _ _ _ _ us hl => match us, hl with | [_, _, _], _ => rfl
  have F23 := fun_mk (st := s_is_route) l23 c23 k23
  have b23 := F23.binds (ps := ["net", "thing"]) fun _ _ _ _ _ _ us hl => match us, hl with | [_, _], _ => rfl
  have F24 := fun_mk (st := s_split) l24 c24 k24
  have b24 := F24.binds (ps := ["net", "route", "some"]) fun _ _ _ _ _ _ us hl => match us, hl with | [_, _, _], _ => rfl
  have F25 := fun_mk (st := s_Seeker__tell) l25 c25 k25
  have b25 := F25.binds (ps := ["self", "route", "is_shown"]) fun _ _ _ _ _ _ us hl => match us, hl with | [_, _, _], _ => rfl
  have F26 := fun_mk (st := s_Seeker__back) l26 c26 k26
  have b26 := F26.binds (ps := ["self"]) fun _ _ _ _ _ _ us hl => match us, hl with | [_], _ => rfl
  have F27 := fun_mk (st := s_shortest) l27 c27 k27
  have b27 := F27.binds (ps := ["net", "one", "other"]) fun _ _ _ _ _ _ us hl => match us, hl with | [_, _, _], _ => rfl
  have F28 := fun_mk (st := s_are_rising) l28 c28 k28
  have b28 := F28.binds (ps := ["row"]) fun _ _ _ _ _ _ us hl => match us, hl with | [_], _ => rfl
  have F29 := fun_mk (st := s_is_tie) l29 c29 k29
  have b29 := F29.binds (ps := ["thing", "many"]) fun _ _ _ _ _ _ us hl => match us, hl with | [_, _], _ => rfl
  have F30 := fun_mk (st := s_is_net) l30 c30 k30
  have b30 := F30.binds (ps := ["thing"]) fun _ _ _ _ _ _ us hl => match us, hl with | [_], _ => rfl
  have F31 := fun_mk (st := s_written) l31 c31 k31
  have b31 := F31.binds (ps := ["net"]) fun _ _ _ _ _ _ us hl => match us, hl with | [_], _ => rfl
  have F32 := fun_mk (st := s_figure_in) l32 c32 k32
  have b32 := F32.binds (ps := ["sign"]) fun _ _ _ _ _ _ us hl => match us, hl with | [_], _ => rfl
  have F33 := fun_mk (st := s_tie_in) l33 c33 k33
  have b33 := F33.binds (ps := ["part"]) fun _ _ _ _ _ _ us hl => match us, hl with | [_], _ => rfl
  have F34 := fun_mk (st := s_read) l34 c34 k34
  have b34 := F34.binds (ps := ["text"]) fun _ _ _ _ _ _ us hl => match us, hl with | [_], _ => rfl
  have F35 := fun_mk (st := s__law_plain) l35 c35 k35
  have b35 := F35.binds (ps := ["_law_word", "_law_net_here", "_law_seeker", "_law_one", "_law_other"]) fun _ _ _ _ _ _ us hl => match us, hl with | [_, _, _, _, _], _ => rfl
  have F36 := fun_mk (st := s__law_told) l36 c36 k36
  have b36 := F36.binds (ps := ["_law_word", "_law_net_here", "_law_seeker", "_law_one", "_law_other"]) fun _ _ _ _ _ _ us hl => match us, hl with | [_, _, _, _, _], _ => rfl
  have F37 := fun_mk (st := s__law_due) l37 c37 k37
  have b37 := F37.binds (ps := ["_law_at"]) fun _ _ _ _ _ _ us hl => match us, hl with | [_], _ => rfl
  have F38 := fun_mk (st := s_law) l38 c38 k38
  have b38 := F38.binds (ps := ["_law_script"]) fun _ _ _ _ _ _ us hl => match us, hl with | [_], _ => rfl
  have E0 : Err K mg "NoRoute" e0 := ⟨⟨_, _, _, _, ef0, eq0⟩, PySem.W.mg_of X G ea0, ek0, eb0, et0, PySem.W.exm_ref eb0 eh0 et0 es0⟩
  have E1 : Err K mg "NoStep" e1 := ⟨⟨_, _, _, _, ef1, eq1⟩, PySem.W.mg_of X G ea1, ek1, eb1, et1, PySem.W.exm_ref eb1 eh1 et1 es1⟩
  have E2 : Err K mg "NoSuspect" e2 := ⟨⟨_, _, _, _, ef2, eq2⟩, PySem.W.mg_of X G ea2, ek2, eb2, et2, PySem.W.exm_ref eb2 eh2 et2 es2⟩
  have E3 : Err K mg "NoText" e3 := ⟨⟨_, _, _, _, ef3, eq3⟩, PySem.W.mg_of X G ea3, ek3, eb3, et3, PySem.W.exm_ref eb3 eh3 et3 es3⟩
  have E4 : Err K mg "NoTie" e4 := ⟨⟨_, _, _, _, ef4, eq4⟩, PySem.W.mg_of X G ea4, ek4, eb4, et4, PySem.W.exm_ref eb4 eh4 et4 es4⟩
  have SU : ∀ c ∈ rs_errs, ∀ C, mg (Str.ofString c) = some (.ref C) → PySem.W.exmOne K (.ref C) (.ref eP) = some true := by
    intro c mc C hC
    simp only [rs_errs, List.mem_cons, List.not_mem_nil, or_false] at mc
    rcases mc with rfl | rfl | rfl | rfl | rfl
    · have q := hC.symm.trans (PySem.W.mg_of X G ea0)
      cases q
      exact PySem.W.exm_ref pb ph pt xp0
    · have q := hC.symm.trans (PySem.W.mg_of X G ea1)
      cases q
      exact PySem.W.exm_ref pb ph pt xp1
    · have q := hC.symm.trans (PySem.W.mg_of X G ea2)
      cases q
      exact PySem.W.exm_ref pb ph pt xp2
    · have q := hC.symm.trans (PySem.W.mg_of X G ea3)
      cases q
      exact PySem.W.exm_ref pb ph pt xp3
    · have q := hC.symm.trans (PySem.W.mg_of X G ea4)
      cases q
      exact PySem.W.exm_ref pb ph pt xp4
  have XC : ∀ c ∈ rs_errs, ∀ C, mg (Str.ofString c) = some (.ref C) → ExcC K C := by
    intro c mc C hC
    simp only [rs_errs, List.mem_cons, List.not_mem_nil, or_false] at mc
    rcases mc with rfl | rfl | rfl | rfl | rfl
    · have q := hC.symm.trans (PySem.W.mg_of X G ea0)
      cases q
      exact ⟨xg0, xk0, eb0, eh0, xa0, pn, pk, xm0⟩
    · have q := hC.symm.trans (PySem.W.mg_of X G ea1)
      cases q
      exact ⟨xg1, xk1, eb1, eh1, xa1, pn, pk, xm1⟩
    · have q := hC.symm.trans (PySem.W.mg_of X G ea2)
      cases q
      exact ⟨xg2, xk2, eb2, eh2, xa2, pn, pk, xm2⟩
    · have q := hC.symm.trans (PySem.W.mg_of X G ea3)
      cases q
      exact ⟨xg3, xk3, eb3, eh3, xa3, pn, pk, xm3⟩
    · have q := hC.symm.trans (PySem.W.mg_of X G ea4)
      cases q
      exact ⟨xg4, xk4, eb4, eh4, xa4, pn, pk, xm4⟩
  have KT0 : ∀ c ∈ rs_errs, ∀ C, mg (Str.ofString c) = some (.ref C) → PySem.W.kitOne K (.ref C) (.ref e0) = some (decide (c = "NoRoute")) := by
    intro c mc C hC
    simp only [rs_errs, List.mem_cons, List.not_mem_nil, or_false] at mc
    rcases mc with rfl | rfl | rfl | rfl | rfl
    · have q := hC.symm.trans (PySem.W.mg_of X G ea0)
      cases q
      exact (kit_of_exm (PySem.W.exm_ref eb0 eh0 et0 es0) fun _ => rfl).trans (by decide +kernel)
    · have q := hC.symm.trans (PySem.W.mg_of X G ea1)
      cases q
      exact (kit_of_exm (PySem.W.exm_ref eb0 eh0 et0 ed1_0) fun q => by cases q; rw [es0] at ed1_0; cases ed1_0).trans (by decide +kernel)
    · have q := hC.symm.trans (PySem.W.mg_of X G ea2)
      cases q
      exact (kit_of_exm (PySem.W.exm_ref eb0 eh0 et0 ed2_0) fun q => by cases q; rw [es0] at ed2_0; cases ed2_0).trans (by decide +kernel)
    · have q := hC.symm.trans (PySem.W.mg_of X G ea3)
      cases q
      exact (kit_of_exm (PySem.W.exm_ref eb0 eh0 et0 ed3_0) fun q => by cases q; rw [es0] at ed3_0; cases ed3_0).trans (by decide +kernel)
    · have q := hC.symm.trans (PySem.W.mg_of X G ea4)
      cases q
      exact (kit_of_exm (PySem.W.exm_ref eb0 eh0 et0 ed4_0) fun q => by cases q; rw [es0] at ed4_0; cases ed4_0).trans (by decide +kernel)
  have KT1 : ∀ c ∈ rs_errs, ∀ C, mg (Str.ofString c) = some (.ref C) → PySem.W.kitOne K (.ref C) (.ref e1) = some (decide (c = "NoStep")) := by
    intro c mc C hC
    simp only [rs_errs, List.mem_cons, List.not_mem_nil, or_false] at mc
    rcases mc with rfl | rfl | rfl | rfl | rfl
    · have q := hC.symm.trans (PySem.W.mg_of X G ea0)
      cases q
      exact (kit_of_exm (PySem.W.exm_ref eb1 eh1 et1 ed0_1) fun q => by cases q; rw [es1] at ed0_1; cases ed0_1).trans (by decide +kernel)
    · have q := hC.symm.trans (PySem.W.mg_of X G ea1)
      cases q
      exact (kit_of_exm (PySem.W.exm_ref eb1 eh1 et1 es1) fun _ => rfl).trans (by decide +kernel)
    · have q := hC.symm.trans (PySem.W.mg_of X G ea2)
      cases q
      exact (kit_of_exm (PySem.W.exm_ref eb1 eh1 et1 ed2_1) fun q => by cases q; rw [es1] at ed2_1; cases ed2_1).trans (by decide +kernel)
    · have q := hC.symm.trans (PySem.W.mg_of X G ea3)
      cases q
      exact (kit_of_exm (PySem.W.exm_ref eb1 eh1 et1 ed3_1) fun q => by cases q; rw [es1] at ed3_1; cases ed3_1).trans (by decide +kernel)
    · have q := hC.symm.trans (PySem.W.mg_of X G ea4)
      cases q
      exact (kit_of_exm (PySem.W.exm_ref eb1 eh1 et1 ed4_1) fun q => by cases q; rw [es1] at ed4_1; cases ed4_1).trans (by decide +kernel)
  have KT2 : ∀ c ∈ rs_errs, ∀ C, mg (Str.ofString c) = some (.ref C) → PySem.W.kitOne K (.ref C) (.ref e2) = some (decide (c = "NoSuspect")) := by
    intro c mc C hC
    simp only [rs_errs, List.mem_cons, List.not_mem_nil, or_false] at mc
    rcases mc with rfl | rfl | rfl | rfl | rfl
    · have q := hC.symm.trans (PySem.W.mg_of X G ea0)
      cases q
      exact (kit_of_exm (PySem.W.exm_ref eb2 eh2 et2 ed0_2) fun q => by cases q; rw [es2] at ed0_2; cases ed0_2).trans (by decide +kernel)
    · have q := hC.symm.trans (PySem.W.mg_of X G ea1)
      cases q
      exact (kit_of_exm (PySem.W.exm_ref eb2 eh2 et2 ed1_2) fun q => by cases q; rw [es2] at ed1_2; cases ed1_2).trans (by decide +kernel)
    · have q := hC.symm.trans (PySem.W.mg_of X G ea2)
      cases q
      exact (kit_of_exm (PySem.W.exm_ref eb2 eh2 et2 es2) fun _ => rfl).trans (by decide +kernel)
    · have q := hC.symm.trans (PySem.W.mg_of X G ea3)
      cases q
      exact (kit_of_exm (PySem.W.exm_ref eb2 eh2 et2 ed3_2) fun q => by cases q; rw [es2] at ed3_2; cases ed3_2).trans (by decide +kernel)
    · have q := hC.symm.trans (PySem.W.mg_of X G ea4)
      cases q
      exact (kit_of_exm (PySem.W.exm_ref eb2 eh2 et2 ed4_2) fun q => by cases q; rw [es2] at ed4_2; cases ed4_2).trans (by decide +kernel)
  have KT3 : ∀ c ∈ rs_errs, ∀ C, mg (Str.ofString c) = some (.ref C) → PySem.W.kitOne K (.ref C) (.ref e3) = some (decide (c = "NoText")) := by
    intro c mc C hC
    simp only [rs_errs, List.mem_cons, List.not_mem_nil, or_false] at mc
    rcases mc with rfl | rfl | rfl | rfl | rfl
    · have q := hC.symm.trans (PySem.W.mg_of X G ea0)
      cases q
      exact (kit_of_exm (PySem.W.exm_ref eb3 eh3 et3 ed0_3) fun q => by cases q; rw [es3] at ed0_3; cases ed0_3).trans (by decide +kernel)
    · have q := hC.symm.trans (PySem.W.mg_of X G ea1)
      cases q
      exact (kit_of_exm (PySem.W.exm_ref eb3 eh3 et3 ed1_3) fun q => by cases q; rw [es3] at ed1_3; cases ed1_3).trans (by decide +kernel)
    · have q := hC.symm.trans (PySem.W.mg_of X G ea2)
      cases q
      exact (kit_of_exm (PySem.W.exm_ref eb3 eh3 et3 ed2_3) fun q => by cases q; rw [es3] at ed2_3; cases ed2_3).trans (by decide +kernel)
    · have q := hC.symm.trans (PySem.W.mg_of X G ea3)
      cases q
      exact (kit_of_exm (PySem.W.exm_ref eb3 eh3 et3 es3) fun _ => rfl).trans (by decide +kernel)
    · have q := hC.symm.trans (PySem.W.mg_of X G ea4)
      cases q
      exact (kit_of_exm (PySem.W.exm_ref eb3 eh3 et3 ed4_3) fun q => by cases q; rw [es3] at ed4_3; cases ed4_3).trans (by decide +kernel)
  have KT4 : ∀ c ∈ rs_errs, ∀ C, mg (Str.ofString c) = some (.ref C) → PySem.W.kitOne K (.ref C) (.ref e4) = some (decide (c = "NoTie")) := by
    intro c mc C hC
    simp only [rs_errs, List.mem_cons, List.not_mem_nil, or_false] at mc
    rcases mc with rfl | rfl | rfl | rfl | rfl
    · have q := hC.symm.trans (PySem.W.mg_of X G ea0)
      cases q
      exact (kit_of_exm (PySem.W.exm_ref eb4 eh4 et4 ed0_4) fun q => by cases q; rw [es4] at ed0_4; cases ed0_4).trans (by decide +kernel)
    · have q := hC.symm.trans (PySem.W.mg_of X G ea1)
      cases q
      exact (kit_of_exm (PySem.W.exm_ref eb4 eh4 et4 ed1_4) fun q => by cases q; rw [es4] at ed1_4; cases ed1_4).trans (by decide +kernel)
    · have q := hC.symm.trans (PySem.W.mg_of X G ea2)
      cases q
      exact (kit_of_exm (PySem.W.exm_ref eb4 eh4 et4 ed2_4) fun q => by cases q; rw [es4] at ed2_4; cases ed2_4).trans (by decide +kernel)
    · have q := hC.symm.trans (PySem.W.mg_of X G ea3)
      cases q
      exact (kit_of_exm (PySem.W.exm_ref eb4 eh4 et4 ed3_4) fun q => by cases q; rw [es4] at ed3_4; cases ed3_4).trans (by decide +kernel)
    · have q := hC.symm.trans (PySem.W.mg_of X G ea4)
      cases q
      exact (kit_of_exm (PySem.W.exm_ref eb4 eh4 et4 es4) fun _ => rfl).trans (by decide +kernel)
  have KP : ∀ c ∈ rs_errs, ∀ C, mg (Str.ofString c) = some (.ref C) → PySem.W.kitOne K (.ref C) (.ref eP) = some true := by
    intro c mc C hC
    simp only [rs_errs, List.mem_cons, List.not_mem_nil, or_false] at mc
    rcases mc with rfl | rfl | rfl | rfl | rfl
    · have q := hC.symm.trans (PySem.W.mg_of X G ea0)
      cases q
      exact kit_of_exm (PySem.W.exm_ref pb ph pt xp0) fun _ => rfl
    · have q := hC.symm.trans (PySem.W.mg_of X G ea1)
      cases q
      exact kit_of_exm (PySem.W.exm_ref pb ph pt xp1) fun _ => rfl
    · have q := hC.symm.trans (PySem.W.mg_of X G ea2)
      cases q
      exact kit_of_exm (PySem.W.exm_ref pb ph pt xp2) fun _ => rfl
    · have q := hC.symm.trans (PySem.W.mg_of X G ea3)
      cases q
      exact kit_of_exm (PySem.W.exm_ref pb ph pt xp3) fun _ => rfl
    · have q := hC.symm.trans (PySem.W.mg_of X G ea4)
      cases q
      exact kit_of_exm (PySem.W.exm_ref pb ph pt xp4) fun _ => rfl
  have KV : ∀ c ∈ rs_errs, ∀ C, mg (Str.ofString c) = some (.ref C) → PySem.W.kitOne K (.ref C) (.type "ValueError") = some true := by
    intro c mc C hC
    simp only [rs_errs, List.mem_cons, List.not_mem_nil, or_false] at mc
    rcases mc with rfl | rfl | rfl | rfl | rfl
    · have q := hC.symm.trans (PySem.W.mg_of X G ea0)
      cases q
      exact kit_of_sub xv0 kit_value
    · have q := hC.symm.trans (PySem.W.mg_of X G ea1)
      cases q
      exact kit_of_sub xv1 kit_value
    · have q := hC.symm.trans (PySem.W.mg_of X G ea2)
      cases q
      exact kit_of_sub xv2 kit_value
    · have q := hC.symm.trans (PySem.W.mg_of X G ea3)
      cases q
      exact kit_of_sub xv3 kit_value
    · have q := hC.symm.trans (PySem.W.mg_of X G ea4)
      cases q
      exact kit_of_sub xv4 kit_value
  have SC : SkC K cS := ⟨sa, ⟨sg, sh, sp, ss⟩, sn, sr, st⟩
  have C : Cx1 K mg ⟨f0, _, f1, _, f2, _, f3, _, f4, _, f5, _, f6, _, f7, _, f8, _, f9, _, f10, _, f11, _, f12, _, f13, _, f14, _, f15, _, f16, _, f17, _, f18, _, f19, _, f20, _, f21, _, f22, _, f23, _, f24, _, f25, _, f26, _, f27, _, f28, _, f29, _, f30, _, f31, _, f32, _, f33, _, f34, _, f35, _, f36, _, f37, _, fa, _, e0, e1, e2, e3, e4, eP, cS⟩ := ⟨F0, b0, PySem.W.mg_of X G a0, F1, b1, PySem.W.mg_of X G a1, F2, b2, PySem.W.mg_of X G a2, F3, b3, PySem.W.mg_of X G a3, F4, b4, PySem.W.mg_of X G a4, F5, b5, PySem.W.mg_of X G a5, F6, b6, PySem.W.mg_of X G a6, F7, b7, PySem.W.mg_of X G a7, F8, b8, PySem.W.mg_of X G a8, F9, b9, PySem.W.mg_of X G a9, F10, b10, PySem.W.mg_of X G a10, F11, b11, PySem.W.mg_of X G a11, F12, b12, ⟨sm, a12, i12, sk⟩, F13, b13, ⟨a13, i13, k13⟩, F14, b14, ⟨a14, i14, k14⟩, F15, b15, PySem.W.mg_of X G a15, F16, b16, PySem.W.mg_of X G a16, F17, b17, PySem.W.mg_of X G a17, F18, b18, PySem.W.mg_of X G a18, F19, b19, PySem.W.mg_of X G a19, F20, b20, PySem.W.mg_of X G a20, F21, b21, PySem.W.mg_of X G a21, F22, b22, PySem.W.mg_of X G a22, F23, b23, PySem.W.mg_of X G a23, F24, b24, PySem.W.mg_of X G a24, F25, b25, ⟨a25, i25, k25⟩, F26, b26, ⟨a26, i26, k26⟩, F27, b27, PySem.W.mg_of X G a27, F28, b28, PySem.W.mg_of X G a28, F29, b29, PySem.W.mg_of X G a29, F30, b30, PySem.W.mg_of X G a30, F31, b31, PySem.W.mg_of X G a31, F32, b32, PySem.W.mg_of X G a32, F33, b33, PySem.W.mg_of X G a33, F34, b34, PySem.W.mg_of X G a34, F35, b35, PySem.W.mg_of X G a35, F36, b36, PySem.W.mg_of X G a36, F37, b37, PySem.W.mg_of X G a37, F38, b38, PySem.W.mg_of X G a38, E0, E1, E2, E3, E4, PySem.W.mg_of X G pa, SU, XC, KT0, KT1, KT2, KT3, KT4, KP, KV, SC, PySem.W.mg_of X G sa⟩
  have T : Tx mg := ⟨PySem.W.mg_none_of X G z0, PySem.W.mg_none_of X G z1, PySem.W.mg_none_of X G z2, PySem.W.mg_none_of X G z3, PySem.W.mg_none_of X G z4, PySem.W.mg_none_of X G z5, PySem.W.mg_none_of X G z6, PySem.W.mg_none_of X G z7, PySem.W.mg_none_of X G z8, PySem.W.mg_none_of X G z9, PySem.W.mg_none_of X G z10, PySem.W.mg_none_of X G z11, PySem.W.mg_none_of X G z12, PySem.W.mg_none_of X G z13, PySem.W.mg_none_of X G z14, PySem.W.mg_none_of X G z15, ⟨_, PySem.W.mg_of X G m0⟩, ⟨_, PySem.W.mg_of X G m1⟩, ⟨_, PySem.W.mg_of X G m2⟩⟩
  exact ⟨_, fun s v => .of_eq rfl, fun base _ _ => ok_law C T⟩
end L_k38
open PySem PySem.W PyProof.Rows
set_option maxHeartbeats 0 in
theorem PySem.Challenge.cw_probeties_k38_whole_refusals_apart_holds : PySem.Challenge.rw_probeties_k38_whole_refusals_apart.Holds := by
  w_on; o_law; k_head; (case hw => w_witness2)
  k_fill
  refine L2.walk_of (l := PySem.Challenge.rw_probeties_k38_whole_refusals_apart) (n := 63) (k := 47) (x := "_law_script") (CX := fun _ => L2.CX0) (sp := fun w => DL.spF _ 1 L_k38.g_law) rfl (by decide) rfl ⟨rfl, by decide, by decide⟩ (fun w h Y => PySem.W.kIn_of Y) ?F (fun _ _ a ns hl _ hS => DL.law_end (L_k38.law_true ns hl) hS) (fun _ _ _ _ _ h => h)
  case F =>
    intro w mg fa h KX G hmg
    refine' L_k38.all_mk KX G hmg PySem.F.excBase_ValueError PySem.F.excBase_ValueError PySem.F.excBase_ValueError PySem.F.excBase_ValueError PySem.F.excBase_ValueError ?sa ?sk ?sg ?sh ?sp ?ss ?sn ?sr ?st ?sm ?a0 ?l0 ?c0 ?k0 ?a1 ?l1 ?c1 ?k1 ?a2 ?l2 ?c2 ?k2 ?a3 ?l3 ?c3 ?k3 ?a4 ?l4 ?c4 ?k4 ?a5 ?l5 ?c5 ?k5 ?a6 ?l6 ?c6 ?k6 ?a7 ?l7 ?c7 ?k7 ?a8 ?l8 ?c8 ?k8 ?a9 ?l9 ?c9 ?k9 ?a10 ?l10 ?c10 ?k10 ?a11 ?l11 ?c11 ?k11 ?a12 ?i12 ?l12 ?c12 ?k12 ?a13 ?i13 ?l13 ?c13 ?k13 ?a14 ?i14 ?l14 ?c14 ?k14 ?a15 ?l15 ?c15 ?k15 ?a16 ?l16 ?c16 ?k16 ?a17 ?l17 ?c17 ?k17 ?a18 ?l18 ?c18 ?k18 ?a19 ?l19 ?c19 ?k19 ?a20 ?l20 ?c20 ?k20 ?a21 ?l21 ?c21 ?k21 ?a22 ?l22 ?c22 ?k22 ?a23 ?l23 ?c23 ?k23 ?a24 ?l24 ?c24 ?k24 ?a25 ?i25 ?l25 ?c25 ?k25 ?a26 ?i26 ?l26 ?c26 ?k26 ?a27 ?l27 ?c27 ?k27 ?a28 ?l28 ?c28 ?k28 ?a29 ?l29 ?c29 ?k29 ?a30 ?l30 ?c30 ?k30 ?a31 ?l31 ?c31 ?k31 ?a32 ?l32 ?c32 ?k32 ?a33 ?l33 ?c33 ?k33 ?a34 ?l34 ?c34 ?k34 ?a35 ?l35 ?c35 ?k35 ?a36 ?l36 ?c36 ?k36 ?a37 ?l37 ?c37 ?k37 ?a38 ?l38 ?c38 ?k38 ?z0 ?z1 ?z2 ?z3 ?z4 ?z5 ?z6 ?z7 ?z8 ?z9 ?z10 ?z11 ?z12 ?z13 ?z14 ?z15 ?m0 ?m1 ?m2 ?ea0 ?eq0 ?ek0 ?eb0 ?et0 ?eh0 ?es0 ?ea1 ?eq1 ?ek1 ?eb1 ?et1 ?eh1 ?es1 ?ea2 ?eq2 ?ek2 ?eb2 ?et2 ?eh2 ?es2 ?ea3 ?eq3 ?ek3 ?eb3 ?et3 ?eh3 ?es3 ?ea4 ?eq4 ?ek4 ?eb4 ?et4 ?eh4 ?es4 ?pa ?pb ?ph ?pt ?pn ?pk ?xg0 ?xk0 ?xa0 ?xm0 ?xp0 ?xv0 ?xg1 ?xk1 ?xa1 ?xm1 ?xp1 ?xv1 ?xg2 ?xk2 ?xa2 ?xm2 ?xp2 ?xv2 ?xg3 ?xk3 ?xa3 ?xm3 ?xp3 ?xv3 ?xg4 ?xk4 ?xa4 ?xm4 ?xp4 ?xv4 ?ed1_0 ?ed2_0 ?ed3_0 ?ed4_0 ?ed0_1 ?ed2_1 ?ed3_1 ?ed4_1 ?ed0_2 ?ed1_2 ?ed3_2 ?ed4_2 ?ed0_3 ?ed1_3 ?ed2_3 ?ed4_3 ?ed0_4 ?ed1_4 ?ed2_4 ?ed3_4
    (case sa => k_is)
    (case sk => k_is)
    (case sg => k_is)
    (case sh => k_is)
    (case sp => k_is)
    (case ss => k_is)
    (case sn => k_is)
    (case sr => k_is)
    (case st => k_is)
    (case sm => k_is)
    (case a0 => k_is)
    (case l0 => k_is)
    (case c0 => k_is)
    (case k0 => k_is)
    (case a1 => k_is)
    (case l1 => k_is)
    (case c1 => k_is)
    (case k1 => k_is)
    (case a2 => k_is)
    (case l2 => k_is)
    (case c2 => k_is)
    (case k2 => k_is)
    (case a3 => k_is)
    (case l3 => k_is)
    (case c3 => k_is)
    (case k3 => k_is)
    (case a4 => k_is)
    (case l4 => k_is)
    (case c4 => k_is)
    (case k4 => k_is)
    (case a5 => k_is)
    (case l5 => k_is)
    (case c5 => k_is)
    (case k5 => k_is)
    (case a6 => k_is)
    (case l6 => k_is)
    (case c6 => k_is)
    (case k6 => k_is)
    (case a7 => k_is)
    (case l7 => k_is)
    (case c7 => k_is)
    (case k7 => k_is)
    (case a8 => k_is)
    (case l8 => k_is)
    (case c8 => k_is)
    (case k8 => k_is)
    (case a9 => k_is)
    (case l9 => k_is)
    (case c9 => k_is)
    (case k9 => k_is)
    (case a10 => k_is)
    (case l10 => k_is)
    (case c10 => k_is)
    (case k10 => k_is)
    (case a11 => k_is)
    (case l11 => k_is)
    (case c11 => k_is)
    (case k11 => k_is)
    (case a12 => k_is)
    (case i12 => k_is)
    (case l12 => k_is)
    (case c12 => k_is)
    (case k12 => k_is)
    (case a13 => k_is)
    (case i13 => k_is)
    (case l13 => k_is)
    (case c13 => k_is)
    (case k13 => k_is)
    (case a14 => k_is)
    (case i14 => k_is)
    (case l14 => k_is)
    (case c14 => k_is)
    (case k14 => k_is)
    (case a15 => k_is)
    (case l15 => k_is)
    (case c15 => k_is)
    (case k15 => k_is)
    (case a16 => k_is)
    (case l16 => k_is)
    (case c16 => k_is)
    (case k16 => k_is)
    (case a17 => k_is)
    (case l17 => k_is)
    (case c17 => k_is)
    (case k17 => k_is)
    (case a18 => k_is)
    (case l18 => k_is)
    (case c18 => k_is)
    (case k18 => k_is)
    (case a19 => k_is)
    (case l19 => k_is)
    (case c19 => k_is)
    (case k19 => k_is)
    (case a20 => k_is)
    (case l20 => k_is)
    (case c20 => k_is)
    (case k20 => k_is)
    (case a21 => k_is)
    (case l21 => k_is)
    (case c21 => k_is)
    (case k21 => k_is)
    (case a22 => k_is)
    (case l22 => k_is)
    (case c22 => k_is)
    (case k22 => k_is)
    (case a23 => k_is)
    (case l23 => k_is)
    (case c23 => k_is)
    (case k23 => k_is)
    (case a24 => k_is)
    (case l24 => k_is)
    (case c24 => k_is)
    (case k24 => k_is)
    (case a25 => k_is)
    (case i25 => k_is)
    (case l25 => k_is)
    (case c25 => k_is)
    (case k25 => k_is)
    (case a26 => k_is)
    (case i26 => k_is)
    (case l26 => k_is)
    (case c26 => k_is)
    (case k26 => k_is)
    (case a27 => k_is)
    (case l27 => k_is)
    (case c27 => k_is)
    (case k27 => k_is)
    (case a28 => k_is)
    (case l28 => k_is)
    (case c28 => k_is)
    (case k28 => k_is)
    (case a29 => k_is)
    (case l29 => k_is)
    (case c29 => k_is)
    (case k29 => k_is)
    (case a30 => k_is)
    (case l30 => k_is)
    (case c30 => k_is)
    (case k30 => k_is)
    (case a31 => k_is)
    (case l31 => k_is)
    (case c31 => k_is)
    (case k31 => k_is)
    (case a32 => k_is)
    (case l32 => k_is)
    (case c32 => k_is)
    (case k32 => k_is)
    (case a33 => k_is)
    (case l33 => k_is)
    (case c33 => k_is)
    (case k33 => k_is)
    (case a34 => k_is)
    (case l34 => k_is)
    (case c34 => k_is)
    (case k34 => k_is)
    (case a35 => k_is)
    (case l35 => k_is)
    (case c35 => k_is)
    (case k35 => k_is)
    (case a36 => k_is)
    (case l36 => k_is)
    (case c36 => k_is)
    (case k36 => k_is)
    (case a37 => k_is)
    (case l37 => k_is)
    (case c37 => k_is)
    (case k37 => k_is)
    (case a38 => k_is)
    (case l38 => k_is)
    (case c38 => k_is)
    (case k38 => k_is)
    (case z0 => k_is)
    (case z1 => k_is)
    (case z2 => k_is)
    (case z3 => k_is)
    (case z4 => k_is)
    (case z5 => k_is)
    (case z6 => k_is)
    (case z7 => k_is)
    (case z8 => k_is)
    (case z9 => k_is)
    (case z10 => k_is)
    (case z11 => k_is)
    (case z12 => k_is)
    (case z13 => k_is)
    (case z14 => k_is)
    (case z15 => k_is)
    (case m0 => k_is)
    (case m1 => k_is)
    (case m2 => k_is)
    (case ea0 => k_is)
    (case eq0 => k_exc)
    (case ek0 => k_is)
    (case eb0 => k_is)
    (case et0 => k_is)
    (case eh0 => k_is)
    (case es0 => first | rfl | k_is)
    (case ea1 => k_is)
    (case eq1 => k_exc)
    (case ek1 => k_is)
    (case eb1 => k_is)
    (case et1 => k_is)
    (case eh1 => k_is)
    (case es1 => first | rfl | k_is)
    (case ea2 => k_is)
    (case eq2 => k_exc)
    (case ek2 => k_is)
    (case eb2 => k_is)
    (case et2 => k_is)
    (case eh2 => k_is)
    (case es2 => first | rfl | k_is)
    (case ea3 => k_is)
    (case eq3 => k_exc)
    (case ek3 => k_is)
    (case eb3 => k_is)
    (case et3 => k_is)
    (case eh3 => k_is)
    (case es3 => first | rfl | k_is)
    (case ea4 => k_is)
    (case eq4 => k_exc)
    (case ek4 => k_is)
    (case eb4 => k_is)
    (case et4 => k_is)
    (case eh4 => k_is)
    (case es4 => first | rfl | k_is)
    (case pa => k_is)
    (case pb => k_is)
    (case ph => k_is)
    (case pt => k_is)
    (case pn => k_is)
    (case pk => k_is)
    (case xg0 => k_is)
    (case xk0 => k_is)
    (case xa0 => k_is)
    (case xm0 => k_is)
    (case xp0 => k_is)
    (case xv0 => k_is)
    (case xg1 => k_is)
    (case xk1 => k_is)
    (case xa1 => k_is)
    (case xm1 => k_is)
    (case xp1 => k_is)
    (case xv1 => k_is)
    (case xg2 => k_is)
    (case xk2 => k_is)
    (case xa2 => k_is)
    (case xm2 => k_is)
    (case xp2 => k_is)
    (case xv2 => k_is)
    (case xg3 => k_is)
    (case xk3 => k_is)
    (case xa3 => k_is)
    (case xm3 => k_is)
    (case xp3 => k_is)
    (case xv3 => k_is)
    (case xg4 => k_is)
    (case xk4 => k_is)
    (case xa4 => k_is)
    (case xm4 => k_is)
    (case xp4 => k_is)
    (case xv4 => k_is)
    (case ed1_0 => k_is)
    (case ed2_0 => k_is)
    (case ed3_0 => k_is)
    (case ed4_0 => k_is)
    (case ed0_1 => k_is)
    (case ed2_1 => k_is)
    (case ed3_1 => k_is)
    (case ed4_1 => k_is)
    (case ed0_2 => k_is)
    (case ed1_2 => k_is)
    (case ed3_2 => k_is)
    (case ed4_2 => k_is)
    (case ed0_3 => k_is)
    (case ed1_3 => k_is)
    (case ed2_3 => k_is)
    (case ed4_3 => k_is)
    (case ed0_4 => k_is)
    (case ed1_4 => k_is)
    (case ed2_4 => k_is)
    (case ed3_4 => k_is)
