import PyProof.Rows.All
import Wide.All
import OpenK.AllK
import Wide.FinOn
import HandS.ForMost
import HandS.ForExc
import HandS.IsInst
import HandS.Deep
import HandS.Walk
import HandS.Zip
import HandS.SortOrd
import HandS.TupSets
import HandS.TupAny
import HandS.TupLe
import HandS.TupMul
import HandS.Flow
import HandS.Strs
import HandS.Conv
import HandS.Style
import KE.SortData
import HandS.More
import HandS.TupLen
import HandS.SetFor
import KE.GoesEnum
import HandS.WordsExc
import HandS.TryOnly
import HandS.ExcIs
import KE.DataAny
import HandS.Iter
import KE.DataCmp
import KE.KDictPairs
import PyProof.SumAny
import HandS.SetBool
import KE.LtData
import HandS.TryMany
import HandS.FStr
import HandS.Text
import HandS.HotCalls
import KE.GoesComp
import HandS.ReplaceLit
import HandS.StrMore
import PySem.Challenge.RW_probeties_k04_whole_things_as_routes
import KE.DataMinMax
set_option Elab.async false
set_option linter.all false
set_option maxRecDepth 100000
/-! DL: a layer of plain data over HandS. A def's body is read as a function of data (SM), its heap is hidden. -/
namespace DL
open PySem L2
abbrev D := PyData
/-- a dict's key: an int or a text, or a tuple of such -/
abbrev DK := Sum Key (List Key)
/-- a slot: a datum that no one changes; an own list; an own dict; an own dict of ints under rows of ints and None; a seeker (its net, what was told, its rows); a thing at an address, by its address alone -/
inductive SV where
  | d (x : D)
  | l (b : Bool) (xs : List D)
  | m (b t : Bool) (kvs : List (DK × D))
  | k (b : Bool) (kvs : List (List (Option Int) × Int))
  | s (b : Bool) (net told : D) (rows : List D)
  | ad (a : Addr)
def SV.own : SV → Bool
  | .d _ => false
  | .ad _ => false
  | _ => true
abbrev Rho := List (Option SV)
def SubH (F H : Hp) : Prop := ∀ a o, F a = some o → H a = some o
theorem SubH.refl (F : Hp) : SubH F F := fun _ _ h => h
theorem SubH.trans {F G H : Hp} (a : SubH F G) (b : SubH G H) : SubH F H := fun x o h => b x o (a x o h)
theorem SubH.new {H : Hp} {p : Addr} {o : HO} (h : H p = none) : SubH H (upd H p o) := fun a u e => by
  rw [upd_ne (ne_of_none e h)]; exact e
theorem SubH.none {F H : Hp} (e : SubH F H) {p : Addr} (h : H p = none) : F p = none := by
  cases q : F p with
  | none => rfl
  | some o => rw [e p o q] at h; cases h
theorem SubH.rd {F H : Hp} (e : SubH F H) {a : Addr} {u : HO} (h : Rd F a u) : Rd H a u := by
  rcases h with h | ⟨o, h⟩
  · exact .inl (e _ _ h)
  · exact .inr ⟨o, e _ _ h⟩
theorem SubH.sqt {K : PySem.W.Frag} {F H : Hp} (e : SubH F H) {a : Addr} {xs : List V} (h : SqT K F a xs) : SqT K H a xs := by
  rcases h with h | h
  · exact .inl (e.rd h)
  · exact .inr h
theorem SubH.sql {K : PySem.W.Frag} {F H : Hp} (e : SubH F H) {a : Addr} {xs : List V} (h : SqL K F a xs) : SqL K H a xs := by
  rcases h with h | h
  · exact .inl (e.rd h)
  · exact .inr h
/-! ### data in the heap: what is flat by itself, rows by what stands at their place (a tuple as such) -/
def tupHO (ob : Obj) (vs : List V) : HO := .frz ob (.tup vs)
theorem tupHO_cases (ob : Obj) (vs : List V) : tupHO ob vs = .tup vs ∨ tupHO ob vs = .frz ob (.tup vs) := .inr rfl
def TupAt (H : Hp) (p : Addr) (vs : List V) : Prop := ∃ ob : Obj, ob.dict = none ∧ H p = some (tupHO ob vs)
/-- the value that a flat datum is -/
def scal : D → Option V
  | .none => some .non
  | .bool b => some (.bl b)
  | .int i => some (.int i)
  | .str x => some (.str x)
  | _ => none
inductive Dp (K : PySem.W.Frag) (H : Hp) : V → D → Prop
  | flat {d : D} {v : V} : scal d = some v → Dp K H v d
  | lst {p : Addr} {vs : List V} {row : List D} (at_ : SqL K H p vs) (each : Paired (Dp K H) vs row) : Dp K H (.ref p) (.list row)
  | tup {p : Addr} {vs : List V} {row : List D} (at_ : TupAt H p vs) (each : Paired (Dp K H) vs row) : Dp K H (.ref p) (.tuple row)
abbrev DpAll (K : PySem.W.Frag) (H : Hp) (vs : List V) (row : List D) : Prop := Paired (Dp K H) vs row
section
variable {K : PySem.W.Frag} {F G H : Hp}
theorem Dp.non : Dp K H .non .none := .flat rfl
theorem Dp.bl (b : Bool) : Dp K H (.bl b) (.bool b) := .flat rfl
theorem Dp.int (i : Int) : Dp K H (.int i) (.int i) := .flat rfl
theorem Dp.str (x : Str) : Dp K H (.str x) (.str x) := .flat rfl
theorem sqt_of {a : Addr} {vs : List V} (h : TupAt F a vs) : SqT K F a vs := by
  obtain ⟨ob, _, e⟩ := h
  rcases tupHO_cases ob vs with q | q <;> rw [q] at e
  · exact .inl (.inl e)
  · exact .inl (.inr ⟨ob, e⟩)
theorem TupAt.mono {a : Addr} {vs : List V} (h : TupAt F a vs) (e : SubH F H) : TupAt H a vs := let ⟨ob, d, q⟩ := h; ⟨ob, d, e _ _ q⟩
/-- by the datum -/
theorem Dp.inv : ∀ {d : D} {v : V}, Dp K H v d → match d with
    | .none => v = .non
    | .bool b => v = .bl b
    | .int i => v = .int i
    | .str x => v = .str x
    | .list row => ∃ p vs, v = .ref p ∧ SqL K H p vs ∧ DpAll K H vs row
    | .tuple row => ∃ p vs, v = .ref p ∧ TupAt H p vs ∧ DpAll K H vs row
    | .dict _ => False
  | _, _, .lst a e => ⟨_, _, rfl, a, e⟩
  | _, _, .tup a e => ⟨_, _, rfl, a, e⟩
  | .none, _, .flat h => (Option.some.inj h).symm
  | .bool _, _, .flat h => (Option.some.inj h).symm
  | .int _, _, .flat h => (Option.some.inj h).symm
  | .str _, _, .flat h => (Option.some.inj h).symm
  | .list _, _, .flat h => nomatch h
  | .tuple _, _, .flat h => nomatch h
  | .dict _, _, .flat h => nomatch h
mutual
theorem dp_old' : ∀ (d : D) (v : V), Dp K F v d → L2.Dp K F v d
  | .none, _, h => by cases h.inv; exact .non
  | .bool b, _, h => by cases h.inv; exact .bl b
  | .int i, _, h => by cases h.inv; exact .int i
  | .str x, _, h => by cases h.inv; exact .str x
  | .list row, _, h => by obtain ⟨p, vs, rfl, a, e⟩ := h.inv; exact .lst a (dpa_old' row vs e)
  | .tuple row, _, h => by obtain ⟨p, vs, rfl, a, e⟩ := h.inv; exact .tup (sqt_of a) (dpa_old' row vs e)
  | .dict _, _, h => h.inv.elim
theorem dpa_old' : ∀ (row : List D) (vs : List V), DpAll K F vs row → L2.DpAll K F vs row
  | [], [], _ => .nil
  | d :: row, v :: vs, h => by cases h with | cons x t => exact .cons (dp_old' d v x) (dpa_old' row vs t)
  | [], _ :: _, h => nomatch h
  | _ :: _, [], h => nomatch h
end
mutual
theorem dp_mono' (e : SubH F H) : ∀ (d : D) (v : V), Dp K F v d → Dp K H v d
  | .none, _, h => by cases h.inv; exact .non
  | .bool b, _, h => by cases h.inv; exact .bl b
  | .int i, _, h => by cases h.inv; exact .int i
  | .str x, _, h => by cases h.inv; exact .str x
  | .list row, _, h => by obtain ⟨p, vs, rfl, a, t⟩ := h.inv; exact .lst (e.sql a) (dpa_mono' e row vs t)
  | .tuple row, _, h => by obtain ⟨p, vs, rfl, a, t⟩ := h.inv; exact .tup (a.mono e) (dpa_mono' e row vs t)
  | .dict _, _, h => h.inv.elim
theorem dpa_mono' (e : SubH F H) : ∀ (row : List D) (vs : List V), DpAll K F vs row → DpAll K H vs row
  | [], [], _ => .nil
  | d :: row, v :: vs, h => by cases h with | cons x t => exact .cons (dp_mono' e d v x) (dpa_mono' e row vs t)
  | [], _ :: _, h => nomatch h
  | _ :: _, [], h => nomatch h
end
theorem dp_old {d : D} {v : V} (h : Dp K F v d) : L2.Dp K F v d := dp_old' d v h
theorem dp_mono (e : SubH F H) {d : D} {v : V} (h : Dp K F v d) : Dp K H v d := dp_mono' e d v h
theorem dpa_mono (e : SubH F H) {row : List D} {vs : List V} (h : DpAll K F vs row) : DpAll K H vs row := dpa_mono' e row vs h
theorem dpa_len : ∀ {vs : List V} {ds : List D}, DpAll K F vs ds → vs.length = ds.length
  | _, _, .nil => rfl
  | _, _, .cons _ h => by simp [dpa_len h]
theorem dpa_get : ∀ {vs : List V} {ds : List D} {i : Nat} {d : D}, DpAll K F vs ds → ds[i]? = some d → ∃ v, vs[i]? = some v ∧ Dp K F v d
  | _, _, _, _, .nil, e => by simp at e
  | _, _, 0, _, .cons h _, e => by simp at e; subst e; exact ⟨_, rfl, h⟩
  | _, _, i + 1, _, .cons _ t, e => by simp at e; obtain ⟨v, a, b⟩ := dpa_get (i := i) t e; exact ⟨v, by simpa using a, b⟩
theorem dpa_at : ∀ {vs : List V} {ds : List D} {i : Nat} {v : V}, DpAll K F vs ds → vs[i]? = some v → ∃ d, ds[i]? = some d ∧ Dp K F v d
  | _, _, _, _, .nil, e => by simp at e
  | _, _, 0, _, .cons h _, e => by simp at e; subst e; exact ⟨_, rfl, h⟩
  | _, _, i + 1, _, .cons _ t, e => by simp at e; obtain ⟨v, a, b⟩ := dpa_at (i := i) t e; exact ⟨v, by simpa using a, b⟩
theorem dpa_app : ∀ {vs ws : List V} {ds es : List D}, DpAll K F vs ds → DpAll K F ws es → DpAll K F (vs ++ ws) (ds ++ es)
  | _, _, _, _, .nil, h => h
  | _, _, _, _, .cons a t, h => .cons a (dpa_app t h)
theorem dpa_take : ∀ {vs : List V} {ds : List D} (n : Nat), DpAll K F vs ds → DpAll K F (vs.take n) (ds.take n)
  | _, _, 0, _ => by simpa using .nil
  | _, _, _ + 1, .nil => .nil
  | _, _, n + 1, .cons a t => .cons a (dpa_take n t)
theorem dpa_drop : ∀ {vs : List V} {ds : List D} (n : Nat), DpAll K F vs ds → DpAll K F (vs.drop n) (ds.drop n)
  | _, _, 0, h => by simpa using h
  | _, _, _ + 1, .nil => .nil
  | _, _, n + 1, .cons a t => by simpa using dpa_drop n t
theorem dpa_rev : ∀ {vs : List V} {ds : List D}, DpAll K F vs ds → DpAll K F vs.reverse ds.reverse
  | _, _, .nil => .nil
  | _, _, .cons a t => by simpa using dpa_app (dpa_rev t) (.cons a .nil)
theorem dpa_one {v : V} {d : D} (h : Dp K F v d) : DpAll K F [v] [d] := .cons h .nil
theorem dpa_ints : ∀ {ns : List Int} {vs : List V}, DpAll K F vs (ns.map PyData.int) → vs = ns.map V.int
  | [], [], _ => rfl
  | n :: ns, v :: vs, h => by
    cases h with
    | cons x t => cases x.inv; rw [dpa_ints t]; rfl
  | [], _ :: _, h => nomatch h
  | _ :: _, [], h => nomatch h
theorem dpa_ints_mk : ∀ (ns : List Int), DpAll K F (ns.map V.int) (ns.map PyData.int)
  | [] => .nil
  | n :: ns => .cons (.int n) (dpa_ints_mk ns)
end
/-! ### the state of a frame -/
structure Fx where
  H0 : Hp
  F0 : Hp
  rf : Nat → Option Addr
/-- an own dict -/
def DicOk (K : PySem.W.Frag) (F H : Hp) (a : Addr) (t : Bool) (kvs : List (DK × D)) : Prop :=
  (t = false ∧ ∃ ks : List (Key × V), H a = some (.dK ks) ∧ Paired (fun (p : Key × V) (q : DK × D) => q.1 = .inl p.1 ∧ Dp K F p.2 q.2) ks kvs) ∨
  (t = true ∧ ∃ ks : List (List Key × V), H a = some (.dT ks) ∧ Paired (fun (p : List Key × V) (q : DK × D) => q.1 = .inr p.1 ∧ Dp K F p.2 q.2) ks kvs)
/-- a part of such a row: None or an int -/
abbrev NK := Option Int
def nkV : NK → V
  | none => .non
  | some i => .int i
def nkH : NK → Int
  | none => reduceHash 0xFCA86420
  | some i => hashInt i
def rowH (k : List NK) : Int := reduceHash (Builtin.Tuple.tupleHashOf (k.map nkH))
/-- an entry: the row, its place, the int -/
abbrev NE := List NK × Addr × Int
def NE.kv (x : NE) : List NK × Int := (x.1, x.2.2)
/-- the entry as the dict holds it, with the int's value -/
def NE.raw (z : List NK × Addr × Value) : DictEntry := ⟨rowH z.1, .ref z.2.1, z.2.2⟩
def NDict (a : Addr) (xs : List NE) (h : Heap) : Prop := (a == sysModules) = false ∧ xs.length ≤ sizeLine ∧
  ∃ zs : List (List NK × Addr × Value), Paired (fun (x : NE) (y : List NK × Addr × Value) => y.1 = x.1 ∧ y.2.1 = x.2.1 ∧ RelV (.int x.2.2) y.2.2) xs zs ∧ (zs.map (·.1)).Nodup ∧
    ∃ o es ep, h.get? a = some o ∧ o.ExactDict ∧ o.data = .dict es ep ∧ es.toList = zs.map NE.raw
/-- an own dict of that kind -/
def KnAt (F H : Hp) (a : Addr) (kvs : List (List NK × Int)) : Prop := ∃ xs : List NE, H a = some (.ext (NDict a xs)) ∧ (∀ x ∈ xs, TupAt F x.2.1 (x.1.map nkV)) ∧ xs.map NE.kv = kvs
/-- what belongs to the thing at a: itself; an instance's rows -/
def Part (H : Hp) (a b : Addr) : Prop := b = a ∨ ∃ C dx fs, H a = some (.ins C dx fs) ∧ fs.lookup ("rows" : Str) = some (V.ref b)
/-- a seeker's attributes -/
def seekF (n : V) (l : Addr) (t : V) : List (Str × V) := [("net", n), ("rows", .ref l), ("told", t)]
/-- a seeker: its dict never changes -/
def SkAt (K : PySem.W.Frag) (F H : Hp) (a : Addr) (net told : D) (rows : List D) : Prop := ∃ C dx l vn vt vs, PySem.W.nsIn K mainGlobals "Seeker" = some (some (.ref C)) ∧ H a = some (.ins C dx (seekF vn l vt)) ∧ F dx = some (.own a) ∧ H l = some (.lst vs) ∧ F l = none ∧
  Dp K F vn net ∧ Dp K F vt told ∧ DpAll K F vs rows
def RS (K : PySem.W.Frag) (z : Fx) (n : Nat) (F H : Hp) (v : V) : SV → Prop
  | .d x => Dp K F v x
  | .l b xs => ∃ a vs, v = .ref a ∧ H a = some (.lst vs) ∧ F a = none ∧ z.H0 a = none ∧ DpAll K F vs xs ∧ (b = true → z.rf n = some a)
  | .m b t kvs => ∃ a, v = .ref a ∧ F a = none ∧ z.H0 a = none ∧ DicOk K F H a t kvs ∧ (b = true → z.rf n = some a)
  | .k b kvs => ∃ a, v = .ref a ∧ F a = none ∧ z.H0 a = none ∧ KnAt F H a kvs ∧ (b = true → z.rf n = some a)
  | .s b net told rows => ∃ a, v = .ref a ∧ F a = none ∧ z.H0 a = none ∧ SkAt K F H a net told rows ∧ (∀ l, Part H a l → z.H0 l = none) ∧ (b = true → z.rf n = some a)
  | .ad a => v = .ref a
def Owns (r : Rho) (s : St) (H : Hp) (i : Nat) (b : Addr) : Prop := ∃ (sv : SV) (a : Addr), r[i]? = some (some sv) ∧ sv.own = true ∧ s[i]? = some (some (V.ref a)) ∧ Part H a b
def OwnAt (r : Rho) (s : St) (H : Hp) (b : Addr) : Prop := ∃ i, Owns r s H i b
def Apart (r : Rho) (s : St) (H : Hp) : Prop := ∀ i j b, Owns r s H i b → Owns r s H j b → i = j
theorem part_self {H : Hp} {a : Addr} : Part H a a := .inl rfl
theorem part_congr {H H' : Hp} {a b : Addr} (h : H' a = H a) (p : Part H' a b) : Part H a b := by
  rcases p with p | ⟨C, dx, fs, h1, h2⟩
  · exact .inl p
  · exact .inr ⟨C, dx, fs, h ▸ h1, h2⟩
/-- what is no instance is all by itself -/
theorem part_one {H : Hp} {a b : Addr} (h : ∀ C dx fs, H a ≠ some (.ins C dx fs)) (p : Part H a b) : b = a := by
  rcases p with p | ⟨C, dx, fs, h1, _⟩
  · exact p
  · exact absurd h1 (h C dx fs)
theorem owns_set {r : Rho} {s : St} {H : Hp} {i j : Nat} {sv : SV} {v : V} {b : Addr} (h : Owns (r.set i (some sv)) (s.set i (some v)) H j b) : (j = i ∧ sv.own = true ∧ ∃ a, v = .ref a ∧ Part H a b) ∨ (j ≠ i ∧ Owns r s H j b) := by
  obtain ⟨x, a, h1, h2, h3, h4⟩ := h
  by_cases e : j = i
  · subst e
    left
    have l1 := (List.getElem?_eq_some_iff.mp h1).1
    have l3 := (List.getElem?_eq_some_iff.mp h3).1
    rw [List.length_set] at l1 l3
    rw [List.getElem?_set_self l1] at h1
    rw [List.getElem?_set_self l3] at h3
    cases h1
    cases h3
    exact ⟨rfl, h2, a, rfl, h4⟩
  · right
    rw [List.getElem?_set_ne (Ne.symm e)] at h1 h3
    exact ⟨e, x, a, h1, h2, h3, h4⟩
theorem owns_setR {r : Rho} {s : St} {H : Hp} {i j : Nat} {sv : SV} {b : Addr} (h : Owns (r.set i (some sv)) s H j b) : (j = i ∧ sv.own = true ∧ ∃ a, s[i]? = some (some (V.ref a)) ∧ Part H a b) ∨ (j ≠ i ∧ Owns r s H j b) := by
  obtain ⟨x, a, h1, h2, h3, h4⟩ := h
  by_cases e : j = i
  · subst e
    left
    have l1 := (List.getElem?_eq_some_iff.mp h1).1
    rw [List.length_set] at l1
    rw [List.getElem?_set_self l1] at h1
    cases h1
    exact ⟨rfl, h2, a, h3, h4⟩
  · right
    rw [List.getElem?_set_ne (Ne.symm e)] at h1
    exact ⟨e, x, a, h1, h2, h3, h4⟩
theorem owns_none {r : Rho} {s : St} {H : Hp} {i j : Nat} {b : Addr} (h : Owns (r.set i none) s H j b) : j ≠ i ∧ Owns r s H j b := by
  obtain ⟨x, a, h1, h2, h3, h4⟩ := h
  by_cases e : j = i
  · subst e
    have l1 := (List.getElem?_eq_some_iff.mp h1).1
    rw [List.length_set] at l1
    rw [List.getElem?_set_self l1] at h1
    cases h1
  · rw [List.getElem?_set_ne (Ne.symm e)] at h1
    exact ⟨e, x, a, h1, h2, h3, h4⟩
theorem part_lst {H : Hp} {p b : Addr} {vs : List V} (h : H p = some (.lst vs)) (q : Part H p b) : b = p := part_one (fun C dx fs => by rw [h]; nofun) q
theorem owns_H {r : Rho} {s : St} {H H' : Hp} {j : Nat} {b : Addr} (k : ∀ a sv, r[j]? = some (some sv) → sv.own = true → s[j]? = some (some (V.ref a)) → H' a = H a) (h : Owns r s H' j b) : Owns r s H j b := by
  obtain ⟨x, a, h1, h2, h3, h4⟩ := h
  exact ⟨x, a, h1, h2, h3, part_congr (k a x h1 h2 h3) h4⟩
theorem Apart.sub {r r' : Rho} {s s' : St} {H H' : Hp} (A : Apart r s H) (h : ∀ j b, Owns r' s' H' j b → Owns r s H j b) : Apart r' s' H' := fun i j b h1 h2 => A i j b (h i b h1) (h j b h2)
theorem Apart.new {r r' : Rho} {s s' : St} {H H' : Hp} {i : Nat} {P : Addr → Prop} (A : Apart r s H) (no : ∀ b, P b → ¬ OwnAt r s H b) (h : ∀ j b, Owns r' s' H' j b → (j = i ∧ P b) ∨ (j ≠ i ∧ Owns r s H j b)) : Apart r' s' H' := fun j k b h1 h2 => by
  rcases h j b h1 with ⟨e1, p1⟩ | ⟨n1, o1⟩ <;> rcases h k b h2 with ⟨e2, p2⟩ | ⟨n2, o2⟩
  · rw [e1, e2]
  · exact absurd ⟨k, o2⟩ (no b p1)
  · exact absurd ⟨j, o1⟩ (no b p2)
  · exact A j k b o1 o2
theorem tupHO_lst {ob : Obj} {vs ws : List V} (h : some (HO.lst vs) = some (tupHO ob ws)) : False := by
  rcases tupHO_cases ob ws with q | q <;> rw [q] at h <;> cases h
/-- a tuple never changes -/
def IsTu (o : HO) : Prop := ∃ ob vs, o = tupHO ob vs
theorem not_tu {vs : List V} : ¬ IsTu (.lst vs) := fun ⟨_, _, q⟩ => tupHO_lst (congrArg some q)
structure Rep (K : PySem.W.Frag) (z : Fx) (r : Rho) (s : St) (H F : Hp) : Prop where
  fh : SubH F H
  old : SubH z.H0 H
  f0 : SubH z.F0 F
  nw : ∀ b o, F b = some o → z.F0 b = some o ∨ z.H0 b = none ∨ IsTu o
  slots : ∀ (i : Nat) (sv : SV), r[i]? = some (some sv) → ∃ v, s[i]? = some (some v) ∧ RS K z i F H v sv
  ap : Apart r s H
  len : r.length = s.length
/-- new objects are laid, all else is as it was; F grows by new ones -/
structure Grow (F H F' H' : Hp) : Prop where
  ff : SubH F F'
  hh : SubH H H'
  fh : SubH F' H'
  nw : ∀ b o, F' b = some o → F b = some o ∨ H b = none ∨ IsTu o
theorem Grow.refl {F H : Hp} (h : SubH F H) : Grow F H F H := ⟨.refl _, .refl _, h, fun _ _ h => .inl h⟩
theorem Grow.trans {F H F1 H1 F2 H2 : Hp} (a : Grow F H F1 H1) (b : Grow F1 H1 F2 H2) : Grow F H F2 H2 :=
  ⟨a.ff.trans b.ff, a.hh.trans b.hh, b.fh, fun x o h => by
    rcases b.nw x o h with h | h | h
    · exact a.nw x o h
    · exact .inr (.inl (a.hh.none h))
    · exact .inr (.inr h)⟩
theorem Grow.new {F H : Hp} {p : Addr} {o : HO} (h : SubH F H) (hp : H p = none) : Grow F H (upd F p o) (upd H p o) :=
  ⟨.new (h.none hp), .new hp, fun a u e => by
    by_cases q : a = p
    · subst q; rw [upd_same] at e ⊢; exact e
    · rw [upd_ne q] at e ⊢; exact h a u e, fun a u e => by
    by_cases q : a = p
    · subst q; exact .inr (.inl hp)
    · rw [upd_ne q] at e; exact .inl e⟩
/-- laid, but not frozen -/
theorem Grow.loose {F H : Hp} {p : Addr} {o : HO} (h : SubH F H) (hp : H p = none) : Grow F H F (upd H p o) :=
  ⟨.refl _, .new hp, h.trans (.new hp), fun _ _ e => .inl e⟩
section
variable {K : PySem.W.Frag} {z : Fx} {r : Rho} {s : St} {H F H' F' : Hp}
theorem DicOk.mono {a : Addr} {t : Bool} {kvs : List (DK × D)} (h : DicOk K F H a t kvs) (e : SubH F F') (hh : ∀ o, H a = some o → H' a = some o) : DicOk K F' H' a t kvs := by
  rcases h with ⟨h0, ks, h1, h2⟩ | ⟨h0, ks, h1, h2⟩
  · exact .inl ⟨h0, ks, hh _ h1, Paired.mapP h2 fun _ _ q => ⟨q.1, dp_mono e q.2⟩⟩
  · exact .inr ⟨h0, ks, hh _ h1, Paired.mapP h2 fun _ _ q => ⟨q.1, dp_mono e q.2⟩⟩
theorem DicOk.there {a : Addr} {t : Bool} {kvs : List (DK × D)} (h : DicOk K F H a t kvs) : ∃ o, H a = some o := by
  rcases h with ⟨_, ks, h1, _⟩ | ⟨_, ks, h1, _⟩ <;> exact ⟨_, h1⟩
theorem DicOk.one {a b : Addr} {t : Bool} {kvs : List (DK × D)} (h : DicOk K F H a t kvs) (q : Part H a b) : b = a := by
  rcases h with ⟨_, ks, h1, _⟩ | ⟨_, ks, h1, _⟩ <;> exact part_one (fun C dx fs => by rw [h1]; nofun) q
theorem KnAt.mono {a : Addr} {kvs : List (List NK × Int)} (h : KnAt F H a kvs) (e : SubH F F') (hh : ∀ o, H a = some o → H' a = some o) : KnAt F' H' a kvs :=
  let ⟨xs, h1, h2, h3⟩ := h; ⟨xs, hh _ h1, fun x m => (h2 x m).mono e, h3⟩
theorem KnAt.one {a b : Addr} {kvs : List (List NK × Int)} (h : KnAt F H a kvs) (q : Part H a b) : b = a := by
  obtain ⟨xs, h1, _⟩ := h
  exact part_one (fun C dx fs => by rw [h1]; nofun) q
theorem KnAt.there {a : Addr} {kvs : List (List NK × Int)} (h : KnAt F H a kvs) : ∃ o, H a = some o := let ⟨_, h1, _⟩ := h; ⟨_, h1⟩
theorem SkAt.rows {a l : Addr} {net told : D} {rows : List D} (h : SkAt K F H a net told rows) (p : Part H a l) : l = a ∨ ∃ vs, H l = some (.lst vs) ∧ F l = none := by
  rcases p with p | ⟨C, dx, fs, h1, h2⟩
  · exact .inl p
  · obtain ⟨C', dx', l', vn, vt, vs, _, g1, _, g2, g3, _⟩ := h
    rw [g1] at h1
    cases h1
    have : some (V.ref l') = some (V.ref l) := h2
    cases this
    exact .inr ⟨vs, g2, g3⟩
theorem SkAt.there {a : Addr} {net told : D} {rows : List D} (h : SkAt K F H a net told rows) : ∃ C dx fs, H a = some (.ins C dx fs) := let ⟨C, dx, _, _, _, _, _, g, _⟩ := h; ⟨C, dx, _, g⟩
theorem SkAt.mono {a : Addr} {net told : D} {rows : List D} (h : SkAt K F H a net told rows) (e : SubH F F') (hh : ∀ b, Part H a b → ∀ o, H b = some o → H' b = some o) (hn : ∀ b, Part H a b → ∀ o, H b = some o → F b = none → F' b = none) : SkAt K F' H' a net told rows := by
  obtain ⟨C, dx, l, vn, vt, vs, h0, h1, h2, h3, h4, h5, h6, h7⟩ := h
  have p : Part H a l := .inr ⟨C, dx, _, h1, rfl⟩
  exact ⟨C, dx, l, vn, vt, vs, h0, hh a part_self _ h1, e _ _ h2, hh l p _ h3, hn l p _ h3 h4, dp_mono e h5, dp_mono e h6, dpa_mono e h7⟩
theorem RS.mono {n : Nat} {v : V} {sv : SV} (h : RS K z n F H v sv) (e : SubH F F') (hh : ∀ a b, v = .ref a → Part H a b → sv.own = true → ∀ o, H b = some o → H' b = some o) (hn : ∀ a b o, H b = some o → F b = none → z.H0 b = none → sv.own = true → v = .ref a → Part H a b → F' b = none) : RS K z n F' H' v sv := by
  cases sv with
  | d x => exact dp_mono e h
  | ad a => exact h
  | l b xs =>
    obtain ⟨a, vs, rfl, h1, h2, h3, h4, h5⟩ := h
    exact ⟨a, vs, rfl, hh a a rfl part_self rfl _ h1, hn a a _ h1 h2 h3 rfl rfl part_self, h3, dpa_mono e h4, h5⟩
  | m b t kvs =>
    obtain ⟨a, rfl, h2, h3, h4, h5⟩ := h
    obtain ⟨o, ho⟩ := h4.there
    exact ⟨a, rfl, hn a a o ho h2 h3 rfl rfl part_self, h3, h4.mono e (hh a a rfl part_self rfl), h5⟩
  | k b kvs =>
    obtain ⟨a, rfl, h2, h3, h4, h5⟩ := h
    obtain ⟨o, ho⟩ := h4.there
    exact ⟨a, rfl, hn a a o ho h2 h3 rfl rfl part_self, h3, h4.mono e (hh a a rfl part_self rfl), h5⟩
  | s b net told rows =>
    obtain ⟨a, rfl, h2, h3, h4, h5, h6⟩ := h
    obtain ⟨C, dx, fs, ho⟩ := h4.there
    have eq : H' a = H a := by rw [ho]; exact hh a a rfl part_self rfl _ ho
    exact ⟨a, rfl, hn a a _ ho h2 h3 rfl rfl part_self, h3, h4.mono e (fun b p => hh a b rfl p rfl) (fun b p o hb hf => hn a b o hb hf (h5 b p) rfl rfl p), fun l p => h5 l (part_congr eq p), h6⟩
/-- each part is there, and is not frozen -/
theorem RS.part {n : Nat} {v : V} {sv : SV} {a b : Addr} (h : RS K z n F H v sv) (own : sv.own = true) (e : v = .ref a) (p : Part H a b) : (∃ o, H b = some o) ∧ F b = none ∧ z.H0 b = none := by
  have one : ∀ o : HO, H a = some o → (∀ C dx fs, o ≠ .ins C dx fs) → b = a := fun o ho n => part_one (fun C dx fs q => by rw [ho] at q; cases q; exact n _ _ _ rfl) p
  cases sv with
  | d x => cases own
  | ad a => cases own
  | l q xs =>
    obtain ⟨a', vs, e1, q1, q2, q3, _⟩ := h
    rw [e1] at e; cases e
    cases one _ q1 (fun _ _ _ => nofun)
    exact ⟨⟨_, q1⟩, q2, q3⟩
  | m q t kvs =>
    obtain ⟨a', e1, q2, q3, q4, _⟩ := h
    rw [e1] at e; cases e
    have : b = a := by rcases q4 with ⟨_, ks, h1, _⟩ | ⟨_, ks, h1, _⟩ <;> exact one _ h1 (fun _ _ _ => nofun)
    cases this
    exact ⟨q4.there, q2, q3⟩
  | k q kvs =>
    obtain ⟨a', e1, q2, q3, q4, _⟩ := h
    rw [e1] at e; cases e
    have : b = a := by obtain ⟨xs, h1, _⟩ := q4; exact one _ h1 (fun _ _ _ => nofun)
    cases this
    exact ⟨q4.there, q2, q3⟩
  | s q net told rows =>
    obtain ⟨a', e1, q2, q3, q4, q5, _⟩ := h
    rw [e1] at e; cases e
    rcases q4.rows p with rfl | ⟨vs, g1, g2⟩
    · obtain ⟨C, dx, fs, ho⟩ := q4.there
      exact ⟨⟨_, ho⟩, q2, q3⟩
    · exact ⟨⟨_, g1⟩, g2, q5 b p⟩
/-- what is owned is no tuple -/
theorem RS.noTup {n : Nat} {v : V} {sv : SV} {a b : Addr} (h : RS K z n F H v sv) (hown : sv.own = true) (e : v = .ref a) (p : Part H a b) : ¬ ∃ ob vs, H b = some (tupHO ob vs) := by
  rintro ⟨ob, vs, hv⟩
  have hv : H b = some (.tup vs) ∨ H b = some (.frz ob (.tup vs)) := by rcases tupHO_cases ob vs with q | q <;> rw [q] at hv <;> simp [hv]
  by_cases ne : b = a
  case neg =>
    cases sv with
    | s q net told rows =>
      obtain ⟨a', e1, _, _, h1, _⟩ := h
      rw [e1] at e; cases e
      rcases h1.rows p with q | ⟨vs', g1, _⟩
      · exact ne q
      · simp [g1] at hv
    | d x => cases hown
    | ad y => cases hown
    | l q xs =>
      obtain ⟨a', ws, e1, h1, _⟩ := h; rw [e1] at e; cases e
      exact ne (part_one (fun C dx fs => by rw [h1]; nofun) p)
    | m q t kvs =>
      obtain ⟨a', e1, _, _, h1, _⟩ := h
      rw [e1] at e; cases e
      exact ne (part_one (fun C dx fs => by rcases h1 with ⟨_, ks, h1, _⟩ | ⟨_, ks, h1, _⟩ <;> rw [h1] <;> nofun) p)
    | k q kvs =>
      obtain ⟨a', e1, _, _, ⟨xs, h1, _⟩, _⟩ := h
      rw [e1] at e; cases e
      exact ne (part_one (fun C dx fs => by rw [h1]; nofun) p)
  subst ne
  cases sv with
  | d x => cases hown
  | ad y => cases hown
  | l b xs => obtain ⟨a', ws, e1, h1, _⟩ := h; rw [e1] at e; cases e; simp [h1] at hv
  | m b t kvs =>
    obtain ⟨a', e1, _, _, h1, _⟩ := h
    rw [e1] at e; cases e
    rcases h1 with ⟨_, ks, h1, _⟩ | ⟨_, ks, h1, _⟩ <;> simp [h1] at hv
  | k b kvs =>
    obtain ⟨a', e1, _, _, ⟨xs, h1, _⟩, _⟩ := h
    rw [e1] at e; cases e
    simp [h1] at hv
  | s q net told rows =>
    obtain ⟨a', e1, _, _, h1, _⟩ := h
    rw [e1] at e; cases e
    obtain ⟨C, dx, fs, ho⟩ := h1.there
    simp [ho] at hv
theorem Rep.own_facts (R : Rep K z r s H F) {b : Addr} (h : OwnAt r s H b) : (∃ o, H b = some o) ∧ F b = none ∧ z.H0 b = none := by
  obtain ⟨i, sv, a, h1, h2, h3, p⟩ := h
  obtain ⟨v, h4, h5⟩ := R.slots i sv h1
  rw [h3] at h4; cases h4
  exact h5.part h2 rfl p
/-- things owned by two slots are two things -/
theorem Rep.apart (R : Rep K z r s H F) (i j : Nat) (x y : SV) (a : Addr) (e1 : r[i]? = some (some x)) (e2 : r[j]? = some (some y)) (o1 : x.own = true) (o2 : y.own = true) (s1 : s[i]? = some (some (V.ref a))) (s2 : s[j]? = some (some (V.ref a))) : i = j :=
  R.ap i j a ⟨x, a, e1, o1, s1, part_self⟩ ⟨y, a, e2, o2, s2, part_self⟩
theorem Rep.ownH (R : Rep K z r s H F) (hh : SubH H H') {j : Nat} {b : Addr} (h : Owns r s H' j b) : Owns r s H j b :=
  owns_H (fun a sv h1 h2 h3 => by
    obtain ⟨⟨o, ho⟩, _⟩ := R.own_facts ⟨j, sv, a, h1, h2, h3, part_self⟩
    rw [ho, hh a o ho]) h
theorem Rep.ownAtH (R : Rep K z r s H F) (hh : SubH H H') {b : Addr} (h : OwnAt r s H' b) : OwnAt r s H b := let ⟨j, h⟩ := h; ⟨j, R.ownH hh h⟩
/-- what is new is owned by none -/
theorem Rep.free (R : Rep K z r s H F) {p : Addr} (new : H p = none) : ¬ OwnAt r s H p := fun q => by
  obtain ⟨⟨o, ho⟩, _⟩ := R.own_facts q
  rw [new] at ho; cases ho
theorem Rep.grow (R : Rep K z r s H F) (G : Grow F H F' H') : Rep K z r s H' F' where
  fh := G.fh
  old := R.old.trans G.hh
  f0 := R.f0.trans G.ff
  nw := fun b o h => by
    rcases G.nw b o h with h | h | h
    · exact R.nw b o h
    · exact .inr (.inl (R.old.none h))
    · exact .inr (.inr h)
  slots := fun i sv h => by
    obtain ⟨v, h1, h2⟩ := R.slots i sv h
    refine ⟨v, h1, h2.mono G.ff (fun a b _ _ _ o ho => G.hh b o ho) fun a b o ho hf _ hown he hp => ?_⟩
    cases q : F' b with
    | none => rfl
    | some u =>
      rcases G.nw b u q with h | h | ⟨ob, vs, rfl⟩
      · rw [hf] at h; cases h
      · rw [ho] at h; cases h
      · have q2 := G.fh b _ q
        rw [G.hh b o ho] at q2; cases q2
        exact absurd ⟨_, _, ho⟩ (h2.noTup hown he hp)
  ap := R.ap.sub fun j b h => R.ownH G.hh h
  len := R.len
/-- behind a change of what the slot i owns: the parts are as they were -/
theorem Rep.ap_keep (R : Rep K z r s H F) {i : Nat} {p : Addr} {sv sv' : SV} (hi : r[i]? = some (some sv)) (own : sv.own = true) (hs : s[i]? = some (some (V.ref p))) (keep : ∀ a sv', (∃ j, j ≠ i ∧ r[j]? = some (some sv') ∧ s[j]? = some (some (V.ref a)) ∧ sv'.own = true) → a ≠ p → ∀ o, H a = some o → H' a = some o)
    (parts : ∀ b, Part H' p b → Part H p b ∨ H b = none) : Apart (r.set i (some sv')) s H' := by
  have key : ∀ j b, Owns (r.set i (some sv')) s H' j b → Owns r s H j b ∨ (j = i ∧ H b = none) := fun j b h => by
    rcases owns_setR h with ⟨rfl, _, a, h1, h2⟩ | ⟨n, h⟩
    · rw [hs] at h1
      cases h1
      exact (parts b h2).imp (fun q => ⟨sv, p, hi, own, hs, q⟩) fun q => ⟨rfl, q⟩
    · left
      refine owns_H (fun a x h1 h2 h3 => ?_) h
      have ne : a ≠ p := fun e => n (R.apart j i x sv p h1 hi h2 own (by rw [← e]; exact h3) hs)
      obtain ⟨⟨o, ho⟩, _⟩ := R.own_facts ⟨j, x, a, h1, h2, h3, part_self⟩
      rw [ho, keep a x ⟨j, n, h1, h3, h2⟩ ne o ho]
  intro j k b h1 h2
  rcases key j b h1 with o1 | ⟨e1, f1⟩ <;> rcases key k b h2 with o2 | ⟨e2, f2⟩
  · exact R.ap j k b o1 o2
  · obtain ⟨⟨o, ho⟩, _⟩ := R.own_facts ⟨j, o1⟩
    rw [f2] at ho; cases ho
  · obtain ⟨⟨o, ho⟩, _⟩ := R.own_facts ⟨k, o2⟩
    rw [f1] at ho; cases ho
  · rw [e1, e2]
theorem Rep.ap_upd (R : Rep K z r s H F) {i : Nat} {p : Addr} {sv sv' : SV} {o : HO} (hi : r[i]? = some (some sv)) (own : sv.own = true) (hs : s[i]? = some (some (V.ref p))) (parts : ∀ b, Part (upd H p o) p b → Part H p b) : Apart (r.set i (some sv')) s (upd H p o) :=
  R.ap_keep hi own hs (fun a _ _ ne o ho => by rw [upd_ne ne]; exact ho) fun b q => .inl (parts b q)
/-- .. another slot's part is none of these -/
theorem Rep.other (R : Rep K z r s H F) {i j : Nat} {p a b : Addr} {sv x : SV} (n : j ≠ i) (hi : r[i]? = some (some sv)) (own : sv.own = true) (hs : s[i]? = some (some (V.ref p))) (hj : r[j]? = some (some x)) (own2 : x.own = true) (hs2 : s[j]? = some (some (V.ref a))) (hp : Part H a b) : b ≠ p :=
  fun e => n (R.ap j i p ⟨x, a, hj, own2, hs2, e ▸ hp⟩ ⟨sv, p, hi, own, hs, part_self⟩)
theorem owns_upd {p : Addr} {o : HO} {j : Nat} {b : Addr} (ho : ¬ OwnAt r s H p) (h : Owns r s (upd H p o) j b) : Owns r s H j b :=
  owns_H (fun a sv h1 h2 h3 => upd_ne fun e => ho ⟨j, sv, a, h1, h2, h3, .inl e.symm⟩) h
theorem ownAt_upd {p : Addr} {o : HO} {b : Addr} (ho : ¬ OwnAt r s H p) (h : OwnAt r s (upd H p o) b) : OwnAt r s H b := let ⟨j, h⟩ := h; ⟨j, owns_upd ho h⟩
/-- the heap without what the frame owns -/
noncomputable def bare (r : Rho) (s : St) (H : Hp) : Hp := fun b => by
  classical exact if OwnAt r s H b then none else H b
theorem bare_own {b : Addr} (h : OwnAt r s H b) : bare r s H b = none := by unfold bare; rw [if_pos h]
theorem bare_not {b : Addr} (h : ¬ OwnAt r s H b) : bare r s H b = H b := by unfold bare; rw [if_neg h]
theorem bare_sub : SubH (bare r s H) H := fun a o h => by
  by_cases q : OwnAt r s H a
  · rw [bare_own q] at h; cases h
  · rw [bare_not q] at h; exact h
theorem Rep.base (R : Rep K z r s H F) : Rep K ⟨bare r s H, F, z.rf⟩ r s H F where
  fh := R.fh
  old := bare_sub
  f0 := .refl _
  nw := fun b o h => .inl h
  slots := fun i sv h => by
    obtain ⟨v, h1, h2⟩ := R.slots i sv h
    refine ⟨v, h1, ?_⟩
    cases sv with
    | d x => exact h2
    | ad y => exact h2
    | l b xs =>
      obtain ⟨a, vs, rfl, q1, q2, q3, q4⟩ := h2
      exact ⟨a, vs, rfl, q1, q2, bare_own ⟨i, _, _, h, rfl, h1, part_self⟩, q4⟩
    | m b t kvs =>
      obtain ⟨a, rfl, q2, q3, q4⟩ := h2
      exact ⟨a, rfl, q2, bare_own ⟨i, _, _, h, rfl, h1, part_self⟩, q4⟩
    | k b kvs =>
      obtain ⟨a, rfl, q2, q3, q4⟩ := h2
      exact ⟨a, rfl, q2, bare_own ⟨i, _, _, h, rfl, h1, part_self⟩, q4⟩
    | s b net told rows =>
      obtain ⟨a, rfl, q2, q3, q4, q5, q6⟩ := h2
      exact ⟨a, rfl, q2, bare_own ⟨i, _, _, h, rfl, h1, part_self⟩, q4, fun l p => bare_own ⟨i, _, _, h, rfl, h1, p⟩, q6⟩
  ap := R.ap
  len := R.len
theorem Rep.back {r' : Rho} {s' : St} (R : Rep K z r s H F) (R' : Rep K ⟨bare r s H, F, z.rf⟩ r' s' H' F') : Rep K z r' s' H' F' := by
  have key : ∀ b, bare r s H b = none → z.H0 b = none := fun b h => by
    by_cases q : OwnAt r s H b
    · exact (R.own_facts q).2.2
    · rw [bare_not q] at h; exact R.old.none h
  refine ⟨R'.fh, fun b o h => ?_, R.f0.trans R'.f0, fun b o h => ?_, fun i sv h => ?_, R'.ap, R'.len⟩
  · refine R'.old b o ?_
    show bare r s H b = some o
    rw [bare_not, R.old b o h]
    intro q
    rw [(R.own_facts q).2.2] at h; cases h
  · rcases R'.nw b o h with h | h | h
    · exact R.nw b o h
    · exact .inr (.inl (key b h))
    · exact .inr (.inr h)
  · obtain ⟨v, h1, h2⟩ := R'.slots i sv h
    refine ⟨v, h1, ?_⟩
    cases sv with
    | d x => exact h2
    | ad y => exact h2
    | l b xs =>
      obtain ⟨a, vs, rfl, q1, q2, q3, q4⟩ := h2
      exact ⟨a, vs, rfl, q1, q2, key a q3, q4⟩
    | m b t kvs =>
      obtain ⟨a, rfl, q2, q3, q4⟩ := h2
      exact ⟨a, rfl, q2, key a q3, q4⟩
    | k b kvs =>
      obtain ⟨a, rfl, q2, q3, q4⟩ := h2
      exact ⟨a, rfl, q2, key a q3, q4⟩
    | s b net told rows =>
      obtain ⟨a, rfl, q2, q3, q4, q5, q6⟩ := h2
      exact ⟨a, rfl, q2, key a q3, q4, fun l p => key l (q5 l p), q6⟩
theorem get_set_cases {α : Type} {l : List α} {i j : Nat} {x y : α} (h : (l.set i x)[j]? = some y) : (j = i ∧ y = x) ∨ (j ≠ i ∧ l[j]? = some y) := by
  by_cases q : j = i
  · subst q
    by_cases hl : j < l.length
    · rw [List.getElem?_set_self hl] at h; exact .inl ⟨rfl, (Option.some.inj h).symm⟩
    · rw [List.getElem?_eq_none (by simpa using hl)] at h; cases h
  · rw [List.getElem?_set_ne (Ne.symm q)] at h; exact .inr ⟨q, h⟩
/-- a slot takes a datum -/
theorem Rep.put (R : Rep K z r s H F) {i : Nat} {v : V} {x : D} (h : Dp K F v x) : Rep K z (r.set i (some (.d x))) (s.set i (some v)) H F where
  fh := R.fh
  old := R.old
  f0 := R.f0
  nw := R.nw
  slots := fun j sv e => by
    have hj : j < r.length := by
      have q : j < (r.set i (some (SV.d x))).length := (List.getElem?_eq_some_iff.mp e).1
      simpa using q
    rcases get_set_cases e with ⟨rfl, e2⟩ | ⟨ne, e⟩
    · cases e2
      exact ⟨v, by rw [List.getElem?_set_self (by rw [← R.len]; exact hj)], h⟩
    · obtain ⟨w, h1, h2⟩ := R.slots j sv e
      exact ⟨w, by rw [List.getElem?_set_ne (Ne.symm ne)]; exact h1, h2⟩
  ap := R.ap.sub fun j b h => by
    rcases owns_set h with ⟨_, o, _⟩ | ⟨_, h⟩
    · cases o
    · exact h
  len := by simpa using R.len
end
end DL
namespace DL
open PySem L2
abbrev EM := Rho → Option (D × Rho)
abbrev TM := Rho → Option (Bool × Rho)
abbrev AM := Rho → Option (List D × Rho)
/-- a value seen: a datum, or an own list -/
def Dv (K : PySem.W.Frag) (F H : Hp) (v : V) (d : D) : Prop := Dp K F v d ∨ ∃ a vs xs, v = .ref a ∧ d = .list xs ∧ H a = some (.lst vs) ∧ DpAll K F vs xs
def liftE (K : PySem.W.Frag) (f : EM) : TE := fun s H Q => ∃ z r F d r', Rep K z r s H F ∧ f r = some (d, r') ∧ ∀ v H' F', Rep K z r' s H' F' → SubH F F' → Dp K F' v d → Q v H'
def liftW (K : PySem.W.Frag) (f : EM) : TE := fun s H Q => ∃ z r F d r', Rep K z r s H F ∧ f r = some (d, r') ∧ ∀ v H' F', Rep K z r' s H' F' → SubH F F' → Dv K F' H' v d → Q v H'
def liftT (K : PySem.W.Frag) (f : TM) : TT := fun s H Q => ∃ z r F d r', Rep K z r s H F ∧ f r = some (d, r') ∧ ∀ H' F', Rep K z r' s H' F' → SubH F F' → Q d H'
def liftA (K : PySem.W.Frag) (f : AM) : TA := fun s H Q => ∃ z r F d r', Rep K z r s H F ∧ f r = some (d, r') ∧ ∀ v H' F', Rep K z r' s H' F' → SubH F F' → DpAll K F' v d → Q v H'
/-- a new list -/
def liftL (K : PySem.W.Frag) (f : AM) : TE := fun s H Q => ∃ z r F d r', Rep K z r s H F ∧ f r = some (d, r') ∧
  ∀ a vs H' F', Rep K z r' s H' F' → SubH F F' → H' a = some (.lst vs) → F' a = none → z.H0 a = none → ¬ OwnAt r' s H' a → DpAll K F' vs d → Q (.ref a) H'
structure SE (X : Cx) (e : Expr) (f : EM) : Prop where
  pe : PE X e (liftE X.K f)
structure SW (X : Cx) (e : Expr) (f : EM) : Prop where
  pe : PE X e (liftW X.K f)
structure SL (X : Cx) (e : Expr) (f : AM) : Prop where
  pe : PE X e (liftL X.K f)
structure ST (X : Cx) (e : Expr) (f : TM) : Prop where
  pt : PT X e (liftT X.K f)
structure SA (X : Cx) (es : List Expr) (f : AM) : Prop where
  pa : PA X es (liftA X.K f)
  len : ∀ r ds r', f r = some (ds, r') → ds.length = es.length
theorem pe_imp {X : Cx} {e : Expr} {t t' : TE} (h : PE X e t) (k : ∀ s H Q, t' s H Q → t s H Q) : PE X e t' := ⟨fun pins s σ H Q I hq => h.run pins s σ H Q I (k _ _ _ hq)⟩
theorem pt_imp {X : Cx} {e : Expr} {t t' : TT} (h : PT X e t) (k : ∀ s H Q, t' s H Q → t s H Q) : PT X e t' := ⟨fun pins s σ H Q I hq => h.run pins s σ H Q I (k _ _ _ hq)⟩
theorem pa_imp {X : Cx} {e : List Expr} {t t' : TA} (h : PA X e t) (k : ∀ s H Q, t' s H Q → t s H Q) : PA X e t' := ⟨fun pos pins s σ H Q I hq => h.run pos pins s σ H Q I (k _ _ _ hq)⟩
section
variable {X : Cx} {a b c e : Expr} {es : List Expr} {f g : EM} {pos : Pos}
theorem SE.sw (h : SE X e f) : SW X e f := ⟨pe_imp h.pe fun s H Q ⟨z, r, F, d, r', R, e, k⟩ => ⟨z, r, F, d, r', R, e, fun v H' F' R' sb q => k v H' F' R' sb (.inl q)⟩⟩
/-- a frame's loose list is frozen -/
theorem Rep.freeze1 {K : PySem.W.Frag} {z : Fx} {r : Rho} {s : St} {H F : Hp} (R : Rep K z r s H F) {p : Addr} {o : HO} (hp : H p = some o) (hf : F p = none) (h0 : z.H0 p = none) (ho : ¬ OwnAt r s H p) : Rep K z r s H (upd F p o) where
  fh := fun b u q => by
    by_cases e : b = p
    · subst e; rw [upd_same] at q; rw [hp]; exact q
    · rw [upd_ne e] at q; exact R.fh b u q
  old := R.old
  f0 := R.f0.trans (.new hf)
  nw := fun b u q => by
    by_cases e : b = p
    · subst e; exact .inr (.inl h0)
    · rw [upd_ne e] at q; exact R.nw b u q
  slots := fun i sv q => by
    obtain ⟨v, h1, h2⟩ := R.slots i sv q
    refine ⟨v, h1, h2.mono (.new hf) (fun _ _ _ _ _ _ h => h) fun a b o ho' hf' _ hown e hp => ?_⟩
    have : b ≠ p := fun z => ho ⟨i, sv, a, q, hown, by rw [h1, e], z ▸ hp⟩
    rw [upd_ne this]; exact hf'
  ap := R.ap
  len := R.len
def ofL (f : AM) : EM := fun r => (f r).map fun p => (.list p.1, p.2)
theorem SL.se {f : AM} (h : SL X e f) : SE X e (ofL f) := ⟨pe_imp h.pe fun s H Q ⟨z, r, F, d, r', R, e, k⟩ => by
  unfold ofL at e
  cases q : f r with
  | none => rw [q] at e; cases e
  | some p =>
    obtain ⟨ds, r1⟩ := p
    rw [q] at e; cases e
    refine ⟨z, r, F, ds, r1, R, q, fun a vs H' F' R' sb h1 h2 h3 h4 h5 => ?_⟩
    have G := R'.freeze1 h1 h2 h3 h4
    exact k _ _ _ G (sb.trans (.new h2)) (.lst (.inl (.inl upd_same)) (dpa_mono (.new h2) h5))⟩
/-! ### names, constants -/
def varM (i : Nat) : EM := fun r => match r[i]? with
  | some (some (.d x)) => some (x, r)
  | _ => none
def ownM (i : Nat) : EM := fun r => match r[i]? with
  | some (some (.l _ xs)) => some (.list xs, r)
  | _ => none
def cM (d : D) : EM := fun r => some (d, r)
theorem varM_some {i : Nat} {r r' : Rho} {d : D} (h : varM i r = some (d, r')) : r[i]? = some (some (.d d)) ∧ r' = r := by
  unfold varM at h
  split at h
  · rename_i x e; cases h; exact ⟨e, rfl⟩
  · cases h
theorem ownM_some {i : Nat} {r r' : Rho} {d : D} (h : ownM i r = some (d, r')) : ∃ b xs, r[i]? = some (some (.l b xs)) ∧ d = .list xs ∧ r' = r := by
  unfold ownM at h
  split at h
  · rename_i x e; cases h; exact ⟨_, _, e, rfl, rfl⟩
  · cases h
theorem se_var (i : Nat) {x : Str} (hN : X.N[i]? = some x := by rfl) (hv : Vis X.env.scope x := by first | exact Or.inl rfl | exact Or.inr (Or.inl rfl) | exact Or.inr (Or.inr rfl)) (hd : (x == ("__debug__" : Str)) = false := by decide)
    (hcd : (x == ("__classdict__" : Str)) = false := by decide) : SE X (.Name x pos) (varM i) :=
  ⟨pe_imp (pe_var hN hv hd hcd) fun s H Q ⟨z, r, F, d, r', R, e, k⟩ => by
    obtain ⟨e1, rfl⟩ := varM_some e
    obtain ⟨v, h1, h2⟩ := R.slots i _ e1
    exact ⟨v, h1, k v H F R (.refl _) h2⟩⟩
theorem sw_own (i : Nat) {x : Str} (hN : X.N[i]? = some x := by rfl) (hv : Vis X.env.scope x := by first | exact Or.inl rfl | exact Or.inr (Or.inl rfl) | exact Or.inr (Or.inr rfl)) (hd : (x == ("__debug__" : Str)) = false := by decide)
    (hcd : (x == ("__classdict__" : Str)) = false := by decide) : SW X (.Name x pos) (ownM i) :=
  ⟨pe_imp (pe_var hN hv hd hcd) fun s H Q ⟨z, r, F, d, r', R, e, k⟩ => by
    obtain ⟨bb, xs, e1, rfl, rfl⟩ := ownM_some e
    obtain ⟨v, h1, a, vs, rfl, h2, h3, h4, h5, h6⟩ := R.slots i _ e1
    exact ⟨_, h1, k _ H F R (.refl _) (.inr ⟨a, vs, xs, rfl, rfl, h2, h5⟩)⟩⟩
theorem se_c {d : D} {v : V} (h : PE X e (tC v)) (hd : ∀ F, Dp X.K F v d) : SE X e (cM d) :=
  ⟨pe_imp h fun s H Q ⟨z, r, F, d, r', R, e, k⟩ => by cases e; exact k v H F R (.refl _) (hd F)⟩
theorem se_int {i j pos} : SE X (.Constant (.int i) j pos) (cM (.int i)) := se_c pe_int fun _ => .int i
theorem se_bl {i j pos} : SE X (.Constant (.bool i) j pos) (cM (.bool i)) := se_c pe_bl fun _ => .bl i
theorem se_non {j pos} : SE X (.Constant .none j pos) (cM .none) := se_c pe_non fun _ => .non
theorem se_str {x j pos} : SE X (.Constant (.str x) j pos) (cM (.str x)) := se_c pe_str fun _ => .str x
/-! ### two operands -/
/-- an operation on data: what it asks of the heap -/
def liftO (K : PySem.W.Frag) (h : D → D → Option D) : R2 := fun x y H Q => ∃ F d e o, SubH F H ∧ Dv K F H x d ∧ Dv K F H y e ∧ h d e = some o ∧ ∀ v H' F', Grow F H F' H' → Dp K F' v o → Q v H'
def opM (h : D → D → Option D) (f g : EM) : EM := fun r => (f r).bind fun p => (g p.2).bind fun q => (h p.1 q.1).map fun d => (d, q.2)
theorem opM_some {h : D → D → Option D} {f g : EM} {r r' : Rho} {o : D} (q : opM h f g r = some (o, r')) : ∃ x r1 y, f r = some (x, r1) ∧ g r1 = some (y, r') ∧ h x y = some o := by
  unfold opM at q
  cases e1 : f r with
  | none => rw [e1] at q; cases q
  | some p =>
    rw [e1] at q
    simp only [Option.bind_some] at q
    cases e2 : g p.2 with
    | none => rw [e2] at q; cases q
    | some p2 =>
      rw [e2] at q
      simp only [Option.bind_some] at q
      cases e3 : h p.1 p2.1 with
      | none => rw [e3] at q; cases q
      | some d => rw [e3] at q; cases q; exact ⟨p.1, p.2, p2.1, rfl, e2, e3⟩
theorem Dv.mono {K : PySem.W.Frag} {F H F' H' : Hp} {v : V} {d : D} (h : Dv K F H v d) (e : SubH F F') (hh : SubH H H') : Dv K F' H' v d := by
  rcases h with h | ⟨a, vs, xs, rfl, rfl, h1, h2⟩
  · exact .inl (dp_mono e h)
  · exact .inr ⟨a, vs, xs, rfl, rfl, hh _ _ h1, dpa_mono e h2⟩
theorem Dv.dp {K : PySem.W.Frag} {F H : Hp} {v : V} {d : D} (h : Dv K F H v d) (e : SubH F H) : Dp K H v d := by
  rcases h with h | ⟨a, vs, xs, rfl, rfl, h1, h2⟩
  · exact dp_mono e h
  · exact .lst (.inl (.inl h1)) (dpa_mono e h2)
theorem top_op {r2 : R2} {h : D → D → Option D} (hb : SW X b g) (ha : SE X a f) {s : St} {H : Hp} {Q : VK} (q : liftE X.K (opM h f g) s H Q) : tOp (liftO X.K h) (liftE X.K f) (liftW X.K g) s H Q := by
  obtain ⟨z, r, F, d, r', R, e, k⟩ := q
  obtain ⟨x, r1, y, e1, e2, e3⟩ := opM_some e
  refine ⟨z, r, F, x, r1, R, e1, fun v H1 F1 R1 sb1 dx => ⟨z, r1, F1, y, r', R1, e2, fun w H2 F2 R2 sb2 dy => ⟨F2, x, y, d, R2.fh, .inl (dp_mono sb2 dx), dy, e3, fun v' H' F' G dd => ?_⟩⟩⟩
  exact k v' H' F' (R2.grow G) ((sb1.trans sb2).trans G.ff) dd
theorem se_op {op : Operator} {h : D → D → Option D} (ho : OpR X (binaryOp op) (liftO X.K h)) (ha : SE X a f) (hb : SW X b g) : SE X (.BinOp a op b pos) (opM h f g) :=
  ⟨pe_imp (pe_op ho ha.pe hb.pe) fun s H Q q => top_op (r2 := liftO X.K h) hb ha q⟩
theorem se_cmp {op : CmpOp} {h : D → D → Option D} (ho : OpR X (compareOp op) (liftO X.K h)) (ha : SE X a f) (hb : SW X b g) (hm : behindInMarks op b = false := by first | exact nobehind _ (by decide) (by decide) | rfl) : SE X (.Compare a [op] [b] pos) (opM h f g) :=
  ⟨pe_imp (pe_cmpR ho ha.pe hb.pe hm) fun s H Q q => top_op (r2 := liftO X.K h) hb ha q⟩
/-! ### one operand: a built-in -/
def unM (h : D → Option D) (f : EM) : EM := fun r => (f r).bind fun p => (h p.1).map fun d => (d, p.2)
def liftC1 (K : PySem.W.Frag) (h : D → Option D) : List V → Hp → VK → Prop := fun vs H Q => ∃ F x d o, vs = [x] ∧ SubH F H ∧ Dv K F H x d ∧ h d = some o ∧ ∀ v H' F', Grow F H F' H' → Dp K F' v o → Q v H'
theorem unM_some {h : D → Option D} {f : EM} {r r' : Rho} {o : D} (q : unM h f r = some (o, r')) : ∃ x, f r = some (x, r') ∧ h x = some o := by
  unfold unM at q
  simp only [Option.bind_eq_some_iff, Option.map_eq_some_iff] at q
  obtain ⟨⟨x, r1⟩, e1, o', e2, e3⟩ := q
  cases e3; exact ⟨x, e1, e2⟩
theorem se_b1 {id : String} {x : Str} {p : Pos} {h : D → Option D} (hc : CallR X (.builtin id) (liftC1 X.K h)) (hg : Gl X x) (hm : X.mg x = none) (hv : bootBuiltins x = some (.builtin id)) (ha : SW X a f) (hn : x ≠ "__name__" := by decide) (hdb : (x == ("__debug__" : Str)) = false := by decide)
    (he : starEach [a] X.env = [(false, eval a X.env)] := by rfl) : SE X (.Call (.Name x p) [a] [] pos) (unM h f) :=
  ⟨pe_imp (pe_callB hc hg hm hv (pa_cons ha.pe pa_nil he) hn hdb he rfl) fun s H Q ⟨z, r, F, d, r', R, e, k⟩ => by
    obtain ⟨x, e1, e2⟩ := unM_some e
    exact ⟨z, r, F, x, r', R, e1, fun v H' F' R' sb dv => ⟨F', v, x, d, rfl, R'.fh, dv, e2, fun v2 H2 F2 G dd => k v2 H2 F2 (R'.grow G) (sb.trans G.ff) dd⟩⟩⟩
theorem se_t1 {id : String} {x : Str} {p : Pos} {h : D → Option D} (hc : CallR X (.type id) (liftC1 X.K h)) (hg : Gl X x) (hm : X.mg x = none) (hv : bootBuiltins x = some (.type id)) (ha : SW X a f) (hn : x ≠ "__name__" := by decide) (hdb : (x == ("__debug__" : Str)) = false := by decide)
    (he : starEach [a] X.env = [(false, eval a X.env)] := by rfl) : SE X (.Call (.Name x p) [a] [] pos) (unM h f) :=
  ⟨pe_imp (pe_callTy hc hg hm hv (pa_cons ha.pe pa_nil he) hn hdb he rfl) fun s H Q ⟨z, r, F, d, r', R, e, k⟩ => by
    obtain ⟨x, e1, e2⟩ := unM_some e
    exact ⟨z, r, F, x, r', R, e1, fun v H' F' R' sb dv => ⟨F', v, x, d, rfl, R'.fh, dv, e2, fun v2 H2 F2 G dd => k v2 H2 F2 (R'.grow G) (sb.trans G.ff) dd⟩⟩⟩
/-- two arguments -/
def liftC2 (K : PySem.W.Frag) (h : D → D → Option D) : List V → Hp → VK → Prop := fun vs H Q => ∃ x y, vs = [x, y] ∧ liftO K h x y H Q
theorem se_b2 {id : String} {x : Str} {p : Pos} {h : D → D → Option D} (hc : CallR X (.builtin id) (liftC2 X.K h)) (hg : Gl X x) (hm : X.mg x = none) (hv : bootBuiltins x = some (.builtin id)) (ha : SE X a f) (hb : SW X b g) (hn : x ≠ "__name__" := by decide) (hdb : (x == ("__debug__" : Str)) = false := by decide)
    (he : starEach [a, b] X.env = [(false, eval a X.env), (false, eval b X.env)] := by rfl) (he2 : starEach [b] X.env = [(false, eval b X.env)] := by rfl) : SE X (.Call (.Name x p) [a, b] [] pos) (opM h f g) :=
  ⟨pe_imp (pe_callB hc hg hm hv (pa_cons ha.pe (pa_cons hb.pe pa_nil he2) (by rw [he, he2])) hn hdb (by rw [he, he2]) (by rw [he2]; rfl)) fun s H Q q => by
    have q2 := top_op (r2 := liftO X.K h) hb ha q
    obtain ⟨z, r, F, d, r', R, e, k⟩ := q
    obtain ⟨x, r1, y, e1, e2, e3⟩ := opM_some e
    refine ⟨z, r, F, x, r1, R, e1, fun v H1 F1 R1 sb1 dx => ⟨z, r1, F1, y, r', R1, e2, fun w H2 F2 R2 sb2 dy => ⟨v, w, rfl, F2, x, y, d, R2.fh, .inl (dp_mono sb2 dx), dy, e3, fun v' H' F' G dd => ?_⟩⟩⟩
    exact k v' H' F' (R2.grow G) ((sb1.trans sb2).trans G.ff) dd⟩
end
end DL
namespace DL
open PySem L2 PyProof.Rows PySem.Spec
section
variable {X : Cx}
/-! ### rules that the layer below lacks -/
def rCatL (K : PySem.W.Frag) : R2 := fun x y H Q => ∃ l b xs zs, x = .ref l ∧ y = .ref b ∧ SqL K H l xs ∧ SqL K H b zs ∧ xs.length + zs.length ≤ sizeLine ∧ ∀ p, H p = none → Q (.ref p) (upd H p (.lst (xs ++ zs)))
theorem op_catL : OpR X (binaryOp .Add) (rCatL X.K) := by
  rintro pins s σ H x y v u Q I rx ry ⟨p1, p2, xs, ys, rfl, rfl, one, two, fits, give⟩
  cases rx
  cases ry
  obtain ⟨us, left, ⟨⟨c1, d1, dt1, s1⟩, n1, at1, isL1, _, isS1⟩, _⟩ := I.list one
  obtain ⟨ws, right, ⟨⟨c2, d2, dt2, s2⟩, n2, at2, isL2, _, isS2⟩, _⟩ := I.list two
  cases isL1; cases isS1; cases isL2; cases isS2
  have t1 : s.TypeIs (.ref p1) "list" := ⟨_, at1, rfl⟩
  have t2 : s.TypeIs (.ref p2) "list" := ⟨_, at2, rfl⟩
  have sizes : us.toArray.size + ws.toArray.size ≤ sizeLine := by simp [← left.length, ← right.length, fits]
  refine concat_meets t1 t2 noFill_list_add seq_list_add PySem.F.slot_list_add PySem.F.entry_list_add (PySem.F.args_list_add_2 _ _) (list_addW p1 p2 us.toArray ws.toArray n1 n2 d1 d2 s1 s2 sizes) ⟨at1, at2, ?_⟩
  have joined := I.lnew (t' := s.toks) (left.append right) (by simpa using fits)
  rw [show us.toArray ++ ws.toArray = (us ++ ws).toArray by simp]
  exact ⟨.ref s.heap.objs.size, _, joined, rfl, give _ I.fresh⟩
/-! ### operations on data -/
def szOk (n : Nat) : Bool := decide (n ≤ 1000000)
theorem szOk_le {n : Nat} (h : szOk n = true) : n ≤ sizeLine := Nat.le_trans (of_decide_eq_true h) (by decide)
theorem szOk_lt {n : Nat} (h : szOk n = true) : n < sizeLine := Nat.lt_of_le_of_lt (of_decide_eq_true h) (by decide)
def addD : D → D → Option D
  | .int i, .int j => some (.int (i + j))
  | .tuple xs, .tuple ys => if szOk (xs.length + ys.length) then some (.tuple (xs ++ ys)) else none
  | .list xs, .list ys => if szOk (xs.length + ys.length) then some (.list (xs ++ ys)) else none
  | .str x, .str y => if szOk (x.length + y.length) then some (.str (x ++ y)) else none
  | _, _ => none
theorem dv_int {K : PySem.W.Frag} {F H : Hp} {v : V} {i : Int} (h : Dv K F H v (.int i)) : v = .int i := by
  rcases h with h | ⟨a, vs, xs, _, h, _⟩
  · exact h.inv
  · cases h
theorem dv_str {K : PySem.W.Frag} {F H : Hp} {v : V} {i : Str} (h : Dv K F H v (.str i)) : v = .str i := by
  rcases h with h | ⟨a, vs, xs, _, h, _⟩
  · exact h.inv
  · cases h
theorem dv_bl {K : PySem.W.Frag} {F H : Hp} {v : V} {i : Bool} (h : Dv K F H v (.bool i)) : v = .bl i := by
  rcases h with h | ⟨a, vs, xs, _, h, _⟩
  · exact h.inv
  · cases h
theorem dv_non {K : PySem.W.Frag} {F H : Hp} {v : V} (h : Dv K F H v .none) : v = .non := by
  rcases h with h | ⟨a, vs, xs, _, h, _⟩
  · exact h.inv
  · cases h
theorem dv_tup {K : PySem.W.Frag} {F H : Hp} {v : V} {ds : List D} (h : Dv K F H v (.tuple ds)) : ∃ a vs, v = .ref a ∧ TupAt F a vs ∧ DpAll K F vs ds := by
  rcases h with h | ⟨a, vs, xs, _, h, _⟩
  · obtain ⟨_, _, rfl, h1, h2⟩ := h.inv; exact ⟨_, _, rfl, h1, h2⟩
  · cases h
theorem dv_lst {K : PySem.W.Frag} {F H : Hp} {v : V} {ds : List D} (sb : SubH F H) (h : Dv K F H v (.list ds)) : ∃ a vs, v = .ref a ∧ SqL K H a vs ∧ DpAll K F vs ds := by
  rcases h with h | ⟨a, vs, xs, e, h, h1, h2⟩
  · obtain ⟨_, _, rfl, h1, h2⟩ := h.inv; exact ⟨_, _, rfl, sb.sql h1, h2⟩
  · cases h; exact ⟨a, vs, e, .inl (.inl h1), h2⟩
/-- a new tuple, a new list -/
theorem new_tup {K : PySem.W.Frag} {F H : Hp} {p : Addr} {ob : Obj} {vs : List V} {ds : List D} (none' : ob.dict = none) (sb : SubH F H) (hp : H p = none) (h : DpAll K F vs ds) :
    Grow F H (upd F p (tupHO ob vs)) (upd H p (tupHO ob vs)) ∧ Dp K (upd F p (tupHO ob vs)) (.ref p) (.tuple ds) :=
  have G := Grow.new (o := tupHO ob vs) sb hp
  ⟨G, .tup ⟨ob, none', upd_same⟩ (dpa_mono G.ff h)⟩
/-- the object of a new tuple -/
def tupObj (its : List Value) : Obj := { cls := .type "tuple", data := .seq its.toArray }
theorem lay_tup {pins : List (Addr × Obj)} {s : Shared} {σ : L2.St} {H : Hp} {vs : List V} {its : List Value} (I : L2.Inv X pins σ H s) (vals : Vals vs its) (fits : vs.length ≤ sizeLine) :
    L2.Inv X pins σ (upd H s.heap.objs.size (tupHO (tupObj its) vs)) { s with heap := s.heap.push (tupObj its) } := by
  have new : (s.heap.push (tupObj its)).get? s.heap.objs.size = some (tupObj its) := Heap.get?_push_size _ rfl
  refine I.laid (t' := s.toks) (fun _ _ old => Heap.get?_push_of_some _ old) (Nat.le_refl _) ?_
  rcases tupHO_cases (tupObj its) vs with q | q <;> rw [q]
  · exact ⟨fits, its, vals, _, new, rfl, _, rfl⟩
  · exact ⟨new, fits, its, vals, _, new, rfl, _, rfl⟩
/-- what may come of a new tuple -/
def Laid (H : Hp) (vs : List V) (Q : VK) : Prop := ∀ (p : Addr) (ob : Obj), ob.dict = none → H p = none → Q (.ref p) (upd H p (tupHO ob vs))
theorem laid_ep {pins : List (Addr × Obj)} {s : Shared} {σ : L2.St} {H : Hp} {vs : List V} {its : List Value} {Q : VK} (I : L2.Inv X pins σ H s) (vals : Vals vs its) (fits : vs.length ≤ sizeLine) (q : Laid H vs Q) :
    EP X pins σ Q (.ref s.heap.objs.size) { s with heap := s.heap.push (tupObj its) } :=
  ⟨.ref s.heap.objs.size, _, lay_tup I vals fits, rfl, q _ _ rfl (I.hok.fresh (Nat.le_refl _))⟩
/-- t + u of tuples: the other one if one is empty, else a new one -/
def rCatN (K : PySem.W.Frag) : R2 := fun x y H Q => ∃ a b xs ys, x = .ref a ∧ y = .ref b ∧ SqT K H a xs ∧ SqT K H b ys ∧ xs.length + ys.length ≤ sizeLine ∧
  (xs = [] → Q (.ref b) H) ∧ (xs ≠ [] → ys = [] → Q (.ref a) H) ∧ (xs ≠ [] → ys ≠ [] → Laid H (xs ++ ys) Q)
theorem op_catN : OpR X (binaryOp .Add) (rCatN X.K) := by
  rintro pins s σ H x y v u Q I rx ry ⟨a, b, xs, ys, rfl, rfl, one, two, fits, left, right, new⟩
  cases rx
  cases ry
  obtain ⟨us, vals1, ⟨⟨c1, d1, dt1, s1⟩, at1, isT1, n1, isS1⟩, _⟩ := I.tuple one
  obtain ⟨ws, vals2, ⟨⟨c2, d2, dt2, s2⟩, at2, isT2, n2, isS2⟩, _⟩ := I.tuple two
  cases isT1; cases isS1; cases isT2; cases isS2
  have t1 : s.TypeIs (.ref a) "tuple" := ⟨_, at1, rfl⟩
  have t2 : s.TypeIs (.ref b) "tuple" := ⟨_, at2, rfl⟩
  have l1 := vals1.length
  have l2 := vals2.length
  have e1 : us.toArray.isEmpty = true ↔ xs = [] := by cases xs <;> cases us <;> simp at l1 ⊢
  have e2 : ws.toArray.isEmpty = true ↔ ys = [] := by cases ys <;> cases ws <;> simp at l2 ⊢
  have run := fun S (g : Meets (Builtin.«tuple.__add__» ⟨[.ref a, .ref b], []⟩) S) (q : S X.A (wants (EP X pins σ Q) X.xe) s) =>
    concat_meets (prog := X.prog) (w := X.w) t1 t2 noFill_tuple_add seq_tuple_add PySem.F.slot_tuple_add PySem.F.entry_tuple_add (PySem.F.args_tuple_add_2 _ _) g q
  by_cases h1 : xs = []
  · exact run _ (tuple_addW0 a b _ _ n1 n2 d1 d2 s1 s2 (e1.mpr h1)) ⟨at1, at2, .ref b, H, I, rfl, left h1⟩
  by_cases h2 : ys = []
  · exact run _ (tuple_addW1 a b _ _ n1 n2 d1 d2 s1 s2 (mt e1.mp h1) (e2.mpr h2)) ⟨at1, at2, .ref a, H, I, rfl, right h1 h2⟩
  refine run _ (tuple_addW2 a b _ _ n1 n2 d1 d2 s1 s2 (mt e1.mp h1) (mt e2.mp h2) (by simp; omega)) ⟨at1, at2, ?_⟩
  rw [show us.toArray ++ ws.toArray = (us ++ ws).toArray by simp]
  exact laid_ep I (vals1.append vals2) (by simpa using fits) (new h1 h2)
theorem new_lst {K : PySem.W.Frag} {F H : Hp} {p : Addr} {vs : List V} {ds : List D} (sb : SubH F H) (hp : H p = none) (h : DpAll K F vs ds) : Grow F H (upd F p (.lst vs)) (upd H p (.lst vs)) ∧ Dp K (upd F p (.lst vs)) (.ref p) (.list ds) :=
  have G := Grow.new (o := HO.lst vs) sb hp
  ⟨G, .lst (.inl (.inl upd_same)) (dpa_mono G.ff h)⟩
theorem or_addD : OpR X (binaryOp .Add) (liftO X.K addD) := by
  intro pins s σ H x y v u Q I rx ry h
  obtain ⟨F, d, e, o, sb, dx, dy, eo, k⟩ := h
  unfold addD at eo
  split at eo
  · cases eo
    cases dv_int dx; cases dv_int dy
    exact op_add pins s σ H _ _ v u Q I rx ry ⟨_, _, rfl, rfl, k _ H F (.refl sb) (.int _)⟩
  · split at eo
    · rename_i hz
      cases eo
      obtain ⟨a, vs, rfl, h1, h2⟩ := dv_tup dx
      obtain ⟨b, ws, rfl, h3, h4⟩ := dv_tup dy
      have l1 := dpa_len h2
      have l2 := dpa_len h4
      refine op_catN pins s σ H _ _ v u Q I rx ry ⟨a, b, vs, ws, rfl, rfl, sb.sqt (sqt_of h1), sb.sqt (sqt_of h3), by rw [l1, l2]; exact szOk_le hz, fun e => ?_, fun n e => ?_, fun n1 n2 p ob nd hp => ?_⟩
      · subst e; cases h2; exact k _ H F (.refl sb) (.tup h3 h4)
      · subst e; cases h4; rw [List.append_nil] at k; exact k _ H F (.refl sb) (.tup h1 h2)
      · obtain ⟨G, q⟩ := new_tup nd sb hp (dpa_app h2 h4)
        exact k _ _ _ G q
    · cases eo
  · split at eo
    · rename_i hz
      cases eo
      obtain ⟨a, vs, rfl, h1, h2⟩ := dv_lst sb dx
      obtain ⟨b, ws, rfl, h3, h4⟩ := dv_lst sb dy
      have l1 := dpa_len h2
      have l2 := dpa_len h4
      refine op_catL pins s σ H _ _ v u Q I rx ry ⟨a, b, vs, ws, rfl, rfl, h1, h3, by rw [l1, l2]; exact szOk_le hz, fun p hp => ?_⟩
      obtain ⟨G, q⟩ := new_lst sb hp (dpa_app h2 h4)
      exact k _ _ _ G q
    · cases eo
  · split at eo
    · rename_i hz
      cases eo
      cases dv_str dx; cases dv_str dy
      exact op_add_str pins s σ H _ _ v u Q I rx ry ⟨_, _, rfl, rfl, szOk_le hz, k _ H F (.refl sb) (.str _)⟩
    · cases eo
  · cases eo
def subD : D → D → Option D
  | .int i, .int j => some (.int (i - j))
  | _, _ => none
theorem or_subD : OpR X (binaryOp .Sub) (liftO X.K subD) := by
  intro pins s σ H x y v u Q I rx ry h
  obtain ⟨F, d, e, o, sb, dx, dy, eo, k⟩ := h
  unfold subD at eo
  split at eo
  · cases eo
    cases dv_int dx; cases dv_int dy
    exact op_sub pins s σ H _ _ v u Q I rx ry ⟨_, _, rfl, rfl, k _ H F (.refl sb) (.int _)⟩
  · cases eo
/-- % and // by a positive number -/
def modD : D → D → Option D
  | .int i, .int j => if 0 < j then some (.int (i % j)) else none
  | _, _ => none
theorem or_modD : OpR X (binaryOp .Mod) (liftO X.K modD) := by
  intro pins s σ H x y v u Q I rx ry h
  obtain ⟨F, d, e, o, sb, dx, dy, eo, k⟩ := h
  unfold modD at eo
  split at eo
  · split at eo
    · rename_i hj
      cases eo
      cases dv_int dx; cases dv_int dy
      exact op_mod pins s σ H _ _ v u Q I rx ry ⟨_, _, rfl, rfl, hj, k _ H F (.refl sb) (.int _)⟩
    · cases eo
  · cases eo
def fdivD : D → D → Option D
  | .int i, .int j => if 0 < j ∧ j < 1073741824 then some (.int (i / j)) else none
  | _, _ => none
theorem or_fdivD : OpR X (binaryOp .FloorDiv) (liftO X.K fdivD) := by
  intro pins s σ H x y v u Q I rx ry h
  obtain ⟨F, d, e, o, sb, dx, dy, eo, k⟩ := h
  unfold fdivD at eo
  split at eo
  · split at eo
    · rename_i hj
      cases eo
      cases dv_int dx; cases dv_int dy
      exact op_fdiv pins s σ H _ _ v u Q I rx ry ⟨_, _, rfl, rfl, hj, k _ H F (.refl sb) (.int _)⟩
    · cases eo
  · cases eo
/-- a product of ints, the left or the right one below 2 ^ 64 -/
def mulD : D → D → Option D
  | .int i, .int j => if (-(2 ^ 64) < i ∧ i < 2 ^ 64) ∨ (-(2 ^ 64) < j ∧ j < 2 ^ 64) then some (.int (i * j)) else none
  | _, _ => none
theorem or_mulD : OpR X (binaryOp .Mult) (liftO X.K mulD) := by
  intro pins s σ H x y v u Q I rx ry h
  obtain ⟨F, d, e, o, sb, dx, dy, eo, k⟩ := h
  unfold mulD at eo
  split at eo
  · split at eo
    · rename_i hj
      cases eo
      cases dv_int dx; cases dv_int dy
      exact op_mul pins s σ H _ _ v u Q I rx ry ⟨_, _, rfl, rfl, hj, k _ H F (.refl sb) (.int _)⟩
    · cases eo
  · cases eo
/-! ### comparisons -/
def bD (h : D → D → Option Bool) (d e : D) : Option D := (h d e).map .bool
theorem bD_some {h : D → D → Option Bool} {d e o : D} (q : bD h d e = some o) : ∃ b, h d e = some b ∧ o = .bool b := by
  unfold bD at q
  simp only [Option.map_eq_some_iff] at q
  obtain ⟨b, h1, h2⟩ := q
  exact ⟨b, h1, h2.symm⟩
def eqB (d e : D) : Option Bool := if SeqAt.shaped d && SeqAt.shaped e then some (PyData.eqv d e) else none
def neB (d e : D) : Option Bool := if SeqAt.shaped d && SeqAt.shaped e then some (!PyData.eqv d e) else none
theorem or_eqB (hu : X.A.units + 64 < cLine) : OpR X (compareOp .Eq) (liftO X.K (bD eqB)) := by
  intro pins s σ H x y v u Q I rx ry h
  obtain ⟨F, d, e, o, sb, dx, dy, eo, k⟩ := h
  obtain ⟨bb, e9, rfl⟩ := bD_some eo
  clear eo; have eo := e9; clear e9
  unfold eqB at eo
  split at eo
  · rename_i hs
    cases eo
    obtain ⟨s1, s2⟩ := (Bool.and_eq_true_iff.mp hs)
    exact op_eqD hu pins s σ H _ _ v u Q I rx ry ⟨d, e, dp_old (dx.dp sb), dp_old (dy.dp sb), s1, s2, k _ H F (.refl sb) (.bl _)⟩
  · cases eo
theorem or_neB (hu : X.A.units + 64 < cLine) : OpR X (compareOp .NotEq) (liftO X.K (bD neB)) := by
  intro pins s σ H x y v u Q I rx ry h
  obtain ⟨F, d, e, o, sb, dx, dy, eo, k⟩ := h
  obtain ⟨bb, e9, rfl⟩ := bD_some eo
  clear eo; have eo := e9; clear e9
  unfold neB at eo
  split at eo
  · rename_i hs
    cases eo
    obtain ⟨s1, s2⟩ := (Bool.and_eq_true_iff.mp hs)
    exact op_neD hu pins s σ H _ _ v u Q I rx ry ⟨d, e, dp_old (dx.dp sb), dp_old (dy.dp sb), s1, s2, k _ H F (.refl sb) (.bl _)⟩
  · cases eo
/-- the ints of a row -/
def intsOf : List D → Option (List Int)
  | [] => some []
  | .int i :: r => (intsOf r).map (i :: ·)
  | _ :: _ => none
theorem intsOf_some : ∀ {ds : List D} {ns : List Int}, intsOf ds = some ns → ds = ns.map PyData.int
  | [], ns, h => by cases h; rfl
  | .int i :: r, ns, h => by
    simp only [intsOf, Option.map_eq_some_iff] at h
    obtain ⟨ms, h1, rfl⟩ := h
    rw [intsOf_some h1]; rfl
  | .none :: _, _, h => nomatch h
  | .bool _ :: _, _, h => nomatch h
  | .str _ :: _, _, h => nomatch h
  | .list _ :: _, _, h => nomatch h
  | .tuple _ :: _, _, h => nomatch h
  | .dict _ :: _, _, h => nomatch h
theorem intsOf_map (ns : List Int) : intsOf (ns.map PyData.int) = some ns := by
  induction ns with
  | nil => rfl
  | cons n ns ih => simp [intsOf, ih]
def ltB : D → D → Option Bool
  | .int i, .int j => some (decide (i < j))
  | .tuple xs, .tuple ys => (intsOf xs).bind fun ns => (intsOf ys).map fun ms => HT.lexLt ns ms
  | _, _ => none
theorem or_ltB (hu : X.A.units < cLine) : OpR X (compareOp .Lt) (liftO X.K (bD ltB)) := by
  intro pins s σ H x y v u Q I rx ry h
  obtain ⟨F, d, e, o, sb, dx, dy, eo, k⟩ := h
  obtain ⟨bb, e9, rfl⟩ := bD_some eo
  clear eo; have eo := e9; clear e9
  unfold ltB at eo
  split at eo
  · cases eo
    cases dv_int dx; cases dv_int dy
    exact op_lt pins s σ H _ _ v u Q I rx ry ⟨_, _, rfl, rfl, k _ H F (.refl sb) (.bl _)⟩
  · simp only [Option.bind_eq_some_iff, Option.map_eq_some_iff] at eo
    obtain ⟨ns, e1, ms, e2, rfl⟩ := eo
    cases intsOf_some e1; cases intsOf_some e2
    obtain ⟨a, vs, rfl, h1, h2⟩ := dv_tup dx
    obtain ⟨b, ws, rfl, h3, h4⟩ := dv_tup dy
    cases dpa_ints h2; cases dpa_ints h4
    exact op_ltT hu pins s σ H _ _ v u Q I rx ry ⟨a, b, ns, ms, rfl, rfl, sb.sqt (sqt_of h1), sb.sqt (sqt_of h3), k _ H F (.refl sb) (.bl _)⟩
  · cases eo
def leB : D → D → Option Bool
  | .int i, .int j => some (decide (i ≤ j))
  | .tuple xs, .tuple ys => (intsOf xs).bind fun ns => (intsOf ys).map fun ms => !HT.lexLt ms ns
  | _, _ => none
theorem lexAt_shift {e r : Nat → Bool} {z : Bool} : ∀ (n i : Nat), Ob.lexAt e r z (i + 1) n = Ob.lexAt (fun j => e (j + 1)) (fun j => r (j + 1)) z i n
  | 0, i => rfl
  | n + 1, i => by rw [Ob.lexAt_succ, Ob.lexAt_succ, lexAt_shift n (i + 1)]
theorem le_lex : ∀ ns ms : List Int, Ob.lexAt (fun j => decide (ns.getD j 0 = ms.getD j 0)) (fun j => decide (ns.getD j 0 ≤ ms.getD j 0)) (decide (ns.length ≤ ms.length)) 0 (min ns.length ms.length) = !HT.lexLt ms ns
  | [], [] => rfl
  | [], y :: ys => by simp [Ob.lexAt_zero, HT.lexLt]
  | x :: xs, [] => by simp [Ob.lexAt_zero, HT.lexLt]
  | x :: xs, y :: ys => by
    have ih := le_lex xs ys
    have hm : min (x :: xs).length (y :: ys).length = min xs.length ys.length + 1 := by simp only [List.length_cons]; omega
    rw [hm, Ob.lexAt_succ, HT.lexLt_cons]
    simp only [List.getD_cons_zero]
    by_cases h : x = y
    · subst h
      rw [if_pos (by simp), if_pos rfl, lexAt_shift]
      simp only [List.getD_cons_succ, List.length_cons, Nat.add_le_add_iff_right]
      exact ih
    · rw [if_neg (by simpa using h), if_neg (fun q => h q.symm)]
      by_cases q : x ≤ y
      · rw [decide_eq_true q, decide_eq_false (by omega)]; rfl
      · rw [decide_eq_false q, decide_eq_true (by omega)]; rfl
theorem or_leB (hu : X.A.units < cLine) : OpR X (compareOp .LtE) (liftO X.K (bD leB)) := by
  intro pins s σ H x y v u Q I rx ry h
  obtain ⟨F, d, e, o, sb, dx, dy, eo, k⟩ := h
  obtain ⟨bb, e9, rfl⟩ := bD_some eo
  clear eo; have eo := e9; clear e9
  unfold leB at eo
  split at eo
  · cases eo
    cases dv_int dx; cases dv_int dy
    exact op_le pins s σ H _ _ v u Q I rx ry ⟨_, _, rfl, rfl, k _ H F (.refl sb) (.bl _)⟩
  · simp only [Option.bind_eq_some_iff, Option.map_eq_some_iff] at eo
    obtain ⟨ns, e1, ms, e2, rfl⟩ := eo
    cases intsOf_some e1; cases intsOf_some e2
    obtain ⟨a, vs, rfl, h1, h2⟩ := dv_tup dx
    obtain ⟨b, ws, rfl, h3, h4⟩ := dv_tup dy
    cases dpa_ints h2; cases dpa_ints h4
    refine op_leT hu pins s σ H _ _ v u Q I rx ry ⟨a, b, ns, ms, rfl, rfl, sb.sqt (sqt_of h1), sb.sqt (sqt_of h3), ?_⟩
    rw [le_lex]
    exact k _ H F (.refl sb) (.bl _)
  · cases eo
/-- in -/
def itemsOf : D → Option (List D)
  | .tuple ds => some ds
  | .list ds => some ds
  | _ => none
def inB (d e : D) : Option Bool := (itemsOf e).bind fun ds => if SeqAt.shaped d && SeqAt.shaped e then some (ds.any fun z => PyData.eqv z d) else none
def notInB (d e : D) : Option Bool := (inB d e).map fun b => !b
theorem or_inB (hu : X.A.units + 65 < cLine) : OpR X (compareOp .In) (liftO X.K (bD inB)) := by
  intro pins s σ H x y v u Q I rx ry h
  obtain ⟨F, d, e, o, sb, dx, dy, eo, k⟩ := h
  obtain ⟨bb, e9, rfl⟩ := bD_some eo
  clear eo; have eo := e9; clear e9
  unfold inB at eo
  simp only [Option.bind_eq_some_iff] at eo
  obtain ⟨ds, e1, e2⟩ := eo
  split at e2
  · rename_i hs
    cases e2
    obtain ⟨s1, s2⟩ := (Bool.and_eq_true_iff.mp hs)
    obtain ⟨as, r1⟩ := L2.Dp.reads I d x v (dp_old (dx.dp sb)) rx
    obtain ⟨bs, r2⟩ := L2.Dp.reads I e y u (dp_old (dy.dp sb)) ry
    unfold itemsOf at e1
    split at e1
    · cases e1
      exact SeqAt.in_tuple_reads r2 r1 (SeqAt.canLay_of_shaped s2) (SeqAt.canLay_of_shaped s1) (room_in_shaped s1 hu) ⟨.bl _, H, I, rfl, k _ H F (.refl sb) (.bl _)⟩
    · cases e1
      exact SeqAt.in_list_reads r2 r1 (SeqAt.canLay_of_shaped s2) (SeqAt.canLay_of_shaped s1) (room_in_shaped s1 hu) ⟨.bl _, H, I, rfl, k _ H F (.refl sb) (.bl _)⟩
    · cases e1
  · cases e2
theorem or_notInB (hu : X.A.units + 65 < cLine) : OpR X (compareOp .NotIn) (liftO X.K (bD notInB)) := by
  intro pins s σ H x y v u Q I rx ry h
  obtain ⟨F, d, e, o, sb, dx, dy, eo, k⟩ := h
  obtain ⟨bb, e9, rfl⟩ := bD_some eo
  clear eo; have eo := e9; clear e9
  unfold notInB inB at eo
  simp only [Option.bind_eq_some_iff, Option.map_eq_some_iff] at eo
  obtain ⟨b, ⟨ds, e1, e2⟩, rfl⟩ := eo
  split at e2
  · rename_i hs
    cases e2
    obtain ⟨s1, s2⟩ := (Bool.and_eq_true_iff.mp hs)
    obtain ⟨as, r1⟩ := L2.Dp.reads I d x v (dp_old (dx.dp sb)) rx
    obtain ⟨bs, r2⟩ := L2.Dp.reads I e y u (dp_old (dy.dp sb)) ry
    unfold itemsOf at e1
    split at e1
    · cases e1
      exact SeqAt.notIn_tuple_reads r2 r1 (SeqAt.canLay_of_shaped s2) (SeqAt.canLay_of_shaped s1) (room_in_shaped s1 hu) ⟨.bl _, H, I, rfl, k _ H F (.refl sb) (.bl _)⟩
    · cases e1
      exact SeqAt.notIn_list_reads r2 r1 (SeqAt.canLay_of_shaped s2) (SeqAt.canLay_of_shaped s1) (room_in_shaped s1 hu) ⟨.bl _, H, I, rfl, k _ H F (.refl sb) (.bl _)⟩
    · cases e1
  · cases e2
end
end DL
namespace DL
open PySem L2 PyProof.Rows PySem.Spec
section
variable {X : Cx} {a b c e : Expr} {es : List Expr} {f g h : EM} {pos : Pos}
theorem dv_not_non {K : PySem.W.Frag} {F H : Hp} {v : V} {d : D} (x : Dv K F H v d) (n : d ≠ .none) : v ≠ .non := by
  rcases x with x | ⟨a, vs, xs, rfl, _⟩
  · exact fun q => n (by subst q; cases d <;> first | rfl | exact absurd x.inv (by rintro ⟨_, _, q, _⟩; cases q) | cases x.inv)
  · intro q; cases q
def isB : D → D → Option Bool
  | .bool a, .bool b => some (decide (a = b))
  | .none, .none => some true
  | .bool _, .none => some false
  | .int _, .none => some false
  | .str _, .none => some false
  | .tuple _, .none => some false
  | .list _, .none => some false
  | _, _ => none
theorem or_isB : OpR X (compareOp .Is) (liftO X.K (bD isB)) := by
  intro pins s σ H x y v u Q I rx ry h
  obtain ⟨F, d, e, o, sb, dx, dy, eo, k⟩ := h
  obtain ⟨b, e1, rfl⟩ := bD_some eo
  have key : e = .none → b = decide (x = V.non) → wpAny (model X.prog X.w) X.A (compareOp .Is v u) (EP X pins σ Q) X.xe s := fun he hb => by
    subst he
    cases dv_non dy
    refine op_isN pins s σ H _ _ v u Q I rx ry ⟨rfl, ?_⟩
    rw [← hb]; exact k _ H F (.refl sb) (.bl _)
  unfold isB at e1
  split at e1
  · cases e1
    cases dv_bl dx; cases dv_bl dy
    exact op_is_bl pins s σ H _ _ v u Q I rx ry ⟨_, _, rfl, rfl, k _ H F (.refl sb) (.bl _)⟩
  · cases e1; cases dv_non dx; exact key rfl (by simp)
  all_goals first
    | (cases e1; done)
    | (cases e1; exact key rfl (by rw [decide_eq_false (dv_not_non dx (by intro q; cases q))]))
/-! ### truth -/
def truD : D → Option Bool
  | .none => some false
  | .bool b => some b
  | .int i => some (i != 0)
  | .str x => if szOk x.length then some ((x.length : Int) != 0) else none
  | .list xs => some (!xs.isEmpty)
  | .tuple xs => some (!xs.isEmpty)
  | .dict _ => none
theorem dpa_empty {K : PySem.W.Frag} {F : Hp} {vs : List V} {ds : List D} (h : DpAll K F vs ds) : vs.isEmpty = ds.isEmpty := by cases h <;> rfl
theorem tru_of {K : PySem.W.Frag} {F H : Hp} {v : V} {d : D} {b : Bool} (sb : SubH F H) (x : Dv K F H v d) (h : truD d = some b) : TruV K v H b := by
  unfold truD at h
  split at h
  · cases h; cases dv_non x; rfl
  · cases h; cases dv_bl x; rfl
  · cases h; cases dv_int x; rfl
  · split at h
    · rename_i hz; cases h; cases dv_str x; exact ⟨szOk_le hz, rfl⟩
    · cases h
  · cases h
    obtain ⟨a, vs, rfl, h1, h2⟩ := dv_lst sb x
    exact .inl ⟨vs, h1, by rw [dpa_empty h2]⟩
  · cases h
    obtain ⟨a, vs, rfl, h1, h2⟩ := dv_tup x
    exact .inr (.inl ⟨vs, sb.sqt (sqt_of h1), by rw [dpa_empty h2]⟩)
  · cases h
def truM (f : EM) : TM := fun r => (f r).bind fun p => (truD p.1).map fun b => (b, p.2)
theorem truM_some {f : EM} {r r' : Rho} {o : Bool} (q : truM f r = some (o, r')) : ∃ x, f r = some (x, r') ∧ truD x = some o := by
  unfold truM at q
  simp only [Option.bind_eq_some_iff, Option.map_eq_some_iff] at q
  obtain ⟨⟨x, r1⟩, e1, o', e2, e3⟩ := q
  cases e3; exact ⟨x, e1, e2⟩
/-- a value as a test -/
theorem st_val (ha : SW X a f) (he : ∀ whole, isTrue a X.env whole = (do let v ← whole; standAt a.pos; holding [v] (truthy v)) := by intro _; rfl) : ST X a (truM f) :=
  ⟨pt_imp (pt_truth ha.pe he) fun s H Q ⟨z, r, F, d, r', R, e, k⟩ => by
    obtain ⟨x, e1, e2⟩ := truM_some e
    exact ⟨z, r, F, x, r', R, e1, fun v H' F' R' sb dv => ⟨d, tru_of R'.fh dv e2, k H' F' R' sb⟩⟩⟩
def tstM (h : D → D → Option Bool) (f g : EM) : TM := fun r => (f r).bind fun p => (g p.2).bind fun q => (h p.1 q.1).map fun b => (b, q.2)
theorem tstM_op {h : D → D → Option Bool} {f g : EM} {r r' : Rho} {o : Bool} (q : tstM h f g r = some (o, r')) : opM (bD h) f g r = some (.bool o, r') := by
  unfold tstM at q
  unfold opM bD
  simp only [Option.bind_eq_some_iff, Option.map_eq_some_iff] at q ⊢
  obtain ⟨p, e1, p2, e2, b, e3, e4⟩ := q
  cases e4
  exact ⟨p, e1, p2, e2, _, ⟨_, e3, rfl⟩, rfl⟩
theorem st_cmp {op : CmpOp} {h : D → D → Option Bool} (ho : OpR X (compareOp op) (liftO X.K (bD h))) (ha : SE X a f) (hb : SW X b g) (hm : behindInMarks op b = false := by first | exact nobehind _ (by decide) (by decide) | rfl) : ST X (.Compare a [op] [b] pos) (tstM h f g) :=
  ⟨pt_imp (pt_cmpR ho ha.pe hb.pe hm) fun s H Q ⟨z, r, F, d, r', R, e, k⟩ => by
    refine top_op (r2 := liftO X.K (bD h)) hb ha ⟨z, r, F, _, r', R, tstM_op e, fun v H' F' R' sb dv => ⟨d, ?_, k H' F' R' sb⟩⟩
    cases dv.inv; rfl⟩
/-! ### not, and, or: tests -/
structure SWt (X : Cx) (e : Expr) (f : TM) : Prop where
  pw : PW X e (liftT X.K f)
def notM (f : TM) : TM := fun r => (f r).map fun p => (!p.1, p.2)
def andM (f g : TM) : TM := fun r => (f r).bind fun p => if p.1 = true then g p.2 else some (false, p.2)
def orM (f g : TM) : TM := fun r => (f r).bind fun p => if p.1 = true then some (true, p.2) else g p.2
variable {ft gt : TM} {rest : List Expr}
theorem st_not (ha : ST X a ft) : ST X (.UnaryOp .Not a pos) (notM ft) :=
  ⟨pt_imp (pt_not ha.pt) fun s H Q ⟨z, r, F, d, r', R, e, k⟩ => by
    unfold notM at e
    simp only [Option.map_eq_some_iff] at e
    obtain ⟨⟨b, r1⟩, e1, e2⟩ := e
    cases e2
    exact ⟨z, r, F, b, r1, R, e1, fun H' F' R' sb => k H' F' R' sb⟩⟩
theorem pw_imp {e : Expr} {t t' : TT} (h : PW X e t) (k : ∀ s H Q, t' s H Q → t s H Q) : PW X e t' := ⟨fun wh pins s σ H Q I hq => h.run wh pins s σ H Q I (k _ _ _ hq)⟩
theorem and_lift {s : L2.St} {H : Hp} {Q : Bool → Hp → Prop} (q : liftT X.K (andM ft gt) s H Q) : tAnd (liftT X.K ft) (liftT X.K gt) s H Q := by
  obtain ⟨z, r, F, d, r', R, e, k⟩ := q
  unfold andM at e
  simp only [Option.bind_eq_some_iff] at e
  obtain ⟨⟨b, r1⟩, e1, e2⟩ := e
  refine ⟨z, r, F, b, r1, R, e1, fun H1 F1 R1 sb => ?_⟩
  cases b with
  | true => exact ⟨z, r1, F1, d, r', R1, e2, fun H2 F2 R2 sb2 => k H2 F2 R2 (sb.trans sb2)⟩
  | false => cases e2; exact k H1 F1 R1 sb
theorem or_lift {s : L2.St} {H : Hp} {Q : Bool → Hp → Prop} (q : liftT X.K (orM ft gt) s H Q) : tOr (liftT X.K ft) (liftT X.K gt) s H Q := by
  obtain ⟨z, r, F, d, r', R, e, k⟩ := q
  unfold orM at e
  simp only [Option.bind_eq_some_iff] at e
  obtain ⟨⟨b, r1⟩, e1, e2⟩ := e
  refine ⟨z, r, F, b, r1, R, e1, fun H1 F1 R1 sb => ?_⟩
  cases b with
  | false => exact ⟨z, r1, F1, d, r', R1, e2, fun H2 F2 R2 sb2 => k H2 F2 R2 (sb.trans sb2)⟩
  | true => cases e2; exact k H1 F1 R1 sb
theorem sw_and1 (ha : ST X a ft) : SWt X (.BoolOp .And [a] pos) ft := ⟨pw_and1 ha.pt⟩
theorem sw_or1 (ha : ST X a ft) : SWt X (.BoolOp .Or [a] pos) ft := ⟨pw_or1 ha.pt⟩
theorem sw_and (ha : ST X a ft) (hb : SWt X (.BoolOp .And (b :: rest) pos) gt) : SWt X (.BoolOp .And (a :: b :: rest) pos) (andM ft gt) := ⟨pw_imp (pw_and ha.pt hb.pw) fun s H Q q => and_lift q⟩
theorem sw_or (ha : ST X a ft) (hb : SWt X (.BoolOp .Or (b :: rest) pos) gt) : SWt X (.BoolOp .Or (a :: b :: rest) pos) (orM ft gt) := ⟨pw_imp (pw_or ha.pt hb.pw) fun s H Q q => or_lift q⟩
theorem SWt.st (h : SWt X e ft) : ST X e ft := ⟨h.pw.pt⟩
/-! ### as values -/
def andVM (f g : EM) : EM := fun r => (f r).bind fun p => (truD p.1).bind fun b => if b = true then g p.2 else some (p.1, p.2)
def notVM (f : EM) : EM := fun r => (f r).bind fun p => (truD p.1).map fun b => (.bool (!b), p.2)
theorem se_one {op} (ha : SE X a f) : SE X (.BoolOp op [a] pos) f := ⟨pe_one ha.pe⟩
theorem se_and (ha : SE X a f) (hb : SE X (.BoolOp .And (b :: rest) pos) g) : SE X (.BoolOp .And (a :: b :: rest) pos) (andVM f g) :=
  ⟨pe_imp (pe_andT ha.pe hb.pe) fun s H Q ⟨z, r, F, d, r', R, e, k⟩ => by
    unfold andVM at e
    simp only [Option.bind_eq_some_iff] at e
    obtain ⟨⟨x, r1⟩, e1, b, e2, e3⟩ := e
    refine ⟨z, r, F, x, r1, R, e1, fun v H1 F1 R1 sb dv => ⟨b, tru_of R1.fh (.inl dv) e2, ?_⟩⟩
    cases b with
    | true => exact ⟨z, r1, F1, d, r', R1, e3, fun v2 H2 F2 R2 sb2 dd => k v2 H2 F2 R2 (sb.trans sb2) dd⟩
    | false => cases e3; exact k v H1 F1 R1 sb dv⟩
theorem se_not (ha : SW X a f) : SE X (.UnaryOp .Not a pos) (notVM f) :=
  ⟨pe_imp (pe_notT ha.pe) fun s H Q ⟨z, r, F, d, r', R, e, k⟩ => by
    unfold notVM at e
    simp only [Option.bind_eq_some_iff, Option.map_eq_some_iff] at e
    obtain ⟨⟨x, r1⟩, e1, b, e2, e3⟩ := e
    cases e3
    exact ⟨z, r, F, x, r1, R, e1, fun v H1 F1 R1 sb dv => ⟨b, tru_of R1.fh dv e2, k _ H1 F1 R1 sb (.bl _)⟩⟩⟩
/-- a if t else b -/
def iteM (t : TM) (f g : EM) : EM := fun r => (t r).bind fun p => if p.1 = true then f p.2 else g p.2
theorem se_ite (hc : ST X c ft) (ha : SE X a f) (hb : SE X b g) : SE X (.IfExp c a b pos) (iteM ft f g) :=
  ⟨pe_imp (pe_ifExp hc.pt ha.pe hb.pe) fun s H Q ⟨z, r, F, d, r', R, e, k⟩ => by
    unfold iteM at e
    simp only [Option.bind_eq_some_iff] at e
    obtain ⟨⟨b, r1⟩, e1, e2⟩ := e
    refine ⟨z, r, F, b, r1, R, e1, fun H1 F1 R1 sb => ?_⟩
    cases b with
    | true => exact ⟨z, r1, F1, d, r', R1, e2, fun v2 H2 F2 R2 sb2 dd => k v2 H2 F2 R2 (sb.trans sb2) dd⟩
    | false => exact ⟨z, r1, F1, d, r', R1, e2, fun v2 H2 F2 R2 sb2 dd => k v2 H2 F2 R2 (sb.trans sb2) dd⟩⟩
/-- -a -/
def negD : D → Option D
  | .int i => some (.int (-i))
  | _ => none
theorem se_neg (ha : SE X a f) : SE X (.UnaryOp .USub a pos) (unM negD f) :=
  ⟨pe_imp (pe_un un_neg ha.pe) fun s H Q ⟨z, r, F, d, r', R, e, k⟩ => by
    obtain ⟨x, e1, e2⟩ := unM_some e
    unfold negD at e2
    split at e2
    · cases e2
      exact ⟨z, r, F, _, r', R, e1, fun v H1 F1 R1 sb dv => by cases dv.inv; exact ⟨_, rfl, k _ H1 F1 R1 sb (.int _)⟩⟩
    · cases e2⟩
/-! ### rows of expressions, displays -/
def nilM : AM := fun r => some ([], r)
def consM (f : EM) (g : AM) : AM := fun r => (f r).bind fun p => (g p.2).map fun q => (p.1 :: q.1, q.2)
theorem sa_nil : SA X [] nilM := ⟨pa_imp pa_nil fun s H Q ⟨z, r, F, d, r', R, e, k⟩ => by cases e; exact k [] H F R (.refl _) .nil, fun r ds r' e => by cases e; rfl⟩
theorem consM_some {f : EM} {g : AM} {r r' : Rho} {o : List D} (q : consM f g r = some (o, r')) : ∃ x r1 xs, f r = some (x, r1) ∧ g r1 = some (xs, r') ∧ o = x :: xs := by
  unfold consM at q
  simp only [Option.bind_eq_some_iff, Option.map_eq_some_iff] at q
  obtain ⟨⟨x, r1⟩, e1, ⟨xs, r2⟩, e2, e3⟩ := q
  cases e3; exact ⟨x, r1, xs, e1, e2, rfl⟩
theorem sa_cons {g : AM} (ha : SE X e f) (hr : SA X es g) (hs : starEach (e :: es) X.env = (false, eval e X.env) :: starEach es X.env := by rfl) : SA X (e :: es) (consM f g) :=
  ⟨pa_imp (pa_cons ha.pe hr.pa hs) fun s H Q ⟨z, r, F, d, r', R, e, k⟩ => by
    obtain ⟨x, r1, xs, e1, e2, rfl⟩ := consM_some e
    exact ⟨z, r, F, x, r1, R, e1, fun v H1 F1 R1 sb1 dv => ⟨z, r1, F1, xs, r', R1, e2, fun vs H2 F2 R2 sb2 dvs => k _ H2 F2 R2 (sb1.trans sb2) (.cons (dp_mono sb2 dv) dvs)⟩⟩, fun r ds r' e => by
    obtain ⟨x, r1, xs, e1, e2, rfl⟩ := consM_some e
    rw [List.length_cons, hr.len _ _ _ e2]; rfl⟩
def tupM (f : AM) : EM := fun r => (f r).bind fun p => if szOk p.1.length then some (.tuple p.1, p.2) else none
def lstM (f : AM) : AM := fun r => (f r).bind fun p => if szOk p.1.length then some p else none
/-- a written tuple -/
def tTupN (t : TA) : TE := fun σ H Q => t σ H fun xs H1 => xs.length ≤ sizeLine ∧ Laid H1 xs Q
theorem pe_tupN {x1} {t : TA} (h : PA X es t) : PE X (.Tuple es x1 pos) (tTupN t) := by
  constructor
  intro pins s σ H Q I want
  apply PyProof.Rows.Tuple_
  refine thn (h.run pos pins s σ H _ I want) ?_
  rintro us s1 ⟨xs, H1, I1, vals, fits, q⟩
  exact wpAny_newTuple (laid_ep I1 vals fits q) (by rw [← vals.length]; exact fits)
theorem se_tup {x1} {f : AM} (h : SA X es f) : SE X (.Tuple es x1 pos) (tupM f) :=
  ⟨pe_imp (pe_tupN h.pa) fun s H Q ⟨z, r, F, d, r', R, e, k⟩ => by
    unfold tupM at e
    simp only [Option.bind_eq_some_iff] at e
    obtain ⟨⟨xs, r1⟩, e1, e2⟩ := e
    split at e2
    · rename_i hz
      cases e2
      refine ⟨z, r, F, xs, r1, R, e1, fun vs H1 F1 R1 sb dv => ⟨by rw [dpa_len dv]; exact szOk_le hz, fun p ob nd hp => ?_⟩⟩
      obtain ⟨G, q⟩ := new_tup nd R1.fh hp dv
      exact k _ _ _ (R1.grow G) (sb.trans G.ff) q
    · cases e2⟩
theorem Rep.loose {K : PySem.W.Frag} {z : Fx} {r : Rho} {s : L2.St} {H F : Hp} {p : Addr} {vs : List V} (R : Rep K z r s H F) (hp : H p = none) : Rep K z r s (upd H p (.lst vs)) F ∧ (upd H p (.lst vs)) p = some (.lst vs) ∧ F p = none ∧ z.H0 p = none ∧ ¬ OwnAt r s (upd H p (.lst vs)) p :=
  ⟨R.grow (.loose R.fh hp), upd_same, R.fh.none hp, R.old.none hp, fun q => R.free hp (R.ownAtH (SubH.new hp) q)⟩
theorem sl_lst {f : AM} (h : SA X es f) : SL X (.List es pos) (lstM f) :=
  ⟨pe_imp (pe_lst h.pa) fun s H Q ⟨z, r, F, d, r', R, e, k⟩ => by
    unfold lstM at e
    simp only [Option.bind_eq_some_iff] at e
    obtain ⟨⟨xs, r1⟩, e1, e2⟩ := e
    split at e2
    · rename_i hz
      cases e2
      refine ⟨z, r, F, _, _, R, e1, fun vs H1 F1 R1 sb dv => ⟨by rw [dpa_len dv]; exact szOk_le hz, fun p hp => ?_⟩⟩
      obtain ⟨R2, h1, h2, h3, h4⟩ := R1.loose (vs := vs) hp
      exact k p vs _ F1 R2 sb h1 h2 h3 h4 dv
    · cases e2⟩
end
end DL
namespace DL
open PySem L2 PyProof.Rows PySem.Spec
section
variable {X : Cx} {a b c e : Expr} {es : List Expr} {f g h : EM} {pos : Pos}
/-! ### subscripts -/
def ixD : D → D → Option D
  | .tuple ds, .int i => atI ds i
  | .list ds, .int i => atI ds i
  | .str x, .int i => if szOk x.length then (atI x.cps.toList i).map fun c => .str ⟨#[c]⟩ else none
  | _, _ => none
theorem atI_dpa {K : PySem.W.Frag} {F : Hp} {vs : List V} {ds : List D} {i : Int} {d : D} (h : DpAll K F vs ds) (q : atI ds i = some d) : ∃ v, atI vs i = some v ∧ Dp K F v d := by
  unfold atI at q ⊢
  rw [dpa_len h]
  cases e : ixN ds.length i with
  | none => rw [e] at q; cases q
  | some j => rw [e] at q; exact dpa_get (i := j) h q
theorem ix_any : IxR X (liftO X.K ixD) := by
  intro value slice pins s σ H x y v u Q I rx ry h hs
  obtain ⟨F, d, e, o, sb, dx, dy, eo, k⟩ := h
  unfold ixD at eo
  split at eo
  · obtain ⟨a, vs, rfl, h1, h2⟩ := dv_tup dx
    cases dv_int dy
    obtain ⟨w, e1, e2⟩ := atI_dpa h2 eo
    exact ix_tup value slice pins s σ H _ _ v u Q I rx ry ⟨a, vs, _, w, rfl, rfl, sb.sqt (sqt_of h1), e1, k _ H F (.refl sb) e2⟩ hs
  · obtain ⟨a, vs, rfl, h1, h2⟩ := dv_lst sb dx
    cases dv_int dy
    obtain ⟨w, e1, e2⟩ := atI_dpa h2 eo
    exact ix_list value slice pins s σ H _ _ v u Q I rx ry ⟨a, vs, _, w, rfl, rfl, h1, e1, k _ H F (.refl sb) e2⟩ hs
  · split at eo
    · rename_i hz
      simp only [Option.map_eq_some_iff] at eo
      obtain ⟨c, e1, rfl⟩ := eo
      cases dv_str dx
      cases dv_int dy
      exact ix_str value slice pins s σ H _ _ v u Q I rx ry ⟨_, _, c, rfl, rfl, szOk_le hz, e1, k _ H F (.refl sb) (.str _)⟩ hs
    · cases eo
  · cases eo
theorem se_ix (ha : SE X a f) (hb : SE X b g) (hp : PlainIx b := by exact fun _ _ => rfl) : SE X (.Subscript a b pos) (opM ixD f g) :=
  ⟨pe_imp (pe_ix ix_any ha.pe hb.sw.pe hp) fun s H Q q => top_op (r2 := liftO X.K ixD) hb.sw ha q⟩
/-! ### slices -/
abbrev OM := Rho → Option (Option Int × Rho)
def liftP (K : PySem.W.Frag) (f : OM) : TO := fun s H Q => ∃ z r F d r', Rep K z r s H F ∧ f r = some (d, r') ∧ ∀ H' F', Rep K z r' s H' F' → SubH F F' → Q d H'
structure SP' (X : Cx) (e : Option Expr) (f : OM) : Prop where
  po : PO X e (liftP X.K f)
def noM : OM := fun r => some (none, r)
def someM (f : EM) : OM := fun r => (f r).bind fun p => match p.1 with
  | .int i => some (some i, p.2)
  | _ => none
theorem po_imp {e : Option Expr} {t t' : TO} (h : PO X e t) (k : ∀ s H Q, t' s H Q → t s H Q) : PO X e t' := ⟨fun pins s σ H Q I hq => h.run pins s σ H Q I (k _ _ _ hq)⟩
theorem sp_none : SP' X none noM := ⟨po_imp po_none fun s H Q ⟨z, r, F, d, r', R, e, k⟩ => by cases e; exact k H F R (.refl _)⟩
theorem sp_some (ha : SE X e f) : SP' X (some e) (someM f) := ⟨po_imp (po_some ha.pe) fun s H Q ⟨z, r, F, d, r', R, e, k⟩ => by
  unfold someM at e
  simp only [Option.bind_eq_some_iff] at e
  obtain ⟨⟨x, r1⟩, e1, e2⟩ := e
  split at e2
  · rename_i i hx
    cases e2
    have hx : x = .int i := hx
    subst hx
    exact ⟨z, r, F, _, r1, R, e1, fun v H1 F1 R1 sb dv => by cases dv.inv; exact ⟨i, rfl, k H1 F1 R1 sb⟩⟩
  · cases e2⟩
def cutD {α : Type} (xs : List α) (lo hi : Option Int) : List α := (xs.drop (HT.sIx xs.length 0 lo)).take (HT.sIx xs.length xs.length hi - HT.sIx xs.length 0 lo)
def slD (x : D) (lo hi : Option Int) : Option D := match x with
  | .tuple ds => some (.tuple (cutD ds lo hi))
  | .list ds => some (.list (cutD ds lo hi))
  | .str z => if szOk z.length then some (.str (cutS z lo hi)) else none
  | _ => none
def liftSl (K : PySem.W.Frag) : V → Option Int → Option Int → Hp → VK → Prop := fun x lo hi H Q => ∃ F d o, SubH F H ∧ Dv K F H x d ∧ slD d lo hi = some o ∧ ∀ v H' F', Grow F H F' H' → Dp K F' v o → Q v H'
theorem cut_dpa {K : PySem.W.Frag} {F : Hp} {vs : List V} {ds : List D} {lo hi : Option Int} (h : DpAll K F vs ds) : DpAll K F (cutV vs lo hi) (cutD ds lo hi) := by
  unfold cutV cutD
  rw [dpa_len h]
  exact dpa_take _ (dpa_drop _ h)
theorem cut_all {α : Type} {xs : List α} {lo hi : Option Int} (h : HT.sIx xs.length 0 lo = 0 ∧ HT.sIx xs.length xs.length hi = xs.length) : cutD xs lo hi = xs := by
  unfold cutD
  rw [h.1, h.2]
  simp
/-- a part of a tuple: the tuple itself if it is all of it, else a new one -/
def rSlN (K : PySem.W.Frag) : V → Option Int → Option Int → Hp → VK → Prop := fun x lo hi H Q => ∃ a xs, x = .ref a ∧ SqT K H a xs ∧
  (HT.sIx xs.length 0 lo = 0 ∧ HT.sIx xs.length xs.length hi = xs.length → Q (.ref a) H) ∧ (¬ (HT.sIx xs.length 0 lo = 0 ∧ HT.sIx xs.length xs.length hi = xs.length) → Laid H (cutD xs lo hi) Q)
theorem sl_tupN : SlR X (rSlN X.K) := by
  rintro pins s σ H x v vl vu lo hi sl Q I rx isS pl pu ⟨a, xs, rfl, tup, whole, part⟩
  cases rx
  obtain ⟨its, vals, isT, fits⟩ := I.tuple tup
  refine ⟨"tuple", "tuple.__getitem__", PySem.F.slot_tuple_getitem.lookup, isT.typeIs, ?_⟩
  have len : its.toArray.size = xs.length := by simp [vals.length]
  by_cases all : HT.sIx xs.length 0 lo = 0 ∧ HT.sIx xs.length xs.length hi = xs.length
  · exact getItem_tuple_whole isT isS pl pu (by rwa [len]) ⟨.ref a, H, I, rfl, whole all⟩
  · have cut := (vals.drop (HT.sIx xs.length 0 lo)).take (HT.sIx xs.length xs.length hi - HT.sIx xs.length 0 lo)
    have short : (cutD xs lo hi).length ≤ sizeLine := by unfold cutD; simp only [List.length_take, List.length_drop]; omega
    have made := laid_ep I cut short (part all)
    refine HT.getItem_tuple_cut isT isS pl pu (by rwa [len]) ?_ (by rw [len]; exact fits)
    rw [len]
    exact made
theorem sl_any : SlR X (liftSl X.K) := by
  intro pins s σ H x v vl vu lo hi sl Q I rx hsl pl pu h
  obtain ⟨F, d, o, sb, dx, eo, k⟩ := h
  unfold slD at eo
  split at eo
  · cases eo
    obtain ⟨a, vs, rfl, h1, h2⟩ := dv_tup dx
    refine sl_tupN pins s σ H _ v vl vu lo hi sl Q I rx hsl pl pu ⟨a, vs, rfl, sb.sqt (sqt_of h1), fun e => ?_, fun e p ob nd hp => ?_⟩
    · rw [dpa_len h2] at e
      rw [cut_all e] at k
      exact k _ H F (.refl sb) (.tup h1 h2)
    · obtain ⟨G, q⟩ := new_tup nd sb hp (cut_dpa (lo := lo) (hi := hi) h2)
      exact k _ _ _ G q
  · cases eo
    obtain ⟨a, vs, rfl, h1, h2⟩ := dv_lst sb dx
    refine sl_list pins s σ H _ v vl vu lo hi sl Q I rx hsl pl pu ⟨a, vs, rfl, h1, fun p hp => ?_⟩
    obtain ⟨G, q⟩ := new_lst sb hp (cut_dpa (lo := lo) (hi := hi) h2)
    exact k _ _ _ G q
  · split at eo
    · rename_i hz
      cases eo
      cases dv_str dx
      exact sl_str pins s σ H _ v vl vu lo hi sl Q I rx hsl pl pu ⟨_, rfl, szOk_le hz, k _ H F (.refl sb) (.str _)⟩
    · cases eo
  · cases eo
def slM (f : EM) (l u : OM) : EM := fun r => (f r).bind fun p => (l p.2).bind fun q => (u q.2).bind fun w => (slD p.1 q.1 w.1).map fun d => (d, w.2)
theorem se_sl {lo hi : Option Expr} {l u : OM} {p2 : Pos} (ha : SE X e f) (hl : SP' X lo l) (hh : SP' X hi u) : SE X (.Subscript e (.Slice lo hi none p2) pos) (slM f l u) :=
  ⟨pe_imp (pe_slice sl_any ha.pe hl.po hh.po) fun s H Q ⟨z, r, F, d, r', R, e, k⟩ => by
    unfold slM at e
    simp only [Option.bind_eq_some_iff, Option.map_eq_some_iff] at e
    obtain ⟨⟨x, r1⟩, e1, ⟨q, r2⟩, e2, ⟨w, r3⟩, e3, o, e4, e5⟩ := e
    cases e5
    exact ⟨z, r, F, x, r1, R, e1, fun v H1 F1 R1 sb1 dv => ⟨z, r1, F1, q, r2, R1, e2, fun H2 F2 R2 sb2 => ⟨z, r2, F2, w, _, R2, e3, fun H3 F3 R3 sb3 =>
      ⟨F3, x, d, R3.fh, .inl (dp_mono (sb2.trans sb3) dv), e4, fun v2 H4 F4 G dd => k v2 H4 F4 (R3.grow G) (((sb1.trans sb2).trans sb3).trans G.ff) dd⟩⟩⟩⟩⟩
/-! ### built-ins -/
def lenD : D → Option D
  | .tuple ds => some (.int ds.length)
  | .list ds => some (.int ds.length)
  | .str x => if szOk x.length then some (.int x.length) else none
  | _ => none
theorem cr_len : CallR X (.builtin "len") (liftC1 X.K lenD) := by
  intro pins s σ H vs us Q I r h
  obtain ⟨F, x, d, o, rfl, sb, dx, eo, k⟩ := h
  unfold lenD at eo
  split at eo
  · cases eo
    obtain ⟨a, vs, rfl, h1, h2⟩ := dv_tup dx
    refine call_len_seq pins s σ H _ us Q I r ⟨a, vs, rfl, .inr (sb.sqt (sqt_of h1)), ?_⟩
    rw [dpa_len h2]; exact k _ H F (.refl sb) (.int _)
  · cases eo
    obtain ⟨a, vs, rfl, h1, h2⟩ := dv_lst sb dx
    refine call_len_seq pins s σ H _ us Q I r ⟨a, vs, rfl, .inl h1, ?_⟩
    rw [dpa_len h2]; exact k _ H F (.refl sb) (.int _)
  · split at eo
    · rename_i hz
      cases eo
      cases dv_str dx
      exact call_len_str pins s σ H _ us Q I r ⟨_, rfl, szOk_le hz, k _ H F (.refl sb) (.int _)⟩
    · cases eo
  · cases eo
def tupleD : D → Option D
  | .tuple ds => some (.tuple ds)
  | .list ds => some (.tuple ds)
  | _ => none
theorem cr_tuple : CallR X (.type "tuple") (liftC1 X.K tupleD) := by
  rintro pins s σ H vs us Q I rel ⟨F, x, d, o, rfl, sb, dx, eo, k⟩
  obtain ⟨u, rfl, ru⟩ := vals1 rel
  cases d with
  | tuple row =>
    cases eo
    obtain ⟨a, xs, rfl, tup, each⟩ := dv_tup dx
    cases ru
    obtain ⟨its, _, isT, _⟩ := I.tuple (sb.sqt (sqt_of tup))
    exact call_tuple_tup isT ⟨.ref a, H, I, rfl, k _ H F (.refl sb) (.tup tup each)⟩
  | list row =>
    cases eo
    obtain ⟨a, xs, rfl, lst, each⟩ := dv_lst sb dx
    cases ru
    obtain ⟨its, vals, isL, fits⟩ := I.list lst
    refine call_tuple_list isL.isList (fun h1 keeps => ?_) (by rw [List.size_toArray, ← vals.length]; exact fits)
    have I1 : L2.Inv X pins σ H { s with heap := h1 } := I.kept (t' := s.toks) keeps
    exact laid_ep I1 vals fits fun p ob nd hp => let ⟨G, q⟩ := new_tup nd sb hp each; k _ _ _ G q
  | _ => cases eo
def listD : D → Option D
  | .tuple ds => some (.list ds)
  | .list ds => some (.list ds)
  | _ => none
theorem cr_list : CallR X (.type "list") (liftC1 X.K listD) := by
  intro pins s σ H vs us Q I r h
  obtain ⟨F, x, d, o, rfl, sb, dx, eo, k⟩ := h
  unfold listD at eo
  split at eo
  · cases eo
    obtain ⟨a, vs, rfl, h1, h2⟩ := dv_tup dx
    refine call_list_of pins s σ H _ us Q I r ⟨a, vs, rfl, .inr (sb.sqt (sqt_of h1)), fun p hp => ?_⟩
    obtain ⟨G, q⟩ := new_lst sb hp h2
    exact k _ _ _ G q
  · cases eo
    obtain ⟨a, vs, rfl, h1, h2⟩ := dv_lst sb dx
    refine call_list_of pins s σ H _ us Q I r ⟨a, vs, rfl, .inl h1, fun p hp => ?_⟩
    obtain ⟨G, q⟩ := new_lst sb hp h2
    exact k _ _ _ G q
  · cases eo
/-- the truths of a row -/
def blsOf : List D → Option (List Bool)
  | [] => some []
  | .bool i :: r => (blsOf r).map (i :: ·)
  | _ :: _ => none
theorem blsOf_some : ∀ {ds : List D} {ns : List Bool}, blsOf ds = some ns → ds = ns.map PyData.bool
  | [], ns, h => by cases h; rfl
  | .bool i :: r, ns, h => by
    simp only [blsOf, Option.map_eq_some_iff] at h
    obtain ⟨ms, h1, rfl⟩ := h
    rw [blsOf_some h1]; rfl
  | .none :: _, _, h => nomatch h
  | .int _ :: _, _, h => nomatch h
  | .str _ :: _, _, h => nomatch h
  | .list _ :: _, _, h => nomatch h
  | .tuple _ :: _, _, h => nomatch h
  | .dict _ :: _, _, h => nomatch h
theorem dpa_bls {K : PySem.W.Frag} {F : Hp} : ∀ {ns : List Bool} {vs : List V}, DpAll K F vs (ns.map PyData.bool) → vs = ns.map V.bl
  | [], [], _ => rfl
  | n :: ns, v :: vs, h => by
    cases h with
    | cons x t => cases x.inv; rw [dpa_bls t]; rfl
  | [], _ :: _, h => nomatch h
  | _ :: _, [], h => nomatch h
def allD : D → Option D
  | .list ds => (blsOf ds).map fun bs => .bool (bs.all id)
  | _ => none
theorem cr_allD (hc : X.calm = true) : CallR X (.builtin "all") (liftC1 X.K allD) := by
  intro pins s σ H vs us Q I r h
  obtain ⟨F, x, d, o, rfl, sb, dx, eo, k⟩ := h
  unfold allD at eo
  split at eo
  · simp only [Option.map_eq_some_iff] at eo
    obtain ⟨bs, e1, rfl⟩ := eo
    cases blsOf_some e1
    obtain ⟨a, vs, rfl, h1, h2⟩ := dv_lst sb dx
    cases dpa_bls h2
    exact cr_all hc pins s σ H _ us Q I r ⟨a, bs, rfl, h1, k _ H F (.refl sb) (.bl _)⟩
  · cases eo
def min2D : D → D → Option D
  | .int i, .int j => some (.int (if j < i then j else i))
  | _, _ => none
def max2D : D → D → Option D
  | .int i, .int j => some (.int (if j > i then j else i))
  | _, _ => none
theorem cr_min2 (hc : X.calm = true) : CallR X (.builtin "min") (liftC2 X.K min2D) := by
  intro pins s σ H vs us Q I r h
  obtain ⟨x, y, rfl, F, d, e, o, sb, dx, dy, eo, k⟩ := h
  unfold min2D at eo
  split at eo
  · cases eo
    cases dv_int dx; cases dv_int dy
    exact call_min2 hc pins s σ H _ us Q I r ⟨_, _, rfl, k _ H F (.refl sb) (.int _)⟩
  · cases eo
theorem cr_max2 (hc : X.calm = true) : CallR X (.builtin "max") (liftC2 X.K max2D) := by
  intro pins s σ H vs us Q I r h
  obtain ⟨x, y, rfl, F, d, e, o, sb, dx, dy, eo, k⟩ := h
  unfold max2D at eo
  split at eo
  · cases eo
    cases dv_int dx; cases dv_int dy
    exact call_max2 hc pins s σ H _ us Q I r ⟨_, _, rfl, k _ H F (.refl sb) (.int _)⟩
  · cases eo
def intD : D → Option D
  | .int i => some (.int i)
  | .bool b => some (.int (if b = true then 1 else 0))
  | _ => none
theorem cr_int : CallR X (.type "int") (liftC1 X.K intD) := by
  intro pins s σ H vs us Q I r h
  obtain ⟨F, x, d, o, rfl, sb, dx, eo, k⟩ := h
  unfold intD at eo
  split at eo
  · cases eo
    cases dv_int dx
    exact call_int1 pins s σ H _ us Q I r (.inl ⟨_, rfl, k _ H F (.refl sb) (.int _)⟩)
  · cases eo
    cases dv_bl dx
    exact call_int1 pins s σ H _ us Q I r (.inr ⟨_, rfl, k _ H F (.refl sb) (.int _)⟩)
  · cases eo
/-! ### isinstance(x, T), T one of int, bool, str, tuple, list -/
inductive Ty where
  | int | bool | str | tuple | list
def Ty.nm : Ty → String
  | .int => "int" | .bool => "bool" | .str => "str" | .tuple => "tuple" | .list => "list"
def isiD (t : Ty) (d : D) : Option D := some (.bool (match t, d with
  | .int, .int _ => true
  | .int, .bool _ => true
  | .bool, .bool _ => true
  | .str, .str _ => true
  | .tuple, .tuple _ => true
  | .list, .list _ => true
  | _, _ => false))
theorem ty_of {K : PySem.W.Frag} {H : Hp} {v : V} {d : D} (x : L2.Dp K H v d) : ∃ n, TyX K H v (.type n) ∧ n = (match d with | .none => "NoneType" | .bool _ => "bool" | .int _ => "int" | .str _ => "str" | .list _ => "list" | .tuple _ => "tuple" | .dict _ => "dict") := by
  cases x with
  | non => exact ⟨_, .base .non, rfl⟩
  | bl b => exact ⟨_, .base (.bl b), rfl⟩
  | int b => exact ⟨_, .base (.int b), rfl⟩
  | str b => exact ⟨_, .base (.str b), rfl⟩
  | lst h _ =>
    rcases h with (h | ⟨o, h⟩) | ⟨o, its, n, hk, hc, _⟩
    · exact ⟨_, .base (.lst h), rfl⟩
    · exact ⟨_, .base (.frz h), rfl⟩
    · exact ⟨_, .kList hk hc, rfl⟩
  | tup h _ =>
    rcases h with (h | ⟨o, h⟩) | ⟨o, its, n, hk, hc, _⟩
    · exact ⟨_, .base (.tup h), rfl⟩
    · exact ⟨_, .fTuple h, rfl⟩
    · exact ⟨_, .kTuple hk hc, rfl⟩
/-- the name of a datum's type -/
def tyN (d : D) : String := match d with
  | .int _ => Ty.nm .int
  | .bool _ => Ty.nm .bool
  | .tuple _ => Ty.nm .tuple
  | .str _ => Ty.nm .str
  | .none => "NoneType"
  | .list _ => "list"
  | .dict _ => "dict"
theorem kit_any {K : PySem.W.Frag} (t : Ty) (d : D) (hd : ∀ kvs, d ≠ .dict kvs) : ∃ b, isiD t d = some (.bool b) ∧ PySem.W.kitOne K (.type (tyN d)) (.type t.nm) = some b := by
  cases t <;> cases d <;> first
    | exact absurd rfl (hd _)
    | exact ⟨true, rfl, kit_ty (by simp only [tyN, Ty.nm]; decide +kernel)⟩
    | exact ⟨false, rfl, kit_ty (by simp only [tyN, Ty.nm]; decide +kernel)⟩
theorem cr_isi (t : Ty) : CallR X (.builtin "isinstance") (fun vs H Q => ∃ F x d o, vs = [x, .ty t.nm] ∧ SubH F H ∧ Dv X.K F H x d ∧ isiD t d = some o ∧ ∀ v H' F', Grow F H F' H' → Dp X.K F' v o → Q v H') := by
  intro pins s σ H vs us Q I r h
  obtain ⟨F, x, d, o, rfl, sb, dx, eo, k⟩ := h
  have dx' := dp_old (dx.dp sb)
  obtain ⟨n, hn, en⟩ := ty_of dx'
  obtain ⟨b, e1, e2⟩ := kit_any (K := X.K) t d (by intro kvs q; subst q; cases dx')
  rw [e1] at eo
  cases eo
  have : n = tyN d := by rw [en]; cases d <;> rfl
  subst this
  exact call_isi pins s σ H _ us Q I r ⟨x, _, _, _, b, rfl, .ty _, hn, e2, k _ H F (.refl sb) (.bl _)⟩
theorem se_isi (t : Ty) {x : Str} {p1 p2 : Pos} (hg : Gl X "isinstance") (hm : X.mg "isinstance" = none) (hg2 : Gl X x) (hm2 : X.mg x = none) (hv2 : bootBuiltins x = some (.type t.nm)) (ha : SW X a f)
    (he : starEach [a, .Name x p2] X.env = [(false, eval a X.env), (false, eval (.Name x p2) X.env)] := by rfl) (he2 : starEach [.Name x p2] X.env = [(false, eval (.Name x p2) X.env)] := by rfl) (hv : bootBuiltins "isinstance" = some (.builtin "isinstance") := by decide +kernel) (hn : x ≠ "__name__" := by decide) (hdb : (x == ("__debug__" : Str)) = false := by decide) :
    SE X (.Call (.Name "isinstance" p1) [a, .Name x p2] [] pos) (unM (isiD t) f) :=
  ⟨pe_imp (pe_callB (cr_isi t) hg hm hv (pa_cons ha.pe (pa_cons (pe_bltn (v := .ty t.nm) hg2 hm2 hv2 rfl hn hdb) pa_nil he2) (by rw [he, he2])) (by decide) (by decide) (by rw [he, he2]) (by rw [he2]; rfl)) fun s H Q ⟨z, r, F, d, r', R, e, k⟩ => by
    obtain ⟨x, e1, e2⟩ := unM_some e
    exact ⟨z, r, F, x, r', R, e1, fun v H' F' R' sb dv => ⟨F', v, x, d, rfl, R'.fh, dv, e2, fun v2 H2 F2 G dd => k v2 H2 F2 (R'.grow G) (sb.trans G.ff) dd⟩⟩⟩
/-! ### a < b < c -/
def chM (h1 h2 : D → D → Option Bool) (f g k : EM) : EM := fun r => (f r).bind fun p => (g p.2).bind fun q => (h1 p.1 q.1).bind fun b => if b = true then (k q.2).bind fun w => (h2 q.1 w.1).map fun c => (.bool c, w.2) else some (.bool false, q.2)
theorem ch_lift {h1 h2 : D → D → Option Bool} {k : EM} {s : L2.St} {H : Hp} {Q : VK} (q : liftE X.K (chM h1 h2 f g k) s H Q) : tChain (liftO X.K (bD h1)) (liftO X.K (bD h2)) (liftE X.K f) (liftE X.K g) (liftW X.K k) s H Q := by
  obtain ⟨z, r, F, d, r', R, e, kk⟩ := q
  unfold chM at e
  simp only [Option.bind_eq_some_iff] at e
  obtain ⟨⟨x, r1⟩, e1, ⟨y, r2⟩, e2, b, e3, e4⟩ := e
  refine ⟨z, r, F, x, r1, R, e1, fun v H1 F1 R1 sb1 dx => ⟨z, r1, F1, y, r2, R1, e2, fun w H2 F2 R2 sb2 dy => ⟨F2, x, y, .bool b, R2.fh, .inl (dp_mono sb2 dx), .inl dy, ?_, fun v' H3 F3 G dd => ⟨b, ?_, ?_⟩⟩⟩⟩
  · unfold bD; rw [e3]; rfl
  · cases dd.inv; rfl
  · have R3 := R2.grow G
    cases b with
    | false => cases e4; exact kk _ H3 F3 R3 ((sb1.trans sb2).trans G.ff) (.bl _)
    | true =>
      simp only [if_true, Option.bind_eq_some_iff, Option.map_eq_some_iff] at e4
      obtain ⟨⟨w, r3⟩, e5, c, e6, e7⟩ := e4
      cases e7
      exact ⟨z, r2, F3, w, _, R3, e5, fun v4 H4 F4 R4 sb4 dw => ⟨F4, y, w, .bool c, R4.fh, .inl (dp_mono (G.ff.trans sb4) dy), dw, by unfold bD; rw [e6]; rfl, fun v5 H5 F5 G5 d5 => kk v5 H5 F5 (R4.grow G5) ((((sb1.trans sb2).trans G.ff).trans sb4).trans G5.ff) d5⟩⟩
theorem se_chain {op op' : CmpOp} {h1 h2 : D → D → Option Bool} {k : EM} (ho : OpR X (compareOp op) (liftO X.K (bD h1))) (ho' : OpR X (compareOp op') (liftO X.K (bD h2))) (ha : SE X a f) (hb : SE X b g) (hc : SW X c k)
    (hl : lastMarks [op, op'] [b, c] = false := by rfl) : SE X (.Compare a [op, op'] [b, c] pos) (chM h1 h2 f g k) := ⟨pe_imp (pe_chain ho ho' ha.pe hb.pe hc.pe hl) fun s H Q q => ch_lift q⟩
theorem st_chain {op op' : CmpOp} {h1 h2 : D → D → Option Bool} {k : EM} (ho : OpR X (compareOp op) (liftO X.K (bD h1))) (ho' : OpR X (compareOp op') (liftO X.K (bD h2))) (ha : SE X a f) (hb : SE X b g) (hc : SW X c k)
    (hl : lastMarks [op, op'] [b, c] = false := by rfl) : ST X (.Compare a [op, op'] [b, c] pos) (truM (chM h1 h2 f g k)) := ⟨pt_imp (pt_chain ho ho' ha.pe hb.pe hc.pe hl) fun s H Q ⟨z, r, F, d, r', R, e, kk⟩ => by
  obtain ⟨x, e1, e2⟩ := truM_some e
  have hx : ∃ b, x = .bool b := by
    unfold chM at e1
    simp only [Option.bind_eq_some_iff] at e1
    obtain ⟨_, _, _, _, b, _, e4⟩ := e1
    split at e4
    · simp only [Option.bind_eq_some_iff, Option.map_eq_some_iff] at e4
      obtain ⟨_, _, c, _, e7⟩ := e4
      cases e7; exact ⟨_, rfl⟩
    · cases e4; exact ⟨_, rfl⟩
  obtain ⟨b, rfl⟩ := hx
  cases e2
  exact ch_lift ⟨z, r, F, _, r', R, e1, fun v H' F' R' sb dv => ⟨d, by cases dv.inv; rfl, kk H' F' R' sb⟩⟩⟩
end
end DL
namespace DL
open PySem L2 PyProof.Rows PySem.Spec
/-! ### what is walked: data (q false), or data and new pairs, which only a tuple target takes (q true) -/
def Dz (K : PySem.W.Frag) (q : Bool) (F : Hp) (v : V) (d : D) : Prop := Dp K F v d ∨ (q = true ∧ ∃ a vs ds, v = .ref a ∧ d = .tuple ds ∧ F a = some (.tup vs) ∧ DpAll K F vs ds)
structure WalkD (K : PySem.W.Frag) (q : Bool) (F0 : Hp) (J : It) (ds : List D) : Prop where
  w : ∃ Y, Walk J ds.length (fun H => SubH F0 H) Y ∧ ∀ i H x H', Y i H x H' → ∀ F, SubH F0 F → SubH F H → ∃ F' d, ds[i]? = some d ∧ Grow F H F' H' ∧ Dz K q F' x d
def liftI (K : PySem.W.Frag) (q : Bool) (f : AM) : TI := fun s H R => ∃ z r F ds r', Rep K z r s H F ∧ f r = some (ds, r') ∧ ∀ J H' F', Rep K z r' s H' F' → SubH F F' → WalkD K q F' J ds → R J H'
structure SI (X : Cx) (q : Bool) (tg iter : Expr) (f : AM) : Prop where
  pi : PI X tg iter (liftI X.K q f)
section
variable {X : Cx} {a b c e tg : Expr} {es : List Expr} {f g h : EM} {pos : Pos}
/-- the items of a list or a tuple -/
def seqM (f : EM) : AM := fun r => (f r).bind fun p => (itemsOf p.1).map fun ds => (ds, p.2)
theorem seqM_some {r r' : Rho} {ds : List D} (q : seqM f r = some (ds, r')) : ∃ x, f r = some (x, r') ∧ itemsOf x = some ds := by
  unfold seqM at q
  simp only [Option.bind_eq_some_iff, Option.map_eq_some_iff] at q
  obtain ⟨⟨x, r1⟩, e1, o', e2, e3⟩ := q
  cases e3; exact ⟨x, e1, e2⟩
theorem walkD_list {K : PySem.W.Frag} {F : Hp} {a : Addr} {vs : List V} {ds : List D} (h1 : SqL K F a vs) (h2 : DpAll K F vs ds) : WalkD K false F (Itl K a) ds := by
  refine ⟨⟨YAt vs, ?_, ?_⟩⟩
  · rw [← dpa_len h2]
    exact walk_list.mono (fun H hs => hs.sql h1) fun _ _ _ _ _ _ y => y
  · rintro i H x H' ⟨rfl, hx⟩ F' sb sh
    obtain ⟨d, e1, e2⟩ := dpa_at h2 hx
    exact ⟨F', d, e1, .refl sh, .inl (dp_mono sb e2)⟩
theorem walkD_tup {K : PySem.W.Frag} {F : Hp} {a : Addr} {vs : List V} {ds : List D} (h1 : TupAt F a vs) (h2 : DpAll K F vs ds) : WalkD K false F (Itt K a) ds := by
  refine ⟨⟨YAt vs, ?_, ?_⟩⟩
  · rw [← dpa_len h2]
    exact walk_tup.mono (fun H hs => hs.sqt (sqt_of h1)) fun _ _ _ _ _ _ y => y
  · rintro i H x H' ⟨rfl, hx⟩ F' sb sh
    obtain ⟨d, e1, e2⟩ := dpa_at h2 hx
    exact ⟨F', d, e1, .refl sh, .inl (dp_mono sb e2)⟩
theorem si_seq (ha : SE X e f) : SI X false tg e (seqM f) := ⟨⟨fun pins s σ H R I h => by
  obtain ⟨z, r, F, ds, r', Rr, e, k⟩ := h
  obtain ⟨x, e1, e2⟩ := seqM_some e
  unfold itemsOf at e2
  split at e2
  · cases e2
    refine (pi_tup ha.pe).run pins s σ H R I ⟨z, r, F, _, r', Rr, e1, fun v H' F' R' sb dv => ?_⟩
    obtain ⟨_, _, rfl, h1, h2⟩ := dv.inv; exact ⟨_, rfl, ⟨_, R'.fh.sqt (sqt_of h1)⟩, k _ H' F' R' sb (walkD_tup h1 h2)⟩
  · cases e2
    refine (pi_list ha.pe).run pins s σ H R I ⟨z, r, F, _, r', Rr, e1, fun v H' F' R' sb dv => ?_⟩
    obtain ⟨_, _, rfl, h1, h2⟩ := dv.inv; exact ⟨_, rfl, ⟨_, R'.fh.sql h1⟩, k _ H' F' R' sb (walkD_list h1 h2)⟩
  · cases e2⟩⟩
/-- range -/
def rngL (lo hi : Int) : List D := (List.range (hi - lo).toNat).map fun i => .int (lo + (i : Nat))
def rngOk (i : Int) : Bool := decide (-1000000 ≤ i) && decide (i ≤ 1000000)
theorem rngOk_le {i : Int} (h : rngOk i = true) : -(2 ^ 62) ≤ i ∧ i < 2 ^ 62 := by
  obtain ⟨h1, h2⟩ := Bool.and_eq_true_iff.mp h
  have h1 := of_decide_eq_true h1
  have h2 := of_decide_eq_true h2
  omega
def rng1M (f : EM) : AM := fun r => (f r).bind fun p => match p.1 with
  | .int j => if rngOk j then some (rngL 0 j, p.2) else none
  | _ => none
def rng2M (f g : EM) : AM := fun r => (f r).bind fun p => (g p.2).bind fun q => match p.1, q.1 with
  | .int i, .int j => if rngOk i && rngOk j then some (rngL i j, q.2) else none
  | _, _ => none
theorem walkD_range {K : PySem.W.Frag} {F : Hp} {lo hi : Int} : WalkD K false F (Itr lo (hi - lo).toNat) (rngL lo hi) := by
  have hl : (rngL lo hi).length = (hi - lo).toNat := by unfold rngL; simp
  refine ⟨⟨fun i H x H' => i < (hi - lo).toNat ∧ YFn (fun i => V.int (lo + (i : Nat))) i H x H', ?_, ?_⟩⟩
  · rw [hl]
    exact walk_range.mono (fun H hs => trivial) fun _ _ _ _ hi _ y => ⟨hi, y⟩
  · rintro i H x H' ⟨hlt, rfl, hx⟩ F' sb sh
    subst hx
    exact ⟨F', .int (lo + (i : Nat)), by unfold rngL; simp [hlt], .refl sh, .inl (.int _)⟩
theorem si_range1 {p : Pos} (hg : Gl X "range") (hm : X.mg "range" = none) (ha : SE X a f) (hs : starEach [a] X.env = [(false, eval a X.env)] := by rfl) : SI X false tg (.Call (.Name "range" p) [a] [] pos) (rng1M f) := ⟨⟨fun pins s σ H R I h => by
  obtain ⟨z, r, F, ds, r', Rr, e, k⟩ := h
  unfold rng1M at e
  simp only [Option.bind_eq_some_iff] at e
  obtain ⟨⟨x, r1⟩, e1, e2⟩ := e
  split at e2
  · rename_i j hx
    have hx : x = .int j := hx
    subst hx
    split at e2
    · rename_i ok
      cases e2
      have := rngOk_le ok
      refine (pi_range1 hg hm (pa_cons ha.pe pa_nil hs) hs).run pins s σ H R I ⟨z, r, F, _, r1, Rr, e1, fun v H' F' R' sb dv => ?_⟩
      cases dv.inv
      refine ⟨j, rfl, this.1, this.2, k _ H' F' R' sb ?_⟩
      have w := walkD_range (K := X.K) (F := F') (lo := 0) (hi := j)
      rw [Int.sub_zero] at w
      exact w
    · cases e2
  · cases e2⟩⟩
theorem si_range2 {p : Pos} (hg : Gl X "range") (hm : X.mg "range" = none) (ha : SE X a f) (hb : SE X b g) (hs : starEach [a, b] X.env = [(false, eval a X.env), (false, eval b X.env)] := by rfl) (hs2 : starEach [b] X.env = [(false, eval b X.env)] := by rfl) : SI X false tg (.Call (.Name "range" p) [a, b] [] pos) (rng2M f g) := ⟨⟨fun pins s σ H R I h => by
  obtain ⟨z, r, F, ds, r', Rr, e, k⟩ := h
  unfold rng2M at e
  simp only [Option.bind_eq_some_iff] at e
  obtain ⟨⟨x, r1⟩, e1, ⟨y, r2⟩, e2, e3⟩ := e
  split at e3
  · rename_i i j hx hy
    have hx : x = .int i := hx
    have hy : y = .int j := hy
    subst hx hy
    split at e3
    · rename_i ok
      cases e3
      obtain ⟨o1, o2⟩ := Bool.and_eq_true_iff.mp ok
      have q1 := rngOk_le o1
      have q2 := rngOk_le o2
      refine (pi_range2 hg hm (pa_cons ha.pe (pa_cons hb.pe pa_nil hs2) (by rw [hs, hs2])) hs hs2).run pins s σ H R I ⟨z, r, F, _, r1, Rr, e1, fun v H' F' R' sb dv => ⟨z, r1, F', _, r2, R', e2, fun v2 H2 F2 R2 sb2 dv2 => ?_⟩⟩
      cases dv.inv; cases dv2.inv
      exact ⟨i, j, rfl, ⟨q1.1, q1.2, q2.1, q2.2⟩, k _ H2 F2 R2 (sb.trans sb2) walkD_range⟩
    · cases e3
  · cases e3⟩⟩
/-- pairs -/
def pairD (x y : D) : D := .tuple [x, y]
def zipL (xs ys : List D) : List D := List.zipWith pairD xs ys
theorem pair_step {K : PySem.W.Frag} {F H : Hp} {T : Addr} {x y : V} {dx dy : D} (sb : SubH F H) (hT : H T = none) (h1 : Dp K F x dx) (h2 : Dp K F y dy) : ∃ F', Grow F H F' (upd H T (.tup [x, y])) ∧ Dz K true F' (.ref T) (pairD dx dy) :=
  have G := Grow.new (o := HO.tup [x, y]) sb hT
  ⟨_, G, .inr ⟨rfl, T, _, _, rfl, rfl, upd_same, .cons (dp_mono G.ff h1) (.cons (dp_mono G.ff h2) .nil)⟩⟩
theorem zipL_get {xs ys : List D} {i : Nat} {x y : D} (h1 : xs[i]? = some x) (h2 : ys[i]? = some y) : (zipL xs ys)[i]? = some (pairD x y) := by
  unfold zipL
  rw [List.getElem?_zipWith, h1, h2]
theorem walk_zipT {K : PySem.W.Frag} {a b : Addr} {xs ys : List V} {n : Nat} (hn : n = min xs.length ys.length) : Walk (RZ.ItzT K a b) n (fun H => SqT K H a xs ∧ SqT K H b ys) (YPair (fun i => xs[i]?) (fun i => ys[i]?)) where
  goes := by
    rintro m H lt ⟨sa, sb⟩
    have lx : m < xs.length := Nat.lt_of_lt_of_le (hn ▸ lt) (Nat.min_le_left ..)
    have ly : m < ys.length := Nat.lt_of_lt_of_le (hn ▸ lt) (Nat.min_le_right ..)
    exact ⟨xs, ys, _, _, sa, sb, List.getElem?_eq_getElem lx, List.getElem?_eq_getElem ly⟩
  stops := by
    rintro H ⟨sa, sb⟩
    exact ⟨xs, ys, sa, sb, by rcases Nat.le_total xs.length ys.length with l | l <;> simp [hn, l]⟩
  yields := by
    rintro m H v H' - ⟨sa, sb⟩ ⟨T, p, q, ev, eT, eH, fx, fy⟩
    exact ⟨T, p, q, ev, eT, eH, fx _ sa, fy _ sb⟩
theorem walkD_pair {K : PySem.W.Frag} {F : Hp} {J : It} {vs ws : List V} {ds es : List D} {n : Nat} (h1 : DpAll K F vs ds) (h2 : DpAll K F ws es) (hn : n = min vs.length ws.length) (w : Walk J n (fun H => SubH F H) (YPair (fun i => vs[i]?) (fun i => ws[i]?))) : WalkD K true F J (zipL ds es) := by
  have hl : (zipL ds es).length = n := by unfold zipL; rw [List.length_zipWith, ← dpa_len h1, ← dpa_len h2, hn]
  refine ⟨⟨_, by rw [hl]; exact w, ?_⟩⟩
  rintro i H x H' ⟨T, x, y, rfl, hT, rfl, hx, hy⟩ F' sb sh
  obtain ⟨d, e1, e2⟩ := dpa_at h1 hx
  obtain ⟨d', e1', e2'⟩ := dpa_at h2 hy
  obtain ⟨F2, G, q⟩ := pair_step sh hT (dp_mono sb e2) (dp_mono sb e2')
  exact ⟨F2, _, zipL_get e1 e1', G, q⟩
def zipM (f g : EM) : AM := fun r => (f r).bind fun p => (g p.2).bind fun q => match p.1, q.1 with
  | .tuple xs, .tuple ys => some (zipL xs ys, q.2)
  | .list xs, .list ys => some (zipL xs ys, q.2)
  | _, _ => none
theorem si_zip {p tpos : Pos} {elts : List Expr} {kk : Nat} (hg : Gl X "zip") (hm : X.mg "zip" = none) (ha : SE X a f) (hb : SE X b g) (hs : starEach [a, b] X.env = (false, eval a X.env) :: starEach [b] X.env := by rfl) (hs2 : starEach [b] X.env = [(false, eval b X.env)] := by rfl) :
    SI X true (.Tuple elts kk tpos) (.Call (.Name "zip" p) [a, b] [] pos) (zipM f g) := ⟨⟨fun pins s σ H R I h => by
  obtain ⟨z, r, F, ds, r', Rr, e, k⟩ := h
  unfold zipM at e
  simp only [Option.bind_eq_some_iff] at e
  obtain ⟨⟨x, r1⟩, e1, ⟨y, r2⟩, e2, e3⟩ := e
  split at e3
  · rename_i xs ys hx hy
    have hx : x = .tuple xs := hx
    have hy : y = .tuple ys := hy
    subst hx hy
    cases e3
    refine (RZ.pi_zipA hg hm (pa_cons ha.pe (pa_cons hb.pe pa_nil hs2) hs) hs (by rw [hs2]; rfl)).run pins s σ H R I ⟨z, r, F, _, r1, Rr, e1, fun v H' F' R' sb dv => ⟨z, r1, F', _, r2, R', e2, fun v2 H2 F2 R2 sb2 dv2 => ?_⟩⟩
    have dv := dp_mono sb2 dv
    obtain ⟨_, _, rfl, h1, h2⟩ := dv.inv
    obtain ⟨_, _, rfl, h3, h4⟩ := dv2.inv
    exact ⟨_, _, _, _, rfl, .inr ⟨R2.fh.sqt (sqt_of h1), R2.fh.sqt (sqt_of h3), k _ H2 F2 R2 (sb.trans sb2) (walkD_pair h2 h4 rfl ((walk_zipT rfl).mono (fun H hs => ⟨hs.sqt (sqt_of h1), hs.sqt (sqt_of h3)⟩) fun _ _ _ _ _ _ y => y))⟩⟩
  · rename_i xs ys hx hy
    have hx : x = .list xs := hx
    have hy : y = .list ys := hy
    subst hx hy
    cases e3
    refine (RZ.pi_zipA hg hm (pa_cons ha.pe (pa_cons hb.pe pa_nil hs2) hs) hs (by rw [hs2]; rfl)).run pins s σ H R I ⟨z, r, F, _, r1, Rr, e1, fun v H' F' R' sb dv => ⟨z, r1, F', _, r2, R', e2, fun v2 H2 F2 R2 sb2 dv2 => ?_⟩⟩
    have dv := dp_mono sb2 dv
    obtain ⟨_, _, rfl, h1, h2⟩ := dv.inv
    obtain ⟨_, _, rfl, h3, h4⟩ := dv2.inv
    exact ⟨_, _, _, _, rfl, .inl ⟨R2.fh.sql h1, R2.fh.sql h3, k _ H2 F2 R2 (sb.trans sb2) (walkD_pair h2 h4 rfl ((walk_zip rfl).mono (fun H hs => ⟨hs.sql h1, hs.sql h3⟩) fun _ _ _ _ _ _ y => y))⟩⟩
  · cases e3⟩⟩
/-! ### targets -/
abbrev GM := Rho → D → Option Rho
def liftGw (K : PySem.W.Frag) (q : Bool) (t : GM) (is : List Nat) : TG := fun v s H Q => ∃ z r F d r', Rep K z r s H F ∧ Dz K q F v d ∧ t r d = some r' ∧ ∀ s', wipe s' is = wipe s is → Rep K z r' s' H F → Q s' H
structure SG (X : Cx) (q : Bool) (tg : Expr) (t : GM) (is : List Nat) : Prop where
  pg : PG X tg (liftGw X.K q t is)
theorem Dz.dp {K : PySem.W.Frag} {F : Hp} {v : V} {d : D} (h : Dz K false F v d) : Dp K F v d := h.elim id fun ⟨q, _⟩ => nomatch q
def nameG (i : Nat) : GM := fun r d => some (r.set i (some (.d d)))
theorem pg_imp {tg : Expr} {t t' : TG} (h : PG X tg t) (k : ∀ v s H Q, t' v s H Q → t v s H Q) : PG X tg t' := ⟨fun pins s σ H v u Q I r hq => h.run pins s σ H v u Q I r (k _ _ _ _ hq)⟩
theorem wipe_set {s : L2.St} {i : Nat} {v : Option V} : ∀ {is : List Nat}, i ∈ is → wipe (s.set i v) is = wipe s is := by
  have getw : ∀ (is : List Nat) (s : L2.St) (j : Nat), (wipe s is)[j]? = if j < s.length then (if j ∈ is then some none else s[j]?) else none := by
    intro is
    induction is with
    | nil => intro s j; unfold wipe; by_cases h : j < s.length <;> simp [h]
    | cons v vs ih =>
      intro s j
      unfold wipe
      rw [List.getElem?_set]
      have hl : (wipe s vs).length = s.length := wipe_length s vs
      by_cases h : v = j
      · subst h
        by_cases h2 : v < s.length
        · simp [h2, hl]
        · simp [h2, hl]
      · rw [if_neg h, ih]
        have : (j ∈ v :: vs) ↔ j ∈ vs := by simp [Ne.symm h]
        simp [this]
  intro is hi
  apply List.ext_getElem?
  intro j
  rw [getw, getw]
  simp only [List.length_set]
  by_cases h : j < s.length
  · simp only [h, if_true]
    by_cases h2 : j ∈ is
    · simp [h2]
    · have : i ≠ j := fun e => h2 (e ▸ hi)
      simp [h2, List.getElem?_set, this]
  · simp [h]
theorem sg_name (i : Nat) {x : Str} {is : List Nat} (hN : X.N.Nodup) (hi : X.N[i]? = some x) (hx : Loc X.env.scope x) (his : i ∈ is) (hf : X.fn x = true ∨ X.env.scope.names.lookup x = some .local := by first | exact .inl rfl | exact .inr rfl | assumption) : SG X false (.Name x pos) (nameG i) is :=
  ⟨pg_imp (pg_name hN hi hx hf) fun v s H Q ⟨z, r, F, d, r', R, dv, e, k⟩ => by
    cases e
    exact k _ (wipe_set his) (R.put dv.dp)⟩
abbrev GMs := Rho → List D → Option Rho
structure SGs (X : Cx) (tgs : List Expr) (t : GMs) (is : List Nat) : Prop where
  pg : PGs X tgs (fun vs s H Q => ∃ z r F ds r', Rep X.K z r s H F ∧ DpAll X.K F vs ds ∧ t r ds = some r' ∧ ∀ s', wipe s' is = wipe s is → Rep X.K z r' s' H F → Q s' H)
theorem pgs_imp {tg : List Expr} {t t' : TGs} (h : PGs X tg t) (k : ∀ v s H Q, t' v s H Q → t v s H Q) : PGs X tg t' := ⟨fun pins s σ H v u Q I r hq => h.run pins s σ H v u Q I r (k _ _ _ _ hq)⟩
def nilG : GMs := fun r ds => match ds with
  | [] => some r
  | _ => none
def consG (t : GM) (u : GMs) : GMs := fun r ds => match ds with
  | d :: ds => (t r d).bind fun r1 => u r1 ds
  | _ => none
theorem sgs_nil {is : List Nat} : SGs X [] nilG is := ⟨pgs_imp pgs_nil fun v s H Q ⟨z, r, F, d, r', R, dv, e, k⟩ => by
  unfold nilG at e
  split at e
  · cases e; cases dv; exact ⟨rfl, k _ rfl R⟩
  · cases e⟩
theorem sgs_cons {t : GM} {u : GMs} {is : List Nat} (h1 : SG X false e t is) (h2 : SGs X es u is)
    (hs : (assignEach (e :: es) X.env).map (·.2) = assign e X.env :: (assignEach es X.env).map (·.2) := by rfl) : SGs X (e :: es) (consG t u) is := ⟨pgs_imp (pgs_cons h1.pg h2.pg hs) fun v s H Q ⟨z, r, F, d, r', R, dv, e, k⟩ => by
  unfold consG at e
  split at e
  · simp only [Option.bind_eq_some_iff] at e
    obtain ⟨r1, e1, e2⟩ := e
    cases dv with
    | cons d1 d2 => exact ⟨_, _, rfl, z, r, F, _, r1, R, .inl d1, e1, fun s' hw R' => ⟨z, r1, F, _, r', R', d2, e2, fun s2 hw2 R2 => k s2 (hw2.trans hw) R2⟩⟩
  · cases e⟩
def tupG (n : Nat) (t : GMs) : GM := fun r d => match d with
  | .tuple ds => if ds.length = n then t r ds else none
  | _ => none
theorem sg_tup {q : Bool} {k : Nat} {t : GMs} {n : Nat} {is : List Nat} (hc : X.calm = true) (h : SGs X es t is) (hn : (assignEach es X.env).length = n := by rfl) (hst : (assignEach es X.env).findIdx? (·.1) = none := by rfl) : SG X q (.Tuple es k pos) (tupG n t) is :=
  ⟨pg_imp (pg_tup hc h.pg hn hst) fun v s H Q ⟨z, r, F, d, r', R, dv, e, k⟩ => by
    unfold tupG at e
    split at e
    · split at e
      · rename_i hl
        rcases dv with dv | ⟨_, a, vs, ds, rfl, eq, plain, h2⟩
        · obtain ⟨_, _, rfl, h1, h2⟩ := dv.inv
          exact ⟨_, _, rfl, R.fh.sqt (sqt_of h1), by rw [dpa_len h2]; exact hl, z, r, F, _, r', R, h2, e, k⟩
        · cases eq
          exact ⟨_, _, rfl, .inl (.inl (R.fh _ _ plain)), by rw [dpa_len h2]; exact hl, z, r, F, _, r', R, h2, e, k⟩
      · cases e
    · cases e⟩
end
end DL
namespace DL
open PySem L2 PyProof.Rows PySem.Spec
/-! ### list comprehensions -/
def wipeR (r : Rho) : List Nat → Rho
  | [] => r
  | v :: vs => (wipeR r vs).set v none
def restR (r2 r1 : Rho) : List Nat → Rho
  | [] => r2
  | v :: vs => (restR r2 r1 vs).set v (r1[v]?.getD none)
def compL (g : GM) (t : TM) (el : EM) (is : List Nat) : List D → Rho → Option (List D × Rho)
  | [], r => some ([], r)
  | x :: xs, r => (g r x).bind fun r1 => (t r1).bind fun p => if p.1 = true then (el p.2).bind fun q => (compL g t el is xs (wipeR q.2 is)).map fun w => (q.1 :: w.1, w.2) else compL g t el is xs (wipeR p.2 is)
def plainAt (r : Rho) (is : List Nat) : Bool := is.all fun i => match r[i]? with
  | some (some sv) => !sv.own
  | _ => true
def compM (is : List Nat) (it : AM) (g : GM) (t : TM) (el : EM) : AM := fun r => (it r).bind fun p => if plainAt p.2 is && szOk p.1.length then (compL g t el is p.1 (wipeR p.2 is)).map fun w => (w.1, restR w.2 p.2 is) else none
theorem wipeR_length (r : Rho) : ∀ is, (wipeR r is).length = r.length
  | [] => rfl
  | v :: vs => by unfold wipeR; rw [List.length_set, wipeR_length r vs]
theorem wipeR_get {r : Rho} {j : Nat} {sv : SV} : ∀ {is : List Nat}, (wipeR r is)[j]? = some (some sv) → r[j]? = some (some sv) ∧ j ∉ is
  | [], h => ⟨h, by simp⟩
  | v :: vs, h => by
    unfold wipeR at h
    rcases get_set_cases h with ⟨_, e⟩ | ⟨ne, e⟩
    · cases e
    · obtain ⟨h1, h2⟩ := wipeR_get e
      exact ⟨h1, by simp [ne, h2]⟩
theorem wipe_get {s : L2.St} {j : Nat} {v : V} : ∀ {is : List Nat}, s[j]? = some (some v) → j ∉ is → (wipe s is)[j]? = some (some v)
  | [], h, _ => h
  | i :: is, h, hn => by
    unfold wipe
    simp only [List.mem_cons, not_or] at hn
    rw [List.getElem?_set_ne (Ne.symm hn.1)]
    exact wipe_get h hn.2
theorem wipe_wipe {s : L2.St} : ∀ {is js : List Nat}, (∀ i ∈ js, i ∈ is) → wipe (wipe s js) is = wipe s is
  | is, [], _ => rfl
  | is, j :: js, h => by
    show wipe ((wipe s js).set j none) is = _
    rw [wipe_set (h j (by simp)), wipe_wipe fun i hi => h i (by simp [hi])]
section
variable {K : PySem.W.Frag} {z : Fx} {r : Rho} {s : L2.St} {H F : Hp}
theorem Rep.weaken {r' : Rho} {s' : L2.St} (R : Rep K z r s H F) (hl : r'.length = s'.length) (h : ∀ (j : Nat) (sv : SV), r'[j]? = some (some sv) → r[j]? = some (some sv) ∧ ∀ v, s[j]? = some (some v) → s'[j]? = some (some v)) : Rep K z r' s' H F := by
  have key : ∀ {j : Nat} {sv : SV} {v : V}, r'[j]? = some (some sv) → s'[j]? = some (some v) → s[j]? = some (some v) := fun {j sv v} e q => by
    obtain ⟨h1, h2⟩ := h j sv e
    obtain ⟨w, hw, _⟩ := R.slots j sv h1
    have := h2 w hw
    rw [q] at this; cases this; exact hw
  refine ⟨R.fh, R.old, R.f0, R.nw, fun i sv e => ?_, R.ap.sub fun j b ⟨x, a, e1, o1, s1, p⟩ => ⟨x, a, (h j x e1).1, o1, key e1 s1, p⟩, hl⟩
  · obtain ⟨h1, h2⟩ := h i sv e
    obtain ⟨v, hv, q⟩ := R.slots i sv h1
    exact ⟨v, h2 v hv, q⟩
theorem Rep.wipe (R : Rep K z r s H F) (is : List Nat) : Rep K z (wipeR r is) (L2.wipe s is) H F :=
  R.weaken (by rw [wipeR_length, wipe_length, R.len]) fun j sv e => by
    obtain ⟨h1, h2⟩ := wipeR_get e
    exact ⟨h1, fun v hv => wipe_get hv h2⟩
/-- a loose list grows -/
theorem Rep.loosePut (R : Rep K z r s H F) {p : Addr} {o : HO} (hf : F p = none) (h0 : z.H0 p = none) (ho : ¬ OwnAt r s H p) : Rep K z r s (upd H p o) F where
  fh := fun b u q => by
    have : b ≠ p := fun e => by rw [e, hf] at q; cases q
    rw [upd_ne this]; exact R.fh b u q
  old := fun b u q => by
    have : b ≠ p := fun e => by rw [e, h0] at q; cases q
    rw [upd_ne this]; exact R.old b u q
  f0 := R.f0
  nw := R.nw
  slots := fun i sv q => by
    obtain ⟨v, h1, h2⟩ := R.slots i sv q
    refine ⟨v, h1, h2.mono (.refl _) (fun a b e hp hown u hu => ?_) fun a b _ _ hf' _ _ _ _ => hf'⟩
    have : b ≠ p := fun z => ho ⟨i, sv, a, q, hown, by rw [h1, e], z ▸ hp⟩
    rw [upd_ne this]; exact hu
  ap := R.ap.sub fun j b h => owns_upd ho h
  len := R.len
/-- what a step over the bare base leaves of a loose object -/
theorem Rep.loose_kept {r' : Rho} {s' : L2.St} {H' F' : Hp} (R : Rep K z r s H F) (R' : Rep K ⟨bare r s H, F, z.rf⟩ r' s' H' F') {p : Addr} {o : HO} (hp : H p = some o) (hf : F p = none) (ho : ¬ OwnAt r s H p) (hnt : ¬ IsTu o) : H' p = some o ∧ F' p = none ∧ ¬ OwnAt r' s' H' p := by
  have hb : bare r s H p = some o := by rw [bare_not ho]; exact hp
  refine ⟨R'.old p o hb, ?_, fun q => ?_⟩
  · cases e : F' p with
    | none => rfl
    | some u =>
      rcases R'.nw p u e with h | h | h
      · have h : F p = some u := h
        rw [hf] at h; cases h
      · have h : bare r s H p = none := h
        rw [hb] at h; cases h
      · have := R'.fh p u e
        rw [R'.old p o hb] at this; cases this
        exact absurd h hnt
  · have h : bare r s H p = none := (R'.own_facts q).2.2
    rw [hb] at h; cases h
theorem restR_length (r2 r1 : Rho) : ∀ is, (restR r2 r1 is).length = r2.length
  | [] => rfl
  | v :: vs => by unfold restR; rw [List.length_set, restR_length r2 r1 vs]
theorem restR_get {r2 r1 : Rho} {j : Nat} {sv : SV} : ∀ {is : List Nat}, (restR r2 r1 is)[j]? = some (some sv) → (j ∈ is ∧ r1[j]? = some (some sv)) ∨ (j ∉ is ∧ r2[j]? = some (some sv))
  | [], h => .inr ⟨by simp, h⟩
  | v :: vs, h => by
    unfold restR at h
    rcases get_set_cases h with ⟨rfl, e⟩ | ⟨ne, e⟩
    · left
      refine ⟨by simp, ?_⟩
      cases q : r1[j]? with
      | none => rw [q] at e; cases e
      | some o => rw [q] at e; simp only [Option.getD_some] at e; rw [← e]
    · rcases restR_get e with ⟨h1, h2⟩ | ⟨h1, h2⟩
      · exact .inl ⟨by simp [h1], h2⟩
      · exact .inr ⟨by simp [ne, h1], h2⟩
/-- behind the comprehension: the def's own slots again -/
theorem Rep.unwipe {r1 r2 : Rho} {H' F' : Hp} {is : List Nat} (R1 : Rep K z r1 s H F) (R2 : Rep K z r2 (L2.wipe s is) H' F') (sb : SubH F F') (hp : plainAt r1 is = true) : Rep K z (restR r2 r1 is) s H' F' := by
  have key : ∀ {j : Nat} {sv : SV}, (restR r2 r1 is)[j]? = some (some sv) → (sv.own = false ∧ r1[j]? = some (some sv)) ∨ (r2[j]? = some (some sv)) := fun {j sv} e => by
    rcases restR_get e with ⟨h1, h2⟩ | ⟨h1, h2⟩
    · left
      have := List.all_eq_true.mp hp j h1
      rw [h2] at this
      exact ⟨by simpa using this, h2⟩
    · exact .inr h2
  have own2 : ∀ {j : Nat} {sv : SV}, (restR r2 r1 is)[j]? = some (some sv) → sv.own = true → r2[j]? = some (some sv) := fun {j sv} e o => by
    rcases key e with ⟨x, _⟩ | h
    · rw [x] at o; cases o
    · exact h
  have sl2 : ∀ {j : Nat} {sv : SV} {v : V}, r2[j]? = some (some sv) → s[j]? = some (some v) → (L2.wipe s is)[j]? = some (some v) := fun {j sv v} e q => by
    obtain ⟨w, hw, _⟩ := R2.slots j sv e
    obtain ⟨h1, _⟩ := wipe_some hw
    rw [q] at h1; cases h1; exact hw
  refine ⟨R2.fh, R2.old, R2.f0, R2.nw, fun j sv e => ?_, R2.ap.sub fun j b ⟨x, a, e1, o1, s1, p⟩ => ⟨x, a, own2 e1 o1, o1, sl2 (own2 e1 o1) s1, p⟩, ?_⟩
  · rcases key e with ⟨x, h⟩ | h
    · obtain ⟨v, h1, h2⟩ := R1.slots j _ h
      exact ⟨v, h1, h2.mono sb (fun _ _ _ _ o => by rw [x] at o; cases o) fun _ _ _ _ _ _ o => by rw [x] at o; cases o⟩
    · obtain ⟨v, h1, h2⟩ := R2.slots j sv h
      exact ⟨v, (wipe_some h1).1, h2⟩
  · rw [restR_length, R2.len, wipe_length]
end
section
variable {X : Cx} {elt tg iter : Expr} {ifs : List Expr} {scope : Scope} {pos : Pos} {it : AM} {g : GM} {t : TM} {el : EM}
structure STs (X : Cx) (ifs : List Expr) (f : TM) : Prop where
  pts : PTs X ifs (liftT X.K f)
def yesM : TM := fun r => some (true, r)
theorem pts_imp {e : List Expr} {t t' : TT} (h : PTs X e t) (k : ∀ s H Q, t' s H Q → t s H Q) : PTs X e t' := ⟨fun pins s σ H Q I hq => h.run pins s σ H Q I (k _ _ _ hq)⟩
theorem sts_nil : STs X [] yesM := ⟨pts_imp pts_nil fun s H Q ⟨z, r, F, d, r', R, e, k⟩ => by cases e; exact k H F R (.refl _)⟩
theorem sts_one {c : Expr} {f : TM} (h : ST X c f) : STs X [c] f := ⟨pts_one h.pt⟩
theorem comp_core {pw : Bool} {own : List (Str × Nat)} {s : L2.St} {H : Hp} {Q : VK} (q : liftL X.K (compM (own.map (·.2)) it g t el) s H Q) :
    tLc (liftI X.K pw it) (liftGw X.K pw g (own.map (·.2))) (liftT X.K t) (liftE X.K el) (own.map (·.2)) s H Q := by
  generalize own.map (·.2) = is at q ⊢
  obtain ⟨z, r, F, d, r', R, e, k⟩ := q
  unfold compM at e
  simp only [Option.bind_eq_some_iff] at e
  obtain ⟨⟨ds, r1⟩, e1, e2⟩ := e
  split at e2
  · rename_i hok
    obtain ⟨hp, hz⟩ := Bool.and_eq_true_iff.mp hok
    have hz : ds.length ≤ 1000000 := of_decide_eq_true hz
    simp only [Option.map_eq_some_iff] at e2
    obtain ⟨⟨out, r2⟩, e3, e4⟩ := e2
    cases e4
    refine ⟨z, r, F, ds, r1, R, e1, fun J H1 F1 R1 sb1 w D hD => ?_⟩
    obtain ⟨Y, W, hY⟩ := w.w
    refine lc_it (g := liftGw X.K pw g is) (tt := liftT X.K t) (te := liftE X.K el) (vs := is) (σ := s) (H1 := H1) (D := D) (Qd := fun H => Q (.ref D) H) W (fun i H => ∃ r F done rest vs, Rep X.K z r (wipe s is) H F ∧ SubH F1 F ∧ compL g t el is (ds.drop i) r = some (rest, r2) ∧ done ++ rest = out ∧ H D = some (.lst vs) ∧ F D = none ∧ z.H0 D = none ∧ ¬ OwnAt r (wipe s is) H D ∧ DpAll X.K F vs done ∧ vs.length ≤ i)
      ?_ (fun i H _ ⟨r, F, done, rest, vs, Rr, sb, _⟩ => sb.trans Rr.fh) ?_ ?_
    · obtain ⟨Rl, h1, h2, h3, h4⟩ := (R1.wipe is).loose (vs := []) hD
      exact ⟨wipeR r1 is, F1, [], out, [], Rl, .refl _, by simpa using e3, rfl, h1, h2, h3, h4, .nil, Nat.le_refl _⟩
    · rintro i x H2 H3 hi ⟨ra, Fa, done, rest, vs, Ra, sba, ec, ed, hDa, hFa, hza, hoa, hda, hla⟩ y
      obtain ⟨Fb, dx, ei, G, dvx⟩ := hY i H2 x H3 y Fa sba Ra.fh
      have Rb := Ra.grow G
      have hDb : H3 D = some (.lst vs) := G.hh _ _ hDa
      have hFb : Fb D = none := by
        cases q : Fb D with
        | none => rfl
        | some u =>
          rcases G.nw D u q with h | h | ⟨ob, ws, rfl⟩
          · rw [hFa] at h; cases h
          · rw [hDa] at h; cases h
          · have q2 := G.fh D _ q
            rw [hDb] at q2; exact (tupHO_lst q2).elim
      have hdrop : ds.drop i = dx :: ds.drop (i + 1) := by
        have hlt : i < ds.length := (List.getElem?_eq_some_iff.mp ei).1
        rw [List.drop_eq_getElem_cons hlt]
        congr 1
        exact (List.getElem?_eq_some_iff.mp ei).2
      rw [hdrop] at ec
      simp only [compL, Option.bind_eq_some_iff] at ec
      obtain ⟨rg, eg, ⟨bt, rt⟩, et, ec⟩ := ec
      refine ⟨_, ra, Fb, dx, rg, Rb.base, dvx, eg, fun s2 hw2 R2 => ?_⟩
      have hww : wipe s2 is = wipe s is := hw2.trans (wipe_wipe fun _ h => h)
      refine ⟨hww, ?_⟩
      refine ⟨_, rg, Fb, bt, rt, R2, et, fun H4 F4 R4 sb4 => ?_⟩
      cases bt with
      | false =>
        simp only [Bool.false_eq_true, if_false] at ec ⊢
        obtain ⟨k1, k2, k3⟩ := Rb.loose_kept R4 hDb hFb (fun q => hoa (Ra.ownAtH G.hh q)) not_tu
        have R5 := (Rb.back R4).wipe is
        rw [hww] at R5
        refine ⟨_, F4, done, rest, vs, R5, (sba.trans G.ff).trans sb4, ec, ed, k1, k2, hza, ?_, dpa_mono (G.ff.trans sb4) hda, by omega⟩
        rintro ⟨j, sv, a, q1, q2, q3, qp⟩
        obtain ⟨q4, q5⟩ := wipeR_get q1
        obtain ⟨v, hv, _⟩ := R4.slots j sv q4
        have := wipe_get hv q5
        rw [hww] at this
        rw [q3] at this; cases this
        exact k3 ⟨j, sv, a, q4, q2, hv, qp⟩
      | true =>
        simp only [if_true, Option.bind_eq_some_iff, Option.map_eq_some_iff] at ec ⊢
        obtain ⟨⟨y1, ry⟩, ey, ⟨ws, rw'⟩, ecl, ee⟩ := ec
        cases ee
        refine ⟨_, rt, F4, y1, ry, R4, ey, fun v5 H5 F5 R5 sb5 dv5 => ?_⟩
        obtain ⟨k1, k2, k3⟩ := Rb.loose_kept R5 hDb hFb (fun q => hoa (Ra.ownAtH G.hh q)) not_tu
        have R6 := (Rb.back R5).wipe is
        rw [hww] at R6
        have k4 : ¬ OwnAt (wipeR ry is) (wipe s is) H5 D := by
          rintro ⟨j, sv, a, q1, q2, q3, qp⟩
          obtain ⟨q4, q5⟩ := wipeR_get q1
          obtain ⟨v, hv, _⟩ := R5.slots j sv q4
          have := wipe_get hv q5
          rw [hww] at this
          rw [q3] at this; cases this
          exact k3 ⟨j, sv, a, q4, q2, hv, qp⟩
        refine ⟨vs, k1, Nat.lt_of_le_of_lt (Nat.le_trans hla (Nat.le_trans (Nat.le_of_lt hi) hz)) (by decide), ?_⟩
        exact ⟨_, F5, done ++ [y1], ws, vs ++ [v5], R6.loosePut k2 hza k4, ((sba.trans G.ff).trans sb4).trans sb5, ecl, by rw [← ed]; simp, upd_same, k2, hza, fun q => k4 (ownAt_upd k4 q), dpa_app (dpa_mono ((G.ff.trans sb4).trans sb5) hda) (dpa_one dv5), by rw [List.length_append]; simp; omega⟩
    · rintro H2 ⟨ra, Fa, done, rest, vs, Ra, sba, ec, ed, hDa, hFa, hza, hoa, hda, hla⟩
      rw [List.drop_length] at ec
      cases ec
      have R9 := R1.unwipe Ra sba hp
      rw [List.append_nil] at ed
      subst ed
      refine k D vs H2 Fa R9 (sb1.trans sba) hDa hFa hza ?_ hda
      rintro ⟨j, sv, a, q1, q2, q3, qp⟩
      rcases restR_get q1 with ⟨h1, h2⟩ | ⟨h1, h2⟩
      · have := List.all_eq_true.mp hp j h1
        rw [h2] at this
        simp only [q2] at this
        cases this
      · exact hoa ⟨j, sv, a, h2, q2, wipe_get q3 h1, qp⟩
  · cases e2
theorem sl_comp {pw : Bool} {own : List (Str × Nat)} (hc : X.calm = true) (hN : X.N.Nodup) (hi : SI X pw tg iter it) (ok : BlkOk X.N X.env.scope scope own)
    (hg : ∀ (s : Shared) (H : Hp) (C : Addr) (cl : List (Str × Addr)) (fp : List Addr), SG (X.blk s H scope (compEnvC scope cl C X.env) fp) pw tg g (own.map (·.2))) (ht : ∀ (s : Shared) (H : Hp) (C : Addr) (cl : List (Str × Addr)) (fp : List Addr), STs (X.blk s H scope (compEnvC scope cl C X.env) fp) ifs t)
    (he : ∀ (s : Shared) (H : Hp) (C : Addr) (cl : List (Str × Addr)) (fp : List Addr), SE (X.blk s H scope (compEnvC scope cl C X.env) fp) elt el) (hs : ∀ x, foldedSetIterable iter X.env x = pure x := by intro _; rfl) :
    SL X (.ListComp elt [⟨tg, iter, ifs, 0⟩] scope pos) (compM (own.map (·.2)) it g t el) :=
  ⟨pe_imp (pe_lc (own := own) hc hN hi.pi ok (fun s H C cl fp => (hg s H C cl fp).pg) (fun s H C cl fp => (ht s H C cl fp).pts) (fun s H C cl fp => (he s H C cl fp).pe) hs) fun s H Q q => comp_core q⟩
end
end DL
namespace DL
open PySem L2 PyProof.Rows PySem.Spec
/-! ### statements -/
inductive Out where
  | nx (r : Rho)
  | rt (d : D) (r : Rho)
  | bk (r : Rho)
  | ct (r : Rho)
  | ex (c : String) (r : Rho)
abbrev SM := Rho → Option Out
def outOk (K : PySem.W.Frag) (z : Fx) (F : Hp) (W : String → Hp → Prop) (D : Ends) : Out → Prop
  | .nx r' => ∀ s' H' F', Rep K z r' s' H' F' → SubH F F' → D.nx s' H'
  | .rt d r' => ∀ v s' H' F', Rep K z r' s' H' F' → SubH F F' → Dp K F' v d → D.rt v H'
  | .bk r' => ∀ s' H' F', Rep K z r' s' H' F' → SubH F F' → D.bk s' H'
  | .ct r' => ∀ s' H' F', Rep K z r' s' H' F' → SubH F F' → D.ct s' H'
  | .ex c r' => ∀ s' H' F', Rep K z r' s' H' F' → SubH F F' → W c H'
theorem outOk.mono {K : PySem.W.Frag} {z : Fx} {F F' : Hp} {W : String → Hp → Prop} {D : Ends} {o : Out} (h : outOk K z F W D o) (e : SubH F F') : outOk K z F' W D o := by
  cases o with
  | nx r => exact fun s' H' F2 R sb => h s' H' F2 R (e.trans sb)
  | rt d r => exact fun v s' H' F2 R sb => h v s' H' F2 R (e.trans sb)
  | bk r => exact fun s' H' F2 R sb => h s' H' F2 R (e.trans sb)
  | ct r => exact fun s' H' F2 R sb => h s' H' F2 R (e.trans sb)
  | ex c r => exact fun s' H' F2 R sb => h s' H' F2 R (e.trans sb)
def liftS (K : PySem.W.Frag) (W : String → Hp → Prop) (f : SM) : TS := fun D s H => ∃ z r F o, Rep K z r s H F ∧ f r = some o ∧ outOk K z F W D o
structure SS (X : Cx) (W : String → Hp → Prop) (st : Stmt) (f : SM) : Prop where
  ps : PS X st (liftS X.K W f)
structure SSs (X : Cx) (W : String → Hp → Prop) (st : List Stmt) (f : SM) : Prop where
  ps : PSs X st (liftS X.K W f)
section
variable {X : Cx} {W : String → Hp → Prop} {a b c e tg : Expr} {st : Stmt} {sts : List Stmt} {f g : SM} {pos : Pos}
theorem ps_imp {st : Stmt} {t t' : TS} (h : PS X st t) (k : ∀ D s H, t' D s H → t D s H) : PS X st t' := ⟨fun pins s σ H D I hq => h.run pins s σ H D I (k _ _ _ hq)⟩
theorem pss_imp {st : List Stmt} {t t' : TS} (h : PSs X st t) (k : ∀ D s H, t' D s H → t D s H) : PSs X st t' := ⟨fun pins s σ H D I hq => h.run pins s σ H D I (k _ _ _ hq)⟩
def skipM : SM := fun r => some (.nx r)
def seqS (f g : SM) : SM := fun r => (f r).bind fun o => match o with
  | .nx r1 => g r1
  | o => some o
theorem sss_nil : SSs X W [] skipM := ⟨pss_imp pss_nil fun D s H ⟨z, r, F, o, R, e, k⟩ => by cases e; exact k s H F R (.refl _)⟩
theorem sss_cons (h1 : SS X W st f) (h2 : SSs X W sts g) : SSs X W (st :: sts) (seqS f g) := ⟨pss_imp (pss_cons h1.ps h2.ps) fun D s H ⟨z, r, F, o, R, e, k⟩ => by
  unfold seqS at e
  simp only [Option.bind_eq_some_iff] at e
  obtain ⟨o1, e1, e2⟩ := e
  refine ⟨z, r, F, o1, R, e1, ?_⟩
  cases o1 with
  | nx r1 => exact fun s' H' F' R' sb => ⟨z, r1, F', o, R', e2, k.mono sb⟩
  | rt d r1 => cases e2; exact k
  | bk r1 => cases e2; exact k
  | ct r1 => cases e2; exact k
  | ex c r1 => cases e2; exact k⟩
theorem sss_one (h1 : SS X W st f) : SSs X W [st] f := ⟨pss_one h1.ps⟩
def asgM (i : Nat) (f : EM) : SM := fun r => (f r).map fun p => .nx (p.2.set i (some (.d p.1)))
theorem ss_asg (i : Nat) {x : Str} {pos' : Pos} {f : EM} (hN : X.N.Nodup) (he : SE X e f) (hi : X.N[i]? = some x := by rfl) (hx : Loc X.env.scope x := by first | exact Or.inl rfl | exact Or.inr rfl) (hs : swapsWith e (some (.Name x pos')) pos.line X.env = pure false := by rfl) (hf : X.fn x = true ∨ X.env.scope.names.lookup x = some .local := by first | exact .inl rfl | exact .inr rfl | assumption) :
    SS X W (.Assign [.Name x pos'] e pos) (asgM i f) := ⟨ps_imp (ps_set hN hi hx he.pe hs hf) fun D s H ⟨z, r, F, o, R, e, k⟩ => by
  unfold asgM at e
  simp only [Option.map_eq_some_iff] at e
  obtain ⟨⟨d, r1⟩, e1, e2⟩ := e
  cases e2
  exact ⟨z, r, F, d, r1, R, e1, fun v H' F' R' sb dv => k _ H' F' (R'.put dv) sb⟩⟩
/-- an own list -/
theorem Rep.putOwn {K : PySem.W.Frag} {z : Fx} {r : Rho} {s : L2.St} {H F : Hp} (R : Rep K z r s H F) {i : Nat} {p : Addr} {vs : List V} {xs : List D} (hp : H p = some (.lst vs)) (hf : F p = none) (h0 : z.H0 p = none) (ho : ¬ OwnAt r s H p) (hd : DpAll K F vs xs) :
    Rep K z (r.set i (some (.l false xs))) (s.set i (some (.ref p))) H F where
  fh := R.fh
  old := R.old
  f0 := R.f0
  nw := R.nw
  slots := fun j sv e => by
    have hj : j < r.length := by
      have q : j < (r.set i (some (SV.l false xs))).length := (List.getElem?_eq_some_iff.mp e).1
      simpa using q
    rcases get_set_cases e with ⟨rfl, e2⟩ | ⟨ne, e⟩
    · cases e2
      exact ⟨_, by rw [List.getElem?_set_self (by rw [← R.len]; exact hj)], p, vs, rfl, hp, hf, h0, hd, fun q => nomatch q⟩
    · obtain ⟨w, h1, h2⟩ := R.slots j sv e
      exact ⟨w, by rw [List.getElem?_set_ne (Ne.symm ne)]; exact h1, h2⟩
  ap := R.ap.new (i := i) (P := fun b => b = p) (fun b e => e ▸ ho) fun j b h => by
    rcases owns_set h with ⟨e, _, a, ea, q⟩ | ⟨n, h⟩
    · cases ea; exact .inl ⟨e, part_lst hp q⟩
    · exact .inr ⟨n, h⟩
  len := by simpa using R.len
def newM (i : Nat) (f : AM) : SM := fun r => (f r).map fun p => .nx (p.2.set i (some (.l false p.1)))
theorem new_core {i : Nat} {f : AM} {D : Ends} {s : L2.St} {H : Hp} (q : liftS X.K W (newM i f) D s H) : tAsg (liftL X.K f) (gName i) D s H := by
  obtain ⟨z, r, F, o, R, e, k⟩ := q
  unfold newM at e
  simp only [Option.map_eq_some_iff] at e
  obtain ⟨⟨d, r1⟩, e1, e2⟩ := e
  cases e2
  exact ⟨z, r, F, d, r1, R, e1, fun a vs H' F' R' sb h1 h2 h3 h4 h5 => k _ H' F' (R'.putOwn h1 h2 h3 h4 h5) sb⟩
theorem ss_new (i : Nat) {x : Str} {pos' : Pos} {f : AM} (hN : X.N.Nodup) (he : SL X e f) (hi : X.N[i]? = some x := by rfl) (hx : Loc X.env.scope x := by first | exact Or.inl rfl | exact Or.inr rfl) (hs : swapsWith e (some (.Name x pos')) pos.line X.env = pure false := by rfl) (hf : X.fn x = true ∨ X.env.scope.names.lookup x = some .local := by first | exact .inl rfl | exact .inr rfl | assumption) :
    SS X W (.Assign [.Name x pos'] e pos) (newM i f) := ⟨ps_imp (ps_set hN hi hx he.pe hs hf) fun D s H q => new_core q⟩
def asgLM (i : Nat) (f : AM) : SM := fun r => (f r).map fun p => .nx (p.2.set i (some (.d (.list p.1))))
theorem asgL_core {i : Nat} {f : AM} {D : Ends} {s : L2.St} {H : Hp} (q : liftS X.K W (asgLM i f) D s H) : tAsg (liftL X.K f) (gName i) D s H := by
  obtain ⟨z, r, F, o, R, e, k⟩ := q
  unfold asgLM at e
  simp only [Option.map_eq_some_iff] at e
  obtain ⟨⟨d, r1⟩, e1, e2⟩ := e
  cases e2
  refine ⟨z, r, F, d, r1, R, e1, fun a vs H' F' R' sb h1 h2 h3 h4 h5 => ?_⟩
  have G := R'.freeze1 h1 h2 h3 h4
  exact k _ H' _ (G.put (.lst (.inl (.inl upd_same)) (dpa_mono (.new h2) h5))) (sb.trans (.new h2))
section
variable {elt iter : Expr} {ifs : List Expr} {scope : Scope} {it : AM} {gg : GM} {t : TM} {el : EM}
/-- name = [.. for ..] -/
theorem ss_compD {pw : Bool} (i : Nat) {y : Str} {py spos : Pos} {own : List (Str × Nat)} (hc : X.calm = true) (hN : X.N.Nodup) (hi : SI X pw tg iter it) (ok : BlkOk X.N X.env.scope scope own)
    (hg : ∀ (s : Shared) (H : Hp) (C : Addr) (cl : List (Str × Addr)) (fp : List Addr), SG (X.blk s H scope (compEnvC scope cl C X.env) fp) pw tg gg (own.map (·.2))) (ht : ∀ (s : Shared) (H : Hp) (C : Addr) (cl : List (Str × Addr)) (fp : List Addr), STs (X.blk s H scope (compEnvC scope cl C X.env) fp) ifs t)
    (he : ∀ (s : Shared) (H : Hp) (C : Addr) (cl : List (Str × Addr)) (fp : List Addr), SE (X.blk s H scope (compEnvC scope cl C X.env) fp) elt el)
    (hsw : swapsWith (.ListComp elt [⟨tg, iter, ifs, 0⟩] scope pos) (some (.Name y py)) spos.line X.env = pure true) (hy : X.N[i]? = some y := by rfl) (hyl : X.env.scope.names.lookup y = some .local := by rfl) (hs : ∀ x, foldedSetIterable iter X.env x = pure x := by intro _; rfl) :
    SS X W (.Assign [.Name y py] (.ListComp elt [⟨tg, iter, ifs, 0⟩] scope pos) spos) (asgLM i (compM (own.map (·.2)) it gg t el)) :=
  ⟨ps_imp (ps_setLc (own := own) hc hN hy hyl hsw hi.pi ok (fun s H C cl fp => (hg s H C cl fp).pg) (fun s H C cl fp => (ht s H C cl fp).pts) (fun s H C cl fp => (he s H C cl fp).pe) hs) fun D s H q => by
    have q2 : tAsg (liftL X.K (compM (own.map (·.2)) it gg t el)) (gName i) D s H := asgL_core q
    exact comp_core q2⟩
end
def retM (f : EM) : SM := fun r => (f r).map fun p => .rt p.1 p.2
theorem ss_ret {f : EM} (he : SE X e f) : SS X W (.Return (some e) pos) (retM f) := ⟨ps_imp (ps_ret he.pe) fun D s H ⟨z, r, F, o, R, e, k⟩ => by
  unfold retM at e
  simp only [Option.map_eq_some_iff] at e
  obtain ⟨⟨d, r1⟩, e1, e2⟩ := e
  cases e2
  exact ⟨z, r, F, d, r1, R, e1, fun v H' F' R' sb dv => k v s H' F' R' sb dv⟩⟩
def exprM (f : EM) : SM := fun r => (f r).map fun p => .nx p.2
theorem ss_expr {f : EM} (he : SE X e f) (hs : swapsWith e none pos.line X.env = pure false := by rfl) : SS X W (.Expr e pos) (exprM f) := ⟨ps_imp (ps_expr he.pe hs) fun D s H ⟨z, r, F, o, R, e, k⟩ => by
  unfold exprM at e
  simp only [Option.map_eq_some_iff] at e
  obtain ⟨⟨d, r1⟩, e1, e2⟩ := e
  cases e2
  exact ⟨z, r, F, d, r1, R, e1, fun v H' F' R' sb dv => k s H' F' R' sb⟩⟩
def ifM (t : TM) (f g : SM) : SM := fun r => (t r).bind fun p => if p.1 = true then f p.2 else g p.2
theorem ss_if {as bs : List Stmt} {t : TM} (hc : ST X c t) (ha : SSs X W as f) (hb : SSs X W bs g) : SS X W (.If c as bs pos) (ifM t f g) := ⟨ps_imp (ps_if hc.pt ha.ps hb.ps) fun D s H ⟨z, r, F, o, R, e, k⟩ => by
  unfold ifM at e
  simp only [Option.bind_eq_some_iff] at e
  obtain ⟨⟨d, r1⟩, e1, e2⟩ := e
  refine ⟨z, r, F, d, r1, R, e1, fun H' F' R' sb => ?_⟩
  cases d with
  | true => exact ⟨z, r1, F', o, R', e2, k.mono sb⟩
  | false => exact ⟨z, r1, F', o, R', e2, k.mono sb⟩⟩
/-! ### loops -/
def forL (g : GM) (f : SM) : List D → Rho → Option Out
  | [], r => some (.nx r)
  | x :: xs, r => (g r x).bind fun r1 => (f r1).bind fun o => match o with
    | .nx r2 => forL g f xs r2
    | .ct r2 => forL g f xs r2
    | .bk r2 => some (.nx r2)
    | o => some o
def forM (it : AM) (g : GM) (f : SM) : SM := fun r => (it r).bind fun p => forL g f p.1 p.2
theorem ss_for {pw : Bool} {iter : Expr} {body : List Stmt} {it : AM} {g : GM} {is : List Nat} (hp : PassesOwn (model X.prog X.w) X.A X.env X.xe) (hc : X.calm = true) (hi : SI X pw tg iter it) (hg : SG X pw tg g is) (hb : SSs X W body f)
    (hs : ∀ x, foldedSetIterable iter X.env x = pure x := by intro _; rfl) : SS X W (.For tg iter body [] pos) (forM it g f) := ⟨ps_imp (ps_for hp hc hi.pi hg.pg hb.ps hs) fun D s H ⟨z, r, F, o, R, e, k⟩ => by
  unfold forM at e
  simp only [Option.bind_eq_some_iff] at e
  obtain ⟨⟨ds, r1⟩, e1, e2⟩ := e
  refine ⟨z, r, F, ds, r1, R, e1, fun J H1 F1 R1 sb1 w => ?_⟩
  obtain ⟨Y, Wk, hY⟩ := w.w
  refine for_it Wk (fun i s H => ∃ r F, Rep X.K z r s H F ∧ SubH F1 F ∧ forL g f (ds.drop i) r = some o) ⟨r1, F1, R1, .refl _, by simpa using e2⟩ (fun i s H _ ⟨r, F, Rr, sb, _⟩ => sb.trans Rr.fh) ?_ ?_
  · rintro i x s2 H2 H3 hi ⟨ra, Fa, Ra, sba, ec⟩ y
    obtain ⟨Fb, dx, ei, G, dvx⟩ := hY i H2 x H3 y Fa sba Ra.fh
    have Rb := Ra.grow G
    have hdrop : ds.drop i = dx :: ds.drop (i + 1) := by
      have hlt : i < ds.length := (List.getElem?_eq_some_iff.mp ei).1
      rw [List.drop_eq_getElem_cons hlt]
      congr 1
      exact (List.getElem?_eq_some_iff.mp ei).2
    rw [hdrop] at ec
    simp only [forL, Option.bind_eq_some_iff] at ec
    obtain ⟨rg, eg, ob, eb, ec⟩ := ec
    refine ⟨z, ra, Fb, dx, rg, Rb, dvx, eg, fun s3 _ R3 => ⟨z, rg, Fb, ob, R3, eb, ?_⟩⟩
    have sbb : SubH F1 Fb := sba.trans G.ff
    cases ob with
    | nx r4 => exact fun s4 H4 F4 R4 sb4 => ⟨r4, F4, R4, sbb.trans sb4, ec⟩
    | ct r4 => exact fun s4 H4 F4 R4 sb4 => ⟨r4, F4, R4, sbb.trans sb4, ec⟩
    | bk r4 => cases ec; exact fun s4 H4 F4 R4 sb4 => k s4 H4 F4 R4 ((sb1.trans sbb).trans sb4)
    | rt d r4 => cases ec; exact fun v s4 H4 F4 R4 sb4 dv => k v s4 H4 F4 R4 ((sb1.trans sbb).trans sb4) dv
    | ex c r4 => cases ec; exact fun s4 H4 F4 R4 sb4 => k s4 H4 F4 R4 ((sb1.trans sbb).trans sb4)
  · rintro s2 H2 ⟨ra, Fa, Ra, sba, ec⟩
    rw [List.drop_length] at ec
    cases ec
    exact k s2 H2 Fa Ra (sb1.trans sba)⟩
def whileL (t : TM) (f : SM) : Nat → Rho → Option Out
  | 0, _ => none
  | n + 1, r => (t r).bind fun p => if p.1 = true then (f p.2).bind fun o => match o with
      | .nx r2 => whileL t f n r2
      | .ct r2 => whileL t f n r2
      | .bk r2 => some (.nx r2)
      | o => some o
    else some (.nx p.2)
theorem ss_while {body : List Stmt} {t : TM} (n : Nat) (hp : PassesOwn (model X.prog X.w) X.A X.env X.xe) (hc : ST X c t) (hb : SSs X W body f) : SS X W (.While c body [] pos) (whileL t f n) := ⟨ps_imp (ps_while hp hc.pt hb.ps) fun D s H ⟨z, r, F, o, R, e, k⟩ => by
  refine ⟨fun m s H => ∃ r F', Rep X.K z r s H F' ∧ SubH F F' ∧ whileL t f m r = some o, ⟨n, r, F, R, .refl _, e⟩, ?_⟩
  rintro m s2 H2 ⟨ra, Fa, Ra, sba, ec⟩
  cases m with
  | zero => cases ec
  | succ m =>
    simp only [whileL, Option.bind_eq_some_iff] at ec
    obtain ⟨⟨b, rt⟩, et, ec⟩ := ec
    refine ⟨z, ra, Fa, b, rt, Ra, et, fun H3 F3 R3 sb3 => ?_⟩
    cases b with
    | false => cases ec; exact k s2 H3 F3 R3 (sba.trans sb3)
    | true =>
      simp only [if_true, Option.bind_eq_some_iff] at ec ⊢
      obtain ⟨ob, eb, ec⟩ := ec
      refine ⟨fun s H => ∃ r F', Rep X.K z r s H F' ∧ SubH F F' ∧ whileL t f m r = some o, fun s' H' h => ⟨m, Nat.lt_succ_self _, h⟩, z, rt, F3, ob, R3, eb, ?_⟩
      have sbb : SubH F F3 := sba.trans sb3
      cases ob with
      | nx r4 => exact fun s4 H4 F4 R4 sb4 => ⟨r4, F4, R4, sbb.trans sb4, ec⟩
      | ct r4 => exact fun s4 H4 F4 R4 sb4 => ⟨r4, F4, R4, sbb.trans sb4, ec⟩
      | bk r4 => cases ec; exact fun s4 H4 F4 R4 sb4 => k s4 H4 F4 R4 (sbb.trans sb4)
      | rt d r4 => cases ec; exact fun v s4 H4 F4 R4 sb4 dv => k v s4 H4 F4 R4 (sbb.trans sb4) dv
      | ex c r4 => cases ec; exact fun s4 H4 F4 R4 sb4 => k s4 H4 F4 R4 (sbb.trans sb4)⟩
/-! ### an own list is frozen -/
def frzR (i : Nat) (r : Rho) : Option Rho := match r[i]? with
  | some (some (.l _ xs)) => some (r.set i (some (.d (.list xs))))
  | _ => none
theorem Rep.frz {K : PySem.W.Frag} {z : Fx} {r r' : Rho} {s : L2.St} {H F : Hp} {i : Nat} (R : Rep K z r s H F) (e : frzR i r = some r') : ∃ F', Rep K z r' s H F' ∧ SubH F F' := by
  unfold frzR at e
  split at e
  · rename_i xs hi
    cases e
    obtain ⟨v, h1, p, vs, rfl, h2, h3, h4, h5, h6⟩ := R.slots i _ hi
    have hil : i < r.length := (List.getElem?_eq_some_iff.mp hi).1
    refine ⟨upd F p (.lst vs), ⟨fun b u q => ?_, R.old, R.f0.trans (.new h3), fun b u q => ?_, fun j sv q => ?_, R.ap.sub fun j b h => by
      rcases owns_setR h with ⟨_, o, _⟩ | ⟨_, h⟩
      · cases o
      · exact h, by simpa using R.len⟩, .new h3⟩
    · by_cases e : b = p
      · subst e; rw [upd_same] at q; rw [h2]; exact q
      · rw [upd_ne e] at q; exact R.fh b u q
    · by_cases e : b = p
      · subst e; exact .inr (.inl h4)
      · rw [upd_ne e] at q; exact R.nw b u q
    · rcases get_set_cases q with ⟨rfl, e⟩ | ⟨ne, q⟩
      · cases e
        exact ⟨_, h1, .lst (.inl (.inl upd_same)) (dpa_mono (.new h3) h5)⟩
      · obtain ⟨v, q1, q2⟩ := R.slots j sv q
        refine ⟨v, q1, q2.mono (.new h3) (fun _ _ _ _ _ _ h => h) fun a b o ho' hf' _ hown e hp => ?_⟩
        rw [upd_ne (R.other ne hi rfl h1 q hown (by rw [q1, e]) hp)]; exact hf'
  · cases e
def frzM (i : Nat) (f : SM) : SM := fun r => (frzR i r).bind f
theorem ss_frz (i : Nat) (h : SS X W st f) : SS X W st (frzM i f) := ⟨ps_imp h.ps fun D s H ⟨z, r, F, o, R, e, k⟩ => by
  unfold frzM at e
  simp only [Option.bind_eq_some_iff] at e
  obtain ⟨r1, e1, e2⟩ := e
  obtain ⟨F', R', sb⟩ := R.frz e1
  exact ⟨z, r1, F', o, R', e2, k.mono sb⟩⟩
end
end DL
namespace DL
open PySem L2 PyProof.Rows PySem.Spec
section
variable {K : PySem.W.Frag} {z : Fx} {r : Rho} {s : L2.St} {H F : Hp}
/-- an own list takes another content -/
theorem Rep.setOwn (R : Rep K z r s H F) {i : Nat} {p : Addr} {bb : Bool} {xs xs' : List D} {vs' : List V} (hi : r[i]? = some (some (.l bb xs))) (hs : s[i]? = some (some (.ref p))) (hd : DpAll K F vs' xs') : Rep K z (r.set i (some (.l bb xs'))) s (upd H p (.lst vs')) F := by
  have hrf : bb = true → z.rf i = some p := by
    obtain ⟨v, h1, p', vs, e, _, _, _, _, h6⟩ := R.slots i _ hi
    subst e
    rw [hs] at h1; cases h1; exact h6
  have own : OwnAt r s H p := ⟨i, _, _, hi, rfl, hs, part_self⟩
  obtain ⟨_, hf, h0⟩ := R.own_facts own
  have hil : i < r.length := (List.getElem?_eq_some_iff.mp hi).1
  refine ⟨fun b u q => ?_, fun b u q => ?_, R.f0, R.nw, fun j sv q => ?_, R.ap_upd hi rfl hs fun b q => .inl (part_lst upd_same q), by simpa using R.len⟩
  · have : b ≠ p := fun e => by rw [e, hf] at q; cases q
    rw [upd_ne this]; exact R.fh b u q
  · have : b ≠ p := fun e => by rw [e, h0] at q; cases q
    rw [upd_ne this]; exact R.old b u q
  · rcases get_set_cases q with ⟨rfl, e⟩ | ⟨ne, q⟩
    · cases e
      exact ⟨_, hs, p, vs', rfl, upd_same, hf, h0, hd, hrf⟩
    · obtain ⟨v, q1, q2⟩ := R.slots j sv q
      refine ⟨v, q1, q2.mono (.refl _) (fun a b e hp hown u hu => ?_) fun a b _ _ hf' _ _ _ _ => hf'⟩
      rw [upd_ne (R.other ne hi rfl hs q hown (by rw [q1, e]) hp)]; exact hu
end
section
variable {X : Cx} {a b c e : Expr} {f g : EM} {pos : Pos}
/-! ### own lists changed -/
def appM (i : Nat) (f : EM) : EM := fun r => (ownM i r).bind fun _ => (f r).bind fun p => match p.2[i]? with
  | some (some (.l b xs)) => if szOk xs.length then some (.none, p.2.set i (some (.l b (xs ++ [p.1])))) else none
  | _ => none
theorem se_app (i : Nat) {x : Str} {p apos cpos : Pos} (he : SE X e f) (hN : X.N[i]? = some x := by rfl) (hv : Vis X.env.scope x := by first | exact Or.inl rfl | exact Or.inr (Or.inl rfl) | exact Or.inr (Or.inr rfl)) (hd : (x == ("__debug__" : Str)) = false := by decide)
    (hcd : (x == ("__classdict__" : Str)) = false := by decide) (hb : attributeBase (.Name x p) "append" X.env (eval (.Name x p) X.env) = eval (.Name x p) X.env := by rfl)
    (hk : (((backTo cpos (starEach [e] X.env)).all (fun y => !y.1) && (backToKw cpos (keywordEach [] X.env)).all (fun y => y.1.isSome)) && decide (([e].length + ([] : List Keyword).length + if ([] : List Keyword).isEmpty then 0 else 1) < 30)) = true := by rfl)
    (hl : (apos.endLine == cpos.line) = true := by rfl) (hs : starEach [e] X.env = (false, eval e X.env) :: starEach [] X.env := by rfl) (hpl : (backTo cpos (starEach [] X.env)).any (·.1) = false := by rfl) :
    SE X (.Call (.Attribute (.Name x p) "append" apos) [e] [] cpos) (appM i f) :=
  ⟨pe_imp (pe_bm PySem.F.plainAttrs_list PySem.F.slot_list_append PySem.F.type_list_append mt_append (pe_var hN hv hd hcd) (pa_cons he.pe pa_nil hs) hb hk hl hs hpl) fun s H Q ⟨z, r, F, d, r', R, e, k⟩ => by
    unfold appM at e
    simp only [Option.bind_eq_some_iff] at e
    obtain ⟨⟨p0, r0⟩, e0, ⟨y, r1⟩, e1, e2⟩ := e
    obtain ⟨b0, xs0, f1, _, _⟩ := ownM_some e0
    obtain ⟨v, h1, p, vs, rfl, h2, h3, h4, h5, h6⟩ := R.slots i _ f1
    split at e2
    · rename_i bb xs hxs
      have hxs : r1[i]? = some (some (.l bb xs)) := hxs
      split at e2
      · rename_i hz
        cases e2
        refine ⟨_, h1, .inl ⟨rfl, _, .inl (.inl h2)⟩, z, r, F, y, r1, R, e1, fun w H2 F2 R2 sb2 dy => ?_⟩
        obtain ⟨v', h1', p', vs', rfl, h2', h3', h4', h5', h6'⟩ := R2.slots i _ hxs
        have ea : p' = p := by have := h1.symm.trans h1'; cases this; rfl
        subst ea
        exact ⟨p', vs', w, rfl, rfl, h2', by rw [dpa_len h5']; exact szOk_lt hz, k _ _ _ (R2.setOwn hxs h1' (dpa_app h5' (dpa_one dy))) sb2 .non⟩
      · cases e2
    · cases e2⟩
end
end DL
namespace DL
open PySem L2 PyProof.Rows PySem.Spec
/-! ### defs: a def is a function of data -/
def spF (K : PySem.W.Frag) (n : Nat) (g : List D → Option D) : Sp := fun vs H Q _ => vs.length = n ∧ ∃ F ds d, SubH F H ∧ DpAll K F vs ds ∧ g ds = some d ∧ ∀ v H' F', Grow F H F' H' → Dp K F' v d → Q v H'
/-- one parameter (the j-th) is an own list of the caller's: it may be changed -/
def spR (K : PySem.W.Frag) (n j : Nat) (g : List D → List D → Option (D × List D)) : Sp := fun vs H Q _ => vs.length = n ∧ ∃ F ds a us xs d xs', SubH F H ∧ vs[j]? = some (.ref a) ∧ DpAll K F (vs.eraseIdx j) ds ∧ H a = some (.lst us) ∧ F a = none ∧ DpAll K F us xs ∧ g ds xs = some (d, xs') ∧
  ∀ v H' F' us', (∀ b o, b ≠ a → H b = some o → H' b = some o) → SubH F F' → SubH F' H' → (∀ b o, F' b = some o → F b = some o ∨ H b = none ∨ IsTu o) → H' a = some (.lst us') → DpAll K F' us' xs' → Dp K F' v d → Q v H'
def startD (N : List Str) (ds : List D) : Rho := ds.map (fun d => some (.d d)) ++ List.replicate (N.length - ds.length) none
/-- the slots at the entry, the j-th parameter an own list -/
def startR (N : List Str) (j : Nat) (ds : List D) (xs : List D) : Rho := (ds.take j).map (fun d => some (.d d)) ++ some (.l true xs) :: ((ds.drop j).map (fun d => some (.d d)) ++ List.replicate (N.length - (ds.length + 1)) none)
/-- a def's parameters are among its names -/
theorem names_fit {N ps : List Str} {sc : Scope} (S : FnScope N ps sc) : ps.length ≤ N.length :=
  S.pre ▸ List.length_take_le' ..
section
variable {P : Program} {w : World} {K : PySem.W.Frag} {mg : Str → Option Value} {base : Heap}
theorem startD_get {N : List Str} {ds : List D} {i : Nat} {sv : SV} (h : (startD N ds)[i]? = some (some sv)) : ∃ d, ds[i]? = some d ∧ sv = .d d := by
  unfold startD at h
  by_cases hi : i < ds.length
  · rw [List.getElem?_append_left (by simpa using hi), List.getElem?_map] at h
    cases e : ds[i]? with
    | none => rw [e] at h; cases h
    | some d => rw [e] at h; cases h; exact ⟨d, rfl, rfl⟩
  · rw [List.getElem?_append_right (by simpa using hi), List.getElem?_replicate] at h
    split at h <;> cases h
theorem rep_start {N : List Str} {F H : Hp} {vs : List V} {ds : List D} (sb : SubH F H) (h : DpAll K F vs ds) (hn : vs.length ≤ N.length) : Rep K ⟨H, F, fun _ => none⟩ (startD N ds) (L2.start N vs) H F := by
  have hl := dpa_len h
  refine ⟨sb, .refl _, .refl _, fun _ _ q => .inl q, fun i sv e => ?_, fun i j b ⟨x, a, e1, o1, _⟩ _ => ?_, ?_⟩
  · obtain ⟨d, h1, rfl⟩ := startD_get e
    obtain ⟨v, h2, h3⟩ := dpa_get h h1
    refine ⟨v, ?_, h3⟩
    unfold L2.start
    have hi : i < vs.length := (List.getElem?_eq_some_iff.mp h2).1
    rw [List.getElem?_append_left (by simpa using hi), List.getElem?_map, h2]
    rfl
  · obtain ⟨d, _, rfl⟩ := startD_get e1
    cases o1
  · unfold startD L2.start
    simp only [List.length_append, List.length_map, List.length_replicate]
    omega
theorem fn_ok {x qual : Str} {st : Stmt} {f : Addr} {fd : FuncData} {N ps : List Str} {k : Nat} (F : Fun K x qual st f fd) (S : FnScope N ps (defScope st)) (g : List D → Option D) (body : SM)
    (hb : ∀ (cdv : Value) (A : Around) (outer : List Env) (s : Shared) (H : Hp) (E : XK), Room k (A.deeper (envOfC qual (defScope st) s.heap.objs.size f cdv)) →
      SSs (cxOf CX0 P w K mg base N qual (defScope st) f cdv A outer s H E).nox (fun _ _ => False) (defBody st) body)
    (hv : ∀ ds d, g ds = some d → (∃ r', body (startD N ds) = some (.rt d r')) ∨ (d = .none ∧ ∃ r', body (startD N ds) = some (.nx r'))) : FnOk P w K mg base CX0 (k + 1) f fd ps (spF K ps.length g) := by
  refine F.ok S (fun vs H Q E h => h.1) fun cdv A outer s H vs Q E hr h => ?_
  obtain ⟨hlen, F0, ds, d, sb, dv, e, q⟩ := h
  refine ⟨_, (hb cdv A outer s H E hr).ps, ?_⟩
  have hpl : ps.length ≤ N.length := names_fit S
  have R := rep_start (N := N) sb dv (by omega)
  have fin : ∀ {r' : Rho} {v : V} {s' : L2.St} {H' F' : Hp}, Rep K ⟨H, F0, fun _ => none⟩ r' s' H' F' → Dp K F' v d → Q v H' := fun R' dd => q _ _ _ ⟨R'.f0, R'.old, R'.fh, R'.nw⟩ dd
  rcases hv ds d e with ⟨r', e2⟩ | ⟨rfl, r', e2⟩
  · exact ⟨⟨H, F0, fun _ => none⟩, _, F0, _, R, e2, fun v s' H' F' R' _ dd => fin R' dd⟩
  · exact ⟨⟨H, F0, fun _ => none⟩, _, F0, _, R, e2, fun s' H' F' R' _ => fin R' .non⟩
theorem startR_get {N : List Str} {ds xs : List D} {i j : Nat} {sv : SV} (hj : j ≤ ds.length) (h : (startR N j ds xs)[i]? = some (some sv)) : (i = j ∧ sv = .l true xs) ∨ (i < j ∧ ∃ d, ds[i]? = some d ∧ sv = .d d) ∨ (j < i ∧ ∃ d, ds[i - 1]? = some d ∧ sv = .d d) := by
  unfold startR at h
  have ht : ((ds.take j).map fun d => some (SV.d d)).length = j := by rw [List.length_map, List.length_take]; omega
  by_cases h1 : i < j
  · rw [List.getElem?_append_left (by omega), List.getElem?_map, List.getElem?_take_of_lt h1] at h
    cases e : ds[i]? with
    | none => rw [e] at h; cases h
    | some d => rw [e] at h; cases h; exact .inr (.inl ⟨h1, d, rfl, rfl⟩)
  · rw [List.getElem?_append_right (by omega), ht] at h
    by_cases h2 : i = j
    · subst h2
      simp at h
      exact .inl ⟨rfl, h.symm⟩
    · have h3 : i - j = (i - j - 1) + 1 := by omega
      rw [h3, List.getElem?_cons_succ] at h
      by_cases h4 : i - j - 1 < (ds.drop j).length
      · rw [List.getElem?_append_left (by simpa using h4), List.getElem?_map, List.getElem?_drop] at h
        have h5 : j + (i - j - 1) = i - 1 := by omega
        rw [h5] at h
        cases e : ds[i - 1]? with
        | none => rw [e] at h; cases h
        | some d => rw [e] at h; cases h; exact .inr (.inr ⟨by omega, d, rfl, rfl⟩)
      · rw [List.getElem?_append_right (by simpa using h4), List.getElem?_replicate] at h
        split at h <;> cases h
noncomputable def less (H : Hp) (a : Addr) : Hp := fun b => if b = a then none else H b
theorem less_same {H : Hp} {a : Addr} : less H a a = none := by unfold less; rw [if_pos rfl]
theorem less_ne {H : Hp} {a b : Addr} (h : b ≠ a) : less H a b = H b := by unfold less; rw [if_neg h]
theorem rep_startR {N : List Str} {F H : Hp} {vs us : List V} {ds xs : List D} {j : Nat} {a : Addr} (sb : SubH F H) (hj : vs[j]? = some (.ref a)) (h : DpAll K F (vs.eraseIdx j) ds) (hn : vs.length ≤ N.length) (ha : H a = some (.lst us)) (hf : F a = none) (hx : DpAll K F us xs) :
    Rep K ⟨less H a, F, fun _ => some a⟩ (startR N j ds xs) (L2.start N vs) H F := by
  have hl := dpa_len h
  have hjl : j < vs.length := (List.getElem?_eq_some_iff.mp hj).1
  rw [List.length_eraseIdx_of_lt hjl] at hl
  have hjd : j ≤ ds.length := by omega
  have sg : ∀ {i : Nat} {v : V}, vs[i]? = some v → (L2.start N vs)[i]? = some (some v) := fun {i v} e => by
    unfold L2.start
    have hi : i < vs.length := (List.getElem?_eq_some_iff.mp e).1
    rw [List.getElem?_append_left (by simpa using hi), List.getElem?_map, e]
    rfl
  refine ⟨sb, fun b o q => ?_, .refl _, fun b o q => .inl q, fun i sv e => ?_, fun i k b ⟨x, _, e1, o1, _⟩ ⟨y, _, e2, o2, _⟩ => ?_, ?_⟩
  · by_cases e : b = a
    · subst e
      have q : less H b b = some o := q
      rw [less_same] at q; cases q
    · have q : less H a b = some o := q
      rw [less_ne e] at q; exact q
  · rcases startR_get hjd e with ⟨rfl, rfl⟩ | ⟨h1, d, h2, rfl⟩ | ⟨h1, d, h2, rfl⟩
    · exact ⟨_, sg hj, a, us, rfl, ha, hf, less_same, hx, fun _ => rfl⟩
    · obtain ⟨v, h3, h4⟩ := dpa_get h h2
      rw [List.getElem?_eraseIdx_of_lt h1] at h3
      exact ⟨v, sg h3, h4⟩
    · obtain ⟨v, h3, h4⟩ := dpa_get h h2
      rw [List.getElem?_eraseIdx_of_ge (by omega)] at h3
      have : i - 1 + 1 = i := by omega
      rw [this] at h3
      exact ⟨v, sg h3, h4⟩
  · have ow : ∀ {i : Nat} {x : SV}, (startR N j ds xs)[i]? = some (some x) → x.own = true → i = j := fun {i x} e o => by
      rcases startR_get hjd e with ⟨rfl, rfl⟩ | ⟨h1, d, h2, rfl⟩ | ⟨h1, d, h2, rfl⟩
      · rfl
      · cases o
      · cases o
    rw [ow e1 o1, ow e2 o2]
  · unfold startR L2.start
    simp only [List.length_append, List.length_map, List.length_replicate, List.length_cons, List.length_take, List.length_drop]
    omega
/-- the own list's content at the end -/
def endR (j : Nat) (r : Rho) : Option (List D) := match r[j]? with
  | some (some (.l true xs)) => some xs
  | _ => none
theorem fn_okR {x qual : Str} {st : Stmt} {f : Addr} {fd : FuncData} {N ps : List Str} {k : Nat} (j : Nat) (F : Fun K x qual st f fd) (S : FnScope N ps (defScope st)) (g : List D → List D → Option (D × List D)) (body : SM)
    (hb : ∀ (cdv : Value) (A : Around) (outer : List Env) (s : Shared) (H : Hp) (E : XK), Room k (A.deeper (envOfC qual (defScope st) s.heap.objs.size f cdv)) →
      SSs (cxOf CX0 P w K mg base N qual (defScope st) f cdv A outer s H E).nox (fun _ _ => False) (defBody st) body)
    (hv : ∀ ds xs d xs', g ds xs = some (d, xs') → ∃ r', (body (startR N j ds xs) = some (.rt d r') ∨ (d = .none ∧ body (startR N j ds xs) = some (.nx r'))) ∧ endR j r' = some xs') : FnOk P w K mg base CX0 (k + 1) f fd ps (spR K ps.length j g) := by
  refine F.ok S (fun vs H Q E h => h.1) fun cdv A outer s H vs Q E hr h => ?_
  obtain ⟨hlen, F0, ds, a, us, xs, d, xs', sb, hj, dv, ha, hf, hx, e, q⟩ := h
  refine ⟨_, (hb cdv A outer s H E hr).ps, ?_⟩
  have hpl : ps.length ≤ N.length := names_fit S
  have R := rep_startR (N := N) sb hj dv (by omega) ha hf hx
  obtain ⟨r', e2, e3⟩ := hv ds xs d xs' e
  have fin : ∀ {v : V} {s' : L2.St} {H' F' : Hp}, Rep K ⟨less H a, F0, fun _ => some a⟩ r' s' H' F' → Dp K F' v d → Q v H' := fun {v s' H' F'} R' dd => by
    unfold endR at e3
    split at e3
    · rename_i ys hy
      cases e3
      obtain ⟨v', h1, a', us', rfl, h2, h3, h4, h5, h6⟩ := R'.slots j _ hy
      have ea : a' = a := by have := h6 rfl; cases this; rfl
      subst ea
      refine q v H' F' us' (fun b o hb ho => R'.old b o ?_) R'.f0 R'.fh (fun b o hb => ?_) h2 h5 dd
      · show less H a' b = some o
        rw [less_ne hb]; exact ho
      · rcases R'.nw b o hb with h | h | h
        · exact .inl h
        · by_cases hba : b = a'
          · subst hba
            rw [h3] at hb; cases hb
          · have h : less H a' b = none := h
            rw [less_ne hba] at h; exact .inr (.inl h)
        · exact .inr (.inr h)
    · cases e3
  rcases e2 with e2 | ⟨rfl, e2⟩
  · exact ⟨_, _, F0, _, R, e2, fun v s' H' F' R' _ dd => fin R' dd⟩
  · exact ⟨_, _, F0, _, R, e2, fun s' H' F' R' _ => fin R' .non⟩
end
section
variable {X : Cx} {a b c e : Expr} {es : List Expr} {f : EM} {pos : Pos}
/-! ### calls -/
def callM (g : List D → Option D) (f : AM) : EM := fun r => (f r).bind fun p => (g p.1).map fun d => (d, p.2)
theorem se_call {k : Nat} {fa : Addr} {fd : FuncData} {ps : List Str} {g : List D → Option D} {x : Str} {p : Pos} {fs : AM} (G : FnOk X.prog X.w X.K X.mg X.base CX0 k fa fd ps (spF X.K ps.length g)) (hr : Room k X.A) (hg : Gl X x) (hm : X.mg x = some (.ref fa)) (hk : PySem.W.keepIn X.K (.ref fa) = true) (hb : Binds X.K fd ps [])
    (ha : SA X (e :: es) fs) (hps : ps.length = (e :: es).length) (hdb : (x == ("__debug__" : Str)) = false := by decide) (he : starEach (e :: es) X.env = (false, eval e X.env) :: starEach es X.env := by rfl) (hpl : (backTo pos (starEach es X.env)).any (·.1) = false := by rfl) :
    SE X (.Call (.Name x p) (e :: es) [] pos) (callM g fs) := ⟨pe_imp (pe_call G hr hg hm hk hb .nil pass0 ha.pa hdb he hpl) fun s H Q ⟨z, r, F, d, r', R, e, k⟩ => by
  unfold callM at e
  simp only [Option.bind_eq_some_iff, Option.map_eq_some_iff] at e
  obtain ⟨⟨ds, r1⟩, e1, d', e2, e3⟩ := e
  cases e3
  refine ⟨z, r, F, ds, _, R, e1, fun vs H1 F1 R1 sb dv => ?_⟩
  show spF X.K ps.length g (vs ++ []) H1 Q E0
  rw [List.append_nil]
  exact ⟨by rw [dpa_len dv, hps]; exact ha.len _ _ _ e1, F1, ds, d, R1.fh, dv, e2, fun v H' F' G dd => k v H' F' (R1.grow G) (sb.trans G.ff) dd⟩⟩
/-- arguments, the j-th the own list in slot i -/
def liftAr (K : PySem.W.Frag) (f : AM) (i j : Nat) : TA := fun s H Q => ∃ z r F ds r', Rep K z r s H F ∧ f r = some (ds, r') ∧
  ∀ vs H' F', Rep K z r' s H' F' → SubH F F' → (∃ a, s[i]? = some (some (V.ref a)) ∧ vs[j]? = some (V.ref a)) → DpAll K F' (vs.eraseIdx j) ds → Q vs H'
structure SAr (X : Cx) (es : List Expr) (f : AM) (i j : Nat) : Prop where
  pa : PA X es (liftAr X.K f i j)
  len : ∀ r ds r', f r = some (ds, r') → ds.length + 1 = es.length
  lt : j < es.length
def hereM (i : Nat) (f : AM) : AM := fun r => (ownM i r).bind fun _ => f r
theorem sar_here (i : Nat) {x : Str} {p : Pos} {f : AM} (hr : SA X es f) (hN : X.N[i]? = some x := by rfl) (hv : Vis X.env.scope x := by first | exact Or.inl rfl | exact Or.inr (Or.inl rfl) | exact Or.inr (Or.inr rfl)) (hd : (x == ("__debug__" : Str)) = false := by decide)
    (hcd : (x == ("__classdict__" : Str)) = false := by decide) (hs : starEach (.Name x p :: es) X.env = (false, eval (.Name x p) X.env) :: starEach es X.env := by rfl) : SAr X (.Name x p :: es) (hereM i f) i 0 :=
  ⟨pa_imp (pa_cons (pe_var hN hv hd hcd) hr.pa hs) fun s H Q ⟨z, r, F, d, r', R, e, k⟩ => by
    unfold hereM at e
    simp only [Option.bind_eq_some_iff] at e
    obtain ⟨⟨p0, r0⟩, e0, e1⟩ := e
    obtain ⟨bb, xs, f1, _, _⟩ := ownM_some e0
    obtain ⟨v, h1, a, vs, rfl, h2, h3, h4, h5, h6⟩ := R.slots i _ f1
    exact ⟨_, h1, z, r, F, d, r', R, e1, fun vs H' F' R' sb dv => k _ H' F' R' sb ⟨a, h1, rfl⟩ dv⟩, fun r ds r' e => by
    unfold hereM at e
    simp only [Option.bind_eq_some_iff] at e
    obtain ⟨_, _, e1⟩ := e
    rw [hr.len _ _ _ e1]; rfl, by simp⟩
theorem sar_there {i j : Nat} {g : AM} (ha : SE X e f) (hr : SAr X es g i j) (hs : starEach (e :: es) X.env = (false, eval e X.env) :: starEach es X.env := by rfl) : SAr X (e :: es) (consM f g) i (j + 1) :=
  ⟨pa_imp (pa_cons ha.pe hr.pa hs) fun s H Q ⟨z, r, F, d, r', R, e, k⟩ => by
    obtain ⟨x, r1, xs, e1, e2, rfl⟩ := consM_some e
    exact ⟨z, r, F, x, r1, R, e1, fun v H1 F1 R1 sb1 dv => ⟨z, r1, F1, xs, r', R1, e2, fun vs H2 F2 R2 sb2 ⟨a, q1, q2⟩ dvs => k (v :: vs) H2 F2 R2 (sb1.trans sb2) ⟨a, q1, by simpa using q2⟩ (.cons (dp_mono sb2 dv) dvs)⟩⟩, fun r ds r' e => by
    obtain ⟨x, r1, xs, e1, e2, rfl⟩ := consM_some e
    have := hr.len _ _ _ e2
    simp only [List.length_cons]; omega, by have := hr.lt; simp only [List.length_cons]; omega⟩
def callRM (i : Nat) (g : List D → List D → Option (D × List D)) (f : AM) : EM := fun r => (f r).bind fun p => match p.2[i]? with
  | some (some (.l b xs)) => (g p.1 xs).map fun q => (q.1, p.2.set i (some (.l b q.2)))
  | _ => none
theorem se_callR {k : Nat} {fa : Addr} {fd : FuncData} {ps : List Str} {i j : Nat} {g : List D → List D → Option (D × List D)} {x : Str} {p : Pos} {fs : AM} (G : FnOk X.prog X.w X.K X.mg X.base CX0 k fa fd ps (spR X.K ps.length j g)) (hr : Room k X.A) (hg : Gl X x) (hm : X.mg x = some (.ref fa)) (hk : PySem.W.keepIn X.K (.ref fa) = true) (hb : Binds X.K fd ps [])
    (ha : SAr X (e :: es) fs i j) (hps : ps.length = (e :: es).length) (hdb : (x == ("__debug__" : Str)) = false := by decide) (he : starEach (e :: es) X.env = (false, eval e X.env) :: starEach es X.env := by rfl) (hpl : (backTo pos (starEach es X.env)).any (·.1) = false := by rfl) :
    SE X (.Call (.Name x p) (e :: es) [] pos) (callRM i g fs) := ⟨pe_imp (pe_call G hr hg hm hk hb .nil pass0 ha.pa hdb he hpl) fun s H Q ⟨z, r, F, d, r', R, e, k⟩ => by
  unfold callRM at e
  simp only [Option.bind_eq_some_iff] at e
  obtain ⟨⟨ds, r1⟩, e1, e2⟩ := e
  split at e2
  · rename_i bb xs hxs
    have hxs : r1[i]? = some (some (.l bb xs)) := hxs
    simp only [Option.map_eq_some_iff] at e2
    obtain ⟨⟨d', xs'⟩, e3, e4⟩ := e2
    cases e4
    refine ⟨z, r, F, ds, _, R, e1, fun vs H1 F1 R1 sb ⟨a, q1, q2⟩ dv => ?_⟩
    show spR X.K ps.length j g (vs ++ []) H1 Q E0
    rw [List.append_nil]
    obtain ⟨v', h1', a', us, rfl, h2', h3', h4', h5', h6'⟩ := R1.slots i _ hxs
    have ea : a' = a := by have := q1.symm.trans h1'; cases this; rfl
    subst ea
    have hl := dpa_len dv
    have hlen := ha.len _ _ _ e1
    have hjl : j < vs.length := (List.getElem?_eq_some_iff.mp q2).1
    rw [List.length_eraseIdx_of_lt hjl] at hl
    refine ⟨by rw [hps]; omega, F1, ds, a', us, xs, d', xs', R1.fh, q2, dv, h2', h3', h5', e3, fun v H' F' us' keep ff fh nw ha' dus dd => k v H' F' ?_ (sb.trans ff) dd⟩
    refine ⟨fh, fun b o q => ?_, R1.f0.trans ff, fun b o q => ?_, fun m sv q => ?_, R1.ap_keep hxs rfl h1' (fun a _ _ ne o ho => keep a o ne ho) (fun b q => .inl (.inl (part_lst ha' q))), by simpa using R1.len⟩
    · refine keep b o (fun e => ?_) (R1.old b o q)
      rw [e, h4'] at q; cases q
    · rcases nw b o q with h | h | h
      · exact R1.nw b o h
      · exact .inr (.inl (R1.old.none h))
      · exact .inr (.inr h)
    · rcases get_set_cases q with ⟨rfl, e⟩ | ⟨ne, q⟩
      · cases e
        refine ⟨_, h1', a', us', rfl, ha', ?_, h4', dus, h6'⟩
        cases qq : F' a' with
        | none => rfl
        | some o =>
          rcases nw a' o qq with h | h | ⟨ob, ws, rfl⟩
          · rw [h3'] at h; cases h
          · rw [h2'] at h; cases h
          · have q2 := fh a' _ qq
            rw [ha'] at q2; exact (tupHO_lst q2).elim
      · obtain ⟨v2, q1', q2'⟩ := R1.slots m sv q
        refine ⟨v2, q1', q2'.mono ff (fun a3 a2 e hp hown u hu => ?_) fun a3 a2 o ho hf _ hown e hp => ?_⟩
        · exact keep a2 u (R1.other ne hxs rfl h1' q hown (by rw [q1', e]) hp) hu
        · cases qq : F' a2 with
          | none => rfl
          | some o2 =>
            rcases nw a2 o2 qq with h | h | ⟨ob, ws, rfl⟩
            · rw [hf] at h; cases h
            · rw [ho] at h; cases h
            · have q2 := fh a2 _ qq
              rw [keep a2 o (R1.other ne hxs rfl h1' q hown (by rw [q1', e]) hp) ho] at q2; cases q2
              exact absurd ⟨_, _, ho⟩ (q2'.noTup hown e hp)
  · cases e2⟩
end
end DL
namespace DL
open PySem L2 PyProof.Rows PySem.Spec PySem.W
/-! ### sorted -/
def tupCons : D → Bool
  | .tuple (_ :: _) => true
  | _ => false
def nonTup : D → Bool
  | .none => false
  | .tuple _ => false
  | _ => true
def sortOk (ds : List D) : Bool := (ds.all fun d => ds.all fun e => alike d e) && (ds.all tupCons || ds.all nonTup) && szOk ds.length && ds.all fun d => decide (d.depth ≤ 60)
def sortL (ds : List D) : List D := ds.mergeSort (dataLe false id)
theorem sortOk_facts {ds : List D} (h : sortOk ds = true) : AllAlike (ds.map id) ∧ Sortable (ds.map id) ∧ ds.length ≤ sizeLine ∧ ∀ d ∈ ds, d.depth ≤ 60 := by
  unfold sortOk at h
  simp only [Bool.and_eq_true, List.all_eq_true, Bool.or_eq_true, decide_eq_true_eq] at h
  obtain ⟨⟨⟨h1, h2⟩, h3⟩, h4⟩ := h
  rw [List.map_id]
  refine ⟨fun d hd e he => h1 d hd e he, ?_, szOk_le h3, h4⟩
  rcases h2 with h2 | h2
  · left
    intro d hd
    have := h2 d hd
    unfold tupCons at this
    split at this
    · exact ⟨_, _, rfl⟩
    · cases this
  · right
    intro d hd
    have := h2 d hd
    unfold nonTup at this
    split at this
    · cases this
    · cases this
    · rename_i n1 n2
      exact ⟨fun e => n1 e, fun xs e => n2 xs e⟩
section
variable {X : Cx}
theorem each_of {K : PySem.W.Frag} {F : Hp} : ∀ {vs : List V} {us : List Value} {ds : List D}, Vals vs us → DpAll K F vs ds → EachIs (fun u d => ∃ x, RelV x u ∧ Dp K F x d) us ds
  | _, _, _, .nil, .nil => .nil
  | _, _, _, .cons r rs, .cons d ds => .cons ⟨_, r, d⟩ (each_of rs ds)
theorem of_each {K : PySem.W.Frag} {F : Hp} : ∀ {us : List Value} {ds : List D}, EachIs (fun u d => ∃ x, RelV x u ∧ Dp K F x d) us ds → ∃ vs, Vals vs us ∧ DpAll K F vs ds
  | _, _, .nil => ⟨[], .nil, .nil⟩
  | _, _, .cons ⟨x, r, d⟩ t => by
    obtain ⟨vs, h1, h2⟩ := of_each t
    exact ⟨x :: vs, .cons r h1, .cons d h2⟩
theorem each_reads {pins : List (Addr × Obj)} {σ : L2.St} {H F : Hp} {s : Shared} (I : L2.Inv X pins σ H s) (sb : SubH F H) : ∀ {vs : List V} {us : List Value} {ds : List D}, Vals vs us → DpAll X.K F vs ds → EachIs (fun v b => ∃ as, Reads s.heap v b as) us ds
  | _, _, _, .nil, .nil => .nil
  | _, _, _, .cons r1 rs, .cons d1 d2 => .cons (L2.Dp.reads I _ _ _ (dp_old (dp_mono sb d1)) r1) (each_reads I sb rs d2)
def sortD : D → Option D
  | .list ds => if sortOk ds then some (.list (sortL ds)) else none
  | _ => none
theorem cr_sortD (hu : X.A.units + 100 < cLine) : CallR X (.builtin "sorted") (liftC1 X.K sortD) := by
  intro pins s σ H vs us Q I r h
  obtain ⟨F, x, d, o, rfl, sb, dx, eo, k⟩ := h
  unfold sortD at eo
  split at eo
  · split at eo
    · rename_i ds ok
      cases eo
      obtain ⟨a, vs, rfl, h1, h2⟩ := dv_lst sb dx
      obtain ⟨u, rfl, ru⟩ := vals1 r
      obtain rfl : u = Value.ref a := ru
      obtain ⟨its, rv, hl, hz⟩ := I.list h1
      obtain ⟨hal, hso, hL, hdp⟩ := sortOk_facts ok
      refine sorted_data (enc := id) (R := fun u d => ∃ x, RelV x u ∧ Dp X.K F x d) hl.isList (each_of rv h2) (each_reads I sb rv h2) hal hso hL (fun b hb => ?_) fun out hol he => ?_
      · have := hdp b hb
        simp only [id]
        omega
      · obtain ⟨ws, r1, d1⟩ := of_each he
        have hwl : ws.length = ds.length := by
          have q1 := r1.length
          omega
        obtain ⟨n, e2⟩ := sortedAll_at s.heap its (List.toArray out)
        have hfr : H (s.heap.objs.size + 1) = none := I.hok.fresh (Nat.le_succ _)
        obtain ⟨G, q⟩ := new_lst sb hfr d1
        refine ⟨.ref (s.heap.objs.size + 1), upd H (s.heap.objs.size + 1) (.lst ws), ?_, rfl, k _ _ _ G q⟩
        refine I.laid (t' := s.toks) (fun b ob e => sortedAll_old e) (Nat.le_succ _) ⟨by rw [hwl]; exact hL, out, n, r1, ?_⟩
        exact e2
    · cases eo
  · cases eo
end
end DL
namespace DL
open PySem L2 PyProof.Rows PySem.Spec PySem.W
/-! ### own dicts -/
section
variable {K : PySem.W.Frag} {z : Fx} {r : Rho} {s : L2.St} {H F : Hp}
theorem paired_len {α β : Type} {R : α → β → Prop} : ∀ {as : List α} {bs : List β}, Paired R as bs → as.length = bs.length
  | _, _, .nil => rfl
  | _, _, .cons _ t => by simp [paired_len t]
end
mutual
theorem reads_lt {h : Heap} : ∀ (d : PyData) (v : Value) (as : List Addr), alike d d = true → Reads h v d as → ∀ a ∈ as, a < h.objs.size
  | .none, _, _, _, .none, a, hm => nomatch hm
  | .bool _, _, _, _, .bool _, a, hm => nomatch hm
  | .int _, _, _, _, .int _ _, a, hm => nomatch hm
  | .str _, _, _, _, .str _ _, a, hm => nomatch hm
  | .list xs, _, _, al, .list h1 _ _ h4, a, hm => by
    rcases List.mem_cons.mp hm with e | hm
    · subst e; exact Heap.lt_size h1
    · exact reads_ltAll xs _ _ (by simpa [alike] using al) h4 a hm
  | .tuple xs, _, _, al, .tuple h1 _ _ h4, a, hm => reads_ltAll xs _ _ (by simpa [alike] using al) h4 a hm
  | .dict kvs, _, _, al, _, a, hm => by simp [alike] at al
theorem reads_ltAll {h : Heap} : ∀ (ds : List PyData) (vs : List Value) (as : List Addr), alikeAll ds ds = true → ReadsAll h vs ds as → ∀ a ∈ as, a < h.objs.size
  | [], _, _, _, .nil, a, hm => nomatch hm
  | d :: ds, _, _, al, .cons h1 h2, a, hm => by
    obtain ⟨a1, a2⟩ := alike_all_cons al
    rcases List.mem_append.mp hm with hm | hm
    · exact reads_lt d _ _ a1 h1 a hm
    · exact reads_ltAll ds _ _ a2 h2 a hm
end
section
variable {X : Cx}
/-- sorted of what may be collected -/
theorem sorted_from {pins : List (Addr × Obj)} {s : Shared} {σ : L2.St} {H F : Hp} {v : Value} {ds : List D} {Q : VK} (hu : X.A.units + 100 < cLine) (I : L2.Inv X pins σ H s) (ok : sortOk ds = true)
    (col : ∀ {R : List Value → Shared → Prop}, (∀ (h1 : Heap) (tk : Nat) (us : List Value) (vs : List V) (F1 : Hp), (∀ b o, s.heap.get? b = some o → h1.get? b = some o) → Vals vs us → Grow F H F1 H → DpAll X.K F1 vs ds → R us { s with heap := h1, toks := tk }) → wpAny (model X.prog X.w) X.A.in1 (collect v) R X.xe s)
    (give : ∀ w H' F', Grow F H F' H' → Dp X.K F' w (.list (sortL ds)) → Q w H') : wpAny (model X.prog X.w) X.A (call (.builtin "sorted") [v]) (EP X pins σ Q) X.xe s := by
  obtain ⟨alikes, sortable, short, flat⟩ := sortOk_facts ok
  apply Calls.call_function_entry PyProof.Rows.kind_sorted PyProof.Rows.plain_sorted PyProof.Rows.entry_sorted (PyProof.Rows.args_sorted1 _)
  delta Builtin.«sorted»
  apply wpAny_bind; apply wpAny_pure
  apply wpAny_bind
  refine col fun h1 tk us vs F1 keeps vals grown data => ?_
  have I1 : L2.Inv X pins σ H { s with heap := h1, toks := tk } := I.kept keeps
  have len : us.length ≤ sizeLine := by rw [← vals.length, dpa_len data]; exact short
  apply wpAny_bind
  refine wpAny_newList ?_ len
  have stands := Heap.get?_push_size h1 (o := seqObj "list" us.toArray 0) rfl
  have reads : EachIs (fun v b => ∃ as, Reads (h1.push (seqObj "list" us.toArray 0)) v (id b) as ∧ h1.objs.size ∉ as) us ds := by
    refine (each_mem (each_reads I1 grown.fh vals data)).mono ?_
    rintro v b ⟨⟨as, r⟩, mb⟩
    refine ⟨as, PyProof.Rows.Reads.keeps (fun _ _ old => Heap.get?_push_of_some _ old) r, fun inn => ?_⟩
    have mb' : b ∈ ds.map id := by rwa [List.map_id]
    exact Nat.lt_irrefl _ (reads_lt _ _ _ (alikes b mb' b mb') r _ inn)
  apply wpAny_bind; apply wpAny_holding
  refine list_sort_data (A := X.A.in1) (s := { s with heap := h1.push (seqObj "list" us.toArray 0), toks := tk }) (enc := id) (R := fun u d => ∃ x, RelV x u ∧ Dp X.K F1 x d) stands (each_of vals data) reads alikes sortable short (fun b mb => ?_) fun out outLen outIs => ?_
  · have := flat b mb
    show X.A.units + 1 + 1 + _ < _
    simp only [id]
    omega
  · obtain ⟨ws, wv, wd⟩ := of_each outIs
    obtain ⟨n, sortedAt⟩ := PyProof.Rows.sortedHeap_at (vs := us) (out := out.toArray) stands
    have new : H h1.objs.size = none := I1.hok.fresh (Nat.le_refl _)
    obtain ⟨laid, dp⟩ := new_lst grown.fh new wd
    have wlen : ws.length ≤ sizeLine := by
      have e1 := wv.length
      omega
    apply wpAny_pure
    refine ⟨_, rfl, .ref h1.objs.size, upd H h1.objs.size (.lst ws), I1.laid (t' := tk) (fun b o old => ?_) (Nat.le_refl _) ⟨wlen, out, n, wv, sortedAt⟩, rfl, give _ _ _ (grown.trans laid) dp⟩
    have older : b < h1.objs.size := Heap.lt_size old
    rw [PyProof.Rows.sortedHeap_old (Nat.ne_of_lt older) (by rw [size_push']; exact Nat.lt_succ_of_lt older)]
    exact Heap.get?_push_of_some _ old
/-- sorted(t), t a tuple -/
theorem call_sortedU (hu : X.A.units + 100 < cLine) : CallR X (.builtin "sorted") (fun xs H Q => ∃ (p : Addr) (vs : List V) (ds : List D) (F : Hp), xs = [V.ref p] ∧ SubH F H ∧ SqT X.K H p vs ∧ DpAll X.K F vs ds ∧ sortOk ds = true ∧
    ∀ v H' F', Grow F H F' H' → Dp X.K F' v (.list (sortL ds)) → Q v H') := by
  rintro pins s σ H xs us Q I rel ⟨p, vs, ds, F, rfl, sb, tup, data, ok, give⟩
  obtain ⟨u, rfl, ru⟩ := vals1 rel
  cases ru
  obtain ⟨its, vals, ⟨ob, stands, isT, n, isS⟩, fits⟩ := I.tuple tup
  refine sorted_from hu I ok (fun {R} go => ?_) give
  exact wpAny_collect_seq p (.inr rfl) stands isT isS (fun h1 keeps => go h1 s.toks _ _ F keeps vals (.refl sb) data) (by rw [List.size_toArray, ← vals.length]; exact fits)
/-- sorted of a list or a tuple -/
def sortD2 : D → Option D
  | .list ds => if sortOk ds then some (.list (sortL ds)) else none
  | .tuple ds => if sortOk ds then some (.list (sortL ds)) else none
  | _ => none
theorem cr_sortD2 (hu : X.A.units + 100 < cLine) : CallR X (.builtin "sorted") (liftC1 X.K sortD2) := by
  rintro pins s σ H xs us Q I rel ⟨F, x, d, o, rfl, sb, dx, eo, k⟩
  cases d with
  | list ds => exact cr_sortD hu pins s σ H _ us Q I rel ⟨F, x, .list ds, o, rfl, sb, dx, eo, k⟩
  | tuple ds =>
    unfold sortD2 at eo
    dsimp only at eo
    split at eo
    · rename_i ok
      cases eo
      obtain ⟨p, vs, rfl, tup, each⟩ := dv_tup dx
      exact call_sortedU hu pins s σ H _ us Q I rel ⟨p, vs, ds, F, rfl, sb, sb.sqt (sqt_of tup), each, ok, k⟩
    · cases eo
  | _ => cases eo
end
end DL
namespace DL
open PySem L2 PyProof.Rows PySem.Spec PySem.W
/-! ### t[::-1] -/
section
variable {prog : Program} {w : World} {A : Around} {E : Value → Shared → Prop} {s : Shared}
theorem sliceApplied_rev {sl : Addr} {vl vu vs : Value} {n : Nat} {Q : Int × Int × Nat → Shared → Prop} (hs : s.heap.IsSliceOf sl vl vu vs) (pl : IsPart vl none) (pu : IsPart vu none) (ps : IsPart vs (some (-1)))
    (h : Q ((n : Int) - 1, -1, n) s) : wpAny (model prog w) A (Builtin.Slice.sliceApplied (.ref sl) (pure (n : Int))) Q E s := by
  rcases hs with ⟨obj, stands, -, parts⟩
  have ends : Builtin.Slice.sliceAdjust none none (-1) (n : Int) = ((n : Int) - 1, -1) := by simp [Builtin.Slice.sliceAdjust]
  have many : Builtin.Slice.slicePlaces ((n : Int) - 1) (-1) (-1) = n := by
    simp [Builtin.Slice.slicePlaces]
    omega
  delta Builtin.Slice.sliceApplied Builtin.Slice.sliceFields
  wp_walk using wpAny_field (i := 0) (x := vl) stands parts rfl, wpAny_field (i := 1) (x := vu) stands parts rfl, wpAny_field (i := 2) (x := vs) stands parts rfl, HT.slicePart_ pl, HT.slicePart_ pu, HT.slicePart_ ps
  simp only [Option.getD_some, ends, many]
  wp_walk
  exact h
theorem pick_rev (xs : Array Value) : ((List.range xs.size).filterMap fun (m : Nat) => xs[(((xs.size : Int) - 1) + (m : Int) * (-1)).toNat]?).toArray = xs.toList.reverse.toArray := by
  congr 1
  have e : ∀ m ∈ List.range xs.size, xs[(((xs.size : Int) - 1) + (m : Int) * (-1)).toNat]? = some (xs.toList.reverse.getD m .none) := by
    intro m hm
    have hm := List.mem_range.mp hm
    have : (((xs.size : Int) - 1) + (m : Int) * (-1)).toNat = xs.size - 1 - m := by omega
    rw [this]
    have h2 : xs.size - 1 - m < xs.size := by omega
    rw [Array.getElem?_eq_getElem h2, List.getD_eq_getElem?_getD, List.getElem?_reverse (by simpa using hm)]
    simp [h2]
  have : ∀ (l : List Nat) (f : Nat → Option Value) (g : Nat → Value), (∀ m ∈ l, f m = some (g m)) → l.filterMap f = l.map g := by
    intro l f g h
    induction l with
    | nil => rfl
    | cons a l ih => rw [List.filterMap_cons, h a (by simp), List.map_cons, ih fun m hm => h m (by simp [hm])]
  rw [this _ _ _ e]
  apply List.ext_getElem?
  intro j
  rw [List.getElem?_map]
  by_cases hj : j < xs.size
  · rw [List.getElem?_range hj]
    simp [hj]
  · rw [List.getElem?_eq_none (by simpa using hj), List.getElem?_eq_none (by simpa using hj)]
    rfl
/-- tuple.__getitem__ at a slice that goes backwards through all -/
theorem meets_tupBack (t sl : Addr) (items : Array Value) (vl vu vs : Value) (pl : IsPart vl none) (pu : IsPart vu none) (ps : IsPart vs (some (-1))) (fits : items.size ≤ sizeLine) :
    Meets (Builtin.«tuple.__getitem__» ⟨[.ref t, .ref sl], []⟩) (fun _ R s => IsTup s.heap t items ∧ s.heap.IsSliceOf sl vl vu vs ∧
      R (.ok (.ret (.ref s.heap.objs.size))) { s with heap := s.heap.push { cls := .type "tuple", data := .seq items.toList.reverse.toArray } }) := by
  refine .of_wp fun prog w A R s ⟨isT, isS, done⟩ => ?_
  have tyS : s.TypeIs (.ref sl) "slice" := let ⟨o, g, c, _⟩ := isS; ⟨o, g, c⟩
  have small : sizeOk (.seq items.toList.reverse.toArray) := by simpa [sizeOk] using fits
  wp_walk using tupleItemsOf_ isT, wpAny_typeOf tyS, sliceApplied_rev (A := A.in1) (n := items.size) isS pl pu ps
  have room : ¬ items.toList.reverse.toArray.size > sizeLine := by simpa using fits
  rw [pick_rev, if_neg room]
  wp_walk
  exact ⟨_, rfl, done⟩
end
section
variable {X : Cx} {a b c e : Expr} {f g : EM} {pos : Pos}
/-- a slice display of three parts: a new slice with these parts -/
theorem slice3 {lo hi st : Option Expr} {tl th ts : TO} {p : Pos} (hl : PO X lo tl) (hh : PO X hi th) (hs : PO X st ts) {pins : List (Addr × Obj)} {s : Shared} {σ : L2.St} {H : Hp} {Q : Option Int → Option Int → Option Int → Hp → Prop}
    (I : L2.Inv X pins σ H s) (q : tl σ H fun l H1 => th σ H1 fun h H2 => ts σ H2 fun d H3 => Q l h d H3) :
    wpAny (model X.prog X.w) X.A (eval (.Slice lo hi st p) X.env) (fun v s' => ∃ sl u1 u2 u3 l h d H', v = .ref sl ∧ s'.heap.IsSliceOf sl u1 u2 u3 ∧ IsPart u1 l ∧ IsPart u2 h ∧ IsPart u3 d ∧ L2.Inv X pins σ H' s' ∧ Q l h d H') X.xe s := by
  apply wpAny_Slice
  refine thn (hl.run pins s σ H _ I q) ?_
  rintro u1 s1 ⟨l, H1, I1, part1, q1⟩
  refine thn (hh.run pins s1 σ H1 _ I1 q1) ?_
  rintro u2 s2 ⟨h, H2, I2, part2, q2⟩
  refine thn (hs.run pins s2 σ H2 _ I2 q2) ?_
  rintro u3 s3 ⟨d, H3, I3, part3, q3⟩
  exact ⟨_, u1, u2, u3, l, h, d, H3, rfl, Heap.IsSliceOf.new _ u1 u2 u3, part1, part2, part3, I3.kept (t' := s3.toks) (fun _ _ old => Heap.get?_push_of_some _ old), q3⟩
def tRevT (K : PySem.W.Frag) (te : TE) : TE := fun σ H Q => te σ H fun x H1 => ∃ a xs, x = .ref a ∧ SqT K H1 a xs ∧ Laid H1 xs.reverse Q
theorem pe_revT {e : Expr} {te : TE} {k : Nat} {p1 p2 p3 pos : Pos} (he : PE X e te) : PE X (.Subscript e (.Slice none none (some (.UnaryOp .USub (.Constant (.int 1) k p1) p2)) p3) pos) (tRevT X.K te) := by
  constructor
  intro pins s σ H Q I want
  apply Subscript_
  refine thn (he.run pins s σ H _ I want) ?_
  rintro v s1 ⟨x, H1, I1, rel, a, xs, rfl, tup, give⟩
  cases rel
  refine thn (slice3 po_none po_none (po_some (pe_un un_neg pe_int)) I1 (Q := fun l h d H' => l = none ∧ h = none ∧ d = some (-1) ∧ H' = H1) ⟨1, rfl, -1, rfl, rfl, rfl, rfl, rfl⟩) ?_
  rintro v2 s2 ⟨sl, u1, u2, u3, l, h, d, H2, rfl, isS, part1, part2, part3, I2, rfl, rfl, rfl, rfl⟩
  obtain ⟨its, vals, isT, len⟩ := I2.tuple tup
  have fits : its.toArray.size ≤ sizeLine := by rw [List.size_toArray, ← vals.length]; exact len
  refine tail_any (T := "tuple") (id := "tuple.__getitem__") (ops := [.ref a, .ref sl]) isT.typeIs PySem.F.slot_tuple_getitem.lookup ?_ (by with_unfolding_all rfl)
  refine getItem_meets isT.typeIs (by decide) PySem.F.slot_tuple_getitem PySem.F.entry_tuple_getitem (PySem.F.args_tuple_getitem_2 _ _) (meets_tupBack a sl its.toArray u1 u2 u3 part1 part2 part3 fits) ⟨isT, isS, ?_⟩
  exact laid_ep I2 vals.reverse (by simpa using len) give
def revD : D → Option D
  | .tuple ds => some (.tuple ds.reverse)
  | .list ds => some (.list ds.reverse)
  | _ => none
theorem se_rev {k : Nat} {p1 p2 p3 : Pos} (he : SE X e f) : SE X (.Subscript e (.Slice none none (some (.UnaryOp .USub (.Constant (.int 1) k p1) p2)) p3) pos) (unM revD f) := ⟨⟨fun pins s σ H Q I h => by
  obtain ⟨z, r, F, d, r', R, e, k⟩ := h
  obtain ⟨x, e1, e2⟩ := unM_some e
  unfold revD at e2
  split at e2
  · cases e2
    refine (pe_revT he.pe).run pins s σ H Q I ⟨z, r, F, _, r', R, e1, fun v H' F' R' sb dv => ?_⟩
    obtain ⟨_, _, rfl, h1, h2⟩ := dv.inv
    refine ⟨_, _, rfl, R'.fh.sqt (sqt_of h1), fun p ob nd hp => ?_⟩
    obtain ⟨G, q⟩ := new_tup nd R'.fh hp (dpa_rev h2)
    exact k _ _ _ (R'.grow G) (sb.trans G.ff) q
  · cases e2
    refine (pe_revL he.pe).run pins s σ H Q I ⟨z, r, F, _, r', R, e1, fun v H' F' R' sb dv => ?_⟩
    obtain ⟨_, _, rfl, h1, h2⟩ := dv.inv
    refine ⟨_, _, rfl, R'.fh.sql h1, fun p hp => ?_⟩
    obtain ⟨G, q⟩ := new_lst R'.fh hp (dpa_rev h2)
    exact k _ _ _ (R'.grow G) (sb.trans G.ff) q
  · cases e2⟩⟩
/-! ### own + row: a new list -/
def catOwnM (i : Nat) (g : EM) : AM := fun r => (ownM i r).bind fun _ => (g r).bind fun q => match q.2[i]?, q.1 with
  | some (some (.l _ xs)), .list ys => if szOk (xs.length + ys.length) then some (xs ++ ys, q.2) else none
  | _, _ => none
theorem sl_catOwn (i : Nat) {x : Str} {p : Pos} (hb : SW X b g) (hN : X.N[i]? = some x := by rfl) (hv : Vis X.env.scope x := by first | exact Or.inl rfl | exact Or.inr (Or.inl rfl) | exact Or.inr (Or.inr rfl)) (hd : (x == ("__debug__" : Str)) = false := by decide)
    (hcd : (x == ("__classdict__" : Str)) = false := by decide) : SL X (.BinOp (.Name x p) .Add b pos) (catOwnM i g) :=
  ⟨pe_imp (pe_op op_catL (pe_var hN hv hd hcd) hb.pe) fun s H Q ⟨z, r, F, d, r', R, e, k⟩ => by
    unfold catOwnM at e
    simp only [Option.bind_eq_some_iff] at e
    obtain ⟨⟨p0, r0⟩, e0, ⟨y, r1⟩, e1, e2⟩ := e
    obtain ⟨b0, xs0, f1, f2, f3⟩ := ownM_some e0
    obtain ⟨v, h1, a, vs, rfl, h2, h3, h4, h5, h6⟩ := R.slots i _ f1
    split at e2
    · rename_i bb xs ys hxs hys
      have hxs : r1[i]? = some (some (.l bb xs)) := hxs
      have hys : y = .list ys := hys
      subst hys
      split at e2
      · rename_i hz
        cases e2
        refine ⟨_, h1, z, r, F, _, r1, R, e1, fun w H2 F2 R2 sb2 dy => ?_⟩
        obtain ⟨v', h1', a', vs', rfl, h2', h3', h4', h5', h6'⟩ := R2.slots i _ hxs
        have ea : a' = a := by have := h1.symm.trans h1'; cases this; rfl
        subst ea
        obtain ⟨c, ws, rfl, q1, q2⟩ := dv_lst R2.fh dy
        refine ⟨a', c, vs', ws, rfl, rfl, .inl (.inl h2'), q1, by rw [dpa_len h5', dpa_len q2]; exact szOk_le hz, fun p hp => ?_⟩
        obtain ⟨R3, g1, g2, g3, g4⟩ := R2.loose (vs := vs' ++ ws) hp
        exact k p _ _ F2 R3 sb2 g1 g2 g3 g4 (dpa_app h5' q2)
      · cases e2
    · cases e2⟩
end
/-! ### what a body is worth -/
def runF (N : List Str) (body : SM) (ds : List D) : Option D := match body (startD N ds) with
  | some (.rt d _) => some d
  | some (.nx _) => some .none
  | _ => none
def runR (N : List Str) (j : Nat) (body : SM) (ds xs : List D) : Option (D × List D) := match body (startR N j ds xs) with
  | some (.rt d r) => (endR j r).map fun ys => (d, ys)
  | some (.nx r) => (endR j r).map fun ys => (.none, ys)
  | _ => none
section
variable {P : Program} {w : World} {K : PySem.W.Frag} {mg : Str → Option Value} {base : Heap}
theorem fn_run {x qual : Str} {st : Stmt} {f : Addr} {fd : FuncData} {N ps : List Str} {k : Nat} {body : SM} (F : Fun K x qual st f fd) (S : FnScope N ps (defScope st))
    (hb : ∀ (cdv : Value) (A : Around) (outer : List Env) (s : Shared) (H : Hp) (E : XK), Room k (A.deeper (envOfC qual (defScope st) s.heap.objs.size f cdv)) →
      SSs (cxOf CX0 P w K mg base N qual (defScope st) f cdv A outer s H E).nox (fun _ _ => False) (defBody st) body) : FnOk P w K mg base CX0 (k + 1) f fd ps (spF K ps.length (runF N body)) :=
  fn_ok F S (runF N body) body hb fun ds d e => by
    unfold runF at e
    split at e
    · rename_i d' r' h; cases e; exact .inl ⟨r', h⟩
    · rename_i r' h; cases e; exact .inr ⟨rfl, r', h⟩
    · cases e
theorem fn_runR {x qual : Str} {st : Stmt} {f : Addr} {fd : FuncData} {N ps : List Str} {k : Nat} {body : SM} (j : Nat) (F : Fun K x qual st f fd) (S : FnScope N ps (defScope st))
    (hb : ∀ (cdv : Value) (A : Around) (outer : List Env) (s : Shared) (H : Hp) (E : XK), Room k (A.deeper (envOfC qual (defScope st) s.heap.objs.size f cdv)) →
      SSs (cxOf CX0 P w K mg base N qual (defScope st) f cdv A outer s H E).nox (fun _ _ => False) (defBody st) body) : FnOk P w K mg base CX0 (k + 1) f fd ps (spR K ps.length j (runR N j body)) :=
  fn_okR j F S (runR N j body) body hb fun ds xs d xs' e => by
    unfold runR at e
    split at e
    · rename_i d' r' h
      simp only [Option.map_eq_some_iff] at e
      obtain ⟨ys, e1, e2⟩ := e
      cases e2; exact ⟨r', .inl h, e1⟩
    · rename_i r' h
      simp only [Option.map_eq_some_iff] at e
      obtain ⟨ys, e1, e2⟩ := e
      cases e2; exact ⟨r', .inr ⟨rfl, h⟩, e1⟩
    · cases e
/-- a promise of nothing -/
theorem spF_none {f : Addr} {fd : FuncData} {ps : List Str} {k : Nat} : FnOk P w K mg base CX0 k f fd ps (spF K ps.length fun _ => none) :=
  ⟨fun vs H Q E h => h.1, fun A outer s H args us vs Q E _ _ _ _ h => by obtain ⟨_, _, _, _, _, _, e, _⟩ := h; cases e⟩
end
/-- room in units -/
structure Un1 (A : Around) : Prop where
  c0 : A.units < cLine
  c1 : A.units + 1 < cLine
  c64 : A.units + 64 < cLine
  c65 : A.units + 65 < cLine
  c100 : A.units + 100 < cLine
theorem un1 {k : Nat} {A : Around} (hr : Room k A) : Un1 A := by
  have := hr.un
  exact ⟨by omega, by omega, by omega, by omega, by omega⟩
end DL
namespace DL
open PySem L2 PyProof.Rows PySem.Spec PySem.W
/-- the law's end -/
theorem law_end {K : PySem.W.Frag} {H : Hp} {a : Addr} {ns : List Int} {g : List D → Option D} {E : XK} (h : g [.list (ns.map PyData.int)] = some (.bool true)) (hS : SqL K H a (ns.map V.int)) : spF K 1 g [.ref a] H (fun v _ => v = .bl true) E :=
  ⟨rfl, H, [.list (ns.map PyData.int)], .bool true, .refl _, .cons (.lst hS (dpa_ints_mk ns)) .nil, h, fun _ _ _ _ dd => dd.inv⟩
end DL
namespace DL
open PySem L2 PyProof.Rows PySem.Spec
/-! ### t.index(x), t a tuple that holds no flat things alone -/
end DL
namespace DL
open PySem L2 PyProof.Rows PySem.Spec
/-! ### a set made of a tuple of ints, of which only the length is asked -/
def dedup : List Int → List Int
  | [] => []
  | a :: as => if a ∈ as then dedup as else a :: dedup as
theorem mem_dedup {a : Int} : ∀ {as : List Int}, a ∈ dedup as ↔ a ∈ as
  | [] => by simp [dedup]
  | b :: as => by
    unfold dedup
    split
    · rename_i h
      rw [mem_dedup, List.mem_cons]
      exact ⟨.inr, fun q => q.elim (fun e => e ▸ h) id⟩
    · rw [List.mem_cons, List.mem_cons, mem_dedup]
theorem dedup_nodup : ∀ as : List Int, (dedup as).Nodup
  | [] => by simp [dedup]
  | b :: as => by
    unfold dedup
    split
    · exact dedup_nodup as
    · rename_i h
      rw [List.nodup_cons]
      exact ⟨fun m => h (mem_dedup.mp m), dedup_nodup as⟩
theorem dedup_len {as bs : List Int} (h1 : bs.Nodup) (h2 : ∀ k, k ∈ bs ↔ k ∈ as) : bs.length = (dedup as).length :=
  ((List.perm_ext_iff_of_nodup h1 (dedup_nodup as)).mpr fun k => by rw [h2, mem_dedup]).length_eq
/-- the set of these ints stands at a -/
def setHO (w : World) (a : Addr) (ns : List Int) : HO := .ext fun h => ∃ c, SetR w h a (fun j => decide (j ∈ ns)) c ∧ c ≤ ns.length
section
variable {X : Cx} {a : Expr} {f : EM}
theorem cr_setT (calm : X.calm = true) : CallR X (.type "set") (fun xs H Q => ∃ p ns, xs = [.ref p] ∧ SqT X.K H p (ns.map V.int) ∧ ns.length ≤ 1000 ∧ ∀ q, H q = none → Q (.ref q) (upd H q (setHO X.w q ns))) := by
  rintro pins s σ H xs us Q I rel ⟨p, ns, rfl, tup, short, give⟩
  obtain ⟨u, rfl, ru⟩ := vals1 rel
  cases ru
  obtain ⟨its, vals, isT, _⟩ := I.tuple tup
  have room : ns.length + 1 < scanBound := by unfold scanBound; omega
  refine call_set_tupI ns (I.ok.hd calm) isT (ints_of_vals vals) room fun h1 tk c made le keeps => ?_
  have old : H s.heap.objs.size = none := I.hok.fresh (Nat.le_refl _)
  refine ⟨.ref s.heap.objs.size, _, I.laid keeps (Nat.le_refl _) (o := setHO X.w s.heap.objs.size ns) ⟨⟨c, made, le⟩, ?_, ?_⟩, rfl, give _ old⟩
  · obtain ⟨ob, _, _, _, at_, _⟩ := made
    exact ⟨ob, at_⟩
  · rintro h2 h3 ⟨c', m, l⟩ same
    exact ⟨c', m.at same, l⟩
theorem cr_lenS : CallR X (.builtin "len") (fun xs H Q => ∃ p ns, xs = [.ref p] ∧ H p = some (setHO X.w p ns) ∧ ns.length ≤ 1000 ∧ Q (.int (dedup ns).length) H) := by
  rintro pins s σ H xs us Q I rel ⟨p, ns, rfl, stands, short, q⟩
  obtain ⟨u, rfl, ru⟩ := vals1 rel
  cases ru
  obtain ⟨⟨c, ⟨ob, es, ep, tab, at_, isSet, data, _, distinct, members, _, fits, size, _⟩, le⟩, _⟩ := (show ObjOk X.prog X.w H s.heap p (setHO X.w p ns) from I.hok p _ stands)
  have many : es.size = (dedup ns).length := by
    rw [← dedup_len distinct fun k => by rw [← members k, decide_eq_true_eq]]
    simp
  exact call_len_set at_ isSet data fits (by omega) ⟨.int (dedup ns).length, H, I.tok _, ⟨_, by rw [many]⟩, q⟩
def lenSetD : D → Option D
  | .tuple ds => (intsOf ds).bind fun ns => if ns.length ≤ 1000 then some (.int (dedup ns).length) else none
  | _ => none
theorem se_lenSet {p p2 q pos : Pos} (calm : X.calm = true) (hg : Gl X "len") (hm : X.mg "len" = none) (hg2 : Gl X "set") (hm2 : X.mg "set" = none) (ha : SE X a f)
    (star : starEach [a] X.env = [(false, eval a X.env)] := by rfl) (star2 : starEach [.Call (.Name "set" p2) [a] [] q] X.env = [(false, eval (.Call (.Name "set" p2) [a] [] q) X.env)] := by rfl) (b1 : bootBuiltins "len" = some (.builtin "len") := by decide +kernel) (b2 : bootBuiltins "set" = some (.type "set") := by decide +kernel) :
    SE X (.Call (.Name "len" p) [.Call (.Name "set" p2) [a] [] q] [] pos) (unM lenSetD f) :=
  ⟨pe_imp (pe_callB cr_lenS hg hm b1 (pa_cons (pe_callTy (cr_setT calm) hg2 hm2 b2 (pa_cons ha.pe pa_nil star) (by decide) (by decide) star rfl) pa_nil star2) (by decide) (by decide) star2 rfl) fun s H Q ⟨z, r, F, d, r', R, e, k⟩ => by
    obtain ⟨x, e1, e2⟩ := unM_some e
    cases x with
    | tuple ds =>
      obtain ⟨ns, e3, e4⟩ := Option.bind_eq_some_iff.mp e2
      split at e4
      · rename_i short
        cases e4
        cases intsOf_some e3
        refine ⟨z, r, F, _, r', R, e1, fun v H1 F1 R1 sb dv => ?_⟩
        obtain ⟨t, vs, rfl, tup, each⟩ := dv.inv
        cases dpa_ints each
        refine ⟨t, ns, rfl, R1.fh.sqt (sqt_of tup), short, fun b new => ⟨b, ns, rfl, upd_same, short, ?_⟩⟩
        exact k _ _ _ (R1.grow (.loose R1.fh new)) sb (.int _)
      · cases e4
    | _ => cases e2⟩
end
end DL
namespace DL
open PySem L2 PyProof.Rows PySem.Spec
/-! ### enumerate(t), t a tuple or a list -/
/-! ### raise, where no one takes it -/
end DL
namespace DL
open PySem L2 PyProof.Rows PySem.Spec
/-! ### a new list said so often: [x] * n -/
end DL
namespace DL
open PySem L2 PyProof.Rows PySem.Spec
/-! ### own dicts: a display of one pair, in, sorted keys -/
section
variable {X : Cx} {W : String → Hp → Prop} {a b e : Expr} {f g : EM} {pos : Pos}
theorem sorted_is {ys ks : List Int} (p : ys.Perm ks) (up : ys.Pairwise (· ≤ ·)) : ys = ks.mergeSort fun a b => decide (a ≤ b) := by
  have up2 := List.pairwise_mergeSort (le := fun a b : Int => decide (a ≤ b)) (by simp; omega) (by simp; omega) ks
  refine (p.trans (List.mergeSort_perm ks _).symm).eq_of_pairwise ?_ up (up2.imp fun h => of_decide_eq_true h)
  intro a b _ _ h1 h2
  exact Int.le_antisymm h1 h2
end
end DL
namespace DL
open PySem L2 PyProof.Rows PySem.Spec
/-! ### what is raised: classes of the program's own, made with no argument -/
/-- what is known of such a class -/
structure Err (K : PySem.W.Frag) (mg : Str → Option Value) (c : String) (C : Addr) : Prop where
  made : ∃ B newId initId bm, ExcBaseFacts B newId initId bm ∧ PySem.W.excIn K C bm newId = true
  at_ : mg (Str.ofString c) = some (.ref C)
  keep : PySem.W.keepIn K (.ref C) = true
  base : PySem.W.subIn K (.ref C) (.type "BaseException") = some true
  type : PySem.W.typeIn K (.ref C) = some (.type "type")
  self : PySem.W.exmOne K (.ref C) (.ref C) = some true
section
variable {X : Cx} {c : String} {C : Addr} {p pos pos' : Pos}
/-- what is wished of what a def lets out -/
def Let (mg : Str → Option Value) (E : XK) (c : String) (H : Hp) : Prop := ∀ C, mg (Str.ofString c) = some (.ref C) → E (.ref C) none H
end
/-! ### a def that may raise -/
/-! ### x = f(..) in a try with one clause -/
end DL
namespace DL
open PySem L2 PyProof.Rows PySem.Spec
/-! ### tuple(range(n)), list(range(n)) -/
end DL
/-! slots that are forgotten; a, b = x, y -/
namespace DL
open PySem L2
section
variable {X : Cx} {W : String → Hp → Prop} {a b c e : Expr} {st : Stmt} {sts : List Stmt} {f g : SM} {pos : Pos}
theorem Rep.forget {K : PySem.W.Frag} {z : Fx} {r : Rho} {s : L2.St} {H F : Hp} (R : Rep K z r s H F) (is : List Nat) : Rep K z (wipeR r is) s H F :=
  R.weaken (by rw [wipeR_length, R.len]) fun j sv e => ⟨(wipeR_get e).1, fun _ h => h⟩
def wipO (is : List Nat) : Out → Out
  | .nx r => .nx (wipeR r is)
  | .ct r => .ct (wipeR r is)
  | .bk r => .bk (wipeR r is)
  | o => o
/-- what was in some slots is forgotten at the end -/
def wipM (is : List Nat) (f : SM) : SM := fun r => (f r).map (wipO is)
theorem wip_core {is : List Nat} {D : Ends} {s : L2.St} {H : Hp} (q : liftS X.K W (wipM is f) D s H) : liftS X.K W f D s H := by
  obtain ⟨z, r, F, o, R, e, k⟩ := q
  unfold wipM at e
  simp only [Option.map_eq_some_iff] at e
  obtain ⟨o1, e1, rfl⟩ := e
  refine ⟨z, r, F, o1, R, e1, ?_⟩
  cases o1 with
  | nx r1 => exact fun s' H' F' R' sb => k s' H' F' (R'.forget is) sb
  | ct r1 => exact fun s' H' F' R' sb => k s' H' F' (R'.forget is) sb
  | bk r1 => exact fun s' H' F' R' sb => k s' H' F' (R'.forget is) sb
  | rt d r1 => exact k
  | ex c r1 => exact k
theorem sss_wip (is : List Nat) (h : SSs X W sts f) : SSs X W sts (wipM is f) := ⟨pss_imp h.ps fun D s H q => wip_core q⟩
/-- .. ahead -/
def preM (is : List Nat) (f : SM) : SM := fun r => f (wipeR r is)
theorem ss_pre (is : List Nat) (h : SS X W st f) : SS X W st (preM is f) := ⟨ps_imp h.ps fun D s H ⟨z, r, F, o, R, e, k⟩ => ⟨z, wipeR r is, F, o, R.forget is, e, k⟩⟩
/-! two stores at once -/
def two (i j : Nat) (r : Rho) : List D → Option Out
  | [d, e] => some (.nx ((r.set i (some (.d d))).set j (some (.d e))))
  | _ => none
end
end DL
/-! sorted(dict(ps)), len(dict(ps)): ps a list of pairs whose first is an int -/
namespace DL
open PySem L2
end DL
/-! an own list of own lists: filled, its lists grown in a walk, and then let go as a datum -/
namespace DL
open PySem L2
structure LL (K : PySem.W.Frag) (z : Fx) (r : Rho) (s : L2.St) (H F : Hp) (i : Nat) (p : Addr) (as : List Addr) (rows : List (List D)) : Prop where
  here : s[i]? = some (some (.ref p))
  out : H p = some (.lst (as.map V.ref))
  len : as.length = rows.length
  ins : ∀ (k : Nat) (a : Addr) (xs : List D), as[k]? = some a → rows[k]? = some xs → ∃ vs, H a = some (.lst vs) ∧ DpAll K F vs xs
  free : ∀ a ∈ p :: as, F a = none ∧ z.H0 a = none ∧ ¬ OwnAt r s H a
  nd : (p :: as).Nodup
section
variable {K : PySem.W.Frag} {z : Fx} {r r' : Rho} {s s' : L2.St} {H F H' F' : Hp} {i j : Nat} {p : Addr} {as : List Addr} {rows : List (List D)}
theorem LL.there (L : LL K z r s H F i p as rows) {a : Addr} (m : a ∈ as) : ∃ (k : Nat) (vs : List V) (xs : List D), as[k]? = some a ∧ rows[k]? = some xs ∧ H a = some (.lst vs) ∧ DpAll K F vs xs := by
  obtain ⟨k, hk, e⟩ := List.getElem_of_mem m
  have e1 : as[k]? = some a := by rw [List.getElem?_eq_getElem hk, e]
  have hk2 : k < rows.length := by rw [← L.len]; exact hk
  obtain ⟨vs, h1, h2⟩ := L.ins k a rows[k] e1 (List.getElem?_eq_getElem hk2)
  exact ⟨k, vs, _, e1, List.getElem?_eq_getElem hk2, h1, h2⟩
theorem LL.isl (L : LL K z r s H F i p as rows) {a : Addr} (m : a ∈ p :: as) : ∃ vs, H a = some (.lst vs) := by
  rcases List.mem_cons.mp m with rfl | m
  · exact ⟨_, L.out⟩
  · obtain ⟨_, vs, _, _, _, h, _⟩ := L.there m; exact ⟨vs, h⟩
/-- what a step over the bare base leaves -/
theorem LL.kept (L : LL K z r s H F i p as rows) (R : Rep K z r s H F) (R' : Rep K ⟨bare r s H, F, z.rf⟩ r' s' H' F') (hi : s'[i]? = s[i]?) : LL K z r' s' H' F' i p as rows := by
  have key : ∀ a ∈ p :: as, ∀ vs, H a = some (.lst vs) → H' a = some (.lst vs) ∧ F' a = none ∧ ¬ OwnAt r' s' H' a := fun a m vs h =>
    R.loose_kept R' h (L.free a m).1 (L.free a m).2.2 not_tu
  refine ⟨by rw [hi]; exact L.here, (key p (by simp) _ L.out).1, L.len, fun k a xs e1 e2 => ?_, fun a m => ?_, L.nd⟩
  · obtain ⟨vs, h1, h2⟩ := L.ins k a xs e1 e2
    exact ⟨vs, (key a (List.mem_cons_of_mem _ (List.mem_of_getElem? e1)) vs h1).1, dpa_mono R'.f0 h2⟩
  · obtain ⟨vs, h⟩ := L.isl m
    exact ⟨(key a m vs h).2.1, (L.free a m).2.1, (key a m vs h).2.2⟩
theorem LL.grow (L : LL K z r s H F i p as rows) (R : Rep K z r s H F) (G : Grow F H F' H') : LL K z r s H' F' i p as rows := by
  refine ⟨L.here, G.hh _ _ L.out, L.len, fun k a xs e1 e2 => ?_, fun a m => ?_, L.nd⟩
  · obtain ⟨vs, h1, h2⟩ := L.ins k a xs e1 e2
    exact ⟨vs, G.hh _ _ h1, dpa_mono G.ff h2⟩
  · refine ⟨?_, (L.free a m).2.1, fun q => (L.free a m).2.2 (R.ownAtH G.hh q)⟩
    obtain ⟨vs, h⟩ := L.isl m
    cases q : F' a with
    | none => rfl
    | some u =>
      rcases G.nw a u q with h1 | h1 | ⟨ob, ws, rfl⟩
      · rw [(L.free a m).1] at h1; cases h1
      · rw [h] at h1; cases h1
      · have q2 := G.fh a _ q
        rw [G.hh _ _ h] at q2; exact (tupHO_lst q2).elim
theorem LL.forget (L : LL K z r s H F i p as rows) : LL K z (r.set j none) s H F i p as rows :=
  ⟨L.here, L.out, L.len, L.ins, fun a m => ⟨(L.free a m).1, (L.free a m).2.1, fun ⟨k, h⟩ => (L.free a m).2.2 ⟨k, (owns_none h).2⟩⟩, L.nd⟩
theorem LL.start (R : Rep K z r s H F) {b : Bool} (h : r[i]? = some (some (.l b []))) : ∃ p, LL K z (r.set i none) s H F i p [] [] := by
  obtain ⟨v, h1, q, vs, rfl, h2, h3, h4, h5, h6⟩ := R.slots i _ h
  cases h5
  refine ⟨q, h1, h2, rfl, fun k a xs e => by simp at e, fun a m => ?_, by simp⟩
  simp only [List.mem_cons, List.not_mem_nil, or_false] at m
  subst m
  exact ⟨h3, h4, fun ⟨k, q⟩ => (owns_none q).1 (R.ap k i a (owns_none q).2 ⟨_, _, h, rfl, h1, part_self⟩)⟩
end
/-! ### statements over it -/
/-- a statement that stores nothing -/
abbrev CM := Rho → Option Rho
def liftC (K : PySem.W.Frag) (f : CM) : TS := fun D s H => ∃ z r F r', Rep K z r s H F ∧ f r = some r' ∧ ∀ H' F', Rep K z r' s H' F' → SubH F F' → D.nx s H'
structure SC (X : Cx) (st : Stmt) (f : CM) : Prop where
  ps : PS X st (liftC X.K f)
end DL
/-! xs.count(x) of a list; forgotten slots ahead of a list of lists -/
namespace DL
open PySem L2 PyProof.Rows PySem.Spec
end DL
/-! all(t), any(t) of a tuple of truths -/
namespace DL
open PySem L2
end DL
/-! t * n of a tuple that has something -/
namespace DL
open PySem L2 PyProof.Rows PySem.Spec
end DL
/-! return f(..) in a try with one clause; a, b, c = x, y, z -/
namespace DL
open PySem L2
end DL
/-! range(i, j, -1) -/
namespace DL
open PySem L2
end DL
/-! d[k] of an own dict -/
namespace DL
open PySem L2
end DL
/-! t > u of tuples -/
namespace DL
open PySem L2 PyProof.Rows PySem.SeqAt
section
variable {X : Cx}
def gtD : D → D → Option Bool
  | .int i, .int j => some (decide (j < i))
  | .tuple xs, .tuple ys => if (PySem.W.alike (.tuple xs) (.tuple ys) && decide (PyData.depth (.tuple xs) ≤ 60)) = true then some (PySem.W.dataLt (.tuple ys) (.tuple xs)) else none
  | _, _ => none
theorem or_gtD (hu : X.A.units + 64 < cLine) : OpR X (compareOp .Gt) (liftO X.K (bD gtD)) := by
  intro pins s σ H x y v u Q I rx ry h
  obtain ⟨F, d, e, o, sb, dx, dy, eo, k⟩ := h
  obtain ⟨bb, e9, rfl⟩ := bD_some eo
  unfold gtD at e9
  split at e9
  · cases e9
    cases dv_int dx; cases dv_int dy
    exact op_gt pins s σ H _ _ v u Q I rx ry ⟨_, _, rfl, rfl, k _ H F (.refl sb) (.bl _)⟩
  · split at e9
    · rename_i xs ys c
      cases e9
      rw [Bool.and_eq_true, decide_eq_true_eq] at c
      obtain ⟨as, ra⟩ := L2.Dp.reads I _ _ _ (dp_old (dx.dp sb)) rx
      obtain ⟨bs, rb⟩ := L2.Dp.reads I _ _ _ (dp_old (dy.dp sb)) ry
      have := PySem.W.rcGt_alike _ _ X.A s v u as bs ra rb c.1 (by simp) (Nat.lt_of_le_of_lt (Nat.add_le_add_left (Nat.le_trans (Nat.min_le_left _ _) (Nat.le_trans c.2 (by omega : 60 ≤ 64))) _) hu) X.prog X.w X.xe (EP X pins σ Q) ⟨.bl _, H, I, rfl, k _ H F (.refl sb) (.bl _)⟩
      exact this
    · cases e9
  · cases e9
end
end DL
/-! set(t), t a tuple -/
namespace DL
open PySem L2 PySem.Spec PyProof.Rows PySem.SeqAt
section
variable {P : Program} {w : World} {A : Around} {E : Value → Shared → Prop}
/-- a set that was just made -/
abbrev newSet (w : World) : Obj := { cls := .type "set", dict := none, data := .set #[] 0 (.fresh 0 0 (!w.params.followText "set-order")) }
end
end DL
/-! sorted(set(t)), t a tuple of pairs -/
namespace DL
open PySem L2 PyProof.Rows PySem.Spec
end DL
namespace DL
open PySem L2 PyProof.Rows PySem.Spec
end DL
/-! dict(ps), ps a list of pairs whose first is a flat tuple -/
namespace DL
open PySem L2
end DL
/-! sorted(dict(ps)): ps a list of pairs whose first is a flat tuple -/
namespace DL
open PySem L2
end DL
/-! sorted(dict(ps)): the keys ints, or flat tuples -/
namespace DL
open PySem L2
end DL
/-! x = dict(pairs), the keys flat tuples: an own dict -/
namespace DL
open PySem L2
end DL
/-! sum(rows, []), rows a list of lists -/
namespace DL
open PySem L2 PySem.Spec PyProof.Rows
end DL
/-! sum(rows, []) as an expression -/
namespace DL
open PySem L2 PySem.Spec PyProof.Rows
end DL
/-! str(n) -/
namespace DL
open PySem L2
end DL
/-! t * 2, t maybe empty -/
namespace DL
open PySem L2 PyProof.Rows PySem.Spec
end DL
/-! sets of tuples whose items are of any flat kind -/
namespace DL
open PySem L2 PySem.Spec PyProof.Rows PySem.SeqAt
section
variable {P : Program} {w : World} {A : Around} {E : Value → Shared → Prop} {s : Shared} {K : Type} [DecidableEq K] {knd : PySem.KeyKind P w K}
/-! the set -/
abbrev hsh (knd : PySem.KeyKind P w K) (k : List K) : Int := tupleKeyHash knd k
abbrev ent (knd : PySem.KeyKind P w K) (p : Addr × List K) : Int × Value := (hsh knd p.2, Value.ref p.1)
/-- L: what is in the set at S, in the table's order -/
structure TSet (knd : PySem.KeyKind P w K) (h : Heap) (S : Addr) (L : List (Addr × List K)) (es : Array (Int × Value)) (ep : Nat) (t : SetTable) : Prop where
  at_ : ∃ o, h.get? S = some o ∧ o.ExactSet ∧ o.data = .set es ep t
  es_ : es.toList = L.map (ent knd)
  tab : TabOk t (L.map fun p => hsh knd p.2)
  one : (L.map Prod.snd).Nodup
  tup : ∀ p ∈ L, IsTupleKey knd h p.2 p.1
  pln : t.plain = true
  led : w.params.followText "set-order" = true ∨ t.led = true
  free : L.length * 5 < t.mask * 3
  few : L.length < 64
end
end DL
/-! sets of tuples: adding -/
namespace DL
open PySem L2 PySem.Spec PyProof.Rows PySem.SeqAt
section
variable {P : Program} {w : World} {A : Around} {E : Value → Shared → Prop} {s : Shared} {K : Type} [DecidableEq K] {knd : PySem.KeyKind P w K}
variable {S : Addr} {L : List (Addr × List K)} {es : Array (Int × Value)} {ep : Nat} {t : SetTable}
theorem TSet.fresh {h : Heap} (at_ : h.get? S = some (newSet w)) : TSet knd h S [] #[] 0 (.fresh 0 0 (!w.params.followText "set-order")) where
  at_ := ⟨_, at_, ⟨rfl, rfl, rfl⟩, rfl⟩
  es_ := rfl
  tab := ⟨List.Pairwise.nil, rfl, rfl, .inl rfl, (by intro x m; cases m), (by intro i h j q; simp at q)⟩
  one := List.nodup_nil
  tup := by intro p m; cases m
  pln := rfl
  led := by
    show _ ∨ (!w.params.followText "set-order") = true
    cases w.params.followText "set-order"
    · exact .inr rfl
    · exact .inl rfl
  free := by show 0 * 5 < 7 * 3; decide
  few := by show 0 < 64; decide
end
end DL
/-! len(set(words)), words a list of tuples of truths -/
namespace DL
open PySem L2 PySem.Spec PyProof.Rows PySem.SeqAt
/-! each thing once -/
def once {α : Type} [DecidableEq α] : List α → List α
  | [] => []
  | x :: xs => if x ∈ once xs then once xs else x :: once xs
section
variable {P : Program} {w : World} {A : Around} {E : Value → Shared → Prop} {K : Type} [DecidableEq K] {knd : PySem.KeyKind P w K}
theorem TSet.keeps {h h' : Heap} {S : Addr} {L : List (Addr × List K)} {es : Array (Int × Value)} {ep : Nat} {t : SetTable} (T : TSet knd h S L es ep t) (k1 : ∀ o, h.get? S = some o → h'.get? S = some o) (k2 : ∀ p ∈ L, IsTupleKey knd h' p.2 p.1) : TSet knd h' S L es ep t := by
  obtain ⟨o, g, r⟩ := T.at_
  exact ⟨⟨o, k1 o g, r⟩, T.es_, T.tab, T.one, k2, T.pln, T.led, T.free, T.few⟩
end
/-! truths -/
end DL
/-! list(x) as a new list; a, b = xs, ys, both new lists -/
namespace DL
open PySem L2
def lisM (f : EM) : AM := fun r => (f r).bind fun p => (itemsOf p.1).map fun ds => (ds, p.2)
section
variable {X : Cx} {W : String → Hp → Prop} {a b : Expr} {pos : Pos}
theorem sl_list {p : Pos} {f : EM} (hg : Gl X "list") (hm : X.mg "list" = none) (ha : SE X a f) (b1 : bootBuiltins "list" = some (.type "list") := by decide +kernel) (star : starEach [a] X.env = [(false, eval a X.env)] := by rfl) :
    SL X (.Call (.Name "list" p) [a] [] pos) (lisM f) :=
  ⟨pe_imp (pe_callTy call_list_of hg hm b1 (pa_cons ha.pe pa_nil star) (by decide) (by decide) star rfl) fun s H Q ⟨z, r, F, d, r', R, e, k⟩ => by
    obtain ⟨⟨x, r1⟩, e1, e2⟩ := Option.bind_eq_some_iff.mp e
    obtain ⟨ds, e3, e4⟩ := Option.map_eq_some_iff.mp e2
    cases e4
    refine ⟨z, r, F, x, r1, R, e1, fun v H1 F1 R1 sb dv => ?_⟩
    cases x with
    | list row =>
      cases e3
      obtain ⟨t, vs, rfl, at_, each⟩ := dv.inv
      refine ⟨t, vs, rfl, .inl (R1.fh.sql at_), fun b new => ?_⟩
      obtain ⟨R2, g1, g2, g3, g4⟩ := R1.loose (vs := vs) new
      exact k b _ _ F1 R2 sb g1 g2 g3 g4 each
    | tuple row =>
      cases e3
      obtain ⟨t, vs, rfl, at_, each⟩ := dv.inv
      refine ⟨t, vs, rfl, .inr (R1.fh.sqt (sqt_of at_)), fun b new => ?_⟩
      obtain ⟨R2, g1, g2, g3, g4⟩ := R1.loose (vs := vs) new
      exact k b _ _ F1 R2 sb g1 g2 g3 g4 each
    | _ => cases e3⟩
end
end DL
/-! tuple(range(a, b)) -/
namespace DL
open PySem L2 PyProof.Rows PySem.Spec
end DL
/-! min(xs), xs a list of data that are alike -/
namespace DL
open PySem L2 PySem.Spec PyProof.Rows
end DL
/-! min(xs) as an expression -/
namespace DL
open PySem L2 PySem.Spec PyProof.Rows
end DL
/-! max(xs), xs a list of ints -/
namespace DL
open PySem L2
end DL
/-! own dicts of ints under rows of ints and None: the kind of key, reading, asking, storing -/
namespace DL
open PySem L2 PySem.Spec PyProof.Rows PySem.SeqAt
section
variable {P : Program} {w : World}
def nkIs : NK → Value → Bool
  | none, .none => true
  | some i, v => Value.isInt i v
  | _, _ => false
theorem nkIs_inv : ∀ {k : NK} {v : Value}, nkIs k v = true → (k = none ∧ v = .none) ∨ ∃ i t, k = some i ∧ v = .int i t
  | none, v, h => by cases v <;> first | exact .inl ⟨rfl, rfl⟩ | exact nomatch h
  | some i, v, h => by
    obtain ⟨t, e⟩ := Value.isInt_shape (k := i) (v := v) h
    exact .inr ⟨i, t, rfl, e⟩
theorem nkIs_int (i : Int) (t : Tok) : nkIs (some i) (.int i t) = true := by simp [nkIs, Value.isInt]
theorem hash_none {A : Around} {E : Value → Shared → Prop} {s : Shared} {Q : Int → Shared → Prop} (done : Q (nkH none) { s with toks := s.toks + 1 }) : wpAny (model P w) A (PySem.pyHash .none) Q E s := by
  refine W.pyHash_slot (T := "NoneType") rfl F.slot_NoneType_hash F.entry_NoneType_hash (F.args_NoneType_hash_1 _) (beq_builtin_none _) (.inl rfl) ?_
  refine wpAny_bind (wpAny_pure (wpAny_bind (wpAny_mkInt (wpAny_pure ⟨_, _, rfl, ?_⟩))))
  exact done
/-- None or an int, as a part of a key -/
def nKind (P : Program) (w : World) : PySem.KeyKind P w NK where
  is := nkIs
  hash := nkH
  inj := fun v a b ha hb => by
    rcases nkIs_inv ha with ⟨rfl, rfl⟩ | ⟨i, t, rfl, rfl⟩ <;> rcases nkIs_inv hb with ⟨rfl, e⟩ | ⟨j, u, rfl, e⟩
    · rfl
    · cases e
    · cases e
    · cases e; rfl
  byValue := fun k v h => by rcases nkIs_inv h with ⟨rfl, rfl⟩ | ⟨i, t, rfl, rfl⟩ <;> rfl
  pyHash := fun hv h => by
    rcases nkIs_inv hv with ⟨rfl, rfl⟩ | ⟨i, t, rfl, rfl⟩
    · exact hash_none h
    · exact wpAny_pyHash_int h
  eqBool := fun {A E s a b u v Q} hu hv h => by
    rcases nkIs_inv hu with ⟨rfl, rfl⟩ | ⟨i, t, rfl, rfl⟩ <;> rcases nkIs_inv hv with ⟨rfl, rfl⟩ | ⟨j, t', rfl, rfl⟩
    · exact SeqAt.EqAt.same _ _ _ _ _ (by simpa using h)
    · exact SeqAt.EqAt.none_int j t' _ _ _ _ (by simpa using h)
    · exact SeqAt.EqAt.int_none i t _ _ _ _ (by simpa using h)
    · refine wpAny_eqBool_int ?_
      have : decide ((some i : NK) = some j) = (i == j) := by
        rw [Bool.eq_iff_iff, decide_eq_true_eq, beq_iff_eq]; exact ⟨Option.some.inj, fun e => by rw [e]⟩
      rwa [this] at h
  «strs» := fun k x t v h => by
    rcases nkIs_inv h with ⟨_, e⟩ | ⟨_, _, _, e⟩ <;> exact nomatch e
end
end DL
namespace DL
open PySem L2 PySem.Spec PyProof.Rows PySem.SeqAt
/-! ### what stands under a row -/
abbrev NZ := List NK × Addr × Value
abbrev NR (x : NE) (z : NZ) : Prop := z.1 = x.1 ∧ z.2.1 = x.2.1 ∧ RelV (.int x.2.2) z.2.2
def getN (kvs : List (List NK × Int)) (k : List NK) : Option Int := (kvs.find? fun p => decide (p.1 = k)).map (·.2)
def putN (kvs : List (List NK × Int)) (k : List NK) (v : Int) : List (List NK × Int) := if (getN kvs k).isSome = true then kvs.map fun p => if p.1 = k then (p.1, v) else p else kvs ++ [(k, v)]
def putE (xs : List NE) (k : List NK) (b : Addr) (v : Int) : List NE := if (getN (xs.map NE.kv) k).isSome = true then xs.map fun x => if x.1 = k then (x.1, x.2.1, v) else x else xs ++ [(k, b, v)]
theorem putE_kv (xs : List NE) (k : List NK) (b : Addr) (v : Int) : (putE xs k b v).map NE.kv = putN (xs.map NE.kv) k v := by
  unfold putE putN
  split
  · rw [List.map_map, List.map_map]
    refine List.map_congr_left fun x _ => ?_
    show NE.kv (if x.1 = k then (x.1, x.2.1, v) else x) = if x.1 = k then (x.1, v) else (x.1, x.2.2)
    split <;> rfl
  · rw [List.map_append]; rfl
theorem putE_len (xs : List NE) (k : List NK) (b : Addr) (v : Int) : (putE xs k b v).length ≤ xs.length + 1 := by
  unfold putE
  split <;> simp
theorem putE_at {xs : List NE} {k : List NK} {b : Addr} {v : Int} {x : NE} (m : x ∈ putE xs k b v) : (x.1 = k ∧ x.2.1 = b) ∨ ∃ y ∈ xs, x.1 = y.1 ∧ x.2.1 = y.2.1 := by
  unfold putE at m
  split at m
  · obtain ⟨y, my, rfl⟩ := List.mem_map.mp m
    refine .inr ⟨y, my, ?_⟩
    split <;> exact ⟨rfl, rfl⟩
  · rcases List.mem_append.mp m with m | m
    · exact .inr ⟨x, m, rfl, rfl⟩
    · have e := List.mem_singleton.mp m
      subst e
      exact .inl ⟨rfl, rfl⟩
theorem nr_get : ∀ {xs : List NE} {zs : List NZ} {k : List NK}, Paired NR xs zs → (getN (xs.map NE.kv) k = none ∧ atKey zs k = none) ∨ ∃ v p, getN (xs.map NE.kv) k = some v ∧ atKey zs k = some p ∧ RelV (.int v) p.2
  | [], [], _, _ => .inl ⟨rfl, rfl⟩
  | x :: xs, z :: zs, k, .cons ⟨h1, h2, h3⟩ t => by
    by_cases e : x.1 = k
    · exact .inr ⟨x.2.2, z.2, by simp [getN, NE.kv, e], by simp [atKey, h1, e], h3⟩
    · have e1 : getN ((x :: xs).map NE.kv) k = getN (xs.map NE.kv) k := by simp [getN, NE.kv, List.find?_cons, e]
      have e2 : atKey (z :: zs) k = atKey zs k := by simp [atKey, List.find?_cons, h1, e]
      rw [e1, e2]
      exact nr_get t
theorem nr_some {xs : List NE} {zs : List NZ} {k : List NK} (h : Paired NR xs zs) : (atKey zs k).isSome = (getN (xs.map NE.kv) k).isSome := by
  rcases nr_get (k := k) h with ⟨h1, h2⟩ | ⟨v, p, h1, h2, _⟩ <;> rw [h1, h2] <;> rfl
theorem nr_map {xs : List NE} {zs : List NZ} {k : List NK} {v : Int} {u : Value} (ru : RelV (.int v) u) (h : Paired NR xs zs) : Paired NR (xs.map fun x => if x.1 = k then (x.1, x.2.1, v) else x) (zs.map (putAt k u)) := by
  induction h with
  | nil => exact .nil
  | @cons x z xs zs q t ih =>
    refine .cons ?_ ih
    unfold putAt
    dsimp only
    by_cases e : x.1 = k
    · rw [if_pos e, if_pos (q.1.trans e)]
      exact ⟨q.1, q.2.1, ru⟩
    · rw [if_neg e, if_neg fun y => e (q.1.symm.trans y)]
      exact q
theorem nr_app {xs : List NE} {zs : List NZ} {x : NE} {z : NZ} (q : NR x z) (h : Paired NR xs zs) : Paired NR (xs ++ [x]) (zs ++ [z]) := by
  induction h with
  | nil => exact .cons q .nil
  | cons r t ih => exact .cons r ih
theorem nr_put {xs : List NE} {zs : List NZ} {k : List NK} {b : Addr} {v : Int} {u : Value} (ru : RelV (.int v) u) (h : Paired NR xs zs) : Paired NR (putE xs k b v) (storedH zs k b u) := by
  unfold putE storedH
  rw [nr_some h]
  split
  · exact nr_map ru h
  · exact nr_app ⟨rfl, rfl, ru⟩ h
/-! ### in the heap -/
def KnH (H : Hp) (a : Addr) (xs : List NE) : Prop := H a = some (.ext (NDict a xs)) ∧ ∀ x ∈ xs, TupAt H x.2.1 (x.1.map nkV)
section
variable {P : Program} {w : World} {H : Hp} {h : Heap} {a b : Addr} {k : List NK} {xs : List NE}
theorem nk_items : ∀ {k : List NK} {us : List Value}, Vals (k.map nkV) us → ItemsAre (nKind P w) k us
  | [], [], _ => .nil
  | none :: k, u :: us, .cons r t => by
    cases (show u = Value.none from r)
    exact .cons rfl (nk_items t)
  | some i :: k, u :: us, .cons r t => by
    obtain ⟨tk, rfl⟩ := (show ∃ t, u = Value.int i t from r)
    exact .cons (nkIs_int i tk) (nk_items t)
theorem nkey_of (ok : HOk P w H h) (e : TupAt H b (k.map nkV)) : (tupleKind (nKind P w)).is h k b := by
  obtain ⟨ob0, _, e⟩ := e
  have q : ObjOk P w H h b (.tup (k.map nkV)) := (ok b _ e).2
  obtain ⟨_, us, rel, ob, g1, g2, n, g3⟩ := q
  exact ⟨ob, us.toArray, n, g1, g2, g3, by rw [List.toList_toArray]; exact nk_items rel⟩
theorem nr_keys {zs : List NZ} (ok : HOk P w H h) (r : Paired NR xs zs) (each : ∀ x ∈ xs, TupAt H x.2.1 (x.1.map nkV)) : ∀ z ∈ zs, (tupleKind (nKind P w)).is h z.1 z.2.1 := by
  induction r with
  | nil => intro z m; cases m
  | @cons x z xs zs q t ih =>
    intro y m
    rcases List.mem_cons.mp m with rfl | m
    · rw [q.1, q.2.1]
      exact nkey_of ok (each x (by simp))
    · exact ih (fun x m => each x (List.mem_cons_of_mem _ m)) y m
theorem kn_of (ok : HOk P w H h) (e : KnH H a xs) : (a == sysModules) = false ∧ xs.length ≤ sizeLine ∧ ∃ zs, Paired NR xs zs ∧ h.DictOfH (tupleKind (nKind P w)) a zs := by
  have q : ObjOk P w H h a (.ext (NDict a xs)) := ok a _ e.1
  obtain ⟨⟨q1, q2, zs, q3, q4, o, es, ep, q5, q6, q7, q8⟩, _⟩ := q
  exact ⟨q1, q2, zs, q3, o, es, ep, q5, q6, q7, q8, nr_keys ok q3 e.2, q4⟩
theorem kn_new {H' : Hp} {h' : Heap} {zs : List NZ} (sys : (a == sysModules) = false) (few : xs.length ≤ sizeLine) (r : Paired NR xs zs) (d : h'.DictOfH (tupleKind (nKind P w)) a zs) : ObjOk P w H' h' a (.ext (NDict a xs)) := by
  obtain ⟨o, es, ep, q5, q6, q7, q8, _, q9⟩ := d
  refine ⟨⟨sys, few, zs, r, q9, o, es, ep, q5, q6, q7, q8⟩, ⟨o, q5⟩, fun h1 h2 p st => ?_⟩
  obtain ⟨p1, p2, zs', p3, p4, o', es', ep', p5, p6, p7, p8⟩ := p
  exact ⟨p1, p2, zs', p3, p4, o', es', ep', st _ p5, p6, p7, p8⟩
end
/-! ### the rules -/
def sKPut (td ty tv : TE) : TS := fun D σ H => tv σ H fun v H1 => td σ H1 fun x H2 => ty σ H2 fun y H3 => ∃ a b xs k i, x = .ref a ∧ y = .ref b ∧ v = .int i ∧ KnH H3 a xs ∧ TupAt H3 b (k.map nkV) ∧ xs.length < sizeLine ∧ D.nx σ (upd H3 a (.ext (NDict a (putE xs k b i))))
def tKNew : TE := fun _ H Q => ∀ p, H p = none → Q (.ref p) (upd H p (.ext (NDict p [])))
section
variable {X : Cx} {o i value : Expr} {pos pos' : Pos} {td ty tv : TE}
theorem ps_kput (hu : X.A.units + 1 < cLine) (ho : PE X o td) (hi : PE X i ty) (hv : PE X value tv) (hs : swapsWith value (some (.Subscript o i pos')) pos.line X.env = pure false) : PS X (.Assign [.Subscript o i pos'] value pos) (sKPut td ty tv) :=
  ⟨fun pins s σ H D I q => by
    refine wpAny_Assign_Subscript (thn (hv.run pins s σ H _ I q) ?_) hs
    rintro r s1 ⟨v, H1, I1, rv, q1⟩
    refine thn (ho.run pins s1 σ H1 _ I1 q1) ?_
    rintro u s2 ⟨x, H2, I2, rx, q2⟩
    refine thn (hi.run pins s2 σ H2 _ I2 q2) ?_
    rintro iv s3 ⟨y, H3, I3, ry, a, b, xs, k, n, rfl, rfl, rfl, kn, hb, few, q3⟩
    cases rx; cases ry
    obtain ⟨sys, fit, zs, rel, d⟩ := kn_of I3.hok kn
    have zl := paired_len rel
    refine wpAny_setItem_heap (hsz := by omega) (tupleKind_room_in1 hu) (nkey_of I3.hok hb) d fun h' d' same => ⟨σ, _, ?_, q3⟩
    have there : ∃ q, h'.get? a = some q := let ⟨q, _, _, hq, _⟩ := d'; ⟨q, hq⟩
    have pl := putE_len xs k b n
    exact d_write I3 (by rw [kn.1]; exact True.intro) same there (kn_new sys (by omega) (nr_put rv rel) d')⟩
theorem pe_knew : PE X (.Dict [] [] pos) tKNew :=
  ⟨fun pins s σ H Q I q => by
    have sys : (s.heap.objs.size == sysModules) = false := beq_eq_false_iff_ne.mpr (Nat.ne_of_gt I.big)
    have ok := fun (H' : Hp) => kn_new (P := X.prog) (w := X.w) (H' := H') (xs := []) sys (Nat.zero_le _) .nil (Heap.DictOfH.new s.heap)
    exact wpAny_Dict_empty ⟨.ref s.heap.objs.size, _, I.laid (t' := s.toks) (fun _ _ e => Heap.get?_push_of_some _ e) (Nat.le_refl _) (ok _), rfl, q _ (I.hok.fresh (Nat.le_refl _))⟩⟩
end
end DL
namespace DL
open PySem L2 PyProof.Rows PySem.Spec
/-! ### an own thing of any kind, at its place -/
def SV.flag : SV → Bool
  | .d _ => false
  | .ad _ => false
  | .l b _ => b
  | .m b _ _ => b
  | .k b _ => b
  | .s b _ _ _ => b
def SvAt (K : PySem.W.Frag) (F H : Hp) (a : Addr) : SV → Prop
  | .d _ => False
  | .ad _ => False
  | .l _ xs => ∃ us, H a = some (.lst us) ∧ DpAll K F us xs
  | .m _ t kvs => DicOk K F H a t kvs
  | .k _ kvs => KnAt F H a kvs
  | .s _ n t rows => SkAt K F H a n t rows
section
variable {K : PySem.W.Frag} {z : Fx} {r : Rho} {s : L2.St} {H F H' F' : Hp} {a p : Addr} {sv sv' : SV} {v : V}
theorem SvAt.own (h : SvAt K F H a sv) : sv.own = true := by cases sv <;> first | rfl | exact h.elim
theorem RS.parts {n : Nat} (h : RS K z n F H v sv) (o : sv.own = true) : ∃ a, v = .ref a ∧ F a = none ∧ z.H0 a = none ∧ SvAt K F H a sv ∧ (sv.flag = true → z.rf n = some a) := by
  cases sv with
  | d x => cases o
  | ad y => cases o
  | l b xs => obtain ⟨a, us, e, h1, h2, h3, h4, h5⟩ := h; exact ⟨a, e, h2, h3, ⟨us, h1, h4⟩, h5⟩
  | m b t kvs => exact h
  | k b kvs => exact h
  | s b n t rows => obtain ⟨a, e, h1, h2, h3, _, h4⟩ := h; exact ⟨a, e, h1, h2, h3, h4⟩
theorem RS.make {n : Nat} (f : F a = none) (h0 : ∀ l, Part H a l → z.H0 l = none) (h : SvAt K F H a sv) (fl : sv.flag = true → z.rf n = some a) : RS K z n F H (.ref a) sv := by
  cases sv with
  | d x => exact h.elim
  | ad y => exact h.elim
  | l b xs => obtain ⟨us, h1, h4⟩ := h; exact ⟨a, us, rfl, h1, f, h0 a part_self, h4, fl⟩
  | m b t kvs => exact ⟨a, rfl, f, h0 a part_self, h, fl⟩
  | k b kvs => exact ⟨a, rfl, f, h0 a part_self, h, fl⟩
  | s b n t rows => exact ⟨a, rfl, f, h0 a part_self, h, h0, fl⟩
theorem SvAt.there (h : SvAt K F H a sv) : ∃ o, H a = some o := by
  cases sv with
  | d x => exact h.elim
  | ad y => exact h.elim
  | l b xs => obtain ⟨us, h1, _⟩ := h; exact ⟨_, h1⟩
  | m b t kvs => exact DicOk.there h
  | k b kvs => exact KnAt.there h
  | s b n t rows => obtain ⟨C, dx, fs, g⟩ := SkAt.there h; exact ⟨_, g⟩
/-- its parts: itself; a list that is not frozen -/
theorem SvAt.part {b : Addr} (h : SvAt K F H a sv) (p : Part H a b) : b = a ∨ ∃ vs, H b = some (.lst vs) ∧ F b = none := by
  cases sv with
  | d x => exact h.elim
  | ad y => exact h.elim
  | l q xs => obtain ⟨us, h1, _⟩ := h; exact .inl (part_lst h1 p)
  | m q t kvs => exact .inl (DicOk.one h p)
  | k q kvs => exact .inl (KnAt.one h p)
  | s q n t rows => exact SkAt.rows h p
theorem SvAt.noTup (h : SvAt K F H a sv) {ob : Obj} {vs : List V} (e : H a = some (tupHO ob vs)) : False := by
  have e : H a = some (.tup vs) ∨ H a = some (.frz ob (.tup vs)) := by rcases tupHO_cases ob vs with q | q <;> rw [q] at e <;> simp [e]
  cases sv with
  | d x => exact h
  | ad y => exact h
  | l b xs => obtain ⟨us, h1, _⟩ := h; simp [h1] at e
  | m b t kvs => rcases h with ⟨_, ks, h1, _⟩ | ⟨_, ks, h1, _⟩ <;> simp [h1] at e
  | k b kvs => obtain ⟨xs, h1, _⟩ := h; simp [h1] at e
  | s b n t rows => obtain ⟨C, dx, fs, g⟩ := SkAt.there h; simp [g] at e
theorem SvAt.mono (h : SvAt K F H a sv) (e : SubH F F') (hh : ∀ b, Part H a b → ∀ o, H b = some o → H' b = some o) (hn : ∀ b, Part H a b → ∀ o, H b = some o → F b = none → F' b = none) : SvAt K F' H' a sv := by
  cases sv with
  | d x => exact h
  | ad y => exact h
  | l b xs => obtain ⟨us, h1, h2⟩ := h; exact ⟨us, hh _ part_self _ h1, dpa_mono e h2⟩
  | m b t kvs => exact DicOk.mono h e (hh _ part_self)
  | k b kvs => exact KnAt.mono h e (hh _ part_self)
  | s b n t rows => exact SkAt.mono h e hh hn
/-- an own thing takes another content -/
theorem Rep.renew (R : Rep K z r s H F) {i : Nat} {o : HO} (hi : r[i]? = some (some sv)) (own : sv.own = true) (hs : s[i]? = some (some (.ref p))) (new : SvAt K F (upd H p o) p sv') (fl : sv'.flag = sv.flag) (parts : ∀ b, Part (upd H p o) p b → Part H p b) : Rep K z (r.set i (some sv')) s (upd H p o) F := by
  obtain ⟨v, h1, rs⟩ := R.slots i _ hi
  rw [hs] at h1; cases h1
  have h0p : ∀ l, Part H p l → z.H0 l = none := fun l q => (rs.part own rfl q).2.2
  obtain ⟨a, e, hf, h0, _, hrf⟩ := rs.parts own
  cases e
  have lr := R.len
  refine ⟨fun b u q => ?_, fun b u q => ?_, R.f0, R.nw, fun j x q => ?_, R.ap_upd hi own hs parts, by rw [List.length_set]; exact lr⟩
  · rw [upd_ne fun e => by rw [e, hf] at q; cases q]
    exact R.fh b u q
  · rw [upd_ne fun e => by rw [e, h0] at q; cases q]
    exact R.old b u q
  · rcases get_set_cases q with ⟨rfl, e⟩ | ⟨ne, q⟩
    · cases e
      exact ⟨_, hs, RS.make hf (fun l q => h0p l (parts l q)) new fun q => hrf (fl ▸ q)⟩
    · obtain ⟨v, q1, q2⟩ := R.slots j x q
      refine ⟨v, q1, q2.mono (.refl _) (fun a b e hp o2 u hu => ?_) fun _ _ _ _ g _ _ _ _ => g⟩
      rw [upd_ne (R.other ne hi own hs q o2 (by rw [q1, e]) hp)]
      exact hu
/-- a new own thing -/
theorem Rep.putNew (R : Rep K z r s H F) {i : Nat} {o : HO} (hp : H p = none) (new : SvAt K F (upd H p o) p sv) (fl : sv.flag = false) (parts : ∀ b, Part (upd H p o) p b → H b = none) : Rep K z (r.set i (some sv)) (s.set i (some (.ref p))) (upd H p o) F := by
  have R1 := R.grow (Grow.loose (o := o) R.fh hp)
  have lr := R.len
  refine ⟨R1.fh, R1.old, R1.f0, R1.nw, fun j x e => ?_, R.ap.new (i := i) (P := fun b => H b = none) (fun b e => R.free e) fun j b h => by
    rcases owns_set h with ⟨e, _, a, ea, q⟩ | ⟨n, h⟩
    · cases ea; exact .inl ⟨e, parts b q⟩
    · exact .inr ⟨n, R.ownH (SubH.new hp) h⟩, by rw [List.length_set, List.length_set]; exact lr⟩
  · have hj : j < r.length := by
      have := (List.getElem?_eq_some_iff.mp e).1
      rwa [List.length_set] at this
    rcases get_set_cases e with ⟨rfl, e2⟩ | ⟨ne, e2⟩
    · cases e2
      exact ⟨_, List.getElem?_set_self (lr ▸ hj), RS.make (R.fh.none hp) (fun l q => R.old.none (parts l q)) new fun q => by rw [fl] at q; cases q⟩
    · obtain ⟨v, g1, g2⟩ := R1.slots j x e2
      exact ⟨v, by rw [List.getElem?_set_ne (Ne.symm ne)]; exact g1, g2⟩
/-- the own thing of a slot, seen -/
theorem Rep.known {b : Bool} {kvs : List (List NK × Int)} {i : Nat} (R : Rep K z r s H F) (hi : r[i]? = some (some (.k b kvs))) : ∃ p xs, s[i]? = some (some (.ref p)) ∧ KnH H p xs ∧ xs.map NE.kv = kvs ∧ ∀ x ∈ xs, TupAt F x.2.1 (x.1.map nkV) := by
  obtain ⟨v, h1, a, rfl, _, _, ⟨xs, h2, h3, h4⟩, _⟩ := R.slots i _ hi
  exact ⟨a, xs, h1, ⟨h2, fun x m => (h3 x m).mono R.fh⟩, h4, h3⟩
end
/-! ### rows as keys -/
def nkOf : D → Option NK
  | .none => some none
  | .int i => some (some i)
  | _ => none
def nksOf : List D → Option (List NK)
  | [] => some []
  | d :: ds => (nkOf d).bind fun k => (nksOf ds).map (k :: ·)
def rowOf : D → Option (List NK)
  | .tuple ds => nksOf ds
  | _ => none
theorem nksOf_rel {K : PySem.W.Frag} {F : Hp} : ∀ {ds : List D} {vs : List V} {k : List NK}, DpAll K F vs ds → nksOf ds = some k → vs = k.map nkV
  | [], [], _, _, e => by cases e; rfl
  | d :: ds, v :: vs, k, .cons h t, e => by
    obtain ⟨k0, e1, e2⟩ := Option.bind_eq_some_iff.mp e
    obtain ⟨ks, e3, rfl⟩ := Option.map_eq_some_iff.mp e2
    rw [nksOf_rel t e3]
    cases d with
    | none => cases e1; rw [h.inv]; rfl
    | int i => cases e1; rw [h.inv]; rfl
    | _ => cases e1
theorem rowOf_rel {K : PySem.W.Frag} {F : Hp} {d : D} {y : V} {k : List NK} (h : Dp K F y d) (e : rowOf d = some k) : ∃ b, y = .ref b ∧ TupAt F b (k.map nkV) := by
  cases d with
  | tuple ds =>
    obtain ⟨b, vs, rfl, at_, each⟩ := h.inv
    cases nksOf_rel each e
    exact ⟨b, rfl, at_⟩
  | _ => cases e
/-! ### {}, in, [], []= -/
def newKM (i : Nat) : SM := fun r => some (.nx (r.set i (some (.k false []))))
def knV (sv : Option (Option SV)) : Option (List (List NK × Int)) := match sv with
  | some (some (.k _ kvs)) => some kvs
  | _ => none
theorem knV_some {sv : Option (Option SV)} {kvs : List (List NK × Int)} (h : knV sv = some kvs) : ∃ b, sv = some (some (.k b kvs)) := by
  unfold knV at h
  split at h
  · cases h; exact ⟨_, rfl⟩
  · cases h
def intOf : D → Option Int
  | .int i => some i
  | _ => none
def putKM (i : Nat) (fk fv : EM) : SM := fun r => (fv r).bind fun p => (intOf p.1).bind fun v => (knV p.2[i]?).bind fun _ => (fk p.2).bind fun q => (knV q.2[i]?).bind fun kvs => (rowOf q.1).bind fun k =>
  if szOk kvs.length then some (.nx (q.2.set i ((q.2[i]?.bind id).map fun sv => SV.k sv.flag (putN kvs k v)))) else none
section
variable {X : Cx} {W : String → Hp → Prop} {a b : Expr} {f g : EM} {pos : Pos}
theorem ss_newK (i : Nat) {x : Str} {pos' dpos : Pos} (hN : X.N.Nodup) (hi : X.N[i]? = some x := by rfl) (hx : Loc X.env.scope x := by first | exact Or.inl rfl | exact Or.inr rfl) (hs : swapsWith (.Dict [] [] dpos) (some (.Name x pos')) pos.line X.env = pure false := by rfl) (hf : X.fn x = true ∨ X.env.scope.names.lookup x = some .local := by first | exact .inl rfl | exact .inr rfl | assumption) :
    SS X W (.Assign [.Name x pos'] (.Dict [] [] dpos) pos) (newKM i) :=
  ⟨ps_imp (ps_set hN hi hx pe_knew hs hf) fun D s H ⟨z, r, F, o, R, e, k⟩ => by
    cases e
    intro p new
    have kn : KnAt F (upd H p (.ext (NDict p []))) p [] := ⟨[], upd_same, nofun, rfl⟩
    exact k _ _ F (R.putNew new kn rfl fun b q => by rw [kn.one q]; exact new) (.refl _)⟩
theorem ss_putK (i : Nat) {x : Str} {p pos' : Pos} {ie value : Expr} {fk fv : EM} (hu : X.A.units + 1 < cLine) (hk : SE X ie fk) (hvv : SE X value fv) (hN : X.N[i]? = some x := by rfl) (hv : Vis X.env.scope x := by first | exact Or.inl rfl | exact Or.inr (Or.inl rfl) | exact Or.inr (Or.inr rfl)) (hd : (x == ("__debug__" : Str)) = false := by decide)
    (hcd : (x == ("__classdict__" : Str)) = false := by decide) (hs : swapsWith value (some (.Subscript (.Name x p) ie pos')) pos.line X.env = pure false := by rfl) :
    SS X W (.Assign [.Subscript (.Name x p) ie pos'] value pos) (putKM i fk fv) := ⟨ps_imp (ps_kput hu (pe_var hN hv hd hcd) hk.pe hvv.pe hs) fun D s H ⟨z, r, F, o, R, e, k⟩ => by
  obtain ⟨⟨dv, r1⟩, e1, e⟩ := Option.bind_eq_some_iff.mp e
  obtain ⟨v, e2, e⟩ := Option.bind_eq_some_iff.mp e
  obtain ⟨kv0, e3, e⟩ := Option.bind_eq_some_iff.mp e
  obtain ⟨⟨dk, r2⟩, e4, e⟩ := Option.bind_eq_some_iff.mp e
  obtain ⟨kvs, e5, e⟩ := Option.bind_eq_some_iff.mp e
  obtain ⟨row, e6, e⟩ := Option.bind_eq_some_iff.mp e
  split at e
  · rename_i hz
    cases e
    have ev : dv = .int v := by cases dv <;> cases e2; rfl
    subst ev
    obtain ⟨b0, hi0⟩ := knV_some e3
    obtain ⟨bb, hi⟩ := knV_some e5
    refine ⟨z, r, F, _, r1, R, e1, fun y H1 F1 R1 sb1 dy => ?_⟩
    obtain ⟨p0, xs0, g1, _, _, _⟩ := R1.known hi0
    refine ⟨_, g1, z, r1, F1, dk, r2, R1, e4, fun y2 H2 F2 R2 sb2 dy2 => ?_⟩
    obtain ⟨p1, xs, h1, h2, h3, h4⟩ := R2.known hi
    have ep : p1 = p0 := by have := g1.symm.trans h1; cases this; rfl
    subst ep
    obtain ⟨b, rfl, hb⟩ := rowOf_rel dy2 e6
    have hi' : r2[i]? = some (some (.k bb kvs)) := hi
    have xl : xs.length = kvs.length := by rw [← h3, List.length_map]
    refine ⟨p1, b, xs, row, v, rfl, rfl, dy.inv, h2, hb.mono R2.fh, by rw [xl]; exact szOk_lt hz, k _ _ F2 ?_ (sb1.trans sb2)⟩
    have en : (r2[i]?.bind id).map (fun sv => SV.k sv.flag (putN kvs row v)) = some (.k bb (putN kvs row v)) := by rw [hi']; rfl
    show Rep _ _ (r2.set i ((r2[i]?.bind id).map fun sv => SV.k sv.flag (putN kvs row v))) _ _ _
    rw [en]
    have kn : KnAt F2 (upd H2 p1 (.ext (NDict p1 (putE xs row b v)))) p1 (putN kvs row v) := ⟨putE xs row b v, upd_same, fun x m => ?_, by rw [putE_kv, h3]⟩
    exact R2.renew (sv := .k bb kvs) (sv' := .k bb (putN kvs row v)) hi' rfl g1 kn rfl fun b q => .inl (kn.one q)
    rcases putE_at m with ⟨q1, q2⟩ | ⟨y, my, q1, q2⟩
    · rw [q1, q2]; exact hb
    · rw [q1, q2]; exact h4 y my
  · cases e⟩
end
end DL
namespace DL
open PySem L2 PyProof.Rows PySem.Spec
/-! ### a def one parameter of which (the j-th) is an own thing of the caller's, of any kind: it may be changed -/
/-! ### the call -/
end DL
namespace DL
open PySem L2 PyProof.Rows PySem.Spec
/-! ### xs + ys: a new list, to be owned -/
end DL
namespace DL
open PySem L2 PyProof.Rows PySem.Spec
/-! xs.index(x), xs a list or a tuple -/
end DL
/-! x = len(f(..)) in a try with one clause -/
namespace DL
open PySem L2
end DL
/-! a dict made anew: a display, a def that gives its own one back; a, b = {k: v}, y; a, b = x, f(..) -/
namespace DL
open PySem L2 PyProof.Rows PySem.Spec
/-! ### a body that ends with `return x`, x an own dict -/
end DL
/-! a seeker in a slot: what it has, what may be done to it -/
namespace DL
open PySem L2 PyProof.Rows PySem.Spec
/-- what the class must have -/
structure SkC (K : PySem.W.Frag) (C : Addr) : Prop where
  at_ : PySem.W.nsIn K mainGlobals "Seeker" = some (some (.ref C))
  cls : Cls K C
  net : NoAttr K C "net"
  rows : NoAttr K C "rows"
  told : NoAttr K C "told"
section
variable {K : PySem.W.Frag} {z : Fx} {r : Rho} {s : L2.St} {H F : Hp} {i : Nat} {b : Bool} {n t : D} {rows rows' : List D} {C a dx l : Addr} {vn vt : V} {vs vs' : List V}
/-- what stands there -/
theorem Rep.sk (R : Rep K z r s H F) (T : SkC K C) (hi : r[i]? = some (some (.s b n t rows))) : ∃ a dx l vn vt vs, s[i]? = some (some (.ref a)) ∧ H a = some (.ins C dx (seekF vn l vt)) ∧ F dx = some (.own a) ∧ H l = some (.lst vs) ∧ F l = none ∧ Dp K F vn n ∧ Dp K F vt t ∧ DpAll K F vs rows := by
  obtain ⟨v, at_, a, rfl, _, _, ⟨C', dx, l, vn, vt, vs, h0, h1, h2, h3, h4, h5, h6, h7⟩, _⟩ := R.slots i _ hi
  have : C' = C := by
    have := h0.symm.trans T.at_
    cases this; rfl
  subst this
  exact ⟨a, dx, l, vn, vt, vs, at_, h1, h2, h3, h4, h5, h6, h7⟩
theorem sk_part (h : H a = some (.ins C dx (seekF vn l vt))) : Part H a l := .inr ⟨C, dx, _, h, rfl⟩
theorem sk_parts (h : H a = some (.ins C dx (seekF vn l vt))) {x : Addr} (p : Part H a x) : x = a ∨ x = l := by
  rcases p with p | ⟨C', dx', fs, g1, g2⟩
  · exact .inl p
  · rw [h] at g1
    cases g1
    have : some (V.ref l) = some (V.ref x) := g2
    cases this
    exact .inr rfl
end
end DL
/-! methods, of a seeker in a slot; what they raise -/
namespace DL
open PySem L2 PyProof.Rows PySem.Spec
/-! ### a def that may raise, one parameter of which (the j-th) is an own thing of the caller's -/
/-! ### the calls -/
end DL
/-! a new seeker -/
namespace DL
open PySem L2 PyProof.Rows PySem.Spec
/-! ### the call: a loose seeker -/
end DL
/-! a seeker's method in a try, with several clauses -/
namespace DL
open PySem L2 PyProof.Rows PySem.Spec
inductive SHds (X : Cx) (W : String → Hp → Prop) (rs : List String) : List ExceptHandler → List (Value × (Addr → Value → Option Addr → TS)) → List (String × SM) → Prop
  | nil : SHds X W rs [] [] []
  | cons {c : String} {C : Addr} {b₀ : Stmt} {suite : List Stmt} {np ph : Pos} {h : SM} {hds : List ExceptHandler} {l : List (Value × (Addr → Value → Option Addr → TS))} {hs : List (String × SM)} (T : Err X.K X.mg c C) (hg : Gl X (Str.ofString c)) (hd : (Str.ofString c == ("__debug__" : Str)) = false)
      (dis : ∀ c' ∈ rs, c' ≠ c → ∀ C', X.mg (Str.ofString c') = some (.ref C') → PySem.W.exmOne X.K (.ref C') (.ref C) = some false) (hsu : ∀ a pn, SSs (X.suite a pn) W (b₀ :: suite) h) (r : SHds X W rs hds l hs) :
      SHds X W rs (.ExceptHandler (some (.Name (Str.ofString c) np)) none (b₀ :: suite) ph :: hds) ((.ref C, fun _ _ _ => liftS X.K W h) :: l) ((c, h) :: hs)
section
variable {X : Cx} {W : String → Hp → Prop} {rs : List String} {hds : List ExceptHandler} {l : List (Value × (Addr → Value → Option Addr → TS))} {hs : List (String × SM)}
theorem SHds.ok (h : SHds X W rs hds l hs) : HdsOk X hds l := by
  induction h with
  | nil => exact .nil
  | cons T hg hd dis hsu r ih => exact .cons ⟨hg, hd, .inl T.at_⟩ (fun a oe cls d pn _ _ => (hsu a _).ps) ih
end
/-! ### a, b = C(..), y -/
theorem Rep.sk_kept {K : PySem.W.Frag} {z : Fx} {r r' : Rho} {s s' : L2.St} {H F H' F' : Hp} {a : Addr} {n t : D} {rows : List D} (R : Rep K z r s H F) (R' : Rep K ⟨bare r s H, F, z.rf⟩ r' s' H' F') (nf : F a = none) (no : ∀ b, Part H a b → z.H0 b = none ∧ ¬ OwnAt r s H b) (sk : SkAt K F H a n t rows) (ff : SubH F F') :
    F' a = none ∧ (∀ b, Part H' a b → z.H0 b = none ∧ ¬ OwnAt r' s' H' b) ∧ SkAt K F' H' a n t rows := by
  obtain ⟨C, dx, l, vn, vt, vs, h0, h1, h2, h3, h4, h5, h6, h7⟩ := sk
  have p : Part H a l := sk_part h1
  have nt : ¬ IsTu (.ins C dx (seekF vn l vt)) := fun ⟨ob, ws, q⟩ => by rcases tupHO_cases ob ws with e | e <;> rw [e] at q <;> cases q
  obtain ⟨a1, a2, a3⟩ := R.loose_kept R' h1 nf (no a part_self).2 nt
  obtain ⟨l1, l2, l3⟩ := R.loose_kept R' h3 h4 (no l p).2 not_tu
  refine ⟨a2, fun b q => ?_, C, dx, l, vn, vt, vs, h0, a1, ff _ _ h2, l1, l2, dp_mono ff h5, dp_mono ff h6, dpa_mono ff h7⟩
  rcases sk_parts a1 q with rfl | rfl
  · exact ⟨(no b part_self).1, a3⟩
  · exact ⟨(no b p).1, l3⟩
end DL
/-! a def with any number of own things of the caller's among its arguments -/
namespace DL
open PySem L2 PyProof.Rows PySem.Spec
end DL
/-! the call of a def with any number of own things among its arguments -/
namespace DL
open PySem L2 PyProof.Rows PySem.Spec
/-! ### the arguments: none for a datum, some i for the own thing of slot i -/
/-! ### what stands behind the pattern -/
end DL
/-! a, b = C(..), C(..); a, b, c = C(..), C(..), C(..) -/
namespace DL
open PySem L2 PyProof.Rows PySem.Spec
/-- a seeker that no slot has yet -/
structure Loose (K : PySem.W.Frag) (z : Fx) (r : Rho) (s : L2.St) (H F : Hp) (a : Addr) (n t : D) (rows : List D) : Prop where
  nf : F a = none
  no : ∀ b, Part H a b → z.H0 b = none ∧ ¬ OwnAt r s H b
  sk : SkAt K F H a n t rows
section
variable {K : PySem.W.Frag} {z : Fx} {r r' : Rho} {s s' : L2.St} {H F H' F' : Hp} {a b : Addr} {n t n' t' : D} {rows rows' : List D}
theorem Loose.kept (L : Loose K z r s H F a n t rows) (R : Rep K z r s H F) (R' : Rep K ⟨bare r s H, F, z.rf⟩ r' s' H' F') (ff : SubH F F') : Loose K z r' s' H' F' a n t rows := by
  obtain ⟨h1, h2, h3⟩ := R.sk_kept R' L.nf L.no L.sk ff
  exact ⟨h1, h2, h3⟩
theorem bare_gone (R : Rep K z r s H F) {b : Addr} (h : bare r s H b = none) : z.H0 b = none := by
  by_cases p : OwnAt r s H b
  · exact (R.own_facts p).2.2
  · rw [bare_not p] at h
    exact R.old.none h
theorem Loose.up (R : Rep K z r s H F) (L : Loose K ⟨bare r s H, F, z.rf⟩ r' s' H' F' a n t rows) : Loose K z r' s' H' F' a n t rows :=
  ⟨L.nf, fun b p => ⟨bare_gone R (L.no b p).1, (L.no b p).2⟩, L.sk⟩
/-- the old one's parts were there -/
theorem Loose.there (L : Loose K z r s H F a n t rows) (R' : Rep K ⟨bare r s H, F, z.rf⟩ r' s' H' F') {x : Addr} (p : Part H' a x) : bare r s H x ≠ none := by
  obtain ⟨C, dx, l, vn, vt, vs, h0, h1, h2, h3, _⟩ := L.sk
  have b1 : bare r s H a = some (.ins C dx (seekF vn l vt)) := by rw [bare_not (L.no a part_self).2]; exact h1
  have b2 : bare r s H l = some (.lst vs) := by rw [bare_not (L.no l (sk_part h1)).2]; exact h3
  have k1 : H' a = some (.ins C dx (seekF vn l vt)) := R'.old _ _ b1
  rcases sk_parts k1 p with rfl | rfl
  · rw [b1]; simp
  · rw [b2]; simp
theorem Loose.own (L : Loose K z r s H F b n t rows) {i : Nat} {sv : SV} (ap : ∀ x, Part H a x → ¬ Part H b x) : Loose K z (r.set i (some sv)) (s.set i (some (.ref a))) H F b n t rows :=
  ⟨L.nf, fun x p => ⟨(L.no x p).1, fun ⟨j, h⟩ => by
    rcases owns_set h with ⟨_, _, a', e, q⟩ | ⟨_, h⟩
    · cases e; exact ap x q p
    · exact (L.no x p).2 ⟨j, h⟩⟩, L.sk⟩
end
end DL
/-! the body of a try, in which a seeker's methods may raise -/
namespace DL
open PySem L2 PyProof.Rows PySem.Spec
def outTB (K : PySem.W.Frag) (mg : Str → Option Value) (z : Fx) (F : Hp) (V : WX) (D : Ends) : Out → Prop
  | .nx r' => ∀ s' H' F', Rep K z r' s' H' F' → SubH F F' → D.nx s' H'
  | .rt d r' => ∀ v s' H' F', Rep K z r' s' H' F' → SubH F F' → Dp K F' v d → D.rt v H'
  | .bk r' => ∀ s' H' F', Rep K z r' s' H' F' → SubH F F' → D.bk s' H'
  | .ct r' => ∀ s' H' F', Rep K z r' s' H' F' → SubH F F' → D.ct s' H'
  | .ex c r' => ∀ s' H' F' C, mg (Str.ofString c) = some (.ref C) → Rep K z r' s' H' F' → SubH F F' → V (.ref C) none s' H'
theorem outTB.mono {K : PySem.W.Frag} {mg : Str → Option Value} {z : Fx} {F F' : Hp} {V : WX} {D : Ends} {o : Out} (h : outTB K mg z F V D o) (e : SubH F F') : outTB K mg z F' V D o := by
  cases o with
  | nx r => exact fun s H G R sb => h s H G R (e.trans sb)
  | rt d r => exact fun v s H G R sb => h v s H G R (e.trans sb)
  | bk r => exact fun s H G R sb => h s H G R (e.trans sb)
  | ct r => exact fun s H G R sb => h s H G R (e.trans sb)
  | ex c r => exact fun s H G C m R sb => h s H G C m R (e.trans sb)
end DL
/-! xs[l:u:k] of a list -/
namespace DL
open PySem L2 PyProof.Rows PySem.Spec
end DL
/-! texts -/
namespace DL
open PySem L2 PyProof.Rows PySem.Spec
end DL
/-! a def called where it is known that no repr is under way -/
namespace DL
open PySem L2 PyProof.Rows PySem.Spec
/-- as FnOk, but only where it is known that nothing guarded runs around -/
structure FnG (P : Program) (w : World) (K : PySem.W.Frag) (mg : Str → Option Value) (base : Heap) (k : Nat) (f : Addr) (fd : FuncData) (ps : List Str) (sp : Sp) : Prop where
  len : ∀ vs H Q E, sp vs H Q E → vs.length = ps.length
  run : ∀ (A : Around) (outer : List Env) (s : Shared) (H : Hp) (args : Args) (us : List Value) (vs : List V) (Q : VK) (E : XK), A.guards = some [] → Room k A → Env0 P w K mg base A outer s H → BindsTo s fd args (ps.zip us) → Vals vs us → sp vs H Q E →
    codeAny (model P w) A (.call (.ref f) args) (CR CX0 outer P w H s Q E) s
section
variable {P : Program} {w : World} {K : PySem.W.Frag} {mg : Str → Option Value} {base : Heap}
theorem FnG.mono {j k : Nat} {f : Addr} {fd : FuncData} {ps : List Str} {sp : Sp} (F : FnG P w K mg base j f fd ps sp) (h : j ≤ k) : FnG P w K mg base k f fd ps sp :=
  ⟨F.len, fun A outer s H args us vs Q E hg room => F.run A outer s H args us vs Q E hg (room.mono h)⟩
end
end DL
/-! the law's call, where no repr is under way -/
namespace DL
open PySem L2 PyProof.Rows PySem.Spec
section
variable {P : Program} {w : World} {K : PySem.W.Frag} {mg mb : Str → Option Value} {s : Shared} {a : Addr} {vs : List Value} {ns : List Int} {H : Hp}
/-- the script's object -/
def scriptObj (vs : List Value) : Obj := { cls := .type "list", data := .seq vs.toArray }
/-- an abstract heap that tells at most of the script -/
structure Root (P : Program) (w : World) (K : PySem.W.Frag) (s : Shared) (a : Addr) (vs : List Value) (ns : List Int) (H : Hp) : Prop where
  none_ : ∀ b, b ≠ a → H b = none
  one_ : H a = none ∨ (H a = some (.frz (scriptObj vs) (.lst (ns.map V.int))) ∧ K.lookup a = none)
  sql : SqL K H a (ns.map V.int)
  hok : HOk P w H s.heap
/-- what is no script stands in the heap without what is told of -/
theorem Root.base (R : Root P w K s a vs ns H) {b : Addr} {o : Obj} (h : s.heap.get? b = some o) (n : b ≠ a ∨ H a = none) : (hidT s.heap H).get? b = some o := by
  refine hidT_get h ?_
  by_cases e : b = a
  · subst e
    exact n.elim (fun q => absurd rfl q) fun q => q
  · exact R.none_ b e
theorem Root.nsp (R : Root P w K s a vs ns H) (ha : s.heap.get? a = some (scriptObj vs)) {b : Addr} {m : Str → Option Value} (h : s.heap.Ns b m) : (hidT s.heap H).Ns b m := by
  obtain ⟨o, es, ep, at_, dat, rest⟩ := h
  refine ⟨o, es, ep, R.base at_ (.inl fun e => ?_), dat, rest⟩
  subst e
  rw [ha] at at_
  cases at_
  have dat : Data.seq vs.toArray _ = Data.dict es ep := dat
  cases dat
theorem Root.env (R : Root P w K s a vs ns H) (KX : K.In s.heap) (hns : s.heap.Ns mainGlobals mg) (hb : s.heap.Ns builtinsNs mb) (hbb : ∀ x : Str, x ≠ "__name__" → mb x = bootBuiltins x) (hlim : s.heap.NoLimit) (hg : s.gens = #[]) (ha : s.heap.get? a = some (scriptObj vs)) :
    Env0 P w K mg (hidT s.heap H) callerA [] s H := by
  have kin : K.In (hidT s.heap H) := fun b o q => R.base (KX b o q) (by
    rcases R.one_ with h | ⟨_, no⟩
    · exact .inr h
    · exact .inl fun e => by rw [e, no] at q; cases q)
  obtain ⟨mc, c1, c2⟩ := hlim
  exact {
    frames := rfl
    mod := ⟨kin, R.nsp ha hns, ⟨mb, R.nsp ha hb, hbb⟩, ⟨mc, R.nsp ha c1, c2⟩⟩
    bs := fun b o q => of_hidT q
    bsz := Nat.le_of_eq (hidT_size _ _)
    funs := trivial
    frf := fun b m => by cases m
    hok := R.hok
    bare := .of_eq hg }
/-- behind the call all that was there is there -/
theorem Root.old (R : Root P w K s a vs ns H) {Q : VK} {u : Value} {s' : Shared} (c : CE [] P w H s Q u s') : OldK s.heap s'.heap ∧ s'.os = s.os ∧ AllBare s'.gens := by
  obtain ⟨v, H', os, bare, un, hok', _, _⟩ := c
  refine ⟨OldK.of_keep fun b o at_ => ?_, os, bare⟩
  cases told : H b with
  | none => exact un.keep b o at_ told (by intro m; cases m) (by intro m; cases m)
  | some x =>
    have e : b = a := Classical.byContradiction fun n => by rw [R.none_ b n] at told; cases told
    subst e
    rcases R.one_ with n | ⟨y, _⟩
    · rw [n] at told; cases told
    · obtain ⟨g1, _⟩ := R.hok b _ y
      obtain ⟨g2, _⟩ := hok' b _ (un.frzs b _ _ y)
      rw [g1] at at_
      cases at_
      exact g2
end
end DL
/-! repr(t), str(t) of a tuple, where none is under way -/
namespace DL
open PySem L2 PyProof.Rows PySem.Spec
/-! ### the call of a def where no repr is under way -/
end DL
/-! calls as statements of their own, which may raise -/
namespace DL
open PySem L2 PyProof.Rows PySem.Spec
/-! ### where an exception is handled -/
open L2H (RoomH PinOk cxH inv_startH)
end DL
/-! except .. as e, where e is handed to a def that looks at its class -/
namespace DL
open PySem L2 PyProof.Rows PySem.Spec
open L2H (RoomH PinOk)
/-! ### a def that looks at an exception's class -/
/-! ### the try -/
end DL
/-! the suite that hands the exception on; a new seeker's method as a statement of its own -/
namespace DL
open PySem L2 PyProof.Rows PySem.Spec
open L2H (RoomH PinOk)
/-! ### C(..).m() -/
end DL
/-! a comprehension whose element may raise by a call -/
namespace DL
open PySem L2 PyProof.Rows PySem.Spec
/-! ### the exception on its way out of the block -/
end DL
/-! expressions that may raise, by calls -/
namespace DL
open PySem L2 PyProof.Rows PySem.Spec
/-- what is wished of what is let out -/
def errOk (K : PySem.W.Frag) (mg : Str → Option Value) (E : XK) (z : Fx) (F : Hp) (r' : Rho) (c : String) : Prop := ∀ s' H' F', Rep K z r' s' H' F' → SubH F F' → Let mg E c H'
theorem errOk.mono {K : PySem.W.Frag} {mg : Str → Option Value} {E : XK} {z : Fx} {F F1 : Hp} {r' : Rho} {c : String} (h : errOk K mg E z F r' c) (e : SubH F F1) : errOk K mg E z F1 r' c := fun s' H' F' R sb => h s' H' F' R (e.trans sb)
/-! ### [e for t in xs] -/
end DL
/-! x.replace(sign, text, 1): it asks for tokens that are out -/
namespace DL
open PySem L2 PyProof.Rows PySem.Spec
open PySem.Builtin PySem.Builtin.Str PySem.StrLaws
end DL
/-! statements behind which a token is out -/
namespace DL
open PySem L2 PyProof.Rows PySem.Spec
/-! ### a token is given out -/
/-! ### the same in plain data -/
end DL
/-! texts: turned about, counted, searched for a sign, compared, none or once -/
namespace DL
open PySem L2 PyProof.Rows PySem.Spec
open PySem.Builtin PySem.Builtin.Str PySem.StrLaws
/-! ### x * 0, x * 1 -/
end DL
/-! where each tuple stands with its object: t.count(x); len and sorted of an own dict under rows -/
namespace DL
open PySem L2 PyProof.Rows PySem.Spec PySem.SeqAt PySem.W
def countTD : D → D → Option D
  | .tuple ds, x => if SeqAt.shaped (.tuple ds) && SeqAt.shaped x then some (.int (ds.countP fun z => PyData.eqv z x : Nat)) else none
  | _, _ => none
section
variable {X : Cx} {o e : Expr} {to te : TE} {f g : EM} {apos cpos : Pos}
theorem count_call {pins : List (Addr × Obj)} {s : Shared} {σ : L2.St} {H : Hp} {p : Addr} {ds : List D} {x : D} {u : Value} {as bs : List Addr} {Q : VK} (I : L2.Inv X pins σ H s) (row : Reads s.heap (.ref p) (.tuple ds) as) (it : Reads s.heap u x bs)
    (s1 : SeqAt.shaped (.tuple ds) = true) (s2 : SeqAt.shaped x = true) (hu : X.A.units + 65 < cLine) (q : Q (.int (ds.countP fun z => PyData.eqv z x : Nat)) H) : wpAny (model X.prog X.w) X.A (call (.builtin "tuple.count") [.ref p, u]) (EP X pins σ Q) X.xe s := by
  cases row with
  | tuple stands isT isS items =>
    rename_i ob arr n
    obtain ⟨c, dd, dt, sl⟩ := ob
    cases isT; cases isS
    have lay : PyData.canLayAll0 ds = true := by simpa [PyData.canLay0] using SeqAt.canLay_of_shaped s1
    have told := SeqAt.readsAll_map ds _ _ lay items
    have ty : s.TypeIs (.ref p) "tuple" := ⟨_, stands, rfl⟩
    have en : ds.countP (fun z => PyData.eqv z x) = arr.toList.countP (fun y => PyData.eqv (SeqAt.readOf s.heap y) x) := by
      rw [← told, List.countP_map]; rfl
    rw [en] at q
    exact call_meets PySem.F.slot_tuple_count ty PySem.F.entry_tuple_count (PySem.F.args_tuple_count_2 _ _)
      (SeqAt.tuple_countAt p arr n dd sl u (fun y => PyData.eqv (SeqAt.readOf s.heap y) x)) ⟨stands, SeqAt.items_eqAt items it lay (SeqAt.canLay_of_shaped s2) (room_in_shaped s2 hu), ⟨.int (arr.toList.countP (fun y => PyData.eqv (SeqAt.readOf s.heap y) x) : Nat), H, I.tok _, ⟨_, rfl⟩, q⟩⟩
def tCnt (K : PySem.W.Frag) (to te : TE) : TE := fun σ H Q => to σ H fun x H1 => (∃ p ob xs, x = .ref p ∧ ob.dict = none ∧ H1 p = some (.frz ob (.tup xs))) ∧ te σ H1 fun y H2 =>
  ∃ F ds d, SubH F H2 ∧ Dp K F x (.tuple ds) ∧ Dv K F H2 y d ∧ SeqAt.shaped (.tuple ds) = true ∧ SeqAt.shaped d = true ∧ Q (.int (ds.countP fun z => PyData.eqv z d : Nat)) H2
theorem pe_countT (hu : X.A.units + 65 < cLine) (ho : PE X o to) (he : PE X e te) (base : attributeBase o "count" X.env (eval o X.env) = eval o X.env)
    (few : ((backTo cpos (starEach [e] X.env)).all (fun x => !x.1) && (backToKw cpos (keywordEach [] X.env)).all (fun x => x.1.isSome) && decide ([e].length + ([] : List Keyword).length + (if ([] : List Keyword).isEmpty then 0 else 1) < 30)) = true)
    (line : (apos.endLine == cpos.line) = true) (star : starEach [e] X.env = (false, eval e X.env) :: starEach [] X.env) : PE X (.Call (.Attribute o "count" apos) [e] [] cpos) (tCnt X.K to te) := by
  constructor
  intro pins s σ H Q I want
  apply wpAny_Call_method_late base few line rfl
  refine thn (ho.run pins s σ H _ I want) ?_
  rintro v s1 ⟨x, H1, I1, rel, ⟨p, ob, xs, rfl, nodict, stands⟩, want2⟩
  cases rel
  obtain ⟨here, _, its, _, isT⟩ := (show ObjOk X.prog X.w H1 s1.heap p (.frz ob (.tup xs)) from I1.hok p _ stands)
  refine ⟨"tuple", "tuple.count", PySem.F.plainAttrs_tuple, PySem.F.slot_tuple_count, PySem.F.type_tuple_count, isT.typeIs, ?_, ?_⟩
  · rintro a ⟨⟩
    exact ⟨ob, here, nodict⟩
  · rw [star]
    apply Calls.callWith_builtin rfl
    apply Calls.evalArgs_plain
    have args := one_arg (pos := cpos) he I1 want2 (Q := fun us s' => wpAny (model X.prog X.w) X.A (call (.builtin "tuple.count") (.ref p :: us)) (EP X pins σ Q) X.xe s') ?_ star
    · rw [star] at args; exact args
    · rintro u s2 y H2 I2 ru ⟨F, ds, d, sb, dx, dy, s1, s2, q⟩
      obtain ⟨as, row⟩ := L2.Dp.reads I2 _ _ _ (dp_old (dp_mono sb dx)) (show RelV (.ref p) (.ref p) from rfl)
      obtain ⟨bs, it⟩ := L2.Dp.reads I2 _ _ _ (dp_old (dy.dp sb)) ru
      exact count_call I2 row it s1 s2 hu q
theorem se_countT (hu : X.A.units + 65 < cLine) (ho : SE X o f) (he : SW X e g) (base : attributeBase o "count" X.env (eval o X.env) = eval o X.env := by rfl)
    (few : ((backTo cpos (starEach [e] X.env)).all (fun x => !x.1) && (backToKw cpos (keywordEach [] X.env)).all (fun x => x.1.isSome) && decide ([e].length + ([] : List Keyword).length + (if ([] : List Keyword).isEmpty then 0 else 1) < 30)) = true := by rfl)
    (line : (apos.endLine == cpos.line) = true := by rfl) (star : starEach [e] X.env = (false, eval e X.env) :: starEach [] X.env := by rfl) : SE X (.Call (.Attribute o "count" apos) [e] [] cpos) (opM countTD f g) :=
  ⟨pe_imp (pe_countT hu ho.pe he.pe base few line star) fun s H Q ⟨z, r, F, d, r', R, e, k⟩ => by
    obtain ⟨t, r1, x, e1, e2, e3⟩ := opM_some e
    unfold countTD at e3
    split at e3
    · rename_i ds
      split at e3
      · rename_i ok
        simp only [Bool.and_eq_true] at ok
        cases e3
        refine ⟨z, r, F, _, r1, R, e1, fun v H1 F1 R1 sb1 dt => ?_⟩
        obtain ⟨p, vs, rfl, ⟨ob, nd, at_⟩, each⟩ := id dt.inv
        refine ⟨⟨p, ob, vs, rfl, nd, R1.fh _ _ at_⟩, z, r1, F1, x, r', R1, e2, fun w H2 F2 R2 sb2 dx => ?_⟩
        exact ⟨F2, ds, x, R2.fh, dp_mono sb2 dt, dx, ok.1, ok.2, k _ _ _ R2 (sb1.trans sb2) (.int _)⟩
      · cases e3
    · cases e3⟩
end
/-! ### len and sorted of an own dict under rows -/
def nkD : NK → D
  | none => .none
  | some i => .int i
def lenKM (i : Nat) : EM := fun r => (knV r[i]?).map fun kvs => (.int kvs.length, r)
def sortKM (i : Nat) : EM := fun r => (knV r[i]?).bind fun kvs => if sortOk (kvs.map fun kv => .tuple (kv.1.map nkD)) then some (.list (sortL (kvs.map fun kv => .tuple (kv.1.map nkD))), r) else none
theorem nkD_dp {K : PySem.W.Frag} {F : Hp} : ∀ k : List NK, DpAll K F (k.map nkV) (k.map nkD)
  | [] => .nil
  | none :: k => .cons .non (nkD_dp k)
  | some i :: k => .cons (.int i) (nkD_dp k)
section
variable {X : Cx}
theorem call_lenK : CallR X (.builtin "len") (fun us H Q => ∃ (a : Addr) (xs : List NE), us = [.ref a] ∧ KnH H a xs ∧ Q (.int ((xs.length : Nat) : Int)) H) := by
  rintro pins s σ H vs us Q I rel ⟨p, xs, rfl, kn, q⟩
  obtain ⟨u, rfl, rx⟩ := vals1 rel
  cases rx
  obtain ⟨sys, few, zs, r, d⟩ := kn_of I.hok kn
  have hl := Paired.length r
  refine call_len_dictH sys d (by rw [sizeLine_eq] at few; omega) ?_
  rw [← hl]
  exact ⟨.int ((xs.length : Nat) : Int), H, I.tok _, ⟨_, rfl⟩, q⟩
/-- what a walk over such a dict collects: the rows, in order -/
theorem collect_K {A : Around} {E : Value → Shared → Prop} {pins : List (Addr × Obj)} {s : Shared} {σ : L2.St} {H : Hp} {d : Addr} {xs : List NE} {R : List Value → Shared → Prop} (calm : A.handled = none) (I : L2.Inv X pins σ H s) (kn : KnH H d xs)
    (out : ∀ (h' : Heap) (tk : Nat), (∀ b o, s.heap.get? b = some o → h'.get? b = some o) → R (xs.map fun x => Value.ref x.2.1) { s with heap := h', toks := tk }) : wpAny (model X.prog X.w) A (collect (.ref d)) R E s := by
  have q : ObjOk X.prog X.w H s.heap d (.ext (NDict d xs)) := I.hok d _ kn.1
  obtain ⟨⟨own, small, zs, pr, nd, o, es, ep, stands, exact', data, entries⟩, _⟩ := q
  have many : es.size = xs.length := by
    rw [Paired.length pr, ← Array.length_toList, entries, List.length_map]
  refine PySem.W.kdu_collect (kdl_raw own exact' data) calm stands (by omega) fun h' tk acc keeps items => ?_
  have all : acc.toList = zs.map fun z => Value.ref z.2.1 := by
    have es_zs : es.size = zs.length := by rw [← Array.length_toList, entries, List.length_map]
    refine List.ext_getElem (by simp [items.1, es_zs]) fun n l1 l2 => ?_
    obtain ⟨en, at_, key⟩ := items.2 n acc.toList[n] (by simp at l1 ⊢)
    rw [← Array.getElem?_toList, entries, List.getElem?_map] at at_
    obtain ⟨row, hr, rfl⟩ := Option.map_eq_some_iff.mp at_
    rw [key]
    simp [(List.getElem?_eq_some_iff.mp hr).2, NE.raw]
  have same : ∀ {xs : List NE} {zs : List (List NK × Addr × Value)}, Paired (fun (x : NE) (y : List NK × Addr × Value) => y.1 = x.1 ∧ y.2.1 = x.2.1 ∧ RelV (.int x.2.2) y.2.2) xs zs → (zs.map fun z => Value.ref z.2.1) = xs.map fun x => Value.ref x.2.1 := by
    intro xs zs p
    induction p with
    | nil => rfl
    | cons h _ ih => rw [List.map_cons, List.map_cons, ih, h.2.1]
  rw [all, same pr]
  exact out h' tk keeps
theorem refs_vals : ∀ xs : List NE, Vals (xs.map fun x => V.ref x.2.1) (xs.map fun x => Value.ref x.2.1)
  | [] => .nil
  | _ :: xs => .cons rfl (refs_vals xs)
theorem rows_dp {K : PySem.W.Frag} {F : Hp} : ∀ {xs : List NE}, (∀ x ∈ xs, TupAt F x.2.1 (x.1.map nkV)) → DpAll K F (xs.map fun x => V.ref x.2.1) (xs.map fun x => PyData.tuple (x.1.map nkD))
  | [], _ => .nil
  | x :: xs, each => .cons (.tup (each x (by simp)) (nkD_dp x.1)) (rows_dp fun y m => each y (List.mem_cons_of_mem _ m))
theorem call_sortedK (hu : X.A.units + 100 < cLine) (hc : X.calm = true) : CallR X (.builtin "sorted") (fun us H Q => ∃ (d : Addr) (xs : List NE) (F : Hp), us = [V.ref d] ∧ SubH F H ∧ KnH H d xs ∧ (∀ x ∈ xs, TupAt F x.2.1 (x.1.map nkV)) ∧ sortOk (xs.map fun x => .tuple (x.1.map nkD)) = true ∧
    ∀ v H' F', Grow F H F' H' → Dp X.K F' v (.list (sortL (xs.map fun x => .tuple (x.1.map nkD)))) → Q v H') := by
  rintro pins s σ H vs us Q I rel ⟨d, xs, F, rfl, sb, kn, each, ok, give⟩
  obtain ⟨u, rfl, ru⟩ := vals1 rel
  cases ru
  refine sorted_from hu I ok (fun {R} go => ?_) give
  refine collect_K (A := X.A.in1) (I.ok.hd hc) I kn fun h1 tk keeps => ?_
  refine go h1 tk _ (xs.map fun x => V.ref x.2.1) F keeps ?_ (.refl sb) ?_
  · exact refs_vals xs
  · exact rows_dp each
end
section
variable {X : Cx} {pos : Pos}
theorem se_lenK (i : Nat) {x : Str} {p p1 : Pos} (hg : Gl X "len") (hm : X.mg "len" = none) (hN : X.N[i]? = some x := by rfl) (hv : Vis X.env.scope x := by first | exact Or.inl rfl | exact Or.inr (Or.inl rfl) | exact Or.inr (Or.inr rfl)) (hd : (x == ("__debug__" : Str)) = false := by decide)
    (hcd : (x == ("__classdict__" : Str)) = false := by decide) (he : starEach [.Name x p] X.env = [(false, eval (.Name x p) X.env)] := by rfl) : SE X (.Call (.Name "len" p1) [.Name x p] [] pos) (lenKM i) :=
  ⟨pe_imp (pe_callB call_lenK hg hm PySem.boot_len (pa_cons (pe_var hN hv hd hcd) pa_nil he) (by decide) (by decide) he rfl) fun s H Q ⟨z, r, F, d, r', R, e, k⟩ => by
    obtain ⟨kvs, e1, e2⟩ := Option.map_eq_some_iff.mp e
    cases e2
    obtain ⟨b, hi⟩ := knV_some e1
    obtain ⟨p, xs, h1, h2, h3, _⟩ := R.known hi
    refine ⟨_, h1, p, xs, rfl, h2, ?_⟩
    rw [show xs.length = kvs.length by rw [← h3, List.length_map]]
    exact k _ H F R (.refl _) (.int _)⟩
theorem se_sortK (i : Nat) {x : Str} {p p1 : Pos} (hu : X.A.units + 100 < cLine) (hc : X.calm = true) (hg : Gl X "sorted") (hm : X.mg "sorted" = none) (hN : X.N[i]? = some x := by rfl) (hv : Vis X.env.scope x := by first | exact Or.inl rfl | exact Or.inr (Or.inl rfl) | exact Or.inr (Or.inr rfl)) (hd : (x == ("__debug__" : Str)) = false := by decide)
    (hcd : (x == ("__classdict__" : Str)) = false := by decide) (he : starEach [.Name x p] X.env = [(false, eval (.Name x p) X.env)] := by rfl) (hv2 : bootBuiltins "sorted" = some (.builtin "sorted") := by decide +kernel) : SE X (.Call (.Name "sorted" p1) [.Name x p] [] pos) (sortKM i) :=
  ⟨pe_imp (pe_callB (call_sortedK hu hc) hg hm hv2 (pa_cons (pe_var hN hv hd hcd) pa_nil he) (by decide) (by decide) he rfl) fun s H Q ⟨z, r, F, d, r', R, e, k⟩ => by
    obtain ⟨kvs, e1, e2⟩ := Option.bind_eq_some_iff.mp e
    split at e2
    · rename_i ok
      cases e2
      obtain ⟨b, hi⟩ := knV_some e1
      obtain ⟨p, xs, h1, h2, h3, h4⟩ := R.known hi
      have em : (kvs.map fun kv : List NK × Int => PyData.tuple (kv.1.map nkD)) = xs.map fun x => .tuple (x.1.map nkD) := by rw [← h3, List.map_map]; rfl
      rw [em] at ok k
      exact ⟨_, h1, p, xs, F, rfl, R.fh, h2, h4, ok, fun v H' F' G dd => k v H' F' (R.grow G) G.ff dd⟩
    · cases e2⟩
end
end DL
namespace PG
open PySem L2 DL
def N_is_whole : List Str := ["thing", "low", "high"]
def b_is_whole : SM :=
    (retM (andVM (unM (isiD .int) (varM 0)) (andVM (notVM (unM (isiD .bool) (varM 0))) (chM leB leB (varM 1) (varM 0) (varM 2)))))
def g_is_whole : List D → Option D := runF N_is_whole b_is_whole
def N_beside : List Str := ["net", "knot", "found", "other"]
def Ct_beside_1 : TM :=
    (tstM inB (tupM (consM (opM min2D (varM 1) (varM 3)) (consM (opM max2D (varM 1) (varM 3)) nilM))) (opM ixD (varM 0) (cM (PyData.int 1))))
def Ce_beside_1 : EM :=
    (varM 3)
def b_beside : SM :=
    (seqS (asgLM 2 (compM [3] (rng1M (opM ixD (varM 0) (cM (PyData.int 0)))) (nameG 3) Ct_beside_1 Ce_beside_1))
    (retM (unM tupleD (varM 2))))
def g_beside : List D → Option D := runF N_beside b_beside
def N_is_route : List Str := ["net", "thing", "one", "other"]
def Ce_is_route_1 : EM :=
    (callM g_is_whole (consM (varM 2) (consM (cM (PyData.int 0)) (consM (opM subD (opM ixD (varM 0) (cM (PyData.int 0))) (cM (PyData.int 1))) nilM))))
def Ce_is_route_2 : EM :=
    (opM (bD inB) (varM 3) (callM g_beside (consM (varM 0) (consM (varM 2) nilM))))
def b_is_route : SM :=
    (seqS (ifM (orM (notM (truM (unM (isiD .tuple) (varM 1)))) (orM (tstM ltB (unM lenD (varM 1)) (cM (PyData.int 2))) (notM (truM (unM allD (ofL (compM [2] (seqM (varM 1)) (nameG 2) yesM Ce_is_route_1))))))) (retM (cM (PyData.bool false))) skipM)
    (seqS (ifM (orM (tstM neB (unM lenSetD (varM 1)) (unM lenD (varM 1))) (orM (tstM notInB (opM ixD (varM 1) (cM (PyData.int 0))) (opM ixD (varM 0) (cM (PyData.int 2)))) (orM (tstM notInB (opM ixD (varM 1) (unM negD (cM (PyData.int 1)))) (opM ixD (varM 0) (cM (PyData.int 2)))) (tstM gtD (opM ixD (varM 1) (cM (PyData.int 0))) (opM ixD (varM 1) (unM negD (cM (PyData.int 1)))))))) (retM (cM (PyData.bool false))) skipM)
    (retM (unM allD (ofL (compM [2, 3] (zipM (slM (varM 1) noM (someM (unM negD (cM (PyData.int 1))))) (slM (varM 1) (someM (cM (PyData.int 1))) noM)) (tupG 2 (consG (nameG 2) (consG (nameG 3) nilG))) yesM Ce_is_route_2))))))
def g_is_route : List D → Option D := runF N_is_route b_is_route
end PG
local macro_rules | `(tactic| simp_arith [$xs,*]) => `(tactic| simp only [Nat.reduceAdd, Nat.reduceSub, Nat.reduceMul, Int.reduceLT, Int.reduceLE, Int.reducePow, Int.reduceNeg, Int.reduceAdd, Int.reduceSub, Int.reduceMul, Int.reduceBEq, Int.reduceBNe, Int.reduceToNat, $xs,*])
namespace FA
open PySem L2 DL PG
def N__law_same : List Str := ["_law_got", "_law_due", "_law_one", "_law_other"]
def Ce__law_same_1 (hh : List D → Option D) : EM :=
    (callM hh (consM (varM 2) (consM (varM 3) nilM)))
def b__law_same (hh : List D → Option D) : SM :=
    (seqS (ifM (tstM isB (varM 1) (cM PyData.none)) (retM (opM (bD isB) (varM 0) (cM PyData.none))) skipM)
    (seqS (ifM (truM (unM (isiD .bool) (varM 1))) (retM (andVM (unM (isiD .bool) (varM 0)) (opM (bD eqB) (varM 0) (varM 1)))) skipM)
    (seqS (ifM (truM (unM (isiD .tuple) (varM 1))) (seqS (ifM (orM (notM (truM (unM (isiD .tuple) (varM 0)))) (tstM neB (unM lenD (varM 0)) (unM lenD (varM 1)))) (retM (cM (PyData.bool false))) skipM)
    (retM (unM allD (ofL (compM [2, 3] (zipM (varM 0) (varM 1)) (tupG 2 (consG (nameG 2) (consG (nameG 3) nilG))) yesM (Ce__law_same_1 hh)))))) skipM)
    (seqS (ifM (truM (unM (isiD .str) (varM 1))) (retM (andVM (unM (isiD .str) (varM 0)) (opM (bD eqB) (varM 0) (varM 1)))) skipM)
    (retM (andVM (unM (isiD .int) (varM 0)) (andVM (notVM (unM (isiD .bool) (varM 0))) (opM (bD eqB) (varM 0) (varM 1)))))))))
def gr__law_same : Nat → List D → Option D
  | 0 => fun _ => none
  | nn + 1 => runF N__law_same (b__law_same (gr__law_same nn))
def g__law_same : List D → Option D := gr__law_same 40
def N__law_draw : List Str := ["_law_script", "_law_town", "_law_many", "_law_k", "_law_cell", "_law_number"]
def b__law_draw : SM :=
    (seqS (exprM (appM 1 (cM (PyData.int 0))))
    (seqS (asgM 3 (unM lenD (ownM 1)))
    (seqS (asgM 4 (cM (PyData.int 0)))
    (seqS (ifM (truM (varM 0)) (asgM 4 (opM ixD (varM 0) (opM modD (varM 3) (unM lenD (varM 0))))) skipM)
    (seqS (asgM 5 (opM modD (opM addD (varM 4) (opM mulD (cM (PyData.int 104729)) (varM 3))) (cM (PyData.int 4294967291))))
    (seqS (asgM 5 (opM modD (opM mulD (opM modD (opM mulD (varM 5) (varM 5)) (cM (PyData.int 4294967279))) (cM (PyData.int 48271))) (cM (PyData.int 4294967291))))
    (retM (opM modD (opM fdivD (varM 5) (cM (PyData.int 64))) (varM 2)))))))))
def g__law_draw : List D → List D → Option (D × List D) := runR N__law_draw 1 b__law_draw
def N__law_pick : List Str := ["_law_script", "_law_town", "_law_some"]
def b__law_pick : SM :=
    (retM (opM ixD (varM 2) (callRM 1 g__law_draw (consM (varM 0) (hereM 1 (consM (unM lenD (varM 2)) nilM))))))
def g__law_pick : List D → List D → Option (D × List D) := runR N__law_pick 1 b__law_pick
def N__law_net : List Str := ["_law_script", "_law_town", "_law_high", "_law_wide", "_law_many", "_law_every", "_law_one", "_law_ties_here", "_law_k", "_law_rim", "_law_knot", "_law_other"]
def Ce__law_net_1 : EM :=
    (tupM (consM (varM 6) (consM (varM 11) nilM)))
def F__law_net_1 : SM :=
    (asgM 5 (opM addD (varM 5) (ofL (compM [11] (rng2M (opM addD (varM 6) (cM (PyData.int 1))) (varM 4)) (nameG 11) yesM Ce__law_net_1))))
def F__law_net_2 : SM :=
    (seqS (asgM 11 (callRM 1 g__law_draw (consM (varM 0) (hereM 1 (consM (varM 10) nilM)))))
    (putKM 7 (tupM (consM (varM 11) (consM (varM 10) nilM))) (cM (PyData.int 0))))
def F__law_net_3 : SM :=
    (ifM (andM (truM (varM 5)) (tstM ltB (lenKM 7) (varM 3))) (putKM 7 (callRM 1 g__law_pick (consM (varM 0) (hereM 1 (consM (varM 5) nilM)))) (cM (PyData.int 0))) skipM)
def Ct__law_net_1 : TM :=
    (tstM eqB (callRM 1 g__law_draw (consM (varM 0) (hereM 1 (consM (cM (PyData.int 2)) nilM)))) (cM (PyData.int 0)))
def Ce__law_net_2 : EM :=
    (varM 10)
def b__law_net : SM :=
    (seqS (asgM 4 (opM addD (cM (PyData.int 1)) (callRM 1 g__law_draw (consM (varM 0) (hereM 1 (consM (varM 2) nilM))))))
    (seqS (asgM 5 (ofL (lstM nilM)))
    (seqS (forM (rng1M (varM 4)) (nameG 6) F__law_net_1)
    (seqS (newKM 7)
    (seqS (ifM (tstM gtD (callRM 1 g__law_draw (consM (varM 0) (hereM 1 (consM (cM (PyData.int 3)) nilM)))) (cM (PyData.int 0))) (forM (rng2M (cM (PyData.int 1)) (varM 4)) (nameG 10) F__law_net_2) skipM)
    (seqS (forM (rng1M (callRM 1 g__law_draw (consM (varM 0) (hereM 1 (consM (opM addD (varM 3) (cM (PyData.int 1))) nilM))))) (nameG 8) F__law_net_3)
    (seqS (asgLM 9 (compM [10] (rng1M (varM 4)) (nameG 10) Ct__law_net_1 Ce__law_net_2))
    (seqS (ifM (notM (truM (varM 9))) (asgM 9 (ofL (lstM (consM (callRM 1 g__law_draw (consM (varM 0) (hereM 1 (consM (varM 4) nilM)))) nilM)))) skipM)
    (retM (tupM (consM (varM 4) (consM (slM (unM tupleD (sortKM 7)) noM (someM (varM 3))) (consM (unM tupleD (varM 9)) nilM)))))))))))))
def g__law_net : List D → List D → Option (D × List D) := runR N__law_net 1 b__law_net
def N__law_routes : List Str := ["_law_net_here", "_law_rows", "_law_got", "_law_longer", "_law_row", "_law_knot", "_law_tie"]
def Ce__law_routes_1 : EM :=
    (tupM (consM (varM 5) nilM))
def F__law_routes_1 : SM :=
    (ifM (andM (tstM inB (opM ixD (varM 4) (unM negD (cM (PyData.int 1)))) (varM 6)) (orM (tstM notInB (opM ixD (varM 6) (cM (PyData.int 0))) (varM 4)) (tstM notInB (opM ixD (varM 6) (cM (PyData.int 1))) (varM 4)))) (exprM (appM 3 (opM addD (varM 4) (tupM (consM (opM subD (opM addD (opM ixD (varM 6) (cM (PyData.int 0))) (opM ixD (varM 6) (cM (PyData.int 1)))) (opM ixD (varM 4) (unM negD (cM (PyData.int 1))))) nilM))))) skipM)
def F__law_routes_2 : SM :=
    (forM (seqM (opM ixD (varM 0) (cM (PyData.int 1)))) (nameG 6) F__law_routes_1)
def Ct__law_routes_1 : TM :=
    (andM (tstM inB (opM ixD (varM 4) (unM negD (cM (PyData.int 1)))) (opM ixD (varM 0) (cM (PyData.int 2)))) (tstM ltB (opM ixD (varM 4) (cM (PyData.int 0))) (opM ixD (varM 4) (unM negD (cM (PyData.int 1))))))
def Ce__law_routes_2 : EM :=
    (varM 4)
def Wt__law_routes_1 : TM :=
    (truM (varM 1))
def Wb__law_routes_1 : SM :=
    (seqS (newM 3 (lstM nilM))
    (seqS (forM (seqM (varM 1)) (nameG 4) F__law_routes_2)
    (seqS (frzM 3 (asgM 2 (opM addD (varM 2) (ofL (compM [4] (seqM (varM 3)) (nameG 4) Ct__law_routes_1 Ce__law_routes_2)))))
    (asgM 1 (varM 3)))))
def b__law_routes : SM :=
    (seqS (asgLM 1 (compM [5] (seqM (opM ixD (varM 0) (cM (PyData.int 2)))) (nameG 5) yesM Ce__law_routes_1))
    (seqS (asgM 2 (ofL (lstM nilM)))
    (seqS (whileL Wt__law_routes_1 Wb__law_routes_1 1000)
    (retM (unM sortD2 (varM 2))))))
def g__law_routes : List D → Option D := runF N__law_routes b__law_routes
end FA
local macro_rules | `(tactic| simp_arith [$xs,*]) => `(tactic| simp only [Nat.reduceAdd, Nat.reduceSub, Nat.reduceMul, Int.reduceLT, Int.reduceLE, Int.reducePow, Int.reduceNeg, Int.reduceAdd, Int.reduceSub, Int.reduceMul, Int.reduceBEq, Int.reduceBNe, Int.reduceToNat, $xs,*])
namespace L_k04
open PySem L2 DL FA PG
def N__law_is_route : List Str := ["_law_net_here", "_law_thing", "_law_one", "_law_at"]
def F__law_is_route_1 : SM :=
    (wipM [2] (ifM (orM (notM (truM (unM (isiD .int) (varM 2)))) (orM (truM (unM (isiD .bool) (varM 2))) (orM (tstM gtD (opM countTD (varM 1) (varM 2)) (cM (PyData.int 1))) (notM (truM (chM leB ltB (cM (PyData.int 0)) (varM 2) (opM ixD (varM 0) (cM (PyData.int 0))))))))) (retM (cM (PyData.bool false))) skipM))
def F__law_is_route_2 : SM :=
    (wipM [3] (ifM (tstM notInB (unM tupleD (unM sortD2 (slM (varM 1) (someM (opM subD (varM 3) (cM (PyData.int 1)))) (someM (opM addD (varM 3) (cM (PyData.int 1))))))) (opM ixD (varM 0) (cM (PyData.int 1)))) (retM (cM (PyData.bool false))) skipM))
def Sq__law_is_route_1 : SM :=
    (seqS (preM [3] (forM (rng2M (cM (PyData.int 1)) (unM lenD (varM 1))) (nameG 3) F__law_is_route_2))
    (retM (cM (PyData.bool true))))
theorem Sq__law_is_route_1_a (rr : Rho) : Sq__law_is_route_1 rr = (seqS (preM [3] (forM (rng2M (cM (PyData.int 1)) (unM lenD (varM 1))) (nameG 3) F__law_is_route_2))
    (retM (cM (PyData.bool true)))) rr := (rfl)
def Sq__law_is_route_2 : SM :=
    (seqS (ifM (orM (tstM notInB (opM ixD (varM 1) (cM (PyData.int 0))) (opM ixD (varM 0) (cM (PyData.int 2)))) (orM (tstM notInB (opM ixD (varM 1) (unM negD (cM (PyData.int 1)))) (opM ixD (varM 0) (cM (PyData.int 2)))) (tstM ltB (opM ixD (varM 1) (unM negD (cM (PyData.int 1)))) (opM ixD (varM 1) (cM (PyData.int 0)))))) (retM (cM (PyData.bool false))) skipM)
    Sq__law_is_route_1)
theorem Sq__law_is_route_2_a (rr : Rho) : Sq__law_is_route_2 rr = (seqS (ifM (orM (tstM notInB (opM ixD (varM 1) (cM (PyData.int 0))) (opM ixD (varM 0) (cM (PyData.int 2)))) (orM (tstM notInB (opM ixD (varM 1) (unM negD (cM (PyData.int 1)))) (opM ixD (varM 0) (cM (PyData.int 2)))) (tstM ltB (opM ixD (varM 1) (unM negD (cM (PyData.int 1)))) (opM ixD (varM 1) (cM (PyData.int 0)))))) (retM (cM (PyData.bool false))) skipM)
    Sq__law_is_route_1) rr := (rfl)
def Sq__law_is_route_3 : SM :=
    (seqS (preM [2] (forM (seqM (varM 1)) (nameG 2) F__law_is_route_1))
    Sq__law_is_route_2)
theorem Sq__law_is_route_3_a (rr : Rho) : Sq__law_is_route_3 rr = (seqS (preM [2] (forM (seqM (varM 1)) (nameG 2) F__law_is_route_1))
    Sq__law_is_route_2) rr := (rfl)
def b__law_is_route : SM :=
    (seqS (ifM (orM (notM (truM (unM (isiD .tuple) (varM 1)))) (tstM ltB (unM lenD (varM 1)) (cM (PyData.int 2)))) (retM (cM (PyData.bool false))) skipM)
    Sq__law_is_route_3)
def g__law_is_route : List D → Option D := runF N__law_is_route b__law_is_route
def N_law : List Str := ["_law_script", "_law_town", "_law_k", "_law_net_here", "_law_every", "_law_things", "_law_j", "_law_thing", "_law_row", "_law_spot", "_law_route", "_law_at", "_law_odd", "_law_one"]
def F_law_1 : SM :=
    (wipM [9] (asgM 8 (opM addD (varM 8) (tupM (consM (callRM 1 g__law_draw (consM (varM 0) (hereM 1 (consM (opM addD (opM ixD (varM 3) (cM (PyData.int 0))) (cM (PyData.int 1))) nilM)))) nilM)))))
def Sq_law_1 : SM :=
    (seqS (preM [9] (forM (rng1M (opM addD (cM (PyData.int 2)) (callRM 1 g__law_draw (consM (varM 0) (hereM 1 (consM (cM (PyData.int 3)) nilM)))))) (nameG 9) F_law_1))
    (exprM (appM 5 (varM 8))))
theorem Sq_law_1_a (rr : Rho) : Sq_law_1 rr = (seqS (preM [9] (forM (rng1M (opM addD (cM (PyData.int 2)) (callRM 1 g__law_draw (consM (varM 0) (hereM 1 (consM (cM (PyData.int 3)) nilM)))))) (nameG 9) F_law_1))
    (exprM (appM 5 (varM 8)))) rr := (rfl)
def F_law_2 : SM :=
    (wipM [6, 8, 9] (seqS (asgM 8 (tupM nilM))
    Sq_law_1))
def Ce_law_1 : EM :=
    (iteM (tstM ltB (varM 13) (cM (PyData.int 2))) (opM (bD eqB) (varM 13) (cM (PyData.int 1))) (varM 13))
def Sq_law_2 : SM :=
    (exprM (appM 5 (unM tupleD (ofL (compM [13] (seqM (varM 10)) (nameG 13) yesM Ce_law_1)))))
theorem Sq_law_2_a (rr : Rho) : Sq_law_2 rr = (exprM (appM 5 (unM tupleD (ofL (compM [13] (seqM (varM 10)) (nameG 13) yesM Ce_law_1))))) rr := (rfl)
def Sq_law_3 : SM :=
    (seqS (exprM (appM 5 (opM addD (opM addD (slM (varM 10) noM (someM (varM 11))) (slM (varM 10) (someM (varM 11)) (someM (opM addD (varM 11) (cM (PyData.int 1)))))) (slM (varM 10) (someM (varM 11)) noM))))
    Sq_law_2)
theorem Sq_law_3_a (rr : Rho) : Sq_law_3 rr = (seqS (exprM (appM 5 (opM addD (opM addD (slM (varM 10) noM (someM (varM 11))) (slM (varM 10) (someM (varM 11)) (someM (opM addD (varM 11) (cM (PyData.int 1)))))) (slM (varM 10) (someM (varM 11)) noM))))
    Sq_law_2) rr := (rfl)
def Sq_law_4 : SM :=
    (seqS (newM 5 (catOwnM 5 (ofL (lstM (consM (opM addD (opM addD (slM (varM 10) noM (someM (varM 11))) (tupM (consM (varM 12) nilM))) (slM (varM 10) (someM (opM addD (varM 11) (cM (PyData.int 1)))) noM)) (consM (opM addD (slM (varM 10) noM (someM (varM 11))) (slM (varM 10) (someM (opM addD (varM 11) (cM (PyData.int 1)))) noM)) nilM))))))
    Sq_law_3)
theorem Sq_law_4_a (rr : Rho) : Sq_law_4 rr = (seqS (newM 5 (catOwnM 5 (ofL (lstM (consM (opM addD (opM addD (slM (varM 10) noM (someM (varM 11))) (tupM (consM (varM 12) nilM))) (slM (varM 10) (someM (opM addD (varM 11) (cM (PyData.int 1)))) noM)) (consM (opM addD (slM (varM 10) noM (someM (varM 11))) (slM (varM 10) (someM (opM addD (varM 11) (cM (PyData.int 1)))) noM)) nilM))))))
    Sq_law_3) rr := (rfl)
def Sq_law_5 : SM :=
    (seqS (newM 5 (catOwnM 5 (ofL (lstM (consM (varM 10) (consM (unM listD (varM 10)) (consM (unM revD (varM 10)) (consM (slM (varM 10) noM (someM (unM negD (cM (PyData.int 1))))) (consM (slM (varM 10) (someM (cM (PyData.int 1))) noM) (consM (opM addD (varM 10) (slM (varM 10) noM (someM (cM (PyData.int 1))))) nilM))))))))))
    Sq_law_4)
theorem Sq_law_5_a (rr : Rho) : Sq_law_5 rr = (seqS (newM 5 (catOwnM 5 (ofL (lstM (consM (varM 10) (consM (unM listD (varM 10)) (consM (unM revD (varM 10)) (consM (slM (varM 10) noM (someM (unM negD (cM (PyData.int 1))))) (consM (slM (varM 10) (someM (cM (PyData.int 1))) noM) (consM (opM addD (varM 10) (slM (varM 10) noM (someM (cM (PyData.int 1))))) nilM))))))))))
    Sq_law_4) rr := (rfl)
def Sq_law_6 : SM :=
    (seqS (asgM 12 (callRM 1 g__law_pick (consM (varM 0) (hereM 1 (consM (ofL (lstM (consM (cM PyData.none) (consM (unM negD (cM (PyData.int 1))) (consM (opM ixD (varM 3) (cM (PyData.int 0))) (consM (cM (PyData.str "0")) (consM (tupM nilM) (consM (cM (PyData.int 0)) (consM (cM (PyData.int 1)) (consM (opM subD (opM ixD (varM 3) (cM (PyData.int 0))) (cM (PyData.int 1))) nilM)))))))))) nilM)))))
    Sq_law_5)
theorem Sq_law_6_a (rr : Rho) : Sq_law_6 rr = (seqS (asgM 12 (callRM 1 g__law_pick (consM (varM 0) (hereM 1 (consM (ofL (lstM (consM (cM PyData.none) (consM (unM negD (cM (PyData.int 1))) (consM (opM ixD (varM 3) (cM (PyData.int 0))) (consM (cM (PyData.str "0")) (consM (tupM nilM) (consM (cM (PyData.int 0)) (consM (cM (PyData.int 1)) (consM (opM subD (opM ixD (varM 3) (cM (PyData.int 0))) (cM (PyData.int 1))) nilM)))))))))) nilM)))))
    Sq_law_5) rr := (rfl)
def Sq_law_7 : SM :=
    (seqS (asgM 11 (callRM 1 g__law_draw (consM (varM 0) (hereM 1 (consM (unM lenD (varM 10)) nilM)))))
    Sq_law_6)
theorem Sq_law_7_a (rr : Rho) : Sq_law_7 rr = (seqS (asgM 11 (callRM 1 g__law_draw (consM (varM 0) (hereM 1 (consM (unM lenD (varM 10)) nilM)))))
    Sq_law_6) rr := (rfl)
def F_law_3 : SM :=
    (wipM [6, 10, 11, 12, 13] (seqS (asgM 10 (callRM 1 g__law_pick (consM (varM 0) (hereM 1 (consM (varM 4) nilM)))))
    Sq_law_7))
def F_law_4 : SM :=
    (wipM [7] (ifM (notM (truM (callM g__law_same (consM (callM g_is_route (consM (varM 3) (consM (varM 7) nilM))) (consM (callM g__law_is_route (consM (varM 3) (consM (varM 7) nilM))) nilM))))) (retM (cM (PyData.bool false))) skipM))
def Sq_law_8 : SM :=
    (seqS (preM [6, 10, 11, 12, 13] (forM (rng1M (opM mulD (cM (PyData.int 4)) (unM intD (opM (bD neB) (varM 4) (ofL (lstM nilM)))))) (nameG 6) F_law_3))
    (frzM 5 (preM [7] (forM (seqM (varM 5)) (nameG 7) F_law_4))))
theorem Sq_law_8_a (rr : Rho) : Sq_law_8 rr = (seqS (preM [6, 10, 11, 12, 13] (forM (rng1M (opM mulD (cM (PyData.int 4)) (unM intD (opM (bD neB) (varM 4) (ofL (lstM nilM)))))) (nameG 6) F_law_3))
    (frzM 5 (preM [7] (forM (seqM (varM 5)) (nameG 7) F_law_4)))) rr := (rfl)
def Sq_law_9 : SM :=
    (seqS (preM [6, 8, 9] (forM (rng1M (cM (PyData.int 6))) (nameG 6) F_law_2))
    Sq_law_8)
theorem Sq_law_9_a (rr : Rho) : Sq_law_9 rr = (seqS (preM [6, 8, 9] (forM (rng1M (cM (PyData.int 6))) (nameG 6) F_law_2))
    Sq_law_8) rr := (rfl)
def Sq_law_10 : SM :=
    (seqS (newM 5 (lstM (consM (cM PyData.none) (consM (cM (PyData.int 7)) (consM (tupM nilM) (consM (cM (PyData.str "01")) (consM (tupM (consM (cM (PyData.int 0)) nilM)) (consM (tupM (consM (cM (PyData.int 0)) (consM (cM (PyData.int 1)) nilM))) (consM (tupM (consM (cM (PyData.int 1)) (consM (cM (PyData.int 0)) nilM))) (consM (tupM (consM (cM (PyData.int 0)) (consM (cM (PyData.int 0)) nilM))) (consM (tupM (consM (cM (PyData.bool true)) (consM (cM (PyData.int 1)) nilM))) (consM (tupM (consM (cM (PyData.int 0)) (consM (cM (PyData.bool true)) nilM))) (consM (tupM (consM (tupM (consM (cM (PyData.int 0)) (consM (cM (PyData.int 1)) nilM))) nilM)) (consM (ofL (lstM (consM (cM (PyData.int 0)) (consM (cM (PyData.int 1)) nilM)))) nilM))))))))))))))
    Sq_law_9)
theorem Sq_law_10_a (rr : Rho) : Sq_law_10 rr = (seqS (newM 5 (lstM (consM (cM PyData.none) (consM (cM (PyData.int 7)) (consM (tupM nilM) (consM (cM (PyData.str "01")) (consM (tupM (consM (cM (PyData.int 0)) nilM)) (consM (tupM (consM (cM (PyData.int 0)) (consM (cM (PyData.int 1)) nilM))) (consM (tupM (consM (cM (PyData.int 1)) (consM (cM (PyData.int 0)) nilM))) (consM (tupM (consM (cM (PyData.int 0)) (consM (cM (PyData.int 0)) nilM))) (consM (tupM (consM (cM (PyData.bool true)) (consM (cM (PyData.int 1)) nilM))) (consM (tupM (consM (cM (PyData.int 0)) (consM (cM (PyData.bool true)) nilM))) (consM (tupM (consM (tupM (consM (cM (PyData.int 0)) (consM (cM (PyData.int 1)) nilM))) nilM)) (consM (ofL (lstM (consM (cM (PyData.int 0)) (consM (cM (PyData.int 1)) nilM)))) nilM))))))))))))))
    Sq_law_9) rr := (rfl)
def Sq_law_11 : SM :=
    (seqS (asgM 4 (slM (callM g__law_routes (consM (varM 3) nilM)) noM (someM (cM (PyData.int 60)))))
    Sq_law_10)
theorem Sq_law_11_a (rr : Rho) : Sq_law_11 rr = (seqS (asgM 4 (slM (callM g__law_routes (consM (varM 3) nilM)) noM (someM (cM (PyData.int 60)))))
    Sq_law_10) rr := (rfl)
def F_law_5 : SM :=
    (wipM [2, 3, 4, 5, 6, 7, 8, 9, 10, 11, 12, 13] (seqS (asgM 3 (callRM 1 g__law_net (consM (varM 0) (hereM 1 (consM (cM (PyData.int 7)) (consM (cM (PyData.int 8)) nilM))))))
    Sq_law_11))
def Sq_law_12 : SM :=
    (seqS (preM [2, 3, 4, 5, 6, 7, 8, 9, 10, 11, 12, 13] (forM (rng1M (cM (PyData.int 6))) (nameG 2) F_law_5))
    (retM (cM (PyData.bool true))))
theorem Sq_law_12_a (rr : Rho) : Sq_law_12 rr = (seqS (preM [2, 3, 4, 5, 6, 7, 8, 9, 10, 11, 12, 13] (forM (rng1M (cM (PyData.int 6))) (nameG 2) F_law_5))
    (retM (cM (PyData.bool true)))) rr := (rfl)
def b_law : SM :=
    (seqS (newM 1 (lstM nilM))
    Sq_law_12)
def g_law : List D → Option D := runF N_law b_law
end L_k04
/-! evaluation of combinator terms at rows of slots that are written out -/
namespace DL
open PySem L2
theorem ob_some {α β : Type} (a : α) (f : α → Option β) : (some a).bind f = f a := (rfl)
theorem om_some {α β : Type} (a : α) (f : α → β) : (some a).map f = some (f a) := (rfl)
/-! slots -/
def SV.dat : SV → Option D
  | .d x => some x
  | _ => none
def SV.lis : SV → Option (Bool × List D)
  | .l b xs => some (b, xs)
  | _ => none
theorem dat_d (x : D) : (SV.d x).dat = some x := (rfl)
theorem lis_l (b : Bool) (x : List D) : (SV.l b x).lis = some (b, x) := (rfl)
def gt (r : Rho) (i : Nat) : Option SV := r[i]?.bind id
theorem gt_0 (o : Option SV) (r : Rho) : gt (o :: r) 0 = o := (rfl)
theorem gt_1 (a o : Option SV) (r : Rho) : gt (a :: o :: r) 1 = o := (rfl)
theorem gt_2 (a b o : Option SV) (r : Rho) : gt (a :: b :: o :: r) 2 = o := (rfl)
theorem gt_3 (a b c o : Option SV) (r : Rho) : gt (a :: b :: c :: o :: r) 3 = o := (rfl)
theorem gt_4 (a b c d o : Option SV) (r : Rho) : gt (a :: b :: c :: d :: o :: r) 4 = o := (rfl)
theorem gt_5 (a b c d e o : Option SV) (r : Rho) : gt (a :: b :: c :: d :: e :: o :: r) 5 = o := (rfl)
theorem gt_6 (a b c d e f o : Option SV) (r : Rho) : gt (a :: b :: c :: d :: e :: f :: o :: r) 6 = o := (rfl)
theorem gt_7 (a b c d e f g o : Option SV) (r : Rho) : gt (a :: b :: c :: d :: e :: f :: g :: o :: r) 7 = o := (rfl)
theorem gt_b (a b c d e f g h : Option SV) (r : Rho) (i : Nat) : gt (a :: b :: c :: d :: e :: f :: g :: h :: r) (i + 8) = gt r i := by unfold gt; simp
theorem st_0 (o x : Option SV) (r : Rho) : List.set (o :: r) 0 x = x :: r := (rfl)
theorem st_s (o x : Option SV) (r : Rho) (i : Nat) : List.set (o :: r) (i + 1) x = o :: List.set r i x := (rfl)
def plG : Option SV → Bool
  | some sv => !sv.own
  | none => true
theorem plG_d (x : D) : plG (some (.d x)) = true := (rfl)
theorem plG_n : plG none = true := (rfl)
theorem plainAt_a (r : Rho) (is : List Nat) : plainAt r is = is.all fun i => plG (gt r i) := by
  unfold plainAt plG gt
  congr 1; funext i
  cases r[i]? with
  | none => rfl
  | some o => cases o <;> rfl
/-! expressions -/
theorem varM_a (i : Nat) (r : Rho) : varM i r = (gt r i).bind fun s => s.dat.map fun x => (x, r) := by
  unfold varM gt
  cases r[i]? with
  | none => rfl
  | some o => cases o with
    | none => rfl
    | some s => cases s <;> rfl
theorem ownM_a (i : Nat) (r : Rho) : ownM i r = (gt r i).bind fun s => s.lis.map fun x => (.list x.2, r) := by
  unfold ownM gt
  cases r[i]? with
  | none => rfl
  | some o => cases o with
    | none => rfl
    | some s => cases s <;> rfl
theorem cM_a (d : D) (r : Rho) : cM d r = some (d, r) := (rfl)
theorem ofL_a (f : AM) (r : Rho) : ofL f r = (f r).map fun p => (.list p.1, p.2) := (rfl)
theorem opM_a (h : D → D → Option D) (f g : EM) (r : Rho) : opM h f g r = (f r).bind fun p => (g p.2).bind fun q => (h p.1 q.1).map fun d => (d, q.2) := (rfl)
theorem unM_a (h : D → Option D) (f : EM) (r : Rho) : unM h f r = (f r).bind fun p => (h p.1).map fun d => (d, p.2) := (rfl)
theorem truM_a (f : EM) (r : Rho) : truM f r = (f r).bind fun p => (truD p.1).map fun b => (b, p.2) := (rfl)
theorem tstM_a (h : D → D → Option Bool) (f g : EM) (r : Rho) : tstM h f g r = (f r).bind fun p => (g p.2).bind fun q => (h p.1 q.1).map fun b => (b, q.2) := (rfl)
theorem notM_a (f : TM) (r : Rho) : notM f r = (f r).map fun p => (!p.1, p.2) := (rfl)
def cnd {α : Type} (b : Bool) (x y : Unit → α) : α := if b = true then x () else y ()
theorem cnd_t {α : Type} (x y : Unit → α) : cnd true x y = x () := (rfl)
theorem cnd_f {α : Type} (x y : Unit → α) : cnd false x y = y () := (rfl)
theorem andM_a (f g : TM) (r : Rho) : andM f g r = (f r).bind fun p => cnd p.1 (fun _ => g p.2) (fun _ => some (false, p.2)) := (rfl)
theorem orM_a (f g : TM) (r : Rho) : orM f g r = (f r).bind fun p => cnd p.1 (fun _ => some (true, p.2)) (fun _ => g p.2) := (rfl)
theorem andVM_a (f g : EM) (r : Rho) : andVM f g r = (f r).bind fun p => (truD p.1).bind fun b => cnd b (fun _ => g p.2) (fun _ => some (p.1, p.2)) := (rfl)
theorem notVM_a (f : EM) (r : Rho) : notVM f r = (f r).bind fun p => (truD p.1).map fun b => (.bool (!b), p.2) := (rfl)
theorem iteM_a (t : TM) (f g : EM) (r : Rho) : iteM t f g r = (t r).bind fun p => cnd p.1 (fun _ => f p.2) (fun _ => g p.2) := (rfl)
theorem chM_a (h1 h2 : D → D → Option Bool) (f g k : EM) (r : Rho) : chM h1 h2 f g k r = (f r).bind fun p => (g p.2).bind fun q => (h1 p.1 q.1).bind fun b => cnd b (fun _ => (k q.2).bind fun w => (h2 q.1 w.1).map fun c => (.bool c, w.2)) (fun _ => some (.bool false, q.2)) := (rfl)
theorem nilM_a (r : Rho) : nilM r = some ([], r) := (rfl)
theorem consM_a (f : EM) (g : AM) (r : Rho) : consM f g r = (f r).bind fun p => (g p.2).map fun q => (p.1 :: q.1, q.2) := (rfl)
def guard' {α : Type} (b : Bool) (x : Unit → Option α) : Option α := if b = true then x () else none
theorem guard_tt {α : Type} (x : Unit → Option α) : guard' true x = x () := (rfl)
theorem tupM_a (f : AM) (r : Rho) : tupM f r = (f r).bind fun p => guard' (szOk p.1.length) fun _ => some (.tuple p.1, p.2) := (rfl)
theorem lstM_a (f : AM) (r : Rho) : lstM f r = (f r).bind fun p => guard' (szOk p.1.length) fun _ => some p := (rfl)
theorem noM_a (r : Rho) : noM r = some (none, r) := (rfl)
def intV : D → Option Int
  | .int i => some i
  | _ => none
theorem intV_i (i : Int) : intV (.int i) = some i := (rfl)
theorem someM_a (f : EM) (r : Rho) : someM f r = (f r).bind fun p => (intV p.1).map fun i => (some i, p.2) := by
  unfold someM
  cases f r with
  | none => rfl
  | some p => obtain ⟨d, r1⟩ := p; cases d <;> rfl
theorem slM_a (f : EM) (l u : OM) (r : Rho) : slM f l u r = (f r).bind fun p => (l p.2).bind fun q => (u q.2).bind fun w => (slD p.1 q.1 w.1).map fun d => (d, w.2) := (rfl)
theorem rng1M_a (f : EM) (r : Rho) : rng1M f r = (f r).bind fun p => (intV p.1).bind fun j => guard' (rngOk j) fun _ => some (rngL 0 j, p.2) := by
  unfold rng1M
  cases f r with
  | none => rfl
  | some p => obtain ⟨d, r1⟩ := p; cases d <;> rfl
theorem rng2M_a (f g : EM) (r : Rho) : rng2M f g r = (f r).bind fun p => (g p.2).bind fun q => (intV p.1).bind fun i => (intV q.1).bind fun j => guard' (rngOk i && rngOk j) fun _ => some (rngL i j, q.2) := by
  unfold rng2M
  cases f r with
  | none => rfl
  | some p =>
    obtain ⟨d, r1⟩ := p
    simp only [ob_some]
    cases g r1 with
    | none => rfl
    | some q => obtain ⟨e, r2⟩ := q; cases d <;> cases e <;> rfl
def zipV : D → D → Option (List D)
  | .tuple xs, .tuple ys => some (zipL xs ys)
  | .list xs, .list ys => some (zipL xs ys)
  | _, _ => none
theorem zipV_t (xs ys : List D) : zipV (.tuple xs) (.tuple ys) = some (zipL xs ys) := (rfl)
theorem zipV_l (xs ys : List D) : zipV (.list xs) (.list ys) = some (zipL xs ys) := (rfl)
theorem zipM_a (f g : EM) (r : Rho) : zipM f g r = (f r).bind fun p => (g p.2).bind fun q => (zipV p.1 q.1).map fun z => (z, q.2) := by
  unfold zipM
  cases f r with
  | none => rfl
  | some p =>
    obtain ⟨d, r1⟩ := p
    simp only [ob_some]
    cases g r1 with
    | none => rfl
    | some q => obtain ⟨e, r2⟩ := q; cases d <;> cases e <;> rfl
theorem seqM_a (f : EM) (r : Rho) : seqM f r = (f r).bind fun p => (itemsOf p.1).map fun ds => (ds, p.2) := (rfl)
theorem callM_a (g : List D → Option D) (f : AM) (r : Rho) : callM g f r = (f r).bind fun p => (g p.1).map fun d => (d, p.2) := (rfl)
theorem hereM_a (i : Nat) (f : AM) (r : Rho) : hereM i f r = (ownM i r).bind fun _ => f r := (rfl)
theorem callRM_a (i : Nat) (g : List D → List D → Option (D × List D)) (f : AM) (r : Rho) : callRM i g f r = (f r).bind fun p => (gt p.2 i).bind fun s => s.lis.bind fun x => (g p.1 x.2).map fun q => (q.1, p.2.set i (some (.l x.1 q.2))) := by
  unfold callRM gt
  cases f r with
  | none => rfl
  | some p =>
    simp only [ob_some]
    cases p.2[i]? with
    | none => rfl
    | some o => cases o with
      | none => rfl
      | some s => cases s <;> rfl
theorem appM_a (i : Nat) (f : EM) (r : Rho) : appM i f r = (ownM i r).bind fun _ => (f r).bind fun p => (gt p.2 i).bind fun s => s.lis.bind fun x => guard' (szOk x.2.length) fun _ => some (.none, p.2.set i (some (.l x.1 (x.2 ++ [p.1])))) := by
  unfold appM gt
  congr 1; funext _
  congr 1; funext p
  cases p.2[i]? with
  | none => rfl
  | some o => cases o with
    | none => rfl
    | some s => cases s <;> rfl
def lisV : D → Option (List D)
  | .list x => some x
  | _ => none
theorem lisV_l (x : List D) : lisV (.list x) = some x := (rfl)
theorem catOwnM_a (i : Nat) (g : EM) (r : Rho) : catOwnM i g r = (ownM i r).bind fun _ => (g r).bind fun p => (gt p.2 i).bind fun s => s.lis.bind fun x => (lisV p.1).bind fun y => guard' (szOk (x.2.length + y.length)) fun _ => some (x.2 ++ y, p.2) := by
  unfold catOwnM gt
  congr 1; funext _
  congr 1; funext p
  cases p.2[i]? with
  | none => rfl
  | some o => cases o with
    | none => rfl
    | some s => cases s with
      | l b xs => obtain ⟨d, r1⟩ := p; cases d <;> rfl
      | _ => obtain ⟨d, r1⟩ := p; cases d <;> rfl
/-! targets -/
theorem nameG_a (i : Nat) (r : Rho) (d : D) : nameG i r d = some (r.set i (some (.d d))) := (rfl)
theorem nilG_a (r : Rho) : nilG r [] = some r := (rfl)
theorem consG_a (t : GM) (u : GMs) (r : Rho) (d : D) (ds : List D) : consG t u r (d :: ds) = (t r d).bind fun r1 => u r1 ds := (rfl)
theorem tupG_a (n : Nat) (t : GMs) (r : Rho) (ds : List D) : tupG n t r (.tuple ds) = guard' (decide (ds.length = n)) fun _ => t r ds := by
  unfold tupG guard'
  simp only [decide_eq_true_eq]
/-! statements -/
def seqK (g : SM) : Out → Option Out
  | .nx r1 => g r1
  | o => some o
theorem seqS_a (f g : SM) (r : Rho) : seqS f g r = (f r).bind (seqK g) := by
  unfold seqS
  cases f r with
  | none => rfl
  | some o => cases o <;> rfl
theorem seqK_nx (g : SM) (r : Rho) : seqK g (.nx r) = g r := (rfl)
theorem seqK_rt (g : SM) (d : D) (r : Rho) : seqK g (.rt d r) = some (.rt d r) := (rfl)
theorem seqK_ct (g : SM) (r : Rho) : seqK g (.ct r) = some (.ct r) := (rfl)
theorem skipM_a (r : Rho) : skipM r = some (.nx r) := (rfl)
theorem asgM_a (i : Nat) (f : EM) (r : Rho) : asgM i f r = (f r).map fun p => .nx (p.2.set i (some (.d p.1))) := (rfl)
theorem newM_a (i : Nat) (f : AM) (r : Rho) : newM i f r = (f r).map fun p => .nx (p.2.set i (some (.l false p.1))) := (rfl)
theorem asgLM_a (i : Nat) (f : AM) (r : Rho) : asgLM i f r = (f r).map fun p => .nx (p.2.set i (some (.d (.list p.1)))) := (rfl)
theorem retM_a (f : EM) (r : Rho) : retM f r = (f r).map fun p => .rt p.1 p.2 := (rfl)
theorem exprM_a (f : EM) (r : Rho) : exprM f r = (f r).map fun p => .nx p.2 := (rfl)
theorem ifM_a (t : TM) (f g : SM) (r : Rho) : ifM t f g r = (t r).bind fun p => cnd p.1 (fun _ => f p.2) (fun _ => g p.2) := (rfl)
theorem forM_a (it : AM) (g : GM) (f : SM) (r : Rho) : forM it g f r = (it r).bind fun p => forL g f p.1 p.2 := (rfl)
theorem frzM_a (i : Nat) (f : SM) (r : Rho) : frzM i f r = (gt r i).bind fun s => s.lis.bind fun x => f (r.set i (some (.d (.list x.2)))) := by
  unfold frzM frzR gt
  cases r[i]? with
  | none => rfl
  | some o => cases o with
    | none => rfl
    | some s => cases s <;> rfl
def finF : Out → Option D
  | .rt d _ => some d
  | .nx _ => some .none
  | _ => none
theorem runF_a (N : List Str) (b : SM) (ds : List D) : runF N b ds = (b (startD N ds)).bind finF := by
  unfold runF
  cases b (startD N ds) with
  | none => rfl
  | some o => cases o <;> rfl
theorem finF_rt (d : D) (r : Rho) : finF (.rt d r) = some d := (rfl)
theorem finF_nx (r : Rho) : finF (.nx r) = some .none := (rfl)
def finR (j : Nat) : Out → Option (D × List D)
  | .rt d r => (gt r j).bind fun s => s.lis.bind fun x => guard' x.1 fun _ => some (d, x.2)
  | .nx r => (gt r j).bind fun s => s.lis.bind fun x => guard' x.1 fun _ => some (.none, x.2)
  | _ => none
theorem endR_a (j : Nat) (r : Rho) (d : D) : (endR j r).map (fun ys => (d, ys)) = (gt r j).bind fun s => s.lis.bind fun x => guard' x.1 fun _ => some (d, x.2) := by
  unfold endR gt
  cases r[j]? with
  | none => rfl
  | some o => cases o with
    | none => rfl
    | some s => cases s with
      | l b xs => cases b <;> rfl
      | _ => rfl
theorem runR_a (N : List Str) (j : Nat) (b : SM) (ds xs : List D) : runR N j b ds xs = (b (startR N j ds xs)).bind (finR j) := by
  unfold runR
  cases b (startR N j ds xs) with
  | none => rfl
  | some o => cases o <;> first | rfl | exact endR_a _ _ _
theorem finR_rt (j : Nat) (d : D) (r : Rho) : finR j (.rt d r) = (gt r j).bind fun s => s.lis.bind fun x => guard' x.1 fun _ => some (d, x.2) := (rfl)
theorem finR_nx (j : Nat) (r : Rho) : finR j (.nx r) = (gt r j).bind fun s => s.lis.bind fun x => guard' x.1 fun _ => some (.none, x.2) := (rfl)
/-! data -/
theorem szOk_of {n : Nat} (h : n ≤ 1000000) : szOk n = true := decide_eq_true h
theorem sz_0 : szOk 0 = true := by decide
theorem sz_1 : szOk 1 = true := by decide
theorem sz_2 : szOk 2 = true := by decide
theorem sz_3 : szOk 3 = true := by decide
theorem sz_4 : szOk 4 = true := by decide
theorem sz_5 : szOk 5 = true := by decide
theorem sz_6 : szOk 6 = true := by decide
theorem sz_7 : szOk 7 = true := by decide
theorem sz_8 : szOk 8 = true := by decide
theorem sz_9 : szOk 9 = true := by decide
theorem sz_10 : szOk 10 = true := by decide
theorem sz_11 : szOk 11 = true := by decide
theorem sz_12 : szOk 12 = true := by decide
theorem sz_13 : szOk 13 = true := by decide
theorem sz_14 : szOk 14 = true := by decide
theorem sz_15 : szOk 15 = true := by decide
theorem sz_16 : szOk 16 = true := by decide
theorem sz_17 : szOk 17 = true := by decide
theorem sz_18 : szOk 18 = true := by decide
theorem sz_19 : szOk 19 = true := by decide
theorem sz_20 : szOk 20 = true := by decide
theorem sz_21 : szOk 21 = true := by decide
theorem sz_22 : szOk 22 = true := by decide
theorem sz_23 : szOk 23 = true := by decide
theorem sz_24 : szOk 24 = true := by decide
theorem sz_25 : szOk 25 = true := by decide
theorem sz_26 : szOk 26 = true := by decide
theorem sz_27 : szOk 27 = true := by decide
theorem sz_28 : szOk 28 = true := by decide
theorem sz_29 : szOk 29 = true := by decide
theorem sz_30 : szOk 30 = true := by decide
theorem nc_0 : ((0 : Nat) : Int) = 0 := (rfl)
theorem nc_1 : ((1 : Nat) : Int) = 1 := (rfl)
theorem nc_2 : ((2 : Nat) : Int) = 2 := (rfl)
theorem nc_3 : ((3 : Nat) : Int) = 3 := (rfl)
theorem nc_4 : ((4 : Nat) : Int) = 4 := (rfl)
theorem nc_5 : ((5 : Nat) : Int) = 5 := (rfl)
theorem nc_6 : ((6 : Nat) : Int) = 6 := (rfl)
theorem nc_7 : ((7 : Nat) : Int) = 7 := (rfl)
theorem nc_8 : ((8 : Nat) : Int) = 8 := (rfl)
theorem nc_9 : ((9 : Nat) : Int) = 9 := (rfl)
theorem nc_10 : ((10 : Nat) : Int) = 10 := (rfl)
theorem nc_11 : ((11 : Nat) : Int) = 11 := (rfl)
theorem nc_12 : ((12 : Nat) : Int) = 12 := (rfl)
theorem nc_13 : ((13 : Nat) : Int) = 13 := (rfl)
theorem nc_14 : ((14 : Nat) : Int) = 14 := (rfl)
theorem nc_15 : ((15 : Nat) : Int) = 15 := (rfl)
theorem nc_16 : ((16 : Nat) : Int) = 16 := (rfl)
theorem nc_17 : ((17 : Nat) : Int) = 17 := (rfl)
theorem nc_18 : ((18 : Nat) : Int) = 18 := (rfl)
theorem nc_19 : ((19 : Nat) : Int) = 19 := (rfl)
theorem nc_20 : ((20 : Nat) : Int) = 20 := (rfl)
theorem nc_21 : ((21 : Nat) : Int) = 21 := (rfl)
theorem nc_22 : ((22 : Nat) : Int) = 22 := (rfl)
theorem nc_23 : ((23 : Nat) : Int) = 23 := (rfl)
theorem nc_24 : ((24 : Nat) : Int) = 24 := (rfl)
theorem nc_25 : ((25 : Nat) : Int) = 25 := (rfl)
theorem nc_26 : ((26 : Nat) : Int) = 26 := (rfl)
theorem nc_27 : ((27 : Nat) : Int) = 27 := (rfl)
theorem nc_28 : ((28 : Nat) : Int) = 28 := (rfl)
theorem nc_29 : ((29 : Nat) : Int) = 29 := (rfl)
theorem nc_30 : ((30 : Nat) : Int) = 30 := (rfl)
theorem addD_i (i j : Int) : addD (.int i) (.int j) = some (.int (i + j)) := (rfl)
theorem addD_t (xs ys : List D) : addD (.tuple xs) (.tuple ys) = guard' (szOk (xs.length + ys.length)) fun _ => some (.tuple (xs ++ ys)) := (rfl)
theorem addD_l (xs ys : List D) : addD (.list xs) (.list ys) = guard' (szOk (xs.length + ys.length)) fun _ => some (.list (xs ++ ys)) := (rfl)
theorem subD_i (i j : Int) : subD (.int i) (.int j) = some (.int (i - j)) := (rfl)
theorem modD_i (i j : Int) : modD (.int i) (.int j) = guard' (decide (0 < j)) fun _ => some (.int (i % j)) := by simp [modD, guard']
theorem fdivD_i (i j : Int) : fdivD (.int i) (.int j) = guard' (decide (0 < j ∧ j < 1073741824)) fun _ => some (.int (i / j)) := by simp [fdivD, guard']
def mulOk (i j : Int) : Bool := decide ((-(2 ^ 64) < i ∧ i < 2 ^ 64) ∨ (-(2 ^ 64) < j ∧ j < 2 ^ 64))
theorem mulD_i (i j : Int) : mulD (.int i) (.int j) = guard' (mulOk i j) fun _ => some (.int (i * j)) := by simp [mulD, guard', mulOk]
theorem lenD_t (x : List D) : lenD (.tuple x) = some (.int x.length) := (rfl)
theorem lenD_l (x : List D) : lenD (.list x) = some (.int x.length) := (rfl)
theorem tupleD_t (x : List D) : tupleD (.tuple x) = some (.tuple x) := (rfl)
theorem tupleD_l (x : List D) : tupleD (.list x) = some (.tuple x) := (rfl)
theorem listD_t (x : List D) : listD (.tuple x) = some (.list x) := (rfl)
theorem listD_l (x : List D) : listD (.list x) = some (.list x) := (rfl)
theorem truD_i (i : Int) : truD (.int i) = some (i != 0) := (rfl)
theorem truD_b (b : Bool) : truD (.bool b) = some b := (rfl)
theorem truD_n : truD .none = some false := (rfl)
theorem truD_l (x : List D) : truD (.list x) = some (!x.isEmpty) := (rfl)
theorem truD_t (x : List D) : truD (.tuple x) = some (!x.isEmpty) := (rfl)
theorem ixD_t (x : List D) (i : Int) : ixD (.tuple x) (.int i) = atI x i := (rfl)
theorem ixD_l (x : List D) (i : Int) : ixD (.list x) (.int i) = atI x i := (rfl)
theorem negD_i (i : Int) : negD (.int i) = some (.int (-i)) := (rfl)
theorem bD_a (h : D → D → Option Bool) (d e : D) : bD h d e = (h d e).map .bool := (rfl)
theorem ltB_i (i j : Int) : ltB (.int i) (.int j) = some (decide (i < j)) := (rfl)
theorem leB_i (i j : Int) : leB (.int i) (.int j) = some (decide (i ≤ j)) := (rfl)
theorem eqB_i (i j : Int) : eqB (.int i) (.int j) = some (i == j) := (rfl)
theorem neB_i (i j : Int) : neB (.int i) (.int j) = some (!(i == j)) := (rfl)
theorem min2D_i (i j : Int) : min2D (.int i) (.int j) = some (.int (min i j)) := by
  unfold min2D; simp only [Option.some.injEq, PyData.int.injEq]; split <;> omega
theorem max2D_i (i j : Int) : max2D (.int i) (.int j) = some (.int (max i j)) := by
  unfold max2D; simp only [Option.some.injEq, PyData.int.injEq]; split <;> omega
theorem items_t (x : List D) : itemsOf (.tuple x) = some x := (rfl)
theorem items_l (x : List D) : itemsOf (.list x) = some x := (rfl)
theorem intD_b (b : Bool) : intD (.bool b) = some (.int (if b = true then 1 else 0)) := (rfl)
theorem isNN : isB .none .none = some true := (rfl)
theorem slD_t (x : List D) (l u : Option Int) : slD (.tuple x) l u = some (.tuple (cutD x l u)) := (rfl)
theorem slD_l (x : List D) (l u : Option Int) : slD (.list x) l u = some (.list (cutD x l u)) := (rfl)
theorem rng_ok {i : Int} (h1 : -1000000 ≤ i) (h2 : i ≤ 1000000) : rngOk i = true := by unfold rngOk; simp [h1, h2]
theorem sortD2_l (xs : List D) : sortD2 (.list xs) = guard' (sortOk xs) fun _ => some (.list (sortL xs)) := (rfl)
theorem sortD2_t (xs : List D) : sortD2 (.tuple xs) = guard' (sortOk xs) fun _ => some (.list (sortL xs)) := (rfl)
/-! plain steps -/
theorem p_ge0 {α : Type} (a : α) (l : List α) : (a :: l)[0]? = some a := (rfl)
theorem p_geS {α : Type} (a : α) (l : List α) (i : Nat) : (a :: l)[i + 1]? = l[i]? := (rfl)
theorem p_tk0 {α : Type} (l : List α) : l.take 0 = [] := by cases l <;> rfl
theorem p_tkS {α : Type} (a : α) (l : List α) (i : Nat) : (a :: l).take (i + 1) = a :: l.take i := (rfl)
theorem p_tkN {α : Type} (i : Nat) : ([] : List α).take i = [] := by cases i <;> rfl
theorem p_dr0 {α : Type} (l : List α) : l.drop 0 = l := by cases l <;> rfl
theorem p_drS {α : Type} (a : α) (l : List α) (i : Nat) : (a :: l).drop (i + 1) = l.drop i := (rfl)
theorem p_drN {α : Type} (i : Nat) : ([] : List α).drop i = [] := by cases i <;> rfl
theorem p_mpC {α β : Type} (f : α → β) (a : α) (l : List α) : (a :: l).map f = f a :: l.map f := (rfl)
theorem p_mpN {α β : Type} (f : α → β) : ([] : List α).map f = [] := (rfl)
theorem p_apC {α : Type} (a : α) (l m : List α) : a :: l ++ m = a :: (l ++ m) := (rfl)
theorem p_apN {α : Type} (l : List α) : [] ++ l = l := (rfl)
theorem p_lnC {α : Type} (a : α) (l : List α) : (a :: l).length = l.length + 1 := (rfl)
theorem p_lnN {α : Type} : ([] : List α).length = 0 := (rfl)
theorem p_rpS {α : Type} (n : Nat) (a : α) : List.replicate (n + 1) a = a :: List.replicate n a := (rfl)
theorem p_rp0 {α : Type} (a : α) : List.replicate 0 a = [] := (rfl)
theorem p_alC {α : Type} (p : α → Bool) (a : α) (l : List α) : (a :: l).all p = (p a && l.all p) := (rfl)
theorem p_alN {α : Type} (p : α → Bool) : ([] : List α).all p = true := (rfl)
theorem p_gdS {α : Type} (a b : α) : (some a).getD b = a := (rfl)
theorem p_gdN {α : Type} (b : α) : (none : Option α).getD b = b := (rfl)
theorem p_tlS {α : Type} (a : α) : (some a).toList = [a] := (rfl)
theorem p_tlN {α : Type} : (none : Option α).toList = [] := (rfl)
theorem p_ieC {α : Type} (a : α) (l : List α) : (a :: l).isEmpty = false := (rfl)
theorem p_ieN {α : Type} : ([] : List α).isEmpty = true := (rfl)
theorem p_nt : (!true) = false := (rfl)
theorem p_nf : (!false) = true := (rfl)
theorem p_atb (b : Bool) : (true && b) = b := (rfl)
theorem p_afb (b : Bool) : (false && b) = false := (rfl)
theorem p_abt (b : Bool) : (b && true) = b := by cases b <;> rfl
theorem p_abf (b : Bool) : (b && false) = false := by cases b <;> rfl
theorem p_eqS {α : Sort _} (a : α) : (a = a) = True := eq_true rfl
theorem p_dT {h : Decidable True} : @decide True h = true := by simp
theorem p_dF {h : Decidable False} : @decide False h = false := by simp
theorem p_TA (p : Prop) : (True ∧ p) = p := by simp
theorem p_AT (p : Prop) : (p ∧ True) = p := by simp
theorem p_TO (p : Prop) : (True ∨ p) = True := by simp
theorem p_OT (p : Prop) : (p ∨ True) = True := by simp
theorem p_startD (N : List Str) (ds : List D) : startD N ds = ds.map (fun d => some (.d d)) ++ List.replicate (N.length - ds.length) none := (rfl)
theorem p_startR (N : List Str) (j : Nat) (ds : List D) (xs : List D) : startR N j ds xs = (ds.take j).map (fun d => some (.d d)) ++ some (.l true xs) :: ((ds.drop j).map (fun d => some (.d d)) ++ List.replicate (N.length - (ds.length + 1)) none) := (rfl)
end DL
local macro_rules | `(tactic| simp_arith [$xs,*]) => `(tactic| simp only [DL.ob_some, DL.om_some, DL.dat_d, DL.lis_l, DL.gt_0, DL.gt_1, DL.gt_2, DL.gt_3, DL.gt_4, DL.gt_5, DL.gt_6, DL.gt_7, DL.gt_b, DL.st_0, DL.st_s, DL.plG_d, DL.plG_n, DL.plainAt_a, DL.varM_a, DL.ownM_a, DL.cM_a, DL.ofL_a, DL.opM_a, DL.unM_a, DL.truM_a, DL.tstM_a, DL.notM_a, DL.cnd_t, DL.cnd_f, DL.andM_a, DL.orM_a, DL.andVM_a, DL.notVM_a, DL.iteM_a, DL.chM_a, DL.nilM_a, DL.consM_a, DL.guard_tt, DL.tupM_a, DL.lstM_a, DL.noM_a, DL.intV_i, DL.someM_a, DL.slM_a, DL.rng1M_a, DL.rng2M_a, DL.zipV_t, DL.zipV_l, DL.zipM_a, DL.seqM_a, DL.callM_a, DL.hereM_a, DL.callRM_a, DL.appM_a, DL.lisV_l, DL.catOwnM_a, DL.nameG_a, DL.nilG_a, DL.consG_a, DL.tupG_a, DL.seqS_a, DL.seqK_nx, DL.seqK_rt, DL.seqK_ct, DL.skipM_a, DL.asgM_a, DL.newM_a, DL.asgLM_a, DL.retM_a, DL.exprM_a, DL.ifM_a, DL.forM_a, DL.frzM_a, DL.runF_a, DL.finF_rt, DL.finF_nx, DL.runR_a, DL.finR_rt, DL.finR_nx, DL.sz_0, DL.sz_1, DL.sz_2, DL.sz_3, DL.sz_4, DL.sz_5, DL.sz_6, DL.sz_7, DL.sz_8, DL.sz_9, DL.sz_10, DL.sz_11, DL.sz_12, DL.sz_13, DL.sz_14, DL.sz_15, DL.sz_16, DL.sz_17, DL.sz_18, DL.sz_19, DL.sz_20, DL.sz_21, DL.sz_22, DL.sz_23, DL.sz_24, DL.sz_25, DL.sz_26, DL.sz_27, DL.sz_28, DL.sz_29, DL.sz_30, DL.nc_0, DL.nc_1, DL.nc_2, DL.nc_3, DL.nc_4, DL.nc_5, DL.nc_6, DL.nc_7, DL.nc_8, DL.nc_9, DL.nc_10, DL.nc_11, DL.nc_12, DL.nc_13, DL.nc_14, DL.nc_15, DL.nc_16, DL.nc_17, DL.nc_18, DL.nc_19, DL.nc_20, DL.nc_21, DL.nc_22, DL.nc_23, DL.nc_24, DL.nc_25, DL.nc_26, DL.nc_27, DL.nc_28, DL.nc_29, DL.nc_30, DL.addD_i, DL.addD_t, DL.addD_l, DL.subD_i, DL.modD_i, DL.fdivD_i, DL.mulD_i, DL.lenD_t, DL.lenD_l, DL.tupleD_t, DL.tupleD_l, DL.listD_t, DL.listD_l, DL.truD_i, DL.truD_b, DL.truD_n, DL.truD_l, DL.truD_t, DL.ixD_t, DL.ixD_l, DL.negD_i, DL.bD_a, DL.ltB_i, DL.leB_i, DL.eqB_i, DL.neB_i, DL.min2D_i, DL.max2D_i, DL.items_t, DL.items_l, DL.intD_b, DL.isNN, DL.slD_t, DL.slD_l, DL.sortD2_l, DL.sortD2_t, DL.p_ge0, DL.p_geS, DL.p_tk0, DL.p_tkS, DL.p_tkN, DL.p_dr0, DL.p_drS, DL.p_drN, DL.p_mpC, DL.p_mpN, DL.p_apC, DL.p_apN, DL.p_lnC, DL.p_lnN, DL.p_rpS, DL.p_rp0, DL.p_alC, DL.p_alN, DL.p_gdS, DL.p_gdN, DL.p_tlS, DL.p_tlN, DL.p_ieC, DL.p_ieN, DL.p_nt, DL.p_nf, DL.p_atb, DL.p_afb, DL.p_abt, DL.p_abf, DL.p_eqS, DL.p_dT, DL.p_dF, DL.p_TA, DL.p_AT, DL.p_TO, DL.p_OT, DL.p_startD, DL.p_startR, Nat.reduceAdd, Nat.reduceSub, Nat.reduceMul, Int.reduceLT, Int.reduceLE, Int.reducePow, Int.reduceNeg, Int.reduceAdd, Int.reduceSub, Int.reduceMul, Int.reduceBEq, Int.reduceBNe, Int.reduceToNat, $xs,*])
namespace DL
open PySem L2
theorem atI_lt {α : Type} {xs : List α} {i : Int} (h0 : 0 ≤ i) (h1 : i < xs.length) : ∃ x, atI xs i = some x ∧ xs[i.toNat]? = some x := by
  have hl : i.toNat < xs.length := by omega
  refine ⟨xs[i.toNat], ?_, by simp [hl]⟩
  unfold atI ixN
  rw [if_pos h0, if_pos h1]
  simp [hl]
theorem atI_mem {α : Type} {xs : List α} {i : Int} (h0 : 0 ≤ i) (h1 : i < xs.length) : ∃ x ∈ xs, atI xs i = some x := by
  obtain ⟨x, h, g⟩ := atI_lt h0 h1
  exact ⟨x, List.mem_of_getElem? g, h⟩
theorem atI_map {α β : Type} (f : α → β) (xs : List α) (i : Int) : atI (xs.map f) i = (atI xs i).map f := by
  unfold atI
  rw [List.length_map]
  cases ixN xs.length i <;> simp
theorem sz_small {n : Nat} (h : n < 1000) : szOk n = true := szOk_of (by omega)
theorem mulOk_of {i j : Int} (h1 : -18446744073709551616 < i) (h2 : i < 18446744073709551616) : mulOk i j = true := by
  unfold mulOk
  have e : (2 : Int) ^ 64 = 18446744073709551616 := by decide
  rw [e]
  exact decide_eq_true (.inl ⟨h1, h2⟩)
theorem mulOk_a (j : Int) : mulOk 104729 j = true := mulOk_of (by decide) (by decide)
theorem mulOk_b (x j : Int) : mulOk (x % 4294967291) j = true := mulOk_of (by have := Int.emod_nonneg x (b := 4294967291) (by decide); omega) (by have := Int.emod_lt_of_pos x (b := 4294967291) (by decide); omega)
theorem mulOk_c (x j : Int) : mulOk (x % 4294967279) j = true := mulOk_of (by have := Int.emod_nonneg x (b := 4294967279) (by decide); omega) (by have := Int.emod_lt_of_pos x (b := 4294967279) (by decide); omega)
end DL
namespace GT
/-! plain lists -/
section
variable {α β : Type}
/-- two rows that rise, with the same things, are one -/
theorem sorted_ext (lt : α → α → Prop) (irr : ∀ a, ¬ lt a a) (tr : ∀ a b c, lt a b → lt b c → lt a c) :
    ∀ (xs ys : List α), xs.Pairwise lt → ys.Pairwise lt → (∀ a, a ∈ xs ↔ a ∈ ys) → xs = ys
  | [], [], _, _, _ => rfl
  | [], y :: ys, _, _, h => by have := (h y).mpr (by simp); simp at this
  | x :: xs, [], _, _, h => by have := (h x).mp (by simp); simp at this
  | x :: xs, y :: ys, hx, hy, h => by
    rw [List.pairwise_cons] at hx hy
    have exy : x = y := by
      have h1 := (h x).mp (by simp)
      have h2 := (h y).mpr (by simp)
      rcases List.mem_cons.mp h1 with e | m1
      · exact e
      · rcases List.mem_cons.mp h2 with e | m2
        · exact e.symm
        · exact absurd (tr _ _ _ (hx.1 y m2) (hy.1 x m1)) (irr x)
    subst exy
    congr 1
    refine sorted_ext lt irr tr xs ys hx.2 hy.2 fun a => ⟨fun m => ?_, fun m => ?_⟩
    · rcases List.mem_cons.mp ((h a).mp (List.mem_cons_of_mem _ m)) with e | q
      · subst e; exact absurd (hx.1 a m) (irr a)
      · exact q
    · rcases List.mem_cons.mp ((h a).mpr (List.mem_cons_of_mem _ m)) with e | q
      · subst e; exact absurd (hy.1 a m) (irr a)
      · exact q
theorem nodup_len_le [DecidableEq α] : ∀ (xs ys : List α), xs.Nodup → (∀ a ∈ xs, a ∈ ys) → xs.length ≤ ys.length
  | [], ys, _, _ => by simp
  | x :: xs, ys, hn, h => by
    rw [List.nodup_cons] at hn
    have h1 := nodup_len_le xs (ys.erase x) hn.2 fun a m => by
      have ne : a ≠ x := fun e => hn.1 (e ▸ m)
      exact (List.mem_erase_of_ne ne).mpr (h a (List.mem_cons_of_mem _ m))
    have h2 := List.length_erase_of_mem (h x (by simp))
    have h3 : 0 < ys.length := List.length_pos_of_mem (h x (by simp))
    simp only [List.length_cons]; omega
theorem nodup_of_lt {lt : α → α → Prop} (irr : ∀ a, ¬ lt a a) {xs : List α} (h : xs.Pairwise lt) : xs.Nodup :=
  List.Pairwise.imp (fun {a b} q (e : a = b) => irr a (by subst e; exact q)) h
end
/-- 0, 1, .., n - 1 -/
def ir (n : Nat) : List Int := (List.range n).map fun (i : Nat) => (i : Int)
theorem mem_ir {n : Nat} {a : Int} : a ∈ ir n ↔ 0 ≤ a ∧ a < n := by
  unfold ir
  simp only [List.mem_map, List.mem_range]
  constructor
  · rintro ⟨i, h, rfl⟩; omega
  · rintro ⟨h1, h2⟩; exact ⟨a.toNat, by omega, by omega⟩
theorem ir_len (n : Nat) : (ir n).length = n := by simp [ir]
theorem ir_sorted (n : Nat) : (ir n).Pairwise (· < ·) := by
  unfold ir
  rw [List.pairwise_map]
  exact List.pairwise_lt_range.imp fun h => by omega
theorem ir_nodup (n : Nat) : (ir n).Nodup := nodup_of_lt (fun a => Int.lt_irrefl a) (ir_sorted n)
/-- sorted ints -/
def sortI (xs : List Int) : List Int := xs.mergeSort fun a b => decide (a ≤ b)
/-! nets -/
abbrev Tie := Int × Int
structure Net where
  n : Nat
  ties : List Tie
  rim : List Int
def tlt (a b : Tie) : Prop := a.1 < b.1 ∨ (a.1 = b.1 ∧ a.2 < b.2)
instance : DecidableRel tlt := fun a b => by unfold tlt; exact inferInstance
theorem tlt_irr (a : Tie) : ¬ tlt a a := by unfold tlt; omega
structure Net.WF (N : Net) : Prop where
  pos : 1 ≤ N.n
  small : N.n ≤ 7
  tie : ∀ t ∈ N.ties, 0 ≤ t.1 ∧ t.1 < t.2 ∧ t.2 < N.n
  up : N.ties.Pairwise tlt
  rimIn : ∀ k ∈ N.rim, 0 ≤ k ∧ k < N.n
  rimUp : N.rim.Pairwise (· < ·)
def pr (a b : Int) : Tie := (min a b, max a b)
theorem pr_comm (a b : Int) : pr a b = pr b a := by unfold pr; rw [Int.min_comm, Int.max_comm]
theorem pr_of_lt {a b : Int} (h : a < b) : pr a b = (a, b) := by unfold pr; rw [Int.min_eq_left (by omega), Int.max_eq_right (by omega)]
def adj (N : Net) (a b : Int) : Bool := decide (pr a b ∈ N.ties)
theorem adj_comm (N : Net) (a b : Int) : adj N a b = adj N b a := by unfold adj; rw [pr_comm]
theorem adj_in {N : Net} (w : N.WF) {a b : Int} (h : adj N a b = true) : (0 ≤ a ∧ a < N.n) ∧ (0 ≤ b ∧ b < N.n) ∧ a ≠ b := by
  unfold adj at h
  have := w.tie _ (of_decide_eq_true h)
  unfold pr at this
  simp only at this
  omega
def nb (N : Net) (k : Int) : List Int := (ir N.n).filter fun o => adj N k o
theorem mem_nb {N : Net} {w : N.WF} {a b : Int} : b ∈ nb N a ↔ adj N a b = true := by
  unfold nb
  rw [List.mem_filter, mem_ir]
  exact ⟨fun h => h.2, fun h => ⟨(adj_in w h).2.1, h⟩⟩
theorem nb_sorted (N : Net) (k : Int) : (nb N k).Pairwise (· < ·) := (ir_sorted _).filter _
/-- ties by their numbers left out -/
def keepF (B : List Int) (ts : List Tie) (i : Nat) : List Tie := ((ts.zipIdx i).filter fun p => !(B.contains (p.2 : Int))).map (·.1)
def without (N : Net) (B : List Int) : Net := { N with ties := keepF B N.ties 0 }
/-! reaching -/
inductive Reach (N : Net) (a : Int) : Int → Prop
  | refl : Reach N a a
  | step {b c : Int} : Reach N a b → adj N b c = true → Reach N a c
theorem Reach.trans {N : Net} {a b c : Int} (h1 : Reach N a b) (h2 : Reach N b c) : Reach N a c := by
  induction h2 with
  | refl => exact h1
  | step _ e ih => exact ih.step e
theorem Reach.head {N : Net} {a b c : Int} (h1 : adj N a b = true) (h2 : Reach N b c) : Reach N a c := (Reach.refl.step h1).trans h2
theorem Reach.symm {N : Net} {a b : Int} (h : Reach N a b) : Reach N b a := by
  induction h with
  | refl => exact .refl
  | step _ e ih => exact Reach.head (by rw [adj_comm]; exact e) ih
theorem Reach.mono {N M : Net} (hs : ∀ a b, adj N a b = true → adj M a b = true) {a b : Int} (h : Reach N a b) : Reach M a b := by
  induction h with
  | refl => exact .refl
  | step _ e ih => exact ih.step (hs _ _ e)
theorem Reach.inn {N : Net} (w : N.WF) {a b : Int} (h : Reach N a b) (ha : 0 ≤ a ∧ a < N.n) : 0 ≤ b ∧ b < N.n := by
  cases h with
  | refl => exact ha
  | step _ e => exact (adj_in w e).2.1
open Classical in
noncomputable def reached (N : Net) (k : Int) : List Int := (ir N.n).filter fun x => decide (Reach N k x)
end GT
namespace GT
/-! rows of ints in order -/
def llt : List Int → List Int → Bool
  | [], [] => false
  | [], _ :: _ => true
  | _ :: _, [] => false
  | x :: xs, y :: ys => if x = y then llt xs ys else decide (x < y)
theorem llt_irr : ∀ a : List Int, ¬ llt a a = true
  | [] => by simp [llt]
  | x :: xs => by simpa [llt] using llt_irr xs
theorem llt_tr : ∀ a b c : List Int, llt a b = true → llt b c = true → llt a c = true
  | [], [], _, h, _ => by simp [llt] at h
  | [], _ :: _, [], _, h => by simp [llt] at h
  | [], _ :: _, _ :: _, _, _ => by simp [llt]
  | _ :: _, [], _, h, _ => by simp [llt] at h
  | _ :: _, _ :: _, [], _, h => by simp [llt] at h
  | x :: xs, y :: ys, z :: zs, h1, h2 => by
    simp only [llt] at *
    by_cases e1 : x = y
    · subst e1
      rw [if_pos rfl] at h1
      by_cases e2 : x = z
      · subst e2; rw [if_pos rfl] at h2 ⊢; exact llt_tr xs ys zs h1 h2
      · rw [if_neg e2] at h2 ⊢; exact h2
    · rw [if_neg e1] at h1
      by_cases e2 : y = z
      · subst e2; rw [if_neg e1]; exact h1
      · rw [if_neg e2] at h2
        simp only [decide_eq_true_eq] at h1 h2
        rw [if_neg (by omega)]
        simp only [decide_eq_true_eq]; omega
theorem llt_total : ∀ a b : List Int, a = b ∨ llt a b = true ∨ llt b a = true
  | [], [] => .inl rfl
  | [], _ :: _ => .inr (.inl rfl)
  | _ :: _, [] => .inr (.inr rfl)
  | x :: xs, y :: ys => by
    simp only [llt]
    by_cases e : x = y
    · subst e
      rw [if_pos rfl, if_pos rfl]
      rcases llt_total xs ys with h | h | h
      · exact .inl (by rw [h])
      · exact .inr (.inl h)
      · exact .inr (.inr h)
    · rw [if_neg e, if_neg (fun h => e h.symm)]
      simp only [decide_eq_true_eq]; omega
def lle (a b : List Int) : Bool := !llt b a
theorem lle_tr (a b c : List Int) (h1 : lle a b = true) (h2 : lle b c = true) : lle a c = true := by
  unfold lle at *
  simp only [Bool.not_eq_true'] at *
  rcases llt_total a b with e | h | h
  · subst e; exact h2
  · rcases llt_total b c with e | g | g
    · subst e; exact h1
    · have := llt_tr _ _ _ h g
      cases q : llt c a with
      | false => rfl
      | true => exact absurd (llt_tr _ _ _ this q) (llt_irr _)
    · rw [g] at h2; cases h2
  · rw [h] at h1; cases h1
theorem lle_total (a b : List Int) : (lle a b || lle b a) = true := by
  unfold lle
  rcases llt_total a b with e | h | h
  · subst e; simp [llt_irr a]
  · have : llt b a = false := by
      cases q : llt b a with
      | false => rfl
      | true => exact absurd (llt_tr _ _ _ h q) (llt_irr _)
    simp [this]
  · have : llt a b = false := by
      cases q : llt a b with
      | false => rfl
      | true => exact absurd (llt_tr _ _ _ h q) (llt_irr _)
    simp [this]
def sortR (xs : List (List Int)) : List (List Int) := xs.mergeSort lle
theorem sortR_perm (xs : List (List Int)) : (sortR xs).Perm xs := List.mergeSort_perm xs _
theorem mem_sortR {xs : List (List Int)} {a : List Int} : a ∈ sortR xs ↔ a ∈ xs := (sortR_perm xs).mem_iff
theorem sortR_le (xs : List (List Int)) : (sortR xs).Pairwise fun a b => lle a b = true :=
  List.pairwise_mergeSort lle_tr lle_total xs
theorem llt_of_lle {a b : List Int} (h : lle a b = true) (n : a ≠ b) : llt a b = true := by
  unfold lle at h
  rcases llt_total a b with e | g | g
  · exact absurd e n
  · exact g
  · rw [g] at h; cases h
theorem sortR_lt {xs : List (List Int)} (h : xs.Nodup) : (sortR xs).Pairwise fun a b => llt a b = true := by
  have h2 : (sortR xs).Nodup := (sortR_perm xs).nodup_iff.mpr h
  exact (List.pairwise_and_iff.mpr ⟨sortR_le xs, h2⟩).imp fun ⟨a, b⟩ => llt_of_lle a b
theorem sorted_extR (xs ys : List (List Int)) (h1 : xs.Pairwise fun a b => llt a b = true) (h2 : ys.Pairwise fun a b => llt a b = true) (h : ∀ a, a ∈ xs ↔ a ∈ ys) : xs = ys :=
  sorted_ext (fun a b => llt a b = true) llt_irr llt_tr xs ys h1 h2 h
/-! routes -/
def linked (N : Net) : List Int → Bool
  | a :: b :: r => adj N a b && linked N (b :: r)
  | _ => true
theorem linked_cons {N : Net} {a b : Int} {r : List Int} : linked N (a :: b :: r) = true ↔ adj N a b = true ∧ linked N (b :: r) = true := by
  simp [linked]
theorem linked_snoc {N : Net} {b : Int} : ∀ {r : List Int} {a : Int}, r.getLast? = some a → (linked N (r ++ [b]) = true ↔ linked N r = true ∧ adj N a b = true)
  | [], a, h => by simp at h
  | [c], a, h => by simp at h; subst h; simp [linked]
  | c :: d :: r, a, h => by
    have h' : (d :: r).getLast? = some a := by simpa [List.getLast?_cons_cons] using h
    have ih := linked_snoc (N := N) (b := b) h'
    simp only [List.cons_append] at ih ⊢
    rw [linked_cons, linked_cons, ih]
    exact and_assoc.symm
theorem linked_of_snoc {N : Net} {b : Int} : ∀ {r : List Int}, linked N (r ++ [b]) = true → linked N r = true
  | [], _ => rfl
  | [c], _ => rfl
  | c :: d :: r, h => by
    simp only [List.cons_append] at h
    rw [linked_cons] at h ⊢
    exact ⟨h.1, linked_of_snoc (r := d :: r) h.2⟩
theorem linked_in {N : Net} (w : N.WF) : ∀ {r : List Int}, 2 ≤ r.length → linked N r = true → ∀ x ∈ r, 0 ≤ x ∧ x < N.n
  | [], h, _, _, _ => by simp at h
  | [_], h, _, _, _ => by simp at h
  | [a, b], _, h, x, m => by
    rw [linked_cons] at h
    have := adj_in w h.1
    rcases List.mem_cons.mp m with rfl | m
    · exact this.1
    · rcases List.mem_cons.mp m with rfl | m
      · exact this.2.1
      · cases m
  | a :: b :: c :: r, _, h, x, m => by
    rw [linked_cons] at h
    rcases List.mem_cons.mp m with rfl | m
    · exact (adj_in w h.1).1
    · exact linked_in w (by simp) h.2 x m
structure IsRoute (N : Net) (r : List Int) : Prop where
  two : 2 ≤ r.length
  nd : r.Nodup
  lk : linked N r = true
  ends : ∃ a b, r.head? = some a ∧ r.getLast? = some b ∧ a ∈ N.rim ∧ b ∈ N.rim ∧ a < b
/-- the ways from a way on -/
def isEnd (N : Net) (way : List Int) : Bool := match way.head?, way.getLast? with
  | some a, some b => decide (1 < way.length) && decide (b ∈ N.rim) && decide (a < b)
  | _, _ => false
def ledOn (N : Net) : Nat → List Int → List (List Int)
  | 0, _ => []
  | f + 1, way => (if isEnd N way then [way] else []) ++ (((nb N (way.getLast?.getD 0)).filter fun k => decide (k ∉ way)).flatMap fun k => ledOn N f (way ++ [k]))
theorem ledOn_pre {N : Net} : ∀ (f : Nat) (way r : List Int), r ∈ ledOn N f way → way <+: r
  | 0, _, _, h => by simp [ledOn] at h
  | f + 1, way, r, h => by
    simp only [ledOn, List.mem_append, List.mem_flatMap] at h
    rcases h with h | ⟨k, _, h⟩
    · split at h
      · simp at h; subst h; exact List.prefix_refl _
      · simp at h
    · exact (List.prefix_append way [k]).trans (ledOn_pre f _ _ h)
theorem mem_ledOn {N : Net} (w : N.WF) : ∀ (f : Nat) (way r : List Int), way ≠ [] → way.Nodup → linked N way = true → (∀ x ∈ way, 0 ≤ x ∧ x < N.n) → N.n < f + way.length →
    (r ∈ ledOn N f way ↔ way <+: r ∧ r.Nodup ∧ linked N r = true ∧ isEnd N r = true)
  | 0, way, r, h0, hn, hl, hi, hf => by
    have := nodup_len_le way (ir N.n) hn fun a m => mem_ir.mpr (hi a m)
    rw [ir_len] at this
    omega
  | f + 1, way, r, h0, hn, hl, hi, hf => by
    obtain ⟨b, hb⟩ : ∃ b, way.getLast? = some b := by
      cases e : way.getLast? with
      | none => exact absurd (List.getLast?_eq_none_iff.mp e) h0
      | some b => exact ⟨b, rfl⟩
    simp only [ledOn, hb, Option.getD_some, List.mem_append, List.mem_flatMap, List.mem_filter, decide_eq_true_eq]
    constructor
    · rintro (h | ⟨k, ⟨hk, hkw⟩, h⟩)
      · split at h
        · rename_i he
          simp at h; subst h
          exact ⟨List.prefix_refl _, hn, hl, he⟩
        · simp at h
      · have hadj := (mem_nb (w := w)).mp hk
        have := (mem_ledOn w f (way ++ [k]) r (by simp) (List.nodup_append.mpr ⟨hn, by simp, fun a m c mc => by simp at mc; subst mc; exact fun e => hkw (e ▸ m)⟩) ((linked_snoc hb).mpr ⟨hl, hadj⟩)
          (fun x m => by
            rcases List.mem_append.mp m with m | m
            · exact hi x m
            · simp at m; subst m; exact (adj_in w hadj).2.1) (by simp; omega)).mp h
        exact ⟨(List.prefix_append way [k]).trans this.1, this.2⟩
    · rintro ⟨hp, hrn, hrl, hre⟩
      obtain ⟨t, rfl⟩ := hp
      cases t with
      | nil => left; rw [List.append_nil] at hre ⊢; rw [if_pos hre]; simp
      | cons k t =>
        right
        have hkw : k ∉ way := fun m => by
          have := (List.nodup_append.mp hrn).2.2 k m k (by simp)
          exact this rfl
        have hl2 : linked N (way ++ [k]) = true := by
          have : ∀ (t : List Int), linked N (way ++ k :: t) = true → linked N (way ++ [k]) = true := by
            intro t h
            have : ∀ (m : Nat) (t : List Int), t.length = m → linked N (way ++ k :: t) = true → linked N (way ++ [k]) = true := by
              intro m
              induction m with
              | zero => intro t ht h; cases t with
                | nil => exact h
                | cons _ _ => simp at ht
              | succ m ih =>
                intro t ht h
                have e : way ++ k :: t = (way ++ k :: t.dropLast) ++ [t.getLast (by intro e; subst e; simp at ht)] := by simp [List.dropLast_concat_getLast]
                rw [e] at h
                exact ih t.dropLast (by simp; omega) (linked_of_snoc h)
            exact this _ t rfl h
          exact this t hrl
        have hadj := ((linked_snoc hb).mp hl2).2
        refine ⟨k, ⟨(mem_nb (w := w)).mpr hadj, hkw⟩, ?_⟩
        refine (mem_ledOn w f (way ++ [k]) _ (by simp) (List.nodup_append.mpr ⟨hn, by simp, fun a m c mc => by simp at mc; subst mc; exact fun e => hkw (e ▸ m)⟩) hl2 (fun x m => by
            rcases List.mem_append.mp m with m | m
            · exact hi x m
            · simp at m; subst m; exact (adj_in w hadj).2.1) (by simp; omega)).mpr ⟨⟨t, by simp⟩, hrn, hrl, hre⟩
theorem ledOn_nodup {N : Net} : ∀ (f : Nat) (way : List Int), (ledOn N f way).Nodup
  | 0, _ => by simp [ledOn]
  | f + 1, way => by
    simp only [ledOn]
    rw [List.nodup_append]
    refine ⟨by split <;> simp, ?_, ?_⟩
    · have key : ∀ ks : List Int, ks.Nodup → (ks.flatMap fun k => ledOn N f (way ++ [k])).Nodup := by
        intro ks
        induction ks with
        | nil => intro _; simp
        | cons k ks ih =>
          intro hn
          rw [List.nodup_cons] at hn
          rw [List.flatMap_cons, List.nodup_append]
          refine ⟨ledOn_nodup f _, ih hn.2, fun a m b mb e => ?_⟩
          subst e
          obtain ⟨k2, m2, hb⟩ := List.mem_flatMap.mp mb
          obtain ⟨t1, e1⟩ := ledOn_pre f _ _ m
          obtain ⟨t2, e2⟩ := ledOn_pre f _ _ hb
          rw [← e1] at e2
          simp only [List.append_assoc] at e2
          have := List.append_cancel_left e2
          simp at this
          exact hn.1 (this.1 ▸ m2)
      exact key _ ((nodup_of_lt (fun a => Int.lt_irrefl a) (nb_sorted N _)).filter _)
    · intro a m b mb e
      subst e
      obtain ⟨k2, m2, hb⟩ := List.mem_flatMap.mp mb
      split at m
      · simp at m; subst m
        have := (ledOn_pre f _ _ hb).length_le
        simp at this; omega
      · simp at m
def routes (N : Net) : List (List Int) := sortR (N.rim.flatMap fun k => ledOn N 8 [k])
end GT
namespace DL
open PySem L2 GT
/-! loops -/
def forK (g : GM) (f : SM) (xs : List D) : Out → Option Out
  | .nx r2 => forL g f xs r2
  | .ct r2 => forL g f xs r2
  | .bk r2 => some (.nx r2)
  | o => some o
theorem forL_nil (g : GM) (f : SM) (r : Rho) : forL g f [] r = some (.nx r) := (rfl)
theorem forL_cons (g : GM) (f : SM) (x : D) (xs : List D) (r : Rho) : forL g f (x :: xs) r = ((g r x).bind f).bind (forK g f xs) := by
  rw [forL]
  cases g r x with
  | none => rfl
  | some r1 =>
    simp only [ob_some]
    cases f r1 with
    | none => rfl
    | some o => cases o <;> rfl
theorem forK_nx (g : GM) (f : SM) (xs : List D) (r : Rho) : forK g f xs (.nx r) = forL g f xs r := (rfl)
theorem forK_ct (g : GM) (f : SM) (xs : List D) (r : Rho) : forK g f xs (.ct r) = forL g f xs r := (rfl)
theorem forK_rt (g : GM) (f : SM) (xs : List D) (d : D) (r : Rho) : forK g f xs (.rt d r) = some (.rt d r) := (rfl)
theorem forL_inv {A : Type} {g : GM} {f : SM} (enc : A → D) (P : List A → Rho → Prop)
    (step : ∀ a as r, P (a :: as) r → ∃ r2, ((g r (enc a)).bind f = some (.nx r2) ∨ (g r (enc a)).bind f = some (.ct r2)) ∧ P as r2) :
    ∀ as r, P as r → ∃ r', forL g f (as.map enc) r = some (.nx r') ∧ P [] r'
  | [], r, h => ⟨r, rfl, h⟩
  | a :: as, r, h => by
    obtain ⟨r2, h1, h3⟩ := step a as r h
    obtain ⟨r', h4, h5⟩ := forL_inv enc P step as r2 h3
    refine ⟨r', ?_, h5⟩
    rw [List.map_cons, forL_cons]
    rcases h1 with h1 | h1 <;> (rw [h1, ob_some]; exact h4)
/-- one turn of a comprehension -/
def it1 (g : GM) (t : TM) (el : EM) (is : List Nat) (r : Rho) (x : D) : Option (Option D × Rho) :=
  (g r x).bind fun r1 => (t r1).bind fun p => cnd p.1 (fun _ => (el p.2).map fun q => (some q.1, wipeR q.2 is)) (fun _ => some (none, wipeR p.2 is))
theorem compL_cons (g : GM) (t : TM) (el : EM) (is : List Nat) (r : Rho) (x : D) (xs : List D) :
    compL g t el is (x :: xs) r = (it1 g t el is r x).bind fun q => (compL g t el is xs q.2).map fun w => (q.1.toList ++ w.1, w.2) := by
  unfold it1
  rw [compL]
  cases g r x with
  | none => rfl
  | some r1 =>
    simp only [ob_some]
    cases t r1 with
    | none => rfl
    | some p =>
      obtain ⟨b, r2⟩ := p
      cases b with
      | false =>
        simp only [ob_some, cnd_f, Bool.false_eq_true, if_false]
        cases compL g t el is xs (wipeR r2 is) <;> rfl
      | true =>
        simp only [ob_some, cnd_t, if_true]
        cases el r2 with
        | none => rfl
        | some q => rfl
/-- a comprehension that changes nothing -/
theorem compL_pure {A : Type} {g : GM} {t : TM} {el : EM} {is : List Nat} {r : Rho} (enc e : A → D) (p : A → Bool) :
    ∀ as : List A, (∀ a ∈ as, it1 g t el is r (enc a) = some (if p a = true then some (e a) else none, r)) →
    compL g t el is (as.map enc) r = some ((as.filter p).map e, r)
  | [], _ => rfl
  | a :: as, h => by
    have h1 := h a (by simp)
    have ih := compL_pure enc e p as fun b m => h b (List.mem_cons_of_mem _ m)
    rw [List.map_cons, compL_cons, h1, ob_some, ih]
    cases q : p a with
    | false => rw [List.filter_cons_of_neg (by simp [q])]; rfl
    | true => rw [List.filter_cons_of_pos (by simp [q])]; rfl
theorem compL_map {A : Type} {g : GM} {el : EM} {is : List Nat} {r : Rho} (enc e : A → D) (as : List A) (h : ∀ a ∈ as, it1 g yesM el is r (enc a) = some (some (e a), r)) :
    compL g yesM el is (as.map enc) r = some (as.map e, r) := by
  have := compL_pure (g := g) (t := yesM) (el := el) (is := is) (r := r) enc e (fun _ => true) as fun a m => by rw [h a m]; rfl
  rwa [List.filter_eq_self.mpr (by simp)] at this
theorem yesM_a (r : Rho) : yesM r = some (true, r) := (rfl)
theorem it1_a (g : GM) (t : TM) (el : EM) (is : List Nat) (r : Rho) (x : D) : it1 g t el is r x =
  (g r x).bind fun r1 => (t r1).bind fun p => cnd p.1 (fun _ => (el p.2).map fun q => (some q.1, wipeR q.2 is)) (fun _ => some (none, wipeR p.2 is)) := (rfl)
theorem compM_a (is : List Nat) (it : AM) (g : GM) (t : TM) (el : EM) (r : Rho) : compM is it g t el r = (it r).bind fun p => guard' (plainAt p.2 is && szOk p.1.length) fun _ => (compL g t el is p.1 (wipeR p.2 is)).map fun w => (w.1, restR w.2 p.2 is) := (rfl)
theorem wipeR_c (r : Rho) (i : Nat) (is : List Nat) : wipeR r (i :: is) = (wipeR r is).set i none := (rfl)
theorem wipeR_n (r : Rho) : wipeR r [] = r := (rfl)
theorem restR_c (r r1 : Rho) (i : Nat) (is : List Nat) : restR r r1 (i :: is) = (restR r r1 is).set i (r1[i]?.getD none) := (rfl)
theorem restR_n (r r1 : Rho) : restR r r1 [] = r := (rfl)
/-! the kinds of data -/
abbrev I (n : Int) : D := .int n
abbrev TI (xs : List Int) : D := .tuple (xs.map .int)
abbrev encT (t : Tie) : D := .tuple [.int t.1, .int t.2]
def encN (N : Net) : D := .tuple [.int N.n, .tuple (N.ties.map encT), TI N.rim]
theorem rngL_ir (n : Nat) : rngL 0 (n : Int) = (ir n).map .int := by
  unfold rngL ir
  simp [List.map_map]
theorem rngL_eq (a b : Int) : rngL a b = ((List.range (b - a).toNat).map fun (i : Nat) => a + (i : Int)).map .int := by
  unfold rngL
  simp [List.map_map]
theorem mem_rg {a b x : Int} : x ∈ ((List.range (b - a).toNat).map fun (i : Nat) => a + (i : Int)) ↔ a ≤ x ∧ x < b := by
  simp only [List.mem_map, List.mem_range]
  constructor
  · rintro ⟨i, h, rfl⟩; omega
  · rintro ⟨h1, h2⟩; exact ⟨(x - a).toNat, by omega, by omega⟩
end DL
local macro_rules | `(tactic| simp_arith [$xs,*]) => `(tactic| simp only [DL.ob_some, DL.om_some, DL.dat_d, DL.lis_l, DL.gt_0, DL.gt_1, DL.gt_2, DL.gt_3, DL.gt_4, DL.gt_5, DL.gt_6, DL.gt_7, DL.gt_b, DL.st_0, DL.st_s, DL.plG_d, DL.plG_n, DL.plainAt_a, DL.varM_a, DL.ownM_a, DL.cM_a, DL.ofL_a, DL.opM_a, DL.unM_a, DL.truM_a, DL.tstM_a, DL.notM_a, DL.cnd_t, DL.cnd_f, DL.andM_a, DL.orM_a, DL.andVM_a, DL.notVM_a, DL.iteM_a, DL.chM_a, DL.nilM_a, DL.consM_a, DL.guard_tt, DL.tupM_a, DL.lstM_a, DL.noM_a, DL.intV_i, DL.someM_a, DL.slM_a, DL.rng1M_a, DL.rng2M_a, DL.zipV_t, DL.zipV_l, DL.zipM_a, DL.seqM_a, DL.callM_a, DL.hereM_a, DL.callRM_a, DL.appM_a, DL.lisV_l, DL.catOwnM_a, DL.nameG_a, DL.nilG_a, DL.consG_a, DL.tupG_a, DL.seqS_a, DL.seqK_nx, DL.seqK_rt, DL.seqK_ct, DL.skipM_a, DL.asgM_a, DL.newM_a, DL.asgLM_a, DL.retM_a, DL.exprM_a, DL.ifM_a, DL.forM_a, DL.frzM_a, DL.runF_a, DL.finF_rt, DL.finF_nx, DL.runR_a, DL.finR_rt, DL.finR_nx, DL.sz_0, DL.sz_1, DL.sz_2, DL.sz_3, DL.sz_4, DL.sz_5, DL.sz_6, DL.sz_7, DL.sz_8, DL.sz_9, DL.sz_10, DL.sz_11, DL.sz_12, DL.sz_13, DL.sz_14, DL.sz_15, DL.sz_16, DL.sz_17, DL.sz_18, DL.sz_19, DL.sz_20, DL.sz_21, DL.sz_22, DL.sz_23, DL.sz_24, DL.sz_25, DL.sz_26, DL.sz_27, DL.sz_28, DL.sz_29, DL.sz_30, DL.nc_0, DL.nc_1, DL.nc_2, DL.nc_3, DL.nc_4, DL.nc_5, DL.nc_6, DL.nc_7, DL.nc_8, DL.nc_9, DL.nc_10, DL.nc_11, DL.nc_12, DL.nc_13, DL.nc_14, DL.nc_15, DL.nc_16, DL.nc_17, DL.nc_18, DL.nc_19, DL.nc_20, DL.nc_21, DL.nc_22, DL.nc_23, DL.nc_24, DL.nc_25, DL.nc_26, DL.nc_27, DL.nc_28, DL.nc_29, DL.nc_30, DL.addD_i, DL.addD_t, DL.addD_l, DL.subD_i, DL.modD_i, DL.fdivD_i, DL.mulD_i, DL.lenD_t, DL.lenD_l, DL.tupleD_t, DL.tupleD_l, DL.listD_t, DL.listD_l, DL.truD_i, DL.truD_b, DL.truD_n, DL.truD_l, DL.truD_t, DL.ixD_t, DL.ixD_l, DL.negD_i, DL.bD_a, DL.ltB_i, DL.leB_i, DL.eqB_i, DL.neB_i, DL.min2D_i, DL.max2D_i, DL.items_t, DL.items_l, DL.intD_b, DL.isNN, DL.slD_t, DL.slD_l, DL.sortD2_l, DL.sortD2_t, DL.p_ge0, DL.p_geS, DL.p_tk0, DL.p_tkS, DL.p_tkN, DL.p_dr0, DL.p_drS, DL.p_drN, DL.p_mpC, DL.p_mpN, DL.p_apC, DL.p_apN, DL.p_lnC, DL.p_lnN, DL.p_rpS, DL.p_rp0, DL.p_alC, DL.p_alN, DL.p_gdS, DL.p_gdN, DL.p_tlS, DL.p_tlN, DL.p_ieC, DL.p_ieN, DL.p_nt, DL.p_nf, DL.p_atb, DL.p_afb, DL.p_abt, DL.p_abf, DL.p_eqS, DL.p_dT, DL.p_dF, DL.p_TA, DL.p_AT, DL.p_TO, DL.p_OT, DL.p_startD, DL.p_startR, DL.forK_nx, DL.forK_ct, DL.forK_rt, DL.yesM_a, DL.it1_a, DL.compM_a, DL.wipeR_c, DL.wipeR_n, DL.restR_c, DL.restR_n, Nat.reduceAdd, Nat.reduceSub, Nat.reduceMul, Int.reduceLT, Int.reduceLE, Int.reducePow, Int.reduceNeg, Int.reduceAdd, Int.reduceSub, Int.reduceMul, Int.reduceBEq, Int.reduceBNe, Int.reduceToNat, $xs,*])
namespace DL
open PySem L2 GT PySem.W
/-! order of rows of ints -/
theorem alikeAll_ints : ∀ a b : List Int, alikeAll (a.map PyData.int) (b.map PyData.int) = true
  | [], _ => by simp [alikeAll]
  | _ :: _, [] => by simp [alikeAll]
  | x :: a, y :: b => by simp [alikeAll, alike, alikeAll_ints a b]
theorem alike_TI (a b : List Int) : alike (TI a) (TI b) = true := by simp [alike, alikeAll_ints]
theorem dataLt_TI : ∀ a b : List Int, dataLt (TI a) (TI b) = llt a b
  | [], [] => by decide
  | [], y :: b => by
    rw [dataLt_tuple, List.map_cons, toks_all_cons]; rfl
  | x :: a, [] => by
    rw [dataLt_tuple, List.map_cons, toks_all_cons]; rfl
  | x :: a, y :: b => by
    rw [dataLt_tuple]
    simp only [List.map_cons, llt]
    by_cases e : x = y
    · subst e
      rw [if_pos rfl, dataLt_all_yes (x := PyData.int x) (y := PyData.int x) (by simp [alike]) (by simp [PyData.eqv]), ← dataLt_tuple]
      exact dataLt_TI a b
    · rw [if_neg e, dataLt_all_no (x := PyData.int x) (y := PyData.int y) (by simp [alike]) (by simp [PyData.eqv, e]), dataLt_int]
theorem dataLe_TI (a b : List Int) : dataLe false id (TI a) (TI b) = lle a b := by
  rw [dataLe_eq]
  simp only [cond_false, id]
  rw [dataLt_TI]; rfl
theorem sortL_TI (xs : List (List Int)) : sortL (xs.map TI) = (sortR xs).map TI := by
  unfold sortL sortR
  exact (List.map_mergeSort (fun a _ b _ => (dataLe_TI a b).symm)).symm
theorem dataLe_I (a b : Int) : dataLe false id (.int a) (.int b) = decide (a ≤ b) := by
  rw [dataLe_eq]
  simp only [cond_false, id]
  rw [dataLt_int]
  by_cases h : b < a
  · rw [decide_eq_true h, decide_eq_false (by omega)]; rfl
  · rw [decide_eq_false h, decide_eq_true (by omega)]; rfl
theorem sortL_I (xs : List Int) : sortL (xs.map .int) = (GT.sortI xs).map .int := by
  unfold sortL GT.sortI
  exact (List.map_mergeSort (fun a _ b _ => (dataLe_I a b).symm)).symm
theorem depth_ints : ∀ xs : List Int, PyData.depthAll (xs.map PyData.int) ≤ 1
  | [] => by simp [PyData.depthAll]
  | x :: xs => by have := depth_ints xs; simp [PyData.depthAll, PyData.depth]; omega
theorem sortOk_I {xs : List Int} (h : xs.length ≤ 1000000) : sortOk (xs.map .int) = true := by
  unfold sortOk
  have h1 : (xs.map PyData.int).all (fun d => (xs.map PyData.int).all fun e => alike d e) = true := by simp [List.all_eq_true, alike]
  have h2 : (xs.map PyData.int).all nonTup = true := by simp [List.all_eq_true, nonTup]
  have h3 : (xs.map PyData.int).all (fun d => decide (d.depth ≤ 60)) = true := by simp [List.all_eq_true, PyData.depth]
  rw [h1, h2, h3, List.length_map, szOk_of h]
  simp
theorem sortOk_TI {xs : List (List Int)} (h : xs.length ≤ 1000000) (hn : ∀ x ∈ xs, x ≠ []) : sortOk (xs.map TI) = true := by
  unfold sortOk
  have h1 : (xs.map TI).all (fun d => (xs.map TI).all fun e => alike d e) = true := by simp [List.all_eq_true, alike_TI]
  have h2 : (xs.map TI).all tupCons = true := by
    simp only [List.all_eq_true, List.mem_map]
    rintro d ⟨x, m, rfl⟩
    cases x with
    | nil => exact absurd rfl (hn _ m)
    | cons a x => rfl
  have h3 : (xs.map TI).all (fun d => decide (d.depth ≤ 60)) = true := by
    simp only [List.all_eq_true, List.mem_map, decide_eq_true_eq]
    rintro d ⟨x, m, rfl⟩
    have := depth_ints x
    simp only [PyData.depth]; omega
  rw [h1, h2, h3, List.length_map, szOk_of h]
  simp
/-! ties -/
theorem llt_pair (a b : Tie) : llt [a.1, a.2] [b.1, b.2] = true ↔ tlt a b := by
  unfold tlt
  simp only [llt]
  by_cases e : a.1 = b.1
  · rw [if_pos e]
    by_cases e2 : a.2 = b.2
    · simp [e2, e]
    · simp only [if_neg e2, decide_eq_true_eq]; omega
  · simp only [if_neg e, decide_eq_true_eq]; omega
def tle (a b : Tie) : Bool := lle [a.1, a.2] [b.1, b.2]
def sortT (xs : List Tie) : List Tie := xs.mergeSort tle
theorem sortL_T (xs : List Tie) : sortL (xs.map encT) = (sortT xs).map encT := by
  unfold sortL sortT
  exact (List.map_mergeSort (fun a _ b _ => (dataLe_TI [a.1, a.2] [b.1, b.2]).symm)).symm
theorem sortT_perm (xs : List Tie) : (sortT xs).Perm xs := List.mergeSort_perm xs _
theorem mem_sortT {xs : List Tie} {a : Tie} : a ∈ sortT xs ↔ a ∈ xs := (sortT_perm xs).mem_iff
theorem sortT_lt {xs : List Tie} (h : xs.Nodup) : (sortT xs).Pairwise tlt := by
  have h2 : (sortT xs).Nodup := (sortT_perm xs).nodup_iff.mpr h
  have h1 := List.pairwise_mergeSort (le := tle) (fun a b c => lle_tr _ _ _) (fun a b => lle_total _ _) xs
  exact (List.pairwise_and_iff.mpr ⟨h1, h2⟩).imp fun {a b} ⟨p, q⟩ => (llt_pair a b).mp (llt_of_lle p fun e => q (by
    obtain ⟨a1, a2⟩ := a; obtain ⟨b1, b2⟩ := b; simpa using e))
theorem sortOk_T {xs : List Tie} (h : xs.length ≤ 1000000) : sortOk (xs.map encT) = true := by
  have e : xs.map encT = (xs.map fun t => [t.1, t.2]).map TI := by simp [List.map_map]
  rw [e]
  exact sortOk_TI (by simpa using h) fun x m => by
    obtain ⟨t, _, rfl⟩ := List.mem_map.mp m
    simp
/-! dicts with ties as keys -/
end DL
namespace DL
open PySem L2 GT
theorem gtD_i (i j : Int) : gtD (.int i) (.int j) = some (decide (j < i)) := (rfl)
theorem gtD_T (a b : List Int) : gtD (TI a) (TI b) = some (llt b a) := by
  have h1 := alike_TI a b
  have h2 : decide (PyData.depth (TI a) ≤ 60) = true := by
    have := depth_ints a
    rw [decide_eq_true_eq]
    simp only [PyData.depth]; omega
  show (if (PySem.W.alike (TI a) (TI b) && decide (PyData.depth (TI a) ≤ 60)) = true then some (PySem.W.dataLt (TI b) (TI a)) else none) = _
  rw [h1, h2, Bool.and_self, if_pos rfl]
  exact congrArg some (dataLt_TI b a)
/-! what an evaluation comes to -/
def wp {α : Type} (e : Option α) (Q : α → Prop) : Prop := ∃ a, e = some a ∧ Q a
theorem wp_ok {α : Type} {a : α} {Q : α → Prop} (h : Q a) : wp (some a) Q := ⟨a, rfl, h⟩
theorem wp_bind {α β : Type} {e : Option α} {K : α → Option β} {P : α → Prop} {Q : β → Prop} (h : wp e P) (k : ∀ a, P a → wp (K a) Q) : wp (e.bind K) Q := by
  obtain ⟨a, rfl, ha⟩ := h
  exact k a ha
theorem wp_mono {α : Type} {e : Option α} {P Q : α → Prop} (h : wp e P) (k : ∀ a, P a → Q a) : wp e Q := by
  obtain ⟨a, e, ha⟩ := h
  exact ⟨a, e, k a ha⟩
theorem wp_val {α : Type} {e : Option α} {a : α} (h : wp e (· = a)) : e = some a := by
  obtain ⟨b, e, rfl⟩ := h; exact e
theorem ob_assoc {α β γ : Type} (x : Option α) (f : α → Option β) (g : β → Option γ) : (x.bind f).bind g = x.bind fun a => (f a).bind g := by cases x <;> rfl
theorem om_bind {α β γ : Type} (x : Option α) (f : α → β) (g : β → Option γ) : (x.map f).bind g = x.bind fun a => g (f a) := by cases x <;> rfl
theorem ob_map {α β γ : Type} (x : Option α) (f : α → Option β) (g : β → γ) : (x.bind f).map g = x.bind fun a => (f a).map g := by cases x <;> rfl
theorem om_map {α β γ : Type} (x : Option α) (f : α → β) (g : β → γ) : (x.map f).map g = x.map fun a => g (f a) := by cases x <;> rfl
theorem cnd_bind {α β : Type} (b : Bool) (x y : Unit → Option α) (f : α → Option β) : (cnd b x y).bind f = cnd b (fun u => (x u).bind f) (fun u => (y u).bind f) := by cases b <;> rfl
theorem cnd_map {α β : Type} (b : Bool) (x y : Unit → Option α) (f : α → β) : (cnd b x y).map f = cnd b (fun u => (x u).map f) (fun u => (y u).map f) := by cases b <;> rfl
theorem guard_bind {α β : Type} (b : Bool) (x : Unit → Option α) (f : α → Option β) : (guard' b x).bind f = guard' b fun u => (x u).bind f := by cases b <;> rfl
theorem guard_map {α β : Type} (b : Bool) (x : Unit → Option α) (f : α → β) : (guard' b x).map f = guard' b fun u => (x u).map f := by cases b <;> rfl
theorem atI_nat {α : Type} (xs : List α) (k : Nat) : atI xs (k : Int) = xs[k]? := by
  by_cases h : k < xs.length
  · obtain ⟨x, h1, h2⟩ := atI_lt (xs := xs) (i := (k : Int)) (by omega) (by omega)
    rw [h1, ← h2]; simp
  · unfold atI ixN
    rw [if_pos (by omega), if_neg (by omega)]
    exact (List.getElem?_eq_none (by omega)).symm
theorem atI_c0 {α : Type} (a : α) (l : List α) : atI (a :: l) 0 = some a := atI_nat (a :: l) 0
theorem atI_c1 {α : Type} (a b : α) (l : List α) : atI (a :: b :: l) 1 = some b := atI_nat (a :: b :: l) 1
theorem atI_c2 {α : Type} (a b c : α) (l : List α) : atI (a :: b :: c :: l) 2 = some c := atI_nat (a :: b :: c :: l) 2
theorem atI_c3 {α : Type} (a b c d : α) (l : List α) : atI (a :: b :: c :: d :: l) 3 = some d := atI_nat (a :: b :: c :: d :: l) 3
/-- a net's parts -/
theorem encN_0 (N : Net) : ixD (encN N) (.int 0) = some (.int N.n) := (rfl)
theorem encN_1 (N : Net) : ixD (encN N) (.int 1) = some (.tuple (N.ties.map encT)) := (rfl)
theorem encN_2 (N : Net) : ixD (encN N) (.int 2) = some (TI N.rim) := (rfl)
theorem encN_u (N : Net) (n : Nat) (t : GMs) (r : Rho) : tupG n t r (encN N) = tupG n t r (.tuple [.int N.n, .tuple (N.ties.map encT), TI N.rim]) := (rfl)
theorem revD_t (l : List D) : revD (.tuple l) = some (.tuple l.reverse) := (rfl)
theorem revD_l (l : List D) : revD (.list l) = some (.list l.reverse) := (rfl)
/-- what a turn leaves -/
def goesOn (P : Rho → Prop) : Out → Prop
  | .nx r => P r
  | .ct r => P r
  | _ => False
theorem wp_for {A β : Type} {g : GM} {f : SM} {as : List A} {r : Rho} {K : Out → Option β} {Q : β → Prop} (enc : A → D) (P : List A → Rho → Prop) (h0 : P as r)
    (step : ∀ a as r, P (a :: as) r → wp ((g r (enc a)).bind f) (goesOn (P as)))
    (k : ∀ r, P [] r → wp (K (.nx r)) Q) : wp ((forL g f (as.map enc) r).bind K) Q := by
  obtain ⟨r', h1, h2⟩ := forL_inv (g := g) (f := f) enc P (fun a as r h => by
    obtain ⟨o, e, ho⟩ := step a as r h
    cases o with
    | nx r2 => exact ⟨r2, .inl e, ho⟩
    | ct r2 => exact ⟨r2, .inr e, ho⟩
    | rt _ _ => exact ho.elim
    | bk _ => exact ho.elim
    | ex _ _ => exact ho.elim) as r h0
  rw [h1]; exact k r' h2
end DL
local macro_rules | `(tactic| simp_arith [$xs,*]) => `(tactic| simp only [DL.ob_some, DL.om_some, DL.dat_d, DL.lis_l, DL.gt_0, DL.gt_1, DL.gt_2, DL.gt_3, DL.gt_4, DL.gt_5, DL.gt_6, DL.gt_7, DL.gt_b, DL.st_0, DL.st_s, DL.plG_d, DL.plG_n, DL.plainAt_a, DL.varM_a, DL.ownM_a, DL.cM_a, DL.ofL_a, DL.opM_a, DL.unM_a, DL.truM_a, DL.tstM_a, DL.notM_a, DL.cnd_t, DL.cnd_f, DL.andM_a, DL.orM_a, DL.andVM_a, DL.notVM_a, DL.iteM_a, DL.chM_a, DL.nilM_a, DL.consM_a, DL.guard_tt, DL.tupM_a, DL.lstM_a, DL.noM_a, DL.intV_i, DL.someM_a, DL.slM_a, DL.rng1M_a, DL.rng2M_a, DL.zipV_t, DL.zipV_l, DL.zipM_a, DL.seqM_a, DL.callM_a, DL.hereM_a, DL.callRM_a, DL.appM_a, DL.lisV_l, DL.catOwnM_a, DL.nameG_a, DL.nilG_a, DL.consG_a, DL.tupG_a, DL.seqS_a, DL.seqK_nx, DL.seqK_rt, DL.seqK_ct, DL.skipM_a, DL.asgM_a, DL.newM_a, DL.asgLM_a, DL.retM_a, DL.exprM_a, DL.ifM_a, DL.forM_a, DL.frzM_a, DL.runF_a, DL.finF_rt, DL.finF_nx, DL.runR_a, DL.finR_rt, DL.finR_nx, DL.sz_0, DL.sz_1, DL.sz_2, DL.sz_3, DL.sz_4, DL.sz_5, DL.sz_6, DL.sz_7, DL.sz_8, DL.sz_9, DL.sz_10, DL.sz_11, DL.sz_12, DL.sz_13, DL.sz_14, DL.sz_15, DL.sz_16, DL.sz_17, DL.sz_18, DL.sz_19, DL.sz_20, DL.sz_21, DL.sz_22, DL.sz_23, DL.sz_24, DL.sz_25, DL.sz_26, DL.sz_27, DL.sz_28, DL.sz_29, DL.sz_30, DL.nc_0, DL.nc_1, DL.nc_2, DL.nc_3, DL.nc_4, DL.nc_5, DL.nc_6, DL.nc_7, DL.nc_8, DL.nc_9, DL.nc_10, DL.nc_11, DL.nc_12, DL.nc_13, DL.nc_14, DL.nc_15, DL.nc_16, DL.nc_17, DL.nc_18, DL.nc_19, DL.nc_20, DL.nc_21, DL.nc_22, DL.nc_23, DL.nc_24, DL.nc_25, DL.nc_26, DL.nc_27, DL.nc_28, DL.nc_29, DL.nc_30, DL.addD_i, DL.addD_t, DL.addD_l, DL.subD_i, DL.modD_i, DL.fdivD_i, DL.mulD_i, DL.lenD_t, DL.lenD_l, DL.tupleD_t, DL.tupleD_l, DL.listD_t, DL.listD_l, DL.truD_i, DL.truD_b, DL.truD_n, DL.truD_l, DL.truD_t, DL.ixD_t, DL.ixD_l, DL.negD_i, DL.bD_a, DL.ltB_i, DL.leB_i, DL.eqB_i, DL.neB_i, DL.min2D_i, DL.max2D_i, DL.items_t, DL.items_l, DL.intD_b, DL.isNN, DL.slD_t, DL.slD_l, DL.sortD2_l, DL.sortD2_t, DL.p_ge0, DL.p_geS, DL.p_tk0, DL.p_tkS, DL.p_tkN, DL.p_dr0, DL.p_drS, DL.p_drN, DL.p_mpC, DL.p_mpN, DL.p_apC, DL.p_apN, DL.p_lnC, DL.p_lnN, DL.p_rpS, DL.p_rp0, DL.p_alC, DL.p_alN, DL.p_gdS, DL.p_gdN, DL.p_tlS, DL.p_tlN, DL.p_ieC, DL.p_ieN, DL.p_nt, DL.p_nf, DL.p_atb, DL.p_afb, DL.p_abt, DL.p_abf, DL.p_eqS, DL.p_dT, DL.p_dF, DL.p_TA, DL.p_AT, DL.p_TO, DL.p_OT, DL.p_startD, DL.p_startR, DL.forK_nx, DL.forK_ct, DL.forK_rt, DL.yesM_a, DL.it1_a, DL.compM_a, DL.wipeR_c, DL.wipeR_n, DL.restR_c, DL.restR_n, DL.gtD_i, DL.gtD_T, DL.ob_assoc, DL.om_bind, DL.ob_map, DL.om_map, DL.cnd_bind, DL.cnd_map, DL.guard_bind, DL.guard_map, DL.atI_c0, DL.atI_c1, DL.atI_c2, DL.atI_c3, DL.encN_0, DL.encN_1, DL.encN_2, DL.encN_u, DL.revD_t, DL.revD_l, Nat.reduceAdd, Nat.reduceSub, Nat.reduceMul, Int.reduceLT, Int.reduceLE, Int.reducePow, Int.reduceNeg, Int.reduceAdd, Int.reduceSub, Int.reduceMul, Int.reduceBEq, Int.reduceBNe, Int.reduceToNat, $xs,*])
namespace DL
open PySem L2 GT
/-! own dicts of ties, under rows; t.count: evaluation -/
def SV.kn : SV → Option (Bool × List (List NK × Int))
  | .k b x => some (b, x)
  | _ => none
theorem kn_k (b : Bool) (x : List (List NK × Int)) : (SV.k b x).kn = some (b, x) := (rfl)
theorem knV_gt (r : Rho) (i : Nat) : knV r[i]? = (gt r i).bind fun s => s.kn.map (·.2) := by
  unfold knV gt
  cases r[i]? with
  | none => rfl
  | some o => cases o with
    | none => rfl
    | some s => cases s <;> rfl
theorem kn_bind {β : Type} (o : Option SV) (f : List (List NK × Int) → Option β) : (o.bind fun s => s.kn.map (·.2)).bind f = o.bind fun s => s.kn.bind fun x => f x.2 := by
  cases o with
  | none => rfl
  | some s => cases s <;> rfl
theorem intOf_i (i : Int) : intOf (.int i) = some i := (rfl)
theorem putKM_a (i : Nat) (fk fv : EM) (r : Rho) : putKM i fk fv r = (fv r).bind fun p => (intOf p.1).bind fun v => (gt p.2 i).bind fun s => s.kn.bind fun _ => (fk p.2).bind fun q => (gt q.2 i).bind fun s => s.kn.bind fun x => (rowOf q.1).bind fun k => guard' (szOk x.2.length) fun _ => some (.nx (q.2.set i (some (.k x.1 (putN x.2 k v))))) := by
  unfold putKM
  congr 1; funext p
  congr 1; funext v
  rw [knV_gt, kn_bind]
  congr 1; funext s
  congr 1; funext _
  congr 1; funext q
  rw [knV_gt, kn_bind]
  unfold gt
  cases q.2[i]? with
  | none => rfl
  | some o => cases o with
    | none => rfl
    | some s => cases s <;> rfl
theorem newKM_a (i : Nat) (r : Rho) : newKM i r = some (.nx (r.set i (some (.k false [])))) := (rfl)
theorem lenKM_a (i : Nat) (r : Rho) : lenKM i r = (gt r i).bind fun s => s.kn.bind fun x => some (.int x.2.length, r) := by
  unfold lenKM
  rw [knV_gt]
  cases gt r i with
  | none => rfl
  | some s => cases s <;> rfl
theorem sortKM_a (i : Nat) (r : Rho) : sortKM i r = (gt r i).bind fun s => s.kn.bind fun x => guard' (sortOk (x.2.map fun kv => .tuple (kv.1.map nkD))) fun _ => some (.list (sortL (x.2.map fun kv => .tuple (kv.1.map nkD))), r) := by
  unfold sortKM
  rw [knV_gt, kn_bind]
  rfl
/-- a dict of ties -/
def dicN (ks : List Tie) : List (List NK × Int) := ks.map fun t => ([some t.1, some t.2], 0)
theorem dicN_len (ks : List Tie) : (dicN ks).length = ks.length := by unfold dicN; simp
theorem dicN_keys (ks : List Tie) : (dicN ks).map (fun kv => PyData.tuple (kv.1.map nkD)) = ks.map encT := by
  unfold dicN; rw [List.map_map]; rfl
theorem dicN_get : ∀ (ks : List Tie) (t : Tie), (getN (dicN ks) [some t.1, some t.2]).isSome = decide (t ∈ ks)
  | [], t => rfl
  | k :: ks, t => by
    have ih := dicN_get ks t
    unfold getN dicN at *
    rw [List.map_cons, List.find?_cons]
    by_cases e : k = t
    · subst e; simp
    · have : decide (([some k.1, some k.2] : List NK) = [some t.1, some t.2]) = false := by
        rw [decide_eq_false_iff_not]
        intro h
        apply e
        simp at h
        exact Prod.ext h.1 h.2
      simp only [this]
      rw [Bool.eq_iff_iff] at ih ⊢
      rw [ih]
      simp [Ne.symm e]
theorem dicN_put (ks : List Tie) (a b : Int) : putN (dicN ks) [some a, some b] 0 = dicN (if (a, b) ∈ ks then ks else ks ++ [(a, b)]) := by
  unfold putN
  have h := dicN_get ks (a, b)
  simp only at h
  rw [h]
  by_cases m : (a, b) ∈ ks
  · rw [if_pos (decide_eq_true m), if_pos m]
    unfold dicN
    rw [List.map_map]
    refine List.map_congr_left fun t _ => ?_
    show (if [some t.1, some t.2] = [some a, some b] then ([some t.1, some t.2], (0 : Int)) else ([some t.1, some t.2], 0)) = _
    split <;> rfl
  · rw [if_neg (by rw [decide_eq_false m]; decide), if_neg m]
    unfold dicN
    rw [List.map_append]; rfl
end DL
local macro_rules | `(tactic| simp_arith [$xs,*]) => `(tactic| simp only [DL.ob_some, DL.om_some, DL.dat_d, DL.lis_l, DL.gt_0, DL.gt_1, DL.gt_2, DL.gt_3, DL.gt_4, DL.gt_5, DL.gt_6, DL.gt_7, DL.gt_b, DL.st_0, DL.st_s, DL.plG_d, DL.plG_n, DL.plainAt_a, DL.varM_a, DL.ownM_a, DL.cM_a, DL.ofL_a, DL.opM_a, DL.unM_a, DL.truM_a, DL.tstM_a, DL.notM_a, DL.cnd_t, DL.cnd_f, DL.andM_a, DL.orM_a, DL.andVM_a, DL.notVM_a, DL.iteM_a, DL.chM_a, DL.nilM_a, DL.consM_a, DL.guard_tt, DL.tupM_a, DL.lstM_a, DL.noM_a, DL.intV_i, DL.someM_a, DL.slM_a, DL.rng1M_a, DL.rng2M_a, DL.zipV_t, DL.zipV_l, DL.zipM_a, DL.seqM_a, DL.callM_a, DL.hereM_a, DL.callRM_a, DL.appM_a, DL.lisV_l, DL.catOwnM_a, DL.nameG_a, DL.nilG_a, DL.consG_a, DL.tupG_a, DL.seqS_a, DL.seqK_nx, DL.seqK_rt, DL.seqK_ct, DL.skipM_a, DL.asgM_a, DL.newM_a, DL.asgLM_a, DL.retM_a, DL.exprM_a, DL.ifM_a, DL.forM_a, DL.frzM_a, DL.runF_a, DL.finF_rt, DL.finF_nx, DL.runR_a, DL.finR_rt, DL.finR_nx, DL.sz_0, DL.sz_1, DL.sz_2, DL.sz_3, DL.sz_4, DL.sz_5, DL.sz_6, DL.sz_7, DL.sz_8, DL.sz_9, DL.sz_10, DL.sz_11, DL.sz_12, DL.sz_13, DL.sz_14, DL.sz_15, DL.sz_16, DL.sz_17, DL.sz_18, DL.sz_19, DL.sz_20, DL.sz_21, DL.sz_22, DL.sz_23, DL.sz_24, DL.sz_25, DL.sz_26, DL.sz_27, DL.sz_28, DL.sz_29, DL.sz_30, DL.nc_0, DL.nc_1, DL.nc_2, DL.nc_3, DL.nc_4, DL.nc_5, DL.nc_6, DL.nc_7, DL.nc_8, DL.nc_9, DL.nc_10, DL.nc_11, DL.nc_12, DL.nc_13, DL.nc_14, DL.nc_15, DL.nc_16, DL.nc_17, DL.nc_18, DL.nc_19, DL.nc_20, DL.nc_21, DL.nc_22, DL.nc_23, DL.nc_24, DL.nc_25, DL.nc_26, DL.nc_27, DL.nc_28, DL.nc_29, DL.nc_30, DL.addD_i, DL.addD_t, DL.addD_l, DL.subD_i, DL.modD_i, DL.fdivD_i, DL.mulD_i, DL.lenD_t, DL.lenD_l, DL.tupleD_t, DL.tupleD_l, DL.listD_t, DL.listD_l, DL.truD_i, DL.truD_b, DL.truD_n, DL.truD_l, DL.truD_t, DL.ixD_t, DL.ixD_l, DL.negD_i, DL.bD_a, DL.ltB_i, DL.leB_i, DL.eqB_i, DL.neB_i, DL.min2D_i, DL.max2D_i, DL.items_t, DL.items_l, DL.intD_b, DL.isNN, DL.slD_t, DL.slD_l, DL.sortD2_l, DL.sortD2_t, DL.p_ge0, DL.p_geS, DL.p_tk0, DL.p_tkS, DL.p_tkN, DL.p_dr0, DL.p_drS, DL.p_drN, DL.p_mpC, DL.p_mpN, DL.p_apC, DL.p_apN, DL.p_lnC, DL.p_lnN, DL.p_rpS, DL.p_rp0, DL.p_alC, DL.p_alN, DL.p_gdS, DL.p_gdN, DL.p_tlS, DL.p_tlN, DL.p_ieC, DL.p_ieN, DL.p_nt, DL.p_nf, DL.p_atb, DL.p_afb, DL.p_abt, DL.p_abf, DL.p_eqS, DL.p_dT, DL.p_dF, DL.p_TA, DL.p_AT, DL.p_TO, DL.p_OT, DL.p_startD, DL.p_startR, DL.forK_nx, DL.forK_ct, DL.forK_rt, DL.yesM_a, DL.it1_a, DL.compM_a, DL.wipeR_c, DL.wipeR_n, DL.restR_c, DL.restR_n, DL.gtD_i, DL.gtD_T, DL.ob_assoc, DL.om_bind, DL.ob_map, DL.om_map, DL.cnd_bind, DL.cnd_map, DL.guard_bind, DL.guard_map, DL.atI_c0, DL.atI_c1, DL.atI_c2, DL.atI_c3, DL.encN_0, DL.encN_1, DL.encN_2, DL.encN_u, DL.revD_t, DL.revD_l, DL.kn_k, DL.intOf_i, DL.putKM_a, DL.newKM_a, DL.lenKM_a, DL.sortKM_a, Nat.reduceAdd, Nat.reduceSub, Nat.reduceMul, Int.reduceLT, Int.reduceLE, Int.reducePow, Int.reduceNeg, Int.reduceAdd, Int.reduceSub, Int.reduceMul, Int.reduceBEq, Int.reduceBNe, Int.reduceToNat, $xs,*])
namespace FA
open PySem L2 DL GT PG
abbrev SC (ns : List Int) : D := .list (ns.map .int)
theorem draw_spec (ns : List Int) (town : List D) (m : Int) (hm : 0 < m) (hl : town.length < 900000) : ∃ v, 0 ≤ v ∧ v < m ∧ g__law_draw [SC ns, .int m] town = some (.int v, town ++ [.int 0]) := by
  have hz : szOk town.length = true := szOk_of (by omega)
  have key : ∀ c k : Int, 0 ≤ ((c + 104729 * k) % 4294967291 * ((c + 104729 * k) % 4294967291) % 4294967279 * 48271 % 4294967291 / 64 % m) ∧ ((c + 104729 * k) % 4294967291 * ((c + 104729 * k) % 4294967291) % 4294967279 * 48271 % 4294967291 / 64 % m) < m := fun c k => ⟨Int.emod_nonneg _ (by omega), Int.emod_lt_of_pos _ hm⟩
  unfold g__law_draw b__law_draw N__law_draw
  cases ns with
  | nil =>
    refine ⟨_, (key 0 (town ++ [PyData.int 0]).length).1, (key 0 (town ++ [PyData.int 0]).length).2, ?_⟩
    simp_arith [hz, mulOk_a, mulOk_b, mulOk_c, hm]
  | cons a as =>
    have hpos : (0 : Int) < ((a :: as).length : Nat) := by simp only [List.length_cons]; omega
    obtain ⟨c, _, hc⟩ := atI_mem (xs := a :: as) (i := ((town ++ [PyData.int 0]).length : Int) % ((a :: as).length : Nat)) (Int.emod_nonneg _ (by omega)) (Int.emod_lt_of_pos _ hpos)
    refine ⟨_, (key c (town ++ [PyData.int 0]).length).1, (key c (town ++ [PyData.int 0]).length).2, ?_⟩
    have hne : (List.map PyData.int (a :: as)).isEmpty = false := rfl
    have hlen : (List.map PyData.int (a :: as)).length = (a :: as).length := List.length_map ..
    have hix : ixD (.list (List.map PyData.int (a :: as))) (.int (((town ++ [PyData.int 0]).length : Int) % ((a :: as).length : Nat))) = some (.int c) := by
      rw [ixD_l, atI_map, hc]; rfl
    show runR _ _ _ [.list (List.map PyData.int (a :: as)), .int m] town = _
    generalize hA : List.map PyData.int (a :: as) = A at *
    generalize hB : (a :: as).length = B at *
    simp_arith [hz, hne, mulOk_a, mulOk_b, mulOk_c, hm, hlen, hpos, hix]
theorem pick_spec (ns : List Int) (town : List D) (ds : List D) (hd : ds ≠ []) (hl : town.length < 900000) : ∃ d ∈ ds, g__law_pick [SC ns, .list ds] town = some (d, town ++ [.int 0]) := by
  have hpos : (0 : Int) < (ds.length : Nat) := by
    have := List.length_pos_iff.mpr hd; omega
  obtain ⟨v, h0, h1, e⟩ := draw_spec ns town ds.length hpos hl
  obtain ⟨d, m, hc⟩ := atI_mem h0 h1
  refine ⟨d, m, ?_⟩
  unfold g__law_pick b__law_pick N__law_pick
  simp_arith [e, hc]
/-! a net by cells -/
theorem F1_net {sc tw hi wi : Option SV} {n : Nat} (hn : n ≤ 7) {x7 x8 x9 x10 x11 : Option SV} (hx : x11 = none) : ∀ (as : List Int) (ev : List Tie) (x6 : Option SV), (∀ a ∈ as, 0 ≤ a ∧ a < n) → (∀ t ∈ ev, 0 ≤ t.1 ∧ t.1 < t.2 ∧ t.2 < n) → ev.length + 7 * as.length ≤ 49 →
    ∃ (ev' : List Tie) (x6' : Option SV), (∀ t ∈ ev', 0 ≤ t.1 ∧ t.1 < t.2 ∧ t.2 < n) ∧ ev'.length ≤ 49 ∧ forL (nameG 6) F__law_net_1 (as.map .int) [sc, tw, hi, wi, some (.d (.int n)), some (.d (.list (ev.map encT))), x6, x7, x8, x9, x10, x11] = some (.nx [sc, tw, hi, wi, some (.d (.int n)), some (.d (.list (ev'.map encT))), x6', x7, x8, x9, x10, x11])
  | [], ev, x6, _, h, hl => ⟨ev, x6, h, by simpa using hl, rfl⟩
  | a :: as, ev, x6, ha, h, hl => by
    subst hx
    have ha0 := ha a (by simp)
    have hr : rngOk (a + 1) = true := rng_ok (by omega) (by omega)
    have hr2 : rngOk (n : Int) = true := rng_ok (by omega) (by omega)
    have hcl : (List.range ((n : Int) - (a + 1)).toNat).length ≤ 7 := by simp; omega
    have hc := compL_map (g := nameG 11) (el := Ce__law_net_1) (is := [11]) (r := [sc, tw, hi, wi, some (.d (.int n)), some (.d (.list (ev.map encT))), some (.d (.int a)), x7, x8, x9, x10, none]) PyData.int (fun b => encT (a, b)) ((List.range ((n : Int) - (a + 1)).toNat).map fun (i : Nat) => a + 1 + (i : Int)) (fun b _ => by
      unfold Ce__law_net_1
      simp_arith [sz_small])
    rw [← rngL_eq] at hc
    have hcl2 : szOk (rngL (a + 1) (n : Int)).length = true := by rw [rngL_eq]; exact szOk_of (by simp at hcl ⊢; omega)
    have hm : ∀ b ∈ ((List.range ((n : Int) - (a + 1)).toNat).map fun (i : Nat) => a + 1 + (i : Int)), a + 1 ≤ b ∧ b < n := fun b hb => mem_rg.mp hb
    obtain ⟨ev', x6', g1, g2, g3⟩ := F1_net (sc := sc) (tw := tw) (hi := hi) (wi := wi) hn (x7 := x7) (x8 := x8) (x9 := x9) (x10 := x10) rfl as (ev ++ ((List.range ((n : Int) - (a + 1)).toNat).map fun (i : Nat) => a + 1 + (i : Int)).map fun b => (a, b)) (some (.d (.int a))) (fun b m => ha b (List.mem_cons_of_mem _ m)) (fun t m => by
      rcases List.mem_append.mp m with m | m
      · exact h t m
      · obtain ⟨b, mb, rfl⟩ := List.mem_map.mp m
        have := hm b mb
        simp only; omega) (by simp only [List.length_append, List.length_map, List.length_cons] at *; omega)
    refine ⟨ev', x6', g1, g2, ?_⟩
    rw [← g3]
    rw [List.map_cons, forL_cons]
    unfold F__law_net_1
    have hz : szOk ((ev.map encT).length + (((List.range ((n : Int) - (a + 1)).toNat).map fun (i : Nat) => a + 1 + (i : Int)).map fun b => encT (a, b)).length) = true := szOk_of (by simp only [List.length_append, List.length_map, List.length_cons] at *; omega)
    simp_arith [hr, hr2, hcl2, hc, hz]
    simp [List.map_append, List.map_map, Function.comp_def]
abbrev TV (n : Nat) (t : Tie) : Prop := 0 ≤ t.1 ∧ t.1 < t.2 ∧ t.2 < (n : Int)
theorem put_ok {n : Nat} {ks : List Tie} {t : Tie} (h1 : ∀ t ∈ ks, TV n t) (h2 : ks.Nodup) (ht : TV n t) : (∀ u ∈ (if t ∈ ks then ks else ks ++ [t]), TV n u) ∧ (if t ∈ ks then ks else ks ++ [t]).Nodup ∧ (if t ∈ ks then ks else ks ++ [t]).length ≤ ks.length + 1 := by
  split
  · exact ⟨h1, h2, by omega⟩
  · rename_i hn
    refine ⟨fun u m => ?_, ?_, by simp⟩
    · rcases List.mem_append.mp m with m | m
      · exact h1 u m
      · simp at m; subst m; exact ht
    · rw [List.nodup_append]
      exact ⟨h2, by simp, fun a m b mb e => by simp at mb; subst mb; exact hn (e ▸ m)⟩
theorem F2_net {ns : List Int} {hi wi ev x6 x8 x9 : Option SV} {n : Nat} : ∀ (as : List Int) (ks : List Tie) (tw : List D) (x10 x11 : Option SV), plG x10 = true → (∀ a ∈ as, 1 ≤ a ∧ a < n) → (∀ t ∈ ks, TV n t) → ks.Nodup → ks.length + as.length ≤ 100 → tw.length + as.length < 800000 →
    ∃ (ks' : List Tie) (tw' : List D) (x10' x11' : Option SV), plG x10' = true ∧ (∀ t ∈ ks', TV n t) ∧ ks'.Nodup ∧ ks'.length ≤ ks.length + as.length ∧ tw'.length = tw.length + as.length ∧
    forL (nameG 10) F__law_net_2 (as.map .int) [some (.d (SC ns)), some (.l true tw), hi, wi, some (.d (.int n)), ev, x6, some (.k false (dicN ks)), x8, x9, x10, x11] = some (.nx [some (.d (SC ns)), some (.l true tw'), hi, wi, some (.d (.int n)), ev, x6, some (.k false (dicN ks')), x8, x9, x10', x11'])
  | [], ks, tw, x10, x11, hp, _, h1, h2, _, _ => ⟨ks, tw, x10, x11, hp, h1, h2, by simp, by simp, rfl⟩
  | a :: as, ks, tw, x10, x11, hp, ha, h1, h2, h3, h4 => by
    simp only [List.length_cons] at h3 h4
    have ha0 := ha a (by simp)
    obtain ⟨v, v0, v1, e⟩ := draw_spec ns tw a (by omega) (by omega)
    obtain ⟨p1, p2, p3⟩ := put_ok (t := (v, a)) h1 h2 ⟨v0, v1, ha0.2⟩
    obtain ⟨ks', tw', x10', x11', gp, g1, g2, g3, g4, g5⟩ := F2_net (ns := ns) (hi := hi) (wi := wi) (ev := ev) (x6 := x6) (x8 := x8) (x9 := x9) as (if (v, a) ∈ ks then ks else ks ++ [(v, a)]) (tw ++ [.int 0]) (some (.d (.int a))) (some (.d (.int v))) rfl (fun b m => ha b (List.mem_cons_of_mem _ m)) p1 p2 (by omega) (by simp; omega)
    refine ⟨ks', tw', x10', x11', gp, g1, g2, by simp only [List.length_cons]; omega, by simp only [List.length_cons, List.length_append, List.length_nil] at g4 ⊢; omega, ?_⟩
    rw [← g5, List.map_cons, forL_cons]
    unfold F__law_net_2
    have hd : rowOf (PyData.tuple [.int v, .int a]) = some [some v, some a] := rfl
    have hz : szOk (dicN ks).length = true := by rw [dicN_len]; exact szOk_of (by omega)
    simp_arith [e, hd, hz, dicN_put]
theorem F3_net {ns : List Int} {hi x6 x9 x10 x11 : Option SV} {n wide : Nat} {ev : List Tie} (hev : ∀ t ∈ ev, TV n t) : ∀ (as : List Int) (ks : List Tie) (tw : List D) (x8 : Option SV), (∀ t ∈ ks, TV n t) → ks.Nodup → ks.length + as.length ≤ 100 → tw.length + as.length < 800000 →
    ∃ (ks' : List Tie) (tw' : List D) (x8' : Option SV), (∀ t ∈ ks', TV n t) ∧ ks'.Nodup ∧ ks'.length ≤ ks.length + as.length ∧ tw'.length ≤ tw.length + as.length ∧ tw.length ≤ tw'.length ∧
    forL (nameG 8) F__law_net_3 (as.map .int) [some (.d (SC ns)), some (.l true tw), hi, some (.d (.int wide)), some (.d (.int n)), some (.d (.list (ev.map encT))), x6, some (.k false (dicN ks)), x8, x9, x10, x11] = some (.nx [some (.d (SC ns)), some (.l true tw'), hi, some (.d (.int wide)), some (.d (.int n)), some (.d (.list (ev.map encT))), x6, some (.k false (dicN ks')), x8', x9, x10, x11])
  | [], ks, tw, x8, h1, h2, _, _ => ⟨ks, tw, x8, h1, h2, by simp, by simp, by simp, rfl⟩
  | a :: as, ks, tw, x8, h1, h2, h3, h4 => by
    simp only [List.length_cons] at h3 h4
    have hz : szOk (dicN ks).length = true := by rw [dicN_len]; exact szOk_of (by omega)
    by_cases hE : ev = []
    · obtain ⟨ks', tw', x8', g1, g2, g3, g4, g5, g6⟩ := F3_net (ns := ns) (hi := hi) (x6 := x6) (x9 := x9) (x10 := x10) (x11 := x11) (wide := wide) hev as ks tw (some (.d (.int a))) h1 h2 (by omega) (by omega)
      refine ⟨ks', tw', x8', g1, g2, by simp only [List.length_cons]; omega, by simp only [List.length_cons]; omega, g5, ?_⟩
      rw [← g6, List.map_cons, forL_cons]
      unfold F__law_net_3
      subst hE
      simp_arith [hz]
    · obtain ⟨d, md, e⟩ := pick_spec ns tw (ev.map encT) (by simpa using hE) (by omega)
      obtain ⟨t, mt, rfl⟩ := List.mem_map.mp md
      have hne : (ev.map encT).isEmpty = false := by cases ev with
        | nil => exact absurd rfl hE
        | cons _ _ => rfl
      by_cases hw : (ks.length : Int) < wide
      · obtain ⟨p1, p2, p3⟩ := put_ok h1 h2 (hev t mt)
        obtain ⟨ks', tw', x8', g1, g2, g3, g4, g5, g6⟩ := F3_net (ns := ns) (hi := hi) (x6 := x6) (x9 := x9) (x10 := x10) (x11 := x11) (wide := wide) hev as (if t ∈ ks then ks else ks ++ [t]) (tw ++ [.int 0]) (some (.d (.int a))) p1 p2 (by omega) (by simp; omega)
        simp only [List.length_append, List.length_cons, List.length_nil] at g4 g5
        refine ⟨ks', tw', x8', g1, g2, by simp only [List.length_cons]; omega, by simp only [List.length_cons]; omega, by omega, ?_⟩
        rw [← g6, List.map_cons, forL_cons]
        unfold F__law_net_3
        have hd : rowOf (PyData.tuple [.int t.1, .int t.2]) = some [some t.1, some t.2] := rfl
        simp_arith [hne, dicN_len, hw, e, hd, hz, dicN_put]
        simp_arith [szOk_of (show ks.length ≤ 1000000 by omega)]
      · obtain ⟨ks', tw', x8', g1, g2, g3, g4, g5, g6⟩ := F3_net (ns := ns) (hi := hi) (x6 := x6) (x9 := x9) (x10 := x10) (x11 := x11) (wide := wide) hev as ks tw (some (.d (.int a))) h1 h2 (by omega) (by omega)
        refine ⟨ks', tw', x8', g1, g2, by simp only [List.length_cons]; omega, by simp only [List.length_cons]; omega, g5, ?_⟩
        rw [← g6, List.map_cons, forL_cons]
        unfold F__law_net_3
        simp_arith [hne, dicN_len, hw]
theorem cut_take {α : Type} (xs : List α) (k : Nat) : cutD xs none (some (k : Int)) = xs.take k := by
  unfold cutD
  rw [HT.sIx_none, HT.sIx_nat, List.drop_zero, Nat.sub_zero]
  rcases Nat.le_total k xs.length with h | h
  · rw [Nat.min_eq_left h]
  · rw [Nat.min_eq_right h, List.take_length, List.take_of_length_le h]
theorem rim_net {ns : List Int} {hi wi x4 ev x6 dc x8 x9 x11 : Option SV} : ∀ (as : List Int) (tw : List D), tw.length + as.length < 800000 →
    ∃ (bs : List Int) (tw' : List D), bs.Sublist as ∧ tw'.length = tw.length + as.length ∧
    compL (nameG 10) Ct__law_net_1 Ce__law_net_2 [10] (as.map .int) [some (.d (SC ns)), some (.l true tw), hi, wi, x4, ev, x6, dc, x8, x9, none, x11] = some (bs.map .int, [some (.d (SC ns)), some (.l true tw'), hi, wi, x4, ev, x6, dc, x8, x9, none, x11])
  | [], tw, _ => ⟨[], tw, .slnil, by simp, rfl⟩
  | a :: as, tw, h => by
    simp only [List.length_cons] at h
    obtain ⟨v, v0, v1, e⟩ := draw_spec ns tw 2 (by omega) (by omega)
    obtain ⟨bs, tw', s1, s2, s3⟩ := rim_net (ns := ns) (hi := hi) (wi := wi) (x4 := x4) (ev := ev) (x6 := x6) (dc := dc) (x8 := x8) (x9 := x9) (x11 := x11) as (tw ++ [.int 0]) (by simp; omega)
    simp only [List.length_append, List.length_cons, List.length_nil] at s2
    by_cases hv : v = 0
    · subst hv
      refine ⟨a :: bs, tw', .cons_cons a s1, by simp only [List.length_cons]; omega, ?_⟩
      rw [List.map_cons, compL_cons]
      unfold Ct__law_net_1 Ce__law_net_2 at *
      simp_arith [e, s3, Option.toList]
    · refine ⟨bs, tw', .cons a s1, by simp only [List.length_cons]; omega, ?_⟩
      rw [List.map_cons, compL_cons]
      have hb : (v == 0) = false := by simp [hv]
      unfold Ct__law_net_1 Ce__law_net_2 at *
      simp_arith [e, s3, hb, Option.toList]
theorem net_spec (ns : List Int) (town : List D) (high wide : Nat) (h1 : 1 ≤ high) (h2 : high ≤ 7) (h3 : wide ≤ 20) (hl : town.length < 700000) :
    ∃ (N : Net) (town' : List D), N.WF ∧ N.n ≤ high ∧ N.ties.length ≤ wide ∧ N.rim ≠ [] ∧ town'.length ≤ town.length + 60 ∧ g__law_net [SC ns, .int high, .int wide] town = some (encN N, town') := by
  obtain ⟨v, v0, v1, e1⟩ := draw_spec ns town high (by omega) (by omega)
  obtain ⟨n, rfl⟩ : ∃ n : Nat, v = n := ⟨v.toNat, by omega⟩
  have hn1 : ((1 : Int) + (n : Int)) = ((n + 1 : Nat) : Int) := by omega
  obtain ⟨ev, x6, a1, a2, a3⟩ := F1_net (sc := some (.d (SC ns))) (tw := some (.l true (town ++ [.int 0]))) (hi := some (.d (.int high))) (wi := some (.d (.int wide))) (n := n + 1) (by omega) (x7 := none) (x8 := none) (x9 := none) (x10 := none) (x11 := none) rfl (ir (n + 1)) [] none (fun a m => by have := mem_ir.mp m; omega) (by simp) (by simp [ir_len]; omega)
  obtain ⟨u, u0, u1, e2⟩ := draw_spec ns (town ++ [.int 0]) 3 (by omega) (by simp; omega)
  -- the second loop, or not
  have hF2 : ∃ (ks : List Tie) (tw : List D) (x10 x11 : Option SV), plG x10 = true ∧ (∀ t ∈ ks, TV (n + 1) t) ∧ ks.Nodup ∧ ks.length ≤ 7 ∧ town.length + 2 ≤ tw.length ∧ tw.length ≤ town.length + 9 ∧
      (ifM (tstM gtD (callRM 1 g__law_draw (consM (varM 0) (hereM 1 (consM (cM (PyData.int 3)) nilM)))) (cM (PyData.int 0))) (forM (rng2M (cM (PyData.int 1)) (varM 4)) (nameG 10) F__law_net_2) skipM) [some (.d (SC ns)), some (.l true (town ++ [.int 0])), some (.d (.int high)), some (.d (.int wide)), some (.d (.int ((n + 1 : Nat) : Int))), some (.d (.list (ev.map encT))), x6, some (.k false (dicN [])), none, none, none, none] =
      some (.nx [some (.d (SC ns)), some (.l true tw), some (.d (.int high)), some (.d (.int wide)), some (.d (.int ((n + 1 : Nat) : Int))), some (.d (.list (ev.map encT))), x6, some (.k false (dicN ks)), none, none, x10, x11]) := by
    by_cases hu : 0 < u
    · obtain ⟨ks, tw, x10, x11, bp, b1, b2, b3, b4, b5⟩ := F2_net (ns := ns) (hi := some (.d (.int high))) (wi := some (.d (.int wide))) (ev := some (.d (.list (ev.map encT)))) (x6 := x6) (x8 := none) (x9 := none) (n := n + 1) ((List.range (((n + 1 : Nat) : Int) - 1).toNat).map fun (i : Nat) => 1 + (i : Int)) [] (town ++ [.int 0] ++ [.int 0]) none none rfl (fun a m => mem_rg.mp m) (by simp) (by simp) (by simp; omega) (by simp; omega)
      refine ⟨ks, tw, x10, x11, bp, b1, b2, by simp at b3; omega, by simp at b4; omega, by simp at b4; omega, ?_⟩
      rw [← rngL_eq] at b5
      have r1 : rngOk 1 = true := by decide
      have r2 : rngOk ((n + 1 : Nat) : Int) = true := rng_ok (by omega) (by omega)
      simp_arith [forM_a, e2, hu, r1, r2, b5]
    · refine ⟨[], town ++ [.int 0] ++ [.int 0], none, none, rfl, by simp, by simp, by simp, by simp, by simp, ?_⟩
      simp_arith [e2, hu]
  obtain ⟨ks, tw, x10, x11, bp, b1, b2, b3, b4, b4', b5⟩ := hF2
  obtain ⟨w, w0, w1, e3⟩ := draw_spec ns tw ((wide : Int) + 1) (by omega) (by omega)
  obtain ⟨m, rfl⟩ : ∃ m : Nat, w = m := ⟨w.toNat, by omega⟩
  obtain ⟨ks2, tw2, x8, c1, c2, c3, c4, c5, c6⟩ := F3_net (ns := ns) (hi := some (.d (.int high))) (x6 := x6) (x9 := none) (x10 := x10) (x11 := x11) (n := n + 1) (wide := wide) a1 (ir m) ks (tw ++ [.int 0]) none b1 b2 (by rw [ir_len]; omega) (by simp [ir_len]; omega)
  simp only [ir_len, List.length_append, List.length_cons, List.length_nil] at c3 c4 c5
  obtain ⟨bs, tw3, d1, d2, d3⟩ := rim_net (ns := ns) (hi := some (.d (.int high))) (wi := some (.d (.int wide))) (x4 := some (.d (.int ((n + 1 : Nat) : Int)))) (ev := some (.d (.list (ev.map encT)))) (x6 := x6) (dc := some (.k false (dicN ks2))) (x8 := x8) (x9 := none) (x11 := x11) (ir (n + 1)) tw2 (by rw [ir_len]; omega)
  rw [ir_len] at d2
  have hF4 : ∃ (rim : List Int) (tw4 : List D) (r : Rho), rim ≠ [] ∧ (∀ k ∈ rim, 0 ≤ k ∧ k < ((n + 1 : Nat) : Int)) ∧ rim.Pairwise (· < ·) ∧ tw4.length ≤ tw3.length + 1 ∧
      (ifM (notM (truM (varM 9))) (asgM 9 (ofL (lstM (consM (callRM 1 g__law_draw (consM (varM 0) (hereM 1 (consM (varM 4) nilM)))) nilM)))) skipM) [some (.d (SC ns)), some (.l true tw3), some (.d (.int high)), some (.d (.int wide)), some (.d (.int ((n + 1 : Nat) : Int))), some (.d (.list (ev.map encT))), x6, some (.k false (dicN ks2)), x8, some (.d (.list (bs.map .int))), x10, x11] =
      some (.nx [some (.d (SC ns)), some (.l true tw4), some (.d (.int high)), some (.d (.int wide)), some (.d (.int ((n + 1 : Nat) : Int))), some (.d (.list (ev.map encT))), x6, some (.k false (dicN ks2)), x8, some (.d (.list (rim.map .int))), x10, x11]) := by
    cases bs with
    | nil =>
      obtain ⟨q, q0, q1, e4⟩ := draw_spec ns tw3 ((n + 1 : Nat) : Int) (by omega) (by omega)
      refine ⟨[q], tw3 ++ [.int 0], [], by simp, by simp; omega, by simp, by simp, ?_⟩
      simp_arith [e4]
    | cons b bs =>
      refine ⟨b :: bs, tw3, [], by simp, fun k mk => mem_ir.mp (d1.subset mk), (ir_sorted _).sublist d1, by omega, ?_⟩
      simp_arith [e2]
  obtain ⟨rim, tw4, _, f1, f2, f3, f4, f5⟩ := hF4
  refine ⟨⟨n + 1, (sortT ks2).take wide, rim⟩, tw4, ⟨by simp, by simp; omega, fun t mt => ?_, ?_, f2, f3⟩, by simp; omega, by simp; omega, f1, by omega, ?_⟩
  · exact c1 t (mem_sortT.mp (List.mem_of_mem_take mt))
  · exact (sortT_lt c2).sublist (List.take_sublist _ _)
  · unfold g__law_net b__law_net N__law_net
    have r2 : rngOk ((n + 1 : Nat) : Int) = true := rng_ok (by omega) (by omega)
    have r3 : rngOk (m : Int) = true := rng_ok (by omega) (by omega)
    have z1 : szOk (rngL 0 ((n + 1 : Nat) : Int)).length = true := by rw [rngL_ir]; exact szOk_of (by simp [ir_len]; omega)
    rw [← rngL_ir] at a3 c6 d3
    rw [List.map_nil] at a3
    have so : sortOk (ks2.map encT) = true := sortOk_T (by omega)
    have dn : dicN [] = [] := rfl
    rw [dn] at b5
    simp_arith [-ifM_a, forM_a, e1, hn1, r2, a3, b5, e3, r3, c6, z1, d3, bp, f5, dicN_keys, so, sortL_T, cut_take]
    simp [encN, List.map_take]
end FA
local macro_rules | `(tactic| simp_arith [$xs,*]) => `(tactic| simp only [DL.ob_some, DL.om_some, DL.dat_d, DL.lis_l, DL.gt_0, DL.gt_1, DL.gt_2, DL.gt_3, DL.gt_4, DL.gt_5, DL.gt_6, DL.gt_7, DL.gt_b, DL.st_0, DL.st_s, DL.plG_d, DL.plG_n, DL.plainAt_a, DL.varM_a, DL.ownM_a, DL.cM_a, DL.ofL_a, DL.opM_a, DL.unM_a, DL.truM_a, DL.tstM_a, DL.notM_a, DL.cnd_t, DL.cnd_f, DL.andM_a, DL.orM_a, DL.andVM_a, DL.notVM_a, DL.iteM_a, DL.chM_a, DL.nilM_a, DL.consM_a, DL.guard_tt, DL.tupM_a, DL.lstM_a, DL.noM_a, DL.intV_i, DL.someM_a, DL.slM_a, DL.rng1M_a, DL.rng2M_a, DL.zipV_t, DL.zipV_l, DL.zipM_a, DL.seqM_a, DL.callM_a, DL.hereM_a, DL.callRM_a, DL.appM_a, DL.lisV_l, DL.catOwnM_a, DL.nameG_a, DL.nilG_a, DL.consG_a, DL.tupG_a, DL.seqS_a, DL.seqK_nx, DL.seqK_rt, DL.seqK_ct, DL.skipM_a, DL.asgM_a, DL.newM_a, DL.asgLM_a, DL.retM_a, DL.exprM_a, DL.ifM_a, DL.forM_a, DL.frzM_a, DL.runF_a, DL.finF_rt, DL.finF_nx, DL.runR_a, DL.finR_rt, DL.finR_nx, DL.sz_0, DL.sz_1, DL.sz_2, DL.sz_3, DL.sz_4, DL.sz_5, DL.sz_6, DL.sz_7, DL.sz_8, DL.sz_9, DL.sz_10, DL.sz_11, DL.sz_12, DL.sz_13, DL.sz_14, DL.sz_15, DL.sz_16, DL.sz_17, DL.sz_18, DL.sz_19, DL.sz_20, DL.sz_21, DL.sz_22, DL.sz_23, DL.sz_24, DL.sz_25, DL.sz_26, DL.sz_27, DL.sz_28, DL.sz_29, DL.sz_30, DL.nc_0, DL.nc_1, DL.nc_2, DL.nc_3, DL.nc_4, DL.nc_5, DL.nc_6, DL.nc_7, DL.nc_8, DL.nc_9, DL.nc_10, DL.nc_11, DL.nc_12, DL.nc_13, DL.nc_14, DL.nc_15, DL.nc_16, DL.nc_17, DL.nc_18, DL.nc_19, DL.nc_20, DL.nc_21, DL.nc_22, DL.nc_23, DL.nc_24, DL.nc_25, DL.nc_26, DL.nc_27, DL.nc_28, DL.nc_29, DL.nc_30, DL.addD_i, DL.addD_t, DL.addD_l, DL.subD_i, DL.modD_i, DL.fdivD_i, DL.mulD_i, DL.lenD_t, DL.lenD_l, DL.tupleD_t, DL.tupleD_l, DL.listD_t, DL.listD_l, DL.truD_i, DL.truD_b, DL.truD_n, DL.truD_l, DL.truD_t, DL.ixD_t, DL.ixD_l, DL.negD_i, DL.bD_a, DL.ltB_i, DL.leB_i, DL.eqB_i, DL.neB_i, DL.min2D_i, DL.max2D_i, DL.items_t, DL.items_l, DL.intD_b, DL.isNN, DL.slD_t, DL.slD_l, DL.sortD2_l, DL.sortD2_t, DL.p_ge0, DL.p_geS, DL.p_tk0, DL.p_tkS, DL.p_tkN, DL.p_dr0, DL.p_drS, DL.p_drN, DL.p_mpC, DL.p_mpN, DL.p_apC, DL.p_apN, DL.p_lnC, DL.p_lnN, DL.p_rpS, DL.p_rp0, DL.p_alC, DL.p_alN, DL.p_gdS, DL.p_gdN, DL.p_tlS, DL.p_tlN, DL.p_ieC, DL.p_ieN, DL.p_nt, DL.p_nf, DL.p_atb, DL.p_afb, DL.p_abt, DL.p_abf, DL.p_eqS, DL.p_dT, DL.p_dF, DL.p_TA, DL.p_AT, DL.p_TO, DL.p_OT, DL.p_startD, DL.p_startR, DL.forK_nx, DL.forK_ct, DL.forK_rt, DL.yesM_a, DL.it1_a, DL.compM_a, DL.wipeR_c, DL.wipeR_n, DL.restR_c, DL.restR_n, DL.gtD_i, DL.gtD_T, DL.ob_assoc, DL.om_bind, DL.ob_map, DL.om_map, DL.cnd_bind, DL.cnd_map, DL.guard_bind, DL.guard_map, DL.atI_c0, DL.atI_c1, DL.atI_c2, DL.atI_c3, DL.encN_0, DL.encN_1, DL.encN_2, DL.encN_u, DL.revD_t, DL.revD_l, Nat.reduceAdd, Nat.reduceSub, Nat.reduceMul, Int.reduceLT, Int.reduceLE, Int.reducePow, Int.reduceNeg, Int.reduceAdd, Int.reduceSub, Int.reduceMul, Int.reduceBEq, Int.reduceBNe, Int.reduceToNat, $xs,*])
namespace DL
open PySem L2 GT
/-! kinds of data by their encoder -/
structure EncF {α : Type} [DecidableEq α] (k : Nat) (f : α → D) : Prop where
  lay : ∀ a, (f a).canLay0 = true
  dep : ∀ a, (f a).depth ≤ k
  eqv : ∀ a b, PyData.eqv (f a) (f b) = decide (a = b)
theorem layAll {α : Type} [DecidableEq α] {k : Nat} {f : α → D} (h : EncF k f) : ∀ xs : List α, PyData.canLayAll0 (xs.map f) = true
  | [] => rfl
  | a :: xs => by simp [PyData.canLayAll0, h.lay a, layAll h xs]
theorem depAll {α : Type} [DecidableEq α] {k : Nat} {f : α → D} (h : EncF k f) : ∀ xs : List α, PyData.depthAll (xs.map f) ≤ k
  | [] => by simp [PyData.depthAll]
  | a :: xs => by have h1 := h.dep a; have h2 := depAll h xs; simp only [List.map_cons, PyData.depthAll]; omega
theorem eqvAll_map {α : Type} [DecidableEq α] {k : Nat} {f : α → D} (h : EncF k f) : ∀ xs ys : List α, PyData.eqvAll (xs.map f) (ys.map f) = decide (xs = ys)
  | [], [] => by simp [PyData.eqvAll]
  | [], _ :: _ => by simp [PyData.eqvAll]
  | _ :: _, [] => by simp [PyData.eqvAll]
  | a :: xs, b :: ys => by simp only [List.map_cons, PyData.eqvAll, h.eqv, eqvAll_map h xs ys, List.cons.injEq, Bool.decide_and]
theorem encF_int : EncF 1 PyData.int := ⟨fun _ => rfl, fun _ => by simp [PyData.depth], fun a b => by simp only [PyData.eqv]; by_cases h : a = b <;> simp [h]⟩
theorem encF_bool : EncF 1 PyData.bool := ⟨fun _ => rfl, fun _ => by simp [PyData.depth], fun a b => by simp only [PyData.eqv]; cases a <;> cases b <;> rfl⟩
theorem encF_tup {α : Type} [DecidableEq α] {k : Nat} {f : α → D} (h : EncF k f) : EncF (k + 1) (fun xs : List α => PyData.tuple (xs.map f)) :=
  ⟨fun xs => by simpa [PyData.canLay0] using layAll h xs, fun xs => by have := depAll h xs; simp only [PyData.depth]; omega, fun xs ys => by simp only [PyData.eqv]; exact eqvAll_map h xs ys⟩
theorem encF_TI : EncF 2 TI := encF_tup encF_int
theorem encF_T : EncF 2 encT := ⟨fun t => by simp [PyData.canLay0, PyData.canLayAll0], fun t => by simp [PyData.depth, PyData.depthAll], fun a b => by
  obtain ⟨a1, a2⟩ := a; obtain ⟨b1, b2⟩ := b
  simp only [PyData.eqv, PyData.eqvAll, Bool.and_true, Prod.mk.injEq, Bool.decide_and]
  by_cases h1 : a1 = b1 <;> by_cases h2 : a2 = b2 <;> simp [h1, h2]⟩
section
variable {α : Type} [DecidableEq α] {k : Nat} {f : α → D}
theorem sh_mk {d : D} (l : d.canLay0 = true) (h : d.depth ≤ 64) : SeqAt.shaped d = true := by
  unfold SeqAt.shaped
  rw [l, decide_eq_true h]; rfl
theorem sh_one (h : EncF k f) (hk : k ≤ 60) (a : α) : SeqAt.shaped (f a) = true := sh_mk (h.lay a) (Nat.le_trans (h.dep a) (by omega))
theorem sh_tup (h : EncF k f) (hk : k ≤ 60) (xs : List α) : SeqAt.shaped (.tuple (xs.map f)) = true :=
  sh_mk ((encF_tup h).lay xs) (Nat.le_trans ((encF_tup h).dep xs) (by omega))
theorem sh_lst (h : EncF k f) (hk : k ≤ 60) (xs : List α) : SeqAt.shaped (.list (xs.map f)) = true :=
  sh_mk ((encF_tup h).lay xs) (Nat.le_trans ((encF_tup h).dep xs) (by omega))
theorem any_eqv (h : EncF k f) (a : α) (xs : List α) : ((xs.map f).any fun z => PyData.eqv z (f a)) = decide (a ∈ xs) := by
  induction xs with
  | nil => simp
  | cons b xs ih =>
    simp only [List.map_cons, List.any_cons, ih, h.eqv, List.mem_cons]
    by_cases e : b = a
    · simp [e]
    · simp [e, Ne.symm e]
theorem eq_one (h : EncF k f) (hk : k ≤ 60) (a b : α) : eqB (f a) (f b) = some (decide (a = b)) := by
  unfold eqB; simp [sh_one h hk, h.eqv]
theorem ne_one (h : EncF k f) (hk : k ≤ 60) (a b : α) : neB (f a) (f b) = some (!decide (a = b)) := by
  unfold neB; simp [sh_one h hk, h.eqv]
theorem in_tup (h : EncF k f) (hk : k ≤ 60) (a : α) (xs : List α) : inB (f a) (.tuple (xs.map f)) = some (decide (a ∈ xs)) := by
  unfold inB
  rw [show itemsOf (.tuple (xs.map f)) = some (xs.map f) from rfl]
  simp only [Option.bind_some, sh_one h hk, sh_tup h hk, Bool.and_self, if_true, any_eqv h]
theorem in_lst (h : EncF k f) (hk : k ≤ 60) (a : α) (xs : List α) : inB (f a) (.list (xs.map f)) = some (decide (a ∈ xs)) := by
  unfold inB
  rw [show itemsOf (.list (xs.map f)) = some (xs.map f) from rfl]
  simp only [Option.bind_some, sh_one h hk, sh_lst h hk, Bool.and_self, if_true, any_eqv h]
end
theorem eq_TI (a b : List Int) : eqB (TI a) (TI b) = some (decide (a = b)) := eq_one encF_TI (by decide) a b
theorem ne_TI (a b : List Int) : neB (TI a) (TI b) = some (!decide (a = b)) := ne_one encF_TI (by decide) a b
theorem in_I (a : Int) (xs : List Int) : inB (.int a) (.tuple (xs.map .int)) = some (decide (a ∈ xs)) := in_tup encF_int (by decide) a xs
theorem in_Il (a : Int) (xs : List Int) : inB (.int a) (.list (xs.map .int)) = some (decide (a ∈ xs)) := in_lst encF_int (by decide) a xs
theorem in_T (a b : Int) (xs : List Tie) : inB (.tuple [.int a, .int b]) (.tuple (xs.map encT)) = some (decide ((a, b) ∈ xs)) := (in_tup encF_T (by decide) (a, b) xs).trans (by congr)
theorem in_R (a : List Int) (xs : List (List Int)) : inB (TI a) (.tuple (xs.map TI)) = some (decide (a ∈ xs)) := (in_tup encF_TI (by decide) a xs).trans (by congr)
theorem notInB_a (d e : D) : notInB d e = (inB d e).map fun b => !b := (rfl)
theorem seqK_ex (g : SM) (c : String) (r : Rho) : seqK g (.ex c r) = some (.ex c r) := (rfl)
theorem finF_ex (c : String) (r : Rho) : finF (.ex c r) = none := (rfl)
theorem forK_ex (g : GM) (f : SM) (xs : List D) (c : String) (r : Rho) : forK g f xs (.ex c r) = some (.ex c r) := (rfl)
theorem tri_no {α β : Type} (f : α → Option β) : (none : Option α).bind f = none := (rfl)
theorem trm_no {α β : Type} (f : α → β) : (none : Option α).map f = none := (rfl)
theorem atI_neg1 {α : Type} (xs : List α) : atI xs (-1) = xs.getLast? := by
  cases xs with
  | nil => rfl
  | cons a l =>
    unfold atI ixN
    rw [if_neg (by decide), if_pos (by simp only [List.length_cons]; omega)]
    simp only [Option.bind_some, List.length_cons]
    rw [show ((-1 : Int) + ((l.length + 1 : Nat) : Int)).toNat = l.length by omega, List.getLast?_eq_getElem?]
    simp
end DL
local macro_rules | `(tactic| simp_arith [$xs,*]) => `(tactic| simp only [DL.ob_some, DL.om_some, DL.dat_d, DL.lis_l, DL.gt_0, DL.gt_1, DL.gt_2, DL.gt_3, DL.gt_4, DL.gt_5, DL.gt_6, DL.gt_7, DL.gt_b, DL.st_0, DL.st_s, DL.plG_d, DL.plG_n, DL.plainAt_a, DL.varM_a, DL.ownM_a, DL.cM_a, DL.ofL_a, DL.opM_a, DL.unM_a, DL.truM_a, DL.tstM_a, DL.notM_a, DL.cnd_t, DL.cnd_f, DL.andM_a, DL.orM_a, DL.andVM_a, DL.notVM_a, DL.iteM_a, DL.chM_a, DL.nilM_a, DL.consM_a, DL.guard_tt, DL.tupM_a, DL.lstM_a, DL.noM_a, DL.intV_i, DL.someM_a, DL.slM_a, DL.rng1M_a, DL.rng2M_a, DL.zipV_t, DL.zipV_l, DL.zipM_a, DL.seqM_a, DL.callM_a, DL.hereM_a, DL.callRM_a, DL.appM_a, DL.lisV_l, DL.catOwnM_a, DL.nameG_a, DL.nilG_a, DL.consG_a, DL.tupG_a, DL.seqS_a, DL.seqK_nx, DL.seqK_rt, DL.seqK_ct, DL.skipM_a, DL.asgM_a, DL.newM_a, DL.asgLM_a, DL.retM_a, DL.exprM_a, DL.ifM_a, DL.forM_a, DL.frzM_a, DL.runF_a, DL.finF_rt, DL.finF_nx, DL.runR_a, DL.finR_rt, DL.finR_nx, DL.sz_0, DL.sz_1, DL.sz_2, DL.sz_3, DL.sz_4, DL.sz_5, DL.sz_6, DL.sz_7, DL.sz_8, DL.sz_9, DL.sz_10, DL.sz_11, DL.sz_12, DL.sz_13, DL.sz_14, DL.sz_15, DL.sz_16, DL.sz_17, DL.sz_18, DL.sz_19, DL.sz_20, DL.sz_21, DL.sz_22, DL.sz_23, DL.sz_24, DL.sz_25, DL.sz_26, DL.sz_27, DL.sz_28, DL.sz_29, DL.sz_30, DL.nc_0, DL.nc_1, DL.nc_2, DL.nc_3, DL.nc_4, DL.nc_5, DL.nc_6, DL.nc_7, DL.nc_8, DL.nc_9, DL.nc_10, DL.nc_11, DL.nc_12, DL.nc_13, DL.nc_14, DL.nc_15, DL.nc_16, DL.nc_17, DL.nc_18, DL.nc_19, DL.nc_20, DL.nc_21, DL.nc_22, DL.nc_23, DL.nc_24, DL.nc_25, DL.nc_26, DL.nc_27, DL.nc_28, DL.nc_29, DL.nc_30, DL.addD_i, DL.addD_t, DL.addD_l, DL.subD_i, DL.modD_i, DL.fdivD_i, DL.mulD_i, DL.lenD_t, DL.lenD_l, DL.tupleD_t, DL.tupleD_l, DL.listD_t, DL.listD_l, DL.truD_i, DL.truD_b, DL.truD_n, DL.truD_l, DL.truD_t, DL.ixD_t, DL.ixD_l, DL.negD_i, DL.bD_a, DL.ltB_i, DL.leB_i, DL.eqB_i, DL.neB_i, DL.min2D_i, DL.max2D_i, DL.items_t, DL.items_l, DL.intD_b, DL.isNN, DL.slD_t, DL.slD_l, DL.sortD2_l, DL.sortD2_t, DL.p_ge0, DL.p_geS, DL.p_tk0, DL.p_tkS, DL.p_tkN, DL.p_dr0, DL.p_drS, DL.p_drN, DL.p_mpC, DL.p_mpN, DL.p_apC, DL.p_apN, DL.p_lnC, DL.p_lnN, DL.p_rpS, DL.p_rp0, DL.p_alC, DL.p_alN, DL.p_gdS, DL.p_gdN, DL.p_tlS, DL.p_tlN, DL.p_ieC, DL.p_ieN, DL.p_nt, DL.p_nf, DL.p_atb, DL.p_afb, DL.p_abt, DL.p_abf, DL.p_eqS, DL.p_dT, DL.p_dF, DL.p_TA, DL.p_AT, DL.p_TO, DL.p_OT, DL.p_startD, DL.p_startR, DL.forK_nx, DL.forK_ct, DL.forK_rt, DL.yesM_a, DL.it1_a, DL.compM_a, DL.wipeR_c, DL.wipeR_n, DL.restR_c, DL.restR_n, DL.gtD_i, DL.gtD_T, DL.ob_assoc, DL.om_bind, DL.ob_map, DL.om_map, DL.cnd_bind, DL.cnd_map, DL.guard_bind, DL.guard_map, DL.atI_c0, DL.atI_c1, DL.atI_c2, DL.atI_c3, DL.encN_0, DL.encN_1, DL.encN_2, DL.encN_u, DL.revD_t, DL.revD_l, Nat.reduceAdd, Nat.reduceSub, Nat.reduceMul, Int.reduceLT, Int.reduceLE, Int.reducePow, Int.reduceNeg, Int.reduceAdd, Int.reduceSub, Int.reduceMul, Int.reduceBEq, Int.reduceBNe, Int.reduceToNat, $xs,*])
namespace DL
open PySem L2 GT
def wholeD (d : D) (lo hi : Int) : Bool := match d with
  | .int i => decide (lo ≤ i) && decide (i ≤ hi)
  | _ => false
theorem isi_int (d : D) : isiD .int d = some (.bool (match d with | .int _ => true | .bool _ => true | _ => false)) := by cases d <;> rfl
theorem isi_bool (d : D) : isiD .bool d = some (.bool (match d with | .bool _ => true | _ => false)) := by cases d <;> rfl
theorem isi_tuple (d : D) : isiD .tuple d = some (.bool (match d with | .tuple _ => true | _ => false)) := by cases d <;> rfl
theorem isi_str (d : D) : isiD .str d = some (.bool (match d with | .str _ => true | _ => false)) := by cases d <;> rfl
theorem cut_init {α : Type} (xs : List α) : cutD xs none (some (-1)) = xs.dropLast := by
  unfold cutD
  have e : HT.sIx xs.length xs.length (some (-1)) = xs.length - 1 := by
    show (if (-1 : Int) < 0 then ((-1 : Int) + (xs.length : Int)).toNat else min (-1 : Int).toNat xs.length) = _
    rw [if_pos (by decide)]; omega
  rw [e, HT.sIx_none, List.drop_zero, Nat.sub_zero, List.dropLast_eq_take]
theorem cut_tail {α : Type} (xs : List α) : cutD xs (some 1) none = xs.tail := by
  unfold cutD
  have e : HT.sIx xs.length 0 (some 1) = min 1 xs.length := HT.sIx_nat xs.length 0 1
  rw [e, HT.sIx_none]
  cases xs with
  | nil => rfl
  | cons x xs => simp
theorem zipL_enc {α : Type} (enc : α → D) (xs ys : List α) : zipL (xs.map enc) (ys.map enc) = (xs.zip ys).map fun p => pairD (enc p.1) (enc p.2) := by
  unfold zipL
  rw [List.zipWith_map, List.zip, List.map_zipWith]
theorem allD_b (bs : List Bool) : allD (.list (bs.map .bool)) = some (.bool (bs.all id)) := by
  show (blsOf (bs.map .bool)).map _ = _
  rw [show blsOf (bs.map PyData.bool) = some bs from by induction bs with
    | nil => rfl
    | cons b bs ih => simp [blsOf, ih]]
  rfl
theorem allD_map {α : Type} (p : α → Bool) (xs : List α) : allD (.list (xs.map fun x => .bool (p x))) = some (.bool (xs.all p)) := by
  have := allD_b (xs.map p)
  rw [List.map_map] at this
  rw [show (fun x => PyData.bool (p x)) = PyData.bool ∘ p from rfl, this]
  simp [List.all_map]
end DL
namespace PG
open PySem L2 DL GT
theorem whole_eval (d : D) (lo hi : Int) : g_is_whole [d, .int lo, .int hi] = some (.bool (wholeD d lo hi)) := by
  unfold g_is_whole b_is_whole N_is_whole
  cases d with
  | int i =>
    simp_arith [isi_int, isi_bool]
    by_cases h : lo ≤ i
    · simp_arith [h, wholeD]
    · simp_arith [h, wholeD]
  | _ => simp_arith [isi_int, isi_bool, wholeD]
end PG
local macro_rules | `(tactic| simp_arith [$xs,*]) => `(tactic| simp only [DL.ob_some, DL.om_some, DL.dat_d, DL.lis_l, DL.gt_0, DL.gt_1, DL.gt_2, DL.gt_3, DL.gt_4, DL.gt_5, DL.gt_6, DL.gt_7, DL.gt_b, DL.st_0, DL.st_s, DL.plG_d, DL.plG_n, DL.plainAt_a, DL.varM_a, DL.ownM_a, DL.cM_a, DL.ofL_a, DL.opM_a, DL.unM_a, DL.truM_a, DL.tstM_a, DL.notM_a, DL.cnd_t, DL.cnd_f, DL.andM_a, DL.orM_a, DL.andVM_a, DL.notVM_a, DL.iteM_a, DL.chM_a, DL.nilM_a, DL.consM_a, DL.guard_tt, DL.tupM_a, DL.lstM_a, DL.noM_a, DL.intV_i, DL.someM_a, DL.slM_a, DL.rng1M_a, DL.rng2M_a, DL.zipV_t, DL.zipV_l, DL.zipM_a, DL.seqM_a, DL.callM_a, DL.hereM_a, DL.callRM_a, DL.appM_a, DL.lisV_l, DL.catOwnM_a, DL.nameG_a, DL.nilG_a, DL.consG_a, DL.tupG_a, DL.seqS_a, DL.seqK_nx, DL.seqK_rt, DL.seqK_ct, DL.skipM_a, DL.asgM_a, DL.newM_a, DL.asgLM_a, DL.retM_a, DL.exprM_a, DL.ifM_a, DL.forM_a, DL.frzM_a, DL.runF_a, DL.finF_rt, DL.finF_nx, DL.runR_a, DL.finR_rt, DL.finR_nx, DL.sz_0, DL.sz_1, DL.sz_2, DL.sz_3, DL.sz_4, DL.sz_5, DL.sz_6, DL.sz_7, DL.sz_8, DL.sz_9, DL.sz_10, DL.sz_11, DL.sz_12, DL.sz_13, DL.sz_14, DL.sz_15, DL.sz_16, DL.sz_17, DL.sz_18, DL.sz_19, DL.sz_20, DL.sz_21, DL.sz_22, DL.sz_23, DL.sz_24, DL.sz_25, DL.sz_26, DL.sz_27, DL.sz_28, DL.sz_29, DL.sz_30, DL.nc_0, DL.nc_1, DL.nc_2, DL.nc_3, DL.nc_4, DL.nc_5, DL.nc_6, DL.nc_7, DL.nc_8, DL.nc_9, DL.nc_10, DL.nc_11, DL.nc_12, DL.nc_13, DL.nc_14, DL.nc_15, DL.nc_16, DL.nc_17, DL.nc_18, DL.nc_19, DL.nc_20, DL.nc_21, DL.nc_22, DL.nc_23, DL.nc_24, DL.nc_25, DL.nc_26, DL.nc_27, DL.nc_28, DL.nc_29, DL.nc_30, DL.addD_i, DL.addD_t, DL.addD_l, DL.subD_i, DL.modD_i, DL.fdivD_i, DL.mulD_i, DL.lenD_t, DL.lenD_l, DL.tupleD_t, DL.tupleD_l, DL.listD_t, DL.listD_l, DL.truD_i, DL.truD_b, DL.truD_n, DL.truD_l, DL.truD_t, DL.ixD_t, DL.ixD_l, DL.negD_i, DL.bD_a, DL.ltB_i, DL.leB_i, DL.eqB_i, DL.neB_i, DL.min2D_i, DL.max2D_i, DL.items_t, DL.items_l, DL.intD_b, DL.isNN, DL.slD_t, DL.slD_l, DL.sortD2_l, DL.sortD2_t, DL.p_ge0, DL.p_geS, DL.p_tk0, DL.p_tkS, DL.p_tkN, DL.p_dr0, DL.p_drS, DL.p_drN, DL.p_mpC, DL.p_mpN, DL.p_apC, DL.p_apN, DL.p_lnC, DL.p_lnN, DL.p_rpS, DL.p_rp0, DL.p_alC, DL.p_alN, DL.p_gdS, DL.p_gdN, DL.p_tlS, DL.p_tlN, DL.p_ieC, DL.p_ieN, DL.p_nt, DL.p_nf, DL.p_atb, DL.p_afb, DL.p_abt, DL.p_abf, DL.p_eqS, DL.p_dT, DL.p_dF, DL.p_TA, DL.p_AT, DL.p_TO, DL.p_OT, DL.p_startD, DL.p_startR, DL.forK_nx, DL.forK_ct, DL.forK_rt, DL.yesM_a, DL.it1_a, DL.compM_a, DL.wipeR_c, DL.wipeR_n, DL.restR_c, DL.restR_n, DL.gtD_i, DL.gtD_T, DL.ob_assoc, DL.om_bind, DL.ob_map, DL.om_map, DL.cnd_bind, DL.cnd_map, DL.guard_bind, DL.guard_map, DL.atI_c0, DL.atI_c1, DL.atI_c2, DL.atI_c3, DL.encN_0, DL.encN_1, DL.encN_2, DL.encN_u, DL.revD_t, DL.revD_l, DL.eq_TI, DL.ne_TI, DL.in_I, DL.in_Il, DL.in_T, DL.in_R, DL.notInB_a, DL.seqK_ex, DL.finF_ex, DL.forK_ex, DL.tri_no, DL.trm_no, DL.atI_neg1, Nat.reduceAdd, Nat.reduceSub, Nat.reduceMul, Int.reduceLT, Int.reduceLE, Int.reducePow, Int.reduceNeg, Int.reduceAdd, Int.reduceSub, Int.reduceMul, Int.reduceBEq, Int.reduceBNe, Int.reduceToNat, $xs,*])
namespace DL
open PySem L2 GT
theorem rk {n : Nat} (h : n ≤ 1000) : rngOk (n : Int) = true := rng_ok (by omega) (by omega)
theorem sk {n : Nat} (h : n ≤ 1000) : szOk n = true := szOk_of (by omega)
theorem rl {n : Nat} (h : n ≤ 1000) : szOk (rngL 0 (n : Int)).length = true := by rw [rngL_ir, List.length_map, ir_len]; exact sk h
end DL
namespace PG
open PySem L2 DL GT
theorem beside_eval {N : Net} (w : N.WF) (k : Int) : g_beside [encN N, .int k] = some (TI (nb N k)) := by
  have := w.small
  unfold g_beside b_beside N_beside
  simp_arith [rk (show N.n ≤ 1000 by omega), rl (show N.n ≤ 1000 by omega)]
  rw [rngL_ir, compL_pure PyData.int PyData.int (fun o => adj N k o) (ir N.n) (fun o _ => by
    unfold Ct_beside_1 Ce_beside_1 adj pr
    simp_arith [DL.p_nt]
    cases decide ((min k o, max k o) ∈ N.ties) <;> rfl)]
  simp_arith [DL.p_nt]
  rfl
theorem md {α β : Type} (f : α → β) (xs : List α) : (xs.map f).dropLast = xs.dropLast.map f := (List.map_dropLast ..).symm
theorem mt' {α β : Type} (f : α → β) (xs : List α) : (xs.map f).tail = xs.tail.map f := (List.map_tail ..).symm
theorem flat_le {α β : Type} {f : α → List β} {c : Nat} : ∀ {xs : List α}, (∀ x ∈ xs, (f x).length ≤ c) → (xs.flatMap f).length ≤ xs.length * c
  | [], _ => by simp
  | x :: xs, h => by
    have h1 := h x (by simp)
    have h2 := flat_le (f := f) (c := c) (xs := xs) fun y m => h y (List.mem_cons_of_mem _ m)
    rw [List.flatMap_cons, List.length_append, List.length_cons, Nat.succ_mul]
    omega
theorem fresh_few {N : Net} (w : N.WF) {way : List Int} (hn : way.Nodup) (hi : ∀ x ∈ way, 0 ≤ x ∧ x < N.n) (a : Int) : ((nb N a).filter fun k => decide (k ∉ way)).length + way.length ≤ 7 := by
  have h1 : ((nb N a).filter fun k => decide (k ∉ way)).Nodup := (nodup_of_lt (fun a => Int.lt_irrefl a) (nb_sorted N a)).filter _
  have h2 : (((nb N a).filter fun k => decide (k ∉ way)) ++ way).Nodup := by
    rw [List.nodup_append]
    refine ⟨h1, hn, fun x m y my e => ?_⟩
    subst e
    have := (List.mem_filter.mp m).2
    simp at this
    exact this my
  have h3 := nodup_len_le _ (ir N.n) h2 fun x m => by
    rcases List.mem_append.mp m with m | m
    · exact (List.mem_filter.mp (List.mem_filter.mp m).1).1
    · exact mem_ir.mpr (hi x m)
  rw [ir_len, List.length_append] at h3
  have := w.small
  omega
theorem rim_len {N : Net} (w : N.WF) : N.rim.length ≤ 7 := by
  have := nodup_len_le N.rim (ir N.n) (nodup_of_lt (fun a => Int.lt_irrefl a) w.rimUp) fun a m => mem_ir.mpr (w.rimIn a m)
  rw [ir_len] at this
  have := w.small
  omega
end PG
namespace GT
theorem mem_routes {N : Net} (w : N.WF) {r : List Int} : r ∈ routes N ↔ IsRoute N r := by
  have sm := w.small
  unfold routes
  rw [mem_sortR, List.mem_flatMap]
  constructor
  · rintro ⟨k, mk, m⟩
    obtain ⟨h1, h2, h3, h4⟩ := (mem_ledOn w 8 [k] r (by simp) (by simp) rfl (by simpa using w.rimIn k mk) (by simp; omega)).mp m
    unfold isEnd at h4
    split at h4
    · rename_i a b ha hb
      simp only [Bool.and_eq_true, decide_eq_true_eq] at h4
      have ka : a = k := by
        obtain ⟨t, e⟩ := h1
        rw [← e] at ha; simpa using ha.symm
      exact ⟨by omega, h2, h3, a, b, ha, hb, ka ▸ mk, h4.1.2, h4.2⟩
    · cases h4
  · rintro ⟨two, nd, lk, a, b, ha, hb, ra, rb, lt⟩
    refine ⟨a, ra, (mem_ledOn w 8 [a] r (by simp) (by simp) rfl (by simpa using w.rimIn a ra) (by simp; omega)).mpr ⟨?_, nd, lk, ?_⟩⟩
    · cases r with
      | nil => simp at ha
      | cons c t => simp at ha; subst ha; exact ⟨t, rfl⟩
    · unfold isEnd
      rw [ha, hb]
      simp only [Bool.and_eq_true, decide_eq_true_eq]
      exact ⟨⟨by omega, rb⟩, lt⟩
theorem nodup_flat {α β : Type} {f : α → List β} : ∀ {xs : List α}, xs.Nodup → (∀ x ∈ xs, (f x).Nodup) → (∀ x ∈ xs, ∀ y ∈ xs, ∀ r, r ∈ f x → r ∈ f y → x = y) → (xs.flatMap f).Nodup
  | [], _, _, _ => by simp
  | x :: xs, h0, h1, h2 => by
    rw [List.nodup_cons] at h0
    rw [List.flatMap_cons, List.nodup_append]
    refine ⟨h1 x (by simp), nodup_flat h0.2 (fun y m => h1 y (List.mem_cons_of_mem _ m)) (fun y m z mz => h2 y (List.mem_cons_of_mem _ m) z (List.mem_cons_of_mem _ mz)), fun r m s ms e => ?_⟩
    subst e
    obtain ⟨y, my, mr⟩ := List.mem_flatMap.mp ms
    exact h0.1 (h2 x (by simp) y (List.mem_cons_of_mem _ my) r m mr ▸ my)
theorem routes_sorted {N : Net} (w : N.WF) : (routes N).Pairwise fun a b => llt a b = true := by
  unfold routes
  refine sortR_lt (nodup_flat (nodup_of_lt (fun a => Int.lt_irrefl a) w.rimUp) (fun k _ => ledOn_nodup 8 [k]) ?_)
  intro x _ y _ r mx my
  obtain ⟨t, e⟩ := ledOn_pre 8 [x] r mx
  obtain ⟨u, e2⟩ := ledOn_pre 8 [y] r my
  rw [← e] at e2
  have := e2.symm
  simp at this
  exact this.1
/-- a route, as a truth -/
def isRouteB (N : Net) (r : List Int) : Bool :=
  decide (2 ≤ r.length) && r.all (fun x => decide (0 ≤ x ∧ x < N.n)) && decide (r.Nodup) && (match r.head?, r.getLast? with | some a, some b => decide (a ∈ N.rim) && decide (b ∈ N.rim) && decide (a ≤ b) | _, _ => false) && (r.dropLast.zip r.tail).all fun p => adj N p.1 p.2
end GT
namespace PG
open PySem L2 DL GT
theorem dedup_eq {r : List Int} : (dedup r).length = r.length ↔ r.Nodup := by
  induction r with
  | nil => simp [dedup]
  | cons a r ih =>
    unfold dedup
    split
    · rename_i m
      have : (dedup r).length ≤ r.length := nodup_len_le _ _ (dedup_nodup r) fun x mx => mem_dedup.mp mx
      simp only [List.length_cons, List.nodup_cons, m, not_true, false_and, iff_false]; omega
    · rename_i m
      simp [m, ih]
theorem is_route_TI {N : Net} (w : N.WF) (r : List Int) (hr : r.length ≤ 900) : g_is_route [encN N, TI r] = some (.bool (isRouteB N r)) := by
  have sm := w.small
  have sz : szOk (r.map PyData.int).length = true := sk (by simp; omega)
  have c1 : compL (nameG 2) yesM Ce_is_route_1 [2] (r.map PyData.int) [some (.d (encN N)), some (.d (TI r)), none, none] = some (r.map fun x => .bool (wholeD (.int x) 0 ((N.n : Int) - 1)), [some (.d (encN N)), some (.d (TI r)), none, none]) :=
    compL_map PyData.int (fun x => .bool (wholeD (.int x) 0 ((N.n : Int) - 1))) r fun x _ => by
      unfold Ce_is_route_1
      simp_arith [whole_eval]
  have c2 : compL (tupG 2 (consG (nameG 2) (consG (nameG 3) nilG))) yesM Ce_is_route_2 [2, 3] ((r.dropLast.zip r.tail).map fun p => pairD (.int p.1) (.int p.2)) [some (.d (encN N)), some (.d (TI r)), none, none] = some ((r.dropLast.zip r.tail).map fun p => .bool (adj N p.1 p.2), [some (.d (encN N)), some (.d (TI r)), none, none]) :=
    compL_map (fun p : Int × Int => pairD (.int p.1) (.int p.2)) (fun p => .bool (adj N p.1 p.2)) _ fun p _ => by
      unfold Ce_is_route_2 pairD
      have mm : decide (p.2 ∈ nb N p.1) = adj N p.1 p.2 := by
        by_cases h : adj N p.1 p.2 = true
        · rw [h]; exact decide_eq_true ((mem_nb (w := w)).mpr h)
        · rw [Bool.not_eq_true] at h; rw [h]; exact decide_eq_false fun q => by rw [(mem_nb (w := w)).mp q] at h; cases h
      simp_arith [beside_eval w, mm]
  have all1 : allD (.list (r.map fun x => .bool (wholeD (.int x) 0 ((N.n : Int) - 1)))) = some (.bool (r.all fun x => decide (0 ≤ x ∧ x < N.n))) := by
    rw [allD_map]
    congr 2
    congr 1
    funext x
    simp only [wholeD]
    by_cases h1 : 0 ≤ x <;> by_cases h2 : x < N.n <;> simp [h1, h2] <;> omega
  have all2 : allD (.list ((r.dropLast.zip r.tail).map fun p => .bool (adj N p.1 p.2))) = some (.bool ((r.dropLast.zip r.tail).all fun p => adj N p.1 p.2)) := allD_map _ _
  have z2 : szOk ((r.dropLast.zip r.tail).map fun p => pairD (.int p.1) (.int p.2)).length = true := sk (by simp; omega)
  unfold g_is_route b_is_route N_is_route isRouteB
  by_cases h2 : 2 ≤ r.length
  · have d2 : decide (((r.map PyData.int).length : Int) < 2) = false := decide_eq_false (by simp; omega)
    rw [decide_eq_true h2, Bool.true_and]
    cases hA : r.all fun x => decide (0 ≤ x ∧ x < N.n) with
    | false => simp_arith [isi_tuple, d2, sz, c1, all1, hA]
    | true =>
      have ls : lenSetD (TI r) = some (.int (dedup r).length) := by
        show (intsOf (r.map .int)).bind _ = _
        rw [intsOf_map]
        simp only [Option.bind_some]
        rw [if_pos (by omega)]
      by_cases hN : r.Nodup
      · have dn : ((((dedup r).length : Nat) : Int) == ((r.map PyData.int).length : Nat)) = true := by rw [dedup_eq.mpr hN]; simp
        obtain ⟨a, ha⟩ : ∃ a, r.head? = some a := by
          cases r with
          | nil => simp at h2
          | cons a l => exact ⟨a, rfl⟩
        obtain ⟨b, last⟩ : ∃ b, r.getLast? = some b := ⟨_, List.getLast?_eq_some_getLast (by intro e; simp [e] at h2)⟩
        have e1 : ixD (TI r) (.int 0) = some (.int a) := by
          cases r with
          | nil => simp at h2
          | cons c l => cases ha; simp_arith [DL.p_nt]
        have e2 : ixD (TI r) (.int (-1)) = some (.int b) := by
          simp_arith [DL.p_nt]
          rw [List.getLast?_map, last]; rfl
        rw [decide_eq_true hN, Bool.true_and, ha, last, Bool.true_and]
        dsimp only
        by_cases h3 : a ∈ N.rim
        · by_cases h4 : b ∈ N.rim
          · by_cases h5 : b < a
            · simp_arith [isi_tuple, d2, sz, c1, all1, hA, ls, dn, e1, e2, decide_eq_true h3, decide_eq_true h4, decide_eq_true h5]
              simp [h3, h4]; omega
            · simp_arith [isi_tuple, d2, sz, c1, all1, hA, ls, dn, e1, e2, decide_eq_true h3, decide_eq_true h4, decide_eq_false h5, cut_init, cut_tail, md, mt', zipL_enc, z2, c2, all2]
              have : a ≤ b := by omega
              simp [h3, h4, this]
          · simp_arith [isi_tuple, d2, sz, c1, all1, hA, ls, dn, e1, e2, decide_eq_true h3, decide_eq_false h4]
        · simp_arith [isi_tuple, d2, sz, c1, all1, hA, ls, dn, e1, e2, decide_eq_false h3]
      · have dn : ((((dedup r).length : Nat) : Int) == ((r.map PyData.int).length : Nat)) = false := by
          rw [beq_eq_false_iff_ne]
          intro q
          rw [List.length_map] at q
          exact hN (dedup_eq.mp (by omega))
        rw [decide_eq_false hN]
        simp_arith [isi_tuple, d2, sz, c1, all1, hA, ls, dn]
  · have d2 : decide (((r.map PyData.int).length : Int) < 2) = true := decide_eq_true (by simp; omega)
    rw [decide_eq_false h2]
    simp_arith [isi_tuple, d2]
end PG
local macro_rules | `(tactic| simp_arith [$xs,*]) => `(tactic| simp only [DL.ob_some, DL.om_some, DL.dat_d, DL.lis_l, DL.gt_0, DL.gt_1, DL.gt_2, DL.gt_3, DL.gt_4, DL.gt_5, DL.gt_6, DL.gt_7, DL.gt_b, DL.st_0, DL.st_s, DL.plG_d, DL.plG_n, DL.plainAt_a, DL.varM_a, DL.ownM_a, DL.cM_a, DL.ofL_a, DL.opM_a, DL.unM_a, DL.truM_a, DL.tstM_a, DL.notM_a, DL.cnd_t, DL.cnd_f, DL.andM_a, DL.orM_a, DL.andVM_a, DL.notVM_a, DL.iteM_a, DL.chM_a, DL.nilM_a, DL.consM_a, DL.guard_tt, DL.tupM_a, DL.lstM_a, DL.noM_a, DL.intV_i, DL.someM_a, DL.slM_a, DL.rng1M_a, DL.rng2M_a, DL.zipV_t, DL.zipV_l, DL.zipM_a, DL.seqM_a, DL.callM_a, DL.hereM_a, DL.callRM_a, DL.appM_a, DL.lisV_l, DL.catOwnM_a, DL.nameG_a, DL.nilG_a, DL.consG_a, DL.tupG_a, DL.seqS_a, DL.seqK_nx, DL.seqK_rt, DL.seqK_ct, DL.skipM_a, DL.asgM_a, DL.newM_a, DL.asgLM_a, DL.retM_a, DL.exprM_a, DL.ifM_a, DL.forM_a, DL.frzM_a, DL.runF_a, DL.finF_rt, DL.finF_nx, DL.runR_a, DL.finR_rt, DL.finR_nx, DL.sz_0, DL.sz_1, DL.sz_2, DL.sz_3, DL.sz_4, DL.sz_5, DL.sz_6, DL.sz_7, DL.sz_8, DL.sz_9, DL.sz_10, DL.sz_11, DL.sz_12, DL.sz_13, DL.sz_14, DL.sz_15, DL.sz_16, DL.sz_17, DL.sz_18, DL.sz_19, DL.sz_20, DL.sz_21, DL.sz_22, DL.sz_23, DL.sz_24, DL.sz_25, DL.sz_26, DL.sz_27, DL.sz_28, DL.sz_29, DL.sz_30, DL.nc_0, DL.nc_1, DL.nc_2, DL.nc_3, DL.nc_4, DL.nc_5, DL.nc_6, DL.nc_7, DL.nc_8, DL.nc_9, DL.nc_10, DL.nc_11, DL.nc_12, DL.nc_13, DL.nc_14, DL.nc_15, DL.nc_16, DL.nc_17, DL.nc_18, DL.nc_19, DL.nc_20, DL.nc_21, DL.nc_22, DL.nc_23, DL.nc_24, DL.nc_25, DL.nc_26, DL.nc_27, DL.nc_28, DL.nc_29, DL.nc_30, DL.addD_i, DL.addD_t, DL.addD_l, DL.subD_i, DL.modD_i, DL.fdivD_i, DL.mulD_i, DL.lenD_t, DL.lenD_l, DL.tupleD_t, DL.tupleD_l, DL.listD_t, DL.listD_l, DL.truD_i, DL.truD_b, DL.truD_n, DL.truD_l, DL.truD_t, DL.ixD_t, DL.ixD_l, DL.negD_i, DL.bD_a, DL.ltB_i, DL.leB_i, DL.eqB_i, DL.neB_i, DL.min2D_i, DL.max2D_i, DL.items_t, DL.items_l, DL.intD_b, DL.isNN, DL.slD_t, DL.slD_l, DL.sortD2_l, DL.sortD2_t, DL.p_ge0, DL.p_geS, DL.p_tk0, DL.p_tkS, DL.p_tkN, DL.p_dr0, DL.p_drS, DL.p_drN, DL.p_mpC, DL.p_mpN, DL.p_apC, DL.p_apN, DL.p_lnC, DL.p_lnN, DL.p_rpS, DL.p_rp0, DL.p_alC, DL.p_alN, DL.p_gdS, DL.p_gdN, DL.p_tlS, DL.p_tlN, DL.p_ieC, DL.p_ieN, DL.p_nt, DL.p_nf, DL.p_atb, DL.p_afb, DL.p_abt, DL.p_abf, DL.p_eqS, DL.p_dT, DL.p_dF, DL.p_TA, DL.p_AT, DL.p_TO, DL.p_OT, DL.p_startD, DL.p_startR, DL.forK_nx, DL.forK_ct, DL.forK_rt, DL.yesM_a, DL.it1_a, DL.compM_a, DL.wipeR_c, DL.wipeR_n, DL.restR_c, DL.restR_n, DL.gtD_i, DL.gtD_T, DL.ob_assoc, DL.om_bind, DL.ob_map, DL.om_map, DL.cnd_bind, DL.cnd_map, DL.guard_bind, DL.guard_map, DL.atI_c0, DL.atI_c1, DL.atI_c2, DL.atI_c3, DL.encN_0, DL.encN_1, DL.encN_2, DL.encN_u, DL.revD_t, DL.revD_l, DL.kn_k, DL.intOf_i, DL.putKM_a, DL.newKM_a, DL.lenKM_a, DL.sortKM_a, DL.eq_TI, DL.ne_TI, DL.in_I, DL.in_Il, DL.in_T, DL.in_R, DL.notInB_a, DL.seqK_ex, DL.finF_ex, DL.forK_ex, DL.tri_no, DL.trm_no, DL.atI_neg1, Nat.reduceAdd, Nat.reduceSub, Nat.reduceMul, Int.reduceLT, Int.reduceLE, Int.reducePow, Int.reduceNeg, Int.reduceAdd, Int.reduceSub, Int.reduceMul, Int.reduceBEq, Int.reduceBNe, Int.reduceToNat, $xs,*])
namespace DL
open PySem L2 GT
/-- flat things, and tuples of such, not too deep -/
def okD : Nat → D → Bool
  | _, .none => true
  | _, .bool _ => true
  | _, .int _ => true
  | _, .str x => PyData.strOk x
  | k + 1, .tuple xs => decide (xs.length ≤ 100000) && xs.all (okD k)
  | _, _ => false
theorem zip_self (xs : List D) : zipL xs xs = xs.map fun d => pairD d d := by
  unfold zipL
  induction xs with
  | nil => rfl
  | cons x xs ih => rw [List.zipWith_cons_cons, ih, List.map_cons]
theorem eqB_s {x : Str} (h : PyData.strOk x = true) : eqB (.str x) (.str x) = some true := by
  unfold eqB
  have : SeqAt.shaped (.str x) = true := by simp [SeqAt.shaped, PyData.canLay0, h, PyData.depth]
  simp [this, PyData.eqv]
end DL
namespace FA
open PySem L2 DL GT PG
theorem same_refl : ∀ (f : Nat) (d : D), okD f d = true → gr__law_same (f + 1) [d, d] = some (.bool true)
  | f, d, h => by
    show runF N__law_same (b__law_same (gr__law_same f)) [d, d] = _
    unfold b__law_same N__law_same
    cases d with
    | none => simp_arith [isNN]
    | bool b =>
      have h1 : isB (.bool b) .none = some false := rfl
      have h2 : eqB (.bool b) (.bool b) = some true := by cases b <;> rfl
      simp_arith [isi_bool, h1, h2]
    | int i =>
      have h1 : isB (.int i) .none = some false := rfl
      simp_arith [isi_bool, isi_tuple, isi_str, isi_int, h1]
      simp
    | str x =>
      have h0 : PyData.strOk x = true := by cases f <;> simpa [okD] using h
      have h1 : isB (.str x) .none = some false := rfl
      simp_arith [isi_bool, isi_tuple, isi_str, h1, eqB_s h0]
    | tuple xs =>
      cases f with
      | zero => simp [okD] at h
      | succ f =>
        simp only [okD, Bool.and_eq_true, decide_eq_true_eq, List.all_eq_true] at h
        have h1 : isB (.tuple xs) .none = some false := rfl
        have z : szOk (xs.map fun d => pairD d d).length = true := szOk_of (by simp; omega)
        have ne : ((xs.length : Int) == (xs.length : Int)) = true := by simp
        simp_arith [isi_bool, isi_tuple, h1, ne, zip_self, z]
        rw [compL_map (fun d => pairD d d) (fun _ => .bool true) xs (fun d m => by
          unfold Ce__law_same_1 pairD
          simp_arith [same_refl f d (h.2 d m)])]
        have al : allD (.list (xs.map fun _ => .bool true)) = some (.bool true) := by rw [allD_map]; simp
        simp_arith [al]
    | list xs => cases f <;> simp [okD] at h
    | dict xs => cases f <;> simp [okD] at h
theorem same_ok {d : D} (h : okD 20 d = true) : g__law_same [d, d] = some (.bool true) := by
  have up : ∀ (j : Nat) (k : Nat) (d : D), okD k d = true → okD (k + j) d = true := by
    intro j k
    induction k with
    | zero => intro d h; cases d <;> cases j <;> simp_all [okD]
    | succ k ih =>
      intro d h
      cases d with
      | tuple xs =>
        rw [show k + 1 + j = (k + j) + 1 by omega]
        simp only [okD, Bool.and_eq_true, List.all_eq_true] at h ⊢
        exact ⟨h.1, fun x m => ih x (h.2 x m)⟩
      | _ => rw [show k + 1 + j = (k + j) + 1 by omega]; simpa [okD] using h
  exact same_refl 39 d (up 19 20 d h)
end FA
namespace DL
open PySem L2 GT
theorem cut_two {r : List Int} {i : Nat} (h : i + 1 < r.length) : cutD (r.map PyData.int) (some (i : Int)) (some ((i + 2 : Nat) : Int)) = [.int r[i], .int r[i + 1]] := by
  unfold cutD
  rw [HT.sIx_nat, HT.sIx_nat, List.length_map, Nat.min_eq_left (by omega), Nat.min_eq_left (by omega), ← List.map_drop, ← List.map_take]
  rw [show i + 2 - i = 2 by omega, List.drop_eq_getElem_cons (by omega), List.drop_eq_getElem_cons (by omega)]
  rfl
theorem sort_two (a b : Int) : sortI [a, b] = [min a b, max a b] := by
  refine ((sorted_is (ys := [min a b, max a b]) (ks := [a, b]) ?_ (by simp; omega))).symm
  by_cases h : a ≤ b
  · rw [Int.min_eq_left h, Int.max_eq_right h]
  · rw [Int.min_eq_right (by omega), Int.max_eq_left (by omega)]
    exact List.Perm.swap ..
end DL
namespace FA
open PySem L2 DL GT PG
theorem pairs_range (r : List Int) (f : Int → Int → Int) : ((List.range (r.length - 1)).map fun i => f (r.getD i 0) (r.getD (i + 1) 0)) = (r.dropLast.zip r.tail).map fun p => f p.1 p.2 := by
  apply List.ext_getElem?
  intro i
  rw [List.getElem?_map, List.getElem?_map]
  by_cases h : i + 1 < r.length
  · rw [List.getElem?_range (by omega)]
    have : (r.dropLast.zip r.tail)[i]? = some (r[i], r[i + 1]) := by
      rw [List.getElem?_zip_eq_some]
      constructor
      · rw [List.getElem?_dropLast, if_pos (by omega), List.getElem?_eq_getElem (by omega)]
      · rw [List.getElem?_tail, List.getElem?_eq_getElem h]
    rw [this]
    simp [List.getD_eq_getElem?_getD, h, show i < r.length by omega]
  · rw [List.getElem?_eq_none (by simp; omega), List.getElem?_eq_none (by simp; omega)]
    rfl
end FA
namespace GT
/-- a way longer by a tie that leads on -/
def leads (row : List Int) (b : Int) (t : Tie) : Bool := decide (b ∈ [t.1, t.2]) && (decide (t.1 ∉ row) || decide (t.2 ∉ row))
def ext (N : Net) (row : List Int) : List (List Int) := (N.ties.filter (leads row (row.getLast?.getD 0))).map fun t => row ++ [t.1 + t.2 - row.getLast?.getD 0]
def level (N : Net) : Nat → List (List Int)
  | 0 => N.rim.map fun k => [k]
  | m + 1 => (level N m).flatMap (ext N)
/-- a way that begins at the rim -/
structure IsWay (N : Net) (m : Nat) (r : List Int) : Prop where
  len : r.length = m + 1
  nd : r.Nodup
  lk : linked N r = true
  inn : ∀ x ∈ r, 0 ≤ x ∧ x < N.n
  rim : ∃ a, r.head? = some a ∧ a ∈ N.rim
theorem leads_iff {N : Net} (w : N.WF) {row : List Int} {b : Int} (hb : row.getLast? = some b) {t : Tie} (mt : t ∈ N.ties) : leads row b t = true ↔ t = pr b (t.1 + t.2 - b) ∧ (t.1 + t.2 - b) ∉ row := by
  have ht := w.tie t mt
  have mb : b ∈ row := List.mem_of_getLast? hb
  unfold leads
  simp only [Bool.and_eq_true, Bool.or_eq_true, decide_eq_true_eq, List.mem_cons, List.not_mem_nil, or_false]
  obtain ⟨t1, t2⟩ := t
  simp only at ht ⊢
  constructor
  · rintro ⟨rfl | rfl, h2⟩
    · rw [show b + t2 - b = t2 by omega]
      refine ⟨(pr_of_lt ht.2.1).symm, ?_⟩
      rcases h2 with h | h
      · exact absurd mb h
      · exact h
    · rw [show t1 + b - b = t1 by omega, pr_comm]
      refine ⟨(pr_of_lt ht.2.1).symm, ?_⟩
      rcases h2 with h | h
      · exact h
      · exact absurd mb h
  · rintro ⟨h1, h2⟩
    unfold pr at h1
    simp only [Prod.mk.injEq] at h1
    by_cases e : b = t1
    · subst e
      rw [show b + t2 - b = t2 by omega] at h2
      exact ⟨.inl rfl, .inr h2⟩
    · have e2 : b = t2 := by omega
      subst e2
      rw [show t1 + b - b = t1 by omega] at h2
      exact ⟨.inr rfl, .inl h2⟩
theorem mem_ext {N : Net} (w : N.WF) {row r : List Int} {b : Int} (hb : row.getLast? = some b) : r ∈ ext N row ↔ ∃ k, adj N b k = true ∧ k ∉ row ∧ r = row ++ [k] := by
  unfold ext
  rw [hb, Option.getD_some, List.mem_map]
  constructor
  · rintro ⟨t, m, rfl⟩
    obtain ⟨m1, m2⟩ := List.mem_filter.mp m
    obtain ⟨h1, h2⟩ := (leads_iff w hb m1).mp m2
    exact ⟨_, decide_eq_true (h1 ▸ m1), h2, rfl⟩
  · rintro ⟨k, h1, h2, rfl⟩
    have m1 : pr b k ∈ N.ties := of_decide_eq_true h1
    have e : (pr b k).1 + (pr b k).2 - b = k := by unfold pr; simp only; omega
    exact ⟨pr b k, List.mem_filter.mpr ⟨m1, (leads_iff w hb m1).mpr (by rw [e]; exact ⟨rfl, h2⟩)⟩, by rw [e]⟩
theorem ext_nodup {N : Net} (w : N.WF) {row : List Int} {b : Int} (hb : row.getLast? = some b) : (ext N row).Nodup := by
  unfold ext
  rw [hb, Option.getD_some]
  refine List.Pairwise.map _ ?_ (List.Pairwise.and_mem.mp ((nodup_of_lt tlt_irr w.up).filter _))
  rintro t u ⟨mt, mu, ne⟩ e
  obtain ⟨m1, m2⟩ := List.mem_filter.mp mt
  obtain ⟨n1, n2⟩ := List.mem_filter.mp mu
  have e2 : t.1 + t.2 - b = u.1 + u.2 - b := by simpa using e
  have h1 := ((leads_iff w hb m1).mp m2).1
  have h2 := ((leads_iff w hb n1).mp n2).1
  rw [e2, ← h2] at h1
  exact ne h1
theorem way_last {N : Net} {m : Nat} {r : List Int} (h : IsWay N m r) : ∃ b, r.getLast? = some b := ⟨_, List.getLast?_eq_some_getLast (fun e => by have := h.len; simp [e] at this)⟩
theorem ext_way {N : Net} (w : N.WF) {m : Nat} {row r : List Int} (h : IsWay N m row) (mr : r ∈ ext N row) : IsWay N (m + 1) r := by
  obtain ⟨b, hb⟩ := way_last h
  obtain ⟨k, h1, h2, rfl⟩ := (mem_ext w hb).mp mr
  refine ⟨by simp [h.len], ?_, (linked_snoc hb).mpr ⟨h.lk, h1⟩, ?_, ?_⟩
  · rw [List.nodup_append]
    exact ⟨h.nd, by simp, fun x mx y my e => by simp at my; subst my; exact h2 (e ▸ mx)⟩
  · intro x mx
    rcases List.mem_append.mp mx with mx | mx
    · exact h.inn x mx
    · simp at mx; subst mx; exact (adj_in w h1).2.1
  · obtain ⟨a, ha, ra⟩ := h.rim
    exact ⟨a, by rw [List.head?_append, ha]; rfl, ra⟩
theorem level_way {N : Net} (w : N.WF) : ∀ (m : Nat) {r : List Int}, r ∈ level N m → IsWay N m r
  | 0, r, h => by
    obtain ⟨k, mk, rfl⟩ := List.mem_map.mp h
    exact ⟨rfl, by simp, rfl, by simpa using w.rimIn k mk, k, rfl, mk⟩
  | m + 1, r, h => by
    obtain ⟨row, m1, m2⟩ := List.mem_flatMap.mp h
    exact ext_way w (level_way w m m1) m2
theorem mem_level {N : Net} (w : N.WF) : ∀ (m : Nat) {r : List Int}, r ∈ level N m ↔ IsWay N m r
  | 0, r => ⟨level_way w 0, fun h => by
    obtain ⟨a, ha, ra⟩ := h.rim
    have := h.len
    match r, this, ha with
    | [c], _, ha => simp at ha; subst ha; exact List.mem_map.mpr ⟨c, ra, rfl⟩⟩
  | m + 1, r => ⟨level_way w (m + 1), fun h => by
    have ne : r ≠ [] := fun e => by have := h.len; simp [e] at this
    have e := List.dropLast_concat_getLast ne
    have hl : r.dropLast.length = m + 1 := by simp [h.len]
    have hn : r.dropLast.Nodup := h.nd.sublist (List.dropLast_sublist r)
    have hlk : linked N r.dropLast = true := linked_of_snoc (b := r.getLast ne) (by rw [e]; exact h.lk)
    have hw : IsWay N m r.dropLast := ⟨hl, hn, hlk, fun x mx => h.inn x (List.dropLast_subset r mx), by
      obtain ⟨a, ha, ra⟩ := h.rim
      refine ⟨a, ?_, ra⟩
      rw [← e, List.head?_append] at ha
      cases q : r.dropLast.head? with
      | none => rw [List.head?_eq_none_iff] at q; simp [q] at hl
      | some c => rw [q] at ha; exact ha⟩
    obtain ⟨b, hb⟩ := way_last hw
    refine List.mem_flatMap.mpr ⟨r.dropLast, (mem_level w m).mpr hw, (mem_ext w hb).mpr ⟨r.getLast ne, ?_, ?_, e.symm⟩⟩
    · have := h.lk
      rw [← e] at this
      exact ((linked_snoc hb).mp this).2
    · have := h.nd
      rw [← e, List.nodup_append] at this
      exact fun mm => this.2.2 _ mm _ (by simp) rfl⟩
theorem level_nodup {N : Net} (w : N.WF) : ∀ m : Nat, (level N m).Nodup
  | 0 => List.Pairwise.map _ (fun a b ne e => ne (by simpa using e)) (nodup_of_lt (fun a => Int.lt_irrefl a) w.rimUp)
  | m + 1 => nodup_flat (level_nodup w m) (fun row mr => by
      obtain ⟨b, hb⟩ := way_last (level_way w m mr)
      exact ext_nodup w hb) fun x mx y my r h1 h2 => by
      obtain ⟨b, hb⟩ := way_last (level_way w m mx)
      obtain ⟨c, hc⟩ := way_last (level_way w m my)
      obtain ⟨k, _, _, rfl⟩ := (mem_ext w hb).mp h1
      obtain ⟨j, _, _, e⟩ := (mem_ext w hc).mp h2
      exact (List.append_inj' e rfl).1
theorem ext_fewer {N : Net} (w : N.WF) {m : Nat} {row : List Int} (h : IsWay N m row) : (ext N row).length + (m + 1) ≤ 7 := by
  obtain ⟨b, hb⟩ := way_last h
  have h1 := PG.fresh_few w h.nd h.inn b
  have h2 := nodup_len_le (ext N row) (((nb N b).filter fun k => decide (k ∉ row)).map fun k => row ++ [k]) (ext_nodup w hb) fun r mr => by
    obtain ⟨k, k1, k2, rfl⟩ := (mem_ext w hb).mp mr
    exact List.mem_map.mpr ⟨k, List.mem_filter.mpr ⟨(mem_nb (w := w)).mpr k1, by simpa using k2⟩, rfl⟩
  rw [List.length_map] at h2
  have := h.len
  omega
theorem ext_few {N : Net} (w : N.WF) {m : Nat} {row : List Int} (h : IsWay N m row) : (ext N row).length ≤ 6 := by
  have := ext_fewer w h
  omega
def lv : Nat → Nat
  | 0 => 7
  | m + 1 => lv m * (6 - m)
theorem level_lv {N : Net} (w : N.WF) : ∀ m : Nat, (level N m).length ≤ lv m
  | 0 => by simp [level, lv]; exact PG.rim_len w
  | m + 1 => by
    have h1 := PG.flat_le (f := ext N) (c := 6 - m) (xs := level N m) fun r mr => by
      have := ext_fewer w (level_way w m mr)
      omega
    have h2 := Nat.mul_le_mul_right (6 - m) (level_lv w m)
    rw [level, lv]
    omega
theorem lv_le : ∀ m, m ≤ 9 → lv m ≤ 5040 := by decide
theorem level_len {N : Net} (w : N.WF) {m : Nat} (h : m ≤ 9) : (level N m).length ≤ 5040 := Nat.le_trans (level_lv w m) (lv_le m h)
theorem level_end {N : Net} (w : N.WF) {m : Nat} (h : N.n ≤ m) : level N m = [] := by
  cases q : level N m with
  | nil => rfl
  | cons r l =>
    have hw := level_way w m (r := r) (by rw [q]; simp)
    have := nodup_len_le r (ir N.n) hw.nd fun x mx => mem_ir.mpr (hw.inn x mx)
    rw [ir_len, hw.len] at this
    omega
end GT
namespace DL
open PySem L2 GT
def whileK (t : TM) (f : SM) (n : Nat) : Out → Option Out
  | .nx r => whileL t f n r
  | .ct r => whileL t f n r
  | .bk r => some (.nx r)
  | o => some o
theorem whileL_s (t : TM) (f : SM) (n : Nat) (r : Rho) : whileL t f (n + 1) r = (t r).bind fun p => cnd p.1 (fun _ => (f p.2).bind (whileK t f n)) (fun _ => some (.nx p.2)) := by
  rw [whileL]
  cases t r with
  | none => rfl
  | some p =>
    obtain ⟨b, r1⟩ := p
    cases b with
    | false => rfl
    | true =>
      simp only [ob_some, cnd_t, if_true]
      cases f r1 with
      | none => rfl
      | some o => cases o <;> rfl
theorem whileK_nx (t : TM) (f : SM) (n : Nat) (r : Rho) : whileK t f n (.nx r) = whileL t f n r := (rfl)
theorem in_tie (b : Int) (t : Tie) : inB (.int b) (encT t) = some (decide (b ∈ [t.1, t.2])) := in_I b [t.1, t.2]
end DL
namespace FA
open PySem L2 DL GT PG
theorem F1_lr {N : Net} {x1 x2 x5 : Option SV} {row : List Int} {b : Int} (hb : row.getLast? = some b) (hl : row.length ≤ 50) : ∀ (ts : List Tie) (acc : List (List Int)) (x6 : Option SV), acc.length + ts.length ≤ 900000 →
    ∃ x6', forL (nameG 6) F__law_routes_1 (ts.map encT) [some (.d (encN N)), x1, x2, some (.l false (acc.map TI)), some (.d (TI row)), x5, x6] =
      some (.nx [some (.d (encN N)), x1, x2, some (.l false ((acc ++ (ts.filter (leads row b)).map fun t => row ++ [t.1 + t.2 - b]).map TI)), some (.d (TI row)), x5, x6'])
  | [], acc, x6, _ => ⟨x6, by simp [forL_nil]⟩
  | t :: ts, acc, x6, hz => by
    simp only [List.length_cons] at hz
    have e2 : ixD (TI row) (.int (-1)) = some (.int b) := by
      simp_arith [DL.p_nt]
      rw [List.getLast?_map, hb]; rfl
    have e3 : addD (TI row) (.tuple [.int (t.1 + t.2 - b)]) = some (TI (row ++ [t.1 + t.2 - b])) := by
      simp_arith [sk (show (row.map PyData.int).length + 1 ≤ 1000 by simp; omega)]
      simp
    have z : szOk (acc.map TI).length = true := szOk_of (by simp; omega)
    rw [List.map_cons, forL_cons]
    cases hlead : leads row b t with
    | true =>
      obtain ⟨x6', e⟩ := F1_lr (x1 := x1) (x2 := x2) (x5 := x5) (N := N) hb hl ts (acc ++ [row ++ [t.1 + t.2 - b]]) (some (.d (encT t))) (by simp only [List.length_append, List.length_cons, List.length_nil]; omega)
      refine ⟨x6', ?_⟩
      rw [List.filter_cons_of_pos hlead, List.map_cons]
      unfold leads at hlead
      simp only [Bool.and_eq_true, Bool.or_eq_true] at hlead
      unfold F__law_routes_1 at e ⊢
      have ee : (acc ++ [row ++ [t.1 + t.2 - b]]).map TI = acc.map TI ++ [TI (row ++ [t.1 + t.2 - b])] := by simp
      rw [ee, List.append_assoc] at e
      by_cases h1 : t.1 ∈ row
      · have h2 : t.2 ∉ row := by simpa [h1] using hlead.2
        simp_arith [e2, in_tie, hlead.1, decide_eq_true h1, decide_eq_false h2, e3, z]
        exact e
      · simp_arith [e2, in_tie, hlead.1, decide_eq_false h1, e3, z]
        exact e
    | false =>
      obtain ⟨x6', e⟩ := F1_lr (x1 := x1) (x2 := x2) (x5 := x5) (N := N) hb hl ts acc (some (.d (encT t))) (by omega)
      refine ⟨x6', ?_⟩
      rw [List.filter_cons_of_neg (by simp [hlead])]
      unfold leads at hlead
      unfold F__law_routes_1 at e ⊢
      by_cases h0 : b ∈ [t.1, t.2]
      · simp only [decide_eq_true h0, Bool.true_and, Bool.or_eq_false_iff, decide_eq_false_iff_not, Decidable.not_not] at hlead
        simp_arith [e2, in_tie, decide_eq_true h0, decide_eq_true hlead.1, decide_eq_true hlead.2]
        exact e
      · simp_arith [e2, in_tie, decide_eq_false h0]
        exact e
theorem F2_lr {N : Net} (w : N.WF) (ht : N.ties.length ≤ 9) {x1 x2 x5 : Option SV} : ∀ (rows : List (List Int)) (acc : List (List Int)) (x4 x6 : Option SV), (∀ r ∈ rows, ∃ m, m ≤ 7 ∧ IsWay N m r) → acc.length + 6 * rows.length ≤ 800000 →
    ∃ x4' x6', plG x4 = true → (plG x4' = true ∧ forL (nameG 4) F__law_routes_2 (rows.map TI) [some (.d (encN N)), x1, x2, some (.l false (acc.map TI)), x4, x5, x6] =
      some (.nx [some (.d (encN N)), x1, x2, some (.l false ((acc ++ rows.flatMap (ext N)).map TI)), x4', x5, x6']))
  | [], acc, x4, x6, _, _ => ⟨x4, x6, fun h => ⟨h, by simp [forL_nil]⟩⟩
  | r :: rows, acc, x4, x6, hr, hz => by
    obtain ⟨m, m7, hw⟩ := hr r (by simp)
    obtain ⟨b, hb⟩ := way_last hw
    have few := ext_few w hw
    have hlen := hw.len
    simp only [List.length_cons] at hz
    obtain ⟨x6a, e1⟩ := F1_lr (N := N) (x1 := x1) (x2 := x2) (x5 := x5) hb (by omega) N.ties acc x6 (by omega)
    have ex : (N.ties.filter (leads r b)).map (fun t => r ++ [t.1 + t.2 - b]) = ext N r := by unfold ext; rw [hb]; rfl
    rw [ex] at e1
    obtain ⟨x4', x6', e2⟩ := F2_lr w ht (x1 := x1) (x2 := x2) (x5 := x5) rows (acc ++ ext N r) (some (.d (TI r))) x6a (fun s ms => hr s (List.mem_cons_of_mem _ ms)) (by simp only [List.length_append]; omega)
    obtain ⟨p, e2⟩ := e2 rfl
    refine ⟨x4', x6', fun _ => ⟨p, ?_⟩⟩
    rw [List.map_cons, forL_cons]
    unfold F__law_routes_2 at e2 ⊢
    simp_arith [forM_a, e1]
    rw [e2, List.flatMap_cons, List.append_assoc]
/-- an end that counts -/
def endB (N : Net) (r : List Int) : Bool := match r.head?, r.getLast? with
  | some a, some b => decide (b ∈ N.rim) && decide (a < b)
  | _, _ => false
theorem filt_lr {N : Net} {x1 x2 x3 x5 x6 : Option SV} {rows : List (List Int)} (h : ∀ r ∈ rows, r ≠ []) : compL (nameG 4) Ct__law_routes_1 Ce__law_routes_2 [4] (rows.map TI) [some (.d (encN N)), x1, x2, x3, none, x5, x6] = some ((rows.filter (endB N)).map TI, [some (.d (encN N)), x1, x2, x3, none, x5, x6]) :=
  compL_pure TI TI (endB N) rows fun r m => by
    have ne := h r m
    obtain ⟨a, ha⟩ : ∃ a, r.head? = some a := by
      cases r with
      | nil => exact absurd rfl ne
      | cons a l => exact ⟨a, rfl⟩
    obtain ⟨b, last⟩ : ∃ b, r.getLast? = some b := ⟨_, List.getLast?_eq_some_getLast ne⟩
    have e1 : ixD (TI r) (.int 0) = some (.int a) := by
      cases r with
      | nil => exact absurd rfl ne
      | cons c l => cases ha; simp_arith [DL.p_nt]
    have e2 : ixD (TI r) (.int (-1)) = some (.int b) := by
      simp_arith [DL.p_nt]
      rw [List.getLast?_map, last]; rfl
    unfold Ct__law_routes_1 Ce__law_routes_2 endB
    rw [ha, last]
    dsimp only
    by_cases h1 : b ∈ N.rim
    · by_cases h2 : a < b
      · simp_arith [e1, e2, decide_eq_true h1, decide_eq_true h2]
        rfl
      · simp_arith [e1, e2, decide_eq_true h1, decide_eq_false h2]
        rfl
    · simp_arith [e1, e2, decide_eq_false h1]
      rfl
def gotL (N : Net) (m : Nat) : List (List Int) := (List.range m).flatMap fun i => (level N (i + 1)).filter (endB N)
theorem gotL_s (N : Net) (m : Nat) : gotL N (m + 1) = gotL N m ++ (level N (m + 1)).filter (endB N) := by
  unfold gotL
  rw [List.range_succ, List.flatMap_append]
  simp
theorem gotL_len {N : Net} (w : N.WF) : ∀ m, m ≤ 8 → (gotL N m).length ≤ 5040 * m
  | 0, _ => by simp [gotL]
  | m + 1, h => by
    have h1 := gotL_len w m (by omega)
    have h2 := level_len w (m := m + 1) (by omega)
    have h3 := List.length_filter_le (endB N) (level N (m + 1))
    rw [gotL_s, List.length_append]
    omega
theorem gotL_end {N : Net} : ∀ (k m : Nat), level N m = [] → gotL N (m + k) = gotL N m ∧ level N (m + k) = []
  | 0, m, h => ⟨rfl, h⟩
  | k + 1, m, h => by
    obtain ⟨h1, h2⟩ := gotL_end k m h
    have h3 : level N (m + k + 1) = [] := by rw [level, h2]; rfl
    refine ⟨?_, h3⟩
    rw [show m + (k + 1) = m + k + 1 by omega, gotL_s, h3, h1]
    simp
theorem W_lr {N : Net} (w : N.WF) (ht : N.ties.length ≤ 9) {x5 : Option SV} : ∀ (k m fuel : Nat) (x3 x4 x6 : Option SV), m + k = 8 → k < fuel → plG x4 = true →
    ∃ y1 y3 y4 y6, whileL Wt__law_routes_1 Wb__law_routes_1 fuel [some (.d (encN N)), some (.d (.list ((level N m).map TI))), some (.d (.list ((gotL N m).map TI))), x3, x4, x5, x6] =
      some (.nx [some (.d (encN N)), y1, some (.d (.list ((gotL N 8).map TI))), y3, y4, x5, y6])
  | k, m, 0, _, _, _, _, h, _ => by omega
  | k, m, fuel + 1, x3, x4, x6, hm, hk, hp => by
    rw [whileL_s]
    by_cases he : level N m = []
    · have := (gotL_end k m he).1
      rw [hm] at this
      refine ⟨some (.d (.list [])), x3, x4, x6, ?_⟩
      rw [he, this]
      unfold Wt__law_routes_1
      simp_arith [DL.p_nt]
    · have ne : ((level N m).map TI).isEmpty = false := by
        cases q : level N m with
        | nil => exact absurd q he
        | cons _ _ => rfl
      have sm := w.small
      have hm7 : m < 7 := by
        rcases Nat.lt_or_ge m 7 with h | h
        · exact h
        · exact absurd (level_end w (by omega)) he
      obtain ⟨k', rfl⟩ : ∃ k', k = k' + 1 := ⟨k - 1, by omega⟩
      have lm := level_len w (m := m) (by omega)
      obtain ⟨a4, a6, e1⟩ := F2_lr w ht (x1 := some (.d (.list ((level N m).map TI)))) (x2 := some (.d (.list ((gotL N m).map TI)))) (x5 := x5) (level N m) [] x4 x6 (fun r mr => ⟨m, by omega, level_way w m mr⟩) (by simp; omega)
      obtain ⟨p4, e1⟩ := e1 hp
      have e2 := filt_lr (N := N) (x1 := some (.d (.list ((level N m).map TI)))) (x2 := some (.d (.list ((gotL N m).map TI)))) (x3 := some (.d (.list ((level N (m + 1)).map TI)))) (x5 := x5) (x6 := a6) (rows := level N (m + 1)) fun r mr e => by
        have := (level_way w (m + 1) mr).len
        simp [e] at this
      have lm1 := level_len w (m := m + 1) (by omega)
      have lg := gotL_len w m (by omega)
      have z1 : szOk ((level N (m + 1)).map TI).length = true := szOk_of (by simp; omega)
      have lf := List.length_filter_le (endB N) (level N (m + 1))
      have z2 : szOk (((gotL N m).map TI).length + (((level N (m + 1)).filter (endB N)).map TI).length) = true := szOk_of (by simp only [List.length_map]; omega)
      obtain ⟨y1, y3, y4, y6, e3⟩ := W_lr w ht (x5 := x5) k' (m + 1) fuel (some (.d (.list ((level N (m + 1)).map TI)))) a4 a6 (by omega) (by omega) p4
      refine ⟨y1, y3, y4, y6, ?_⟩
      rw [List.map_nil, List.nil_append] at e1
      rw [show (level N m).flatMap (ext N) = level N (m + 1) from rfl] at e1
      have w1 : Wt__law_routes_1 [some (.d (encN N)), some (.d (.list ((level N m).map TI))), some (.d (.list ((gotL N m).map TI))), x3, x4, x5, x6] = some (true, [some (.d (encN N)), some (.d (.list ((level N m).map TI))), some (.d (.list ((gotL N m).map TI))), x3, x4, x5, x6]) := by
        unfold Wt__law_routes_1
        simp_arith [ne]
      have w2 : Wb__law_routes_1 [some (.d (encN N)), some (.d (.list ((level N m).map TI))), some (.d (.list ((gotL N m).map TI))), x3, x4, x5, x6] = some (.nx [some (.d (encN N)), some (.d (.list ((level N (m + 1)).map TI))), some (.d (.list ((gotL N (m + 1)).map TI))), some (.d (.list ((level N (m + 1)).map TI))), a4, x5, a6]) := by
        unfold Wb__law_routes_1
        simp_arith [forM_a, e1, z1, p4, e2, z2]
        rw [gotL_s, List.map_append]
      rw [w1]
      simp_arith [w2]
      exact e3
theorem gotL_mem {N : Net} (w : N.WF) {r : List Int} : r ∈ gotL N 8 ↔ IsRoute N r := by
  have sm := w.small
  unfold gotL
  rw [List.mem_flatMap]
  constructor
  · rintro ⟨i, _, m⟩
    obtain ⟨m1, m2⟩ := List.mem_filter.mp m
    have hw := level_way w (i + 1) m1
    obtain ⟨a, ha, ra⟩ := hw.rim
    obtain ⟨b, hb⟩ := way_last hw
    unfold endB at m2
    rw [ha, hb] at m2
    simp only [Bool.and_eq_true, decide_eq_true_eq] at m2
    exact ⟨by have := hw.len; omega, hw.nd, hw.lk, a, b, ha, hb, ra, m2.1, m2.2⟩
  · rintro ⟨two, nd, lk, a, b, ha, hb, ra, rb, lt⟩
    have inn := linked_in w two lk
    have len := nodup_len_le r (ir N.n) nd fun x mx => mem_ir.mpr (inn x mx)
    rw [ir_len] at len
    refine ⟨r.length - 2, List.mem_range.mpr (by omega), List.mem_filter.mpr ⟨(mem_level w _).mpr ⟨by omega, nd, lk, inn, a, ha, ra⟩, ?_⟩⟩
    unfold endB
    rw [ha, hb]
    simp [rb, lt]
theorem gotL_nodup {N : Net} (w : N.WF) : (gotL N 8).Nodup :=
  nodup_flat List.nodup_range (fun i _ => (level_nodup w (i + 1)).filter _) fun i _ j _ r h1 h2 => by
    have a := (level_way w (i + 1) (List.mem_filter.mp h1).1).len
    have b := (level_way w (j + 1) (List.mem_filter.mp h2).1).len
    omega
theorem routes_by_hand {N : Net} (w : N.WF) (ht : N.ties.length ≤ 9) : g__law_routes [encN N] = some (.list ((routes N).map TI)) := by
  have e0 : compL (nameG 5) yesM Ce__law_routes_1 [5] (N.rim.map PyData.int) [some (.d (encN N)), none, none, none, none, none, none] = some ((level N 0).map TI, [some (.d (encN N)), none, none, none, none, none, none]) := by
    rw [compL_map PyData.int (fun k => TI [k]) N.rim fun k _ => by
      unfold Ce__law_routes_1
      simp_arith [DL.p_nt]
      rfl]
    simp [level]
  have z0 : szOk (N.rim.map PyData.int).length = true := sk (by have := rim_len w; simp; omega)
  obtain ⟨y1, y3, y4, y6, e1⟩ := W_lr w ht (x5 := none) 8 0 1000 none none none rfl (by decide) rfl
  have lg := gotL_len w 8 (by omega)
  have so : sortOk ((gotL N 8).map TI) = true := sortOk_TI (by omega) fun r m e => by
    have := ((gotL_mem w).mp m).two
    simp [e] at this
  have g0 : gotL N 0 = [] := rfl
  rw [g0, List.map_nil] at e1
  unfold g__law_routes b__law_routes N__law_routes
  simp_arith [z0, e0, e1, so, sortL_TI]
  rw [sorted_extR (sortR (gotL N 8)) (routes N) (sortR_lt (gotL_nodup w)) (routes_sorted w) fun r => by rw [mem_sortR, gotL_mem w, mem_routes w]]
end FA
local macro_rules | `(tactic| simp_arith [$xs,*]) => `(tactic| simp only [DL.ob_some, DL.om_some, DL.dat_d, DL.lis_l, DL.gt_0, DL.gt_1, DL.gt_2, DL.gt_3, DL.gt_4, DL.gt_5, DL.gt_6, DL.gt_7, DL.gt_b, DL.st_0, DL.st_s, DL.plG_d, DL.plG_n, DL.plainAt_a, DL.varM_a, DL.ownM_a, DL.cM_a, DL.ofL_a, DL.opM_a, DL.unM_a, DL.truM_a, DL.tstM_a, DL.notM_a, DL.cnd_t, DL.cnd_f, DL.andM_a, DL.orM_a, DL.andVM_a, DL.notVM_a, DL.iteM_a, DL.chM_a, DL.nilM_a, DL.consM_a, DL.guard_tt, DL.tupM_a, DL.lstM_a, DL.noM_a, DL.intV_i, DL.someM_a, DL.slM_a, DL.rng1M_a, DL.rng2M_a, DL.zipV_t, DL.zipV_l, DL.zipM_a, DL.seqM_a, DL.callM_a, DL.hereM_a, DL.callRM_a, DL.appM_a, DL.lisV_l, DL.catOwnM_a, DL.nameG_a, DL.nilG_a, DL.consG_a, DL.tupG_a, DL.seqS_a, DL.seqK_nx, DL.seqK_rt, DL.seqK_ct, DL.skipM_a, DL.asgM_a, DL.newM_a, DL.asgLM_a, DL.retM_a, DL.exprM_a, DL.ifM_a, DL.forM_a, DL.frzM_a, DL.runF_a, DL.finF_rt, DL.finF_nx, DL.runR_a, DL.finR_rt, DL.finR_nx, DL.sz_0, DL.sz_1, DL.sz_2, DL.sz_3, DL.sz_4, DL.sz_5, DL.sz_6, DL.sz_7, DL.sz_8, DL.sz_9, DL.sz_10, DL.sz_11, DL.sz_12, DL.sz_13, DL.sz_14, DL.sz_15, DL.sz_16, DL.sz_17, DL.sz_18, DL.sz_19, DL.sz_20, DL.sz_21, DL.sz_22, DL.sz_23, DL.sz_24, DL.sz_25, DL.sz_26, DL.sz_27, DL.sz_28, DL.sz_29, DL.sz_30, DL.nc_0, DL.nc_1, DL.nc_2, DL.nc_3, DL.nc_4, DL.nc_5, DL.nc_6, DL.nc_7, DL.nc_8, DL.nc_9, DL.nc_10, DL.nc_11, DL.nc_12, DL.nc_13, DL.nc_14, DL.nc_15, DL.nc_16, DL.nc_17, DL.nc_18, DL.nc_19, DL.nc_20, DL.nc_21, DL.nc_22, DL.nc_23, DL.nc_24, DL.nc_25, DL.nc_26, DL.nc_27, DL.nc_28, DL.nc_29, DL.nc_30, DL.addD_i, DL.addD_t, DL.addD_l, DL.subD_i, DL.modD_i, DL.fdivD_i, DL.mulD_i, DL.lenD_t, DL.lenD_l, DL.tupleD_t, DL.tupleD_l, DL.listD_t, DL.listD_l, DL.truD_i, DL.truD_b, DL.truD_n, DL.truD_l, DL.truD_t, DL.ixD_t, DL.ixD_l, DL.negD_i, DL.bD_a, DL.ltB_i, DL.leB_i, DL.eqB_i, DL.neB_i, DL.min2D_i, DL.max2D_i, DL.items_t, DL.items_l, DL.intD_b, DL.isNN, DL.slD_t, DL.slD_l, DL.sortD2_l, DL.sortD2_t, DL.p_ge0, DL.p_geS, DL.p_tk0, DL.p_tkS, DL.p_tkN, DL.p_dr0, DL.p_drS, DL.p_drN, DL.p_mpC, DL.p_mpN, DL.p_apC, DL.p_apN, DL.p_lnC, DL.p_lnN, DL.p_rpS, DL.p_rp0, DL.p_alC, DL.p_alN, DL.p_gdS, DL.p_gdN, DL.p_tlS, DL.p_tlN, DL.p_ieC, DL.p_ieN, DL.p_nt, DL.p_nf, DL.p_atb, DL.p_afb, DL.p_abt, DL.p_abf, DL.p_eqS, DL.p_dT, DL.p_dF, DL.p_TA, DL.p_AT, DL.p_TO, DL.p_OT, DL.p_startD, DL.p_startR, DL.forK_nx, DL.forK_ct, DL.forK_rt, DL.yesM_a, DL.it1_a, DL.compM_a, DL.wipeR_c, DL.wipeR_n, DL.restR_c, DL.restR_n, DL.gtD_i, DL.gtD_T, DL.ob_assoc, DL.om_bind, DL.ob_map, DL.om_map, DL.cnd_bind, DL.cnd_map, DL.guard_bind, DL.guard_map, DL.atI_c0, DL.atI_c1, DL.atI_c2, DL.atI_c3, DL.encN_0, DL.encN_1, DL.encN_2, DL.encN_u, DL.revD_t, DL.revD_l, DL.eq_TI, DL.ne_TI, DL.in_I, DL.in_Il, DL.in_T, DL.in_R, DL.notInB_a, DL.seqK_ex, DL.finF_ex, DL.forK_ex, DL.tri_no, DL.trm_no, DL.atI_neg1, Nat.reduceAdd, Nat.reduceSub, Nat.reduceMul, Int.reduceLT, Int.reduceLE, Int.reducePow, Int.reduceNeg, Int.reduceAdd, Int.reduceSub, Int.reduceMul, Int.reduceBEq, Int.reduceBNe, Int.reduceToNat, $xs,*])
namespace DL
open PySem L2 GT
theorem wipO_nx (is : List Nat) (r : Rho) : wipO is (.nx r) = .nx (wipeR r is) := (rfl)
theorem wipO_ct (is : List Nat) (r : Rho) : wipO is (.ct r) = .ct (wipeR r is) := (rfl)
theorem wipO_bk (is : List Nat) (r : Rho) : wipO is (.bk r) = .bk (wipeR r is) := (rfl)
theorem wipO_rt (is : List Nat) (d : D) (r : Rho) : wipO is (.rt d r) = .rt d r := (rfl)
theorem wipO_ex (is : List Nat) (c : String) (r : Rho) : wipO is (.ex c r) = .ex c r := (rfl)
theorem wipM_a (is : List Nat) (f : SM) (r : Rho) : wipM is f r = (f r).map (wipO is) := (rfl)
theorem preM_a (is : List Nat) (f : SM) (r : Rho) : preM is f r = f (wipeR r is) := (rfl)
theorem two_a (i j : Nat) (r : Rho) (d e : D) : two i j r [d, e] = some (.nx ((r.set i (some (.d d))).set j (some (.d e)))) := (rfl)
theorem finR_ex (j : Nat) (c : String) (r : Rho) : finR j (.ex c r) = none := (rfl)
theorem len_map {α β : Type} (f : α → β) (xs : List α) : (xs.map f).length = xs.length := by simp
theorem len_app {α : Type} (xs ys : List α) : (xs ++ ys).length = xs.length + ys.length := by simp
theorem len_ir (n : Nat) : (ir n).length = n := ir_len n
theorem len_rev {α : Type} (xs : List α) : xs.reverse.length = xs.length := by simp
theorem sz_c {n : Nat} (h : n ≤ 1000000) : szOk n = true := szOk_of h
theorem rng_c {i : Int} (h1 : -1000000 ≤ i) (h2 : i ≤ 1000000) : rngOk i = true := rng_ok h1 h2
theorem rngL_n (n : Nat) : rngL 0 (n : Int) = (ir n).map .int := rngL_ir n
theorem forM_a' (it : AM) (g : GM) (f : SM) (r : Rho) : forM it g f r = (it r).bind fun p => forL g f p.1 p.2 := (rfl)
theorem rev_map {α β : Type} (f : α → β) (xs : List α) : (xs.map f).reverse = xs.reverse.map f := by simp
theorem seqK_bk (g : SM) (r : Rho) : seqK g (.bk r) = some (.bk r) := (rfl)
theorem forK_bk (g : GM) (f : SM) (xs : List D) (r : Rho) : forK g f xs (.bk r) = some (.nx r) := (rfl)
theorem emp_map {α β : Type} (f : α → β) (xs : List α) : (xs.map f).isEmpty = xs.isEmpty := by cases xs <;> rfl
/-! steps of an evaluation -/
theorem wp_last {α : Type} {e : Option α} {Q : α → Prop} (h : wp (e.bind some) Q) : wp e Q := by
  cases e with
  | none => exact h
  | some a => exact h
/-- a loop that changes nothing -/
theorem wp_all {A β : Type} {g : GM} {f : SM} {as : List A} {r : Rho} {K : Out → Option β} {Q : β → Prop} {enc : A → D}
    (step : ∀ a ∈ as, wp ((g r (enc a)).bind f) (goesOn (· = r))) (k : wp (K (.nx r)) Q) : wp ((forL g f (as.map enc) r).bind K) Q := by
  refine wp_for enc (fun bs q => (∀ b ∈ bs, b ∈ as) ∧ q = r) ⟨fun _ h => h, rfl⟩ ?_ ?_
  · rintro a bs q ⟨h, rfl⟩
    refine wp_mono (step a (h a (by simp))) fun o ho => ?_
    cases o with
    | nx r2 => exact ⟨fun b m => h b (List.mem_cons_of_mem _ m), ho⟩
    | ct r2 => exact ⟨fun b m => h b (List.mem_cons_of_mem _ m), ho⟩
    | _ => exact ho.elim
  · rintro q ⟨_, rfl⟩; exact k
/-- a loop that draws: each turn at most c times -/
theorem wp_town {A β : Type} {g : GM} {f : SM} {as : List A} {K : Out → Option β} {Q : β → Prop} {enc : A → D} (st : List D → Rho) (c : Nat) (tw0 : List D)
    (step : ∀ a ∈ as, ∀ tw : List D, tw.length ≤ tw0.length + c * as.length → wp ((g (st tw) (enc a)).bind f) (goesOn fun r => ∃ tw' : List D, tw'.length ≤ tw.length + c ∧ r = st tw'))
    (k : ∀ tw : List D, tw.length ≤ tw0.length + c * as.length → wp (K (.nx (st tw))) Q) : wp ((forL g f (as.map enc) (st tw0)).bind K) Q := by
  refine wp_for enc (fun bs q => (∀ b ∈ bs, b ∈ as) ∧ ∃ tw : List D, tw.length + c * bs.length ≤ tw0.length + c * as.length ∧ q = st tw) ⟨fun _ h => h, tw0, Nat.le_refl _, rfl⟩ ?_ ?_
  · rintro a bs q ⟨h, tw, hl, rfl⟩
    simp only [List.length_cons, Nat.mul_add, Nat.mul_one] at hl
    refine wp_mono (step a (h a (by simp)) tw (by omega)) fun o ho => ?_
    cases o with
    | nx r2 => obtain ⟨tw', h1, h2⟩ := ho; exact ⟨fun b m => h b (List.mem_cons_of_mem _ m), tw', by omega, h2⟩
    | ct r2 => obtain ⟨tw', h1, h2⟩ := ho; exact ⟨fun b m => h b (List.mem_cons_of_mem _ m), tw', by omega, h2⟩
    | _ => exact ho.elim
  · rintro q ⟨_, tw, hl, rfl⟩; exact k tw (by simpa using hl)
/-- a loop that may find: the first for which it returns -/
theorem wp_find {A β : Type} {g : GM} {f : SM} {as : List A} {r : Rho} {K : Out → Option β} {Q : β → Prop} {enc : A → D} (p : A → Bool) (v : A → D)
    (step : ∀ a ∈ as, wp ((g r (enc a)).bind f) (fun o => if p a = true then ∃ r', o = .rt (v a) r' else goesOn (· = r) o))
    (k1 : ∀ a r', as.find? p = some a → wp (K (.rt (v a) r')) Q) (k2 : as.find? p = none → wp (K (.nx r)) Q) : wp ((forL g f (as.map enc) r).bind K) Q := by
  induction as with
  | nil => exact k2 rfl
  | cons a as ih =>
    rw [List.map_cons, forL_cons]
    obtain ⟨o, e, ho⟩ := step a (by simp)
    rw [e, ob_some]
    cases h : p a with
    | true =>
      rw [h, if_pos rfl] at ho
      obtain ⟨r', rfl⟩ := ho
      exact k1 a r' (by simp [h])
    | false =>
      rw [h, if_neg (by simp)] at ho
      have ih' := ih (fun b m => step b (List.mem_cons_of_mem _ m)) (fun b r' hb => k1 b r' (by simp [h, hb])) (fun hb => k2 (by simp [h, hb]))
      cases o with
      | nx r2 => cases ho; exact ih'
      | ct r2 => cases ho; exact ih'
      | _ => exact ho.elim
/-- comprehensions -/
theorem wp_cmap {A β : Type} {g : GM} {el : EM} {is : List Nat} {as : List A} {r : Rho} {K : List D × Rho → Option β} {Q : β → Prop} {enc : A → D} (e : A → D)
    (step : ∀ a ∈ as, wp (it1 g yesM el is r (enc a)) (· = (some (e a), r))) (k : wp (K (as.map e, r)) Q) : wp ((compL g yesM el is (as.map enc) r).bind K) Q := by
  rw [compL_map enc e as fun a m => wp_val (step a m)]; exact k
/-- the parts of a row without one -/
theorem cut_from {α : Type} (xs : List α) (k : Nat) : cutD xs (some (k : Int)) none = xs.drop k := by
  unfold cutD
  rw [HT.sIx_none, HT.sIx_nat]
  rcases Nat.le_total k xs.length with h | h
  · rw [Nat.min_eq_left h]
    exact List.take_of_length_le (by simp)
  · rw [Nat.min_eq_right h, List.drop_of_length_le h]
    simp
theorem cut_to {α : Type} (xs : List α) (k : Nat) : cutD xs none (some (k : Int)) = xs.take k := by
  unfold cutD
  rw [HT.sIx_none, HT.sIx_nat, List.drop_zero, Nat.sub_zero]
  rcases Nat.le_total k xs.length with h | h
  · rw [Nat.min_eq_left h]
  · rw [Nat.min_eq_right h, List.take_length, List.take_of_length_le h]
theorem cut_from1 {α : Type} (xs : List α) (k : Nat) : cutD xs (some ((k : Int) + 1)) none = xs.drop (k + 1) := by
  rw [show ((k : Int) + 1) = ((k + 1 : Nat) : Int) by omega]; exact cut_from xs (k + 1)
end DL
local macro_rules | `(tactic| simp_arith [$xs,*]) => `(tactic| simp only [DL.ob_some, DL.om_some, DL.dat_d, DL.lis_l, DL.gt_0, DL.gt_1, DL.gt_2, DL.gt_3, DL.gt_4, DL.gt_5, DL.gt_6, DL.gt_7, DL.gt_b, DL.st_0, DL.st_s, DL.plG_d, DL.plG_n, DL.plainAt_a, DL.varM_a, DL.ownM_a, DL.cM_a, DL.ofL_a, DL.opM_a, DL.unM_a, DL.truM_a, DL.tstM_a, DL.notM_a, DL.cnd_t, DL.cnd_f, DL.andM_a, DL.orM_a, DL.andVM_a, DL.notVM_a, DL.iteM_a, DL.chM_a, DL.nilM_a, DL.consM_a, DL.guard_tt, DL.tupM_a, DL.lstM_a, DL.noM_a, DL.intV_i, DL.someM_a, DL.slM_a, DL.rng1M_a, DL.rng2M_a, DL.zipV_t, DL.zipV_l, DL.zipM_a, DL.seqM_a, DL.callM_a, DL.hereM_a, DL.callRM_a, DL.appM_a, DL.lisV_l, DL.catOwnM_a, DL.nameG_a, DL.nilG_a, DL.consG_a, DL.tupG_a, DL.seqS_a, DL.seqK_nx, DL.seqK_rt, DL.seqK_ct, DL.skipM_a, DL.asgM_a, DL.newM_a, DL.asgLM_a, DL.retM_a, DL.exprM_a, DL.ifM_a, DL.forM_a, DL.frzM_a, DL.runF_a, DL.finF_rt, DL.finF_nx, DL.runR_a, DL.finR_rt, DL.finR_nx, DL.sz_0, DL.sz_1, DL.sz_2, DL.sz_3, DL.sz_4, DL.sz_5, DL.sz_6, DL.sz_7, DL.sz_8, DL.sz_9, DL.sz_10, DL.sz_11, DL.sz_12, DL.sz_13, DL.sz_14, DL.sz_15, DL.sz_16, DL.sz_17, DL.sz_18, DL.sz_19, DL.sz_20, DL.sz_21, DL.sz_22, DL.sz_23, DL.sz_24, DL.sz_25, DL.sz_26, DL.sz_27, DL.sz_28, DL.sz_29, DL.sz_30, DL.nc_0, DL.nc_1, DL.nc_2, DL.nc_3, DL.nc_4, DL.nc_5, DL.nc_6, DL.nc_7, DL.nc_8, DL.nc_9, DL.nc_10, DL.nc_11, DL.nc_12, DL.nc_13, DL.nc_14, DL.nc_15, DL.nc_16, DL.nc_17, DL.nc_18, DL.nc_19, DL.nc_20, DL.nc_21, DL.nc_22, DL.nc_23, DL.nc_24, DL.nc_25, DL.nc_26, DL.nc_27, DL.nc_28, DL.nc_29, DL.nc_30, DL.addD_i, DL.addD_t, DL.addD_l, DL.subD_i, DL.modD_i, DL.fdivD_i, DL.mulD_i, DL.lenD_t, DL.lenD_l, DL.tupleD_t, DL.tupleD_l, DL.listD_t, DL.listD_l, DL.truD_i, DL.truD_b, DL.truD_n, DL.truD_l, DL.truD_t, DL.ixD_t, DL.ixD_l, DL.negD_i, DL.bD_a, DL.ltB_i, DL.leB_i, DL.eqB_i, DL.neB_i, DL.min2D_i, DL.max2D_i, DL.items_t, DL.items_l, DL.intD_b, DL.isNN, DL.slD_t, DL.slD_l, DL.sortD2_l, DL.sortD2_t, DL.p_ge0, DL.p_geS, DL.p_tk0, DL.p_tkS, DL.p_tkN, DL.p_dr0, DL.p_drS, DL.p_drN, DL.p_mpC, DL.p_mpN, DL.p_apC, DL.p_apN, DL.p_lnC, DL.p_lnN, DL.p_rpS, DL.p_rp0, DL.p_alC, DL.p_alN, DL.p_gdS, DL.p_gdN, DL.p_tlS, DL.p_tlN, DL.p_ieC, DL.p_ieN, DL.p_nt, DL.p_nf, DL.p_atb, DL.p_afb, DL.p_abt, DL.p_abf, DL.p_eqS, DL.p_dT, DL.p_dF, DL.p_TA, DL.p_AT, DL.p_TO, DL.p_OT, DL.p_startD, DL.p_startR, DL.forK_nx, DL.forK_ct, DL.forK_rt, DL.yesM_a, DL.it1_a, DL.compM_a, DL.wipeR_c, DL.wipeR_n, DL.restR_c, DL.restR_n, DL.gtD_i, DL.gtD_T, DL.ob_assoc, DL.om_bind, DL.ob_map, DL.om_map, DL.cnd_bind, DL.cnd_map, DL.guard_bind, DL.guard_map, DL.atI_c0, DL.atI_c1, DL.atI_c2, DL.atI_c3, DL.encN_0, DL.encN_1, DL.encN_2, DL.encN_u, DL.revD_t, DL.revD_l, Nat.reduceAdd, Nat.reduceSub, Nat.reduceMul, Int.reduceLT, Int.reduceLE, Int.reducePow, Int.reduceNeg, Int.reduceAdd, Int.reduceSub, Int.reduceMul, Int.reduceBEq, Int.reduceBNe, Int.reduceToNat, $xs,*])
namespace DL
open PySem L2 GT
end DL
namespace PG
open PySem L2 DL GT
end PG
local macro_rules | `(tactic| simp_arith [$xs,*]) => `(tactic| simp (maxSteps := 2000000) (disch := omega) only [DL.ob_some, DL.om_some, DL.dat_d, DL.lis_l, DL.gt_0, DL.gt_1, DL.gt_2, DL.gt_3, DL.gt_4, DL.gt_5, DL.gt_6, DL.gt_7, DL.gt_b, DL.st_0, DL.st_s, DL.plG_d, DL.plG_n, DL.plainAt_a, DL.varM_a, DL.ownM_a, DL.cM_a, DL.ofL_a, DL.opM_a, DL.unM_a, DL.truM_a, DL.tstM_a, DL.notM_a, DL.cnd_t, DL.cnd_f, DL.andM_a, DL.orM_a, DL.andVM_a, DL.notVM_a, DL.iteM_a, DL.chM_a, DL.nilM_a, DL.consM_a, DL.guard_tt, DL.tupM_a, DL.lstM_a, DL.noM_a, DL.intV_i, DL.someM_a, DL.slM_a, DL.rng1M_a, DL.rng2M_a, DL.zipV_t, DL.zipV_l, DL.zipM_a, DL.seqM_a, DL.callM_a, DL.hereM_a, DL.callRM_a, DL.appM_a, DL.lisV_l, DL.catOwnM_a, DL.nameG_a, DL.nilG_a, DL.consG_a, DL.tupG_a, DL.seqS_a, DL.seqK_nx, DL.seqK_rt, DL.seqK_ct, DL.skipM_a, DL.asgM_a, DL.newM_a, DL.asgLM_a, DL.retM_a, DL.exprM_a, DL.ifM_a, DL.forM_a, DL.frzM_a, DL.runF_a, DL.finF_rt, DL.finF_nx, DL.runR_a, DL.finR_rt, DL.finR_nx, DL.sz_0, DL.sz_1, DL.sz_2, DL.sz_3, DL.sz_4, DL.sz_5, DL.sz_6, DL.sz_7, DL.sz_8, DL.sz_9, DL.sz_10, DL.sz_11, DL.sz_12, DL.sz_13, DL.sz_14, DL.sz_15, DL.sz_16, DL.sz_17, DL.sz_18, DL.sz_19, DL.sz_20, DL.sz_21, DL.sz_22, DL.sz_23, DL.sz_24, DL.sz_25, DL.sz_26, DL.sz_27, DL.sz_28, DL.sz_29, DL.sz_30, DL.nc_0, DL.nc_1, DL.nc_2, DL.nc_3, DL.nc_4, DL.nc_5, DL.nc_6, DL.nc_7, DL.nc_8, DL.nc_9, DL.nc_10, DL.nc_11, DL.nc_12, DL.nc_13, DL.nc_14, DL.nc_15, DL.nc_16, DL.nc_17, DL.nc_18, DL.nc_19, DL.nc_20, DL.nc_21, DL.nc_22, DL.nc_23, DL.nc_24, DL.nc_25, DL.nc_26, DL.nc_27, DL.nc_28, DL.nc_29, DL.nc_30, DL.addD_i, DL.addD_t, DL.addD_l, DL.subD_i, DL.modD_i, DL.fdivD_i, DL.mulD_i, DL.lenD_t, DL.lenD_l, DL.tupleD_t, DL.tupleD_l, DL.listD_t, DL.listD_l, DL.truD_i, DL.truD_b, DL.truD_n, DL.truD_l, DL.truD_t, DL.ixD_t, DL.ixD_l, DL.negD_i, DL.bD_a, DL.ltB_i, DL.leB_i, DL.eqB_i, DL.neB_i, DL.min2D_i, DL.max2D_i, DL.items_t, DL.items_l, DL.intD_b, DL.isNN, DL.slD_t, DL.slD_l, DL.sortD2_l, DL.sortD2_t, DL.p_ge0, DL.p_geS, DL.p_tk0, DL.p_tkS, DL.p_tkN, DL.p_dr0, DL.p_drS, DL.p_drN, DL.p_mpC, DL.p_mpN, DL.p_apC, DL.p_apN, DL.p_lnC, DL.p_lnN, DL.p_rpS, DL.p_rp0, DL.p_alC, DL.p_alN, DL.p_gdS, DL.p_gdN, DL.p_tlS, DL.p_tlN, DL.p_ieC, DL.p_ieN, DL.p_nt, DL.p_nf, DL.p_atb, DL.p_afb, DL.p_abt, DL.p_abf, DL.p_eqS, DL.p_dT, DL.p_dF, DL.p_TA, DL.p_AT, DL.p_TO, DL.p_OT, DL.p_startD, DL.p_startR, DL.forK_nx, DL.forK_ct, DL.forK_rt, DL.yesM_a, DL.it1_a, DL.compM_a, DL.wipeR_c, DL.wipeR_n, DL.restR_c, DL.restR_n, DL.gtD_i, DL.gtD_T, DL.ob_assoc, DL.om_bind, DL.ob_map, DL.om_map, DL.cnd_bind, DL.cnd_map, DL.guard_bind, DL.guard_map, DL.atI_c0, DL.atI_c1, DL.atI_c2, DL.atI_c3, DL.encN_0, DL.encN_1, DL.encN_2, DL.encN_u, DL.revD_t, DL.revD_l, DL.eq_TI, DL.ne_TI, DL.in_I, DL.in_Il, DL.in_T, DL.in_R, DL.notInB_a, DL.seqK_ex, DL.finF_ex, DL.forK_ex, DL.tri_no, DL.trm_no, DL.atI_neg1, DL.wipO_nx, DL.wipO_ct, DL.wipO_bk, DL.wipO_rt, DL.wipO_ex, DL.wipM_a, DL.preM_a, DL.two_a, DL.finR_ex, DL.len_map, DL.len_app, DL.len_ir, DL.len_rev, DL.sz_c, DL.rng_c, DL.rngL_n, DL.forM_a', DL.rev_map, DL.seqK_bk, DL.forK_bk, DL.emp_map, Nat.reduceAdd, Nat.reduceSub, Nat.reduceMul, Int.reduceLT, Int.reduceLE, Int.reducePow, Int.reduceNeg, Int.reduceAdd, Int.reduceSub, Int.reduceMul, Int.reduceBEq, Int.reduceBNe, Int.reduceToNat, $xs,*])
namespace DL
open PySem L2 GT
theorem encF_lst {α : Type} [DecidableEq α] {k : Nat} {f : α → D} (h : EncF k f) : EncF (k + 1) (fun xs : List α => PyData.list (xs.map f)) :=
  ⟨fun xs => by simpa [PyData.canLay0] using layAll h xs, fun xs => by have := depAll h xs; simp only [PyData.depth]; omega, fun xs ys => by simp only [PyData.eqv]; exact eqvAll_map h xs ys⟩
theorem eq_LI (a b : List Int) : eqB (.list (a.map .int)) (.list (b.map .int)) = some (decide (a = b)) := eq_one (encF_lst encF_int) (by decide) a b
theorem ne_LI (a b : List Int) : neB (.list (a.map .int)) (.list (b.map .int)) = some (!decide (a = b)) := ne_one (encF_lst encF_int) (by decide) a b
theorem eq_LI0 (a : List Int) : eqB (.list (a.map .int)) (.list []) = some a.isEmpty := (eq_one (encF_lst encF_int) (by decide) a []).trans (by cases a <;> rfl)
theorem ne_LI0 (a : List Int) : neB (.list (a.map .int)) (.list []) = some (!a.isEmpty) := (ne_one (encF_lst encF_int) (by decide) a []).trans (by cases a <;> rfl)
theorem eq_LT (a b : List Tie) : eqB (.list (a.map encT)) (.list (b.map encT)) = some (decide (a = b)) := eq_one (encF_lst encF_T) (by decide) a b
theorem ne_LT (a b : List Tie) : neB (.list (a.map encT)) (.list (b.map encT)) = some (!decide (a = b)) := ne_one (encF_lst encF_T) (by decide) a b
theorem eq_LR (a b : List (List Int)) : eqB (.list (a.map TI)) (.list (b.map TI)) = some (decide (a = b)) := eq_one (encF_lst encF_TI) (by decide) a b
theorem ne_LR (a b : List (List Int)) : neB (.list (a.map TI)) (.list (b.map TI)) = some (!decide (a = b)) := ne_one (encF_lst encF_TI) (by decide) a b
theorem eq_TR (a b : List (List Int)) : eqB (.tuple (a.map TI)) (.tuple (b.map TI)) = some (decide (a = b)) := eq_one (encF_tup encF_TI) (by decide) a b
theorem ne_TR (a b : List (List Int)) : neB (.tuple (a.map TI)) (.tuple (b.map TI)) = some (!decide (a = b)) := ne_one (encF_tup encF_TI) (by decide) a b
theorem eq_B (a b : Bool) : eqB (.bool a) (.bool b) = some (decide (a = b)) := eq_one encF_bool (by decide) a b
theorem ne_B (a b : Bool) : neB (.bool a) (.bool b) = some (!decide (a = b)) := ne_one encF_bool (by decide) a b
theorem wp_mapE {α β : Type} (e : Option α) (f : α → β) (Q : β → Prop) : wp (e.map f) Q = wp (e.bind fun a => some (f a)) Q := by cases e <;> rfl
theorem map_id_int (xs : List Int) : (xs.map fun a => a) = xs := by simp
theorem cut_f {α : Type} (xs : List α) (k : Nat) : cutD xs (some (k : Int)) none = xs.drop k := DL.cut_from xs k
theorem cut_t {α : Type} (xs : List α) (k : Nat) : cutD xs none (some (k : Int)) = xs.take k := DL.cut_to xs k
theorem cut_f1 {α : Type} (xs : List α) (k : Nat) : cutD xs (some ((k : Int) + 1)) none = xs.drop (k + 1) := DL.cut_from1 xs k
theorem map_drop' {α β : Type} (f : α → β) (xs : List α) (k : Nat) : (xs.map f).drop k = (xs.drop k).map f := List.map_drop.symm
theorem map_take' {α β : Type} (f : α → β) (xs : List α) (k : Nat) : (xs.map f).take k = (xs.take k).map f := List.map_take.symm
theorem map_app' {α β : Type} (f : α → β) (xs ys : List α) : xs.map f ++ ys.map f = (xs ++ ys).map f := List.map_append.symm
theorem len_zip {α : Type} (xs : List α) (i : Nat) : (xs.zipIdx i).length = xs.length := by simp
end DL
local macro_rules | `(tactic| simp_arith [$xs,*]) => `(tactic| simp only [DL.ob_some, DL.om_some, DL.dat_d, DL.lis_l, DL.gt_0, DL.gt_1, DL.gt_2, DL.gt_3, DL.gt_4, DL.gt_5, DL.gt_6, DL.gt_7, DL.gt_b, DL.st_0, DL.st_s, DL.plG_d, DL.plG_n, DL.plainAt_a, DL.varM_a, DL.ownM_a, DL.cM_a, DL.ofL_a, DL.opM_a, DL.unM_a, DL.truM_a, DL.tstM_a, DL.notM_a, DL.cnd_t, DL.cnd_f, DL.andM_a, DL.orM_a, DL.andVM_a, DL.notVM_a, DL.iteM_a, DL.chM_a, DL.nilM_a, DL.consM_a, DL.guard_tt, DL.tupM_a, DL.lstM_a, DL.noM_a, DL.intV_i, DL.someM_a, DL.slM_a, DL.rng1M_a, DL.rng2M_a, DL.zipV_t, DL.zipV_l, DL.zipM_a, DL.seqM_a, DL.callM_a, DL.hereM_a, DL.callRM_a, DL.appM_a, DL.lisV_l, DL.catOwnM_a, DL.nameG_a, DL.nilG_a, DL.consG_a, DL.tupG_a, DL.seqS_a, DL.seqK_nx, DL.seqK_rt, DL.seqK_ct, DL.skipM_a, DL.asgM_a, DL.newM_a, DL.asgLM_a, DL.retM_a, DL.exprM_a, DL.ifM_a, DL.forM_a, DL.frzM_a, DL.runF_a, DL.finF_rt, DL.finF_nx, DL.runR_a, DL.finR_rt, DL.finR_nx, DL.sz_0, DL.sz_1, DL.sz_2, DL.sz_3, DL.sz_4, DL.sz_5, DL.sz_6, DL.sz_7, DL.sz_8, DL.sz_9, DL.sz_10, DL.sz_11, DL.sz_12, DL.sz_13, DL.sz_14, DL.sz_15, DL.sz_16, DL.sz_17, DL.sz_18, DL.sz_19, DL.sz_20, DL.sz_21, DL.sz_22, DL.sz_23, DL.sz_24, DL.sz_25, DL.sz_26, DL.sz_27, DL.sz_28, DL.sz_29, DL.sz_30, DL.nc_0, DL.nc_1, DL.nc_2, DL.nc_3, DL.nc_4, DL.nc_5, DL.nc_6, DL.nc_7, DL.nc_8, DL.nc_9, DL.nc_10, DL.nc_11, DL.nc_12, DL.nc_13, DL.nc_14, DL.nc_15, DL.nc_16, DL.nc_17, DL.nc_18, DL.nc_19, DL.nc_20, DL.nc_21, DL.nc_22, DL.nc_23, DL.nc_24, DL.nc_25, DL.nc_26, DL.nc_27, DL.nc_28, DL.nc_29, DL.nc_30, DL.addD_i, DL.addD_t, DL.addD_l, DL.subD_i, DL.modD_i, DL.fdivD_i, DL.mulD_i, DL.lenD_t, DL.lenD_l, DL.tupleD_t, DL.tupleD_l, DL.listD_t, DL.listD_l, DL.truD_i, DL.truD_b, DL.truD_n, DL.truD_l, DL.truD_t, DL.ixD_t, DL.ixD_l, DL.negD_i, DL.bD_a, DL.ltB_i, DL.leB_i, DL.eqB_i, DL.neB_i, DL.min2D_i, DL.max2D_i, DL.items_t, DL.items_l, DL.intD_b, DL.isNN, DL.slD_t, DL.slD_l, DL.sortD2_l, DL.sortD2_t, DL.p_ge0, DL.p_geS, DL.p_tk0, DL.p_tkS, DL.p_tkN, DL.p_dr0, DL.p_drS, DL.p_drN, DL.p_mpC, DL.p_mpN, DL.p_apC, DL.p_apN, DL.p_lnC, DL.p_lnN, DL.p_rpS, DL.p_rp0, DL.p_alC, DL.p_alN, DL.p_gdS, DL.p_gdN, DL.p_tlS, DL.p_tlN, DL.p_ieC, DL.p_ieN, DL.p_nt, DL.p_nf, DL.p_atb, DL.p_afb, DL.p_abt, DL.p_abf, DL.p_eqS, DL.p_dT, DL.p_dF, DL.p_TA, DL.p_AT, DL.p_TO, DL.p_OT, DL.p_startD, DL.p_startR, DL.forK_nx, DL.forK_ct, DL.forK_rt, DL.yesM_a, DL.it1_a, DL.compM_a, DL.wipeR_c, DL.wipeR_n, DL.restR_c, DL.restR_n, DL.gtD_i, DL.gtD_T, DL.ob_assoc, DL.om_bind, DL.ob_map, DL.om_map, DL.cnd_bind, DL.cnd_map, DL.guard_bind, DL.guard_map, DL.atI_c0, DL.atI_c1, DL.atI_c2, DL.atI_c3, DL.encN_0, DL.encN_1, DL.encN_2, DL.encN_u, DL.revD_t, DL.revD_l, DL.eq_TI, DL.ne_TI, DL.in_I, DL.in_Il, DL.in_T, DL.in_R, DL.notInB_a, DL.seqK_ex, DL.finF_ex, DL.forK_ex, DL.tri_no, DL.trm_no, DL.atI_neg1, Nat.reduceAdd, Nat.reduceSub, Nat.reduceMul, Int.reduceLT, Int.reduceLE, Int.reducePow, Int.reduceNeg, Int.reduceAdd, Int.reduceSub, Int.reduceMul, Int.reduceBEq, Int.reduceBNe, Int.reduceToNat, $xs,*])
namespace DL
open PySem L2 GT
/-! dicts with ints as keys -/
end DL
local macro_rules | `(tactic| simp_arith [$xs,*]) => `(tactic| simp only [DL.ob_some, DL.om_some, DL.dat_d, DL.lis_l, DL.gt_0, DL.gt_1, DL.gt_2, DL.gt_3, DL.gt_4, DL.gt_5, DL.gt_6, DL.gt_7, DL.gt_b, DL.st_0, DL.st_s, DL.plG_d, DL.plG_n, DL.plainAt_a, DL.varM_a, DL.ownM_a, DL.cM_a, DL.ofL_a, DL.opM_a, DL.unM_a, DL.truM_a, DL.tstM_a, DL.notM_a, DL.cnd_t, DL.cnd_f, DL.andM_a, DL.orM_a, DL.andVM_a, DL.notVM_a, DL.iteM_a, DL.chM_a, DL.nilM_a, DL.consM_a, DL.guard_tt, DL.tupM_a, DL.lstM_a, DL.noM_a, DL.intV_i, DL.someM_a, DL.slM_a, DL.rng1M_a, DL.rng2M_a, DL.zipV_t, DL.zipV_l, DL.zipM_a, DL.seqM_a, DL.callM_a, DL.hereM_a, DL.callRM_a, DL.appM_a, DL.lisV_l, DL.catOwnM_a, DL.nameG_a, DL.nilG_a, DL.consG_a, DL.tupG_a, DL.seqS_a, DL.seqK_nx, DL.seqK_rt, DL.seqK_ct, DL.skipM_a, DL.asgM_a, DL.newM_a, DL.asgLM_a, DL.retM_a, DL.exprM_a, DL.ifM_a, DL.forM_a, DL.frzM_a, DL.runF_a, DL.finF_rt, DL.finF_nx, DL.runR_a, DL.finR_rt, DL.finR_nx, DL.sz_0, DL.sz_1, DL.sz_2, DL.sz_3, DL.sz_4, DL.sz_5, DL.sz_6, DL.sz_7, DL.sz_8, DL.sz_9, DL.sz_10, DL.sz_11, DL.sz_12, DL.sz_13, DL.sz_14, DL.sz_15, DL.sz_16, DL.sz_17, DL.sz_18, DL.sz_19, DL.sz_20, DL.sz_21, DL.sz_22, DL.sz_23, DL.sz_24, DL.sz_25, DL.sz_26, DL.sz_27, DL.sz_28, DL.sz_29, DL.sz_30, DL.nc_0, DL.nc_1, DL.nc_2, DL.nc_3, DL.nc_4, DL.nc_5, DL.nc_6, DL.nc_7, DL.nc_8, DL.nc_9, DL.nc_10, DL.nc_11, DL.nc_12, DL.nc_13, DL.nc_14, DL.nc_15, DL.nc_16, DL.nc_17, DL.nc_18, DL.nc_19, DL.nc_20, DL.nc_21, DL.nc_22, DL.nc_23, DL.nc_24, DL.nc_25, DL.nc_26, DL.nc_27, DL.nc_28, DL.nc_29, DL.nc_30, DL.addD_i, DL.addD_t, DL.addD_l, DL.subD_i, DL.modD_i, DL.fdivD_i, DL.mulD_i, DL.lenD_t, DL.lenD_l, DL.tupleD_t, DL.tupleD_l, DL.listD_t, DL.listD_l, DL.truD_i, DL.truD_b, DL.truD_n, DL.truD_l, DL.truD_t, DL.ixD_t, DL.ixD_l, DL.negD_i, DL.bD_a, DL.ltB_i, DL.leB_i, DL.eqB_i, DL.neB_i, DL.min2D_i, DL.max2D_i, DL.items_t, DL.items_l, DL.intD_b, DL.isNN, DL.slD_t, DL.slD_l, DL.sortD2_l, DL.sortD2_t, DL.p_ge0, DL.p_geS, DL.p_tk0, DL.p_tkS, DL.p_tkN, DL.p_dr0, DL.p_drS, DL.p_drN, DL.p_mpC, DL.p_mpN, DL.p_apC, DL.p_apN, DL.p_lnC, DL.p_lnN, DL.p_rpS, DL.p_rp0, DL.p_alC, DL.p_alN, DL.p_gdS, DL.p_gdN, DL.p_tlS, DL.p_tlN, DL.p_ieC, DL.p_ieN, DL.p_nt, DL.p_nf, DL.p_atb, DL.p_afb, DL.p_abt, DL.p_abf, DL.p_eqS, DL.p_dT, DL.p_dF, DL.p_TA, DL.p_AT, DL.p_TO, DL.p_OT, DL.p_startD, DL.p_startR, DL.forK_nx, DL.forK_ct, DL.forK_rt, DL.yesM_a, DL.it1_a, DL.compM_a, DL.wipeR_c, DL.wipeR_n, DL.restR_c, DL.restR_n, DL.gtD_i, DL.gtD_T, DL.ob_assoc, DL.om_bind, DL.ob_map, DL.om_map, DL.cnd_bind, DL.cnd_map, DL.guard_bind, DL.guard_map, DL.atI_c0, DL.atI_c1, DL.atI_c2, DL.atI_c3, DL.encN_0, DL.encN_1, DL.encN_2, DL.encN_u, DL.revD_t, DL.revD_l, DL.eq_TI, DL.ne_TI, DL.in_I, DL.in_Il, DL.in_T, DL.in_R, DL.notInB_a, DL.seqK_ex, DL.finF_ex, DL.forK_ex, DL.tri_no, DL.trm_no, DL.atI_neg1, Nat.reduceAdd, Nat.reduceSub, Nat.reduceMul, Int.reduceLT, Int.reduceLE, Int.reducePow, Int.reduceNeg, Int.reduceAdd, Int.reduceSub, Int.reduceMul, Int.reduceBEq, Int.reduceBNe, Int.reduceToNat, $xs,*])
open PySem L2 GT
namespace PG
open PySem L2 DL GT
theorem route_lk {N : Net} (w : N.WF) {r : List Int} (m : r ∈ routes N) : linked N r = true ∧ r.length ≤ 7 := by
  have h := (mem_routes w).mp m
  have := nodup_len_le r (ir N.n) h.nd fun x mx => mem_ir.mpr (linked_in w h.two h.lk x mx)
  rw [ir_len] at this
  have := w.small
  exact ⟨h.lk, by omega⟩
end PG
namespace GT
/-- nothing together -/
def disj (a b : List Int) : Bool := !(b.any fun x => decide (x ∈ a))
/-- a choice of rows, no two with something together -/
abbrev Apart (s : List (List Int)) : Prop := s.Pairwise fun a b => disj a b = true
end GT
namespace PG
open PySem L2 DL GT
end PG
local macro_rules | `(tactic| simp_arith [$xs,*]) => `(tactic| simp only [DL.ob_some, DL.om_some, DL.dat_d, DL.lis_l, DL.gt_0, DL.gt_1, DL.gt_2, DL.gt_3, DL.gt_4, DL.gt_5, DL.gt_6, DL.gt_7, DL.gt_b, DL.st_0, DL.st_s, DL.plG_d, DL.plG_n, DL.plainAt_a, DL.varM_a, DL.ownM_a, DL.cM_a, DL.ofL_a, DL.opM_a, DL.unM_a, DL.truM_a, DL.tstM_a, DL.notM_a, DL.cnd_t, DL.cnd_f, DL.andM_a, DL.orM_a, DL.andVM_a, DL.notVM_a, DL.iteM_a, DL.chM_a, DL.nilM_a, DL.consM_a, DL.guard_tt, DL.tupM_a, DL.lstM_a, DL.noM_a, DL.intV_i, DL.someM_a, DL.slM_a, DL.rng1M_a, DL.rng2M_a, DL.zipV_t, DL.zipV_l, DL.zipM_a, DL.seqM_a, DL.callM_a, DL.hereM_a, DL.callRM_a, DL.appM_a, DL.lisV_l, DL.catOwnM_a, DL.nameG_a, DL.nilG_a, DL.consG_a, DL.tupG_a, DL.seqS_a, DL.seqK_nx, DL.seqK_rt, DL.seqK_ct, DL.skipM_a, DL.asgM_a, DL.newM_a, DL.asgLM_a, DL.retM_a, DL.exprM_a, DL.ifM_a, DL.forM_a, DL.frzM_a, DL.runF_a, DL.finF_rt, DL.finF_nx, DL.runR_a, DL.finR_rt, DL.finR_nx, DL.sz_0, DL.sz_1, DL.sz_2, DL.sz_3, DL.sz_4, DL.sz_5, DL.sz_6, DL.sz_7, DL.sz_8, DL.sz_9, DL.sz_10, DL.sz_11, DL.sz_12, DL.sz_13, DL.sz_14, DL.sz_15, DL.sz_16, DL.sz_17, DL.sz_18, DL.sz_19, DL.sz_20, DL.sz_21, DL.sz_22, DL.sz_23, DL.sz_24, DL.sz_25, DL.sz_26, DL.sz_27, DL.sz_28, DL.sz_29, DL.sz_30, DL.nc_0, DL.nc_1, DL.nc_2, DL.nc_3, DL.nc_4, DL.nc_5, DL.nc_6, DL.nc_7, DL.nc_8, DL.nc_9, DL.nc_10, DL.nc_11, DL.nc_12, DL.nc_13, DL.nc_14, DL.nc_15, DL.nc_16, DL.nc_17, DL.nc_18, DL.nc_19, DL.nc_20, DL.nc_21, DL.nc_22, DL.nc_23, DL.nc_24, DL.nc_25, DL.nc_26, DL.nc_27, DL.nc_28, DL.nc_29, DL.nc_30, DL.addD_i, DL.addD_t, DL.addD_l, DL.subD_i, DL.modD_i, DL.fdivD_i, DL.mulD_i, DL.lenD_t, DL.lenD_l, DL.tupleD_t, DL.tupleD_l, DL.listD_t, DL.listD_l, DL.truD_i, DL.truD_b, DL.truD_n, DL.truD_l, DL.truD_t, DL.ixD_t, DL.ixD_l, DL.negD_i, DL.bD_a, DL.ltB_i, DL.leB_i, DL.eqB_i, DL.neB_i, DL.min2D_i, DL.max2D_i, DL.items_t, DL.items_l, DL.intD_b, DL.isNN, DL.slD_t, DL.slD_l, DL.sortD2_l, DL.sortD2_t, DL.p_ge0, DL.p_geS, DL.p_tk0, DL.p_tkS, DL.p_tkN, DL.p_dr0, DL.p_drS, DL.p_drN, DL.p_mpC, DL.p_mpN, DL.p_apC, DL.p_apN, DL.p_lnC, DL.p_lnN, DL.p_rpS, DL.p_rp0, DL.p_alC, DL.p_alN, DL.p_gdS, DL.p_gdN, DL.p_tlS, DL.p_tlN, DL.p_ieC, DL.p_ieN, DL.p_nt, DL.p_nf, DL.p_atb, DL.p_afb, DL.p_abt, DL.p_abf, DL.p_eqS, DL.p_dT, DL.p_dF, DL.p_TA, DL.p_AT, DL.p_TO, DL.p_OT, DL.p_startD, DL.p_startR, DL.forK_nx, DL.forK_ct, DL.forK_rt, DL.yesM_a, DL.it1_a, DL.compM_a, DL.wipeR_c, DL.wipeR_n, DL.restR_c, DL.restR_n, DL.gtD_i, DL.gtD_T, DL.ob_assoc, DL.om_bind, DL.ob_map, DL.om_map, DL.cnd_bind, DL.cnd_map, DL.guard_bind, DL.guard_map, DL.atI_c0, DL.atI_c1, DL.atI_c2, DL.atI_c3, DL.encN_0, DL.encN_1, DL.encN_2, DL.encN_u, DL.revD_t, DL.revD_l, DL.eq_TI, DL.ne_TI, DL.in_I, DL.in_Il, DL.in_T, DL.in_R, DL.notInB_a, DL.seqK_ex, DL.finF_ex, DL.forK_ex, DL.tri_no, DL.trm_no, DL.atI_neg1, DL.kn_k, DL.intOf_i, DL.putKM_a, DL.newKM_a, DL.lenKM_a, DL.sortKM_a, DL.whileK_nx, Nat.reduceAdd, Nat.reduceSub, Nat.reduceMul, Int.reduceLT, Int.reduceLE, Int.reducePow, Int.reduceNeg, Int.reduceAdd, Int.reduceSub, Int.reduceMul, Int.reduceBEq, Int.reduceBNe, Int.reduceToNat, $xs,*])
namespace PG
open PySem L2 DL GT
structure RInv (L : Net) (k : Int) (ks td : List Int) : Prop where
  nd : ks.Nodup
  tnd : td.Nodup
  at_ : k ∈ ks
  sub : ∀ x ∈ td, x ∈ ks
  sound : ∀ x ∈ ks, Reach L k x
  closed : ∀ b ∈ ks, b ∉ td → ∀ c, adj L b c = true → c ∈ ks
theorem RInv.few {L : Net} (w : L.WF) {k : Int} (hk : 0 ≤ k ∧ k < L.n) {ks td : List Int} (h : RInv L k ks td) : ks.length ≤ L.n := by
  have := nodup_len_le ks (ir L.n) h.nd fun x m => mem_ir.mpr ((h.sound x m).inn w hk)
  rwa [ir_len] at this
theorem RInv.step {L : Net} (w : L.WF) {k b : Int} {ks td new : List Int} (h : RInv L k ks (td ++ [b])) (hn : ∀ x, x ∈ new ↔ x ∈ nb L b ∧ x ∉ ks) (nn : new.Nodup) : RInv L k (ks ++ new) (td ++ new) where
  nd := List.nodup_append.mpr ⟨h.nd, nn, fun x m y my e => ((hn y).mp my).2 (e ▸ m)⟩
  tnd := List.nodup_append.mpr ⟨(List.nodup_append.mp h.tnd).1, nn, fun x m y my e => ((hn y).mp my).2 (e ▸ h.sub x (List.mem_append_left _ m))⟩
  at_ := List.mem_append_left _ h.at_
  sub := fun x m => by
    rcases List.mem_append.mp m with m | m
    · exact List.mem_append_left _ (h.sub x (List.mem_append_left _ m))
    · exact List.mem_append_right _ m
  sound := fun x m => by
    rcases List.mem_append.mp m with m | m
    · exact h.sound x m
    · exact (h.sound b (h.sub b (by simp))).step ((mem_nb (w := w)).mp ((hn x).mp m).1)
  closed := fun x m no c ha => by
    have no1 : x ∉ td := fun z => no (List.mem_append_left _ z)
    have no2 : x ∉ new := fun z => no (List.mem_append_right _ z)
    have mk : x ∈ ks := (List.mem_append.mp m).resolve_right no2
    by_cases e : x = b
    · subst e
      by_cases q : c ∈ ks
      · exact List.mem_append_left _ q
      · exact List.mem_append_right _ ((hn c).mpr ⟨(mem_nb (w := w)).mpr ha, q⟩)
    · exact List.mem_append_left _ (h.closed x mk (by simp [no1, e]) c ha)
end PG
namespace GT
structure HInv (L : Net) (k : Int) (got : List Int) : Prop where
  nd : got.Nodup
  at_ : k ∈ got
  sound : ∀ x ∈ got, Reach L k x
theorem HInv.few {L : Net} (w : L.WF) {k : Int} (hk : 0 ≤ k ∧ k < L.n) {got : List Int} (h : HInv L k got) : got.length ≤ L.n := by
  have := nodup_len_le got (ir L.n) h.nd fun x m => mem_ir.mpr ((h.sound x m).inn w hk)
  rwa [ir_len] at this
end GT
namespace DL
open PySem L2 GT
end DL
local macro_rules | `(tactic| simp_arith [$xs,*]) => `(tactic| simp only [DL.ob_some, DL.om_some, DL.dat_d, DL.lis_l, DL.gt_0, DL.gt_1, DL.gt_2, DL.gt_3, DL.gt_4, DL.gt_5, DL.gt_6, DL.gt_7, DL.gt_b, DL.st_0, DL.st_s, DL.plG_d, DL.plG_n, DL.plainAt_a, DL.varM_a, DL.ownM_a, DL.cM_a, DL.ofL_a, DL.opM_a, DL.unM_a, DL.truM_a, DL.tstM_a, DL.notM_a, DL.cnd_t, DL.cnd_f, DL.andM_a, DL.orM_a, DL.andVM_a, DL.notVM_a, DL.iteM_a, DL.chM_a, DL.nilM_a, DL.consM_a, DL.guard_tt, DL.tupM_a, DL.lstM_a, DL.noM_a, DL.intV_i, DL.someM_a, DL.slM_a, DL.rng1M_a, DL.rng2M_a, DL.zipV_t, DL.zipV_l, DL.zipM_a, DL.seqM_a, DL.callM_a, DL.hereM_a, DL.callRM_a, DL.appM_a, DL.lisV_l, DL.catOwnM_a, DL.nameG_a, DL.nilG_a, DL.consG_a, DL.tupG_a, DL.seqS_a, DL.seqK_nx, DL.seqK_rt, DL.seqK_ct, DL.skipM_a, DL.asgM_a, DL.newM_a, DL.asgLM_a, DL.retM_a, DL.exprM_a, DL.ifM_a, DL.forM_a, DL.frzM_a, DL.runF_a, DL.finF_rt, DL.finF_nx, DL.runR_a, DL.finR_rt, DL.finR_nx, DL.sz_0, DL.sz_1, DL.sz_2, DL.sz_3, DL.sz_4, DL.sz_5, DL.sz_6, DL.sz_7, DL.sz_8, DL.sz_9, DL.sz_10, DL.sz_11, DL.sz_12, DL.sz_13, DL.sz_14, DL.sz_15, DL.sz_16, DL.sz_17, DL.sz_18, DL.sz_19, DL.sz_20, DL.sz_21, DL.sz_22, DL.sz_23, DL.sz_24, DL.sz_25, DL.sz_26, DL.sz_27, DL.sz_28, DL.sz_29, DL.sz_30, DL.nc_0, DL.nc_1, DL.nc_2, DL.nc_3, DL.nc_4, DL.nc_5, DL.nc_6, DL.nc_7, DL.nc_8, DL.nc_9, DL.nc_10, DL.nc_11, DL.nc_12, DL.nc_13, DL.nc_14, DL.nc_15, DL.nc_16, DL.nc_17, DL.nc_18, DL.nc_19, DL.nc_20, DL.nc_21, DL.nc_22, DL.nc_23, DL.nc_24, DL.nc_25, DL.nc_26, DL.nc_27, DL.nc_28, DL.nc_29, DL.nc_30, DL.addD_i, DL.addD_t, DL.addD_l, DL.subD_i, DL.modD_i, DL.fdivD_i, DL.mulD_i, DL.lenD_t, DL.lenD_l, DL.tupleD_t, DL.tupleD_l, DL.listD_t, DL.listD_l, DL.truD_i, DL.truD_b, DL.truD_n, DL.truD_l, DL.truD_t, DL.ixD_t, DL.ixD_l, DL.negD_i, DL.bD_a, DL.ltB_i, DL.leB_i, DL.eqB_i, DL.neB_i, DL.min2D_i, DL.max2D_i, DL.items_t, DL.items_l, DL.intD_b, DL.isNN, DL.slD_t, DL.slD_l, DL.sortD2_l, DL.sortD2_t, DL.p_ge0, DL.p_geS, DL.p_tk0, DL.p_tkS, DL.p_tkN, DL.p_dr0, DL.p_drS, DL.p_drN, DL.p_mpC, DL.p_mpN, DL.p_apC, DL.p_apN, DL.p_lnC, DL.p_lnN, DL.p_rpS, DL.p_rp0, DL.p_alC, DL.p_alN, DL.p_gdS, DL.p_gdN, DL.p_tlS, DL.p_tlN, DL.p_ieC, DL.p_ieN, DL.p_nt, DL.p_nf, DL.p_atb, DL.p_afb, DL.p_abt, DL.p_abf, DL.p_eqS, DL.p_dT, DL.p_dF, DL.p_TA, DL.p_AT, DL.p_TO, DL.p_OT, DL.p_startD, DL.p_startR, DL.forK_nx, DL.forK_ct, DL.forK_rt, DL.yesM_a, DL.it1_a, DL.compM_a, DL.wipeR_c, DL.wipeR_n, DL.restR_c, DL.restR_n, DL.gtD_i, DL.gtD_T, DL.ob_assoc, DL.om_bind, DL.ob_map, DL.om_map, DL.cnd_bind, DL.cnd_map, DL.guard_bind, DL.guard_map, DL.atI_c0, DL.atI_c1, DL.atI_c2, DL.atI_c3, DL.encN_0, DL.encN_1, DL.encN_2, DL.encN_u, DL.revD_t, DL.revD_l, DL.eq_TI, DL.ne_TI, DL.in_I, DL.in_Il, DL.in_T, DL.in_R, DL.notInB_a, DL.seqK_ex, DL.finF_ex, DL.forK_ex, DL.tri_no, DL.trm_no, DL.atI_neg1, DL.kn_k, DL.intOf_i, DL.putKM_a, DL.newKM_a, DL.lenKM_a, DL.sortKM_a, DL.whileK_nx, Nat.reduceAdd, Nat.reduceSub, Nat.reduceMul, Int.reduceLT, Int.reduceLE, Int.reducePow, Int.reduceNeg, Int.reduceAdd, Int.reduceSub, Int.reduceMul, Int.reduceBEq, Int.reduceBNe, Int.reduceToNat, $xs,*])
open PySem L2 GT
namespace FA
open PySem L2 DL GT PG
end FA
namespace PG
open PySem L2 DL GT
theorem cut_from {α : Type} (xs : List α) (k : Nat) : cutD xs (some (k : Int)) none = xs.drop k := by
  unfold cutD
  rw [HT.sIx_none, HT.sIx_nat]
  rcases Nat.le_total k xs.length with h | h
  · rw [Nat.min_eq_left h, List.take_of_length_le (by simp)]
  · rw [Nat.min_eq_right h, List.drop_of_length_le h]
    simp
noncomputable def parts (N : Net) (p : Tie × Nat) : Bool := !decide (p.1.2 ∈ GT.reached (GT.without N [(p.2 : Int)]) p.1.1)
end PG
local macro_rules | `(tactic| simp_arith [$xs,*]) => `(tactic| simp (maxSteps := 2000000) (disch := omega) only [DL.ob_some, DL.om_some, DL.dat_d, DL.lis_l, DL.gt_0, DL.gt_1, DL.gt_2, DL.gt_3, DL.gt_4, DL.gt_5, DL.gt_6, DL.gt_7, DL.gt_b, DL.st_0, DL.st_s, DL.plG_d, DL.plG_n, DL.plainAt_a, DL.varM_a, DL.ownM_a, DL.cM_a, DL.ofL_a, DL.opM_a, DL.unM_a, DL.truM_a, DL.tstM_a, DL.notM_a, DL.cnd_t, DL.cnd_f, DL.andM_a, DL.orM_a, DL.andVM_a, DL.notVM_a, DL.iteM_a, DL.chM_a, DL.nilM_a, DL.consM_a, DL.guard_tt, DL.tupM_a, DL.lstM_a, DL.noM_a, DL.intV_i, DL.someM_a, DL.slM_a, DL.rng1M_a, DL.rng2M_a, DL.zipV_t, DL.zipV_l, DL.zipM_a, DL.seqM_a, DL.callM_a, DL.hereM_a, DL.callRM_a, DL.appM_a, DL.lisV_l, DL.catOwnM_a, DL.nameG_a, DL.nilG_a, DL.consG_a, DL.tupG_a, DL.seqS_a, DL.seqK_nx, DL.seqK_rt, DL.seqK_ct, DL.skipM_a, DL.asgM_a, DL.newM_a, DL.asgLM_a, DL.retM_a, DL.exprM_a, DL.ifM_a, DL.forM_a, DL.frzM_a, DL.runF_a, DL.finF_rt, DL.finF_nx, DL.runR_a, DL.finR_rt, DL.finR_nx, DL.sz_0, DL.sz_1, DL.sz_2, DL.sz_3, DL.sz_4, DL.sz_5, DL.sz_6, DL.sz_7, DL.sz_8, DL.sz_9, DL.sz_10, DL.sz_11, DL.sz_12, DL.sz_13, DL.sz_14, DL.sz_15, DL.sz_16, DL.sz_17, DL.sz_18, DL.sz_19, DL.sz_20, DL.sz_21, DL.sz_22, DL.sz_23, DL.sz_24, DL.sz_25, DL.sz_26, DL.sz_27, DL.sz_28, DL.sz_29, DL.sz_30, DL.nc_0, DL.nc_1, DL.nc_2, DL.nc_3, DL.nc_4, DL.nc_5, DL.nc_6, DL.nc_7, DL.nc_8, DL.nc_9, DL.nc_10, DL.nc_11, DL.nc_12, DL.nc_13, DL.nc_14, DL.nc_15, DL.nc_16, DL.nc_17, DL.nc_18, DL.nc_19, DL.nc_20, DL.nc_21, DL.nc_22, DL.nc_23, DL.nc_24, DL.nc_25, DL.nc_26, DL.nc_27, DL.nc_28, DL.nc_29, DL.nc_30, DL.addD_i, DL.addD_t, DL.addD_l, DL.subD_i, DL.modD_i, DL.fdivD_i, DL.mulD_i, DL.lenD_t, DL.lenD_l, DL.tupleD_t, DL.tupleD_l, DL.listD_t, DL.listD_l, DL.truD_i, DL.truD_b, DL.truD_n, DL.truD_l, DL.truD_t, DL.ixD_t, DL.ixD_l, DL.negD_i, DL.bD_a, DL.ltB_i, DL.leB_i, DL.eqB_i, DL.neB_i, DL.min2D_i, DL.max2D_i, DL.items_t, DL.items_l, DL.intD_b, DL.isNN, DL.slD_t, DL.slD_l, DL.sortD2_l, DL.sortD2_t, DL.p_ge0, DL.p_geS, DL.p_tk0, DL.p_tkS, DL.p_tkN, DL.p_dr0, DL.p_drS, DL.p_drN, DL.p_mpC, DL.p_mpN, DL.p_apC, DL.p_apN, DL.p_lnC, DL.p_lnN, DL.p_rpS, DL.p_rp0, DL.p_alC, DL.p_alN, DL.p_gdS, DL.p_gdN, DL.p_tlS, DL.p_tlN, DL.p_ieC, DL.p_ieN, DL.p_nt, DL.p_nf, DL.p_atb, DL.p_afb, DL.p_abt, DL.p_abf, DL.p_eqS, DL.p_dT, DL.p_dF, DL.p_TA, DL.p_AT, DL.p_TO, DL.p_OT, DL.p_startD, DL.p_startR, DL.forK_nx, DL.forK_ct, DL.forK_rt, DL.yesM_a, DL.it1_a, DL.compM_a, DL.wipeR_c, DL.wipeR_n, DL.restR_c, DL.restR_n, DL.gtD_i, DL.gtD_T, DL.ob_assoc, DL.om_bind, DL.ob_map, DL.om_map, DL.cnd_bind, DL.cnd_map, DL.guard_bind, DL.guard_map, DL.atI_c0, DL.atI_c1, DL.atI_c2, DL.atI_c3, DL.encN_0, DL.encN_1, DL.encN_2, DL.encN_u, DL.revD_t, DL.revD_l, DL.eq_TI, DL.ne_TI, DL.in_I, DL.in_Il, DL.in_T, DL.in_R, DL.notInB_a, DL.seqK_ex, DL.finF_ex, DL.forK_ex, DL.tri_no, DL.trm_no, DL.atI_neg1, DL.wipO_nx, DL.wipO_ct, DL.wipO_bk, DL.wipO_rt, DL.wipO_ex, DL.wipM_a, DL.preM_a, DL.two_a, DL.finR_ex, DL.len_map, DL.len_app, DL.len_ir, DL.len_rev, DL.sz_c, DL.rng_c, DL.rngL_n, DL.forM_a', DL.rev_map, DL.seqK_bk, DL.forK_bk, DL.emp_map, DL.eq_LI, DL.ne_LI, DL.eq_LI0, DL.ne_LI0, DL.eq_LT, DL.ne_LT, DL.eq_LR, DL.ne_LR, DL.eq_TR, DL.ne_TR, DL.eq_B, DL.ne_B, DL.wp_mapE, DL.map_id_int, DL.cut_f, DL.cut_t, DL.cut_f1, DL.map_drop', DL.map_take', DL.map_app', DL.len_zip, DL.kn_k, DL.intOf_i, DL.putKM_a, DL.newKM_a, DL.lenKM_a, DL.sortKM_a, DL.whileK_nx, Nat.reduceAdd, Nat.reduceSub, Nat.reduceMul, Int.reduceLT, Int.reduceLE, Int.reducePow, Int.reduceNeg, Int.reduceAdd, Int.reduceSub, Int.reduceMul, Int.reduceBEq, Int.reduceBNe, Int.reduceToNat, $xs,*])
namespace RX
open PySem L2 DL GT PG
/-! plain: nets without ties -/
/-! a drawn net is one -/
end RX
namespace PG
open PySem L2 DL GT RX
/-! what probes show -/
theorem allD_map' {α : Type} (p : α → Bool) (xs : List α) : allD (.list (xs.map fun x => .bool (p x))) = some (.bool (xs.all p)) := allD_map p xs
end PG
local macro_rules | `(tactic| simp_arith [$xs,*]) => `(tactic| simp (maxSteps := 2000000) (disch := omega) only [DL.ob_some, DL.om_some, DL.dat_d, DL.lis_l, DL.gt_0, DL.gt_1, DL.gt_2, DL.gt_3, DL.gt_4, DL.gt_5, DL.gt_6, DL.gt_7, DL.gt_b, DL.st_0, DL.st_s, DL.plG_d, DL.plG_n, DL.plainAt_a, DL.varM_a, DL.ownM_a, DL.cM_a, DL.ofL_a, DL.opM_a, DL.unM_a, DL.truM_a, DL.tstM_a, DL.notM_a, DL.cnd_t, DL.cnd_f, DL.andM_a, DL.orM_a, DL.andVM_a, DL.notVM_a, DL.iteM_a, DL.chM_a, DL.nilM_a, DL.consM_a, DL.guard_tt, DL.tupM_a, DL.lstM_a, DL.noM_a, DL.intV_i, DL.someM_a, DL.slM_a, DL.rng1M_a, DL.rng2M_a, DL.zipV_t, DL.zipV_l, DL.zipM_a, DL.seqM_a, DL.callM_a, DL.hereM_a, DL.callRM_a, DL.appM_a, DL.lisV_l, DL.catOwnM_a, DL.nameG_a, DL.nilG_a, DL.consG_a, DL.tupG_a, DL.seqS_a, DL.seqK_nx, DL.seqK_rt, DL.seqK_ct, DL.skipM_a, DL.asgM_a, DL.newM_a, DL.asgLM_a, DL.retM_a, DL.exprM_a, DL.ifM_a, DL.forM_a, DL.frzM_a, DL.runF_a, DL.finF_rt, DL.finF_nx, DL.runR_a, DL.finR_rt, DL.finR_nx, DL.sz_0, DL.sz_1, DL.sz_2, DL.sz_3, DL.sz_4, DL.sz_5, DL.sz_6, DL.sz_7, DL.sz_8, DL.sz_9, DL.sz_10, DL.sz_11, DL.sz_12, DL.sz_13, DL.sz_14, DL.sz_15, DL.sz_16, DL.sz_17, DL.sz_18, DL.sz_19, DL.sz_20, DL.sz_21, DL.sz_22, DL.sz_23, DL.sz_24, DL.sz_25, DL.sz_26, DL.sz_27, DL.sz_28, DL.sz_29, DL.sz_30, DL.nc_0, DL.nc_1, DL.nc_2, DL.nc_3, DL.nc_4, DL.nc_5, DL.nc_6, DL.nc_7, DL.nc_8, DL.nc_9, DL.nc_10, DL.nc_11, DL.nc_12, DL.nc_13, DL.nc_14, DL.nc_15, DL.nc_16, DL.nc_17, DL.nc_18, DL.nc_19, DL.nc_20, DL.nc_21, DL.nc_22, DL.nc_23, DL.nc_24, DL.nc_25, DL.nc_26, DL.nc_27, DL.nc_28, DL.nc_29, DL.nc_30, DL.addD_i, DL.addD_t, DL.addD_l, DL.subD_i, DL.modD_i, DL.fdivD_i, DL.mulD_i, DL.lenD_t, DL.lenD_l, DL.tupleD_t, DL.tupleD_l, DL.listD_t, DL.listD_l, DL.truD_i, DL.truD_b, DL.truD_n, DL.truD_l, DL.truD_t, DL.ixD_t, DL.ixD_l, DL.negD_i, DL.bD_a, DL.ltB_i, DL.leB_i, DL.eqB_i, DL.neB_i, DL.min2D_i, DL.max2D_i, DL.items_t, DL.items_l, DL.intD_b, DL.isNN, DL.slD_t, DL.slD_l, DL.sortD2_l, DL.sortD2_t, DL.p_ge0, DL.p_geS, DL.p_tk0, DL.p_tkS, DL.p_tkN, DL.p_dr0, DL.p_drS, DL.p_drN, DL.p_mpC, DL.p_mpN, DL.p_apC, DL.p_apN, DL.p_lnC, DL.p_lnN, DL.p_rpS, DL.p_rp0, DL.p_alC, DL.p_alN, DL.p_gdS, DL.p_gdN, DL.p_tlS, DL.p_tlN, DL.p_ieC, DL.p_ieN, DL.p_nt, DL.p_nf, DL.p_atb, DL.p_afb, DL.p_abt, DL.p_abf, DL.p_eqS, DL.p_dT, DL.p_dF, DL.p_TA, DL.p_AT, DL.p_TO, DL.p_OT, DL.p_startD, DL.p_startR, DL.forK_nx, DL.forK_ct, DL.forK_rt, DL.yesM_a, DL.it1_a, DL.compM_a, DL.wipeR_c, DL.wipeR_n, DL.restR_c, DL.restR_n, DL.gtD_i, DL.gtD_T, DL.ob_assoc, DL.om_bind, DL.ob_map, DL.om_map, DL.cnd_bind, DL.cnd_map, DL.guard_bind, DL.guard_map, DL.atI_c0, DL.atI_c1, DL.atI_c2, DL.atI_c3, DL.encN_0, DL.encN_1, DL.encN_2, DL.encN_u, DL.revD_t, DL.revD_l, DL.eq_TI, DL.ne_TI, DL.in_I, DL.in_Il, DL.in_T, DL.in_R, DL.notInB_a, DL.seqK_ex, DL.finF_ex, DL.forK_ex, DL.tri_no, DL.trm_no, DL.atI_neg1, DL.wipO_nx, DL.wipO_ct, DL.wipO_bk, DL.wipO_rt, DL.wipO_ex, DL.wipM_a, DL.preM_a, DL.two_a, DL.finR_ex, DL.len_map, DL.len_app, DL.len_ir, DL.len_rev, DL.sz_c, DL.rng_c, DL.rngL_n, DL.forM_a', DL.rev_map, DL.seqK_bk, DL.forK_bk, DL.emp_map, DL.eq_LI, DL.ne_LI, DL.eq_LI0, DL.ne_LI0, DL.eq_LT, DL.ne_LT, DL.eq_LR, DL.ne_LR, DL.eq_TR, DL.ne_TR, DL.eq_B, DL.ne_B, DL.wp_mapE, DL.map_id_int, DL.cut_f, DL.cut_t, DL.cut_f1, DL.map_drop', DL.map_take', DL.map_app', DL.len_zip, DL.kn_k, DL.intOf_i, DL.putKM_a, DL.newKM_a, DL.lenKM_a, DL.sortKM_a, DL.whileK_nx, PG.allD_map', Nat.reduceAdd, Nat.reduceSub, Nat.reduceMul, Int.reduceLT, Int.reduceLE, Int.reducePow, Int.reduceNeg, Int.reduceAdd, Int.reduceSub, Int.reduceMul, Int.reduceBEq, Int.reduceBNe, Int.reduceToNat, $xs,*])
namespace PG
open PySem L2 DL GT RX
end PG
local macro_rules | `(tactic| simp_arith [$xs,*]) => `(tactic| simp (maxSteps := 2000000) (disch := omega) only [DL.ob_some, DL.om_some, DL.dat_d, DL.lis_l, DL.gt_0, DL.gt_1, DL.gt_2, DL.gt_3, DL.gt_4, DL.gt_5, DL.gt_6, DL.gt_7, DL.gt_b, DL.st_0, DL.st_s, DL.plG_d, DL.plG_n, DL.plainAt_a, DL.varM_a, DL.ownM_a, DL.cM_a, DL.ofL_a, DL.opM_a, DL.unM_a, DL.truM_a, DL.tstM_a, DL.notM_a, DL.cnd_t, DL.cnd_f, DL.andM_a, DL.orM_a, DL.andVM_a, DL.notVM_a, DL.iteM_a, DL.chM_a, DL.nilM_a, DL.consM_a, DL.guard_tt, DL.tupM_a, DL.lstM_a, DL.noM_a, DL.intV_i, DL.someM_a, DL.slM_a, DL.rng1M_a, DL.rng2M_a, DL.zipV_t, DL.zipV_l, DL.zipM_a, DL.seqM_a, DL.callM_a, DL.hereM_a, DL.callRM_a, DL.appM_a, DL.lisV_l, DL.catOwnM_a, DL.nameG_a, DL.nilG_a, DL.consG_a, DL.tupG_a, DL.seqS_a, DL.seqK_nx, DL.seqK_rt, DL.seqK_ct, DL.skipM_a, DL.asgM_a, DL.newM_a, DL.asgLM_a, DL.retM_a, DL.exprM_a, DL.ifM_a, DL.forM_a, DL.frzM_a, DL.runF_a, DL.finF_rt, DL.finF_nx, DL.runR_a, DL.finR_rt, DL.finR_nx, DL.sz_0, DL.sz_1, DL.sz_2, DL.sz_3, DL.sz_4, DL.sz_5, DL.sz_6, DL.sz_7, DL.sz_8, DL.sz_9, DL.sz_10, DL.sz_11, DL.sz_12, DL.sz_13, DL.sz_14, DL.sz_15, DL.sz_16, DL.sz_17, DL.sz_18, DL.sz_19, DL.sz_20, DL.sz_21, DL.sz_22, DL.sz_23, DL.sz_24, DL.sz_25, DL.sz_26, DL.sz_27, DL.sz_28, DL.sz_29, DL.sz_30, DL.nc_0, DL.nc_1, DL.nc_2, DL.nc_3, DL.nc_4, DL.nc_5, DL.nc_6, DL.nc_7, DL.nc_8, DL.nc_9, DL.nc_10, DL.nc_11, DL.nc_12, DL.nc_13, DL.nc_14, DL.nc_15, DL.nc_16, DL.nc_17, DL.nc_18, DL.nc_19, DL.nc_20, DL.nc_21, DL.nc_22, DL.nc_23, DL.nc_24, DL.nc_25, DL.nc_26, DL.nc_27, DL.nc_28, DL.nc_29, DL.nc_30, DL.addD_i, DL.addD_t, DL.addD_l, DL.subD_i, DL.modD_i, DL.fdivD_i, DL.mulD_i, DL.lenD_t, DL.lenD_l, DL.tupleD_t, DL.tupleD_l, DL.listD_t, DL.listD_l, DL.truD_i, DL.truD_b, DL.truD_n, DL.truD_l, DL.truD_t, DL.ixD_t, DL.ixD_l, DL.negD_i, DL.bD_a, DL.ltB_i, DL.leB_i, DL.eqB_i, DL.neB_i, DL.min2D_i, DL.max2D_i, DL.items_t, DL.items_l, DL.intD_b, DL.isNN, DL.slD_t, DL.slD_l, DL.sortD2_l, DL.sortD2_t, DL.p_ge0, DL.p_geS, DL.p_tk0, DL.p_tkS, DL.p_tkN, DL.p_dr0, DL.p_drS, DL.p_drN, DL.p_mpC, DL.p_mpN, DL.p_apC, DL.p_apN, DL.p_lnC, DL.p_lnN, DL.p_rpS, DL.p_rp0, DL.p_alC, DL.p_alN, DL.p_gdS, DL.p_gdN, DL.p_tlS, DL.p_tlN, DL.p_ieC, DL.p_ieN, DL.p_nt, DL.p_nf, DL.p_atb, DL.p_afb, DL.p_abt, DL.p_abf, DL.p_eqS, DL.p_dT, DL.p_dF, DL.p_TA, DL.p_AT, DL.p_TO, DL.p_OT, DL.p_startD, DL.p_startR, DL.forK_nx, DL.forK_ct, DL.forK_rt, DL.yesM_a, DL.it1_a, DL.compM_a, DL.wipeR_c, DL.wipeR_n, DL.restR_c, DL.restR_n, DL.gtD_i, DL.gtD_T, DL.ob_assoc, DL.om_bind, DL.ob_map, DL.om_map, DL.cnd_bind, DL.cnd_map, DL.guard_bind, DL.guard_map, DL.atI_c0, DL.atI_c1, DL.atI_c2, DL.atI_c3, DL.encN_0, DL.encN_1, DL.encN_2, DL.encN_u, DL.revD_t, DL.revD_l, DL.eq_TI, DL.ne_TI, DL.in_I, DL.in_Il, DL.in_T, DL.in_R, DL.notInB_a, DL.seqK_ex, DL.finF_ex, DL.forK_ex, DL.tri_no, DL.trm_no, DL.atI_neg1, DL.wipO_nx, DL.wipO_ct, DL.wipO_bk, DL.wipO_rt, DL.wipO_ex, DL.wipM_a, DL.preM_a, DL.two_a, DL.finR_ex, DL.len_map, DL.len_app, DL.len_ir, DL.len_rev, DL.sz_c, DL.rng_c, DL.rngL_n, DL.forM_a', DL.rev_map, DL.seqK_bk, DL.forK_bk, DL.emp_map, DL.eq_LI, DL.ne_LI, DL.eq_LI0, DL.ne_LI0, DL.eq_LT, DL.ne_LT, DL.eq_LR, DL.ne_LR, DL.eq_TR, DL.ne_TR, DL.eq_B, DL.ne_B, DL.wp_mapE, DL.map_id_int, DL.cut_f, DL.cut_t, DL.cut_f1, DL.map_drop', DL.map_take', DL.map_app', DL.len_zip, DL.kn_k, DL.intOf_i, DL.putKM_a, DL.newKM_a, DL.lenKM_a, DL.sortKM_a, DL.whileK_nx, PG.allD_map', Nat.reduceAdd, Nat.reduceSub, Nat.reduceMul, Int.reduceLT, Int.reduceLE, Int.reducePow, Int.reduceNeg, Int.reduceAdd, Int.reduceSub, Int.reduceMul, Int.reduceBEq, Int.reduceBNe, Int.reduceToNat, $xs,*])
namespace PG
open PySem L2 DL GT RX
/-! groups -/
end PG
namespace DL
open PySem L2 GT
end DL
local macro_rules | `(tactic| simp_arith [$xs,*]) => `(tactic| simp (maxSteps := 2000000) (disch := omega) only [DL.ob_some, DL.om_some, DL.dat_d, DL.lis_l, DL.gt_0, DL.gt_1, DL.gt_2, DL.gt_3, DL.gt_4, DL.gt_5, DL.gt_6, DL.gt_7, DL.gt_b, DL.st_0, DL.st_s, DL.plG_d, DL.plG_n, DL.plainAt_a, DL.varM_a, DL.ownM_a, DL.cM_a, DL.ofL_a, DL.opM_a, DL.unM_a, DL.truM_a, DL.tstM_a, DL.notM_a, DL.cnd_t, DL.cnd_f, DL.andM_a, DL.orM_a, DL.andVM_a, DL.notVM_a, DL.iteM_a, DL.chM_a, DL.nilM_a, DL.consM_a, DL.guard_tt, DL.tupM_a, DL.lstM_a, DL.noM_a, DL.intV_i, DL.someM_a, DL.slM_a, DL.rng1M_a, DL.rng2M_a, DL.zipV_t, DL.zipV_l, DL.zipM_a, DL.seqM_a, DL.callM_a, DL.hereM_a, DL.callRM_a, DL.appM_a, DL.lisV_l, DL.catOwnM_a, DL.nameG_a, DL.nilG_a, DL.consG_a, DL.tupG_a, DL.seqS_a, DL.seqK_nx, DL.seqK_rt, DL.seqK_ct, DL.skipM_a, DL.asgM_a, DL.newM_a, DL.asgLM_a, DL.retM_a, DL.exprM_a, DL.ifM_a, DL.forM_a, DL.frzM_a, DL.runF_a, DL.finF_rt, DL.finF_nx, DL.runR_a, DL.finR_rt, DL.finR_nx, DL.sz_0, DL.sz_1, DL.sz_2, DL.sz_3, DL.sz_4, DL.sz_5, DL.sz_6, DL.sz_7, DL.sz_8, DL.sz_9, DL.sz_10, DL.sz_11, DL.sz_12, DL.sz_13, DL.sz_14, DL.sz_15, DL.sz_16, DL.sz_17, DL.sz_18, DL.sz_19, DL.sz_20, DL.sz_21, DL.sz_22, DL.sz_23, DL.sz_24, DL.sz_25, DL.sz_26, DL.sz_27, DL.sz_28, DL.sz_29, DL.sz_30, DL.nc_0, DL.nc_1, DL.nc_2, DL.nc_3, DL.nc_4, DL.nc_5, DL.nc_6, DL.nc_7, DL.nc_8, DL.nc_9, DL.nc_10, DL.nc_11, DL.nc_12, DL.nc_13, DL.nc_14, DL.nc_15, DL.nc_16, DL.nc_17, DL.nc_18, DL.nc_19, DL.nc_20, DL.nc_21, DL.nc_22, DL.nc_23, DL.nc_24, DL.nc_25, DL.nc_26, DL.nc_27, DL.nc_28, DL.nc_29, DL.nc_30, DL.addD_i, DL.addD_t, DL.addD_l, DL.subD_i, DL.modD_i, DL.fdivD_i, DL.mulD_i, DL.lenD_t, DL.lenD_l, DL.tupleD_t, DL.tupleD_l, DL.listD_t, DL.listD_l, DL.truD_i, DL.truD_b, DL.truD_n, DL.truD_l, DL.truD_t, DL.ixD_t, DL.ixD_l, DL.negD_i, DL.bD_a, DL.ltB_i, DL.leB_i, DL.eqB_i, DL.neB_i, DL.min2D_i, DL.max2D_i, DL.items_t, DL.items_l, DL.intD_b, DL.isNN, DL.slD_t, DL.slD_l, DL.sortD2_l, DL.sortD2_t, DL.p_ge0, DL.p_geS, DL.p_tk0, DL.p_tkS, DL.p_tkN, DL.p_dr0, DL.p_drS, DL.p_drN, DL.p_mpC, DL.p_mpN, DL.p_apC, DL.p_apN, DL.p_lnC, DL.p_lnN, DL.p_rpS, DL.p_rp0, DL.p_alC, DL.p_alN, DL.p_gdS, DL.p_gdN, DL.p_tlS, DL.p_tlN, DL.p_ieC, DL.p_ieN, DL.p_nt, DL.p_nf, DL.p_atb, DL.p_afb, DL.p_abt, DL.p_abf, DL.p_eqS, DL.p_dT, DL.p_dF, DL.p_TA, DL.p_AT, DL.p_TO, DL.p_OT, DL.p_startD, DL.p_startR, DL.forK_nx, DL.forK_ct, DL.forK_rt, DL.yesM_a, DL.it1_a, DL.compM_a, DL.wipeR_c, DL.wipeR_n, DL.restR_c, DL.restR_n, DL.gtD_i, DL.gtD_T, DL.ob_assoc, DL.om_bind, DL.ob_map, DL.om_map, DL.cnd_bind, DL.cnd_map, DL.guard_bind, DL.guard_map, DL.atI_c0, DL.atI_c1, DL.atI_c2, DL.atI_c3, DL.encN_0, DL.encN_1, DL.encN_2, DL.encN_u, DL.revD_t, DL.revD_l, DL.eq_TI, DL.ne_TI, DL.in_I, DL.in_Il, DL.in_T, DL.in_R, DL.notInB_a, DL.seqK_ex, DL.finF_ex, DL.forK_ex, DL.tri_no, DL.trm_no, DL.atI_neg1, DL.wipO_nx, DL.wipO_ct, DL.wipO_bk, DL.wipO_rt, DL.wipO_ex, DL.wipM_a, DL.preM_a, DL.two_a, DL.finR_ex, DL.len_map, DL.len_app, DL.len_ir, DL.len_rev, DL.sz_c, DL.rng_c, DL.rngL_n, DL.forM_a', DL.rev_map, DL.seqK_bk, DL.forK_bk, DL.emp_map, DL.eq_LI, DL.ne_LI, DL.eq_LI0, DL.ne_LI0, DL.eq_LT, DL.ne_LT, DL.eq_LR, DL.ne_LR, DL.eq_TR, DL.ne_TR, DL.eq_B, DL.ne_B, DL.wp_mapE, DL.map_id_int, DL.cut_f, DL.cut_t, DL.cut_f1, DL.map_drop', DL.map_take', DL.map_app', DL.len_zip, DL.kn_k, DL.intOf_i, DL.putKM_a, DL.newKM_a, DL.lenKM_a, DL.sortKM_a, DL.whileK_nx, PG.allD_map', Nat.reduceAdd, Nat.reduceSub, Nat.reduceMul, Int.reduceLT, Int.reduceLE, Int.reducePow, Int.reduceNeg, Int.reduceAdd, Int.reduceSub, Int.reduceMul, Int.reduceBEq, Int.reduceBNe, Int.reduceToNat, $xs,*])
namespace PG
open PySem L2 DL GT RX
/-! suspects -/
theorem eq_BB (a b : List Bool) : eqB (.tuple (a.map .bool)) (.tuple (b.map .bool)) = some (decide (a = b)) := eq_one (encF_tup encF_bool) (by decide) a b
theorem ne_BB (a b : List Bool) : neB (.tuple (a.map .bool)) (.tuple (b.map .bool)) = some (!decide (a = b)) := ne_one (encF_tup encF_bool) (by decide) a b
end PG
local macro_rules | `(tactic| simp_arith [$xs,*]) => `(tactic| simp (maxSteps := 2000000) (disch := omega) only [DL.ob_some, DL.om_some, DL.dat_d, DL.lis_l, DL.gt_0, DL.gt_1, DL.gt_2, DL.gt_3, DL.gt_4, DL.gt_5, DL.gt_6, DL.gt_7, DL.gt_b, DL.st_0, DL.st_s, DL.plG_d, DL.plG_n, DL.plainAt_a, DL.varM_a, DL.ownM_a, DL.cM_a, DL.ofL_a, DL.opM_a, DL.unM_a, DL.truM_a, DL.tstM_a, DL.notM_a, DL.cnd_t, DL.cnd_f, DL.andM_a, DL.orM_a, DL.andVM_a, DL.notVM_a, DL.iteM_a, DL.chM_a, DL.nilM_a, DL.consM_a, DL.guard_tt, DL.tupM_a, DL.lstM_a, DL.noM_a, DL.intV_i, DL.someM_a, DL.slM_a, DL.rng1M_a, DL.rng2M_a, DL.zipV_t, DL.zipV_l, DL.zipM_a, DL.seqM_a, DL.callM_a, DL.hereM_a, DL.callRM_a, DL.appM_a, DL.lisV_l, DL.catOwnM_a, DL.nameG_a, DL.nilG_a, DL.consG_a, DL.tupG_a, DL.seqS_a, DL.seqK_nx, DL.seqK_rt, DL.seqK_ct, DL.skipM_a, DL.asgM_a, DL.newM_a, DL.asgLM_a, DL.retM_a, DL.exprM_a, DL.ifM_a, DL.forM_a, DL.frzM_a, DL.runF_a, DL.finF_rt, DL.finF_nx, DL.runR_a, DL.finR_rt, DL.finR_nx, DL.sz_0, DL.sz_1, DL.sz_2, DL.sz_3, DL.sz_4, DL.sz_5, DL.sz_6, DL.sz_7, DL.sz_8, DL.sz_9, DL.sz_10, DL.sz_11, DL.sz_12, DL.sz_13, DL.sz_14, DL.sz_15, DL.sz_16, DL.sz_17, DL.sz_18, DL.sz_19, DL.sz_20, DL.sz_21, DL.sz_22, DL.sz_23, DL.sz_24, DL.sz_25, DL.sz_26, DL.sz_27, DL.sz_28, DL.sz_29, DL.sz_30, DL.nc_0, DL.nc_1, DL.nc_2, DL.nc_3, DL.nc_4, DL.nc_5, DL.nc_6, DL.nc_7, DL.nc_8, DL.nc_9, DL.nc_10, DL.nc_11, DL.nc_12, DL.nc_13, DL.nc_14, DL.nc_15, DL.nc_16, DL.nc_17, DL.nc_18, DL.nc_19, DL.nc_20, DL.nc_21, DL.nc_22, DL.nc_23, DL.nc_24, DL.nc_25, DL.nc_26, DL.nc_27, DL.nc_28, DL.nc_29, DL.nc_30, DL.addD_i, DL.addD_t, DL.addD_l, DL.subD_i, DL.modD_i, DL.fdivD_i, DL.mulD_i, DL.lenD_t, DL.lenD_l, DL.tupleD_t, DL.tupleD_l, DL.listD_t, DL.listD_l, DL.truD_i, DL.truD_b, DL.truD_n, DL.truD_l, DL.truD_t, DL.ixD_t, DL.ixD_l, DL.negD_i, DL.bD_a, DL.ltB_i, DL.leB_i, DL.eqB_i, DL.neB_i, DL.min2D_i, DL.max2D_i, DL.items_t, DL.items_l, DL.intD_b, DL.isNN, DL.slD_t, DL.slD_l, DL.sortD2_l, DL.sortD2_t, DL.p_ge0, DL.p_geS, DL.p_tk0, DL.p_tkS, DL.p_tkN, DL.p_dr0, DL.p_drS, DL.p_drN, DL.p_mpC, DL.p_mpN, DL.p_apC, DL.p_apN, DL.p_lnC, DL.p_lnN, DL.p_rpS, DL.p_rp0, DL.p_alC, DL.p_alN, DL.p_gdS, DL.p_gdN, DL.p_tlS, DL.p_tlN, DL.p_ieC, DL.p_ieN, DL.p_nt, DL.p_nf, DL.p_atb, DL.p_afb, DL.p_abt, DL.p_abf, DL.p_eqS, DL.p_dT, DL.p_dF, DL.p_TA, DL.p_AT, DL.p_TO, DL.p_OT, DL.p_startD, DL.p_startR, DL.forK_nx, DL.forK_ct, DL.forK_rt, DL.yesM_a, DL.it1_a, DL.compM_a, DL.wipeR_c, DL.wipeR_n, DL.restR_c, DL.restR_n, DL.gtD_i, DL.gtD_T, DL.ob_assoc, DL.om_bind, DL.ob_map, DL.om_map, DL.cnd_bind, DL.cnd_map, DL.guard_bind, DL.guard_map, DL.atI_c0, DL.atI_c1, DL.atI_c2, DL.atI_c3, DL.encN_0, DL.encN_1, DL.encN_2, DL.encN_u, DL.revD_t, DL.revD_l, DL.eq_TI, DL.ne_TI, DL.in_I, DL.in_Il, DL.in_T, DL.in_R, DL.notInB_a, DL.seqK_ex, DL.finF_ex, DL.forK_ex, DL.tri_no, DL.trm_no, DL.atI_neg1, DL.wipO_nx, DL.wipO_ct, DL.wipO_bk, DL.wipO_rt, DL.wipO_ex, DL.wipM_a, DL.preM_a, DL.two_a, DL.finR_ex, DL.len_map, DL.len_app, DL.len_ir, DL.len_rev, DL.sz_c, DL.rng_c, DL.rngL_n, DL.forM_a', DL.rev_map, DL.seqK_bk, DL.forK_bk, DL.emp_map, DL.eq_LI, DL.ne_LI, DL.eq_LI0, DL.ne_LI0, DL.eq_LT, DL.ne_LT, DL.eq_LR, DL.ne_LR, DL.eq_TR, DL.ne_TR, DL.eq_B, DL.ne_B, DL.wp_mapE, DL.map_id_int, DL.cut_f, DL.cut_t, DL.cut_f1, DL.map_drop', DL.map_take', DL.map_app', DL.len_zip, DL.kn_k, DL.intOf_i, DL.putKM_a, DL.newKM_a, DL.lenKM_a, DL.sortKM_a, DL.whileK_nx, PG.allD_map', PG.eq_BB, PG.ne_BB, Nat.reduceAdd, Nat.reduceSub, Nat.reduceMul, Int.reduceLT, Int.reduceLE, Int.reducePow, Int.reduceNeg, Int.reduceAdd, Int.reduceSub, Int.reduceMul, Int.reduceBEq, Int.reduceBNe, Int.reduceToNat, $xs,*])
namespace PG
open PySem L2 DL GT RX
end PG
namespace DL
open PySem L2 GT
theorem isN_i (i : Int) : isB (.int i) .none = some false := (rfl)
def rg (a b : Int) : List Int := (List.range (b - a).toNat).map fun (i : Nat) => a + (i : Int)
theorem rngL_g1 (a b : Int) : rngL (a + 1) b = (rg (a + 1) b).map .int := rngL_eq (a + 1) b
end DL
local macro_rules | `(tactic| simp_arith [$xs,*]) => `(tactic| simp (maxSteps := 2000000) (disch := omega) only [DL.ob_some, DL.om_some, DL.dat_d, DL.lis_l, DL.gt_0, DL.gt_1, DL.gt_2, DL.gt_3, DL.gt_4, DL.gt_5, DL.gt_6, DL.gt_7, DL.gt_b, DL.st_0, DL.st_s, DL.plG_d, DL.plG_n, DL.plainAt_a, DL.varM_a, DL.ownM_a, DL.cM_a, DL.ofL_a, DL.opM_a, DL.unM_a, DL.truM_a, DL.tstM_a, DL.notM_a, DL.cnd_t, DL.cnd_f, DL.andM_a, DL.orM_a, DL.andVM_a, DL.notVM_a, DL.iteM_a, DL.chM_a, DL.nilM_a, DL.consM_a, DL.guard_tt, DL.tupM_a, DL.lstM_a, DL.noM_a, DL.intV_i, DL.someM_a, DL.slM_a, DL.rng1M_a, DL.rng2M_a, DL.zipV_t, DL.zipV_l, DL.zipM_a, DL.seqM_a, DL.callM_a, DL.hereM_a, DL.callRM_a, DL.appM_a, DL.lisV_l, DL.catOwnM_a, DL.nameG_a, DL.nilG_a, DL.consG_a, DL.tupG_a, DL.seqS_a, DL.seqK_nx, DL.seqK_rt, DL.seqK_ct, DL.skipM_a, DL.asgM_a, DL.newM_a, DL.asgLM_a, DL.retM_a, DL.exprM_a, DL.ifM_a, DL.forM_a, DL.frzM_a, DL.runF_a, DL.finF_rt, DL.finF_nx, DL.runR_a, DL.finR_rt, DL.finR_nx, DL.sz_0, DL.sz_1, DL.sz_2, DL.sz_3, DL.sz_4, DL.sz_5, DL.sz_6, DL.sz_7, DL.sz_8, DL.sz_9, DL.sz_10, DL.sz_11, DL.sz_12, DL.sz_13, DL.sz_14, DL.sz_15, DL.sz_16, DL.sz_17, DL.sz_18, DL.sz_19, DL.sz_20, DL.sz_21, DL.sz_22, DL.sz_23, DL.sz_24, DL.sz_25, DL.sz_26, DL.sz_27, DL.sz_28, DL.sz_29, DL.sz_30, DL.nc_0, DL.nc_1, DL.nc_2, DL.nc_3, DL.nc_4, DL.nc_5, DL.nc_6, DL.nc_7, DL.nc_8, DL.nc_9, DL.nc_10, DL.nc_11, DL.nc_12, DL.nc_13, DL.nc_14, DL.nc_15, DL.nc_16, DL.nc_17, DL.nc_18, DL.nc_19, DL.nc_20, DL.nc_21, DL.nc_22, DL.nc_23, DL.nc_24, DL.nc_25, DL.nc_26, DL.nc_27, DL.nc_28, DL.nc_29, DL.nc_30, DL.addD_i, DL.addD_t, DL.addD_l, DL.subD_i, DL.modD_i, DL.fdivD_i, DL.mulD_i, DL.lenD_t, DL.lenD_l, DL.tupleD_t, DL.tupleD_l, DL.listD_t, DL.listD_l, DL.truD_i, DL.truD_b, DL.truD_n, DL.truD_l, DL.truD_t, DL.ixD_t, DL.ixD_l, DL.negD_i, DL.bD_a, DL.ltB_i, DL.leB_i, DL.eqB_i, DL.neB_i, DL.min2D_i, DL.max2D_i, DL.items_t, DL.items_l, DL.intD_b, DL.isNN, DL.slD_t, DL.slD_l, DL.sortD2_l, DL.sortD2_t, DL.p_ge0, DL.p_geS, DL.p_tk0, DL.p_tkS, DL.p_tkN, DL.p_dr0, DL.p_drS, DL.p_drN, DL.p_mpC, DL.p_mpN, DL.p_apC, DL.p_apN, DL.p_lnC, DL.p_lnN, DL.p_rpS, DL.p_rp0, DL.p_alC, DL.p_alN, DL.p_gdS, DL.p_gdN, DL.p_tlS, DL.p_tlN, DL.p_ieC, DL.p_ieN, DL.p_nt, DL.p_nf, DL.p_atb, DL.p_afb, DL.p_abt, DL.p_abf, DL.p_eqS, DL.p_dT, DL.p_dF, DL.p_TA, DL.p_AT, DL.p_TO, DL.p_OT, DL.p_startD, DL.p_startR, DL.forK_nx, DL.forK_ct, DL.forK_rt, DL.yesM_a, DL.it1_a, DL.compM_a, DL.wipeR_c, DL.wipeR_n, DL.restR_c, DL.restR_n, DL.gtD_i, DL.gtD_T, DL.ob_assoc, DL.om_bind, DL.ob_map, DL.om_map, DL.cnd_bind, DL.cnd_map, DL.guard_bind, DL.guard_map, DL.atI_c0, DL.atI_c1, DL.atI_c2, DL.atI_c3, DL.encN_0, DL.encN_1, DL.encN_2, DL.encN_u, DL.revD_t, DL.revD_l, DL.eq_TI, DL.ne_TI, DL.in_I, DL.in_Il, DL.in_T, DL.in_R, DL.notInB_a, DL.seqK_ex, DL.finF_ex, DL.forK_ex, DL.tri_no, DL.trm_no, DL.atI_neg1, DL.wipO_nx, DL.wipO_ct, DL.wipO_bk, DL.wipO_rt, DL.wipO_ex, DL.wipM_a, DL.preM_a, DL.two_a, DL.finR_ex, DL.len_map, DL.len_app, DL.len_ir, DL.len_rev, DL.sz_c, DL.rng_c, DL.rngL_n, DL.forM_a', DL.rev_map, DL.seqK_bk, DL.forK_bk, DL.emp_map, DL.eq_LI, DL.ne_LI, DL.eq_LI0, DL.ne_LI0, DL.eq_LT, DL.ne_LT, DL.eq_LR, DL.ne_LR, DL.eq_TR, DL.ne_TR, DL.eq_B, DL.ne_B, DL.wp_mapE, DL.map_id_int, DL.cut_f, DL.cut_t, DL.cut_f1, DL.map_drop', DL.map_take', DL.map_app', DL.len_zip, DL.kn_k, DL.intOf_i, DL.putKM_a, DL.newKM_a, DL.lenKM_a, DL.sortKM_a, DL.whileK_nx, PG.allD_map', PG.eq_BB, PG.ne_BB, DL.isN_i, DL.rngL_g1, Nat.reduceAdd, Nat.reduceSub, Nat.reduceMul, Int.reduceLT, Int.reduceLE, Int.reducePow, Int.reduceNeg, Int.reduceAdd, Int.reduceSub, Int.reduceMul, Int.reduceBEq, Int.reduceBNe, Int.reduceToNat, $xs,*])
namespace PG
open PySem L2 DL GT RX
/-! untold pairs -/
end PG
namespace PG
open PySem L2 DL GT RX PySem.W
/-! what one tie shows -/
/-! untold pairs: the order -/
end PG
local macro_rules | `(tactic| simp_arith [$xs,*]) => `(tactic| simp (maxSteps := 2000000) (disch := omega) only [DL.ob_some, DL.om_some, DL.dat_d, DL.lis_l, DL.gt_0, DL.gt_1, DL.gt_2, DL.gt_3, DL.gt_4, DL.gt_5, DL.gt_6, DL.gt_7, DL.gt_b, DL.st_0, DL.st_s, DL.plG_d, DL.plG_n, DL.plainAt_a, DL.varM_a, DL.ownM_a, DL.cM_a, DL.ofL_a, DL.opM_a, DL.unM_a, DL.truM_a, DL.tstM_a, DL.notM_a, DL.cnd_t, DL.cnd_f, DL.andM_a, DL.orM_a, DL.andVM_a, DL.notVM_a, DL.iteM_a, DL.chM_a, DL.nilM_a, DL.consM_a, DL.guard_tt, DL.tupM_a, DL.lstM_a, DL.noM_a, DL.intV_i, DL.someM_a, DL.slM_a, DL.rng1M_a, DL.rng2M_a, DL.zipV_t, DL.zipV_l, DL.zipM_a, DL.seqM_a, DL.callM_a, DL.hereM_a, DL.callRM_a, DL.appM_a, DL.lisV_l, DL.catOwnM_a, DL.nameG_a, DL.nilG_a, DL.consG_a, DL.tupG_a, DL.seqS_a, DL.seqK_nx, DL.seqK_rt, DL.seqK_ct, DL.skipM_a, DL.asgM_a, DL.newM_a, DL.asgLM_a, DL.retM_a, DL.exprM_a, DL.ifM_a, DL.forM_a, DL.frzM_a, DL.runF_a, DL.finF_rt, DL.finF_nx, DL.runR_a, DL.finR_rt, DL.finR_nx, DL.sz_0, DL.sz_1, DL.sz_2, DL.sz_3, DL.sz_4, DL.sz_5, DL.sz_6, DL.sz_7, DL.sz_8, DL.sz_9, DL.sz_10, DL.sz_11, DL.sz_12, DL.sz_13, DL.sz_14, DL.sz_15, DL.sz_16, DL.sz_17, DL.sz_18, DL.sz_19, DL.sz_20, DL.sz_21, DL.sz_22, DL.sz_23, DL.sz_24, DL.sz_25, DL.sz_26, DL.sz_27, DL.sz_28, DL.sz_29, DL.sz_30, DL.nc_0, DL.nc_1, DL.nc_2, DL.nc_3, DL.nc_4, DL.nc_5, DL.nc_6, DL.nc_7, DL.nc_8, DL.nc_9, DL.nc_10, DL.nc_11, DL.nc_12, DL.nc_13, DL.nc_14, DL.nc_15, DL.nc_16, DL.nc_17, DL.nc_18, DL.nc_19, DL.nc_20, DL.nc_21, DL.nc_22, DL.nc_23, DL.nc_24, DL.nc_25, DL.nc_26, DL.nc_27, DL.nc_28, DL.nc_29, DL.nc_30, DL.addD_i, DL.addD_t, DL.addD_l, DL.subD_i, DL.modD_i, DL.fdivD_i, DL.mulD_i, DL.lenD_t, DL.lenD_l, DL.tupleD_t, DL.tupleD_l, DL.listD_t, DL.listD_l, DL.truD_i, DL.truD_b, DL.truD_n, DL.truD_l, DL.truD_t, DL.ixD_t, DL.ixD_l, DL.negD_i, DL.bD_a, DL.ltB_i, DL.leB_i, DL.eqB_i, DL.neB_i, DL.min2D_i, DL.max2D_i, DL.items_t, DL.items_l, DL.intD_b, DL.isNN, DL.slD_t, DL.slD_l, DL.sortD2_l, DL.sortD2_t, DL.p_ge0, DL.p_geS, DL.p_tk0, DL.p_tkS, DL.p_tkN, DL.p_dr0, DL.p_drS, DL.p_drN, DL.p_mpC, DL.p_mpN, DL.p_apC, DL.p_apN, DL.p_lnC, DL.p_lnN, DL.p_rpS, DL.p_rp0, DL.p_alC, DL.p_alN, DL.p_gdS, DL.p_gdN, DL.p_tlS, DL.p_tlN, DL.p_ieC, DL.p_ieN, DL.p_nt, DL.p_nf, DL.p_atb, DL.p_afb, DL.p_abt, DL.p_abf, DL.p_eqS, DL.p_dT, DL.p_dF, DL.p_TA, DL.p_AT, DL.p_TO, DL.p_OT, DL.p_startD, DL.p_startR, DL.forK_nx, DL.forK_ct, DL.forK_rt, DL.yesM_a, DL.it1_a, DL.compM_a, DL.wipeR_c, DL.wipeR_n, DL.restR_c, DL.restR_n, DL.gtD_i, DL.gtD_T, DL.ob_assoc, DL.om_bind, DL.ob_map, DL.om_map, DL.cnd_bind, DL.cnd_map, DL.guard_bind, DL.guard_map, DL.atI_c0, DL.atI_c1, DL.atI_c2, DL.atI_c3, DL.encN_0, DL.encN_1, DL.encN_2, DL.encN_u, DL.revD_t, DL.revD_l, DL.eq_TI, DL.ne_TI, DL.in_I, DL.in_Il, DL.in_T, DL.in_R, DL.notInB_a, DL.seqK_ex, DL.finF_ex, DL.forK_ex, DL.tri_no, DL.trm_no, DL.atI_neg1, DL.wipO_nx, DL.wipO_ct, DL.wipO_bk, DL.wipO_rt, DL.wipO_ex, DL.wipM_a, DL.preM_a, DL.two_a, DL.finR_ex, DL.len_map, DL.len_app, DL.len_ir, DL.len_rev, DL.sz_c, DL.rng_c, DL.rngL_n, DL.forM_a', DL.rev_map, DL.seqK_bk, DL.forK_bk, DL.emp_map, DL.eq_LI, DL.ne_LI, DL.eq_LI0, DL.ne_LI0, DL.eq_LT, DL.ne_LT, DL.eq_LR, DL.ne_LR, DL.eq_TR, DL.ne_TR, DL.eq_B, DL.ne_B, DL.wp_mapE, DL.map_id_int, DL.cut_f, DL.cut_t, DL.cut_f1, DL.map_drop', DL.map_take', DL.map_app', DL.len_zip, DL.kn_k, DL.intOf_i, DL.putKM_a, DL.newKM_a, DL.lenKM_a, DL.sortKM_a, DL.whileK_nx, PG.allD_map', PG.eq_BB, PG.ne_BB, DL.isN_i, DL.rngL_g1, Nat.reduceAdd, Nat.reduceSub, Nat.reduceMul, Int.reduceLT, Int.reduceLE, Int.reducePow, Int.reduceNeg, Int.reduceAdd, Int.reduceSub, Int.reduceMul, Int.reduceBEq, Int.reduceBNe, Int.reduceToNat, $xs,*])
namespace PG
open PySem L2 DL GT RX
/-! probes as a set -/
/-! short -/
end PG
local macro_rules | `(tactic| simp_arith [$xs,*]) => `(tactic| simp (maxSteps := 2000000) (disch := omega) only [DL.ob_some, DL.om_some, DL.dat_d, DL.lis_l, DL.gt_0, DL.gt_1, DL.gt_2, DL.gt_3, DL.gt_4, DL.gt_5, DL.gt_6, DL.gt_7, DL.gt_b, DL.st_0, DL.st_s, DL.plG_d, DL.plG_n, DL.plainAt_a, DL.varM_a, DL.ownM_a, DL.cM_a, DL.ofL_a, DL.opM_a, DL.unM_a, DL.truM_a, DL.tstM_a, DL.notM_a, DL.cnd_t, DL.cnd_f, DL.andM_a, DL.orM_a, DL.andVM_a, DL.notVM_a, DL.iteM_a, DL.chM_a, DL.nilM_a, DL.consM_a, DL.guard_tt, DL.tupM_a, DL.lstM_a, DL.noM_a, DL.intV_i, DL.someM_a, DL.slM_a, DL.rng1M_a, DL.rng2M_a, DL.zipV_t, DL.zipV_l, DL.zipM_a, DL.seqM_a, DL.callM_a, DL.hereM_a, DL.callRM_a, DL.appM_a, DL.lisV_l, DL.catOwnM_a, DL.nameG_a, DL.nilG_a, DL.consG_a, DL.tupG_a, DL.seqS_a, DL.seqK_nx, DL.seqK_rt, DL.seqK_ct, DL.skipM_a, DL.asgM_a, DL.newM_a, DL.asgLM_a, DL.retM_a, DL.exprM_a, DL.ifM_a, DL.forM_a, DL.frzM_a, DL.runF_a, DL.finF_rt, DL.finF_nx, DL.runR_a, DL.finR_rt, DL.finR_nx, DL.sz_0, DL.sz_1, DL.sz_2, DL.sz_3, DL.sz_4, DL.sz_5, DL.sz_6, DL.sz_7, DL.sz_8, DL.sz_9, DL.sz_10, DL.sz_11, DL.sz_12, DL.sz_13, DL.sz_14, DL.sz_15, DL.sz_16, DL.sz_17, DL.sz_18, DL.sz_19, DL.sz_20, DL.sz_21, DL.sz_22, DL.sz_23, DL.sz_24, DL.sz_25, DL.sz_26, DL.sz_27, DL.sz_28, DL.sz_29, DL.sz_30, DL.nc_0, DL.nc_1, DL.nc_2, DL.nc_3, DL.nc_4, DL.nc_5, DL.nc_6, DL.nc_7, DL.nc_8, DL.nc_9, DL.nc_10, DL.nc_11, DL.nc_12, DL.nc_13, DL.nc_14, DL.nc_15, DL.nc_16, DL.nc_17, DL.nc_18, DL.nc_19, DL.nc_20, DL.nc_21, DL.nc_22, DL.nc_23, DL.nc_24, DL.nc_25, DL.nc_26, DL.nc_27, DL.nc_28, DL.nc_29, DL.nc_30, DL.addD_i, DL.addD_t, DL.addD_l, DL.subD_i, DL.modD_i, DL.fdivD_i, DL.mulD_i, DL.lenD_t, DL.lenD_l, DL.tupleD_t, DL.tupleD_l, DL.listD_t, DL.listD_l, DL.truD_i, DL.truD_b, DL.truD_n, DL.truD_l, DL.truD_t, DL.ixD_t, DL.ixD_l, DL.negD_i, DL.bD_a, DL.ltB_i, DL.leB_i, DL.eqB_i, DL.neB_i, DL.min2D_i, DL.max2D_i, DL.items_t, DL.items_l, DL.intD_b, DL.isNN, DL.slD_t, DL.slD_l, DL.sortD2_l, DL.sortD2_t, DL.p_ge0, DL.p_geS, DL.p_tk0, DL.p_tkS, DL.p_tkN, DL.p_dr0, DL.p_drS, DL.p_drN, DL.p_mpC, DL.p_mpN, DL.p_apC, DL.p_apN, DL.p_lnC, DL.p_lnN, DL.p_rpS, DL.p_rp0, DL.p_alC, DL.p_alN, DL.p_gdS, DL.p_gdN, DL.p_tlS, DL.p_tlN, DL.p_ieC, DL.p_ieN, DL.p_nt, DL.p_nf, DL.p_atb, DL.p_afb, DL.p_abt, DL.p_abf, DL.p_eqS, DL.p_dT, DL.p_dF, DL.p_TA, DL.p_AT, DL.p_TO, DL.p_OT, DL.p_startD, DL.p_startR, DL.forK_nx, DL.forK_ct, DL.forK_rt, DL.yesM_a, DL.it1_a, DL.compM_a, DL.wipeR_c, DL.wipeR_n, DL.restR_c, DL.restR_n, DL.gtD_i, DL.gtD_T, DL.ob_assoc, DL.om_bind, DL.ob_map, DL.om_map, DL.cnd_bind, DL.cnd_map, DL.guard_bind, DL.guard_map, DL.atI_c0, DL.atI_c1, DL.atI_c2, DL.atI_c3, DL.encN_0, DL.encN_1, DL.encN_2, DL.encN_u, DL.revD_t, DL.revD_l, DL.eq_TI, DL.ne_TI, DL.in_I, DL.in_Il, DL.in_T, DL.in_R, DL.notInB_a, DL.seqK_ex, DL.finF_ex, DL.forK_ex, DL.tri_no, DL.trm_no, DL.atI_neg1, DL.wipO_nx, DL.wipO_ct, DL.wipO_bk, DL.wipO_rt, DL.wipO_ex, DL.wipM_a, DL.preM_a, DL.two_a, DL.finR_ex, DL.len_map, DL.len_app, DL.len_ir, DL.len_rev, DL.sz_c, DL.rng_c, DL.rngL_n, DL.forM_a', DL.rev_map, DL.seqK_bk, DL.forK_bk, DL.emp_map, DL.eq_LI, DL.ne_LI, DL.eq_LI0, DL.ne_LI0, DL.eq_LT, DL.ne_LT, DL.eq_LR, DL.ne_LR, DL.eq_TR, DL.ne_TR, DL.eq_B, DL.ne_B, DL.wp_mapE, DL.map_id_int, DL.cut_f, DL.cut_t, DL.cut_f1, DL.map_drop', DL.map_take', DL.map_app', DL.len_zip, DL.kn_k, DL.intOf_i, DL.putKM_a, DL.newKM_a, DL.lenKM_a, DL.sortKM_a, DL.whileK_nx, PG.allD_map', PG.eq_BB, PG.ne_BB, DL.isN_i, DL.rngL_g1, Nat.reduceAdd, Nat.reduceSub, Nat.reduceMul, Int.reduceLT, Int.reduceLE, Int.reducePow, Int.reduceNeg, Int.reduceAdd, Int.reduceSub, Int.reduceMul, Int.reduceBEq, Int.reduceBNe, Int.reduceToNat, $xs,*])
namespace PG
open PySem L2 DL GT RX
end PG
namespace PG
open PySem L2 DL GT RX
/-! any thing as a row of whole numbers -/
def intsT : D → Option (List Int)
  | .tuple xs => intsOf xs
  | _ => none
theorem intsT_some {d : D} {r : List Int} (h : intsT d = some r) : d = TI r := by
  unfold intsT at h
  split at h
  · rw [intsOf_some h]
  · cases h
theorem intsT_TI (r : List Int) : intsT (TI r) = some r := intsOf_map r
theorem not_ints : ∀ {xs : List D}, intsOf xs = none → ∃ x ∈ xs, ∀ i, x ≠ .int i
  | [], h => by cases h
  | x :: xs, h => by
    cases x with
    | int i =>
      have h' : (intsOf xs).map (i :: ·) = none := h
      rw [Option.map_eq_none_iff] at h'
      obtain ⟨y, m, hy⟩ := not_ints h'
      exact ⟨y, List.mem_cons_of_mem _ m, hy⟩
    | none => exact ⟨PyData.none, List.mem_cons_self, fun i e => PyData.noConfusion e⟩
    | bool b => exact ⟨(PyData.bool b), List.mem_cons_self, fun i e => PyData.noConfusion e⟩
    | str s => exact ⟨(PyData.str s), List.mem_cons_self, fun i e => PyData.noConfusion e⟩
    | list l => exact ⟨(PyData.list l), List.mem_cons_self, fun i e => PyData.noConfusion e⟩
    | tuple l => exact ⟨(PyData.tuple l), List.mem_cons_self, fun i e => PyData.noConfusion e⟩
    | dict l => exact ⟨(PyData.dict l), List.mem_cons_self, fun i e => PyData.noConfusion e⟩
theorem whole_no {d : D} (h : ∀ i, d ≠ .int i) (a b : Int) : wholeD d a b = false := by
  cases d with
  | int i => exact absurd rfl (h i)
  | _ => rfl
theorem all_no {xs : List D} (h : intsOf xs = none) (a b : Int) : xs.all (wholeD · a b) = false := by
  obtain ⟨x, m, hx⟩ := not_ints h
  rw [List.all_eq_false]
  exact ⟨x, m, by simp [whole_no hx]⟩
def routeD (N : Net) (d : D) : Bool := match intsT d with
  | some r => isRouteB N r
  | none => false
theorem routeD_TI (N : Net) (r : List Int) : routeD N (TI r) = isRouteB N r := by unfold routeD; rw [intsT_TI]
/-- small: no row is long -/
def short1 (d : D) : Prop := ∀ xs, d = .tuple xs → xs.length ≤ 900
theorem is_route_D {N : Net} (w : N.WF) (d : D) (hs : short1 d) : g_is_route [encN N, d] = some (.bool (routeD N d)) := by
  cases q : intsT d with
  | some r =>
    have e := intsT_some q
    subst e
    rw [routeD_TI]
    exact is_route_TI w r (by have := hs _ rfl; simpa using this)
  | none =>
    have e : routeD N d = false := by unfold routeD; rw [q]
    rw [e]
    cases d with
    | tuple xs =>
      have hl := hs xs rfl
      have al := all_no (show intsOf xs = none from q) 0 ((N.n : Int) - 1)
      refine wp_val ?_
      unfold g_is_route b_is_route N_is_route
      by_cases h2 : decide (((xs.length : Nat) : Int) < 2) = true
      · simp_arith [isi_tuple, h2]
        exact wp_ok rfl
      · have h2' : decide (((xs.length : Nat) : Int) < 2) = false := by simpa using h2
        simp_arith [isi_tuple, h2']
        have c := wp_cmap (g := nameG 2) (el := Ce_is_route_1) (is := [2]) (as := xs) (r := [some (.d (encN N)), some (.d (.tuple xs)), none, none]) (K := some) (Q := (· = (xs.map fun x => PyData.bool (wholeD x 0 ((N.n : Int) - 1)), [some (.d (encN N)), some (.d (.tuple xs)), none, none]))) (enc := id) (fun x => .bool (wholeD x 0 ((N.n : Int) - 1))) (fun x _ => by
          unfold Ce_is_route_1
          simp_arith [whole_eval, id]
          exact wp_ok rfl) (wp_ok rfl)
        rw [List.map_id] at c
        have c' := wp_last c
        refine wp_bind c' ?_
        rintro _ rfl
        simp_arith [al]
        exact wp_ok rfl
    | _ =>
      unfold g_is_route b_is_route N_is_route
      simp_arith [isi_tuple]
/-! cuts -/
/-! barrings -/
end PG
local macro_rules | `(tactic| simp_arith [$xs,*]) => `(tactic| simp (maxSteps := 2000000) (disch := omega) only [DL.ob_some, DL.om_some, DL.dat_d, DL.lis_l, DL.gt_0, DL.gt_1, DL.gt_2, DL.gt_3, DL.gt_4, DL.gt_5, DL.gt_6, DL.gt_7, DL.gt_b, DL.st_0, DL.st_s, DL.plG_d, DL.plG_n, DL.plainAt_a, DL.varM_a, DL.ownM_a, DL.cM_a, DL.ofL_a, DL.opM_a, DL.unM_a, DL.truM_a, DL.tstM_a, DL.notM_a, DL.cnd_t, DL.cnd_f, DL.andM_a, DL.orM_a, DL.andVM_a, DL.notVM_a, DL.iteM_a, DL.chM_a, DL.nilM_a, DL.consM_a, DL.guard_tt, DL.tupM_a, DL.lstM_a, DL.noM_a, DL.intV_i, DL.someM_a, DL.slM_a, DL.rng1M_a, DL.rng2M_a, DL.zipV_t, DL.zipV_l, DL.zipM_a, DL.seqM_a, DL.callM_a, DL.hereM_a, DL.callRM_a, DL.appM_a, DL.lisV_l, DL.catOwnM_a, DL.nameG_a, DL.nilG_a, DL.consG_a, DL.tupG_a, DL.seqS_a, DL.seqK_nx, DL.seqK_rt, DL.seqK_ct, DL.skipM_a, DL.asgM_a, DL.newM_a, DL.asgLM_a, DL.retM_a, DL.exprM_a, DL.ifM_a, DL.forM_a, DL.frzM_a, DL.runF_a, DL.finF_rt, DL.finF_nx, DL.runR_a, DL.finR_rt, DL.finR_nx, DL.sz_0, DL.sz_1, DL.sz_2, DL.sz_3, DL.sz_4, DL.sz_5, DL.sz_6, DL.sz_7, DL.sz_8, DL.sz_9, DL.sz_10, DL.sz_11, DL.sz_12, DL.sz_13, DL.sz_14, DL.sz_15, DL.sz_16, DL.sz_17, DL.sz_18, DL.sz_19, DL.sz_20, DL.sz_21, DL.sz_22, DL.sz_23, DL.sz_24, DL.sz_25, DL.sz_26, DL.sz_27, DL.sz_28, DL.sz_29, DL.sz_30, DL.nc_0, DL.nc_1, DL.nc_2, DL.nc_3, DL.nc_4, DL.nc_5, DL.nc_6, DL.nc_7, DL.nc_8, DL.nc_9, DL.nc_10, DL.nc_11, DL.nc_12, DL.nc_13, DL.nc_14, DL.nc_15, DL.nc_16, DL.nc_17, DL.nc_18, DL.nc_19, DL.nc_20, DL.nc_21, DL.nc_22, DL.nc_23, DL.nc_24, DL.nc_25, DL.nc_26, DL.nc_27, DL.nc_28, DL.nc_29, DL.nc_30, DL.addD_i, DL.addD_t, DL.addD_l, DL.subD_i, DL.modD_i, DL.fdivD_i, DL.mulD_i, DL.lenD_t, DL.lenD_l, DL.tupleD_t, DL.tupleD_l, DL.listD_t, DL.listD_l, DL.truD_i, DL.truD_b, DL.truD_n, DL.truD_l, DL.truD_t, DL.ixD_t, DL.ixD_l, DL.negD_i, DL.bD_a, DL.ltB_i, DL.leB_i, DL.eqB_i, DL.neB_i, DL.min2D_i, DL.max2D_i, DL.items_t, DL.items_l, DL.intD_b, DL.isNN, DL.slD_t, DL.slD_l, DL.sortD2_l, DL.sortD2_t, DL.p_ge0, DL.p_geS, DL.p_tk0, DL.p_tkS, DL.p_tkN, DL.p_dr0, DL.p_drS, DL.p_drN, DL.p_mpC, DL.p_mpN, DL.p_apC, DL.p_apN, DL.p_lnC, DL.p_lnN, DL.p_rpS, DL.p_rp0, DL.p_alC, DL.p_alN, DL.p_gdS, DL.p_gdN, DL.p_tlS, DL.p_tlN, DL.p_ieC, DL.p_ieN, DL.p_nt, DL.p_nf, DL.p_atb, DL.p_afb, DL.p_abt, DL.p_abf, DL.p_eqS, DL.p_dT, DL.p_dF, DL.p_TA, DL.p_AT, DL.p_TO, DL.p_OT, DL.p_startD, DL.p_startR, DL.forK_nx, DL.forK_ct, DL.forK_rt, DL.yesM_a, DL.it1_a, DL.compM_a, DL.wipeR_c, DL.wipeR_n, DL.restR_c, DL.restR_n, DL.gtD_i, DL.gtD_T, DL.ob_assoc, DL.om_bind, DL.ob_map, DL.om_map, DL.cnd_bind, DL.cnd_map, DL.guard_bind, DL.guard_map, DL.atI_c0, DL.atI_c1, DL.atI_c2, DL.atI_c3, DL.encN_0, DL.encN_1, DL.encN_2, DL.encN_u, DL.revD_t, DL.revD_l, DL.eq_TI, DL.ne_TI, DL.in_I, DL.in_Il, DL.in_T, DL.in_R, DL.notInB_a, DL.seqK_ex, DL.finF_ex, DL.forK_ex, DL.tri_no, DL.trm_no, DL.atI_neg1, DL.wipO_nx, DL.wipO_ct, DL.wipO_bk, DL.wipO_rt, DL.wipO_ex, DL.wipM_a, DL.preM_a, DL.two_a, DL.finR_ex, DL.len_map, DL.len_app, DL.len_ir, DL.len_rev, DL.sz_c, DL.rng_c, DL.rngL_n, DL.forM_a', DL.rev_map, DL.seqK_bk, DL.forK_bk, DL.emp_map, DL.eq_LI, DL.ne_LI, DL.eq_LI0, DL.ne_LI0, DL.eq_LT, DL.ne_LT, DL.eq_LR, DL.ne_LR, DL.eq_TR, DL.ne_TR, DL.eq_B, DL.ne_B, DL.wp_mapE, DL.map_id_int, DL.cut_f, DL.cut_t, DL.cut_f1, DL.map_drop', DL.map_take', DL.map_app', DL.len_zip, DL.kn_k, DL.intOf_i, DL.putKM_a, DL.newKM_a, DL.lenKM_a, DL.sortKM_a, DL.whileK_nx, PG.allD_map', PG.eq_BB, PG.ne_BB, DL.isN_i, DL.rngL_g1, Nat.reduceAdd, Nat.reduceSub, Nat.reduceMul, Int.reduceLT, Int.reduceLE, Int.reducePow, Int.reduceNeg, Int.reduceAdd, Int.reduceSub, Int.reduceMul, Int.reduceBEq, Int.reduceBNe, Int.reduceToNat, $xs,*])
namespace DL
open PySem L2 GT
/-! own dicts under rows, own things handed on: evaluation -/
theorem flag_k (b : Bool) (x : List (List NK × Int)) : (SV.k b x).flag = b := (rfl)
/-! what stands under a row -/
end DL
local macro_rules | `(tactic| simp_arith [$xs,*]) => `(tactic| simp (maxSteps := 2000000) (disch := omega) only [DL.ob_some, DL.om_some, DL.dat_d, DL.lis_l, DL.gt_0, DL.gt_1, DL.gt_2, DL.gt_3, DL.gt_4, DL.gt_5, DL.gt_6, DL.gt_7, DL.gt_b, DL.st_0, DL.st_s, DL.plG_d, DL.plG_n, DL.plainAt_a, DL.varM_a, DL.ownM_a, DL.cM_a, DL.ofL_a, DL.opM_a, DL.unM_a, DL.truM_a, DL.tstM_a, DL.notM_a, DL.cnd_t, DL.cnd_f, DL.andM_a, DL.orM_a, DL.andVM_a, DL.notVM_a, DL.iteM_a, DL.chM_a, DL.nilM_a, DL.consM_a, DL.guard_tt, DL.tupM_a, DL.lstM_a, DL.noM_a, DL.intV_i, DL.someM_a, DL.slM_a, DL.rng1M_a, DL.rng2M_a, DL.zipV_t, DL.zipV_l, DL.zipM_a, DL.seqM_a, DL.callM_a, DL.hereM_a, DL.callRM_a, DL.appM_a, DL.lisV_l, DL.catOwnM_a, DL.nameG_a, DL.nilG_a, DL.consG_a, DL.tupG_a, DL.seqS_a, DL.seqK_nx, DL.seqK_rt, DL.seqK_ct, DL.skipM_a, DL.asgM_a, DL.newM_a, DL.asgLM_a, DL.retM_a, DL.exprM_a, DL.ifM_a, DL.forM_a, DL.frzM_a, DL.runF_a, DL.finF_rt, DL.finF_nx, DL.runR_a, DL.finR_rt, DL.finR_nx, DL.sz_0, DL.sz_1, DL.sz_2, DL.sz_3, DL.sz_4, DL.sz_5, DL.sz_6, DL.sz_7, DL.sz_8, DL.sz_9, DL.sz_10, DL.sz_11, DL.sz_12, DL.sz_13, DL.sz_14, DL.sz_15, DL.sz_16, DL.sz_17, DL.sz_18, DL.sz_19, DL.sz_20, DL.sz_21, DL.sz_22, DL.sz_23, DL.sz_24, DL.sz_25, DL.sz_26, DL.sz_27, DL.sz_28, DL.sz_29, DL.sz_30, DL.nc_0, DL.nc_1, DL.nc_2, DL.nc_3, DL.nc_4, DL.nc_5, DL.nc_6, DL.nc_7, DL.nc_8, DL.nc_9, DL.nc_10, DL.nc_11, DL.nc_12, DL.nc_13, DL.nc_14, DL.nc_15, DL.nc_16, DL.nc_17, DL.nc_18, DL.nc_19, DL.nc_20, DL.nc_21, DL.nc_22, DL.nc_23, DL.nc_24, DL.nc_25, DL.nc_26, DL.nc_27, DL.nc_28, DL.nc_29, DL.nc_30, DL.addD_i, DL.addD_t, DL.addD_l, DL.subD_i, DL.modD_i, DL.fdivD_i, DL.mulD_i, DL.lenD_t, DL.lenD_l, DL.tupleD_t, DL.tupleD_l, DL.listD_t, DL.listD_l, DL.truD_i, DL.truD_b, DL.truD_n, DL.truD_l, DL.truD_t, DL.ixD_t, DL.ixD_l, DL.negD_i, DL.bD_a, DL.ltB_i, DL.leB_i, DL.eqB_i, DL.neB_i, DL.min2D_i, DL.max2D_i, DL.items_t, DL.items_l, DL.intD_b, DL.isNN, DL.slD_t, DL.slD_l, DL.sortD2_l, DL.sortD2_t, DL.p_ge0, DL.p_geS, DL.p_tk0, DL.p_tkS, DL.p_tkN, DL.p_dr0, DL.p_drS, DL.p_drN, DL.p_mpC, DL.p_mpN, DL.p_apC, DL.p_apN, DL.p_lnC, DL.p_lnN, DL.p_rpS, DL.p_rp0, DL.p_alC, DL.p_alN, DL.p_gdS, DL.p_gdN, DL.p_tlS, DL.p_tlN, DL.p_ieC, DL.p_ieN, DL.p_nt, DL.p_nf, DL.p_atb, DL.p_afb, DL.p_abt, DL.p_abf, DL.p_eqS, DL.p_dT, DL.p_dF, DL.p_TA, DL.p_AT, DL.p_TO, DL.p_OT, DL.p_startD, DL.p_startR, DL.forK_nx, DL.forK_ct, DL.forK_rt, DL.yesM_a, DL.it1_a, DL.compM_a, DL.wipeR_c, DL.wipeR_n, DL.restR_c, DL.restR_n, DL.gtD_i, DL.gtD_T, DL.ob_assoc, DL.om_bind, DL.ob_map, DL.om_map, DL.cnd_bind, DL.cnd_map, DL.guard_bind, DL.guard_map, DL.atI_c0, DL.atI_c1, DL.atI_c2, DL.atI_c3, DL.encN_0, DL.encN_1, DL.encN_2, DL.encN_u, DL.revD_t, DL.revD_l, DL.eq_TI, DL.ne_TI, DL.in_I, DL.in_Il, DL.in_T, DL.in_R, DL.notInB_a, DL.seqK_ex, DL.finF_ex, DL.forK_ex, DL.tri_no, DL.trm_no, DL.atI_neg1, DL.wipO_nx, DL.wipO_ct, DL.wipO_bk, DL.wipO_rt, DL.wipO_ex, DL.wipM_a, DL.preM_a, DL.two_a, DL.finR_ex, DL.len_map, DL.len_app, DL.len_ir, DL.len_rev, DL.sz_c, DL.rng_c, DL.rngL_n, DL.forM_a', DL.rev_map, DL.seqK_bk, DL.forK_bk, DL.emp_map, DL.eq_LI, DL.ne_LI, DL.eq_LI0, DL.ne_LI0, DL.eq_LT, DL.ne_LT, DL.eq_LR, DL.ne_LR, DL.eq_TR, DL.ne_TR, DL.eq_B, DL.ne_B, DL.wp_mapE, DL.map_id_int, DL.cut_f, DL.cut_t, DL.cut_f1, DL.map_drop', DL.map_take', DL.map_app', DL.len_zip, DL.kn_k, DL.intOf_i, DL.putKM_a, DL.newKM_a, DL.lenKM_a, DL.sortKM_a, DL.whileK_nx, PG.allD_map', PG.eq_BB, PG.ne_BB, DL.isN_i, DL.rngL_g1, DL.flag_k, Nat.reduceAdd, Nat.reduceSub, Nat.reduceMul, Int.reduceLT, Int.reduceLE, Int.reducePow, Int.reduceNeg, Int.reduceAdd, Int.reduceSub, Int.reduceMul, Int.reduceBEq, Int.reduceBNe, Int.reduceToNat, $xs,*])
namespace DL
open PySem L2
/-! seekers -/
theorem flag_s (b : Bool) (n t : D) (rows : List D) : (SV.s b n t rows).flag = b := (rfl)
end DL
local macro_rules | `(tactic| simp_arith [$xs,*]) => `(tactic| simp (maxSteps := 2000000) (disch := omega) only [DL.ob_some, DL.om_some, DL.dat_d, DL.lis_l, DL.gt_0, DL.gt_1, DL.gt_2, DL.gt_3, DL.gt_4, DL.gt_5, DL.gt_6, DL.gt_7, DL.gt_b, DL.st_0, DL.st_s, DL.plG_d, DL.plG_n, DL.plainAt_a, DL.varM_a, DL.ownM_a, DL.cM_a, DL.ofL_a, DL.opM_a, DL.unM_a, DL.truM_a, DL.tstM_a, DL.notM_a, DL.cnd_t, DL.cnd_f, DL.andM_a, DL.orM_a, DL.andVM_a, DL.notVM_a, DL.iteM_a, DL.chM_a, DL.nilM_a, DL.consM_a, DL.guard_tt, DL.tupM_a, DL.lstM_a, DL.noM_a, DL.intV_i, DL.someM_a, DL.slM_a, DL.rng1M_a, DL.rng2M_a, DL.zipV_t, DL.zipV_l, DL.zipM_a, DL.seqM_a, DL.callM_a, DL.hereM_a, DL.callRM_a, DL.appM_a, DL.lisV_l, DL.catOwnM_a, DL.nameG_a, DL.nilG_a, DL.consG_a, DL.tupG_a, DL.seqS_a, DL.seqK_nx, DL.seqK_rt, DL.seqK_ct, DL.skipM_a, DL.asgM_a, DL.newM_a, DL.asgLM_a, DL.retM_a, DL.exprM_a, DL.ifM_a, DL.forM_a, DL.frzM_a, DL.runF_a, DL.finF_rt, DL.finF_nx, DL.runR_a, DL.finR_rt, DL.finR_nx, DL.sz_0, DL.sz_1, DL.sz_2, DL.sz_3, DL.sz_4, DL.sz_5, DL.sz_6, DL.sz_7, DL.sz_8, DL.sz_9, DL.sz_10, DL.sz_11, DL.sz_12, DL.sz_13, DL.sz_14, DL.sz_15, DL.sz_16, DL.sz_17, DL.sz_18, DL.sz_19, DL.sz_20, DL.sz_21, DL.sz_22, DL.sz_23, DL.sz_24, DL.sz_25, DL.sz_26, DL.sz_27, DL.sz_28, DL.sz_29, DL.sz_30, DL.nc_0, DL.nc_1, DL.nc_2, DL.nc_3, DL.nc_4, DL.nc_5, DL.nc_6, DL.nc_7, DL.nc_8, DL.nc_9, DL.nc_10, DL.nc_11, DL.nc_12, DL.nc_13, DL.nc_14, DL.nc_15, DL.nc_16, DL.nc_17, DL.nc_18, DL.nc_19, DL.nc_20, DL.nc_21, DL.nc_22, DL.nc_23, DL.nc_24, DL.nc_25, DL.nc_26, DL.nc_27, DL.nc_28, DL.nc_29, DL.nc_30, DL.addD_i, DL.addD_t, DL.addD_l, DL.subD_i, DL.modD_i, DL.fdivD_i, DL.mulD_i, DL.lenD_t, DL.lenD_l, DL.tupleD_t, DL.tupleD_l, DL.listD_t, DL.listD_l, DL.truD_i, DL.truD_b, DL.truD_n, DL.truD_l, DL.truD_t, DL.ixD_t, DL.ixD_l, DL.negD_i, DL.bD_a, DL.ltB_i, DL.leB_i, DL.eqB_i, DL.neB_i, DL.min2D_i, DL.max2D_i, DL.items_t, DL.items_l, DL.intD_b, DL.isNN, DL.slD_t, DL.slD_l, DL.sortD2_l, DL.sortD2_t, DL.p_ge0, DL.p_geS, DL.p_tk0, DL.p_tkS, DL.p_tkN, DL.p_dr0, DL.p_drS, DL.p_drN, DL.p_mpC, DL.p_mpN, DL.p_apC, DL.p_apN, DL.p_lnC, DL.p_lnN, DL.p_rpS, DL.p_rp0, DL.p_alC, DL.p_alN, DL.p_gdS, DL.p_gdN, DL.p_tlS, DL.p_tlN, DL.p_ieC, DL.p_ieN, DL.p_nt, DL.p_nf, DL.p_atb, DL.p_afb, DL.p_abt, DL.p_abf, DL.p_eqS, DL.p_dT, DL.p_dF, DL.p_TA, DL.p_AT, DL.p_TO, DL.p_OT, DL.p_startD, DL.p_startR, DL.forK_nx, DL.forK_ct, DL.forK_rt, DL.yesM_a, DL.it1_a, DL.compM_a, DL.wipeR_c, DL.wipeR_n, DL.restR_c, DL.restR_n, DL.gtD_i, DL.gtD_T, DL.ob_assoc, DL.om_bind, DL.ob_map, DL.om_map, DL.cnd_bind, DL.cnd_map, DL.guard_bind, DL.guard_map, DL.atI_c0, DL.atI_c1, DL.atI_c2, DL.atI_c3, DL.encN_0, DL.encN_1, DL.encN_2, DL.encN_u, DL.revD_t, DL.revD_l, DL.eq_TI, DL.ne_TI, DL.in_I, DL.in_Il, DL.in_T, DL.in_R, DL.notInB_a, DL.seqK_ex, DL.finF_ex, DL.forK_ex, DL.tri_no, DL.trm_no, DL.atI_neg1, DL.wipO_nx, DL.wipO_ct, DL.wipO_bk, DL.wipO_rt, DL.wipO_ex, DL.wipM_a, DL.preM_a, DL.two_a, DL.finR_ex, DL.len_map, DL.len_app, DL.len_ir, DL.len_rev, DL.sz_c, DL.rng_c, DL.rngL_n, DL.forM_a', DL.rev_map, DL.seqK_bk, DL.forK_bk, DL.emp_map, DL.eq_LI, DL.ne_LI, DL.eq_LI0, DL.ne_LI0, DL.eq_LT, DL.ne_LT, DL.eq_LR, DL.ne_LR, DL.eq_TR, DL.ne_TR, DL.eq_B, DL.ne_B, DL.wp_mapE, DL.map_id_int, DL.cut_f, DL.cut_t, DL.cut_f1, DL.map_drop', DL.map_take', DL.map_app', DL.len_zip, DL.kn_k, DL.intOf_i, DL.putKM_a, DL.newKM_a, DL.lenKM_a, DL.sortKM_a, DL.whileK_nx, PG.allD_map', PG.eq_BB, PG.ne_BB, DL.isN_i, DL.rngL_g1, DL.flag_k, DL.flag_s, Nat.reduceAdd, Nat.reduceSub, Nat.reduceMul, Int.reduceLT, Int.reduceLE, Int.reducePow, Int.reduceNeg, Int.reduceAdd, Int.reduceSub, Int.reduceMul, Int.reduceBEq, Int.reduceBNe, Int.reduceToNat, $xs,*])
namespace DL
open PySem L2
/-! several own things handed on; the body of a try -/
theorem flag_l (b : Bool) (xs : List D) : (SV.l b xs).flag = b := (rfl)
end DL
local macro_rules | `(tactic| simp_arith [$xs,*]) => `(tactic| simp (maxSteps := 2000000) (disch := omega) only [DL.ob_some, DL.om_some, DL.dat_d, DL.lis_l, DL.gt_0, DL.gt_1, DL.gt_2, DL.gt_3, DL.gt_4, DL.gt_5, DL.gt_6, DL.gt_7, DL.gt_b, DL.st_0, DL.st_s, DL.plG_d, DL.plG_n, DL.plainAt_a, DL.varM_a, DL.ownM_a, DL.cM_a, DL.ofL_a, DL.opM_a, DL.unM_a, DL.truM_a, DL.tstM_a, DL.notM_a, DL.cnd_t, DL.cnd_f, DL.andM_a, DL.orM_a, DL.andVM_a, DL.notVM_a, DL.iteM_a, DL.chM_a, DL.nilM_a, DL.consM_a, DL.guard_tt, DL.tupM_a, DL.lstM_a, DL.noM_a, DL.intV_i, DL.someM_a, DL.slM_a, DL.rng1M_a, DL.rng2M_a, DL.zipV_t, DL.zipV_l, DL.zipM_a, DL.seqM_a, DL.callM_a, DL.hereM_a, DL.callRM_a, DL.appM_a, DL.lisV_l, DL.catOwnM_a, DL.nameG_a, DL.nilG_a, DL.consG_a, DL.tupG_a, DL.seqS_a, DL.seqK_nx, DL.seqK_rt, DL.seqK_ct, DL.skipM_a, DL.asgM_a, DL.newM_a, DL.asgLM_a, DL.retM_a, DL.exprM_a, DL.ifM_a, DL.forM_a, DL.frzM_a, DL.runF_a, DL.finF_rt, DL.finF_nx, DL.runR_a, DL.finR_rt, DL.finR_nx, DL.sz_0, DL.sz_1, DL.sz_2, DL.sz_3, DL.sz_4, DL.sz_5, DL.sz_6, DL.sz_7, DL.sz_8, DL.sz_9, DL.sz_10, DL.sz_11, DL.sz_12, DL.sz_13, DL.sz_14, DL.sz_15, DL.sz_16, DL.sz_17, DL.sz_18, DL.sz_19, DL.sz_20, DL.sz_21, DL.sz_22, DL.sz_23, DL.sz_24, DL.sz_25, DL.sz_26, DL.sz_27, DL.sz_28, DL.sz_29, DL.sz_30, DL.nc_0, DL.nc_1, DL.nc_2, DL.nc_3, DL.nc_4, DL.nc_5, DL.nc_6, DL.nc_7, DL.nc_8, DL.nc_9, DL.nc_10, DL.nc_11, DL.nc_12, DL.nc_13, DL.nc_14, DL.nc_15, DL.nc_16, DL.nc_17, DL.nc_18, DL.nc_19, DL.nc_20, DL.nc_21, DL.nc_22, DL.nc_23, DL.nc_24, DL.nc_25, DL.nc_26, DL.nc_27, DL.nc_28, DL.nc_29, DL.nc_30, DL.addD_i, DL.addD_t, DL.addD_l, DL.subD_i, DL.modD_i, DL.fdivD_i, DL.mulD_i, DL.lenD_t, DL.lenD_l, DL.tupleD_t, DL.tupleD_l, DL.listD_t, DL.listD_l, DL.truD_i, DL.truD_b, DL.truD_n, DL.truD_l, DL.truD_t, DL.ixD_t, DL.ixD_l, DL.negD_i, DL.bD_a, DL.ltB_i, DL.leB_i, DL.eqB_i, DL.neB_i, DL.min2D_i, DL.max2D_i, DL.items_t, DL.items_l, DL.intD_b, DL.isNN, DL.slD_t, DL.slD_l, DL.sortD2_l, DL.sortD2_t, DL.p_ge0, DL.p_geS, DL.p_tk0, DL.p_tkS, DL.p_tkN, DL.p_dr0, DL.p_drS, DL.p_drN, DL.p_mpC, DL.p_mpN, DL.p_apC, DL.p_apN, DL.p_lnC, DL.p_lnN, DL.p_rpS, DL.p_rp0, DL.p_alC, DL.p_alN, DL.p_gdS, DL.p_gdN, DL.p_tlS, DL.p_tlN, DL.p_ieC, DL.p_ieN, DL.p_nt, DL.p_nf, DL.p_atb, DL.p_afb, DL.p_abt, DL.p_abf, DL.p_eqS, DL.p_dT, DL.p_dF, DL.p_TA, DL.p_AT, DL.p_TO, DL.p_OT, DL.p_startD, DL.p_startR, DL.forK_nx, DL.forK_ct, DL.forK_rt, DL.yesM_a, DL.it1_a, DL.compM_a, DL.wipeR_c, DL.wipeR_n, DL.restR_c, DL.restR_n, DL.gtD_i, DL.gtD_T, DL.ob_assoc, DL.om_bind, DL.ob_map, DL.om_map, DL.cnd_bind, DL.cnd_map, DL.guard_bind, DL.guard_map, DL.atI_c0, DL.atI_c1, DL.atI_c2, DL.atI_c3, DL.encN_0, DL.encN_1, DL.encN_2, DL.encN_u, DL.revD_t, DL.revD_l, DL.eq_TI, DL.ne_TI, DL.in_I, DL.in_Il, DL.in_T, DL.in_R, DL.notInB_a, DL.seqK_ex, DL.finF_ex, DL.forK_ex, DL.tri_no, DL.trm_no, DL.atI_neg1, DL.wipO_nx, DL.wipO_ct, DL.wipO_bk, DL.wipO_rt, DL.wipO_ex, DL.wipM_a, DL.preM_a, DL.two_a, DL.finR_ex, DL.len_map, DL.len_app, DL.len_ir, DL.len_rev, DL.sz_c, DL.rng_c, DL.rngL_n, DL.forM_a', DL.rev_map, DL.seqK_bk, DL.forK_bk, DL.emp_map, DL.eq_LI, DL.ne_LI, DL.eq_LI0, DL.ne_LI0, DL.eq_LT, DL.ne_LT, DL.eq_LR, DL.ne_LR, DL.eq_TR, DL.ne_TR, DL.eq_B, DL.ne_B, DL.wp_mapE, DL.map_id_int, DL.cut_f, DL.cut_t, DL.cut_f1, DL.map_drop', DL.map_take', DL.map_app', DL.len_zip, DL.kn_k, DL.intOf_i, DL.putKM_a, DL.newKM_a, DL.lenKM_a, DL.sortKM_a, DL.whileK_nx, PG.allD_map', PG.eq_BB, PG.ne_BB, DL.isN_i, DL.rngL_g1, Nat.reduceAdd, Nat.reduceSub, Nat.reduceMul, Int.reduceLT, Int.reduceLE, Int.reducePow, Int.reduceNeg, Int.reduceAdd, Int.reduceSub, Int.reduceMul, Int.reduceBEq, Int.reduceBNe, Int.reduceToNat, $xs,*])
namespace PG
open PySem L2 DL GT RX
end PG
namespace PG
open PySem L2 DL GT RX PySem.W
/-! the cases of a plan -/
/-! what a probe leaves of some cases -/
end PG
namespace PG
open PySem L2 DL GT RX PySem.W
/-! any thing as a plan -/
/-- a thing that is not too long -/
def fit : Nat → D → Bool
  | _, .none => true
  | _, .bool _ => true
  | _, .int _ => true
  | _, .str x => PyData.strOk x && decide (x.length ≤ 900)
  | k + 1, .tuple xs => decide (xs.length ≤ 900) && xs.all (fit k)
  | k + 1, .list xs => decide (xs.length ≤ 900) && xs.all (fit k)
  | _, _ => false
end PG
namespace DL
open PySem L2 GT
end DL
namespace PG
open PySem L2 DL GT RX
/-! groups -/
end PG
/-! plain: as many ties part two knots as there are ways without a tie together (flows of ones) -/
namespace GT
/-! sums over a list -/
def S {α : Type} (l : List α) (g : α → Int) : Int := (l.map g).sum
section
variable {α β : Type}
theorem S_nil (g : α → Int) : S [] g = 0 := rfl
theorem S_cons (a : α) (l : List α) (g : α → Int) : S (a :: l) g = g a + S l g := by simp [S]
theorem S_add (l : List α) (g h : α → Int) : S l (fun x => g x + h x) = S l g + S l h := by
  induction l with
  | nil => rfl
  | cons a l ih => simp only [S_cons, ih]; omega
theorem S_neg (l : List α) (g : α → Int) : S l (fun x => - g x) = - S l g := by
  induction l with
  | nil => rfl
  | cons a l ih => simp only [S_cons, ih]; omega
theorem S_congr {l : List α} {g h : α → Int} (e : ∀ x ∈ l, g x = h x) : S l g = S l h := by
  induction l with
  | nil => rfl
  | cons a l ih => rw [S_cons, S_cons, e a (by simp), ih fun x m => e x (List.mem_cons_of_mem _ m)]
theorem S_zero {l : List α} {g : α → Int} (e : ∀ x ∈ l, g x = 0) : S l g = 0 := by
  rw [S_congr e]
  induction l with
  | nil => rfl
  | cons a l ih => rw [S_cons, ih fun x m => e x (List.mem_cons_of_mem _ m)]; rfl
theorem S_mul (l : List α) (c : Int) (g : α → Int) : S l (fun x => c * g x) = c * S l g := by
  induction l with
  | nil => simp [S_nil]
  | cons a l ih => simp only [S_cons, ih, Int.mul_add]
theorem S_swap (l : List α) (m : List β) (g : α → β → Int) : S l (fun x => S m (g x)) = S m (fun y => S l (fun x => g x y)) := by
  induction l with
  | nil => rw [S_nil, S_zero]; intro y _; rfl
  | cons a l ih =>
    rw [S_cons, ih, ← S_add]
    exact S_congr fun y _ => by rw [S_cons]
theorem S_one [DecidableEq α] {l : List α} (nd : l.Nodup) (a : α) (c : Int) : S l (fun x => if x = a then c else 0) = if a ∈ l then c else 0 := by
  induction l with
  | nil => simp [S_nil]
  | cons b l ih =>
    have nd' := List.nodup_cons.mp nd
    rw [S_cons, ih nd'.2]
    by_cases e : b = a
    · subst e
      rw [if_pos rfl, if_neg nd'.1, if_pos (by simp)]; omega
    · rw [if_neg e]
      by_cases m : a ∈ l
      · rw [if_pos m, if_pos (List.mem_cons_of_mem _ m)]; omega
      · rw [if_neg m, if_neg (by simp [m, Ne.symm e])]; omega
end
/-! ways by a relation -/
/-! flows of ones -/
abbrev Fl := Int → Int → Int
structure Flow (N : Net) (a b : Int) (f : Fl) (k : Int) : Prop where
  anti : ∀ u v : Int, f u v = - f v u
  sup : ∀ u v : Int, f u v ≠ 0 → adj N u v = true
  bd : ∀ u v : Int, f u v ≤ 1
  cons : ∀ u : Int, 0 ≤ u → u < N.n → u ≠ a → u ≠ b → S (ir N.n) (f u) = 0
  val : S (ir N.n) (f a) = k
/-! more along a way that has room -/
/-! what goes out of a set of knots -/
open Classical in
noncomputable def ch (X : Int → Prop) (x : Int) : Int := if X x then 1 else 0
theorem ch_cases (X : Int → Prop) (x : Int) : (X x ∧ ch X x = 1) ∨ (¬ X x ∧ ch X x = 0) := by
  unfold ch
  by_cases h : X x
  · exact .inl ⟨h, if_pos h⟩
  · exact .inr ⟨h, if_neg h⟩
theorem inner_zero {l : List Int} {f : Fl} (anti : ∀ u v, f u v = - f v u) (c : Int → Int) : S l (fun u => S l (fun v => c u * c v * f u v)) = 0 := by
  have e1 : S l (fun u => S l (fun v => c u * c v * f u v)) = S l (fun v => S l (fun u => c u * c v * f u v)) := S_swap l l _
  have e2 : S l (fun v => S l (fun u => c u * c v * f u v)) = S l (fun v => - S l (fun u => c v * c u * f v u)) := S_congr fun v _ => by
    rw [← S_neg]
    refine S_congr fun u _ => ?_
    rw [anti u v, Int.mul_comm (c u) (c v), Int.mul_neg]
  rw [S_neg] at e2
  omega
theorem Flow.out {N : Net} {a b : Int} (ha : 0 ≤ a ∧ a < N.n) {f : Fl} {k : Int} (F : Flow N a b f k) {X : Int → Prop} (xa : X a) (xb : ¬ X b) :
    S (ir N.n) (fun u => S (ir N.n) (fun v => ch X u * (1 - ch X v) * f u v)) = k := by
  have ca : ch X a = 1 := (ch_cases X a).elim (·.2) (fun h => absurd xa h.1)
  have cb : ch X b = 0 := (ch_cases X b).elim (fun h => absurd h.1 xb) (·.2)
  have h1 : S (ir N.n) (fun u => ch X u * S (ir N.n) (f u)) = k := by
    have e : ∀ u ∈ ir N.n, ch X u * S (ir N.n) (f u) = if u = a then k else 0 := fun u mu => by
      have hu := mem_ir.mp mu
      by_cases c : u = a
      · subst c; rw [if_pos rfl, ca, F.val]; omega
      · rw [if_neg c]
        by_cases c2 : u = b
        · subst c2; rw [cb]; omega
        · rw [F.cons u hu.1 hu.2 c c2]; omega
    rw [S_congr e, S_one (ir_nodup _), if_pos (mem_ir.mpr ha)]
  have h2 : S (ir N.n) (fun u => ch X u * S (ir N.n) (f u)) = S (ir N.n) (fun u => S (ir N.n) (fun v => ch X u * ch X v * f u v)) + S (ir N.n) (fun u => S (ir N.n) (fun v => ch X u * (1 - ch X v) * f u v)) := by
    rw [← S_add]
    refine S_congr fun u _ => ?_
    rw [← S_add, ← S_mul]
    refine S_congr fun v _ => ?_
    rcases ch_cases X u with ⟨_, c1⟩ | ⟨_, c1⟩ <;> rcases ch_cases X v with ⟨_, c2⟩ | ⟨_, c2⟩ <;> rw [c1, c2] <;> omega
  rw [inner_zero F.anti (ch X)] at h2
  omega
end GT
namespace GT
/-! ways out of a flow -/
/-! the ties that go out -/
end GT
namespace PG
open PySem L2 DL GT RX
/-! choices -/
/-! the least cut -/
end PG
namespace PG
open PySem L2 DL GT RX
end PG
namespace PG
open PySem L2 DL GT RX
end PG
namespace PG
open PySem L2 DL GT RX
end PG
namespace PG
open PySem L2 DL GT RX
end PG
local macro_rules | `(tactic| simp_arith [$xs,*]) => `(tactic| simp (maxSteps := 2000000) (disch := omega) only [DL.ob_some, DL.om_some, DL.dat_d, DL.lis_l, DL.gt_0, DL.gt_1, DL.gt_2, DL.gt_3, DL.gt_4, DL.gt_5, DL.gt_6, DL.gt_7, DL.gt_b, DL.st_0, DL.st_s, DL.plG_d, DL.plG_n, DL.plainAt_a, DL.varM_a, DL.ownM_a, DL.cM_a, DL.ofL_a, DL.opM_a, DL.unM_a, DL.truM_a, DL.tstM_a, DL.notM_a, DL.cnd_t, DL.cnd_f, DL.andM_a, DL.orM_a, DL.andVM_a, DL.notVM_a, DL.iteM_a, DL.chM_a, DL.nilM_a, DL.consM_a, DL.guard_tt, DL.tupM_a, DL.lstM_a, DL.noM_a, DL.intV_i, DL.someM_a, DL.slM_a, DL.rng1M_a, DL.rng2M_a, DL.zipV_t, DL.zipV_l, DL.zipM_a, DL.seqM_a, DL.callM_a, DL.hereM_a, DL.callRM_a, DL.appM_a, DL.lisV_l, DL.catOwnM_a, DL.nameG_a, DL.nilG_a, DL.consG_a, DL.tupG_a, DL.seqS_a, DL.seqK_nx, DL.seqK_rt, DL.seqK_ct, DL.skipM_a, DL.asgM_a, DL.newM_a, DL.asgLM_a, DL.retM_a, DL.exprM_a, DL.ifM_a, DL.forM_a, DL.frzM_a, DL.runF_a, DL.finF_rt, DL.finF_nx, DL.runR_a, DL.finR_rt, DL.finR_nx, DL.sz_0, DL.sz_1, DL.sz_2, DL.sz_3, DL.sz_4, DL.sz_5, DL.sz_6, DL.sz_7, DL.sz_8, DL.sz_9, DL.sz_10, DL.sz_11, DL.sz_12, DL.sz_13, DL.sz_14, DL.sz_15, DL.sz_16, DL.sz_17, DL.sz_18, DL.sz_19, DL.sz_20, DL.sz_21, DL.sz_22, DL.sz_23, DL.sz_24, DL.sz_25, DL.sz_26, DL.sz_27, DL.sz_28, DL.sz_29, DL.sz_30, DL.nc_0, DL.nc_1, DL.nc_2, DL.nc_3, DL.nc_4, DL.nc_5, DL.nc_6, DL.nc_7, DL.nc_8, DL.nc_9, DL.nc_10, DL.nc_11, DL.nc_12, DL.nc_13, DL.nc_14, DL.nc_15, DL.nc_16, DL.nc_17, DL.nc_18, DL.nc_19, DL.nc_20, DL.nc_21, DL.nc_22, DL.nc_23, DL.nc_24, DL.nc_25, DL.nc_26, DL.nc_27, DL.nc_28, DL.nc_29, DL.nc_30, DL.addD_i, DL.addD_t, DL.addD_l, DL.subD_i, DL.modD_i, DL.fdivD_i, DL.mulD_i, DL.lenD_t, DL.lenD_l, DL.tupleD_t, DL.tupleD_l, DL.listD_t, DL.listD_l, DL.truD_i, DL.truD_b, DL.truD_n, DL.truD_l, DL.truD_t, DL.ixD_t, DL.ixD_l, DL.negD_i, DL.bD_a, DL.ltB_i, DL.leB_i, DL.eqB_i, DL.neB_i, DL.min2D_i, DL.max2D_i, DL.items_t, DL.items_l, DL.intD_b, DL.isNN, DL.slD_t, DL.slD_l, DL.sortD2_l, DL.sortD2_t, DL.p_ge0, DL.p_geS, DL.p_tk0, DL.p_tkS, DL.p_tkN, DL.p_dr0, DL.p_drS, DL.p_drN, DL.p_mpC, DL.p_mpN, DL.p_apC, DL.p_apN, DL.p_lnC, DL.p_lnN, DL.p_rpS, DL.p_rp0, DL.p_alC, DL.p_alN, DL.p_gdS, DL.p_gdN, DL.p_tlS, DL.p_tlN, DL.p_ieC, DL.p_ieN, DL.p_nt, DL.p_nf, DL.p_atb, DL.p_afb, DL.p_abt, DL.p_abf, DL.p_eqS, DL.p_dT, DL.p_dF, DL.p_TA, DL.p_AT, DL.p_TO, DL.p_OT, DL.p_startD, DL.p_startR, DL.forK_nx, DL.forK_ct, DL.forK_rt, DL.yesM_a, DL.it1_a, DL.compM_a, DL.wipeR_c, DL.wipeR_n, DL.restR_c, DL.restR_n, DL.gtD_i, DL.gtD_T, DL.ob_assoc, DL.om_bind, DL.ob_map, DL.om_map, DL.cnd_bind, DL.cnd_map, DL.guard_bind, DL.guard_map, DL.atI_c0, DL.atI_c1, DL.atI_c2, DL.atI_c3, DL.encN_0, DL.encN_1, DL.encN_2, DL.encN_u, DL.revD_t, DL.revD_l, DL.eq_TI, DL.ne_TI, DL.in_I, DL.in_Il, DL.in_T, DL.in_R, DL.notInB_a, DL.seqK_ex, DL.finF_ex, DL.forK_ex, DL.tri_no, DL.trm_no, DL.atI_neg1, DL.wipO_nx, DL.wipO_ct, DL.wipO_bk, DL.wipO_rt, DL.wipO_ex, DL.wipM_a, DL.preM_a, DL.two_a, DL.finR_ex, DL.len_map, DL.len_app, DL.len_ir, DL.len_rev, DL.sz_c, DL.rng_c, DL.rngL_n, DL.forM_a', DL.rev_map, DL.seqK_bk, DL.forK_bk, DL.emp_map, DL.eq_LI, DL.ne_LI, DL.eq_LI0, DL.ne_LI0, DL.eq_LT, DL.ne_LT, DL.eq_LR, DL.ne_LR, DL.eq_TR, DL.ne_TR, DL.eq_B, DL.ne_B, DL.wp_mapE, DL.map_id_int, DL.cut_f, DL.cut_t, DL.cut_f1, DL.map_drop', DL.map_take', DL.map_app', DL.len_zip, DL.kn_k, DL.intOf_i, DL.putKM_a, DL.newKM_a, DL.lenKM_a, DL.sortKM_a, DL.whileK_nx, PG.allD_map', PG.eq_BB, PG.ne_BB, Nat.reduceAdd, Nat.reduceSub, Nat.reduceMul, Int.reduceLT, Int.reduceLE, Int.reducePow, Int.reduceNeg, Int.reduceAdd, Int.reduceSub, Int.reduceMul, Int.reduceBEq, Int.reduceBNe, Int.reduceToNat, $xs,*])
namespace FA
open PySem L2 DL GT PG RX
end FA
local macro_rules | `(tactic| simp_arith [$xs,*]) => `(tactic| simp (maxSteps := 2000000) (disch := omega) only [DL.ob_some, DL.om_some, DL.dat_d, DL.lis_l, DL.gt_0, DL.gt_1, DL.gt_2, DL.gt_3, DL.gt_4, DL.gt_5, DL.gt_6, DL.gt_7, DL.gt_b, DL.st_0, DL.st_s, DL.plG_d, DL.plG_n, DL.plainAt_a, DL.varM_a, DL.ownM_a, DL.cM_a, DL.ofL_a, DL.opM_a, DL.unM_a, DL.truM_a, DL.tstM_a, DL.notM_a, DL.cnd_t, DL.cnd_f, DL.andM_a, DL.orM_a, DL.andVM_a, DL.notVM_a, DL.iteM_a, DL.chM_a, DL.nilM_a, DL.consM_a, DL.guard_tt, DL.tupM_a, DL.lstM_a, DL.noM_a, DL.intV_i, DL.someM_a, DL.slM_a, DL.rng1M_a, DL.rng2M_a, DL.zipV_t, DL.zipV_l, DL.zipM_a, DL.seqM_a, DL.callM_a, DL.hereM_a, DL.callRM_a, DL.appM_a, DL.lisV_l, DL.catOwnM_a, DL.nameG_a, DL.nilG_a, DL.consG_a, DL.tupG_a, DL.seqS_a, DL.seqK_nx, DL.seqK_rt, DL.seqK_ct, DL.skipM_a, DL.asgM_a, DL.newM_a, DL.asgLM_a, DL.retM_a, DL.exprM_a, DL.ifM_a, DL.forM_a, DL.frzM_a, DL.runF_a, DL.finF_rt, DL.finF_nx, DL.runR_a, DL.finR_rt, DL.finR_nx, DL.sz_0, DL.sz_1, DL.sz_2, DL.sz_3, DL.sz_4, DL.sz_5, DL.sz_6, DL.sz_7, DL.sz_8, DL.sz_9, DL.sz_10, DL.sz_11, DL.sz_12, DL.sz_13, DL.sz_14, DL.sz_15, DL.sz_16, DL.sz_17, DL.sz_18, DL.sz_19, DL.sz_20, DL.sz_21, DL.sz_22, DL.sz_23, DL.sz_24, DL.sz_25, DL.sz_26, DL.sz_27, DL.sz_28, DL.sz_29, DL.sz_30, DL.nc_0, DL.nc_1, DL.nc_2, DL.nc_3, DL.nc_4, DL.nc_5, DL.nc_6, DL.nc_7, DL.nc_8, DL.nc_9, DL.nc_10, DL.nc_11, DL.nc_12, DL.nc_13, DL.nc_14, DL.nc_15, DL.nc_16, DL.nc_17, DL.nc_18, DL.nc_19, DL.nc_20, DL.nc_21, DL.nc_22, DL.nc_23, DL.nc_24, DL.nc_25, DL.nc_26, DL.nc_27, DL.nc_28, DL.nc_29, DL.nc_30, DL.addD_i, DL.addD_t, DL.addD_l, DL.subD_i, DL.modD_i, DL.fdivD_i, DL.mulD_i, DL.lenD_t, DL.lenD_l, DL.tupleD_t, DL.tupleD_l, DL.listD_t, DL.listD_l, DL.truD_i, DL.truD_b, DL.truD_n, DL.truD_l, DL.truD_t, DL.ixD_t, DL.ixD_l, DL.negD_i, DL.bD_a, DL.ltB_i, DL.leB_i, DL.eqB_i, DL.neB_i, DL.min2D_i, DL.max2D_i, DL.items_t, DL.items_l, DL.intD_b, DL.isNN, DL.slD_t, DL.slD_l, DL.sortD2_l, DL.sortD2_t, DL.p_ge0, DL.p_geS, DL.p_tk0, DL.p_tkS, DL.p_tkN, DL.p_dr0, DL.p_drS, DL.p_drN, DL.p_mpC, DL.p_mpN, DL.p_apC, DL.p_apN, DL.p_lnC, DL.p_lnN, DL.p_rpS, DL.p_rp0, DL.p_alC, DL.p_alN, DL.p_gdS, DL.p_gdN, DL.p_tlS, DL.p_tlN, DL.p_ieC, DL.p_ieN, DL.p_nt, DL.p_nf, DL.p_atb, DL.p_afb, DL.p_abt, DL.p_abf, DL.p_eqS, DL.p_dT, DL.p_dF, DL.p_TA, DL.p_AT, DL.p_TO, DL.p_OT, DL.p_startD, DL.p_startR, DL.forK_nx, DL.forK_ct, DL.forK_rt, DL.yesM_a, DL.it1_a, DL.compM_a, DL.wipeR_c, DL.wipeR_n, DL.restR_c, DL.restR_n, DL.gtD_i, DL.gtD_T, DL.ob_assoc, DL.om_bind, DL.ob_map, DL.om_map, DL.cnd_bind, DL.cnd_map, DL.guard_bind, DL.guard_map, DL.atI_c0, DL.atI_c1, DL.atI_c2, DL.atI_c3, DL.encN_0, DL.encN_1, DL.encN_2, DL.encN_u, DL.revD_t, DL.revD_l, DL.eq_TI, DL.ne_TI, DL.in_I, DL.in_Il, DL.in_T, DL.in_R, DL.notInB_a, DL.seqK_ex, DL.finF_ex, DL.forK_ex, DL.tri_no, DL.trm_no, DL.atI_neg1, DL.wipO_nx, DL.wipO_ct, DL.wipO_bk, DL.wipO_rt, DL.wipO_ex, DL.wipM_a, DL.preM_a, DL.two_a, DL.finR_ex, DL.len_map, DL.len_app, DL.len_ir, DL.len_rev, DL.sz_c, DL.rng_c, DL.rngL_n, DL.forM_a', DL.rev_map, DL.seqK_bk, DL.forK_bk, DL.emp_map, DL.eq_LI, DL.ne_LI, DL.eq_LI0, DL.ne_LI0, DL.eq_LT, DL.ne_LT, DL.eq_LR, DL.ne_LR, DL.eq_TR, DL.ne_TR, DL.eq_B, DL.ne_B, DL.wp_mapE, DL.map_id_int, DL.cut_f, DL.cut_t, DL.cut_f1, DL.map_drop', DL.map_take', DL.map_app', DL.len_zip, DL.kn_k, DL.intOf_i, DL.putKM_a, DL.newKM_a, DL.lenKM_a, DL.sortKM_a, DL.whileK_nx, PG.allD_map', PG.eq_BB, PG.ne_BB, Nat.reduceAdd, Nat.reduceSub, Nat.reduceMul, Int.reduceLT, Int.reduceLE, Int.reducePow, Int.reduceNeg, Int.reduceAdd, Int.reduceSub, Int.reduceMul, Int.reduceBEq, Int.reduceBNe, Int.reduceToNat, $xs,*])
namespace FA
open PySem L2 DL GT PG RX
end FA
local macro_rules | `(tactic| simp_arith [$xs,*]) => `(tactic| simp (maxSteps := 2000000) (disch := omega) only [DL.ob_some, DL.om_some, DL.dat_d, DL.lis_l, DL.gt_0, DL.gt_1, DL.gt_2, DL.gt_3, DL.gt_4, DL.gt_5, DL.gt_6, DL.gt_7, DL.gt_b, DL.st_0, DL.st_s, DL.plG_d, DL.plG_n, DL.plainAt_a, DL.varM_a, DL.ownM_a, DL.cM_a, DL.ofL_a, DL.opM_a, DL.unM_a, DL.truM_a, DL.tstM_a, DL.notM_a, DL.cnd_t, DL.cnd_f, DL.andM_a, DL.orM_a, DL.andVM_a, DL.notVM_a, DL.iteM_a, DL.chM_a, DL.nilM_a, DL.consM_a, DL.guard_tt, DL.tupM_a, DL.lstM_a, DL.noM_a, DL.intV_i, DL.someM_a, DL.slM_a, DL.rng1M_a, DL.rng2M_a, DL.zipV_t, DL.zipV_l, DL.zipM_a, DL.seqM_a, DL.callM_a, DL.hereM_a, DL.callRM_a, DL.appM_a, DL.lisV_l, DL.catOwnM_a, DL.nameG_a, DL.nilG_a, DL.consG_a, DL.tupG_a, DL.seqS_a, DL.seqK_nx, DL.seqK_rt, DL.seqK_ct, DL.skipM_a, DL.asgM_a, DL.newM_a, DL.asgLM_a, DL.retM_a, DL.exprM_a, DL.ifM_a, DL.forM_a, DL.frzM_a, DL.runF_a, DL.finF_rt, DL.finF_nx, DL.runR_a, DL.finR_rt, DL.finR_nx, DL.sz_0, DL.sz_1, DL.sz_2, DL.sz_3, DL.sz_4, DL.sz_5, DL.sz_6, DL.sz_7, DL.sz_8, DL.sz_9, DL.sz_10, DL.sz_11, DL.sz_12, DL.sz_13, DL.sz_14, DL.sz_15, DL.sz_16, DL.sz_17, DL.sz_18, DL.sz_19, DL.sz_20, DL.sz_21, DL.sz_22, DL.sz_23, DL.sz_24, DL.sz_25, DL.sz_26, DL.sz_27, DL.sz_28, DL.sz_29, DL.sz_30, DL.nc_0, DL.nc_1, DL.nc_2, DL.nc_3, DL.nc_4, DL.nc_5, DL.nc_6, DL.nc_7, DL.nc_8, DL.nc_9, DL.nc_10, DL.nc_11, DL.nc_12, DL.nc_13, DL.nc_14, DL.nc_15, DL.nc_16, DL.nc_17, DL.nc_18, DL.nc_19, DL.nc_20, DL.nc_21, DL.nc_22, DL.nc_23, DL.nc_24, DL.nc_25, DL.nc_26, DL.nc_27, DL.nc_28, DL.nc_29, DL.nc_30, DL.addD_i, DL.addD_t, DL.addD_l, DL.subD_i, DL.modD_i, DL.fdivD_i, DL.mulD_i, DL.lenD_t, DL.lenD_l, DL.tupleD_t, DL.tupleD_l, DL.listD_t, DL.listD_l, DL.truD_i, DL.truD_b, DL.truD_n, DL.truD_l, DL.truD_t, DL.ixD_t, DL.ixD_l, DL.negD_i, DL.bD_a, DL.ltB_i, DL.leB_i, DL.eqB_i, DL.neB_i, DL.min2D_i, DL.max2D_i, DL.items_t, DL.items_l, DL.intD_b, DL.isNN, DL.slD_t, DL.slD_l, DL.sortD2_l, DL.sortD2_t, DL.p_ge0, DL.p_geS, DL.p_tk0, DL.p_tkS, DL.p_tkN, DL.p_dr0, DL.p_drS, DL.p_drN, DL.p_mpC, DL.p_mpN, DL.p_apC, DL.p_apN, DL.p_lnC, DL.p_lnN, DL.p_rpS, DL.p_rp0, DL.p_alC, DL.p_alN, DL.p_gdS, DL.p_gdN, DL.p_tlS, DL.p_tlN, DL.p_ieC, DL.p_ieN, DL.p_nt, DL.p_nf, DL.p_atb, DL.p_afb, DL.p_abt, DL.p_abf, DL.p_eqS, DL.p_dT, DL.p_dF, DL.p_TA, DL.p_AT, DL.p_TO, DL.p_OT, DL.p_startD, DL.p_startR, DL.forK_nx, DL.forK_ct, DL.forK_rt, DL.yesM_a, DL.it1_a, DL.compM_a, DL.wipeR_c, DL.wipeR_n, DL.restR_c, DL.restR_n, DL.gtD_i, DL.gtD_T, DL.ob_assoc, DL.om_bind, DL.ob_map, DL.om_map, DL.cnd_bind, DL.cnd_map, DL.guard_bind, DL.guard_map, DL.atI_c0, DL.atI_c1, DL.atI_c2, DL.atI_c3, DL.encN_0, DL.encN_1, DL.encN_2, DL.encN_u, DL.revD_t, DL.revD_l, DL.eq_TI, DL.ne_TI, DL.in_I, DL.in_Il, DL.in_T, DL.in_R, DL.notInB_a, DL.seqK_ex, DL.finF_ex, DL.forK_ex, DL.tri_no, DL.trm_no, DL.atI_neg1, DL.wipO_nx, DL.wipO_ct, DL.wipO_bk, DL.wipO_rt, DL.wipO_ex, DL.wipM_a, DL.preM_a, DL.two_a, DL.finR_ex, DL.len_map, DL.len_app, DL.len_ir, DL.len_rev, DL.sz_c, DL.rng_c, DL.rngL_n, DL.forM_a', DL.rev_map, DL.seqK_bk, DL.forK_bk, DL.emp_map, DL.eq_LI, DL.ne_LI, DL.eq_LI0, DL.ne_LI0, DL.eq_LT, DL.ne_LT, DL.eq_LR, DL.ne_LR, DL.eq_TR, DL.ne_TR, DL.eq_B, DL.ne_B, DL.wp_mapE, DL.map_id_int, DL.cut_f, DL.cut_t, DL.cut_f1, DL.map_drop', DL.map_take', DL.map_app', DL.len_zip, DL.kn_k, DL.intOf_i, DL.putKM_a, DL.newKM_a, DL.lenKM_a, DL.sortKM_a, DL.whileK_nx, PG.allD_map', PG.eq_BB, PG.ne_BB, DL.isN_i, DL.rngL_g1, Nat.reduceAdd, Nat.reduceSub, Nat.reduceMul, Int.reduceLT, Int.reduceLE, Int.reducePow, Int.reduceNeg, Int.reduceAdd, Int.reduceSub, Int.reduceMul, Int.reduceBEq, Int.reduceBNe, Int.reduceToNat, $xs,*])
namespace PG
open PySem L2 DL GT RX
/-! the first choice that is right -/
/-! how many groups rows tell apart -/
def word (rows : List (List Int)) (t : Int) : List Bool := rows.map fun row => decide (t ∈ row)
def told (rows : List (List Int)) (m : Nat) : Int × Int := (((once ((ir m).map (word rows))).length : Nat), (((ir m).filter fun t => !(word rows t).any id).length : Nat))
/-! told_by and is_enough -/
/-! the fewest -/
end PG
namespace PG
open PySem L2 DL GT RX
/-! the fewest that see all -/
end PG
namespace PG
open PySem L2 DL GT RX
/-! needless, short -/
end PG
namespace DL
open PySem L2 GT PySem.W
/-! data that are ordered -/
end DL
namespace PG
open PySem L2 DL GT RX
/-! all choices, by their lengths, then rising -/
end PG
local macro_rules | `(tactic| simp_arith [$xs,*]) => `(tactic| simp (maxSteps := 2000000) (disch := omega) only [DL.ob_some, DL.om_some, DL.dat_d, DL.lis_l, DL.gt_0, DL.gt_1, DL.gt_2, DL.gt_3, DL.gt_4, DL.gt_5, DL.gt_6, DL.gt_7, DL.gt_b, DL.st_0, DL.st_s, DL.plG_d, DL.plG_n, DL.plainAt_a, DL.varM_a, DL.ownM_a, DL.cM_a, DL.ofL_a, DL.opM_a, DL.unM_a, DL.truM_a, DL.tstM_a, DL.notM_a, DL.cnd_t, DL.cnd_f, DL.andM_a, DL.orM_a, DL.andVM_a, DL.notVM_a, DL.iteM_a, DL.chM_a, DL.nilM_a, DL.consM_a, DL.guard_tt, DL.tupM_a, DL.lstM_a, DL.noM_a, DL.intV_i, DL.someM_a, DL.slM_a, DL.rng1M_a, DL.rng2M_a, DL.zipV_t, DL.zipV_l, DL.zipM_a, DL.seqM_a, DL.callM_a, DL.hereM_a, DL.callRM_a, DL.appM_a, DL.lisV_l, DL.catOwnM_a, DL.nameG_a, DL.nilG_a, DL.consG_a, DL.tupG_a, DL.seqS_a, DL.seqK_nx, DL.seqK_rt, DL.seqK_ct, DL.skipM_a, DL.asgM_a, DL.newM_a, DL.asgLM_a, DL.retM_a, DL.exprM_a, DL.ifM_a, DL.forM_a, DL.frzM_a, DL.runF_a, DL.finF_rt, DL.finF_nx, DL.runR_a, DL.finR_rt, DL.finR_nx, DL.sz_0, DL.sz_1, DL.sz_2, DL.sz_3, DL.sz_4, DL.sz_5, DL.sz_6, DL.sz_7, DL.sz_8, DL.sz_9, DL.sz_10, DL.sz_11, DL.sz_12, DL.sz_13, DL.sz_14, DL.sz_15, DL.sz_16, DL.sz_17, DL.sz_18, DL.sz_19, DL.sz_20, DL.sz_21, DL.sz_22, DL.sz_23, DL.sz_24, DL.sz_25, DL.sz_26, DL.sz_27, DL.sz_28, DL.sz_29, DL.sz_30, DL.nc_0, DL.nc_1, DL.nc_2, DL.nc_3, DL.nc_4, DL.nc_5, DL.nc_6, DL.nc_7, DL.nc_8, DL.nc_9, DL.nc_10, DL.nc_11, DL.nc_12, DL.nc_13, DL.nc_14, DL.nc_15, DL.nc_16, DL.nc_17, DL.nc_18, DL.nc_19, DL.nc_20, DL.nc_21, DL.nc_22, DL.nc_23, DL.nc_24, DL.nc_25, DL.nc_26, DL.nc_27, DL.nc_28, DL.nc_29, DL.nc_30, DL.addD_i, DL.addD_t, DL.addD_l, DL.subD_i, DL.modD_i, DL.fdivD_i, DL.mulD_i, DL.lenD_t, DL.lenD_l, DL.tupleD_t, DL.tupleD_l, DL.listD_t, DL.listD_l, DL.truD_i, DL.truD_b, DL.truD_n, DL.truD_l, DL.truD_t, DL.ixD_t, DL.ixD_l, DL.negD_i, DL.bD_a, DL.ltB_i, DL.leB_i, DL.eqB_i, DL.neB_i, DL.min2D_i, DL.max2D_i, DL.items_t, DL.items_l, DL.intD_b, DL.isNN, DL.slD_t, DL.slD_l, DL.sortD2_l, DL.sortD2_t, DL.p_ge0, DL.p_geS, DL.p_tk0, DL.p_tkS, DL.p_tkN, DL.p_dr0, DL.p_drS, DL.p_drN, DL.p_mpC, DL.p_mpN, DL.p_apC, DL.p_apN, DL.p_lnC, DL.p_lnN, DL.p_rpS, DL.p_rp0, DL.p_alC, DL.p_alN, DL.p_gdS, DL.p_gdN, DL.p_tlS, DL.p_tlN, DL.p_ieC, DL.p_ieN, DL.p_nt, DL.p_nf, DL.p_atb, DL.p_afb, DL.p_abt, DL.p_abf, DL.p_eqS, DL.p_dT, DL.p_dF, DL.p_TA, DL.p_AT, DL.p_TO, DL.p_OT, DL.p_startD, DL.p_startR, DL.forK_nx, DL.forK_ct, DL.forK_rt, DL.yesM_a, DL.it1_a, DL.compM_a, DL.wipeR_c, DL.wipeR_n, DL.restR_c, DL.restR_n, DL.gtD_i, DL.gtD_T, DL.ob_assoc, DL.om_bind, DL.ob_map, DL.om_map, DL.cnd_bind, DL.cnd_map, DL.guard_bind, DL.guard_map, DL.atI_c0, DL.atI_c1, DL.atI_c2, DL.atI_c3, DL.encN_0, DL.encN_1, DL.encN_2, DL.encN_u, DL.revD_t, DL.revD_l, DL.eq_TI, DL.ne_TI, DL.in_I, DL.in_Il, DL.in_T, DL.in_R, DL.notInB_a, DL.seqK_ex, DL.finF_ex, DL.forK_ex, DL.tri_no, DL.trm_no, DL.atI_neg1, DL.wipO_nx, DL.wipO_ct, DL.wipO_bk, DL.wipO_rt, DL.wipO_ex, DL.wipM_a, DL.preM_a, DL.two_a, DL.finR_ex, DL.len_map, DL.len_app, DL.len_ir, DL.len_rev, DL.sz_c, DL.rng_c, DL.rngL_n, DL.forM_a', DL.rev_map, DL.seqK_bk, DL.forK_bk, DL.emp_map, DL.eq_LI, DL.ne_LI, DL.eq_LI0, DL.ne_LI0, DL.eq_LT, DL.ne_LT, DL.eq_LR, DL.ne_LR, DL.eq_TR, DL.ne_TR, DL.eq_B, DL.ne_B, DL.wp_mapE, DL.map_id_int, DL.cut_f, DL.cut_t, DL.cut_f1, DL.map_drop', DL.map_take', DL.map_app', DL.len_zip, DL.kn_k, DL.intOf_i, DL.putKM_a, DL.newKM_a, DL.lenKM_a, DL.sortKM_a, DL.whileK_nx, PG.allD_map', PG.eq_BB, PG.ne_BB, DL.isN_i, DL.rngL_g1, Nat.reduceAdd, Nat.reduceSub, Nat.reduceMul, Int.reduceLT, Int.reduceLE, Int.reducePow, Int.reduceNeg, Int.reduceAdd, Int.reduceSub, Int.reduceMul, Int.reduceBEq, Int.reduceBNe, Int.reduceToNat, $xs,*])
namespace PG
open PySem L2 DL GT RX
/-! a net with one more tie -/
end PG
namespace PG
open PySem L2 DL GT RX
end PG
namespace PG
open PySem L2 DL GT RX
end PG
namespace DL
open PySem L2 GT
/-! sorted(dict([(tie, 0) ..])) -/
/-! nets compared -/
theorem shaped_net (N : Net) : SeqAt.shaped (encN N) = true := by
  refine sh_mk ?_ ?_
  · simp [encN, PyData.canLay0, PyData.canLayAll0, layAll encF_T, layAll encF_int]
  · have h1 := depAll encF_T N.ties
    have h2 := depAll encF_int N.rim
    simp only [encN, PyData.depth, PyData.depthAll]
    omega
def netEq (A B : Net) : Bool := decide (A.n = B.n) && decide (A.ties = B.ties) && decide (A.rim = B.rim)
theorem eqv_net (A B : Net) : PyData.eqv (encN A) (encN B) = netEq A B := by
  have h1 := eqvAll_map encF_T A.ties B.ties
  have h2 := eqvAll_map encF_int A.rim B.rim
  have h3 := encF_int.eqv (A.n : Int) (B.n : Int)
  simp only [encN, PyData.eqv, PyData.eqvAll] at h1 h2 h3 ⊢
  rw [h1, h2, h3, netEq, Bool.eq_iff_iff]
  simp [and_assoc]
  omega
theorem eq_NN (A B : Net) : eqB (encN A) (encN B) = some (netEq A B) := by
  unfold eqB; rw [shaped_net, shaped_net, eqv_net]; rfl
theorem ne_NN (A B : Net) : neB (encN A) (encN B) = some (!netEq A B) := by
  unfold neB; rw [shaped_net, shaped_net, eqv_net]; rfl
theorem encF_TT : EncF 3 (fun xs : List Tie => PyData.tuple (xs.map encT)) := encF_tup encF_T
theorem eq_TT (a b : List Tie) : eqB (.tuple (a.map encT)) (.tuple (b.map encT)) = some (decide (a = b)) := eq_one encF_TT (by omega) a b
theorem ne_TT (a b : List Tie) : neB (.tuple (a.map encT)) (.tuple (b.map encT)) = some (!decide (a = b)) := ne_one encF_TT (by omega) a b
theorem eq_TT0 (a : List Tie) : eqB (.tuple (a.map encT)) (.tuple []) = some (decide (a = [])) := eq_TT a []
theorem ne_TI0 (a : List Int) : neB (.tuple (a.map .int)) (.tuple []) = some (!decide (a = [])) := ne_TI a []
theorem eq_TI0 (a : List Int) : eqB (.tuple (a.map .int)) (.tuple []) = some (decide (a = [])) := eq_TI a []
end DL
namespace PG
open PySem L2 DL GT RX
end PG
local macro_rules | `(tactic| simp_arith [$xs,*]) => `(tactic| simp (maxSteps := 2000000) (disch := omega) only [DL.ob_some, DL.om_some, DL.dat_d, DL.lis_l, DL.gt_0, DL.gt_1, DL.gt_2, DL.gt_3, DL.gt_4, DL.gt_5, DL.gt_6, DL.gt_7, DL.gt_b, DL.st_0, DL.st_s, DL.plG_d, DL.plG_n, DL.plainAt_a, DL.varM_a, DL.ownM_a, DL.cM_a, DL.ofL_a, DL.opM_a, DL.unM_a, DL.truM_a, DL.tstM_a, DL.notM_a, DL.cnd_t, DL.cnd_f, DL.andM_a, DL.orM_a, DL.andVM_a, DL.notVM_a, DL.iteM_a, DL.chM_a, DL.nilM_a, DL.consM_a, DL.guard_tt, DL.tupM_a, DL.lstM_a, DL.noM_a, DL.intV_i, DL.someM_a, DL.slM_a, DL.rng1M_a, DL.rng2M_a, DL.zipV_t, DL.zipV_l, DL.zipM_a, DL.seqM_a, DL.callM_a, DL.hereM_a, DL.callRM_a, DL.appM_a, DL.lisV_l, DL.catOwnM_a, DL.nameG_a, DL.nilG_a, DL.consG_a, DL.tupG_a, DL.seqS_a, DL.seqK_nx, DL.seqK_rt, DL.seqK_ct, DL.skipM_a, DL.asgM_a, DL.newM_a, DL.asgLM_a, DL.retM_a, DL.exprM_a, DL.ifM_a, DL.forM_a, DL.frzM_a, DL.runF_a, DL.finF_rt, DL.finF_nx, DL.runR_a, DL.finR_rt, DL.finR_nx, DL.sz_0, DL.sz_1, DL.sz_2, DL.sz_3, DL.sz_4, DL.sz_5, DL.sz_6, DL.sz_7, DL.sz_8, DL.sz_9, DL.sz_10, DL.sz_11, DL.sz_12, DL.sz_13, DL.sz_14, DL.sz_15, DL.sz_16, DL.sz_17, DL.sz_18, DL.sz_19, DL.sz_20, DL.sz_21, DL.sz_22, DL.sz_23, DL.sz_24, DL.sz_25, DL.sz_26, DL.sz_27, DL.sz_28, DL.sz_29, DL.sz_30, DL.nc_0, DL.nc_1, DL.nc_2, DL.nc_3, DL.nc_4, DL.nc_5, DL.nc_6, DL.nc_7, DL.nc_8, DL.nc_9, DL.nc_10, DL.nc_11, DL.nc_12, DL.nc_13, DL.nc_14, DL.nc_15, DL.nc_16, DL.nc_17, DL.nc_18, DL.nc_19, DL.nc_20, DL.nc_21, DL.nc_22, DL.nc_23, DL.nc_24, DL.nc_25, DL.nc_26, DL.nc_27, DL.nc_28, DL.nc_29, DL.nc_30, DL.addD_i, DL.addD_t, DL.addD_l, DL.subD_i, DL.modD_i, DL.fdivD_i, DL.mulD_i, DL.lenD_t, DL.lenD_l, DL.tupleD_t, DL.tupleD_l, DL.listD_t, DL.listD_l, DL.truD_i, DL.truD_b, DL.truD_n, DL.truD_l, DL.truD_t, DL.ixD_t, DL.ixD_l, DL.negD_i, DL.bD_a, DL.ltB_i, DL.leB_i, DL.eqB_i, DL.neB_i, DL.min2D_i, DL.max2D_i, DL.items_t, DL.items_l, DL.intD_b, DL.isNN, DL.slD_t, DL.slD_l, DL.sortD2_l, DL.sortD2_t, DL.p_ge0, DL.p_geS, DL.p_tk0, DL.p_tkS, DL.p_tkN, DL.p_dr0, DL.p_drS, DL.p_drN, DL.p_mpC, DL.p_mpN, DL.p_apC, DL.p_apN, DL.p_lnC, DL.p_lnN, DL.p_rpS, DL.p_rp0, DL.p_alC, DL.p_alN, DL.p_gdS, DL.p_gdN, DL.p_tlS, DL.p_tlN, DL.p_ieC, DL.p_ieN, DL.p_nt, DL.p_nf, DL.p_atb, DL.p_afb, DL.p_abt, DL.p_abf, DL.p_eqS, DL.p_dT, DL.p_dF, DL.p_TA, DL.p_AT, DL.p_TO, DL.p_OT, DL.p_startD, DL.p_startR, DL.forK_nx, DL.forK_ct, DL.forK_rt, DL.yesM_a, DL.it1_a, DL.compM_a, DL.wipeR_c, DL.wipeR_n, DL.restR_c, DL.restR_n, DL.gtD_i, DL.gtD_T, DL.ob_assoc, DL.om_bind, DL.ob_map, DL.om_map, DL.cnd_bind, DL.cnd_map, DL.guard_bind, DL.guard_map, DL.atI_c0, DL.atI_c1, DL.atI_c2, DL.atI_c3, DL.encN_0, DL.encN_1, DL.encN_2, DL.encN_u, DL.revD_t, DL.revD_l, DL.eq_TI, DL.ne_TI, DL.in_I, DL.in_Il, DL.in_T, DL.in_R, DL.notInB_a, DL.seqK_ex, DL.finF_ex, DL.forK_ex, DL.tri_no, DL.trm_no, DL.atI_neg1, DL.wipO_nx, DL.wipO_ct, DL.wipO_bk, DL.wipO_rt, DL.wipO_ex, DL.wipM_a, DL.preM_a, DL.two_a, DL.finR_ex, DL.len_map, DL.len_app, DL.len_ir, DL.len_rev, DL.sz_c, DL.rng_c, DL.rngL_n, DL.forM_a', DL.rev_map, DL.seqK_bk, DL.forK_bk, DL.emp_map, DL.eq_LI, DL.ne_LI, DL.eq_LI0, DL.ne_LI0, DL.eq_LT, DL.ne_LT, DL.eq_LR, DL.ne_LR, DL.eq_TR, DL.ne_TR, DL.eq_B, DL.ne_B, DL.wp_mapE, DL.map_id_int, DL.cut_f, DL.cut_t, DL.cut_f1, DL.map_drop', DL.map_take', DL.map_app', DL.len_zip, DL.kn_k, DL.intOf_i, DL.putKM_a, DL.newKM_a, DL.lenKM_a, DL.sortKM_a, DL.whileK_nx, PG.allD_map', PG.eq_BB, PG.ne_BB, DL.isN_i, DL.rngL_g1, DL.eq_NN, DL.ne_NN, DL.eq_TT, DL.ne_TT, DL.eq_TT0, DL.ne_TI0, DL.eq_TI0, Nat.reduceAdd, Nat.reduceSub, Nat.reduceMul, Int.reduceLT, Int.reduceLE, Int.reducePow, Int.reduceNeg, Int.reduceAdd, Int.reduceSub, Int.reduceMul, Int.reduceBEq, Int.reduceBNe, Int.reduceToNat, $xs,*])
namespace PG
open PySem L2 DL GT RX
end PG
namespace PG
open PySem L2 DL GT RX
end PG
namespace PG
open PySem L2 DL GT RX
end PG
local macro_rules | `(tactic| simp_arith [$xs,*]) => `(tactic| simp (maxSteps := 2000000) (disch := omega) only [DL.ob_some, DL.om_some, DL.dat_d, DL.lis_l, DL.gt_0, DL.gt_1, DL.gt_2, DL.gt_3, DL.gt_4, DL.gt_5, DL.gt_6, DL.gt_7, DL.gt_b, DL.st_0, DL.st_s, DL.plG_d, DL.plG_n, DL.plainAt_a, DL.varM_a, DL.ownM_a, DL.cM_a, DL.ofL_a, DL.opM_a, DL.unM_a, DL.truM_a, DL.tstM_a, DL.notM_a, DL.cnd_t, DL.cnd_f, DL.andM_a, DL.orM_a, DL.andVM_a, DL.notVM_a, DL.iteM_a, DL.chM_a, DL.nilM_a, DL.consM_a, DL.guard_tt, DL.tupM_a, DL.lstM_a, DL.noM_a, DL.intV_i, DL.someM_a, DL.slM_a, DL.rng1M_a, DL.rng2M_a, DL.zipV_t, DL.zipV_l, DL.zipM_a, DL.seqM_a, DL.callM_a, DL.hereM_a, DL.callRM_a, DL.appM_a, DL.lisV_l, DL.catOwnM_a, DL.nameG_a, DL.nilG_a, DL.consG_a, DL.tupG_a, DL.seqS_a, DL.seqK_nx, DL.seqK_rt, DL.seqK_ct, DL.skipM_a, DL.asgM_a, DL.newM_a, DL.asgLM_a, DL.retM_a, DL.exprM_a, DL.ifM_a, DL.forM_a, DL.frzM_a, DL.runF_a, DL.finF_rt, DL.finF_nx, DL.runR_a, DL.finR_rt, DL.finR_nx, DL.sz_0, DL.sz_1, DL.sz_2, DL.sz_3, DL.sz_4, DL.sz_5, DL.sz_6, DL.sz_7, DL.sz_8, DL.sz_9, DL.sz_10, DL.sz_11, DL.sz_12, DL.sz_13, DL.sz_14, DL.sz_15, DL.sz_16, DL.sz_17, DL.sz_18, DL.sz_19, DL.sz_20, DL.sz_21, DL.sz_22, DL.sz_23, DL.sz_24, DL.sz_25, DL.sz_26, DL.sz_27, DL.sz_28, DL.sz_29, DL.sz_30, DL.nc_0, DL.nc_1, DL.nc_2, DL.nc_3, DL.nc_4, DL.nc_5, DL.nc_6, DL.nc_7, DL.nc_8, DL.nc_9, DL.nc_10, DL.nc_11, DL.nc_12, DL.nc_13, DL.nc_14, DL.nc_15, DL.nc_16, DL.nc_17, DL.nc_18, DL.nc_19, DL.nc_20, DL.nc_21, DL.nc_22, DL.nc_23, DL.nc_24, DL.nc_25, DL.nc_26, DL.nc_27, DL.nc_28, DL.nc_29, DL.nc_30, DL.addD_i, DL.addD_t, DL.addD_l, DL.subD_i, DL.modD_i, DL.fdivD_i, DL.mulD_i, DL.lenD_t, DL.lenD_l, DL.tupleD_t, DL.tupleD_l, DL.listD_t, DL.listD_l, DL.truD_i, DL.truD_b, DL.truD_n, DL.truD_l, DL.truD_t, DL.ixD_t, DL.ixD_l, DL.negD_i, DL.bD_a, DL.ltB_i, DL.leB_i, DL.eqB_i, DL.neB_i, DL.min2D_i, DL.max2D_i, DL.items_t, DL.items_l, DL.intD_b, DL.isNN, DL.slD_t, DL.slD_l, DL.sortD2_l, DL.sortD2_t, DL.p_ge0, DL.p_geS, DL.p_tk0, DL.p_tkS, DL.p_tkN, DL.p_dr0, DL.p_drS, DL.p_drN, DL.p_mpC, DL.p_mpN, DL.p_apC, DL.p_apN, DL.p_lnC, DL.p_lnN, DL.p_rpS, DL.p_rp0, DL.p_alC, DL.p_alN, DL.p_gdS, DL.p_gdN, DL.p_tlS, DL.p_tlN, DL.p_ieC, DL.p_ieN, DL.p_nt, DL.p_nf, DL.p_atb, DL.p_afb, DL.p_abt, DL.p_abf, DL.p_eqS, DL.p_dT, DL.p_dF, DL.p_TA, DL.p_AT, DL.p_TO, DL.p_OT, DL.p_startD, DL.p_startR, DL.forK_nx, DL.forK_ct, DL.forK_rt, DL.yesM_a, DL.it1_a, DL.compM_a, DL.wipeR_c, DL.wipeR_n, DL.restR_c, DL.restR_n, DL.gtD_i, DL.gtD_T, DL.ob_assoc, DL.om_bind, DL.ob_map, DL.om_map, DL.cnd_bind, DL.cnd_map, DL.guard_bind, DL.guard_map, DL.atI_c0, DL.atI_c1, DL.atI_c2, DL.atI_c3, DL.encN_0, DL.encN_1, DL.encN_2, DL.encN_u, DL.revD_t, DL.revD_l, DL.eq_TI, DL.ne_TI, DL.in_I, DL.in_Il, DL.in_T, DL.in_R, DL.notInB_a, DL.seqK_ex, DL.finF_ex, DL.forK_ex, DL.tri_no, DL.trm_no, DL.atI_neg1, DL.wipO_nx, DL.wipO_ct, DL.wipO_bk, DL.wipO_rt, DL.wipO_ex, DL.wipM_a, DL.preM_a, DL.two_a, DL.finR_ex, DL.len_map, DL.len_app, DL.len_ir, DL.len_rev, DL.sz_c, DL.rng_c, DL.rngL_n, DL.forM_a', DL.rev_map, DL.seqK_bk, DL.forK_bk, DL.emp_map, DL.eq_LI, DL.ne_LI, DL.eq_LI0, DL.ne_LI0, DL.eq_LT, DL.ne_LT, DL.eq_LR, DL.ne_LR, DL.eq_TR, DL.ne_TR, DL.eq_B, DL.ne_B, DL.wp_mapE, DL.map_id_int, DL.cut_f, DL.cut_t, DL.cut_f1, DL.map_drop', DL.map_take', DL.map_app', DL.len_zip, DL.kn_k, DL.intOf_i, DL.putKM_a, DL.newKM_a, DL.lenKM_a, DL.sortKM_a, DL.whileK_nx, PG.allD_map', PG.eq_BB, PG.ne_BB, DL.isN_i, DL.rngL_g1, DL.eq_NN, DL.ne_NN, DL.eq_TT, DL.ne_TT, DL.eq_TT0, DL.ne_TI0, DL.eq_TI0, Nat.reduceAdd, Nat.reduceSub, Nat.reduceMul, Int.reduceLT, Int.reduceLE, Int.reducePow, Int.reduceNeg, Int.reduceAdd, Int.reduceSub, Int.reduceMul, Int.reduceBEq, Int.reduceBNe, Int.reduceToNat, $xs,*])
namespace DL
open PySem L2 GT PySem.W
/-! the least of data that are ordered -/
end DL
namespace PG
open PySem L2 DL GT RX
/-! the routes that barring takes are the least of the most -/
end PG
namespace PG
open PySem L2 DL GT RX
/-! the shortest -/
end PG
namespace PG
open PySem L2 DL GT RX
/-! ways, knots perhaps more than once -/
structure Wk (N : Net) (a b : Int) (p : List Int) : Prop where
  hd : p.head? = some a
  la : p.getLast? = some b
  lk : linked N p = true
section
variable {N : Net} {a b : Int}
theorem Wk.cons {c : Int} {p : List Int} (e : adj N c a = true) (h : Wk N a b p) : Wk N c b (c :: p) := by
  cases p with
  | nil => have := h.hd; simp at this
  | cons x p =>
    have := h.hd
    simp at this
    subst this
    exact ⟨rfl, by rw [List.getLast?_cons_cons]; exact h.la, linked_cons.mpr ⟨e, h.lk⟩⟩
/-- the last step -/
theorem Wk.back {p : List Int} (h : Wk N a b p) (two : 2 ≤ p.length) : ∃ c q, Wk N a c q ∧ adj N c b = true ∧ p.length = q.length + 1 := by
  have la := h.la
  rcases List.eq_nil_or_concat p with rfl | ⟨q, x, rfl⟩
  · simp at la
  · rw [List.concat_eq_append] at la h two ⊢
    simp at la
    subst la
    have qn : q ≠ [] := by rintro rfl; simp at two
    have hl : q.getLast? = some (q.getLast qn) := List.getLast?_eq_some_getLast qn
    obtain ⟨h1, h2⟩ := (linked_snoc hl).mp h.lk
    refine ⟨q.getLast qn, q, ⟨?_, hl, h1⟩, h2, by simp⟩
    have := h.hd
    cases q with
    | nil => exact absurd rfl qn
    | cons y q => simpa using this
end
/-! knots with how far they are -/
/-! step by step -/
structure Lev (N : Net) (a : Int) (L : Nat) (fs : List (Int × Nat)) (ring : List Int) : Prop where
  pos : 1 ≤ L
  nd : (fs.map (·.1)).Nodup
  inn : ∀ k ∈ fs.map (·.1), k ∈ ir N.n
  way : ∀ k v, (k, v) ∈ fs → ∃ p, Wk N a k p ∧ p.length = v
  least : ∀ k p, Wk N a k p → p.length ≤ L → ∃ v, (k, v) ∈ fs ∧ v ≤ p.length
  top : ∀ k v, (k, v) ∈ fs → v ≤ L
  rg : ∀ k, k ∈ ring ↔ (k, L) ∈ fs
  rn : ring.Nodup
section
variable {N : Net} {a : Int} {L : Nat} {fs : List (Int × Nat)} {ring : List Int}
theorem Lev.one (ha : 0 ≤ a ∧ a < N.n) : Lev N a 1 [(a, 1)] [a] where
  pos := Nat.le_refl _
  nd := by simp
  inn := fun k m => by simp at m; subst m; exact mem_ir.mpr ha
  way := fun k v m => by simp at m; obtain ⟨rfl, rfl⟩ := m; exact ⟨[k], ⟨rfl, rfl, rfl⟩, rfl⟩
  least := fun k p h le => by
    have h1 := h.hd
    have h2 := h.la
    match p, h1, h2, le with
    | [], h1, _, _ => simp at h1
    | [u], h1, h2, _ => simp at h1 h2; subst h1 h2; exact ⟨1, by simp, by simp⟩
    | _ :: _ :: _, _, _, le => simp at le
  top := fun k v m => by simp at m; omega
  rg := fun k => by simp
  rn := by simp
end
end PG
namespace PG
open PySem L2 DL GT RX
end PG
local macro_rules | `(tactic| simp_arith [$xs,*]) => `(tactic| simp (maxSteps := 2000000) (disch := omega) only [DL.ob_some, DL.om_some, DL.dat_d, DL.lis_l, DL.gt_0, DL.gt_1, DL.gt_2, DL.gt_3, DL.gt_4, DL.gt_5, DL.gt_6, DL.gt_7, DL.gt_b, DL.st_0, DL.st_s, DL.plG_d, DL.plG_n, DL.plainAt_a, DL.varM_a, DL.ownM_a, DL.cM_a, DL.ofL_a, DL.opM_a, DL.unM_a, DL.truM_a, DL.tstM_a, DL.notM_a, DL.cnd_t, DL.cnd_f, DL.andM_a, DL.orM_a, DL.andVM_a, DL.notVM_a, DL.iteM_a, DL.chM_a, DL.nilM_a, DL.consM_a, DL.guard_tt, DL.tupM_a, DL.lstM_a, DL.noM_a, DL.intV_i, DL.someM_a, DL.slM_a, DL.rng1M_a, DL.rng2M_a, DL.zipV_t, DL.zipV_l, DL.zipM_a, DL.seqM_a, DL.callM_a, DL.hereM_a, DL.callRM_a, DL.appM_a, DL.lisV_l, DL.catOwnM_a, DL.nameG_a, DL.nilG_a, DL.consG_a, DL.tupG_a, DL.seqS_a, DL.seqK_nx, DL.seqK_rt, DL.seqK_ct, DL.skipM_a, DL.asgM_a, DL.newM_a, DL.asgLM_a, DL.retM_a, DL.exprM_a, DL.ifM_a, DL.forM_a, DL.frzM_a, DL.runF_a, DL.finF_rt, DL.finF_nx, DL.runR_a, DL.finR_rt, DL.finR_nx, DL.sz_0, DL.sz_1, DL.sz_2, DL.sz_3, DL.sz_4, DL.sz_5, DL.sz_6, DL.sz_7, DL.sz_8, DL.sz_9, DL.sz_10, DL.sz_11, DL.sz_12, DL.sz_13, DL.sz_14, DL.sz_15, DL.sz_16, DL.sz_17, DL.sz_18, DL.sz_19, DL.sz_20, DL.sz_21, DL.sz_22, DL.sz_23, DL.sz_24, DL.sz_25, DL.sz_26, DL.sz_27, DL.sz_28, DL.sz_29, DL.sz_30, DL.nc_0, DL.nc_1, DL.nc_2, DL.nc_3, DL.nc_4, DL.nc_5, DL.nc_6, DL.nc_7, DL.nc_8, DL.nc_9, DL.nc_10, DL.nc_11, DL.nc_12, DL.nc_13, DL.nc_14, DL.nc_15, DL.nc_16, DL.nc_17, DL.nc_18, DL.nc_19, DL.nc_20, DL.nc_21, DL.nc_22, DL.nc_23, DL.nc_24, DL.nc_25, DL.nc_26, DL.nc_27, DL.nc_28, DL.nc_29, DL.nc_30, DL.addD_i, DL.addD_t, DL.addD_l, DL.subD_i, DL.modD_i, DL.fdivD_i, DL.mulD_i, DL.lenD_t, DL.lenD_l, DL.tupleD_t, DL.tupleD_l, DL.listD_t, DL.listD_l, DL.truD_i, DL.truD_b, DL.truD_n, DL.truD_l, DL.truD_t, DL.ixD_t, DL.ixD_l, DL.negD_i, DL.bD_a, DL.ltB_i, DL.leB_i, DL.eqB_i, DL.neB_i, DL.min2D_i, DL.max2D_i, DL.items_t, DL.items_l, DL.intD_b, DL.isNN, DL.slD_t, DL.slD_l, DL.sortD2_l, DL.sortD2_t, DL.p_ge0, DL.p_geS, DL.p_tk0, DL.p_tkS, DL.p_tkN, DL.p_dr0, DL.p_drS, DL.p_drN, DL.p_mpC, DL.p_mpN, DL.p_apC, DL.p_apN, DL.p_lnC, DL.p_lnN, DL.p_rpS, DL.p_rp0, DL.p_alC, DL.p_alN, DL.p_gdS, DL.p_gdN, DL.p_tlS, DL.p_tlN, DL.p_ieC, DL.p_ieN, DL.p_nt, DL.p_nf, DL.p_atb, DL.p_afb, DL.p_abt, DL.p_abf, DL.p_eqS, DL.p_dT, DL.p_dF, DL.p_TA, DL.p_AT, DL.p_TO, DL.p_OT, DL.p_startD, DL.p_startR, DL.forK_nx, DL.forK_ct, DL.forK_rt, DL.yesM_a, DL.it1_a, DL.compM_a, DL.wipeR_c, DL.wipeR_n, DL.restR_c, DL.restR_n, DL.gtD_i, DL.gtD_T, DL.ob_assoc, DL.om_bind, DL.ob_map, DL.om_map, DL.cnd_bind, DL.cnd_map, DL.guard_bind, DL.guard_map, DL.atI_c0, DL.atI_c1, DL.atI_c2, DL.atI_c3, DL.encN_0, DL.encN_1, DL.encN_2, DL.encN_u, DL.revD_t, DL.revD_l, DL.eq_TI, DL.ne_TI, DL.in_I, DL.in_Il, DL.in_T, DL.in_R, DL.notInB_a, DL.seqK_ex, DL.finF_ex, DL.forK_ex, DL.tri_no, DL.trm_no, DL.atI_neg1, DL.wipO_nx, DL.wipO_ct, DL.wipO_bk, DL.wipO_rt, DL.wipO_ex, DL.wipM_a, DL.preM_a, DL.two_a, DL.finR_ex, DL.len_map, DL.len_app, DL.len_ir, DL.len_rev, DL.sz_c, DL.rng_c, DL.rngL_n, DL.forM_a', DL.rev_map, DL.seqK_bk, DL.forK_bk, DL.emp_map, DL.eq_LI, DL.ne_LI, DL.eq_LI0, DL.ne_LI0, DL.eq_LT, DL.ne_LT, DL.eq_LR, DL.ne_LR, DL.eq_TR, DL.ne_TR, DL.eq_B, DL.ne_B, DL.wp_mapE, DL.map_id_int, DL.cut_f, DL.cut_t, DL.cut_f1, DL.map_drop', DL.map_take', DL.map_app', DL.len_zip, DL.kn_k, DL.intOf_i, DL.putKM_a, DL.newKM_a, DL.lenKM_a, DL.sortKM_a, DL.whileK_nx, PG.allD_map', PG.eq_BB, PG.ne_BB, DL.isN_i, DL.rngL_g1, DL.flag_k, DL.flag_s, DL.flag_l, DL.eq_NN, DL.ne_NN, DL.eq_TT, DL.ne_TT, DL.eq_TT0, DL.ne_TI0, DL.eq_TI0, Nat.reduceAdd, Nat.reduceSub, Nat.reduceMul, Int.reduceLT, Int.reduceLE, Int.reducePow, Int.reduceNeg, Int.reduceAdd, Int.reduceSub, Int.reduceMul, Int.reduceBEq, Int.reduceBNe, Int.reduceToNat, $xs,*])
namespace DL
open PySem L2
/-! what is the same equals itself -/
/-- shaped, by depth -/
structure Shp (k : Nat) (d : D) : Prop where
  lay : d.canLay0 = true
  dep : d.depth ≤ k
theorem Shp.shaped {k : Nat} {d : D} (h : Shp k d) (hk : k ≤ 64 := by omega) : SeqAt.shaped d = true := sh_mk h.lay (Nat.le_trans h.dep hk)
theorem Shp.mono {j k : Nat} {d : D} (h : Shp j d) (hk : j ≤ k := by omega) : Shp k d := ⟨h.lay, Nat.le_trans h.dep hk⟩
theorem shpAll {k : Nat} : ∀ {ds : List D}, (∀ d ∈ ds, Shp k d) → PyData.canLayAll0 ds = true ∧ PyData.depthAll ds ≤ k
  | [], _ => by simp [PyData.canLayAll0, PyData.depthAll]
  | d :: ds, h => by
    obtain ⟨h1, h2⟩ := shpAll (ds := ds) fun x m => h x (List.mem_cons_of_mem _ m)
    have h3 := h d List.mem_cons_self
    simp only [PyData.canLayAll0, PyData.depthAll, h3.lay, h1, Bool.and_self, true_and]
    have := h3.dep
    omega
theorem Shp.tup {k : Nat} {ds : List D} (h : ∀ d ∈ ds, Shp k d) : Shp (k + 1) (.tuple ds) := by
  obtain ⟨h1, h2⟩ := shpAll h
  exact ⟨by simpa [PyData.canLay0] using h1, by simp only [PyData.depth]; omega⟩
theorem Shp.lst {k : Nat} {ds : List D} (h : ∀ d ∈ ds, Shp k d) : Shp (k + 1) (.list ds) := by
  obtain ⟨h1, h2⟩ := shpAll h
  exact ⟨by simpa [PyData.canLay0] using h1, by simp only [PyData.depth]; omega⟩
theorem Shp.int (i : Int) : Shp 1 (.int i) := ⟨by simp [PyData.canLay0], by simp [PyData.depth]⟩
theorem Shp.none : Shp 1 .none := ⟨by simp [PyData.canLay0], by simp [PyData.depth]⟩
theorem Shp.bool (b : Bool) : Shp 1 (.bool b) := ⟨by simp [PyData.canLay0], by simp [PyData.depth]⟩
/-! slices with a step -/
end DL
local macro_rules | `(tactic| simp_arith [$xs,*]) => `(tactic| simp (maxSteps := 2000000) (disch := omega) only [L_k04.Sq__law_is_route_1_a, L_k04.Sq__law_is_route_2_a, L_k04.Sq__law_is_route_3_a, L_k04.Sq_law_1_a, L_k04.Sq_law_2_a, L_k04.Sq_law_3_a, L_k04.Sq_law_4_a, L_k04.Sq_law_5_a, L_k04.Sq_law_6_a, L_k04.Sq_law_7_a, L_k04.Sq_law_8_a, L_k04.Sq_law_9_a, L_k04.Sq_law_10_a, L_k04.Sq_law_11_a, L_k04.Sq_law_12_a, DL.ob_some, DL.om_some, DL.dat_d, DL.lis_l, DL.gt_0, DL.gt_1, DL.gt_2, DL.gt_3, DL.gt_4, DL.gt_5, DL.gt_6, DL.gt_7, DL.gt_b, DL.st_0, DL.st_s, DL.plG_d, DL.plG_n, DL.plainAt_a, DL.varM_a, DL.ownM_a, DL.cM_a, DL.ofL_a, DL.opM_a, DL.unM_a, DL.truM_a, DL.tstM_a, DL.notM_a, DL.cnd_t, DL.cnd_f, DL.andM_a, DL.orM_a, DL.andVM_a, DL.notVM_a, DL.iteM_a, DL.chM_a, DL.nilM_a, DL.consM_a, DL.guard_tt, DL.tupM_a, DL.lstM_a, DL.noM_a, DL.intV_i, DL.someM_a, DL.slM_a, DL.rng1M_a, DL.rng2M_a, DL.zipV_t, DL.zipV_l, DL.zipM_a, DL.seqM_a, DL.callM_a, DL.hereM_a, DL.callRM_a, DL.appM_a, DL.lisV_l, DL.catOwnM_a, DL.nameG_a, DL.nilG_a, DL.consG_a, DL.tupG_a, DL.seqS_a, DL.seqK_nx, DL.seqK_rt, DL.seqK_ct, DL.skipM_a, DL.asgM_a, DL.newM_a, DL.asgLM_a, DL.retM_a, DL.exprM_a, DL.ifM_a, DL.forM_a, DL.frzM_a, DL.runF_a, DL.finF_rt, DL.finF_nx, DL.runR_a, DL.finR_rt, DL.finR_nx, DL.sz_0, DL.sz_1, DL.sz_2, DL.sz_3, DL.sz_4, DL.sz_5, DL.sz_6, DL.sz_7, DL.sz_8, DL.sz_9, DL.sz_10, DL.sz_11, DL.sz_12, DL.sz_13, DL.sz_14, DL.sz_15, DL.sz_16, DL.sz_17, DL.sz_18, DL.sz_19, DL.sz_20, DL.sz_21, DL.sz_22, DL.sz_23, DL.sz_24, DL.sz_25, DL.sz_26, DL.sz_27, DL.sz_28, DL.sz_29, DL.sz_30, DL.nc_0, DL.nc_1, DL.nc_2, DL.nc_3, DL.nc_4, DL.nc_5, DL.nc_6, DL.nc_7, DL.nc_8, DL.nc_9, DL.nc_10, DL.nc_11, DL.nc_12, DL.nc_13, DL.nc_14, DL.nc_15, DL.nc_16, DL.nc_17, DL.nc_18, DL.nc_19, DL.nc_20, DL.nc_21, DL.nc_22, DL.nc_23, DL.nc_24, DL.nc_25, DL.nc_26, DL.nc_27, DL.nc_28, DL.nc_29, DL.nc_30, DL.addD_i, DL.addD_t, DL.addD_l, DL.subD_i, DL.modD_i, DL.fdivD_i, DL.mulD_i, DL.lenD_t, DL.lenD_l, DL.tupleD_t, DL.tupleD_l, DL.listD_t, DL.listD_l, DL.truD_i, DL.truD_b, DL.truD_n, DL.truD_l, DL.truD_t, DL.ixD_t, DL.ixD_l, DL.negD_i, DL.bD_a, DL.ltB_i, DL.leB_i, DL.eqB_i, DL.neB_i, DL.min2D_i, DL.max2D_i, DL.items_t, DL.items_l, DL.intD_b, DL.isNN, DL.slD_t, DL.slD_l, DL.sortD2_l, DL.sortD2_t, DL.p_ge0, DL.p_geS, DL.p_tk0, DL.p_tkS, DL.p_tkN, DL.p_dr0, DL.p_drS, DL.p_drN, DL.p_mpC, DL.p_mpN, DL.p_apC, DL.p_apN, DL.p_lnC, DL.p_lnN, DL.p_rpS, DL.p_rp0, DL.p_alC, DL.p_alN, DL.p_gdS, DL.p_gdN, DL.p_tlS, DL.p_tlN, DL.p_ieC, DL.p_ieN, DL.p_nt, DL.p_nf, DL.p_atb, DL.p_afb, DL.p_abt, DL.p_abf, DL.p_eqS, DL.p_dT, DL.p_dF, DL.p_TA, DL.p_AT, DL.p_TO, DL.p_OT, DL.p_startD, DL.p_startR, DL.forK_nx, DL.forK_ct, DL.forK_rt, DL.yesM_a, DL.it1_a, DL.compM_a, DL.wipeR_c, DL.wipeR_n, DL.restR_c, DL.restR_n, DL.gtD_i, DL.gtD_T, DL.ob_assoc, DL.om_bind, DL.ob_map, DL.om_map, DL.cnd_bind, DL.cnd_map, DL.guard_bind, DL.guard_map, DL.atI_c0, DL.atI_c1, DL.atI_c2, DL.atI_c3, DL.encN_0, DL.encN_1, DL.encN_2, DL.encN_u, DL.revD_t, DL.revD_l, DL.kn_k, DL.intOf_i, DL.putKM_a, DL.newKM_a, DL.lenKM_a, DL.sortKM_a, DL.eq_TI, DL.ne_TI, DL.in_I, DL.in_Il, DL.in_T, DL.in_R, DL.notInB_a, DL.seqK_ex, DL.finF_ex, DL.forK_ex, DL.tri_no, DL.trm_no, DL.atI_neg1, DL.whileK_nx, DL.wipO_nx, DL.wipO_ct, DL.wipO_bk, DL.wipO_rt, DL.wipO_ex, DL.wipM_a, DL.preM_a, DL.two_a, DL.finR_ex, DL.len_map, DL.len_app, DL.len_ir, DL.len_rev, DL.sz_c, DL.rng_c, DL.rngL_n, DL.forM_a', DL.rev_map, DL.seqK_bk, DL.forK_bk, DL.emp_map, DL.eq_LI, DL.ne_LI, DL.eq_LI0, DL.ne_LI0, DL.eq_LT, DL.ne_LT, DL.eq_LR, DL.ne_LR, DL.eq_TR, DL.ne_TR, DL.eq_B, DL.ne_B, DL.wp_mapE, DL.map_id_int, DL.cut_f, DL.cut_t, DL.cut_f1, DL.map_drop', DL.map_take', DL.map_app', DL.len_zip, PG.allD_map', PG.eq_BB, PG.ne_BB, DL.isN_i, DL.rngL_g1, DL.flag_k, DL.flag_s, DL.flag_l, DL.eq_NN, DL.ne_NN, DL.eq_TT, DL.ne_TT, DL.eq_TT0, DL.ne_TI0, DL.eq_TI0, Nat.reduceAdd, Nat.reduceSub, Nat.reduceMul, Int.reduceLT, Int.reduceLE, Int.reducePow, Int.reduceNeg, Int.reduceAdd, Int.reduceSub, Int.reduceMul, Int.reduceBEq, Int.reduceBNe, Int.reduceToNat, $xs,*])
namespace L_k04
open PySem L2 DL GT PG FA RX
theorem isi_int (d : D) : isiD .int d = some (.bool (match d with | .int _ => true | .bool _ => true | _ => false)) := by cases d <;> rfl
theorem isi_bool (d : D) : isiD .bool d = some (.bool (match d with | .bool _ => true | _ => false)) := by cases d <;> rfl
theorem countTD_a (ds : List D) (x : D) : countTD (.tuple ds) x = guard' (SeqAt.shaped (.tuple ds) && SeqAt.shaped x) fun _ => some (.int (ds.countP fun z => PyData.eqv z x : Nat)) := (rfl)
theorem wp_findD {β : Type} {g : GM} {f : SM} {as : List D} {r : Rho} {K : Out → Option β} {Q : β → Prop} (p : D → Bool) (v : D → D)
    (step : ∀ a ∈ as, wp ((g r a).bind f) (fun o => if p a = true then ∃ r', o = .rt (v a) r' else goesOn (· = r) o)) (k1 : ∀ a r', as.find? p = some a → wp (K (.rt (v a) r')) Q) (k2 : as.find? p = none → wp (K (.nx r)) Q) : wp ((forL g f as r).bind K) Q := by
  have := wp_find (enc := id) p v step k1 k2
  rwa [List.map_id] at this
/-- a thing that may be asked for -/
def Thing (d : D) : Prop := ∀ xs, d = .tuple xs → xs.length ≤ 100 ∧ SeqAt.shaped (.tuple xs) = true
def badI (n : Nat) (ds : List D) : D → Bool
  | .int i => decide (1 < ((ds.countP fun z => PyData.eqv z (.int i) : Nat) : Int)) || !(decide (0 ≤ i) && decide (i < n))
  | _ => true
theorem sh_int (i : Int) : SeqAt.shaped (.int i) = true := (Shp.int i).shaped
theorem item_turn {N : Net} {xs : List D} (sh : SeqAt.shaped (.tuple xs) = true) (x : D) : wp ((nameG 2 [some (.d (encN N)), some (.d (.tuple xs)), none, none] x).bind F__law_is_route_1) (fun o => if badI N.n xs x = true then ∃ r', o = .rt (.bool false) r' else goesOn (· = [some (.d (encN N)), some (.d (.tuple xs)), none, none]) o) := by
  unfold F__law_is_route_1
  cases x with
  | int i =>
    have shi := sh_int i
    by_cases h1 : 1 < ((xs.countP fun z => PyData.eqv z (.int i) : Nat) : Int)
    · have d1 := decide_eq_true h1
      have b : badI N.n xs (.int i) = true := by show (decide _ || _) = true; rw [d1]; rfl
      rw [b]
      simp_arith [isi_int, isi_bool, countTD_a, sh, shi, d1]
      exact wp_ok ⟨_, rfl⟩
    · have d1 := decide_eq_false h1
      by_cases h2 : 0 ≤ i
      · have d2 := decide_eq_true h2
        by_cases h3 : i < N.n
        · have d3 := decide_eq_true h3
          have b : badI N.n xs (.int i) = false := by show (decide _ || !(decide _ && decide _)) = false; rw [d1, d2, d3]; rfl
          rw [b]
          simp_arith [isi_int, isi_bool, countTD_a, sh, shi, d1, d2, d3]
          exact wp_ok rfl
        · have d3 := decide_eq_false h3
          have b : badI N.n xs (.int i) = true := by show (decide _ || !(decide _ && decide _)) = true; rw [d1, d2, d3]; rfl
          rw [b]
          simp_arith [isi_int, isi_bool, countTD_a, sh, shi, d1, d2, d3]
          exact wp_ok ⟨_, rfl⟩
      · have d2 := decide_eq_false h2
        have b : badI N.n xs (.int i) = true := by show (decide _ || !(decide _ && decide _)) = true; rw [d1, d2]; rfl
        rw [b]
        simp_arith [isi_int, isi_bool, countTD_a, sh, shi, d1, d2]
        exact wp_ok ⟨_, rfl⟩
  | bool b =>
    have b : badI N.n xs (.bool b) = true := rfl
    rw [b]
    simp_arith [isi_int, isi_bool]
    exact wp_ok ⟨_, rfl⟩
  | _ =>
    simp only [badI, if_true]
    simp_arith [isi_int]
    exact wp_ok ⟨_, rfl⟩
/-- the pairs of a row, by place -/
theorem pair_turn {N : Net} {r : List Int} (i : Nat) (h : i + 1 < r.length) : wp ((nameG 3 [some (.d (encN N)), some (.d (TI r)), none, none] (.int ((i : Int) + 1))).bind F__law_is_route_2) (fun o => if (!adj N r[i] r[i + 1]) = true then ∃ r', o = .rt (.bool false) r' else goesOn (· = [some (.d (encN N)), some (.d (TI r)), none, none]) o) := by
  have a1 : ((i : Int) + 1 - 1) = (i : Int) := by omega
  have a2 : ((i : Int) + 1 + 1) = ((i + 2 : Nat) : Int) := by omega
  have so : sortOk [PyData.int r[i], PyData.int r[i + 1]] = true := sortOk_I (xs := [r[i], r[i + 1]]) (by simp)
  have s2 : sortL [PyData.int r[i], PyData.int r[i + 1]] = [PyData.int (min r[i] r[i + 1]), PyData.int (max r[i] r[i + 1])] := by
    have := sortL_I [r[i], r[i + 1]]
    rw [sort_two] at this
    exact this
  have ad : adj N r[i] r[i + 1] = decide ((min r[i] r[i + 1], max r[i] r[i + 1]) ∈ N.ties) := rfl
  rw [ad]
  unfold F__law_is_route_2
  cases hm : decide ((min r[i] r[i + 1], max r[i] r[i + 1]) ∈ N.ties) with
  | true =>
    simp_arith [a1, a2, cut_two h, so, s2, hm]
    exact wp_ok rfl
  | false =>
    simp_arith [a1, a2, cut_two h, so, s2, hm]
    exact wp_ok ⟨_, rfl⟩
end L_k04
namespace L_k04
open PySem L2 DL GT PG FA RX
theorem count_ints (r : List Int) (i : Int) : (r.map PyData.int).countP (fun z => PyData.eqv z (.int i)) = r.count i := by
  rw [List.countP_map]
  refine congrArg (fun f => r.countP f) (funext fun a => ?_)
  simp [PyData.eqv, Function.comp]
theorem nodup_of_count : ∀ {l : List Int}, (∀ a ∈ l, l.count a ≤ 1) → l.Nodup
  | [], _ => .nil
  | a :: l, h => by
    have h1 := h a (by simp)
    rw [List.count_cons_self] at h1
    refine List.nodup_cons.mpr ⟨List.count_eq_zero.mp (by omega), nodup_of_count fun b m => ?_⟩
    have h2 := h b (List.mem_cons_of_mem _ m)
    rw [List.count_cons] at h2
    omega
theorem count_of_nodup {a : Int} : ∀ {l : List Int}, l.Nodup → l.count a ≤ 1
  | [], _ => by simp
  | b :: l, h => by
    obtain ⟨h1, h2⟩ := List.nodup_cons.mp h
    have ih := count_of_nodup (a := a) h2
    rw [List.count_cons]
    split
    · rename_i e
      have e : b = a := by simpa using e
      subst e
      rw [List.count_eq_zero.mpr h1]
      omega
    · omega
theorem badI_int (n : Nat) (r : List Int) (i : Int) : badI n (r.map .int) (.int i) = (decide (1 < ((r.count i : Nat) : Int)) || !(decide (0 ≤ i) && decide (i < n))) := by
  show (decide (1 < (((r.map PyData.int).countP (fun z => PyData.eqv z (.int i)) : Nat) : Int)) || _) = _
  rw [count_ints]
theorem bad_route {N : Net} {xs : List D} {x : D} (m : x ∈ xs) (h : badI N.n xs x = true) : routeD N (.tuple xs) = false := by
  unfold routeD
  cases q : intsT (.tuple xs) with
  | none => rfl
  | some r =>
    have e := intsOf_some (show intsOf xs = some r from q)
    subst e
    obtain ⟨i, mi, rfl⟩ := List.mem_map.mp m
    rw [badI_int, Bool.or_eq_true] at h
    show isRouteB N r = false
    unfold isRouteB
    rcases h with h | h
    · have : ¬ r.Nodup := fun nd => by
        have := count_of_nodup (a := i) nd
        have := of_decide_eq_true h
        omega
      rw [decide_eq_false this]
      simp
    · have : (r.all fun x => decide (0 ≤ x ∧ x < N.n)) = false := by
        rw [List.all_eq_false]
        refine ⟨i, mi, ?_⟩
        intro q
        have q := of_decide_eq_true q
        rw [decide_eq_true q.1, decide_eq_true q.2] at h
        cases h
      rw [this]
      simp
theorem good_ints {N : Net} {xs : List D} (h : ∀ x ∈ xs, badI N.n xs x = false) : ∃ r : List Int, xs = r.map .int ∧ r.Nodup ∧ (r.all fun x => decide (0 ≤ x ∧ x < N.n)) = true := by
  cases q : intsOf xs with
  | none =>
    obtain ⟨x, m, hx⟩ := not_ints q
    have := h x m
    cases x with
    | int i => exact absurd rfl (hx i)
    | _ => cases this
  | some r =>
    have e := intsOf_some q
    subst e
    have key : ∀ i ∈ r, r.count i ≤ 1 ∧ 0 ≤ i ∧ i < N.n := fun i m => by
      have := h (.int i) (List.mem_map_of_mem m)
      rw [badI_int, Bool.or_eq_false_iff] at this
      obtain ⟨h1, h2⟩ := this
      have h1 := of_decide_eq_false h1
      rw [Bool.not_eq_false', Bool.and_eq_true] at h2
      exact ⟨by omega, of_decide_eq_true h2.1, of_decide_eq_true h2.2⟩
    refine ⟨r, rfl, nodup_of_count fun a m => (key a m).1, ?_⟩
    rw [List.all_eq_true]
    exact fun i m => decide_eq_true (key i m).2
/-- the pairs, by place and by zip -/
theorem pairs_any {N : Net} (r : List Int) : ((List.range (r.length - 1)).any fun i => !adj N (r.getD i 0) (r.getD (i + 1) 0)) = !((r.dropLast.zip r.tail).all fun p => adj N p.1 p.2) := by
  have h := pairs_range r fun a b => if adj N a b = true then (1 : Int) else 0
  have e1 : ((List.range (r.length - 1)).any fun i => !adj N (r.getD i 0) (r.getD (i + 1) 0)) = (((List.range (r.length - 1)).map fun i => if adj N (r.getD i 0) (r.getD (i + 1) 0) = true then (1 : Int) else 0).any fun k => k == 0) := by
    rw [List.any_map]
    congr 1
    funext i
    simp only [Function.comp]
    cases adj N (r.getD i 0) (r.getD (i + 1) 0) <;> rfl
  have e2 : ((((r.dropLast.zip r.tail).map fun p => if adj N p.1 p.2 = true then (1 : Int) else 0)).any fun k => k == 0) = !((r.dropLast.zip r.tail).all fun p => adj N p.1 p.2) := by
    rw [List.any_map]
    generalize r.dropLast.zip r.tail = ps
    induction ps with
    | nil => rfl
    | cons p ps ih =>
      rw [List.any_cons, List.all_cons, ih]
      simp only [Function.comp]
      cases adj N p.1 p.2 <;> simp
  rw [e1, h, e2]
set_option maxHeartbeats 4000000 in
theorem thing_eval {N : Net} (w : N.WF) (d : D) (h : Thing d) : g__law_is_route [encN N, d] = some (.bool (routeD N d)) := by
  cases d with
  | tuple xs =>
    obtain ⟨hl, sh⟩ := h xs rfl
    refine wp_val ?_
    unfold g__law_is_route b__law_is_route N__law_is_route
    by_cases h2 : ((xs.length : Nat) : Int) < 2
    · have d2 := decide_eq_true h2
      have e : routeD N (.tuple xs) = false := by
        unfold routeD
        cases q : intsT (.tuple xs) with
        | none => rfl
        | some r =>
          have e := intsOf_some (show intsOf xs = some r from q)
          subst e
          show isRouteB N r = false
          rw [List.length_map] at h2
          unfold isRouteB
          rw [decide_eq_false (by omega)]
          rfl
      rw [e]
      simp_arith [isi_tuple, d2]
      exact wp_ok rfl
    · have d2 := decide_eq_false h2
      simp_arith [-L_k04.Sq__law_is_route_2_a, isi_tuple, d2]
      refine wp_findD (badI N.n xs) (fun _ => .bool false) (fun x _ => item_turn sh x) (fun x r' hx => ?_) (fun hx => ?_)
      · rw [bad_route (List.mem_of_find?_eq_some hx) (List.find?_some hx)]
        simp_arith [DL.p_nt]
        exact wp_ok rfl
      · obtain ⟨r, rfl, nd, al⟩ := good_ints fun x m => by
          have := List.find?_eq_none.mp hx x m
          simpa using this
        rw [List.length_map] at hl h2 d2
        have e0 : routeD N (.tuple (r.map .int)) = isRouteB N r := routeD_TI N r
        rw [e0]
        unfold isRouteB
        rw [decide_eq_true (show 2 ≤ r.length by omega), al, decide_eq_true nd]
        obtain ⟨a, ha⟩ : ∃ a, r.head? = some a := by
          cases r with
          | nil => simp at h2
          | cons a l => exact ⟨a, rfl⟩
        obtain ⟨b, last⟩ : ∃ b, r.getLast? = some b := ⟨_, List.getLast?_eq_some_getLast (by intro e; simp [e] at h2)⟩
        have e1 : ixD (TI r) (.int 0) = some (.int a) := by
          cases r with
          | nil => simp at h2
          | cons c l => cases ha; simp_arith [DL.p_nt]
        have e2 : ixD (TI r) (.int (-1)) = some (.int b) := by
          simp_arith [DL.p_nt]
          rw [List.getLast?_map, last]; rfl
        rw [ha, last]
        dsimp only
        by_cases h3 : a ∈ N.rim
        · by_cases h4 : b ∈ N.rim
          · by_cases h5 : b < a
            · simp_arith [e1, e2, decide_eq_true h3, decide_eq_true h4, decide_eq_true h5]
              refine wp_ok ?_
              rw [decide_eq_false (show ¬ a ≤ b by omega)]
              simp
            · have rg : rngL 1 ((r.length : Nat) : Int) = (List.range (r.length - 1)).map fun (i : Nat) => PyData.int ((i : Int) + 1) := by
                unfold rngL
                rw [show (((r.length : Nat) : Int) - 1).toNat = r.length - 1 by omega]
                apply List.map_congr_left
                intro i _
                rw [Int.add_comm]
              have key := pairs_any (N := N) r
              simp_arith [e1, e2, decide_eq_true h3, decide_eq_true h4, decide_eq_false h5, rg]
              have g1 : ∀ i ∈ List.range (r.length - 1), i + 1 < r.length := fun i m => by have := List.mem_range.mp m; omega
              refine wp_find (fun i => !adj N (r.getD i 0) (r.getD (i + 1) 0)) (fun _ => .bool false) (fun i m => ?_) (fun i r' hi => ?_) (fun hi => ?_)
              · have hi := g1 i m
                have q1 : r.getD i 0 = r[i] := by rw [List.getD_eq_getElem?_getD, List.getElem?_eq_getElem (by omega)]; rfl
                have q2 : r.getD (i + 1) 0 = r[i + 1] := by rw [List.getD_eq_getElem?_getD, List.getElem?_eq_getElem hi]; rfl
                rw [q1, q2]
                exact pair_turn i hi
              · have : ((List.range (r.length - 1)).any fun i => !adj N (r.getD i 0) (r.getD (i + 1) 0)) = true := List.any_eq_true.mpr ⟨i, List.mem_of_find?_eq_some hi, List.find?_some (p := fun i => !adj N (r.getD i 0) (r.getD (i + 1) 0)) hi⟩
                rw [this] at key
                have k2 : ((r.dropLast.zip r.tail).all fun p => adj N p.1 p.2) = false := by simpa using key.symm
                rw [k2]
                simp_arith [DL.p_nt]
                exact wp_ok (by simp)
              · have : ((List.range (r.length - 1)).any fun i => !adj N (r.getD i 0) (r.getD (i + 1) 0)) = false := by
                  rw [List.any_eq_false]
                  exact List.find?_eq_none.mp hi
                rw [this] at key
                have k2 : ((r.dropLast.zip r.tail).all fun p => adj N p.1 p.2) = true := by simpa using key.symm
                rw [k2]
                simp_arith [DL.p_nt]
                refine wp_ok ?_
                rw [decide_eq_true (show a ≤ b by omega)]
          · simp_arith [e1, e2, decide_eq_true h3, decide_eq_false h4]
            exact wp_ok rfl
        · simp_arith [e1, e2, decide_eq_false h3]
          exact wp_ok rfl
  | _ =>
    refine wp_val ?_
    unfold g__law_is_route b__law_is_route N__law_is_route
    simp_arith [isi_tuple]
    exact wp_ok rfl
theorem short_thing {d : D} (h : Thing d) : short1 d := fun xs e => by have := (h xs e).1; omega
end L_k04
namespace L_k04
open PySem L2 DL GT PG FA RX
theorem cut_len {α : Type} (l : List α) (lo hi : Option Int) : (cutD l lo hi).length ≤ l.length := by
  unfold cutD
  rw [List.length_take, List.length_drop]
  omega
theorem cut_mem {α : Type} {l : List α} {lo hi : Option Int} {x : α} (h : x ∈ cutD l lo hi) : x ∈ l := List.mem_of_mem_drop (List.mem_of_mem_take h)
theorem wp_cmapD {β : Type} {g : GM} {el : EM} {is : List Nat} {as : List D} {r : Rho} {K : List D × Rho → Option β} {Q : β → Prop} (e : D → D) (step : ∀ a ∈ as, wp (it1 g yesM el is r a) (· = (some (e a), r))) (k : wp (K (as.map e, r)) Q) : wp ((compL g yesM el is as r).bind K) Q := by
  have := wp_cmap (enc := id) e step k
  rwa [List.map_id] at this
theorem wp_allD {β : Type} {g : GM} {f : SM} {as : List D} {r : Rho} {K : Out → Option β} {Q : β → Prop} (step : ∀ a ∈ as, wp ((g r a).bind f) (goesOn (· = r))) (k : wp (K (.nx r)) Q) : wp ((forL g f as r).bind K) Q := by
  have := wp_all (enc := id) step k
  rwa [List.map_id] at this
/-- a loop that draws, and fills a list -/
theorem wp_drawfill {A β : Type} {g : GM} {f : SM} {as : List A} {K : Out → Option β} {Q : β → Prop} {enc : A → D} (st : List D → List D → Rho) (P : D → Prop) (c e : Nat) (tw0 L0 : List D) (h0 : ∀ d ∈ L0, P d)
    (step : ∀ a ∈ as, ∀ tw L : List D, tw.length ≤ tw0.length + c * as.length → L.length ≤ L0.length + e * as.length → (∀ d ∈ L, P d) → wp ((g (st tw L) (enc a)).bind f) (goesOn fun r => ∃ tw' L' : List D, r = st tw' L' ∧ tw'.length ≤ tw.length + c ∧ L'.length ≤ L.length + e ∧ ∀ d ∈ L', P d))
    (k : ∀ tw L : List D, tw.length ≤ tw0.length + c * as.length → L.length ≤ L0.length + e * as.length → (∀ d ∈ L, P d) → wp (K (.nx (st tw L))) Q) : wp ((forL g f (as.map enc) (st tw0 L0)).bind K) Q := by
  refine wp_for enc (fun bs q => (∀ b ∈ bs, b ∈ as) ∧ ∃ tw L : List D, tw.length + c * bs.length ≤ tw0.length + c * as.length ∧ L.length + e * bs.length ≤ L0.length + e * as.length ∧ (∀ d ∈ L, P d) ∧ q = st tw L) ⟨fun _ h => h, tw0, L0, Nat.le_refl _, Nat.le_refl _, h0, rfl⟩ ?_ ?_
  · rintro a bs q ⟨h, tw, L, hl, hL, hp, rfl⟩
    simp only [List.length_cons, Nat.mul_add, Nat.mul_one] at hl hL
    refine wp_mono (step a (h a (by simp)) tw L (by omega) (by omega) hp) fun o ho => ?_
    cases o with
    | nx r2 => obtain ⟨tw', L', rfl, h1, h2, h3⟩ := ho; exact ⟨fun b m => h b (List.mem_cons_of_mem _ m), tw', L', by omega, by omega, h3, rfl⟩
    | ct r2 => obtain ⟨tw', L', rfl, h1, h2, h3⟩ := ho; exact ⟨fun b m => h b (List.mem_cons_of_mem _ m), tw', L', by omega, by omega, h3, rfl⟩
    | _ => exact ho.elim
  · rintro q ⟨_, tw, L, hl, hL, hp, rfl⟩
    simp only [List.length_nil, Nat.mul_zero, Nat.add_zero] at hl hL
    exact k tw L hl hL hp
/-! things -/
abbrev Item (x : D) : Prop := Shp 2 x
theorem thing_tup {xs : List D} (hl : xs.length ≤ 100) (h : ∀ x ∈ xs, Item x) : Thing (.tuple xs) := fun ys e => by
  cases e
  exact ⟨hl, (Shp.tup h).shaped⟩
theorem thing_list (xs : List D) : Thing (.list xs) := fun ys e => by cases e
theorem thing_int (i : Int) : Thing (.int i) := fun ys e => by cases e
theorem thing_none : Thing .none := fun ys e => by cases e
theorem thing_str (s : Str) : Thing (.str s) := fun ys e => by cases e
theorem item_int (i : Int) : Item (.int i) := (Shp.int i).mono
theorem item_bool (b : Bool) : Item (.bool b) := (Shp.bool b).mono
section
variable {ns : List Int} {N : Net} {x2 x4 : Option SV} {L : List D}
/-- a thing is asked for -/
theorem ask_turn (w : N.WF) {d : D} (h : Thing d) (x0 x1 x4 x5 x6 x8 x9 x10 x11 x12 x13 : Option SV) : wp ((nameG 7 [x0, x1, x2, some (.d (encN N)), x4, x5, x6, none, x8, x9, x10, x11, x12, x13] d).bind F_law_4) (goesOn (· = [x0, x1, x2, some (.d (encN N)), x4, x5, x6, none, x8, x9, x10, x11, x12, x13])) := by
  have e1 := is_route_D w d (short_thing h)
  have e2 := thing_eval w d h
  have e3 : g__law_same [.bool (routeD N d), .bool (routeD N d)] = some (.bool true) := same_ok (by cases routeD N d <;> rfl)
  unfold F_law_4
  simp_arith [e1, e2, e3]
  exact wp_ok rfl
/-- a row of knots by cells -/
theorem spot_turn {tw row : List D} {n : Nat} (hn : n ≤ 7) {ties rim : D} (lt : tw.length < 500000) (lr : row.length ≤ 100) (hr : ∀ x ∈ row, Item x) (a : Int) (x4 x5 x6 x7 x10 x11 x12 x13 : Option SV) :
    wp ((nameG 9 [some (.d (SC ns)), some (.l false tw), x2, some (.d (.tuple [.int n, ties, rim])), x4, x5, x6, x7, some (.d (.tuple row)), none, x10, x11, x12, x13] (.int a)).bind F_law_1) (goesOn fun r => ∃ tw' row' : List D, r = [some (.d (SC ns)), some (.l false tw'), x2, some (.d (.tuple [.int n, ties, rim])), x4, x5, x6, x7, some (.d (.tuple row')), none, x10, x11, x12, x13] ∧ tw'.length ≤ tw.length + 1 ∧ row'.length ≤ row.length + 1 ∧ ∀ x ∈ row', Item x) := by
  obtain ⟨v, v0, v1, e⟩ := draw_spec ns tw ((n : Int) + 1) (by omega) (by omega)
  unfold F_law_1
  simp_arith [e]
  refine wp_ok ⟨_, _, rfl, by simp, by simp, fun x m => ?_⟩
  rcases List.mem_append.mp m with m | m
  · exact hr x m
  · rw [List.mem_singleton] at m; subst m; exact item_int v
theorem row_turn {tw : List D} (w : N.WF) (lt : tw.length < 400000) (lL : L.length ≤ 1000) (hL : ∀ d ∈ L, Thing d) (a : Int) :
    wp ((nameG 6 [some (.d (SC ns)), some (.l false tw), x2, some (.d (encN N)), x4, some (.l false L), none, none, none, none, none, none, none, none] (.int a)).bind F_law_2) (goesOn fun r => ∃ tw' L' : List D, r = [some (.d (SC ns)), some (.l false tw'), x2, some (.d (encN N)), x4, some (.l false L'), none, none, none, none, none, none, none, none] ∧ tw'.length ≤ tw.length + 5 ∧ L'.length ≤ L.length + 1 ∧ ∀ d ∈ L', Thing d) := by
  obtain ⟨v, v0, v1, e⟩ := draw_spec ns tw 3 (by omega) (by omega)
  obtain ⟨m, rfl⟩ : ∃ m : Nat, v = m := ⟨v.toNat, by omega⟩
  have small := w.small
  have rg : rngL 0 ((2 : Int) + (m : Int)) = (ir (m + 2)).map .int := by
    rw [show (2 : Int) + (m : Int) = ((m + 2 : Nat) : Int) by omega]
    exact rngL_ir (m + 2)
  unfold F_law_2
  simp_arith [e, rg]
  refine wp_drawfill (fun tw row => [some (.d (SC ns)), some (.l false tw), x2, some (.d (encN N)), x4, some (.l false L), some (.d (.int a)), none, some (.d (.tuple row)), none, none, none, none, none]) Item 1 1 _ [] (by simp) (fun b mb tw2 row h1 h2 h3 => ?_) (fun tw2 row h1 h2 h3 => ?_)
  · simp [ir_len] at h1 h2
    exact spot_turn (ns := ns) small (by omega) (by omega) h3 b _ _ _ _ _ _ _ _
  · simp [ir_len] at h1 h2
    simp_arith [DL.p_nt]
    refine wp_ok ⟨_, _, rfl, by omega, by simp, fun d md => ?_⟩
    rcases List.mem_append.mp md with md | md
    · exact hL d md
    · rw [List.mem_singleton] at md; subst md
      exact thing_tup (by omega) h3
end
end L_k04
namespace L_k04
open PySem L2 DL GT PG FA RX
section
variable {ns : List Int} {N : Net} {x2 : Option SV} {L : List D}
/-- a truth for a knot below two -/
def oneD : D → D
  | .int i => if i < 2 then .bool (i == 1) else .int i
  | d => d
theorem one_item {x : D} (h : ∃ i, x = .int i) : Item (oneD x) := by
  obtain ⟨i, rfl⟩ := h
  show Item (if i < 2 then .bool (i == 1) else .int i)
  by_cases h : i < 2
  · rw [if_pos h]; exact item_bool _
  · rw [if_neg h]; exact item_int _
set_option maxHeartbeats 8000000 in
theorem route_turn {tw : List D} {every : List D} (w : N.WF) (lt : tw.length < 400000) (lL : L.length ≤ 1000) (hL : ∀ d ∈ L, Thing d) (ev : every ≠ []) (each : ∀ d ∈ every, ∃ xs, d = .tuple xs ∧ xs.length ≤ 20 ∧ xs ≠ [] ∧ ∀ x ∈ xs, ∃ i, x = .int i) (a : Int) :
    wp ((nameG 6 [some (.d (SC ns)), some (.l false tw), x2, some (.d (encN N)), some (.d (.list every)), some (.l false L), none, none, none, none, none, none, none, none] (.int a)).bind F_law_3) (goesOn fun r => ∃ tw' L' : List D, r = [some (.d (SC ns)), some (.l false tw'), x2, some (.d (encN N)), some (.d (.list every)), some (.l false L'), none, none, none, none, none, none, none, none] ∧ tw'.length ≤ tw.length + 3 ∧ L'.length ≤ L.length + 10 ∧ ∀ d ∈ L', Thing d) := by
  obtain ⟨d, md, e1⟩ := pick_spec ns tw every ev (by omega)
  obtain ⟨xs, rfl, lx, nx, hx⟩ := each d md
  obtain ⟨v, v0, v1, e2⟩ := draw_spec ns (tw ++ [.int 0]) (xs.length : Int) (by have := List.length_pos_iff.mpr nx; omega) (by simp; omega)
  have small := w.small
  obtain ⟨odd, mo, e3⟩ := pick_spec ns (tw ++ [.int 0] ++ [.int 0]) [.none, .int (-1), .int N.n, .str "0", .tuple [], .int 0, .int 1, .int ((N.n : Int) - 1)] (by simp) (by simp; omega)
  have odd_ok : Item odd := by
    simp only [List.mem_cons, List.not_mem_nil, or_false] at mo
    rcases mo with rfl | rfl | rfl | rfl | rfl | rfl | rfl | rfl
    · exact Shp.none.mono
    · exact item_int _
    · exact item_int _
    · exact ⟨by decide +kernel, by decide +kernel⟩
    · exact Shp.tup (k := 1) (by simp)
    · exact item_int _
    · exact item_int _
    · exact item_int _
  have hi : ∀ x ∈ xs, Item x := fun x m => by obtain ⟨i, rfl⟩ := hx x m; exact item_int i
  have lc : ∀ lo hi : Option Int, (cutD xs lo hi).length ≤ 20 := fun lo hi => Nat.le_trans (cut_len xs lo hi) lx
  have hc : ∀ lo hi2 : Option Int, ∀ x ∈ cutD xs lo hi2, Item x := fun lo hi2 x m => hi x (cut_mem m)
  have c1 := lc none (some v)
  have c2 := lc (some (v + 1)) none
  have c3 := lc (some v) (some (v + 1))
  have c4 := lc (some v) none
  have c5 := lc none (some (-1))
  have c6 := lc (some 1) none
  have c7 := lc none (some 1)
  have o1 := hc none (some v)
  have o2 := hc (some (v + 1)) none
  have o3 := hc (some v) (some (v + 1))
  have o4 := hc (some v) none
  have o5 := hc none (some (-1))
  have o6 := hc (some 1) none
  have o7 := hc none (some 1)
  clear lc hc
  revert c1 c2 c3 c4 c5 c6 c7 o1 o2 o3 o4 o5 o6 o7
  generalize g1 : cutD xs none (some v) = A1
  generalize g2 : cutD xs (some (v + 1)) none = A2
  generalize g3 : cutD xs (some v) (some (v + 1)) = A3
  generalize g4 : cutD xs (some v) none = A4
  generalize g5 : cutD xs none (some (-1)) = A5
  generalize g6 : cutD xs (some 1) none = A6
  generalize g7 : cutD xs none (some 1) = A7
  intro c1 c2 c3 c4 c5 c6 c7 o1 o2 o3 o4 o5 o6 o7
  have app : ∀ {p q : List D}, (∀ x ∈ p, Item x) → (∀ x ∈ q, Item x) → ∀ x ∈ p ++ q, Item x := fun hp hq x m => by
    rcases List.mem_append.mp m with m | m
    · exact hp x m
    · exact hq x m
  unfold F_law_3
  simp_arith [-L_k04.Sq_law_7_a, e1]
  simp_arith [-L_k04.Sq_law_2_a, e2, e3, g1, g2, g3, g4, g5, g6, g7]
  simp_arith [DL.p_nt]
  refine wp_cmapD oneD (fun x mx => ?_) ?_
  · obtain ⟨i, rfl⟩ := hx x mx
    have e0 : oneD (.int i) = if i < 2 then .bool (i == 1) else .int i := rfl
    rw [e0]
    unfold Ce_law_1
    by_cases h : i < 2
    · rw [if_pos h]
      simp_arith [decide_eq_true h]
      exact wp_ok rfl
    · rw [if_neg h]
      simp_arith [decide_eq_false h]
      exact wp_ok rfl
  · simp_arith [DL.p_nt]
    refine wp_ok ⟨_, _, rfl, by simp, by simp, fun d md => ?_⟩
    simp only [List.mem_append, List.mem_cons, List.not_mem_nil, or_false] at md
    rcases md with (((md | rfl | rfl | rfl | rfl | rfl | rfl) | rfl | rfl) | rfl) | rfl
    · exact hL d md
    · exact thing_tup (by omega) hi
    · exact thing_list _
    · exact thing_tup (by rw [List.length_reverse]; omega) fun x m => hi x (List.mem_reverse.mp m)
    · exact thing_tup (by omega) o5
    · exact thing_tup (by omega) o6
    · exact thing_tup (by rw [List.length_append]; omega) (app hi o7)
    · exact thing_tup (by simp only [List.length_append, List.length_singleton]; omega) (app (app o1 fun x m => by rw [List.mem_singleton] at m; subst m; exact odd_ok) o2)
    · exact thing_tup (by simp only [List.length_append]; omega) (app o1 o2)
    · exact thing_tup (by simp only [List.length_append]; omega) (app (app o1 o3) o4)
    · refine thing_tup (by rw [List.length_map]; omega) fun x m => ?_
      obtain ⟨y, my, rfl⟩ := List.mem_map.mp m
      exact one_item (hx y my)
set_option maxHeartbeats 8000000 in
theorem turn (tw : List D) (h : tw.length < 300000) (a : Int) :
    wp ((nameG 2 [some (.d (SC ns)), some (.l false tw), none, none, none, none, none, none, none, none, none, none, none, none] (.int a)).bind F_law_5) (goesOn fun r => ∃ tw' : List D, tw'.length ≤ tw.length + 150 ∧ r = [some (.d (SC ns)), some (.l false tw'), none, none, none, none, none, none, none, none, none, none, none, none]) := by
  obtain ⟨N, tw1, w, n2, n3, n4, n5, n6⟩ := net_spec ns tw 7 8 (by omega) (by omega) (by omega) (by omega)
  have n6' : g__law_net [SC ns, .int 7, .int 8] tw = some (encN N, tw1) := n6
  have rt := routes_by_hand w (by omega)
  have ct : cutD ((routes N).map TI) none (some (60 : Int)) = ((routes N).take 60).map TI := (DL.cut_to ((routes N).map TI) 60).trans (List.map_take ..).symm
  unfold F_law_5
  simp_arith [-L_k04.Sq_law_10_a, n6', rt, ct]
  have e6 : rngL 0 6 = (ir 6).map .int := rngL_ir 6
  simp_arith [-L_k04.Sq_law_8_a, e6]
  refine wp_drawfill (fun tw L => [some (.d (SC ns)), some (.l false tw), some (.d (.int a)), some (.d (encN N)), some (.d (.list (((routes N).take 60).map TI))), some (.l false L), none, none, none, none, none, none, none, none]) Thing 5 1 _ _ (fun d m => ?_) (fun k mk tw2 L h1 h2 h3 => ?_) (fun tw2 L h1 h2 h3 => ?_)
  · simp only [List.mem_cons, List.not_mem_nil, or_false] at m
    rcases m with rfl | rfl | rfl | rfl | rfl | rfl | rfl | rfl | rfl | rfl | rfl | rfl
    · exact thing_none
    · exact thing_int _
    · exact thing_tup (by simp) (by simp)
    · exact thing_str _
    · exact thing_tup (by simp) (by simp [item_int])
    · exact thing_tup (by simp) (by simp [item_int])
    · exact thing_tup (by simp) (by simp [item_int])
    · exact thing_tup (by simp) (by simp [item_int])
    · exact thing_tup (by simp) (by simp [item_int, item_bool])
    · exact thing_tup (by simp) (by simp [item_int, item_bool])
    · refine thing_tup (by simp) fun x m => ?_
      rw [List.mem_singleton] at m; subst m
      exact Shp.tup (k := 1) (by simp [Shp.int])
    · exact thing_list _
  · rw [ir_len] at h1 h2
    simp only [List.length_cons, List.length_nil] at h2
    exact row_turn w (by omega) (by omega) h3 k
  rw [ir_len] at h1 h2
  simp only [List.length_cons, List.length_nil] at h2
  have ask : ∀ (tw3 : List D) (L3 : List D), tw3.length ≤ tw.length + 150 → (∀ d ∈ L3, Thing d) → wp ((forL (nameG 7) F_law_4 L3 [some (.d (SC ns)), some (.l false tw3), some (.d (.int a)), some (.d (encN N)), some (.d (.list (((routes N).take 60).map TI))), some (.d (.list L3)), none, none, none, none, none, none, none, none]).bind fun o => some (wipO [2, 3, 4, 5, 6, 7, 8, 9, 10, 11, 12, 13] o)) (goesOn fun r => ∃ tw' : List D, tw'.length ≤ tw.length + 150 ∧ r = [some (.d (SC ns)), some (.l false tw'), none, none, none, none, none, none, none, none, none, none, none, none]) := by
    intro tw3 L3 g1 g2
    refine wp_allD (fun d md => ask_turn w (g2 d md) _ _ _ _ _ _ _ _ _ _ _) ?_
    simp_arith [DL.p_nt]
    exact wp_ok ⟨tw3, g1, rfl⟩
  have each : ∀ d ∈ ((routes N).take 60).map TI, ∃ xs, d = .tuple xs ∧ xs.length ≤ 20 ∧ xs ≠ [] ∧ ∀ x ∈ xs, ∃ i, x = .int i := fun d m => by
    obtain ⟨r, mr, rfl⟩ := List.mem_map.mp m
    have mr := List.mem_of_mem_take mr
    have ln := (route_lk w mr).2
    refine ⟨r.map .int, rfl, by rw [List.length_map]; omega, ?_, fun x mx => ?_⟩
    · have tr := (mem_routes w).mp mr
      obtain ⟨c, d, hc, _⟩ := tr.ends
      intro e
      rw [List.map_eq_nil_iff] at e
      rw [e] at hc
      cases hc
    · obtain ⟨i, _, rfl⟩ := List.mem_map.mp mx
      exact ⟨i, rfl⟩
  have ne0 : neB (.list (((routes N).take 60).map TI)) (.list []) = some (!decide ((routes N).take 60 = [])) := ne_LR ((routes N).take 60) []
  revert each ask ne0
  generalize (routes N).take 60 = E
  intro ask each ne0
  have it : (if True then (1 : Int) else 0) = 1 := if_pos trivial
  have nt : (if False then (1 : Int) else 0) = 0 := if_neg id
  have q4 : (4 : Int) * 1 = 4 := rfl
  have q0 : (4 : Int) * 0 = 0 := rfl
  by_cases hE : E = []
  · subst hE
    have ne1 : neB (.list ([].map TI)) (.list []) = some false := ne0.trans (by simp)
    have r0 : rngL 0 0 = [] := rfl
    simp_arith [ne1, nt, q0, r0]
    exact ask tw2 L (by omega) h3
  · have ne1 : neB (.list (E.map TI)) (.list []) = some true := ne0.trans (by rw [decide_eq_false hE]; rfl)
    have r4 : rngL 0 4 = (ir 4).map .int := rngL_ir 4
    simp_arith [ne1, it, q4, r4]
    refine wp_drawfill (fun tw L => [some (.d (SC ns)), some (.l false tw), some (.d (.int a)), some (.d (encN N)), some (.d (.list (E.map TI))), some (.l false L), none, none, none, none, none, none, none, none]) Thing 3 10 _ _ h3 (fun k mk tw3 L3 g1 g2 g3 => ?_) (fun tw3 L3 g1 g2 g3 => ?_)
    · rw [ir_len] at g1 g2
      exact route_turn w (by omega) (by omega) g3 (by simpa using hE) each k
    · rw [ir_len] at g1 g2
      simp_arith [DL.p_nt]
      exact ask tw3 L3 (by omega) g3
set_option maxHeartbeats 4000000 in
theorem law_true (ns : List Int) (hl : ns.length ≤ 63) : g_law [.list (ns.map .int)] = some (.bool true) := by
  refine wp_val ?_
  unfold g_law b_law N_law
  have e5 : rngL 0 6 = (ir 6).map .int := rngL_ir 6
  simp_arith [e5]
  refine wp_town (fun tw => [some (.d (SC ns)), some (.l false tw), none, none, none, none, none, none, none, none, none, none, none, none]) 150 [] (fun a _ tw h => ?_) (fun tw h => ?_)
  · simp [ir_len] at h
    exact turn tw (by omega) a
  · simp_arith [DL.p_nt]
    exact wp_ok rfl
end
end L_k04
namespace L_k04
open PySem L2 DL PyProof.Rows FA PG
def topS (i : Nat) : Stmt := PySem.Challenge.pw_probeties_k04_whole_things_as_routes.main.body.getD i (.Pass ⟨0, 0, 0, 0⟩)
abbrev s_is_whole : Stmt := topS 1
abbrev s_beside : Stmt := topS 2
abbrev s_is_route : Stmt := topS 4
abbrev s__law_same : Stmt := topS 6
abbrev s__law_draw : Stmt := topS 7
abbrev s__law_pick : Stmt := topS 8
abbrev s__law_net : Stmt := topS 9
abbrev s__law_routes : Stmt := topS 10
abbrev s__law_is_route : Stmt := topS 13
abbrev s_law : Stmt := topS 14
theorem sc_is_whole : FnScope N_is_whole ["thing", "low", "high"] (defScope s_is_whole) := ⟨rfl, rfl, rfl, by decide +kernel, rfl, by decide +kernel, by decide +kernel⟩
theorem sc_beside : FnScope N_beside ["net", "knot"] (defScope s_beside) := ⟨rfl, rfl, rfl, by decide +kernel, rfl, by decide +kernel, by decide +kernel⟩
theorem sc_is_route : FnScope N_is_route ["net", "thing"] (defScope s_is_route) := ⟨rfl, rfl, rfl, by decide +kernel, rfl, by decide +kernel, by decide +kernel⟩
theorem sc__law_same : FnScope N__law_same ["_law_got", "_law_due"] (defScope s__law_same) := ⟨rfl, rfl, rfl, by decide +kernel, rfl, by decide +kernel, by decide +kernel⟩
theorem sc__law_draw : FnScope N__law_draw ["_law_script", "_law_town", "_law_many"] (defScope s__law_draw) := ⟨rfl, rfl, rfl, by decide +kernel, rfl, by decide +kernel, by decide +kernel⟩
theorem sc__law_pick : FnScope N__law_pick ["_law_script", "_law_town", "_law_some"] (defScope s__law_pick) := ⟨rfl, rfl, rfl, by decide +kernel, rfl, by decide +kernel, by decide +kernel⟩
theorem sc__law_net : FnScope N__law_net ["_law_script", "_law_town", "_law_high", "_law_wide"] (defScope s__law_net) := ⟨rfl, rfl, rfl, by decide +kernel, rfl, by decide +kernel, by decide +kernel⟩
theorem sc__law_routes : FnScope N__law_routes ["_law_net_here"] (defScope s__law_routes) := ⟨rfl, rfl, rfl, by decide +kernel, rfl, by decide +kernel, by decide +kernel⟩
theorem sc__law_is_route : FnScope N__law_is_route ["_law_net_here", "_law_thing"] (defScope s__law_is_route) := ⟨rfl, rfl, rfl, by decide +kernel, rfl, by decide +kernel, by decide +kernel⟩
theorem sc_law : FnScope N_law ["_law_script"] (defScope s_law) := ⟨rfl, rfl, rfl, by decide +kernel, rfl, by decide +kernel, by decide +kernel⟩
structure Tx (mg : Str → Option Value) : Prop where
  z_all : mg "all" = none
  z_bool : mg "bool" = none
  z_int : mg "int" = none
  z_isinstance : mg "isinstance" = none
  z_len : mg "len" = none
  z_list : mg "list" = none
  z_max : mg "max" = none
  z_min : mg "min" = none
  z_range : mg "range" = none
  z_set : mg "set" = none
  z_sorted : mg "sorted" = none
  z_str : mg "str" = none
  z_tuple : mg "tuple" = none
  z_zip : mg "zip" = none
structure Ad where
  a_is_whole : Addr
  d_is_whole : FuncData
  a_beside : Addr
  d_beside : FuncData
  a_is_route : Addr
  d_is_route : FuncData
  a__law_same : Addr
  d__law_same : FuncData
  a__law_draw : Addr
  d__law_draw : FuncData
  a__law_pick : Addr
  d__law_pick : FuncData
  a__law_net : Addr
  d__law_net : FuncData
  a__law_routes : Addr
  d__law_routes : FuncData
  a__law_is_route : Addr
  d__law_is_route : FuncData
  a_law : Addr
  d_law : FuncData
structure Cx1 (K : PySem.W.Frag) (mg : Str → Option Value) (Z : Ad) : Prop where
  f_is_whole : Fun K "is_whole" "is_whole" s_is_whole Z.a_is_whole Z.d_is_whole
  b_is_whole : Binds K Z.d_is_whole ["thing", "low", "high"] []
  g_is_whole : mg "is_whole" = some (.ref Z.a_is_whole)
  f_beside : Fun K "beside" "beside" s_beside Z.a_beside Z.d_beside
  b_beside : Binds K Z.d_beside ["net", "knot"] []
  g_beside : mg "beside" = some (.ref Z.a_beside)
  f_is_route : Fun K "is_route" "is_route" s_is_route Z.a_is_route Z.d_is_route
  b_is_route : Binds K Z.d_is_route ["net", "thing"] []
  g_is_route : mg "is_route" = some (.ref Z.a_is_route)
  f__law_same : Fun K "_law_same" "_law_same" s__law_same Z.a__law_same Z.d__law_same
  b__law_same : Binds K Z.d__law_same ["_law_got", "_law_due"] []
  g__law_same : mg "_law_same" = some (.ref Z.a__law_same)
  f__law_draw : Fun K "_law_draw" "_law_draw" s__law_draw Z.a__law_draw Z.d__law_draw
  b__law_draw : Binds K Z.d__law_draw ["_law_script", "_law_town", "_law_many"] []
  g__law_draw : mg "_law_draw" = some (.ref Z.a__law_draw)
  f__law_pick : Fun K "_law_pick" "_law_pick" s__law_pick Z.a__law_pick Z.d__law_pick
  b__law_pick : Binds K Z.d__law_pick ["_law_script", "_law_town", "_law_some"] []
  g__law_pick : mg "_law_pick" = some (.ref Z.a__law_pick)
  f__law_net : Fun K "_law_net" "_law_net" s__law_net Z.a__law_net Z.d__law_net
  b__law_net : Binds K Z.d__law_net ["_law_script", "_law_town", "_law_high", "_law_wide"] []
  g__law_net : mg "_law_net" = some (.ref Z.a__law_net)
  f__law_routes : Fun K "_law_routes" "_law_routes" s__law_routes Z.a__law_routes Z.d__law_routes
  b__law_routes : Binds K Z.d__law_routes ["_law_net_here"] []
  g__law_routes : mg "_law_routes" = some (.ref Z.a__law_routes)
  f__law_is_route : Fun K "_law_is_route" "_law_is_route" s__law_is_route Z.a__law_is_route Z.d__law_is_route
  b__law_is_route : Binds K Z.d__law_is_route ["_law_net_here", "_law_thing"] []
  g__law_is_route : mg "_law_is_route" = some (.ref Z.a__law_is_route)
  f_law : Fun K "law" "law" s_law Z.a_law Z.d_law
  b_law : Binds K Z.d_law ["_law_script"] []
  g_law : mg "law" = some (.ref Z.a_law)
section
variable {P : Program} {w : World} {K : PySem.W.Frag} {mg : Str → Option Value} {base : Heap} {Z : Ad}
set_option maxHeartbeats 4000000 in
theorem ok_is_whole (C : Cx1 K mg Z) (T : Tx mg) : FnOk P w K mg base CX0 1 Z.a_is_whole Z.d_is_whole ["thing", "low", "high"] (spF K 3 g_is_whole) := by
  have sc := sc_is_whole
  refine fn_run (k := 0) (N := N_is_whole) C.f_is_whole sc_is_whole fun cdv A outer s H E hr => ?_
  have hU := un1 hr
  exact ((sss_one (ss_ret (se_and (se_isi .int (by rfl) T.z_isinstance (by rfl) T.z_int (by decide +kernel) (SE.sw (se_var 0))) (se_and (se_not (SE.sw (se_isi .bool (by rfl) T.z_isinstance (by rfl) T.z_bool (by decide +kernel) (SE.sw (se_var 0))))) (se_one (se_chain (or_leB hU.c0) (or_leB hU.c0) (se_var 1) (se_var 0) (SE.sw (se_var 2)))))))))
set_option maxHeartbeats 4000000 in
theorem ok_beside (C : Cx1 K mg Z) (T : Tx mg) : FnOk P w K mg base CX0 1 Z.a_beside Z.d_beside ["net", "knot"] (spF K 2 g_beside) := by
  have sc := sc_beside
  refine fn_run (k := 0) (N := N_beside) C.f_beside sc_beside fun cdv A outer s H E hr => ?_
  have hU := un1 hr
  exact ((sss_cons (ss_compD 2 (own := [("other", 3)]) (by rfl) sc.nd (si_range1 (by rfl) T.z_range (se_ix (se_var 0) se_int)) (blkOk_by (own := [("other", 3)]) (by rfl)) (fun _ _ _ _ _ => (sg_name 3 sc.nd (by rfl) (by first | exact Or.inl rfl | exact Or.inr rfl) (by decide))) (fun _ _ _ _ _ => (sts_one (st_cmp (or_inB hU.c65) (se_tup (sa_cons (se_b2 (cr_min2 (by rfl)) (by rfl) T.z_min (by decide +kernel) (se_var 1) (SE.sw (se_var 3))) (sa_cons (se_b2 (cr_max2 (by rfl)) (by rfl) T.z_max (by decide +kernel) (se_var 1) (SE.sw (se_var 3))) sa_nil))) (SE.sw (se_ix (se_var 0) se_int))))) (fun _ _ _ _ _ => (se_var 3)) (sw_true (by rfl) (by rfl) (by rfl) (by decide +kernel)))
      (sss_one (ss_ret (se_t1 cr_tuple (by rfl) T.z_tuple (by decide +kernel) (SE.sw (se_var 2)))))))
set_option maxHeartbeats 4000000 in
theorem ok_is_route (C : Cx1 K mg Z) (T : Tx mg) : FnOk P w K mg base CX0 2 Z.a_is_route Z.d_is_route ["net", "thing"] (spF K 2 g_is_route) := by
  have sc := sc_is_route
  refine fn_run (k := 1) (N := N_is_route) C.f_is_route sc_is_route fun cdv A outer s H E hr => ?_
  have hU := un1 hr
  exact ((sss_cons (ss_if (SWt.st (sw_or (st_not (st_val (SE.sw (se_isi .tuple (by rfl) T.z_isinstance (by rfl) T.z_tuple (by decide +kernel) (SE.sw (se_var 1)))))) (sw_or (st_cmp (or_ltB hU.c0) (se_b1 cr_len (by rfl) T.z_len (by decide +kernel) (SE.sw (se_var 1))) (SE.sw se_int)) (sw_or1 (st_not (st_val (SE.sw (se_b1 (cr_allD (by rfl)) (by rfl) T.z_all (by decide +kernel) (SE.sw (SL.se (sl_comp (own := [("one", 2)]) (by rfl) sc.nd (si_seq (se_var 1)) (blkOk_by (own := [("one", 2)]) (by rfl)) (fun _ _ _ _ _ => (sg_name 2 sc.nd (by rfl) (by first | exact Or.inl rfl | exact Or.inr rfl) (by decide))) (fun _ _ _ _ _ => sts_nil) (fun _ _ _ _ _ => (se_call (ok_is_whole C T) (hr.mono (by omega)) (by rfl) C.g_is_whole C.f_is_whole.kp C.b_is_whole (sa_cons (se_var 2) (sa_cons se_int (sa_cons (se_op or_subD (se_ix (se_var 0) se_int) (SE.sw se_int)) sa_nil))) (by rfl)))))))))))))) (sss_one (ss_ret se_bl)) sss_nil)
      (sss_cons (ss_if (SWt.st (sw_or (st_cmp (or_neB hU.c64) (se_lenSet (by rfl) (by rfl) T.z_len (by rfl) T.z_set (se_var 1)) (SE.sw (se_b1 cr_len (by rfl) T.z_len (by decide +kernel) (SE.sw (se_var 1))))) (sw_or (st_cmp (or_notInB hU.c65) (se_ix (se_var 1) se_int) (SE.sw (se_ix (se_var 0) se_int))) (sw_or (st_cmp (or_notInB hU.c65) (se_ix (se_var 1) (se_neg se_int)) (SE.sw (se_ix (se_var 0) se_int))) (sw_or1 (st_cmp (or_gtD hU.c64) (se_ix (se_var 1) se_int) (SE.sw (se_ix (se_var 1) (se_neg se_int))))))))) (sss_one (ss_ret se_bl)) sss_nil)
      (sss_one (ss_ret (se_b1 (cr_allD (by rfl)) (by rfl) T.z_all (by decide +kernel) (SE.sw (SL.se (sl_comp (own := [("one", 2), ("other", 3)]) (by rfl) sc.nd (si_zip (by rfl) T.z_zip (se_sl (se_var 1) sp_none (sp_some (se_neg se_int))) (se_sl (se_var 1) (sp_some se_int) sp_none)) (blkOk_by (own := [("one", 2), ("other", 3)]) (by rfl)) (fun _ _ _ _ _ => (sg_tup (by rfl) (sgs_cons (sg_name 2 sc.nd (by rfl) (by first | exact Or.inl rfl | exact Or.inr rfl) (by decide)) (sgs_cons (sg_name 3 sc.nd (by rfl) (by first | exact Or.inl rfl | exact Or.inr rfl) (by decide)) sgs_nil)))) (fun _ _ _ _ _ => sts_nil) (fun _ _ _ _ _ => (se_cmp (or_inB hU.c65) (se_var 3) (SE.sw (se_call (ok_beside C T) (hr.mono (by omega)) (by rfl) C.g_beside C.f_beside.kp C.b_beside (sa_cons (se_var 0) (sa_cons (se_var 2) sa_nil)) (by rfl))))))))))))))
set_option maxHeartbeats 4000000 in
theorem okr__law_same (C : Cx1 K mg Z) (T : Tx mg) : ∀ n, FnOk P w K mg base CX0 (0 + n) Z.a__law_same Z.d__law_same ["_law_got", "_law_due"] (spF K 2 (gr__law_same n))
  | 0 => spF_none
  | n + 1 => by
    have G := okr__law_same C T n
    have sc := sc__law_same
    refine fn_run (k := 0 + n) (N := N__law_same) C.f__law_same sc__law_same fun cdv A outer s H E hr => ?_
    have hU := un1 hr
    exact ((sss_cons (ss_if (st_cmp or_isB (se_var 1) (SE.sw se_non)) (sss_one (ss_ret (se_cmp or_isB (se_var 0) (SE.sw se_non)))) sss_nil)
      (sss_cons (ss_if (st_val (SE.sw (se_isi .bool (by rfl) T.z_isinstance (by rfl) T.z_bool (by decide +kernel) (SE.sw (se_var 1))))) (sss_one (ss_ret (se_and (se_isi .bool (by rfl) T.z_isinstance (by rfl) T.z_bool (by decide +kernel) (SE.sw (se_var 0))) (se_one (se_cmp (or_eqB hU.c64) (se_var 0) (SE.sw (se_var 1))))))) sss_nil)
      (sss_cons (ss_if (st_val (SE.sw (se_isi .tuple (by rfl) T.z_isinstance (by rfl) T.z_tuple (by decide +kernel) (SE.sw (se_var 1))))) (sss_cons (ss_if (SWt.st (sw_or (st_not (st_val (SE.sw (se_isi .tuple (by rfl) T.z_isinstance (by rfl) T.z_tuple (by decide +kernel) (SE.sw (se_var 0)))))) (sw_or1 (st_cmp (or_neB hU.c64) (se_b1 cr_len (by rfl) T.z_len (by decide +kernel) (SE.sw (se_var 0))) (SE.sw (se_b1 cr_len (by rfl) T.z_len (by decide +kernel) (SE.sw (se_var 1)))))))) (sss_one (ss_ret se_bl)) sss_nil)
      (sss_one (ss_ret (se_b1 (cr_allD (by rfl)) (by rfl) T.z_all (by decide +kernel) (SE.sw (SL.se (sl_comp (own := [("_law_one", 2), ("_law_other", 3)]) (by rfl) sc.nd (si_zip (by rfl) T.z_zip (se_var 0) (se_var 1)) (blkOk_by (own := [("_law_one", 2), ("_law_other", 3)]) (by rfl)) (fun _ _ _ _ _ => (sg_tup (by rfl) (sgs_cons (sg_name 2 sc.nd (by rfl) (by first | exact Or.inl rfl | exact Or.inr rfl) (by decide)) (sgs_cons (sg_name 3 sc.nd (by rfl) (by first | exact Or.inl rfl | exact Or.inr rfl) (by decide)) sgs_nil)))) (fun _ _ _ _ _ => sts_nil) (fun _ _ _ _ _ => (se_call G hr (by rfl) C.g__law_same C.f__law_same.kp C.b__law_same (sa_cons (se_var 2) (sa_cons (se_var 3) sa_nil)) (by rfl)))))))))) sss_nil)
      (sss_cons (ss_if (st_val (SE.sw (se_isi .str (by rfl) T.z_isinstance (by rfl) T.z_str (by decide +kernel) (SE.sw (se_var 1))))) (sss_one (ss_ret (se_and (se_isi .str (by rfl) T.z_isinstance (by rfl) T.z_str (by decide +kernel) (SE.sw (se_var 0))) (se_one (se_cmp (or_eqB hU.c64) (se_var 0) (SE.sw (se_var 1))))))) sss_nil)
      (sss_one (ss_ret (se_and (se_isi .int (by rfl) T.z_isinstance (by rfl) T.z_int (by decide +kernel) (SE.sw (se_var 0))) (se_and (se_not (SE.sw (se_isi .bool (by rfl) T.z_isinstance (by rfl) T.z_bool (by decide +kernel) (SE.sw (se_var 0))))) (se_one (se_cmp (or_eqB hU.c64) (se_var 0) (SE.sw (se_var 1)))))))))))))
theorem ok__law_same (C : Cx1 K mg Z) (T : Tx mg) : FnOk P w K mg base CX0 40 Z.a__law_same Z.d__law_same ["_law_got", "_law_due"] (spF K 2 g__law_same) := okr__law_same C T 40
set_option maxHeartbeats 4000000 in
theorem ok__law_draw (C : Cx1 K mg Z) (T : Tx mg) : FnOk P w K mg base CX0 1 Z.a__law_draw Z.d__law_draw ["_law_script", "_law_town", "_law_many"] (spR K 3 1 g__law_draw) := by
  have sc := sc__law_draw
  refine fn_runR 1 (k := 0) (N := N__law_draw) C.f__law_draw sc__law_draw fun cdv A outer s H E hr => ?_
  have hU := un1 hr
  exact ((sss_cons (ss_expr (se_app 1 se_int))
      (sss_cons (ss_asg 3 sc.nd (se_b1 cr_len (by rfl) T.z_len (by decide +kernel) (sw_own 1)))
      (sss_cons (ss_asg 4 sc.nd se_int)
      (sss_cons (ss_if (st_val (SE.sw (se_var 0))) (sss_one (ss_asg 4 sc.nd (se_ix (se_var 0) (se_op or_modD (se_var 3) (SE.sw (se_b1 cr_len (by rfl) T.z_len (by decide +kernel) (SE.sw (se_var 0)))))))) sss_nil)
      (sss_cons (ss_asg 5 sc.nd (se_op or_modD (se_op or_addD (se_var 4) (SE.sw (se_op or_mulD se_int (SE.sw (se_var 3))))) (SE.sw se_int)))
      (sss_cons (ss_asg 5 sc.nd (se_op or_modD (se_op or_mulD (se_op or_modD (se_op or_mulD (se_var 5) (SE.sw (se_var 5))) (SE.sw se_int)) (SE.sw se_int)) (SE.sw se_int)))
      (sss_one (ss_ret (se_op or_modD (se_op or_fdivD (se_var 5) (SE.sw se_int)) (SE.sw (se_var 2))))))))))))
set_option maxHeartbeats 4000000 in
theorem ok__law_pick (C : Cx1 K mg Z) (T : Tx mg) : FnOk P w K mg base CX0 2 Z.a__law_pick Z.d__law_pick ["_law_script", "_law_town", "_law_some"] (spR K 3 1 g__law_pick) := by
  have sc := sc__law_pick
  refine fn_runR 1 (k := 1) (N := N__law_pick) C.f__law_pick sc__law_pick fun cdv A outer s H E hr => ?_
  have hU := un1 hr
  exact ((sss_one (ss_ret (se_ix (se_var 2) (se_callR (ok__law_draw C T) (hr.mono (by omega)) (by rfl) C.g__law_draw C.f__law_draw.kp C.b__law_draw (sar_there (se_var 0) (sar_here 1 (sa_cons (se_b1 cr_len (by rfl) T.z_len (by decide +kernel) (SE.sw (se_var 2))) sa_nil))) (by rfl))))))
set_option maxHeartbeats 4000000 in
theorem ok__law_net (C : Cx1 K mg Z) (T : Tx mg) : FnOk P w K mg base CX0 3 Z.a__law_net Z.d__law_net ["_law_script", "_law_town", "_law_high", "_law_wide"] (spR K 4 1 g__law_net) := by
  have sc := sc__law_net
  refine fn_runR 1 (k := 2) (N := N__law_net) C.f__law_net sc__law_net fun cdv A outer s H E hr => ?_
  have hU := un1 hr
  exact ((sss_cons (ss_asg 4 sc.nd (se_op or_addD se_int (SE.sw (se_callR (ok__law_draw C T) (hr.mono (by omega)) (by rfl) C.g__law_draw C.f__law_draw.kp C.b__law_draw (sar_there (se_var 0) (sar_here 1 (sa_cons (se_var 2) sa_nil))) (by rfl)))))
      (sss_cons (ss_asg 5 sc.nd (SL.se (sl_lst sa_nil)))
      (sss_cons (ss_for (is := [6]) PassesOwn.never (by rfl) (si_range1 (by rfl) T.z_range (se_var 4)) (sg_name 6 sc.nd (by rfl) (by first | exact Or.inl rfl | exact Or.inr rfl) (by decide)) (sss_one (ss_asg 5 sc.nd (se_op or_addD (se_var 5) (SE.sw (SL.se (sl_comp (own := [("_law_other", 11)]) (by rfl) sc.nd (si_range2 (by rfl) T.z_range (se_op or_addD (se_var 6) (SE.sw se_int)) (se_var 4)) (blkOk_by (own := [("_law_other", 11)]) (by rfl)) (fun _ _ _ _ _ => (sg_name 11 sc.nd (by rfl) (by first | exact Or.inl rfl | exact Or.inr rfl) (by decide))) (fun _ _ _ _ _ => sts_nil) (fun _ _ _ _ _ => (se_tup (sa_cons (se_var 6) (sa_cons (se_var 11) sa_nil)))))))))))
      (sss_cons (ss_newK 7 sc.nd)
      (sss_cons (ss_if (st_cmp (or_gtD hU.c64) (se_callR (ok__law_draw C T) (hr.mono (by omega)) (by rfl) C.g__law_draw C.f__law_draw.kp C.b__law_draw (sar_there (se_var 0) (sar_here 1 (sa_cons se_int sa_nil))) (by rfl)) (SE.sw se_int)) (sss_one (ss_for (is := [10]) PassesOwn.never (by rfl) (si_range2 (by rfl) T.z_range se_int (se_var 4)) (sg_name 10 sc.nd (by rfl) (by first | exact Or.inl rfl | exact Or.inr rfl) (by decide)) (sss_cons (ss_asg 11 sc.nd (se_callR (ok__law_draw C T) (hr.mono (by omega)) (by rfl) C.g__law_draw C.f__law_draw.kp C.b__law_draw (sar_there (se_var 0) (sar_here 1 (sa_cons (se_var 10) sa_nil))) (by rfl)))
      (sss_one (ss_putK 7 hU.c1 (se_tup (sa_cons (se_var 11) (sa_cons (se_var 10) sa_nil))) se_int))))) sss_nil)
      (sss_cons (ss_for (is := [8]) PassesOwn.never (by rfl) (si_range1 (by rfl) T.z_range (se_callR (ok__law_draw C T) (hr.mono (by omega)) (by rfl) C.g__law_draw C.f__law_draw.kp C.b__law_draw (sar_there (se_var 0) (sar_here 1 (sa_cons (se_op or_addD (se_var 3) (SE.sw se_int)) sa_nil))) (by rfl))) (sg_name 8 sc.nd (by rfl) (by first | exact Or.inl rfl | exact Or.inr rfl) (by decide)) (sss_one (ss_if (SWt.st (sw_and (st_val (SE.sw (se_var 5))) (sw_and1 (st_cmp (or_ltB hU.c0) (se_lenK 7 (by rfl) T.z_len) (SE.sw (se_var 3)))))) (sss_one (ss_putK 7 hU.c1 (se_callR (ok__law_pick C T) (hr.mono (by omega)) (by rfl) C.g__law_pick C.f__law_pick.kp C.b__law_pick (sar_there (se_var 0) (sar_here 1 (sa_cons (se_var 5) sa_nil))) (by rfl)) se_int)) sss_nil)))
      (sss_cons (ss_compD 9 (own := [("_law_knot", 10)]) (by rfl) sc.nd (si_range1 (by rfl) T.z_range (se_var 4)) (blkOk_by (own := [("_law_knot", 10)]) (by rfl)) (fun _ _ _ _ _ => (sg_name 10 sc.nd (by rfl) (by first | exact Or.inl rfl | exact Or.inr rfl) (by decide))) (fun _ _ _ _ _ => (sts_one (st_cmp (or_eqB hU.c64) (se_callR (ok__law_draw C T) (hr.mono (by omega)) (by rfl) C.g__law_draw C.f__law_draw.kp C.b__law_draw (sar_there (se_var 0) (sar_here 1 (sa_cons se_int sa_nil))) (by rfl)) (SE.sw se_int)))) (fun _ _ _ _ _ => (se_var 10)) (sw_true (by rfl) (by rfl) (by rfl) (by decide +kernel)))
      (sss_cons (ss_if (st_not (st_val (SE.sw (se_var 9)))) (sss_one (ss_asg 9 sc.nd (SL.se (sl_lst (sa_cons (se_callR (ok__law_draw C T) (hr.mono (by omega)) (by rfl) C.g__law_draw C.f__law_draw.kp C.b__law_draw (sar_there (se_var 0) (sar_here 1 (sa_cons (se_var 4) sa_nil))) (by rfl)) sa_nil))))) sss_nil)
      (sss_one (ss_ret (se_tup (sa_cons (se_var 4) (sa_cons (se_sl (se_t1 cr_tuple (by rfl) T.z_tuple (by decide +kernel) (SE.sw (se_sortK 7 hU.c100 (by rfl) (by rfl) T.z_sorted))) sp_none (sp_some (se_var 3))) (sa_cons (se_t1 cr_tuple (by rfl) T.z_tuple (by decide +kernel) (SE.sw (se_var 9))) sa_nil)))))))))))))))
set_option maxHeartbeats 4000000 in
theorem ok__law_routes (C : Cx1 K mg Z) (T : Tx mg) : FnOk P w K mg base CX0 1 Z.a__law_routes Z.d__law_routes ["_law_net_here"] (spF K 1 g__law_routes) := by
  have sc := sc__law_routes
  refine fn_run (k := 0) (N := N__law_routes) C.f__law_routes sc__law_routes fun cdv A outer s H E hr => ?_
  have hU := un1 hr
  exact ((sss_cons (ss_compD 1 (own := [("_law_knot", 5)]) (by rfl) sc.nd (si_seq (se_ix (se_var 0) se_int)) (blkOk_by (own := [("_law_knot", 5)]) (by rfl)) (fun _ _ _ _ _ => (sg_name 5 sc.nd (by rfl) (by first | exact Or.inl rfl | exact Or.inr rfl) (by decide))) (fun _ _ _ _ _ => sts_nil) (fun _ _ _ _ _ => (se_tup (sa_cons (se_var 5) sa_nil))) (sw_true (by rfl) (by rfl) (by rfl) (by decide +kernel)))
      (sss_cons (ss_asg 2 sc.nd (SL.se (sl_lst sa_nil)))
      (sss_cons (ss_while 1000 PassesOwn.never (st_val (SE.sw (se_var 1))) (sss_cons (ss_new 3 sc.nd (sl_lst sa_nil))
      (sss_cons (ss_for (is := [4]) PassesOwn.never (by rfl) (si_seq (se_var 1)) (sg_name 4 sc.nd (by rfl) (by first | exact Or.inl rfl | exact Or.inr rfl) (by decide)) (sss_one (ss_for (is := [6]) PassesOwn.never (by rfl) (si_seq (se_ix (se_var 0) se_int)) (sg_name 6 sc.nd (by rfl) (by first | exact Or.inl rfl | exact Or.inr rfl) (by decide)) (sss_one (ss_if (SWt.st (sw_and (st_cmp (or_inB hU.c65) (se_ix (se_var 4) (se_neg se_int)) (SE.sw (se_var 6))) (sw_and1 (SWt.st (sw_or (st_cmp (or_notInB hU.c65) (se_ix (se_var 6) se_int) (SE.sw (se_var 4))) (sw_or1 (st_cmp (or_notInB hU.c65) (se_ix (se_var 6) se_int) (SE.sw (se_var 4))))))))) (sss_one (ss_expr (se_app 3 (se_op or_addD (se_var 4) (SE.sw (se_tup (sa_cons (se_op or_subD (se_op or_addD (se_ix (se_var 6) se_int) (SE.sw (se_ix (se_var 6) se_int))) (SE.sw (se_ix (se_var 4) (se_neg se_int)))) sa_nil))))))) sss_nil)))))
      (sss_cons (ss_frz 3 (ss_asg 2 sc.nd (se_op or_addD (se_var 2) (SE.sw (SL.se (sl_comp (own := [("_law_row", 4)]) (by rfl) sc.nd (si_seq (se_var 3)) (blkOk_by (own := [("_law_row", 4)]) (by rfl)) (fun _ _ _ _ _ => (sg_name 4 sc.nd (by rfl) (by first | exact Or.inl rfl | exact Or.inr rfl) (by decide))) (fun _ _ _ _ _ => (sts_one (SWt.st (sw_and (st_cmp (or_inB hU.c65) (se_ix (se_var 4) (se_neg se_int)) (SE.sw (se_ix (se_var 0) se_int))) (sw_and1 (st_cmp (or_ltB hU.c0) (se_ix (se_var 4) se_int) (SE.sw (se_ix (se_var 4) (se_neg se_int))))))))) (fun _ _ _ _ _ => (se_var 4))))))))
      (sss_one (ss_asg 1 sc.nd (se_var 3)))))))
      (sss_one (ss_ret (se_b1 (cr_sortD2 hU.c100) (by rfl) T.z_sorted (by decide +kernel) (SE.sw (se_var 2)))))))))
set_option maxHeartbeats 4000000 in
theorem ok__law_is_route (C : Cx1 K mg Z) (T : Tx mg) : FnOk P w K mg base CX0 1 Z.a__law_is_route Z.d__law_is_route ["_law_net_here", "_law_thing"] (spF K 2 g__law_is_route) := by
  have sc := sc__law_is_route
  refine fn_run (k := 0) (N := N__law_is_route) C.f__law_is_route sc__law_is_route fun cdv A outer s H E hr => ?_
  have hU := un1 hr
  exact ((sss_cons (ss_if (SWt.st (sw_or (st_not (st_val (SE.sw (se_isi .tuple (by rfl) T.z_isinstance (by rfl) T.z_tuple (by decide +kernel) (SE.sw (se_var 1)))))) (sw_or1 (st_cmp (or_ltB hU.c0) (se_b1 cr_len (by rfl) T.z_len (by decide +kernel) (SE.sw (se_var 1))) (SE.sw se_int))))) (sss_one (ss_ret se_bl)) sss_nil)
      (sss_cons (ss_pre [2] (ss_for (is := [2]) PassesOwn.never (by rfl) (si_seq (se_var 1)) (sg_name 2 sc.nd (by rfl) (by first | exact Or.inl rfl | exact Or.inr rfl) (by decide)) (sss_wip [2] (sss_one (ss_if (SWt.st (sw_or (st_not (st_val (SE.sw (se_isi .int (by rfl) T.z_isinstance (by rfl) T.z_int (by decide +kernel) (SE.sw (se_var 2)))))) (sw_or (st_val (SE.sw (se_isi .bool (by rfl) T.z_isinstance (by rfl) T.z_bool (by decide +kernel) (SE.sw (se_var 2))))) (sw_or (st_cmp (or_gtD hU.c64) (se_countT hU.c65 (se_var 1) (SE.sw (se_var 2))) (SE.sw se_int)) (sw_or1 (st_not (st_chain (or_leB hU.c0) (or_ltB hU.c0) se_int (se_var 2) (SE.sw (se_ix (se_var 0) se_int))))))))) (sss_one (ss_ret se_bl)) sss_nil)))))
      (sss_cons (ss_if (SWt.st (sw_or (st_cmp (or_notInB hU.c65) (se_ix (se_var 1) se_int) (SE.sw (se_ix (se_var 0) se_int))) (sw_or (st_cmp (or_notInB hU.c65) (se_ix (se_var 1) (se_neg se_int)) (SE.sw (se_ix (se_var 0) se_int))) (sw_or1 (st_cmp (or_ltB hU.c0) (se_ix (se_var 1) (se_neg se_int)) (SE.sw (se_ix (se_var 1) se_int))))))) (sss_one (ss_ret se_bl)) sss_nil)
      (sss_cons (ss_pre [3] (ss_for (is := [3]) PassesOwn.never (by rfl) (si_range2 (by rfl) T.z_range se_int (se_b1 cr_len (by rfl) T.z_len (by decide +kernel) (SE.sw (se_var 1)))) (sg_name 3 sc.nd (by rfl) (by first | exact Or.inl rfl | exact Or.inr rfl) (by decide)) (sss_wip [3] (sss_one (ss_if (st_cmp (or_notInB hU.c65) (se_t1 cr_tuple (by rfl) T.z_tuple (by decide +kernel) (SE.sw (se_b1 (cr_sortD2 hU.c100) (by rfl) T.z_sorted (by decide +kernel) (SE.sw (se_sl (se_var 1) (sp_some (se_op or_subD (se_var 3) (SE.sw se_int))) (sp_some (se_op or_addD (se_var 3) (SE.sw se_int)))))))) (SE.sw (se_ix (se_var 0) se_int))) (sss_one (ss_ret se_bl)) sss_nil)))))
      (sss_one (ss_ret se_bl)))))))
set_option maxHeartbeats 4000000 in
theorem ok_law (C : Cx1 K mg Z) (T : Tx mg) : FnOk P w K mg base CX0 41 Z.a_law Z.d_law ["_law_script"] (spF K 1 g_law) := by
  have sc := sc_law
  refine fn_run (k := 40) (N := N_law) C.f_law sc_law fun cdv A outer s H E hr => ?_
  have hU := un1 hr
  exact ((sss_cons (ss_new 1 sc.nd (sl_lst sa_nil))
      (sss_cons (ss_pre [2, 3, 4, 5, 6, 7, 8, 9, 10, 11, 12, 13] (ss_for (is := [2]) PassesOwn.never (by rfl) (si_range1 (by rfl) T.z_range se_int) (sg_name 2 sc.nd (by rfl) (by first | exact Or.inl rfl | exact Or.inr rfl) (by decide)) (sss_wip [2, 3, 4, 5, 6, 7, 8, 9, 10, 11, 12, 13] (sss_cons (ss_asg 3 sc.nd (se_callR (ok__law_net C T) (hr.mono (by omega)) (by rfl) C.g__law_net C.f__law_net.kp C.b__law_net (sar_there (se_var 0) (sar_here 1 (sa_cons se_int (sa_cons se_int sa_nil)))) (by rfl)))
      (sss_cons (ss_asg 4 sc.nd (se_sl (se_call (ok__law_routes C T) (hr.mono (by omega)) (by rfl) C.g__law_routes C.f__law_routes.kp C.b__law_routes (sa_cons (se_var 3) sa_nil) (by rfl)) sp_none (sp_some se_int)))
      (sss_cons (ss_new 5 sc.nd (sl_lst (sa_cons se_non (sa_cons se_int (sa_cons (se_tup sa_nil) (sa_cons se_str (sa_cons (se_tup (sa_cons se_int sa_nil)) (sa_cons (se_tup (sa_cons se_int (sa_cons se_int sa_nil))) (sa_cons (se_tup (sa_cons se_int (sa_cons se_int sa_nil))) (sa_cons (se_tup (sa_cons se_int (sa_cons se_int sa_nil))) (sa_cons (se_tup (sa_cons se_bl (sa_cons se_int sa_nil))) (sa_cons (se_tup (sa_cons se_int (sa_cons se_bl sa_nil))) (sa_cons (se_tup (sa_cons (se_tup (sa_cons se_int (sa_cons se_int sa_nil))) sa_nil)) (sa_cons (SL.se (sl_lst (sa_cons se_int (sa_cons se_int sa_nil)))) sa_nil))))))))))))))
      (sss_cons (ss_pre [6, 8, 9] (ss_for (is := [6]) PassesOwn.never (by rfl) (si_range1 (by rfl) T.z_range se_int) (sg_name 6 sc.nd (by rfl) (by first | exact Or.inl rfl | exact Or.inr rfl) (by decide)) (sss_wip [6, 8, 9] (sss_cons (ss_asg 8 sc.nd (se_tup sa_nil))
      (sss_cons (ss_pre [9] (ss_for (is := [9]) PassesOwn.never (by rfl) (si_range1 (by rfl) T.z_range (se_op or_addD se_int (SE.sw (se_callR (ok__law_draw C T) (hr.mono (by omega)) (by rfl) C.g__law_draw C.f__law_draw.kp C.b__law_draw (sar_there (se_var 0) (sar_here 1 (sa_cons se_int sa_nil))) (by rfl))))) (sg_name 9 sc.nd (by rfl) (by first | exact Or.inl rfl | exact Or.inr rfl) (by decide)) (sss_wip [9] (sss_one (ss_asg 8 sc.nd (se_op or_addD (se_var 8) (SE.sw (se_tup (sa_cons (se_callR (ok__law_draw C T) (hr.mono (by omega)) (by rfl) C.g__law_draw C.f__law_draw.kp C.b__law_draw (sar_there (se_var 0) (sar_here 1 (sa_cons (se_op or_addD (se_ix (se_var 3) se_int) (SE.sw se_int)) sa_nil))) (by rfl)) sa_nil)))))))))
      (sss_one (ss_expr (se_app 5 (se_var 8)))))))))
      (sss_cons (ss_pre [6, 10, 11, 12, 13] (ss_for (is := [6]) PassesOwn.never (by rfl) (si_range1 (by rfl) T.z_range (se_op or_mulD se_int (SE.sw (se_t1 cr_int (by rfl) T.z_int (by decide +kernel) (SE.sw (se_cmp (or_neB hU.c64) (se_var 4) (SE.sw (SL.se (sl_lst sa_nil))))))))) (sg_name 6 sc.nd (by rfl) (by first | exact Or.inl rfl | exact Or.inr rfl) (by decide)) (sss_wip [6, 10, 11, 12, 13] (sss_cons (ss_asg 10 sc.nd (se_callR (ok__law_pick C T) (hr.mono (by omega)) (by rfl) C.g__law_pick C.f__law_pick.kp C.b__law_pick (sar_there (se_var 0) (sar_here 1 (sa_cons (se_var 4) sa_nil))) (by rfl)))
      (sss_cons (ss_asg 11 sc.nd (se_callR (ok__law_draw C T) (hr.mono (by omega)) (by rfl) C.g__law_draw C.f__law_draw.kp C.b__law_draw (sar_there (se_var 0) (sar_here 1 (sa_cons (se_b1 cr_len (by rfl) T.z_len (by decide +kernel) (SE.sw (se_var 10))) sa_nil))) (by rfl)))
      (sss_cons (ss_asg 12 sc.nd (se_callR (ok__law_pick C T) (hr.mono (by omega)) (by rfl) C.g__law_pick C.f__law_pick.kp C.b__law_pick (sar_there (se_var 0) (sar_here 1 (sa_cons (SL.se (sl_lst (sa_cons se_non (sa_cons (se_neg se_int) (sa_cons (se_ix (se_var 3) se_int) (sa_cons se_str (sa_cons (se_tup sa_nil) (sa_cons se_int (sa_cons se_int (sa_cons (se_op or_subD (se_ix (se_var 3) se_int) (SE.sw se_int)) sa_nil)))))))))) sa_nil))) (by rfl)))
      (sss_cons (ss_new 5 sc.nd (sl_catOwn 5 (SE.sw (SL.se (sl_lst (sa_cons (se_var 10) (sa_cons (se_t1 cr_list (by rfl) T.z_list (by decide +kernel) (SE.sw (se_var 10))) (sa_cons (se_rev (se_var 10)) (sa_cons (se_sl (se_var 10) sp_none (sp_some (se_neg se_int))) (sa_cons (se_sl (se_var 10) (sp_some se_int) sp_none) (sa_cons (se_op or_addD (se_var 10) (SE.sw (se_sl (se_var 10) sp_none (sp_some se_int)))) sa_nil)))))))))))
      (sss_cons (ss_new 5 sc.nd (sl_catOwn 5 (SE.sw (SL.se (sl_lst (sa_cons (se_op or_addD (se_op or_addD (se_sl (se_var 10) sp_none (sp_some (se_var 11))) (SE.sw (se_tup (sa_cons (se_var 12) sa_nil)))) (SE.sw (se_sl (se_var 10) (sp_some (se_op or_addD (se_var 11) (SE.sw se_int))) sp_none))) (sa_cons (se_op or_addD (se_sl (se_var 10) sp_none (sp_some (se_var 11))) (SE.sw (se_sl (se_var 10) (sp_some (se_op or_addD (se_var 11) (SE.sw se_int))) sp_none))) sa_nil)))))))
      (sss_cons (ss_expr (se_app 5 (se_op or_addD (se_op or_addD (se_sl (se_var 10) sp_none (sp_some (se_var 11))) (SE.sw (se_sl (se_var 10) (sp_some (se_var 11)) (sp_some (se_op or_addD (se_var 11) (SE.sw se_int)))))) (SE.sw (se_sl (se_var 10) (sp_some (se_var 11)) sp_none)))))
      (sss_one (ss_expr (se_app 5 (se_t1 cr_tuple (by rfl) T.z_tuple (by decide +kernel) (SE.sw (SL.se (sl_comp (own := [("_law_one", 13)]) (by rfl) sc.nd (si_seq (se_var 10)) (blkOk_by (own := [("_law_one", 13)]) (by rfl)) (fun _ _ _ _ _ => (sg_name 13 sc.nd (by rfl) (by first | exact Or.inl rfl | exact Or.inr rfl) (by decide))) (fun _ _ _ _ _ => sts_nil) (fun _ _ _ _ _ => (se_ite (st_cmp (or_ltB hU.c0) (se_var 13) (SE.sw se_int)) (se_cmp (or_eqB hU.c64) (se_var 13) (SE.sw se_int)) (se_var 13)))))))))))))))))))
      (sss_one (ss_frz 5 (ss_pre [7] (ss_for (is := [7]) PassesOwn.never (by rfl) (si_seq (se_var 5)) (sg_name 7 sc.nd (by rfl) (by first | exact Or.inl rfl | exact Or.inr rfl) (by decide)) (sss_wip [7] (sss_one (ss_if (st_not (st_val (SE.sw (se_call (ok__law_same C T) (hr.mono (by omega)) (by rfl) C.g__law_same C.f__law_same.kp C.b__law_same (sa_cons (se_call (ok_is_route C T) (hr.mono (by omega)) (by rfl) C.g_is_route C.f_is_route.kp C.b_is_route (sa_cons (se_var 3) (sa_cons (se_var 7) sa_nil)) (by rfl)) (sa_cons (se_call (ok__law_is_route C T) (hr.mono (by omega)) (by rfl) C.g__law_is_route C.f__law_is_route.kp C.b__law_is_route (sa_cons (se_var 3) (sa_cons (se_var 7) sa_nil)) (by rfl)) sa_nil)) (by rfl))))) (sss_one (ss_ret se_bl)) sss_nil)))))))))))))))
      (sss_one (ss_ret se_bl)))))
end
set_option maxHeartbeats 0 in
theorem all_mk {l : PySem.W.OpenLaw} {w : World} {K : PySem.W.Frag} {h : Heap} {mg : Str → Option Value} {fa : Addr} (X : K.In h) (G : h.Ns mainGlobals mg) (hfa : mg "law" = some (.ref fa))
    {f0 : Addr} {od0 an0 : Option Addr} {sl0 : Array (Option Value)} {oc0 kV0 dc0 pm0 cd0 ct0 : Value}
    {f1 : Addr} {od1 an1 : Option Addr} {sl1 : Array (Option Value)} {oc1 kV1 dc1 pm1 cd1 ct1 : Value}
    {f2 : Addr} {od2 an2 : Option Addr} {sl2 : Array (Option Value)} {oc2 kV2 dc2 pm2 cd2 ct2 : Value}
    {f3 : Addr} {od3 an3 : Option Addr} {sl3 : Array (Option Value)} {oc3 kV3 dc3 pm3 cd3 ct3 : Value}
    {f4 : Addr} {od4 an4 : Option Addr} {sl4 : Array (Option Value)} {oc4 kV4 dc4 pm4 cd4 ct4 : Value}
    {f5 : Addr} {od5 an5 : Option Addr} {sl5 : Array (Option Value)} {oc5 kV5 dc5 pm5 cd5 ct5 : Value}
    {f6 : Addr} {od6 an6 : Option Addr} {sl6 : Array (Option Value)} {oc6 kV6 dc6 pm6 cd6 ct6 : Value}
    {f7 : Addr} {od7 an7 : Option Addr} {sl7 : Array (Option Value)} {oc7 kV7 dc7 pm7 cd7 ct7 : Value}
    {f8 : Addr} {od8 an8 : Option Addr} {sl8 : Array (Option Value)} {oc8 kV8 dc8 pm8 cd8 ct8 : Value}
    {f9 : Addr} {od9 an9 : Option Addr} {sl9 : Array (Option Value)} {oc9 kV9 dc9 pm9 cd9 ct9 : Value}
    (a0 : PySem.W.nsIn K mainGlobals "is_whole" = some (some (.ref f0))) (l0 : K.lookup f0 = some ⟨oc0, od0, .func (PySem.W.fnOf "is_whole" "is_whole" (defArgs s_is_whole) (defBody s_is_whole) (defScope s_is_whole) .none kV0 dc0 pm0 an0 cd0 ct0), sl0⟩) (c0 : PySem.W.codeIn K cd0 "is_whole" = true) (k0 : PySem.W.keepIn K (.ref f0) = true)
    (a1 : PySem.W.nsIn K mainGlobals "beside" = some (some (.ref f1))) (l1 : K.lookup f1 = some ⟨oc1, od1, .func (PySem.W.fnOf "beside" "beside" (defArgs s_beside) (defBody s_beside) (defScope s_beside) .none kV1 dc1 pm1 an1 cd1 ct1), sl1⟩) (c1 : PySem.W.codeIn K cd1 "beside" = true) (k1 : PySem.W.keepIn K (.ref f1) = true)
    (a2 : PySem.W.nsIn K mainGlobals "is_route" = some (some (.ref f2))) (l2 : K.lookup f2 = some ⟨oc2, od2, .func (PySem.W.fnOf "is_route" "is_route" (defArgs s_is_route) (defBody s_is_route) (defScope s_is_route) .none kV2 dc2 pm2 an2 cd2 ct2), sl2⟩) (c2 : PySem.W.codeIn K cd2 "is_route" = true) (k2 : PySem.W.keepIn K (.ref f2) = true)
    (a3 : PySem.W.nsIn K mainGlobals "_law_same" = some (some (.ref f3))) (l3 : K.lookup f3 = some ⟨oc3, od3, .func (PySem.W.fnOf "_law_same" "_law_same" (defArgs s__law_same) (defBody s__law_same) (defScope s__law_same) .none kV3 dc3 pm3 an3 cd3 ct3), sl3⟩) (c3 : PySem.W.codeIn K cd3 "_law_same" = true) (k3 : PySem.W.keepIn K (.ref f3) = true)
    (a4 : PySem.W.nsIn K mainGlobals "_law_draw" = some (some (.ref f4))) (l4 : K.lookup f4 = some ⟨oc4, od4, .func (PySem.W.fnOf "_law_draw" "_law_draw" (defArgs s__law_draw) (defBody s__law_draw) (defScope s__law_draw) .none kV4 dc4 pm4 an4 cd4 ct4), sl4⟩) (c4 : PySem.W.codeIn K cd4 "_law_draw" = true) (k4 : PySem.W.keepIn K (.ref f4) = true)
    (a5 : PySem.W.nsIn K mainGlobals "_law_pick" = some (some (.ref f5))) (l5 : K.lookup f5 = some ⟨oc5, od5, .func (PySem.W.fnOf "_law_pick" "_law_pick" (defArgs s__law_pick) (defBody s__law_pick) (defScope s__law_pick) .none kV5 dc5 pm5 an5 cd5 ct5), sl5⟩) (c5 : PySem.W.codeIn K cd5 "_law_pick" = true) (k5 : PySem.W.keepIn K (.ref f5) = true)
    (a6 : PySem.W.nsIn K mainGlobals "_law_net" = some (some (.ref f6))) (l6 : K.lookup f6 = some ⟨oc6, od6, .func (PySem.W.fnOf "_law_net" "_law_net" (defArgs s__law_net) (defBody s__law_net) (defScope s__law_net) .none kV6 dc6 pm6 an6 cd6 ct6), sl6⟩) (c6 : PySem.W.codeIn K cd6 "_law_net" = true) (k6 : PySem.W.keepIn K (.ref f6) = true)
    (a7 : PySem.W.nsIn K mainGlobals "_law_routes" = some (some (.ref f7))) (l7 : K.lookup f7 = some ⟨oc7, od7, .func (PySem.W.fnOf "_law_routes" "_law_routes" (defArgs s__law_routes) (defBody s__law_routes) (defScope s__law_routes) .none kV7 dc7 pm7 an7 cd7 ct7), sl7⟩) (c7 : PySem.W.codeIn K cd7 "_law_routes" = true) (k7 : PySem.W.keepIn K (.ref f7) = true)
    (a8 : PySem.W.nsIn K mainGlobals "_law_is_route" = some (some (.ref f8))) (l8 : K.lookup f8 = some ⟨oc8, od8, .func (PySem.W.fnOf "_law_is_route" "_law_is_route" (defArgs s__law_is_route) (defBody s__law_is_route) (defScope s__law_is_route) .none kV8 dc8 pm8 an8 cd8 ct8), sl8⟩) (c8 : PySem.W.codeIn K cd8 "_law_is_route" = true) (k8 : PySem.W.keepIn K (.ref f8) = true)
    (a9 : PySem.W.nsIn K mainGlobals "law" = some (some (.ref f9))) (l9 : K.lookup f9 = some ⟨oc9, od9, .func (PySem.W.fnOf "law" "law" (defArgs s_law) (defBody s_law) (defScope s_law) .none kV9 dc9 pm9 an9 cd9 ct9), sl9⟩) (c9 : PySem.W.codeIn K cd9 "law" = true) (k9 : PySem.W.keepIn K (.ref f9) = true)
    (z0 : PySem.W.nsIn K mainGlobals "all" = some none)
    (z1 : PySem.W.nsIn K mainGlobals "bool" = some none)
    (z2 : PySem.W.nsIn K mainGlobals "int" = some none)
    (z3 : PySem.W.nsIn K mainGlobals "isinstance" = some none)
    (z4 : PySem.W.nsIn K mainGlobals "len" = some none)
    (z5 : PySem.W.nsIn K mainGlobals "list" = some none)
    (z6 : PySem.W.nsIn K mainGlobals "max" = some none)
    (z7 : PySem.W.nsIn K mainGlobals "min" = some none)
    (z8 : PySem.W.nsIn K mainGlobals "range" = some none)
    (z9 : PySem.W.nsIn K mainGlobals "set" = some none)
    (z10 : PySem.W.nsIn K mainGlobals "sorted" = some none)
    (z11 : PySem.W.nsIn K mainGlobals "str" = some none)
    (z12 : PySem.W.nsIn K mainGlobals "tuple" = some none)
    (z13 : PySem.W.nsIn K mainGlobals "zip" = some none)
    : ∃ fd : FuncData, (∀ (s : Shared) (v : Value), BindsTo s fd ⟨[v], []⟩ [("_law_script", v)]) ∧ ∀ base : Heap, K.In base → base.Ns mainGlobals mg → FnOk l.prog w K mg base CX0 41 fa fd ["_law_script"] (spF K 1 g_law) := by
  have e := hfa.symm.trans (PySem.W.mg_of X G a9)
  cases e
  have F0 := fun_mk (st := s_is_whole) l0 c0 k0
  have b0 := F0.binds (ps := ["thing", "low", "high"]) fun _ _ _ _ _ _ us hl => match us, hl with | [_, _, _], _ => rfl
  have F1 := fun_mk (st := s_beside) l1 c1 k1
  have b1 := F1.binds (ps := ["net", "knot"]) fun _ _ _ _ _ _ us hl => match us, hl with | [_, _], _ => rfl
  have F2 := fun_mk (st := s_is_route) l2 c2 k2
  have b2 := F2.binds (ps := ["net", "thing"]) fun _ _ _ _ _ _ us hl => match us, hl with | [_, _], _ => rfl
  have F3 := fun_mk (st := s__law_same) l3 c3 k3
  have b3 := F3.binds (ps := ["_law_got", "_law_due"]) fun _ _ _ _ _ _ us hl => match us, hl with | [_, _], _ => rfl
  have F4 := fun_mk (st := s__law_draw) l4 c4 k4
  have b4 := F4.binds (ps := ["_law_script", "_law_town", "_law_many"]) fun _ _ _ _ _ _ us hl => match us, hl with | [_, _, _], _ => rfl
  have F5 := fun_mk (st := s__law_pick) l5 c5 k5
  have b5 := F5.binds (ps := ["_law_script", "_law_town", "_law_some"]) fun _ _ _ _ _ _ us hl => match us, hl with | [_, _, _], _ => rfl
  have F6 := fun_mk (st := s__law_net) l6 c6 k6
  have b6 := F6.binds (ps := ["_law_script", "_law_town", "_law_high", "_law_wide"]) fun _ _ _ _ _ _ us hl => match us, hl with | [_, _, _, _], _ => rfl
  have F7 := fun_mk (st := s__law_routes) l7 c7 k7
  have b7 := F7.binds (ps := ["_law_net_here"]) fun _ _ _ _ _ _ us hl => match us, hl with | [_], _ => rfl
  have F8 := fun_mk (st := s__law_is_route) l8 c8 k8
  have b8 := F8.binds (ps := ["_law_net_here", "_law_thing"]) fun _ _ _ _ _ _ us hl => match us, hl with | [_, _], _ => rfl
  have F9 := fun_mk (st := s_law) l9 c9 k9
  have b9 := F9.binds (ps := ["_law_script"]) fun _ _ _ _ _ _ us hl => match us, hl with | [_], _ => rfl
  have C : Cx1 K mg ⟨f0, _, f1, _, f2, _, f3, _, f4, _, f5, _, f6, _, f7, _, f8, _, fa, _⟩ := ⟨F0, b0, PySem.W.mg_of X G a0, F1, b1, PySem.W.mg_of X G a1, F2, b2, PySem.W.mg_of X G a2, F3, b3, PySem.W.mg_of X G a3, F4, b4, PySem.W.mg_of X G a4, F5, b5, PySem.W.mg_of X G a5, F6, b6, PySem.W.mg_of X G a6, F7, b7, PySem.W.mg_of X G a7, F8, b8, PySem.W.mg_of X G a8, F9, b9, PySem.W.mg_of X G a9⟩
  have T : Tx mg := ⟨PySem.W.mg_none_of X G z0, PySem.W.mg_none_of X G z1, PySem.W.mg_none_of X G z2, PySem.W.mg_none_of X G z3, PySem.W.mg_none_of X G z4, PySem.W.mg_none_of X G z5, PySem.W.mg_none_of X G z6, PySem.W.mg_none_of X G z7, PySem.W.mg_none_of X G z8, PySem.W.mg_none_of X G z9, PySem.W.mg_none_of X G z10, PySem.W.mg_none_of X G z11, PySem.W.mg_none_of X G z12, PySem.W.mg_none_of X G z13⟩
  exact ⟨_, fun s v => .of_eq rfl, fun base _ _ => ok_law C T⟩
end L_k04
open PySem PySem.W PyProof.Rows
set_option maxHeartbeats 0 in
theorem PySem.Challenge.cw_probeties_k04_whole_things_as_routes_holds : PySem.Challenge.rw_probeties_k04_whole_things_as_routes.Holds := by
  w_on; o_law; k_head; (case hw => w_witness2)
  k_fill
  refine L2.walk_of (l := PySem.Challenge.rw_probeties_k04_whole_things_as_routes) (n := 63) (k := 41) (x := "_law_script") (CX := fun _ => L2.CX0) (sp := fun w => DL.spF _ 1 L_k04.g_law) rfl (by decide) rfl ⟨rfl, by decide, by decide⟩ (fun w h Y => PySem.W.kIn_of Y) ?F (fun _ _ a ns hl _ hS => DL.law_end (L_k04.law_true ns hl) hS) (fun _ _ _ _ _ h => h)
  case F =>
    intro w mg fa h KX G hmg
    refine' L_k04.all_mk KX G hmg ?a0 ?l0 ?c0 ?k0 ?a1 ?l1 ?c1 ?k1 ?a2 ?l2 ?c2 ?k2 ?a3 ?l3 ?c3 ?k3 ?a4 ?l4 ?c4 ?k4 ?a5 ?l5 ?c5 ?k5 ?a6 ?l6 ?c6 ?k6 ?a7 ?l7 ?c7 ?k7 ?a8 ?l8 ?c8 ?k8 ?a9 ?l9 ?c9 ?k9 ?z0 ?z1 ?z2 ?z3 ?z4 ?z5 ?z6 ?z7 ?z8 ?z9 ?z10 ?z11 ?z12 ?z13
    (case a0 => k_is)
    (case l0 => k_is)
    (case c0 => k_is)
    (case k0 => k_is)
    (case a1 => k_is)
    (case l1 => k_is)
    (case c1 => k_is)
    (case k1 => k_is)
    (case a2 => k_is)
    (case l2 => k_is)
    (case c2 => k_is)
    (case k2 => k_is)
    (case a3 => k_is)
    (case l3 => k_is)
    (case c3 => k_is)
    (case k3 => k_is)
    (case a4 => k_is)
    (case l4 => k_is)
    (case c4 => k_is)
    (case k4 => k_is)
    (case a5 => k_is)
    (case l5 => k_is)
    (case c5 => k_is)
    (case k5 => k_is)
    (case a6 => k_is)
    (case l6 => k_is)
    (case c6 => k_is)
    (case k6 => k_is)
    (case a7 => k_is)
    (case l7 => k_is)
    (case c7 => k_is)
    (case k7 => k_is)
    (case a8 => k_is)
    (case l8 => k_is)
    (case c8 => k_is)
    (case k8 => k_is)
    (case a9 => k_is)
    (case l9 => k_is)
    (case c9 => k_is)
    (case k9 => k_is)
    (case z0 => k_is)
    (case z1 => k_is)
    (case z2 => k_is)
    (case z3 => k_is)
    (case z4 => k_is)
    (case z5 => k_is)
    (case z6 => k_is)
    (case z7 => k_is)
    (case z8 => k_is)
    (case z9 => k_is)
    (case z10 => k_is)
    (case z11 => k_is)
    (case z12 => k_is)
    (case z13 => k_is)
