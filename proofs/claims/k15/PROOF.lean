import PyProof.Rows.All
import Wide.All
import OpenK.AllK
import Wide.FinOn
import HandS.ForMost
import HandS.ForExc
import HandS.IsInst
import HandS.Deep
import HandS.Walk
import HandS.Zip
import HandS.SortOrd
import HandS.TupSets
import HandS.TupAny
import HandS.TupLe
import HandS.TupMul
import HandS.Flow
import HandS.Strs
import HandS.Conv
import HandS.Style
import KE.SortData
import HandS.More
import HandS.TupLen
import HandS.SetFor
import KE.GoesEnum
import HandS.WordsExc
import HandS.TryOnly
import HandS.ExcIs
import KE.DataAny
import HandS.Iter
import KE.DataCmp
import KE.KDictPairs
import PyProof.SumAny
import HandS.SetBool
import KE.LtData
import HandS.TryMany
import HandS.FStr
import HandS.Text
import HandS.HotCalls
import KE.GoesComp
import HandS.ReplaceLit
import HandS.StrMore
import PyProof.StrLaws
import PyProof.StrLawsChain
import PyProof.StrLawsTight
import PySem.Challenge.RW_probeties_k15_whole_nets_as_texts
set_option Elab.async false
set_option linter.all false
set_option maxRecDepth 100000
/-! DL: a layer of plain data over HandS. A def's body is read as a function of data (SM), its heap is hidden. -/
namespace DL
open PySem L2
abbrev D := PyData
/-- a dict's key: an int or a text, or a tuple of such -/
abbrev DK := Sum Key (List Key)
/-- a slot: a datum that no one changes; an own list; an own dict; an own dict of ints under rows of ints and None; a seeker (its net, what was told, its rows); a thing at an address, by its address alone -/
inductive SV where
  | d (x : D)
  | l (b : Bool) (xs : List D)
  | m (b t : Bool) (kvs : List (DK × D))
  | k (b : Bool) (kvs : List (List (Option Int) × Int))
  | s (b : Bool) (net told : D) (rows : List D)
  | ad (a : Addr)
def SV.own : SV → Bool
  | .d _ => false
  | .ad _ => false
  | _ => true
abbrev Rho := List (Option SV)
def SubH (F H : Hp) : Prop := ∀ a o, F a = some o → H a = some o
theorem SubH.refl (F : Hp) : SubH F F := fun _ _ h => h
theorem SubH.trans {F G H : Hp} (a : SubH F G) (b : SubH G H) : SubH F H := fun x o h => b x o (a x o h)
theorem SubH.new {H : Hp} {p : Addr} {o : HO} (h : H p = none) : SubH H (upd H p o) := fun a u e => by
  rw [upd_ne (ne_of_none e h)]; exact e
theorem SubH.none {F H : Hp} (e : SubH F H) {p : Addr} (h : H p = none) : F p = none := by
  cases q : F p with
  | none => rfl
  | some o => rw [e p o q] at h; cases h
theorem SubH.rd {F H : Hp} (e : SubH F H) {a : Addr} {u : HO} (h : Rd F a u) : Rd H a u := by
  rcases h with h | ⟨o, h⟩
  · exact .inl (e _ _ h)
  · exact .inr ⟨o, e _ _ h⟩
theorem SubH.sqt {K : PySem.W.Frag} {F H : Hp} (e : SubH F H) {a : Addr} {xs : List V} (h : SqT K F a xs) : SqT K H a xs := by
  rcases h with h | h
  · exact .inl (e.rd h)
  · exact .inr h
theorem SubH.sql {K : PySem.W.Frag} {F H : Hp} (e : SubH F H) {a : Addr} {xs : List V} (h : SqL K F a xs) : SqL K H a xs := by
  rcases h with h | h
  · exact .inl (e.rd h)
  · exact .inr h
/-! ### data in the heap: what is flat by itself, rows by what stands at their place (a tuple as such) -/
/-- a tuple of flat things (which may be a dict's key) stands as such; any other one with its object, which has no attributes of its own -/
def noRef : V → Bool
  | .ref _ => false
  | _ => true
def tupHO (ob : Obj) (vs : List V) : HO := if vs.all noRef = true then .tup vs else .frz ob (.tup vs)
theorem tupHO_cases (ob : Obj) (vs : List V) : tupHO ob vs = .tup vs ∨ tupHO ob vs = .frz ob (.tup vs) := by
  unfold tupHO; split
  · exact .inl rfl
  · exact .inr rfl
theorem tupHO_flat {ob : Obj} {vs : List V} (h : vs.all noRef = true) : tupHO ob vs = .tup vs := if_pos h
def TupAt (H : Hp) (p : Addr) (vs : List V) : Prop := ∃ ob : Obj, ob.dict = none ∧ H p = some (tupHO ob vs)
/-- the value that a flat datum is -/
def scal : D → Option V
  | .none => some .non
  | .bool b => some (.bl b)
  | .int i => some (.int i)
  | .str x => some (.str x)
  | _ => none
inductive Dp (K : PySem.W.Frag) (H : Hp) : V → D → Prop
  | flat {d : D} {v : V} : scal d = some v → Dp K H v d
  | lst {p : Addr} {vs : List V} {row : List D} (at_ : SqL K H p vs) (each : Paired (Dp K H) vs row) : Dp K H (.ref p) (.list row)
  | tup {p : Addr} {vs : List V} {row : List D} (at_ : TupAt H p vs) (each : Paired (Dp K H) vs row) : Dp K H (.ref p) (.tuple row)
abbrev DpAll (K : PySem.W.Frag) (H : Hp) (vs : List V) (row : List D) : Prop := Paired (Dp K H) vs row
section
variable {K : PySem.W.Frag} {F G H : Hp}
theorem Dp.non : Dp K H .non .none := .flat rfl
theorem Dp.bl (b : Bool) : Dp K H (.bl b) (.bool b) := .flat rfl
theorem Dp.int (i : Int) : Dp K H (.int i) (.int i) := .flat rfl
theorem Dp.str (x : Str) : Dp K H (.str x) (.str x) := .flat rfl
theorem sqt_of {a : Addr} {vs : List V} (h : TupAt F a vs) : SqT K F a vs := by
  obtain ⟨ob, _, e⟩ := h
  rcases tupHO_cases ob vs with q | q <;> rw [q] at e
  · exact .inl (.inl e)
  · exact .inl (.inr ⟨ob, e⟩)
theorem TupAt.mono {a : Addr} {vs : List V} (h : TupAt F a vs) (e : SubH F H) : TupAt H a vs := let ⟨ob, d, q⟩ := h; ⟨ob, d, e _ _ q⟩
/-- by the datum -/
theorem Dp.inv : ∀ {d : D} {v : V}, Dp K H v d → match d with
    | .none => v = .non
    | .bool b => v = .bl b
    | .int i => v = .int i
    | .str x => v = .str x
    | .list row => ∃ p vs, v = .ref p ∧ SqL K H p vs ∧ DpAll K H vs row
    | .tuple row => ∃ p vs, v = .ref p ∧ TupAt H p vs ∧ DpAll K H vs row
    | .dict _ => False
  | _, _, .lst a e => ⟨_, _, rfl, a, e⟩
  | _, _, .tup a e => ⟨_, _, rfl, a, e⟩
  | .none, _, .flat h => (Option.some.inj h).symm
  | .bool _, _, .flat h => (Option.some.inj h).symm
  | .int _, _, .flat h => (Option.some.inj h).symm
  | .str _, _, .flat h => (Option.some.inj h).symm
  | .list _, _, .flat h => nomatch h
  | .tuple _, _, .flat h => nomatch h
  | .dict _, _, .flat h => nomatch h
mutual
theorem dp_old' : ∀ (d : D) (v : V), Dp K F v d → L2.Dp K F v d
  | .none, _, h => by cases h.inv; exact .non
  | .bool b, _, h => by cases h.inv; exact .bl b
  | .int i, _, h => by cases h.inv; exact .int i
  | .str x, _, h => by cases h.inv; exact .str x
  | .list row, _, h => by obtain ⟨p, vs, rfl, a, e⟩ := h.inv; exact .lst a (dpa_old' row vs e)
  | .tuple row, _, h => by obtain ⟨p, vs, rfl, a, e⟩ := h.inv; exact .tup (sqt_of a) (dpa_old' row vs e)
  | .dict _, _, h => h.inv.elim
theorem dpa_old' : ∀ (row : List D) (vs : List V), DpAll K F vs row → L2.DpAll K F vs row
  | [], [], _ => .nil
  | d :: row, v :: vs, h => by cases h with | cons x t => exact .cons (dp_old' d v x) (dpa_old' row vs t)
  | [], _ :: _, h => nomatch h
  | _ :: _, [], h => nomatch h
end
mutual
theorem dp_mono' (e : SubH F H) : ∀ (d : D) (v : V), Dp K F v d → Dp K H v d
  | .none, _, h => by cases h.inv; exact .non
  | .bool b, _, h => by cases h.inv; exact .bl b
  | .int i, _, h => by cases h.inv; exact .int i
  | .str x, _, h => by cases h.inv; exact .str x
  | .list row, _, h => by obtain ⟨p, vs, rfl, a, t⟩ := h.inv; exact .lst (e.sql a) (dpa_mono' e row vs t)
  | .tuple row, _, h => by obtain ⟨p, vs, rfl, a, t⟩ := h.inv; exact .tup (a.mono e) (dpa_mono' e row vs t)
  | .dict _, _, h => h.inv.elim
theorem dpa_mono' (e : SubH F H) : ∀ (row : List D) (vs : List V), DpAll K F vs row → DpAll K H vs row
  | [], [], _ => .nil
  | d :: row, v :: vs, h => by cases h with | cons x t => exact .cons (dp_mono' e d v x) (dpa_mono' e row vs t)
  | [], _ :: _, h => nomatch h
  | _ :: _, [], h => nomatch h
end
theorem dp_old {d : D} {v : V} (h : Dp K F v d) : L2.Dp K F v d := dp_old' d v h
theorem dp_mono (e : SubH F H) {d : D} {v : V} (h : Dp K F v d) : Dp K H v d := dp_mono' e d v h
theorem dpa_mono (e : SubH F H) {row : List D} {vs : List V} (h : DpAll K F vs row) : DpAll K H vs row := dpa_mono' e row vs h
theorem dpa_len : ∀ {vs : List V} {ds : List D}, DpAll K F vs ds → vs.length = ds.length
  | _, _, .nil => rfl
  | _, _, .cons _ h => by simp [dpa_len h]
theorem dpa_get : ∀ {vs : List V} {ds : List D} {i : Nat} {d : D}, DpAll K F vs ds → ds[i]? = some d → ∃ v, vs[i]? = some v ∧ Dp K F v d
  | _, _, _, _, .nil, e => by simp at e
  | _, _, 0, _, .cons h _, e => by simp at e; subst e; exact ⟨_, rfl, h⟩
  | _, _, i + 1, _, .cons _ t, e => by simp at e; obtain ⟨v, a, b⟩ := dpa_get (i := i) t e; exact ⟨v, by simpa using a, b⟩
theorem dpa_at : ∀ {vs : List V} {ds : List D} {i : Nat} {v : V}, DpAll K F vs ds → vs[i]? = some v → ∃ d, ds[i]? = some d ∧ Dp K F v d
  | _, _, _, _, .nil, e => by simp at e
  | _, _, 0, _, .cons h _, e => by simp at e; subst e; exact ⟨_, rfl, h⟩
  | _, _, i + 1, _, .cons _ t, e => by simp at e; obtain ⟨v, a, b⟩ := dpa_at (i := i) t e; exact ⟨v, by simpa using a, b⟩
theorem dpa_app : ∀ {vs ws : List V} {ds es : List D}, DpAll K F vs ds → DpAll K F ws es → DpAll K F (vs ++ ws) (ds ++ es)
  | _, _, _, _, .nil, h => h
  | _, _, _, _, .cons a t, h => .cons a (dpa_app t h)
theorem dpa_take : ∀ {vs : List V} {ds : List D} (n : Nat), DpAll K F vs ds → DpAll K F (vs.take n) (ds.take n)
  | _, _, 0, _ => by simpa using .nil
  | _, _, _ + 1, .nil => .nil
  | _, _, n + 1, .cons a t => .cons a (dpa_take n t)
theorem dpa_drop : ∀ {vs : List V} {ds : List D} (n : Nat), DpAll K F vs ds → DpAll K F (vs.drop n) (ds.drop n)
  | _, _, 0, h => by simpa using h
  | _, _, _ + 1, .nil => .nil
  | _, _, n + 1, .cons a t => by simpa using dpa_drop n t
theorem dpa_rev : ∀ {vs : List V} {ds : List D}, DpAll K F vs ds → DpAll K F vs.reverse ds.reverse
  | _, _, .nil => .nil
  | _, _, .cons a t => by simpa using dpa_app (dpa_rev t) (.cons a .nil)
theorem dpa_one {v : V} {d : D} (h : Dp K F v d) : DpAll K F [v] [d] := .cons h .nil
/-- from items by place -/
theorem dpa_of : ∀ {vs : List V} {ds : List D}, vs.length = ds.length → (∀ (i : Nat) (v : V) (d : D), vs[i]? = some v → ds[i]? = some d → Dp K F v d) → DpAll K F vs ds
  | [], [], _, _ => .nil
  | [], _ :: _, h, _ => by simp at h
  | _ :: _, [], h, _ => by simp at h
  | v :: vs, d :: ds, h, k => .cons (k 0 v d rfl rfl) (dpa_of (by simpa using h) fun i a b x y => k (i + 1) a b (by simpa using x) (by simpa using y))
theorem dpa_ints : ∀ {ns : List Int} {vs : List V}, DpAll K F vs (ns.map PyData.int) → vs = ns.map V.int
  | [], [], _ => rfl
  | n :: ns, v :: vs, h => by
    cases h with
    | cons x t => cases x.inv; rw [dpa_ints t]; rfl
  | [], _ :: _, h => nomatch h
  | _ :: _, [], h => nomatch h
theorem dpa_ints_mk : ∀ (ns : List Int), DpAll K F (ns.map V.int) (ns.map PyData.int)
  | [] => .nil
  | n :: ns => .cons (.int n) (dpa_ints_mk ns)
end
/-! ### the state of a frame -/
structure Fx where
  H0 : Hp
  F0 : Hp
  rf : Nat → Option Addr
def keyD : Key → D
  | .inl i => .int i
  | .inr s => .str s
/-- an own dict -/
def DicOk (K : PySem.W.Frag) (F H : Hp) (a : Addr) (t : Bool) (kvs : List (DK × D)) : Prop :=
  (t = false ∧ ∃ ks : List (Key × V), H a = some (.dK ks) ∧ Paired (fun (p : Key × V) (q : DK × D) => q.1 = .inl p.1 ∧ Dp K F p.2 q.2) ks kvs) ∨
  (t = true ∧ ∃ ks : List (List Key × V), H a = some (.dT ks) ∧ Paired (fun (p : List Key × V) (q : DK × D) => q.1 = .inr p.1 ∧ Dp K F p.2 q.2) ks kvs)
/-- a part of such a row: None or an int -/
abbrev NK := Option Int
def nkV : NK → V
  | none => .non
  | some i => .int i
def nkH : NK → Int
  | none => reduceHash 0xFCA86420
  | some i => hashInt i
def rowH (k : List NK) : Int := reduceHash (Builtin.Tuple.tupleHashOf (k.map nkH))
/-- an entry: the row, its place, the int -/
abbrev NE := List NK × Addr × Int
def NE.kv (x : NE) : List NK × Int := (x.1, x.2.2)
/-- the entry as the dict holds it, with the int's value -/
def NE.raw (z : List NK × Addr × Value) : DictEntry := ⟨rowH z.1, .ref z.2.1, z.2.2⟩
def NDict (a : Addr) (xs : List NE) (h : Heap) : Prop := (a == sysModules) = false ∧ xs.length ≤ sizeLine ∧
  ∃ zs : List (List NK × Addr × Value), Paired (fun (x : NE) (y : List NK × Addr × Value) => y.1 = x.1 ∧ y.2.1 = x.2.1 ∧ RelV (.int x.2.2) y.2.2) xs zs ∧ (zs.map (·.1)).Nodup ∧
    ∃ o es ep, h.get? a = some o ∧ o.ExactDict ∧ o.data = .dict es ep ∧ es.toList = zs.map NE.raw
/-- an own dict of that kind -/
def KnAt (F H : Hp) (a : Addr) (kvs : List (List NK × Int)) : Prop := ∃ xs : List NE, H a = some (.ext (NDict a xs)) ∧ (∀ x ∈ xs, F x.2.1 = some (.tup (x.1.map nkV))) ∧ xs.map NE.kv = kvs
/-- what belongs to the thing at a: itself; an instance's rows -/
def Part (H : Hp) (a b : Addr) : Prop := b = a ∨ ∃ C dx fs, H a = some (.ins C dx fs) ∧ fs.lookup ("rows" : Str) = some (V.ref b)
/-- a seeker's attributes -/
def seekF (n : V) (l : Addr) (t : V) : List (Str × V) := [("net", n), ("rows", .ref l), ("told", t)]
/-- a seeker: its dict never changes -/
def SkAt (K : PySem.W.Frag) (F H : Hp) (a : Addr) (net told : D) (rows : List D) : Prop := ∃ C dx l vn vt vs, PySem.W.nsIn K mainGlobals "Seeker" = some (some (.ref C)) ∧ H a = some (.ins C dx (seekF vn l vt)) ∧ F dx = some (.own a) ∧ H l = some (.lst vs) ∧ F l = none ∧
  Dp K F vn net ∧ Dp K F vt told ∧ DpAll K F vs rows
def RS (K : PySem.W.Frag) (z : Fx) (n : Nat) (F H : Hp) (v : V) : SV → Prop
  | .d x => Dp K F v x
  | .l b xs => ∃ a vs, v = .ref a ∧ H a = some (.lst vs) ∧ F a = none ∧ z.H0 a = none ∧ DpAll K F vs xs ∧ (b = true → z.rf n = some a)
  | .m b t kvs => ∃ a, v = .ref a ∧ F a = none ∧ z.H0 a = none ∧ DicOk K F H a t kvs ∧ (b = true → z.rf n = some a)
  | .k b kvs => ∃ a, v = .ref a ∧ F a = none ∧ z.H0 a = none ∧ KnAt F H a kvs ∧ (b = true → z.rf n = some a)
  | .s b net told rows => ∃ a, v = .ref a ∧ F a = none ∧ z.H0 a = none ∧ SkAt K F H a net told rows ∧ (∀ l, Part H a l → z.H0 l = none) ∧ (b = true → z.rf n = some a)
  | .ad a => v = .ref a
def Owns (r : Rho) (s : St) (H : Hp) (i : Nat) (b : Addr) : Prop := ∃ (sv : SV) (a : Addr), r[i]? = some (some sv) ∧ sv.own = true ∧ s[i]? = some (some (V.ref a)) ∧ Part H a b
def OwnAt (r : Rho) (s : St) (H : Hp) (b : Addr) : Prop := ∃ i, Owns r s H i b
def Apart (r : Rho) (s : St) (H : Hp) : Prop := ∀ i j b, Owns r s H i b → Owns r s H j b → i = j
theorem part_self {H : Hp} {a : Addr} : Part H a a := .inl rfl
theorem part_congr {H H' : Hp} {a b : Addr} (h : H' a = H a) (p : Part H' a b) : Part H a b := by
  rcases p with p | ⟨C, dx, fs, h1, h2⟩
  · exact .inl p
  · exact .inr ⟨C, dx, fs, h ▸ h1, h2⟩
/-- what is no instance is all by itself -/
theorem part_one {H : Hp} {a b : Addr} (h : ∀ C dx fs, H a ≠ some (.ins C dx fs)) (p : Part H a b) : b = a := by
  rcases p with p | ⟨C, dx, fs, h1, _⟩
  · exact p
  · exact absurd h1 (h C dx fs)
theorem owns_set {r : Rho} {s : St} {H : Hp} {i j : Nat} {sv : SV} {v : V} {b : Addr} (h : Owns (r.set i (some sv)) (s.set i (some v)) H j b) : (j = i ∧ sv.own = true ∧ ∃ a, v = .ref a ∧ Part H a b) ∨ (j ≠ i ∧ Owns r s H j b) := by
  obtain ⟨x, a, h1, h2, h3, h4⟩ := h
  by_cases e : j = i
  · subst e
    left
    have l1 := (List.getElem?_eq_some_iff.mp h1).1
    have l3 := (List.getElem?_eq_some_iff.mp h3).1
    rw [List.length_set] at l1 l3
    rw [List.getElem?_set_self l1] at h1
    rw [List.getElem?_set_self l3] at h3
    cases h1
    cases h3
    exact ⟨rfl, h2, a, rfl, h4⟩
  · right
    rw [List.getElem?_set_ne (Ne.symm e)] at h1 h3
    exact ⟨e, x, a, h1, h2, h3, h4⟩
theorem owns_setR {r : Rho} {s : St} {H : Hp} {i j : Nat} {sv : SV} {b : Addr} (h : Owns (r.set i (some sv)) s H j b) : (j = i ∧ sv.own = true ∧ ∃ a, s[i]? = some (some (V.ref a)) ∧ Part H a b) ∨ (j ≠ i ∧ Owns r s H j b) := by
  obtain ⟨x, a, h1, h2, h3, h4⟩ := h
  by_cases e : j = i
  · subst e
    left
    have l1 := (List.getElem?_eq_some_iff.mp h1).1
    rw [List.length_set] at l1
    rw [List.getElem?_set_self l1] at h1
    cases h1
    exact ⟨rfl, h2, a, h3, h4⟩
  · right
    rw [List.getElem?_set_ne (Ne.symm e)] at h1
    exact ⟨e, x, a, h1, h2, h3, h4⟩
theorem owns_none {r : Rho} {s : St} {H : Hp} {i j : Nat} {b : Addr} (h : Owns (r.set i none) s H j b) : j ≠ i ∧ Owns r s H j b := by
  obtain ⟨x, a, h1, h2, h3, h4⟩ := h
  by_cases e : j = i
  · subst e
    have l1 := (List.getElem?_eq_some_iff.mp h1).1
    rw [List.length_set] at l1
    rw [List.getElem?_set_self l1] at h1
    cases h1
  · rw [List.getElem?_set_ne (Ne.symm e)] at h1
    exact ⟨e, x, a, h1, h2, h3, h4⟩
theorem part_lst {H : Hp} {p b : Addr} {vs : List V} (h : H p = some (.lst vs)) (q : Part H p b) : b = p := part_one (fun C dx fs => by rw [h]; nofun) q
theorem owns_H {r : Rho} {s : St} {H H' : Hp} {j : Nat} {b : Addr} (k : ∀ a sv, r[j]? = some (some sv) → sv.own = true → s[j]? = some (some (V.ref a)) → H' a = H a) (h : Owns r s H' j b) : Owns r s H j b := by
  obtain ⟨x, a, h1, h2, h3, h4⟩ := h
  exact ⟨x, a, h1, h2, h3, part_congr (k a x h1 h2 h3) h4⟩
theorem Apart.sub {r r' : Rho} {s s' : St} {H H' : Hp} (A : Apart r s H) (h : ∀ j b, Owns r' s' H' j b → Owns r s H j b) : Apart r' s' H' := fun i j b h1 h2 => A i j b (h i b h1) (h j b h2)
theorem Apart.new {r r' : Rho} {s s' : St} {H H' : Hp} {i : Nat} {P : Addr → Prop} (A : Apart r s H) (no : ∀ b, P b → ¬ OwnAt r s H b) (h : ∀ j b, Owns r' s' H' j b → (j = i ∧ P b) ∨ (j ≠ i ∧ Owns r s H j b)) : Apart r' s' H' := fun j k b h1 h2 => by
  rcases h j b h1 with ⟨e1, p1⟩ | ⟨n1, o1⟩ <;> rcases h k b h2 with ⟨e2, p2⟩ | ⟨n2, o2⟩
  · rw [e1, e2]
  · exact absurd ⟨k, o2⟩ (no b p1)
  · exact absurd ⟨j, o1⟩ (no b p2)
  · exact A j k b o1 o2
theorem tupHO_lst {ob : Obj} {vs ws : List V} (h : some (HO.lst vs) = some (tupHO ob ws)) : False := by
  rcases tupHO_cases ob ws with q | q <;> rw [q] at h <;> cases h
/-- a tuple never changes -/
def IsTu (o : HO) : Prop := ∃ ob vs, o = tupHO ob vs
theorem not_tu {vs : List V} : ¬ IsTu (.lst vs) := fun ⟨_, _, q⟩ => tupHO_lst (congrArg some q)
structure Rep (K : PySem.W.Frag) (z : Fx) (r : Rho) (s : St) (H F : Hp) : Prop where
  fh : SubH F H
  old : SubH z.H0 H
  f0 : SubH z.F0 F
  nw : ∀ b o, F b = some o → z.F0 b = some o ∨ z.H0 b = none ∨ IsTu o
  slots : ∀ (i : Nat) (sv : SV), r[i]? = some (some sv) → ∃ v, s[i]? = some (some v) ∧ RS K z i F H v sv
  ap : Apart r s H
  len : r.length = s.length
/-- new objects are laid, all else is as it was; F grows by new ones -/
structure Grow (F H F' H' : Hp) : Prop where
  ff : SubH F F'
  hh : SubH H H'
  fh : SubH F' H'
  nw : ∀ b o, F' b = some o → F b = some o ∨ H b = none ∨ IsTu o
theorem Grow.refl {F H : Hp} (h : SubH F H) : Grow F H F H := ⟨.refl _, .refl _, h, fun _ _ h => .inl h⟩
theorem Grow.trans {F H F1 H1 F2 H2 : Hp} (a : Grow F H F1 H1) (b : Grow F1 H1 F2 H2) : Grow F H F2 H2 :=
  ⟨a.ff.trans b.ff, a.hh.trans b.hh, b.fh, fun x o h => by
    rcases b.nw x o h with h | h | h
    · exact a.nw x o h
    · exact .inr (.inl (a.hh.none h))
    · exact .inr (.inr h)⟩
theorem Grow.new {F H : Hp} {p : Addr} {o : HO} (h : SubH F H) (hp : H p = none) : Grow F H (upd F p o) (upd H p o) :=
  ⟨.new (h.none hp), .new hp, fun a u e => by
    by_cases q : a = p
    · subst q; rw [upd_same] at e ⊢; exact e
    · rw [upd_ne q] at e ⊢; exact h a u e, fun a u e => by
    by_cases q : a = p
    · subst q; exact .inr (.inl hp)
    · rw [upd_ne q] at e; exact .inl e⟩
/-- laid, but not frozen -/
theorem Grow.loose {F H : Hp} {p : Addr} {o : HO} (h : SubH F H) (hp : H p = none) : Grow F H F (upd H p o) :=
  ⟨.refl _, .new hp, h.trans (.new hp), fun _ _ e => .inl e⟩
section
variable {K : PySem.W.Frag} {z : Fx} {r : Rho} {s : St} {H F H' F' : Hp}
theorem DicOk.mono {a : Addr} {t : Bool} {kvs : List (DK × D)} (h : DicOk K F H a t kvs) (e : SubH F F') (hh : ∀ o, H a = some o → H' a = some o) : DicOk K F' H' a t kvs := by
  rcases h with ⟨h0, ks, h1, h2⟩ | ⟨h0, ks, h1, h2⟩
  · exact .inl ⟨h0, ks, hh _ h1, Paired.mapP h2 fun _ _ q => ⟨q.1, dp_mono e q.2⟩⟩
  · exact .inr ⟨h0, ks, hh _ h1, Paired.mapP h2 fun _ _ q => ⟨q.1, dp_mono e q.2⟩⟩
theorem DicOk.there {a : Addr} {t : Bool} {kvs : List (DK × D)} (h : DicOk K F H a t kvs) : ∃ o, H a = some o := by
  rcases h with ⟨_, ks, h1, _⟩ | ⟨_, ks, h1, _⟩ <;> exact ⟨_, h1⟩
theorem DicOk.one {a b : Addr} {t : Bool} {kvs : List (DK × D)} (h : DicOk K F H a t kvs) (q : Part H a b) : b = a := by
  rcases h with ⟨_, ks, h1, _⟩ | ⟨_, ks, h1, _⟩ <;> exact part_one (fun C dx fs => by rw [h1]; nofun) q
theorem KnAt.mono {a : Addr} {kvs : List (List NK × Int)} (h : KnAt F H a kvs) (e : SubH F F') (hh : ∀ o, H a = some o → H' a = some o) : KnAt F' H' a kvs :=
  let ⟨xs, h1, h2, h3⟩ := h; ⟨xs, hh _ h1, fun x m => e _ _ (h2 x m), h3⟩
theorem KnAt.one {a b : Addr} {kvs : List (List NK × Int)} (h : KnAt F H a kvs) (q : Part H a b) : b = a := by
  obtain ⟨xs, h1, _⟩ := h
  exact part_one (fun C dx fs => by rw [h1]; nofun) q
theorem KnAt.there {a : Addr} {kvs : List (List NK × Int)} (h : KnAt F H a kvs) : ∃ o, H a = some o := let ⟨_, h1, _⟩ := h; ⟨_, h1⟩
theorem SkAt.rows {a l : Addr} {net told : D} {rows : List D} (h : SkAt K F H a net told rows) (p : Part H a l) : l = a ∨ ∃ vs, H l = some (.lst vs) ∧ F l = none := by
  rcases p with p | ⟨C, dx, fs, h1, h2⟩
  · exact .inl p
  · obtain ⟨C', dx', l', vn, vt, vs, _, g1, _, g2, g3, _⟩ := h
    rw [g1] at h1
    cases h1
    have : some (V.ref l') = some (V.ref l) := h2
    cases this
    exact .inr ⟨vs, g2, g3⟩
theorem SkAt.there {a : Addr} {net told : D} {rows : List D} (h : SkAt K F H a net told rows) : ∃ C dx fs, H a = some (.ins C dx fs) := let ⟨C, dx, _, _, _, _, _, g, _⟩ := h; ⟨C, dx, _, g⟩
theorem SkAt.mono {a : Addr} {net told : D} {rows : List D} (h : SkAt K F H a net told rows) (e : SubH F F') (hh : ∀ b, Part H a b → ∀ o, H b = some o → H' b = some o) (hn : ∀ b, Part H a b → ∀ o, H b = some o → F b = none → F' b = none) : SkAt K F' H' a net told rows := by
  obtain ⟨C, dx, l, vn, vt, vs, h0, h1, h2, h3, h4, h5, h6, h7⟩ := h
  have p : Part H a l := .inr ⟨C, dx, _, h1, rfl⟩
  exact ⟨C, dx, l, vn, vt, vs, h0, hh a part_self _ h1, e _ _ h2, hh l p _ h3, hn l p _ h3 h4, dp_mono e h5, dp_mono e h6, dpa_mono e h7⟩
theorem RS.mono {n : Nat} {v : V} {sv : SV} (h : RS K z n F H v sv) (e : SubH F F') (hh : ∀ a b, v = .ref a → Part H a b → sv.own = true → ∀ o, H b = some o → H' b = some o) (hn : ∀ a b o, H b = some o → F b = none → z.H0 b = none → sv.own = true → v = .ref a → Part H a b → F' b = none) : RS K z n F' H' v sv := by
  cases sv with
  | d x => exact dp_mono e h
  | ad a => exact h
  | l b xs =>
    obtain ⟨a, vs, rfl, h1, h2, h3, h4, h5⟩ := h
    exact ⟨a, vs, rfl, hh a a rfl part_self rfl _ h1, hn a a _ h1 h2 h3 rfl rfl part_self, h3, dpa_mono e h4, h5⟩
  | m b t kvs =>
    obtain ⟨a, rfl, h2, h3, h4, h5⟩ := h
    obtain ⟨o, ho⟩ := h4.there
    exact ⟨a, rfl, hn a a o ho h2 h3 rfl rfl part_self, h3, h4.mono e (hh a a rfl part_self rfl), h5⟩
  | k b kvs =>
    obtain ⟨a, rfl, h2, h3, h4, h5⟩ := h
    obtain ⟨o, ho⟩ := h4.there
    exact ⟨a, rfl, hn a a o ho h2 h3 rfl rfl part_self, h3, h4.mono e (hh a a rfl part_self rfl), h5⟩
  | s b net told rows =>
    obtain ⟨a, rfl, h2, h3, h4, h5, h6⟩ := h
    obtain ⟨C, dx, fs, ho⟩ := h4.there
    have eq : H' a = H a := by rw [ho]; exact hh a a rfl part_self rfl _ ho
    exact ⟨a, rfl, hn a a _ ho h2 h3 rfl rfl part_self, h3, h4.mono e (fun b p => hh a b rfl p rfl) (fun b p o hb hf => hn a b o hb hf (h5 b p) rfl rfl p), fun l p => h5 l (part_congr eq p), h6⟩
/-- each part is there, and is not frozen -/
theorem RS.part {n : Nat} {v : V} {sv : SV} {a b : Addr} (h : RS K z n F H v sv) (own : sv.own = true) (e : v = .ref a) (p : Part H a b) : (∃ o, H b = some o) ∧ F b = none ∧ z.H0 b = none := by
  have one : ∀ o : HO, H a = some o → (∀ C dx fs, o ≠ .ins C dx fs) → b = a := fun o ho n => part_one (fun C dx fs q => by rw [ho] at q; cases q; exact n _ _ _ rfl) p
  cases sv with
  | d x => cases own
  | ad a => cases own
  | l q xs =>
    obtain ⟨a', vs, e1, q1, q2, q3, _⟩ := h
    rw [e1] at e; cases e
    cases one _ q1 (fun _ _ _ => nofun)
    exact ⟨⟨_, q1⟩, q2, q3⟩
  | m q t kvs =>
    obtain ⟨a', e1, q2, q3, q4, _⟩ := h
    rw [e1] at e; cases e
    have : b = a := by rcases q4 with ⟨_, ks, h1, _⟩ | ⟨_, ks, h1, _⟩ <;> exact one _ h1 (fun _ _ _ => nofun)
    cases this
    exact ⟨q4.there, q2, q3⟩
  | k q kvs =>
    obtain ⟨a', e1, q2, q3, q4, _⟩ := h
    rw [e1] at e; cases e
    have : b = a := by obtain ⟨xs, h1, _⟩ := q4; exact one _ h1 (fun _ _ _ => nofun)
    cases this
    exact ⟨q4.there, q2, q3⟩
  | s q net told rows =>
    obtain ⟨a', e1, q2, q3, q4, q5, _⟩ := h
    rw [e1] at e; cases e
    rcases q4.rows p with rfl | ⟨vs, g1, g2⟩
    · obtain ⟨C, dx, fs, ho⟩ := q4.there
      exact ⟨⟨_, ho⟩, q2, q3⟩
    · exact ⟨⟨_, g1⟩, g2, q5 b p⟩
/-- what is owned is no tuple -/
theorem RS.noTup {n : Nat} {v : V} {sv : SV} {a b : Addr} (h : RS K z n F H v sv) (hown : sv.own = true) (e : v = .ref a) (p : Part H a b) : ¬ ∃ ob vs, H b = some (tupHO ob vs) := by
  rintro ⟨ob, vs, hv⟩
  have hv : H b = some (.tup vs) ∨ H b = some (.frz ob (.tup vs)) := by rcases tupHO_cases ob vs with q | q <;> rw [q] at hv <;> simp [hv]
  by_cases ne : b = a
  case neg =>
    cases sv with
    | s q net told rows =>
      obtain ⟨a', e1, _, _, h1, _⟩ := h
      rw [e1] at e; cases e
      rcases h1.rows p with q | ⟨vs', g1, _⟩
      · exact ne q
      · simp [g1] at hv
    | d x => cases hown
    | ad y => cases hown
    | l q xs =>
      obtain ⟨a', ws, e1, h1, _⟩ := h; rw [e1] at e; cases e
      exact ne (part_one (fun C dx fs => by rw [h1]; nofun) p)
    | m q t kvs =>
      obtain ⟨a', e1, _, _, h1, _⟩ := h
      rw [e1] at e; cases e
      exact ne (part_one (fun C dx fs => by rcases h1 with ⟨_, ks, h1, _⟩ | ⟨_, ks, h1, _⟩ <;> rw [h1] <;> nofun) p)
    | k q kvs =>
      obtain ⟨a', e1, _, _, ⟨xs, h1, _⟩, _⟩ := h
      rw [e1] at e; cases e
      exact ne (part_one (fun C dx fs => by rw [h1]; nofun) p)
  subst ne
  cases sv with
  | d x => cases hown
  | ad y => cases hown
  | l b xs => obtain ⟨a', ws, e1, h1, _⟩ := h; rw [e1] at e; cases e; simp [h1] at hv
  | m b t kvs =>
    obtain ⟨a', e1, _, _, h1, _⟩ := h
    rw [e1] at e; cases e
    rcases h1 with ⟨_, ks, h1, _⟩ | ⟨_, ks, h1, _⟩ <;> simp [h1] at hv
  | k b kvs =>
    obtain ⟨a', e1, _, _, ⟨xs, h1, _⟩, _⟩ := h
    rw [e1] at e; cases e
    simp [h1] at hv
  | s q net told rows =>
    obtain ⟨a', e1, _, _, h1, _⟩ := h
    rw [e1] at e; cases e
    obtain ⟨C, dx, fs, ho⟩ := h1.there
    simp [ho] at hv
theorem Rep.own_facts (R : Rep K z r s H F) {b : Addr} (h : OwnAt r s H b) : (∃ o, H b = some o) ∧ F b = none ∧ z.H0 b = none := by
  obtain ⟨i, sv, a, h1, h2, h3, p⟩ := h
  obtain ⟨v, h4, h5⟩ := R.slots i sv h1
  rw [h3] at h4; cases h4
  exact h5.part h2 rfl p
/-- things owned by two slots are two things -/
theorem Rep.apart (R : Rep K z r s H F) (i j : Nat) (x y : SV) (a : Addr) (e1 : r[i]? = some (some x)) (e2 : r[j]? = some (some y)) (o1 : x.own = true) (o2 : y.own = true) (s1 : s[i]? = some (some (V.ref a))) (s2 : s[j]? = some (some (V.ref a))) : i = j :=
  R.ap i j a ⟨x, a, e1, o1, s1, part_self⟩ ⟨y, a, e2, o2, s2, part_self⟩
theorem Rep.ownH (R : Rep K z r s H F) (hh : SubH H H') {j : Nat} {b : Addr} (h : Owns r s H' j b) : Owns r s H j b :=
  owns_H (fun a sv h1 h2 h3 => by
    obtain ⟨⟨o, ho⟩, _⟩ := R.own_facts ⟨j, sv, a, h1, h2, h3, part_self⟩
    rw [ho, hh a o ho]) h
theorem Rep.ownAtH (R : Rep K z r s H F) (hh : SubH H H') {b : Addr} (h : OwnAt r s H' b) : OwnAt r s H b := let ⟨j, h⟩ := h; ⟨j, R.ownH hh h⟩
/-- what is new is owned by none -/
theorem Rep.free (R : Rep K z r s H F) {p : Addr} (new : H p = none) : ¬ OwnAt r s H p := fun q => by
  obtain ⟨⟨o, ho⟩, _⟩ := R.own_facts q
  rw [new] at ho; cases ho
theorem Rep.grow (R : Rep K z r s H F) (G : Grow F H F' H') : Rep K z r s H' F' where
  fh := G.fh
  old := R.old.trans G.hh
  f0 := R.f0.trans G.ff
  nw := fun b o h => by
    rcases G.nw b o h with h | h | h
    · exact R.nw b o h
    · exact .inr (.inl (R.old.none h))
    · exact .inr (.inr h)
  slots := fun i sv h => by
    obtain ⟨v, h1, h2⟩ := R.slots i sv h
    refine ⟨v, h1, h2.mono G.ff (fun a b _ _ _ o ho => G.hh b o ho) fun a b o ho hf _ hown he hp => ?_⟩
    cases q : F' b with
    | none => rfl
    | some u =>
      rcases G.nw b u q with h | h | ⟨ob, vs, rfl⟩
      · rw [hf] at h; cases h
      · rw [ho] at h; cases h
      · have q2 := G.fh b _ q
        rw [G.hh b o ho] at q2; cases q2
        exact absurd ⟨_, _, ho⟩ (h2.noTup hown he hp)
  ap := R.ap.sub fun j b h => R.ownH G.hh h
  len := R.len
/-- behind a change of what the slot i owns: the parts are as they were -/
theorem Rep.ap_keep (R : Rep K z r s H F) {i : Nat} {p : Addr} {sv sv' : SV} (hi : r[i]? = some (some sv)) (own : sv.own = true) (hs : s[i]? = some (some (V.ref p))) (keep : ∀ a sv', (∃ j, j ≠ i ∧ r[j]? = some (some sv') ∧ s[j]? = some (some (V.ref a)) ∧ sv'.own = true) → a ≠ p → ∀ o, H a = some o → H' a = some o)
    (parts : ∀ b, Part H' p b → Part H p b ∨ H b = none) : Apart (r.set i (some sv')) s H' := by
  have key : ∀ j b, Owns (r.set i (some sv')) s H' j b → Owns r s H j b ∨ (j = i ∧ H b = none) := fun j b h => by
    rcases owns_setR h with ⟨rfl, _, a, h1, h2⟩ | ⟨n, h⟩
    · rw [hs] at h1
      cases h1
      exact (parts b h2).imp (fun q => ⟨sv, p, hi, own, hs, q⟩) fun q => ⟨rfl, q⟩
    · left
      refine owns_H (fun a x h1 h2 h3 => ?_) h
      have ne : a ≠ p := fun e => n (R.apart j i x sv p h1 hi h2 own (by rw [← e]; exact h3) hs)
      obtain ⟨⟨o, ho⟩, _⟩ := R.own_facts ⟨j, x, a, h1, h2, h3, part_self⟩
      rw [ho, keep a x ⟨j, n, h1, h3, h2⟩ ne o ho]
  intro j k b h1 h2
  rcases key j b h1 with o1 | ⟨e1, f1⟩ <;> rcases key k b h2 with o2 | ⟨e2, f2⟩
  · exact R.ap j k b o1 o2
  · obtain ⟨⟨o, ho⟩, _⟩ := R.own_facts ⟨j, o1⟩
    rw [f2] at ho; cases ho
  · obtain ⟨⟨o, ho⟩, _⟩ := R.own_facts ⟨k, o2⟩
    rw [f1] at ho; cases ho
  · rw [e1, e2]
theorem Rep.ap_upd (R : Rep K z r s H F) {i : Nat} {p : Addr} {sv sv' : SV} {o : HO} (hi : r[i]? = some (some sv)) (own : sv.own = true) (hs : s[i]? = some (some (V.ref p))) (parts : ∀ b, Part (upd H p o) p b → Part H p b) : Apart (r.set i (some sv')) s (upd H p o) :=
  R.ap_keep hi own hs (fun a _ _ ne o ho => by rw [upd_ne ne]; exact ho) fun b q => .inl (parts b q)
/-- .. another slot's part is none of these -/
theorem Rep.other (R : Rep K z r s H F) {i j : Nat} {p a b : Addr} {sv x : SV} (n : j ≠ i) (hi : r[i]? = some (some sv)) (own : sv.own = true) (hs : s[i]? = some (some (V.ref p))) (hj : r[j]? = some (some x)) (own2 : x.own = true) (hs2 : s[j]? = some (some (V.ref a))) (hp : Part H a b) : b ≠ p :=
  fun e => n (R.ap j i p ⟨x, a, hj, own2, hs2, e ▸ hp⟩ ⟨sv, p, hi, own, hs, part_self⟩)
theorem owns_upd {p : Addr} {o : HO} {j : Nat} {b : Addr} (ho : ¬ OwnAt r s H p) (h : Owns r s (upd H p o) j b) : Owns r s H j b :=
  owns_H (fun a sv h1 h2 h3 => upd_ne fun e => ho ⟨j, sv, a, h1, h2, h3, .inl e.symm⟩) h
theorem ownAt_upd {p : Addr} {o : HO} {b : Addr} (ho : ¬ OwnAt r s H p) (h : OwnAt r s (upd H p o) b) : OwnAt r s H b := let ⟨j, h⟩ := h; ⟨j, owns_upd ho h⟩
/-- the heap without what the frame owns -/
noncomputable def bare (r : Rho) (s : St) (H : Hp) : Hp := fun b => by
  classical exact if OwnAt r s H b then none else H b
theorem bare_own {b : Addr} (h : OwnAt r s H b) : bare r s H b = none := by unfold bare; rw [if_pos h]
theorem bare_not {b : Addr} (h : ¬ OwnAt r s H b) : bare r s H b = H b := by unfold bare; rw [if_neg h]
theorem bare_sub : SubH (bare r s H) H := fun a o h => by
  by_cases q : OwnAt r s H a
  · rw [bare_own q] at h; cases h
  · rw [bare_not q] at h; exact h
theorem Rep.base (R : Rep K z r s H F) : Rep K ⟨bare r s H, F, z.rf⟩ r s H F where
  fh := R.fh
  old := bare_sub
  f0 := .refl _
  nw := fun b o h => .inl h
  slots := fun i sv h => by
    obtain ⟨v, h1, h2⟩ := R.slots i sv h
    refine ⟨v, h1, ?_⟩
    cases sv with
    | d x => exact h2
    | ad y => exact h2
    | l b xs =>
      obtain ⟨a, vs, rfl, q1, q2, q3, q4⟩ := h2
      exact ⟨a, vs, rfl, q1, q2, bare_own ⟨i, _, _, h, rfl, h1, part_self⟩, q4⟩
    | m b t kvs =>
      obtain ⟨a, rfl, q2, q3, q4⟩ := h2
      exact ⟨a, rfl, q2, bare_own ⟨i, _, _, h, rfl, h1, part_self⟩, q4⟩
    | k b kvs =>
      obtain ⟨a, rfl, q2, q3, q4⟩ := h2
      exact ⟨a, rfl, q2, bare_own ⟨i, _, _, h, rfl, h1, part_self⟩, q4⟩
    | s b net told rows =>
      obtain ⟨a, rfl, q2, q3, q4, q5, q6⟩ := h2
      exact ⟨a, rfl, q2, bare_own ⟨i, _, _, h, rfl, h1, part_self⟩, q4, fun l p => bare_own ⟨i, _, _, h, rfl, h1, p⟩, q6⟩
  ap := R.ap
  len := R.len
theorem Rep.back {r' : Rho} {s' : St} (R : Rep K z r s H F) (R' : Rep K ⟨bare r s H, F, z.rf⟩ r' s' H' F') : Rep K z r' s' H' F' := by
  have key : ∀ b, bare r s H b = none → z.H0 b = none := fun b h => by
    by_cases q : OwnAt r s H b
    · exact (R.own_facts q).2.2
    · rw [bare_not q] at h; exact R.old.none h
  refine ⟨R'.fh, fun b o h => ?_, R.f0.trans R'.f0, fun b o h => ?_, fun i sv h => ?_, R'.ap, R'.len⟩
  · refine R'.old b o ?_
    show bare r s H b = some o
    rw [bare_not, R.old b o h]
    intro q
    rw [(R.own_facts q).2.2] at h; cases h
  · rcases R'.nw b o h with h | h | h
    · exact R.nw b o h
    · exact .inr (.inl (key b h))
    · exact .inr (.inr h)
  · obtain ⟨v, h1, h2⟩ := R'.slots i sv h
    refine ⟨v, h1, ?_⟩
    cases sv with
    | d x => exact h2
    | ad y => exact h2
    | l b xs =>
      obtain ⟨a, vs, rfl, q1, q2, q3, q4⟩ := h2
      exact ⟨a, vs, rfl, q1, q2, key a q3, q4⟩
    | m b t kvs =>
      obtain ⟨a, rfl, q2, q3, q4⟩ := h2
      exact ⟨a, rfl, q2, key a q3, q4⟩
    | k b kvs =>
      obtain ⟨a, rfl, q2, q3, q4⟩ := h2
      exact ⟨a, rfl, q2, key a q3, q4⟩
    | s b net told rows =>
      obtain ⟨a, rfl, q2, q3, q4, q5, q6⟩ := h2
      exact ⟨a, rfl, q2, key a q3, q4, fun l p => key l (q5 l p), q6⟩
theorem get_set_cases {α : Type} {l : List α} {i j : Nat} {x y : α} (h : (l.set i x)[j]? = some y) : (j = i ∧ y = x) ∨ (j ≠ i ∧ l[j]? = some y) := by
  by_cases q : j = i
  · subst q
    by_cases hl : j < l.length
    · rw [List.getElem?_set_self hl] at h; exact .inl ⟨rfl, (Option.some.inj h).symm⟩
    · rw [List.getElem?_eq_none (by simpa using hl)] at h; cases h
  · rw [List.getElem?_set_ne (Ne.symm q)] at h; exact .inr ⟨q, h⟩
/-- a slot takes a datum -/
theorem Rep.put (R : Rep K z r s H F) {i : Nat} {v : V} {x : D} (h : Dp K F v x) : Rep K z (r.set i (some (.d x))) (s.set i (some v)) H F where
  fh := R.fh
  old := R.old
  f0 := R.f0
  nw := R.nw
  slots := fun j sv e => by
    have hj : j < r.length := by
      have q : j < (r.set i (some (SV.d x))).length := (List.getElem?_eq_some_iff.mp e).1
      simpa using q
    rcases get_set_cases e with ⟨rfl, e2⟩ | ⟨ne, e⟩
    · cases e2
      exact ⟨v, by rw [List.getElem?_set_self (by rw [← R.len]; exact hj)], h⟩
    · obtain ⟨w, h1, h2⟩ := R.slots j sv e
      exact ⟨w, by rw [List.getElem?_set_ne (Ne.symm ne)]; exact h1, h2⟩
  ap := R.ap.sub fun j b h => by
    rcases owns_set h with ⟨_, o, _⟩ | ⟨_, h⟩
    · cases o
    · exact h
  len := by simpa using R.len
end
end DL
namespace DL
open PySem L2
abbrev EM := Rho → Option (D × Rho)
abbrev TM := Rho → Option (Bool × Rho)
abbrev AM := Rho → Option (List D × Rho)
/-- a value seen: a datum, or an own list -/
def Dv (K : PySem.W.Frag) (F H : Hp) (v : V) (d : D) : Prop := Dp K F v d ∨ ∃ a vs xs, v = .ref a ∧ d = .list xs ∧ H a = some (.lst vs) ∧ DpAll K F vs xs
def liftE (K : PySem.W.Frag) (f : EM) : TE := fun s H Q => ∃ z r F d r', Rep K z r s H F ∧ f r = some (d, r') ∧ ∀ v H' F', Rep K z r' s H' F' → SubH F F' → Dp K F' v d → Q v H'
def liftW (K : PySem.W.Frag) (f : EM) : TE := fun s H Q => ∃ z r F d r', Rep K z r s H F ∧ f r = some (d, r') ∧ ∀ v H' F', Rep K z r' s H' F' → SubH F F' → Dv K F' H' v d → Q v H'
def liftT (K : PySem.W.Frag) (f : TM) : TT := fun s H Q => ∃ z r F d r', Rep K z r s H F ∧ f r = some (d, r') ∧ ∀ H' F', Rep K z r' s H' F' → SubH F F' → Q d H'
def liftA (K : PySem.W.Frag) (f : AM) : TA := fun s H Q => ∃ z r F d r', Rep K z r s H F ∧ f r = some (d, r') ∧ ∀ v H' F', Rep K z r' s H' F' → SubH F F' → DpAll K F' v d → Q v H'
/-- a new list -/
def liftL (K : PySem.W.Frag) (f : AM) : TE := fun s H Q => ∃ z r F d r', Rep K z r s H F ∧ f r = some (d, r') ∧
  ∀ a vs H' F', Rep K z r' s H' F' → SubH F F' → H' a = some (.lst vs) → F' a = none → z.H0 a = none → ¬ OwnAt r' s H' a → DpAll K F' vs d → Q (.ref a) H'
structure SE (X : Cx) (e : Expr) (f : EM) : Prop where
  pe : PE X e (liftE X.K f)
structure SW (X : Cx) (e : Expr) (f : EM) : Prop where
  pe : PE X e (liftW X.K f)
structure SL (X : Cx) (e : Expr) (f : AM) : Prop where
  pe : PE X e (liftL X.K f)
structure ST (X : Cx) (e : Expr) (f : TM) : Prop where
  pt : PT X e (liftT X.K f)
structure SA (X : Cx) (es : List Expr) (f : AM) : Prop where
  pa : PA X es (liftA X.K f)
  len : ∀ r ds r', f r = some (ds, r') → ds.length = es.length
theorem pe_imp {X : Cx} {e : Expr} {t t' : TE} (h : PE X e t) (k : ∀ s H Q, t' s H Q → t s H Q) : PE X e t' := ⟨fun pins s σ H Q I hq => h.run pins s σ H Q I (k _ _ _ hq)⟩
theorem pt_imp {X : Cx} {e : Expr} {t t' : TT} (h : PT X e t) (k : ∀ s H Q, t' s H Q → t s H Q) : PT X e t' := ⟨fun pins s σ H Q I hq => h.run pins s σ H Q I (k _ _ _ hq)⟩
theorem pa_imp {X : Cx} {e : List Expr} {t t' : TA} (h : PA X e t) (k : ∀ s H Q, t' s H Q → t s H Q) : PA X e t' := ⟨fun pos pins s σ H Q I hq => h.run pos pins s σ H Q I (k _ _ _ hq)⟩
section
variable {X : Cx} {a b c e : Expr} {es : List Expr} {f g : EM} {pos : Pos}
theorem SE.sw (h : SE X e f) : SW X e f := ⟨pe_imp h.pe fun s H Q ⟨z, r, F, d, r', R, e, k⟩ => ⟨z, r, F, d, r', R, e, fun v H' F' R' sb q => k v H' F' R' sb (.inl q)⟩⟩
/-- a frame's loose list is frozen -/
theorem Rep.freeze1 {K : PySem.W.Frag} {z : Fx} {r : Rho} {s : St} {H F : Hp} (R : Rep K z r s H F) {p : Addr} {o : HO} (hp : H p = some o) (hf : F p = none) (h0 : z.H0 p = none) (ho : ¬ OwnAt r s H p) : Rep K z r s H (upd F p o) where
  fh := fun b u q => by
    by_cases e : b = p
    · subst e; rw [upd_same] at q; rw [hp]; exact q
    · rw [upd_ne e] at q; exact R.fh b u q
  old := R.old
  f0 := R.f0.trans (.new hf)
  nw := fun b u q => by
    by_cases e : b = p
    · subst e; exact .inr (.inl h0)
    · rw [upd_ne e] at q; exact R.nw b u q
  slots := fun i sv q => by
    obtain ⟨v, h1, h2⟩ := R.slots i sv q
    refine ⟨v, h1, h2.mono (.new hf) (fun _ _ _ _ _ _ h => h) fun a b o ho' hf' _ hown e hp => ?_⟩
    have : b ≠ p := fun z => ho ⟨i, sv, a, q, hown, by rw [h1, e], z ▸ hp⟩
    rw [upd_ne this]; exact hf'
  ap := R.ap
  len := R.len
def ofL (f : AM) : EM := fun r => (f r).map fun p => (.list p.1, p.2)
theorem SL.se {f : AM} (h : SL X e f) : SE X e (ofL f) := ⟨pe_imp h.pe fun s H Q ⟨z, r, F, d, r', R, e, k⟩ => by
  unfold ofL at e
  cases q : f r with
  | none => rw [q] at e; cases e
  | some p =>
    obtain ⟨ds, r1⟩ := p
    rw [q] at e; cases e
    refine ⟨z, r, F, ds, r1, R, q, fun a vs H' F' R' sb h1 h2 h3 h4 h5 => ?_⟩
    have G := R'.freeze1 h1 h2 h3 h4
    exact k _ _ _ G (sb.trans (.new h2)) (.lst (.inl (.inl upd_same)) (dpa_mono (.new h2) h5))⟩
/-! ### names, constants -/
def varM (i : Nat) : EM := fun r => match r[i]? with
  | some (some (.d x)) => some (x, r)
  | _ => none
def ownM (i : Nat) : EM := fun r => match r[i]? with
  | some (some (.l _ xs)) => some (.list xs, r)
  | _ => none
def cM (d : D) : EM := fun r => some (d, r)
theorem varM_some {i : Nat} {r r' : Rho} {d : D} (h : varM i r = some (d, r')) : r[i]? = some (some (.d d)) ∧ r' = r := by
  unfold varM at h
  split at h
  · rename_i x e; cases h; exact ⟨e, rfl⟩
  · cases h
theorem ownM_some {i : Nat} {r r' : Rho} {d : D} (h : ownM i r = some (d, r')) : ∃ b xs, r[i]? = some (some (.l b xs)) ∧ d = .list xs ∧ r' = r := by
  unfold ownM at h
  split at h
  · rename_i x e; cases h; exact ⟨_, _, e, rfl, rfl⟩
  · cases h
theorem se_var (i : Nat) {x : Str} (hN : X.N[i]? = some x := by rfl) (hv : Vis X.env.scope x := by first | exact Or.inl rfl | exact Or.inr (Or.inl rfl) | exact Or.inr (Or.inr rfl)) (hd : (x == ("__debug__" : Str)) = false := by decide)
    (hcd : (x == ("__classdict__" : Str)) = false := by decide) : SE X (.Name x pos) (varM i) :=
  ⟨pe_imp (pe_var hN hv hd hcd) fun s H Q ⟨z, r, F, d, r', R, e, k⟩ => by
    obtain ⟨e1, rfl⟩ := varM_some e
    obtain ⟨v, h1, h2⟩ := R.slots i _ e1
    exact ⟨v, h1, k v H F R (.refl _) h2⟩⟩
theorem sw_own (i : Nat) {x : Str} (hN : X.N[i]? = some x := by rfl) (hv : Vis X.env.scope x := by first | exact Or.inl rfl | exact Or.inr (Or.inl rfl) | exact Or.inr (Or.inr rfl)) (hd : (x == ("__debug__" : Str)) = false := by decide)
    (hcd : (x == ("__classdict__" : Str)) = false := by decide) : SW X (.Name x pos) (ownM i) :=
  ⟨pe_imp (pe_var hN hv hd hcd) fun s H Q ⟨z, r, F, d, r', R, e, k⟩ => by
    obtain ⟨bb, xs, e1, rfl, rfl⟩ := ownM_some e
    obtain ⟨v, h1, a, vs, rfl, h2, h3, h4, h5, h6⟩ := R.slots i _ e1
    exact ⟨_, h1, k _ H F R (.refl _) (.inr ⟨a, vs, xs, rfl, rfl, h2, h5⟩)⟩⟩
theorem se_c {d : D} {v : V} (h : PE X e (tC v)) (hd : ∀ F, Dp X.K F v d) : SE X e (cM d) :=
  ⟨pe_imp h fun s H Q ⟨z, r, F, d, r', R, e, k⟩ => by cases e; exact k v H F R (.refl _) (hd F)⟩
theorem se_int {i j pos} : SE X (.Constant (.int i) j pos) (cM (.int i)) := se_c pe_int fun _ => .int i
theorem se_bl {i j pos} : SE X (.Constant (.bool i) j pos) (cM (.bool i)) := se_c pe_bl fun _ => .bl i
theorem se_non {j pos} : SE X (.Constant .none j pos) (cM .none) := se_c pe_non fun _ => .non
theorem se_str {x j pos} : SE X (.Constant (.str x) j pos) (cM (.str x)) := se_c pe_str fun _ => .str x
theorem se_globI {x : Str} {i : Int} (hg : Gl X x) (hm : ∃ t, X.mg x = some (.int i t)) (hd : (x == ("__debug__" : Str)) = false := by decide) : SE X (.Name x pos) (cM (.int i)) := by
  obtain ⟨t, hm⟩ := hm
  exact se_c (v := .int i) (pe_glob hg hm ⟨t, rfl⟩ hd) fun _ => .int i
theorem se_globS {x : Str} {i : Str} (hg : Gl X x) (hm : ∃ t, X.mg x = some (.str i t)) (hd : (x == ("__debug__" : Str)) = false := by decide) : SE X (.Name x pos) (cM (.str i)) := by
  obtain ⟨t, hm⟩ := hm
  exact se_c (v := .str i) (pe_glob hg hm ⟨t, rfl⟩ hd) fun _ => .str i
/-! ### two operands -/
/-- an operation on data: what it asks of the heap -/
def liftO (K : PySem.W.Frag) (h : D → D → Option D) : R2 := fun x y H Q => ∃ F d e o, SubH F H ∧ Dv K F H x d ∧ Dv K F H y e ∧ h d e = some o ∧ ∀ v H' F', Grow F H F' H' → Dp K F' v o → Q v H'
def opM (h : D → D → Option D) (f g : EM) : EM := fun r => (f r).bind fun p => (g p.2).bind fun q => (h p.1 q.1).map fun d => (d, q.2)
theorem opM_some {h : D → D → Option D} {f g : EM} {r r' : Rho} {o : D} (q : opM h f g r = some (o, r')) : ∃ x r1 y, f r = some (x, r1) ∧ g r1 = some (y, r') ∧ h x y = some o := by
  unfold opM at q
  cases e1 : f r with
  | none => rw [e1] at q; cases q
  | some p =>
    rw [e1] at q
    simp only [Option.bind_some] at q
    cases e2 : g p.2 with
    | none => rw [e2] at q; cases q
    | some p2 =>
      rw [e2] at q
      simp only [Option.bind_some] at q
      cases e3 : h p.1 p2.1 with
      | none => rw [e3] at q; cases q
      | some d => rw [e3] at q; cases q; exact ⟨p.1, p.2, p2.1, rfl, e2, e3⟩
theorem Dv.mono {K : PySem.W.Frag} {F H F' H' : Hp} {v : V} {d : D} (h : Dv K F H v d) (e : SubH F F') (hh : SubH H H') : Dv K F' H' v d := by
  rcases h with h | ⟨a, vs, xs, rfl, rfl, h1, h2⟩
  · exact .inl (dp_mono e h)
  · exact .inr ⟨a, vs, xs, rfl, rfl, hh _ _ h1, dpa_mono e h2⟩
theorem Dv.dp {K : PySem.W.Frag} {F H : Hp} {v : V} {d : D} (h : Dv K F H v d) (e : SubH F H) : Dp K H v d := by
  rcases h with h | ⟨a, vs, xs, rfl, rfl, h1, h2⟩
  · exact dp_mono e h
  · exact .lst (.inl (.inl h1)) (dpa_mono e h2)
theorem top_op {r2 : R2} {h : D → D → Option D} (hb : SW X b g) (ha : SE X a f) {s : St} {H : Hp} {Q : VK} (q : liftE X.K (opM h f g) s H Q) : tOp (liftO X.K h) (liftE X.K f) (liftW X.K g) s H Q := by
  obtain ⟨z, r, F, d, r', R, e, k⟩ := q
  obtain ⟨x, r1, y, e1, e2, e3⟩ := opM_some e
  refine ⟨z, r, F, x, r1, R, e1, fun v H1 F1 R1 sb1 dx => ⟨z, r1, F1, y, r', R1, e2, fun w H2 F2 R2 sb2 dy => ⟨F2, x, y, d, R2.fh, .inl (dp_mono sb2 dx), dy, e3, fun v' H' F' G dd => ?_⟩⟩⟩
  exact k v' H' F' (R2.grow G) ((sb1.trans sb2).trans G.ff) dd
theorem se_op {op : Operator} {h : D → D → Option D} (ho : OpR X (binaryOp op) (liftO X.K h)) (ha : SE X a f) (hb : SW X b g) : SE X (.BinOp a op b pos) (opM h f g) :=
  ⟨pe_imp (pe_op ho ha.pe hb.pe) fun s H Q q => top_op (r2 := liftO X.K h) hb ha q⟩
theorem se_cmp {op : CmpOp} {h : D → D → Option D} (ho : OpR X (compareOp op) (liftO X.K h)) (ha : SE X a f) (hb : SW X b g) (hm : behindInMarks op b = false := by first | exact nobehind _ (by decide) (by decide) | rfl) : SE X (.Compare a [op] [b] pos) (opM h f g) :=
  ⟨pe_imp (pe_cmpR ho ha.pe hb.pe hm) fun s H Q q => top_op (r2 := liftO X.K h) hb ha q⟩
/-! ### one operand: a built-in -/
def unM (h : D → Option D) (f : EM) : EM := fun r => (f r).bind fun p => (h p.1).map fun d => (d, p.2)
def liftC1 (K : PySem.W.Frag) (h : D → Option D) : List V → Hp → VK → Prop := fun vs H Q => ∃ F x d o, vs = [x] ∧ SubH F H ∧ Dv K F H x d ∧ h d = some o ∧ ∀ v H' F', Grow F H F' H' → Dp K F' v o → Q v H'
theorem unM_some {h : D → Option D} {f : EM} {r r' : Rho} {o : D} (q : unM h f r = some (o, r')) : ∃ x, f r = some (x, r') ∧ h x = some o := by
  unfold unM at q
  simp only [Option.bind_eq_some_iff, Option.map_eq_some_iff] at q
  obtain ⟨⟨x, r1⟩, e1, o', e2, e3⟩ := q
  cases e3; exact ⟨x, e1, e2⟩
theorem se_b1 {id : String} {x : Str} {p : Pos} {h : D → Option D} (hc : CallR X (.builtin id) (liftC1 X.K h)) (hg : Gl X x) (hm : X.mg x = none) (hv : bootBuiltins x = some (.builtin id)) (ha : SW X a f) (hn : x ≠ "__name__" := by decide) (hdb : (x == ("__debug__" : Str)) = false := by decide)
    (he : starEach [a] X.env = [(false, eval a X.env)] := by rfl) : SE X (.Call (.Name x p) [a] [] pos) (unM h f) :=
  ⟨pe_imp (pe_callB hc hg hm hv (pa_cons ha.pe pa_nil he) hn hdb he rfl) fun s H Q ⟨z, r, F, d, r', R, e, k⟩ => by
    obtain ⟨x, e1, e2⟩ := unM_some e
    exact ⟨z, r, F, x, r', R, e1, fun v H' F' R' sb dv => ⟨F', v, x, d, rfl, R'.fh, dv, e2, fun v2 H2 F2 G dd => k v2 H2 F2 (R'.grow G) (sb.trans G.ff) dd⟩⟩⟩
theorem se_t1 {id : String} {x : Str} {p : Pos} {h : D → Option D} (hc : CallR X (.type id) (liftC1 X.K h)) (hg : Gl X x) (hm : X.mg x = none) (hv : bootBuiltins x = some (.type id)) (ha : SW X a f) (hn : x ≠ "__name__" := by decide) (hdb : (x == ("__debug__" : Str)) = false := by decide)
    (he : starEach [a] X.env = [(false, eval a X.env)] := by rfl) : SE X (.Call (.Name x p) [a] [] pos) (unM h f) :=
  ⟨pe_imp (pe_callTy hc hg hm hv (pa_cons ha.pe pa_nil he) hn hdb he rfl) fun s H Q ⟨z, r, F, d, r', R, e, k⟩ => by
    obtain ⟨x, e1, e2⟩ := unM_some e
    exact ⟨z, r, F, x, r', R, e1, fun v H' F' R' sb dv => ⟨F', v, x, d, rfl, R'.fh, dv, e2, fun v2 H2 F2 G dd => k v2 H2 F2 (R'.grow G) (sb.trans G.ff) dd⟩⟩⟩
end
end DL
namespace DL
open PySem L2 PyProof.Rows PySem.Spec
section
variable {X : Cx}
/-! ### rules that the layer below lacks -/
def rCatL (K : PySem.W.Frag) : R2 := fun x y H Q => ∃ l b xs zs, x = .ref l ∧ y = .ref b ∧ SqL K H l xs ∧ SqL K H b zs ∧ xs.length + zs.length ≤ sizeLine ∧ ∀ p, H p = none → Q (.ref p) (upd H p (.lst (xs ++ zs)))
theorem op_catL : OpR X (binaryOp .Add) (rCatL X.K) := by
  rintro pins s σ H x y v u Q I rx ry ⟨p1, p2, xs, ys, rfl, rfl, one, two, fits, give⟩
  cases rx
  cases ry
  obtain ⟨us, left, ⟨⟨c1, d1, dt1, s1⟩, n1, at1, isL1, _, isS1⟩, _⟩ := I.list one
  obtain ⟨ws, right, ⟨⟨c2, d2, dt2, s2⟩, n2, at2, isL2, _, isS2⟩, _⟩ := I.list two
  cases isL1; cases isS1; cases isL2; cases isS2
  have t1 : s.TypeIs (.ref p1) "list" := ⟨_, at1, rfl⟩
  have t2 : s.TypeIs (.ref p2) "list" := ⟨_, at2, rfl⟩
  have sizes : us.toArray.size + ws.toArray.size ≤ sizeLine := by simp [← left.length, ← right.length, fits]
  refine concat_meets t1 t2 noFill_list_add seq_list_add PySem.F.slot_list_add PySem.F.entry_list_add (PySem.F.args_list_add_2 _ _) (list_addW p1 p2 us.toArray ws.toArray n1 n2 d1 d2 s1 s2 sizes) ⟨at1, at2, ?_⟩
  have joined := I.lnew (t' := s.toks) (left.append right) (by simpa using fits)
  rw [show us.toArray ++ ws.toArray = (us ++ ws).toArray by simp]
  exact ⟨.ref s.heap.objs.size, _, joined, rfl, give _ I.fresh⟩
/-! ### operations on data -/
def szOk (n : Nat) : Bool := decide (n ≤ 1000000)
theorem szOk_le {n : Nat} (h : szOk n = true) : n ≤ sizeLine := Nat.le_trans (of_decide_eq_true h) (by decide)
theorem szOk_lt {n : Nat} (h : szOk n = true) : n < sizeLine := Nat.lt_of_le_of_lt (of_decide_eq_true h) (by decide)
def addD : D → D → Option D
  | .int i, .int j => some (.int (i + j))
  | .tuple xs, .tuple ys => if szOk (xs.length + ys.length) then some (.tuple (xs ++ ys)) else none
  | .list xs, .list ys => if szOk (xs.length + ys.length) then some (.list (xs ++ ys)) else none
  | .str x, .str y => if szOk (x.length + y.length) then some (.str (x ++ y)) else none
  | _, _ => none
theorem dv_int {K : PySem.W.Frag} {F H : Hp} {v : V} {i : Int} (h : Dv K F H v (.int i)) : v = .int i := by
  rcases h with h | ⟨a, vs, xs, _, h, _⟩
  · exact h.inv
  · cases h
theorem dv_str {K : PySem.W.Frag} {F H : Hp} {v : V} {i : Str} (h : Dv K F H v (.str i)) : v = .str i := by
  rcases h with h | ⟨a, vs, xs, _, h, _⟩
  · exact h.inv
  · cases h
theorem dv_bl {K : PySem.W.Frag} {F H : Hp} {v : V} {i : Bool} (h : Dv K F H v (.bool i)) : v = .bl i := by
  rcases h with h | ⟨a, vs, xs, _, h, _⟩
  · exact h.inv
  · cases h
theorem dv_non {K : PySem.W.Frag} {F H : Hp} {v : V} (h : Dv K F H v .none) : v = .non := by
  rcases h with h | ⟨a, vs, xs, _, h, _⟩
  · exact h.inv
  · cases h
theorem dv_tup {K : PySem.W.Frag} {F H : Hp} {v : V} {ds : List D} (h : Dv K F H v (.tuple ds)) : ∃ a vs, v = .ref a ∧ TupAt F a vs ∧ DpAll K F vs ds := by
  rcases h with h | ⟨a, vs, xs, _, h, _⟩
  · obtain ⟨_, _, rfl, h1, h2⟩ := h.inv; exact ⟨_, _, rfl, h1, h2⟩
  · cases h
theorem dv_lst {K : PySem.W.Frag} {F H : Hp} {v : V} {ds : List D} (sb : SubH F H) (h : Dv K F H v (.list ds)) : ∃ a vs, v = .ref a ∧ SqL K H a vs ∧ DpAll K F vs ds := by
  rcases h with h | ⟨a, vs, xs, e, h, h1, h2⟩
  · obtain ⟨_, _, rfl, h1, h2⟩ := h.inv; exact ⟨_, _, rfl, sb.sql h1, h2⟩
  · cases h; exact ⟨a, vs, e, .inl (.inl h1), h2⟩
/-- a new tuple, a new list -/
theorem new_tup {K : PySem.W.Frag} {F H : Hp} {p : Addr} {ob : Obj} {vs : List V} {ds : List D} (none' : ob.dict = none) (sb : SubH F H) (hp : H p = none) (h : DpAll K F vs ds) :
    Grow F H (upd F p (tupHO ob vs)) (upd H p (tupHO ob vs)) ∧ Dp K (upd F p (tupHO ob vs)) (.ref p) (.tuple ds) :=
  have G := Grow.new (o := tupHO ob vs) sb hp
  ⟨G, .tup ⟨ob, none', upd_same⟩ (dpa_mono G.ff h)⟩
/-- the object of a new tuple -/
def tupObj (its : List Value) : Obj := { cls := .type "tuple", data := .seq its.toArray }
theorem lay_tup {pins : List (Addr × Obj)} {s : Shared} {σ : L2.St} {H : Hp} {vs : List V} {its : List Value} (I : L2.Inv X pins σ H s) (vals : Vals vs its) (fits : vs.length ≤ sizeLine) :
    L2.Inv X pins σ (upd H s.heap.objs.size (tupHO (tupObj its) vs)) { s with heap := s.heap.push (tupObj its) } := by
  have new : (s.heap.push (tupObj its)).get? s.heap.objs.size = some (tupObj its) := Heap.get?_push_size _ rfl
  refine I.laid (t' := s.toks) (fun _ _ old => Heap.get?_push_of_some _ old) (Nat.le_refl _) ?_
  rcases tupHO_cases (tupObj its) vs with q | q <;> rw [q]
  · exact ⟨fits, its, vals, _, new, rfl, _, rfl⟩
  · exact ⟨new, fits, its, vals, _, new, rfl, _, rfl⟩
/-- what may come of a new tuple -/
def Laid (H : Hp) (vs : List V) (Q : VK) : Prop := ∀ (p : Addr) (ob : Obj), ob.dict = none → H p = none → Q (.ref p) (upd H p (tupHO ob vs))
theorem laid_ep {pins : List (Addr × Obj)} {s : Shared} {σ : L2.St} {H : Hp} {vs : List V} {its : List Value} {Q : VK} (I : L2.Inv X pins σ H s) (vals : Vals vs its) (fits : vs.length ≤ sizeLine) (q : Laid H vs Q) :
    EP X pins σ Q (.ref s.heap.objs.size) { s with heap := s.heap.push (tupObj its) } :=
  ⟨.ref s.heap.objs.size, _, lay_tup I vals fits, rfl, q _ _ rfl (I.hok.fresh (Nat.le_refl _))⟩
/-- t + u of tuples: the other one if one is empty, else a new one -/
def rCatN (K : PySem.W.Frag) : R2 := fun x y H Q => ∃ a b xs ys, x = .ref a ∧ y = .ref b ∧ SqT K H a xs ∧ SqT K H b ys ∧ xs.length + ys.length ≤ sizeLine ∧
  (xs = [] → Q (.ref b) H) ∧ (xs ≠ [] → ys = [] → Q (.ref a) H) ∧ (xs ≠ [] → ys ≠ [] → Laid H (xs ++ ys) Q)
theorem op_catN : OpR X (binaryOp .Add) (rCatN X.K) := by
  rintro pins s σ H x y v u Q I rx ry ⟨a, b, xs, ys, rfl, rfl, one, two, fits, left, right, new⟩
  cases rx
  cases ry
  obtain ⟨us, vals1, ⟨⟨c1, d1, dt1, s1⟩, at1, isT1, n1, isS1⟩, _⟩ := I.tuple one
  obtain ⟨ws, vals2, ⟨⟨c2, d2, dt2, s2⟩, at2, isT2, n2, isS2⟩, _⟩ := I.tuple two
  cases isT1; cases isS1; cases isT2; cases isS2
  have t1 : s.TypeIs (.ref a) "tuple" := ⟨_, at1, rfl⟩
  have t2 : s.TypeIs (.ref b) "tuple" := ⟨_, at2, rfl⟩
  have l1 := vals1.length
  have l2 := vals2.length
  have e1 : us.toArray.isEmpty = true ↔ xs = [] := by cases xs <;> cases us <;> simp at l1 ⊢
  have e2 : ws.toArray.isEmpty = true ↔ ys = [] := by cases ys <;> cases ws <;> simp at l2 ⊢
  have run := fun S (g : Meets (Builtin.«tuple.__add__» ⟨[.ref a, .ref b], []⟩) S) (q : S X.A (wants (EP X pins σ Q) X.xe) s) =>
    concat_meets (prog := X.prog) (w := X.w) t1 t2 noFill_tuple_add seq_tuple_add PySem.F.slot_tuple_add PySem.F.entry_tuple_add (PySem.F.args_tuple_add_2 _ _) g q
  by_cases h1 : xs = []
  · exact run _ (tuple_addW0 a b _ _ n1 n2 d1 d2 s1 s2 (e1.mpr h1)) ⟨at1, at2, .ref b, H, I, rfl, left h1⟩
  by_cases h2 : ys = []
  · exact run _ (tuple_addW1 a b _ _ n1 n2 d1 d2 s1 s2 (mt e1.mp h1) (e2.mpr h2)) ⟨at1, at2, .ref a, H, I, rfl, right h1 h2⟩
  refine run _ (tuple_addW2 a b _ _ n1 n2 d1 d2 s1 s2 (mt e1.mp h1) (mt e2.mp h2) (by simp; omega)) ⟨at1, at2, ?_⟩
  rw [show us.toArray ++ ws.toArray = (us ++ ws).toArray by simp]
  exact laid_ep I (vals1.append vals2) (by simpa using fits) (new h1 h2)
theorem new_lst {K : PySem.W.Frag} {F H : Hp} {p : Addr} {vs : List V} {ds : List D} (sb : SubH F H) (hp : H p = none) (h : DpAll K F vs ds) : Grow F H (upd F p (.lst vs)) (upd H p (.lst vs)) ∧ Dp K (upd F p (.lst vs)) (.ref p) (.list ds) :=
  have G := Grow.new (o := HO.lst vs) sb hp
  ⟨G, .lst (.inl (.inl upd_same)) (dpa_mono G.ff h)⟩
theorem or_addD : OpR X (binaryOp .Add) (liftO X.K addD) := by
  intro pins s σ H x y v u Q I rx ry h
  obtain ⟨F, d, e, o, sb, dx, dy, eo, k⟩ := h
  unfold addD at eo
  split at eo
  · cases eo
    cases dv_int dx; cases dv_int dy
    exact op_add pins s σ H _ _ v u Q I rx ry ⟨_, _, rfl, rfl, k _ H F (.refl sb) (.int _)⟩
  · split at eo
    · rename_i hz
      cases eo
      obtain ⟨a, vs, rfl, h1, h2⟩ := dv_tup dx
      obtain ⟨b, ws, rfl, h3, h4⟩ := dv_tup dy
      have l1 := dpa_len h2
      have l2 := dpa_len h4
      refine op_catN pins s σ H _ _ v u Q I rx ry ⟨a, b, vs, ws, rfl, rfl, sb.sqt (sqt_of h1), sb.sqt (sqt_of h3), by rw [l1, l2]; exact szOk_le hz, fun e => ?_, fun n e => ?_, fun n1 n2 p ob nd hp => ?_⟩
      · subst e; cases h2; exact k _ H F (.refl sb) (.tup h3 h4)
      · subst e; cases h4; rw [List.append_nil] at k; exact k _ H F (.refl sb) (.tup h1 h2)
      · obtain ⟨G, q⟩ := new_tup nd sb hp (dpa_app h2 h4)
        exact k _ _ _ G q
    · cases eo
  · split at eo
    · rename_i hz
      cases eo
      obtain ⟨a, vs, rfl, h1, h2⟩ := dv_lst sb dx
      obtain ⟨b, ws, rfl, h3, h4⟩ := dv_lst sb dy
      have l1 := dpa_len h2
      have l2 := dpa_len h4
      refine op_catL pins s σ H _ _ v u Q I rx ry ⟨a, b, vs, ws, rfl, rfl, h1, h3, by rw [l1, l2]; exact szOk_le hz, fun p hp => ?_⟩
      obtain ⟨G, q⟩ := new_lst sb hp (dpa_app h2 h4)
      exact k _ _ _ G q
    · cases eo
  · split at eo
    · rename_i hz
      cases eo
      cases dv_str dx; cases dv_str dy
      exact op_add_str pins s σ H _ _ v u Q I rx ry ⟨_, _, rfl, rfl, szOk_le hz, k _ H F (.refl sb) (.str _)⟩
    · cases eo
  · cases eo
def subD : D → D → Option D
  | .int i, .int j => some (.int (i - j))
  | _, _ => none
theorem or_subD : OpR X (binaryOp .Sub) (liftO X.K subD) := by
  intro pins s σ H x y v u Q I rx ry h
  obtain ⟨F, d, e, o, sb, dx, dy, eo, k⟩ := h
  unfold subD at eo
  split at eo
  · cases eo
    cases dv_int dx; cases dv_int dy
    exact op_sub pins s σ H _ _ v u Q I rx ry ⟨_, _, rfl, rfl, k _ H F (.refl sb) (.int _)⟩
  · cases eo
/-- % and // by a positive number -/
def modD : D → D → Option D
  | .int i, .int j => if 0 < j then some (.int (i % j)) else none
  | _, _ => none
theorem or_modD : OpR X (binaryOp .Mod) (liftO X.K modD) := by
  intro pins s σ H x y v u Q I rx ry h
  obtain ⟨F, d, e, o, sb, dx, dy, eo, k⟩ := h
  unfold modD at eo
  split at eo
  · split at eo
    · rename_i hj
      cases eo
      cases dv_int dx; cases dv_int dy
      exact op_mod pins s σ H _ _ v u Q I rx ry ⟨_, _, rfl, rfl, hj, k _ H F (.refl sb) (.int _)⟩
    · cases eo
  · cases eo
def fdivD : D → D → Option D
  | .int i, .int j => if 0 < j ∧ j < 1073741824 then some (.int (i / j)) else none
  | _, _ => none
theorem or_fdivD : OpR X (binaryOp .FloorDiv) (liftO X.K fdivD) := by
  intro pins s σ H x y v u Q I rx ry h
  obtain ⟨F, d, e, o, sb, dx, dy, eo, k⟩ := h
  unfold fdivD at eo
  split at eo
  · split at eo
    · rename_i hj
      cases eo
      cases dv_int dx; cases dv_int dy
      exact op_fdiv pins s σ H _ _ v u Q I rx ry ⟨_, _, rfl, rfl, hj, k _ H F (.refl sb) (.int _)⟩
    · cases eo
  · cases eo
/-- a product of ints, the left or the right one below 2 ^ 64 -/
def mulD : D → D → Option D
  | .int i, .int j => if (-(2 ^ 64) < i ∧ i < 2 ^ 64) ∨ (-(2 ^ 64) < j ∧ j < 2 ^ 64) then some (.int (i * j)) else none
  | _, _ => none
theorem or_mulD : OpR X (binaryOp .Mult) (liftO X.K mulD) := by
  intro pins s σ H x y v u Q I rx ry h
  obtain ⟨F, d, e, o, sb, dx, dy, eo, k⟩ := h
  unfold mulD at eo
  split at eo
  · split at eo
    · rename_i hj
      cases eo
      cases dv_int dx; cases dv_int dy
      exact op_mul pins s σ H _ _ v u Q I rx ry ⟨_, _, rfl, rfl, hj, k _ H F (.refl sb) (.int _)⟩
    · cases eo
  · cases eo
/-! ### comparisons -/
def bD (h : D → D → Option Bool) (d e : D) : Option D := (h d e).map .bool
theorem bD_some {h : D → D → Option Bool} {d e o : D} (q : bD h d e = some o) : ∃ b, h d e = some b ∧ o = .bool b := by
  unfold bD at q
  simp only [Option.map_eq_some_iff] at q
  obtain ⟨b, h1, h2⟩ := q
  exact ⟨b, h1, h2.symm⟩
def eqB (d e : D) : Option Bool := if SeqAt.shaped d && SeqAt.shaped e then some (PyData.eqv d e) else none
def neB (d e : D) : Option Bool := if SeqAt.shaped d && SeqAt.shaped e then some (!PyData.eqv d e) else none
theorem or_eqB (hu : X.A.units + 64 < cLine) : OpR X (compareOp .Eq) (liftO X.K (bD eqB)) := by
  intro pins s σ H x y v u Q I rx ry h
  obtain ⟨F, d, e, o, sb, dx, dy, eo, k⟩ := h
  obtain ⟨bb, e9, rfl⟩ := bD_some eo
  clear eo; have eo := e9; clear e9
  unfold eqB at eo
  split at eo
  · rename_i hs
    cases eo
    obtain ⟨s1, s2⟩ := (Bool.and_eq_true_iff.mp hs)
    exact op_eqD hu pins s σ H _ _ v u Q I rx ry ⟨d, e, dp_old (dx.dp sb), dp_old (dy.dp sb), s1, s2, k _ H F (.refl sb) (.bl _)⟩
  · cases eo
theorem or_neB (hu : X.A.units + 64 < cLine) : OpR X (compareOp .NotEq) (liftO X.K (bD neB)) := by
  intro pins s σ H x y v u Q I rx ry h
  obtain ⟨F, d, e, o, sb, dx, dy, eo, k⟩ := h
  obtain ⟨bb, e9, rfl⟩ := bD_some eo
  clear eo; have eo := e9; clear e9
  unfold neB at eo
  split at eo
  · rename_i hs
    cases eo
    obtain ⟨s1, s2⟩ := (Bool.and_eq_true_iff.mp hs)
    exact op_neD hu pins s σ H _ _ v u Q I rx ry ⟨d, e, dp_old (dx.dp sb), dp_old (dy.dp sb), s1, s2, k _ H F (.refl sb) (.bl _)⟩
  · cases eo
/-- the ints of a row -/
def intsOf : List D → Option (List Int)
  | [] => some []
  | .int i :: r => (intsOf r).map (i :: ·)
  | _ :: _ => none
theorem intsOf_some : ∀ {ds : List D} {ns : List Int}, intsOf ds = some ns → ds = ns.map PyData.int
  | [], ns, h => by cases h; rfl
  | .int i :: r, ns, h => by
    simp only [intsOf, Option.map_eq_some_iff] at h
    obtain ⟨ms, h1, rfl⟩ := h
    rw [intsOf_some h1]; rfl
  | .none :: _, _, h => nomatch h
  | .bool _ :: _, _, h => nomatch h
  | .str _ :: _, _, h => nomatch h
  | .list _ :: _, _, h => nomatch h
  | .tuple _ :: _, _, h => nomatch h
  | .dict _ :: _, _, h => nomatch h
theorem intsOf_map (ns : List Int) : intsOf (ns.map PyData.int) = some ns := by
  induction ns with
  | nil => rfl
  | cons n ns ih => simp [intsOf, ih]
def ltB : D → D → Option Bool
  | .int i, .int j => some (decide (i < j))
  | .tuple xs, .tuple ys => (intsOf xs).bind fun ns => (intsOf ys).map fun ms => HT.lexLt ns ms
  | _, _ => none
theorem or_ltB (hu : X.A.units < cLine) : OpR X (compareOp .Lt) (liftO X.K (bD ltB)) := by
  intro pins s σ H x y v u Q I rx ry h
  obtain ⟨F, d, e, o, sb, dx, dy, eo, k⟩ := h
  obtain ⟨bb, e9, rfl⟩ := bD_some eo
  clear eo; have eo := e9; clear e9
  unfold ltB at eo
  split at eo
  · cases eo
    cases dv_int dx; cases dv_int dy
    exact op_lt pins s σ H _ _ v u Q I rx ry ⟨_, _, rfl, rfl, k _ H F (.refl sb) (.bl _)⟩
  · simp only [Option.bind_eq_some_iff, Option.map_eq_some_iff] at eo
    obtain ⟨ns, e1, ms, e2, rfl⟩ := eo
    cases intsOf_some e1; cases intsOf_some e2
    obtain ⟨a, vs, rfl, h1, h2⟩ := dv_tup dx
    obtain ⟨b, ws, rfl, h3, h4⟩ := dv_tup dy
    cases dpa_ints h2; cases dpa_ints h4
    exact op_ltT hu pins s σ H _ _ v u Q I rx ry ⟨a, b, ns, ms, rfl, rfl, sb.sqt (sqt_of h1), sb.sqt (sqt_of h3), k _ H F (.refl sb) (.bl _)⟩
  · cases eo
def leB : D → D → Option Bool
  | .int i, .int j => some (decide (i ≤ j))
  | .tuple xs, .tuple ys => (intsOf xs).bind fun ns => (intsOf ys).map fun ms => !HT.lexLt ms ns
  | _, _ => none
theorem lexAt_shift {e r : Nat → Bool} {z : Bool} : ∀ (n i : Nat), Ob.lexAt e r z (i + 1) n = Ob.lexAt (fun j => e (j + 1)) (fun j => r (j + 1)) z i n
  | 0, i => rfl
  | n + 1, i => by rw [Ob.lexAt_succ, Ob.lexAt_succ, lexAt_shift n (i + 1)]
theorem le_lex : ∀ ns ms : List Int, Ob.lexAt (fun j => decide (ns.getD j 0 = ms.getD j 0)) (fun j => decide (ns.getD j 0 ≤ ms.getD j 0)) (decide (ns.length ≤ ms.length)) 0 (min ns.length ms.length) = !HT.lexLt ms ns
  | [], [] => rfl
  | [], y :: ys => by simp [Ob.lexAt_zero, HT.lexLt]
  | x :: xs, [] => by simp [Ob.lexAt_zero, HT.lexLt]
  | x :: xs, y :: ys => by
    have ih := le_lex xs ys
    have hm : min (x :: xs).length (y :: ys).length = min xs.length ys.length + 1 := by simp only [List.length_cons]; omega
    rw [hm, Ob.lexAt_succ, HT.lexLt_cons]
    simp only [List.getD_cons_zero]
    by_cases h : x = y
    · subst h
      rw [if_pos (by simp), if_pos rfl, lexAt_shift]
      simp only [List.getD_cons_succ, List.length_cons, Nat.add_le_add_iff_right]
      exact ih
    · rw [if_neg (by simpa using h), if_neg (fun q => h q.symm)]
      by_cases q : x ≤ y
      · rw [decide_eq_true q, decide_eq_false (by omega)]; rfl
      · rw [decide_eq_false q, decide_eq_true (by omega)]; rfl
theorem or_leB (hu : X.A.units < cLine) : OpR X (compareOp .LtE) (liftO X.K (bD leB)) := by
  intro pins s σ H x y v u Q I rx ry h
  obtain ⟨F, d, e, o, sb, dx, dy, eo, k⟩ := h
  obtain ⟨bb, e9, rfl⟩ := bD_some eo
  clear eo; have eo := e9; clear e9
  unfold leB at eo
  split at eo
  · cases eo
    cases dv_int dx; cases dv_int dy
    exact op_le pins s σ H _ _ v u Q I rx ry ⟨_, _, rfl, rfl, k _ H F (.refl sb) (.bl _)⟩
  · simp only [Option.bind_eq_some_iff, Option.map_eq_some_iff] at eo
    obtain ⟨ns, e1, ms, e2, rfl⟩ := eo
    cases intsOf_some e1; cases intsOf_some e2
    obtain ⟨a, vs, rfl, h1, h2⟩ := dv_tup dx
    obtain ⟨b, ws, rfl, h3, h4⟩ := dv_tup dy
    cases dpa_ints h2; cases dpa_ints h4
    refine op_leT hu pins s σ H _ _ v u Q I rx ry ⟨a, b, ns, ms, rfl, rfl, sb.sqt (sqt_of h1), sb.sqt (sqt_of h3), ?_⟩
    rw [le_lex]
    exact k _ H F (.refl sb) (.bl _)
  · cases eo
/-- in -/
def itemsOf : D → Option (List D)
  | .tuple ds => some ds
  | .list ds => some ds
  | _ => none
end
end DL
namespace DL
open PySem L2 PyProof.Rows PySem.Spec
section
variable {X : Cx} {a b c e : Expr} {es : List Expr} {f g h : EM} {pos : Pos}
theorem dv_not_non {K : PySem.W.Frag} {F H : Hp} {v : V} {d : D} (x : Dv K F H v d) (n : d ≠ .none) : v ≠ .non := by
  rcases x with x | ⟨a, vs, xs, rfl, _⟩
  · exact fun q => n (by subst q; cases d <;> first | rfl | exact absurd x.inv (by rintro ⟨_, _, q, _⟩; cases q) | cases x.inv)
  · intro q; cases q
def isB : D → D → Option Bool
  | .bool a, .bool b => some (decide (a = b))
  | .none, .none => some true
  | .bool _, .none => some false
  | .int _, .none => some false
  | .str _, .none => some false
  | .tuple _, .none => some false
  | .list _, .none => some false
  | _, _ => none
theorem or_isB : OpR X (compareOp .Is) (liftO X.K (bD isB)) := by
  intro pins s σ H x y v u Q I rx ry h
  obtain ⟨F, d, e, o, sb, dx, dy, eo, k⟩ := h
  obtain ⟨b, e1, rfl⟩ := bD_some eo
  have key : e = .none → b = decide (x = V.non) → wpAny (model X.prog X.w) X.A (compareOp .Is v u) (EP X pins σ Q) X.xe s := fun he hb => by
    subst he
    cases dv_non dy
    refine op_isN pins s σ H _ _ v u Q I rx ry ⟨rfl, ?_⟩
    rw [← hb]; exact k _ H F (.refl sb) (.bl _)
  unfold isB at e1
  split at e1
  · cases e1
    cases dv_bl dx; cases dv_bl dy
    exact op_is_bl pins s σ H _ _ v u Q I rx ry ⟨_, _, rfl, rfl, k _ H F (.refl sb) (.bl _)⟩
  · cases e1; cases dv_non dx; exact key rfl (by simp)
  all_goals first
    | (cases e1; done)
    | (cases e1; exact key rfl (by rw [decide_eq_false (dv_not_non dx (by intro q; cases q))]))
/-! ### truth -/
def truD : D → Option Bool
  | .none => some false
  | .bool b => some b
  | .int i => some (i != 0)
  | .str x => if szOk x.length then some ((x.length : Int) != 0) else none
  | .list xs => some (!xs.isEmpty)
  | .tuple xs => some (!xs.isEmpty)
  | .dict _ => none
theorem dpa_empty {K : PySem.W.Frag} {F : Hp} {vs : List V} {ds : List D} (h : DpAll K F vs ds) : vs.isEmpty = ds.isEmpty := by cases h <;> rfl
theorem tru_of {K : PySem.W.Frag} {F H : Hp} {v : V} {d : D} {b : Bool} (sb : SubH F H) (x : Dv K F H v d) (h : truD d = some b) : TruV K v H b := by
  unfold truD at h
  split at h
  · cases h; cases dv_non x; rfl
  · cases h; cases dv_bl x; rfl
  · cases h; cases dv_int x; rfl
  · split at h
    · rename_i hz; cases h; cases dv_str x; exact ⟨szOk_le hz, rfl⟩
    · cases h
  · cases h
    obtain ⟨a, vs, rfl, h1, h2⟩ := dv_lst sb x
    exact .inl ⟨vs, h1, by rw [dpa_empty h2]⟩
  · cases h
    obtain ⟨a, vs, rfl, h1, h2⟩ := dv_tup x
    exact .inr (.inl ⟨vs, sb.sqt (sqt_of h1), by rw [dpa_empty h2]⟩)
  · cases h
def truM (f : EM) : TM := fun r => (f r).bind fun p => (truD p.1).map fun b => (b, p.2)
theorem truM_some {f : EM} {r r' : Rho} {o : Bool} (q : truM f r = some (o, r')) : ∃ x, f r = some (x, r') ∧ truD x = some o := by
  unfold truM at q
  simp only [Option.bind_eq_some_iff, Option.map_eq_some_iff] at q
  obtain ⟨⟨x, r1⟩, e1, o', e2, e3⟩ := q
  cases e3; exact ⟨x, e1, e2⟩
/-- a value as a test -/
theorem st_val (ha : SW X a f) (he : ∀ whole, isTrue a X.env whole = (do let v ← whole; standAt a.pos; holding [v] (truthy v)) := by intro _; rfl) : ST X a (truM f) :=
  ⟨pt_imp (pt_truth ha.pe he) fun s H Q ⟨z, r, F, d, r', R, e, k⟩ => by
    obtain ⟨x, e1, e2⟩ := truM_some e
    exact ⟨z, r, F, x, r', R, e1, fun v H' F' R' sb dv => ⟨d, tru_of R'.fh dv e2, k H' F' R' sb⟩⟩⟩
def tstM (h : D → D → Option Bool) (f g : EM) : TM := fun r => (f r).bind fun p => (g p.2).bind fun q => (h p.1 q.1).map fun b => (b, q.2)
theorem tstM_op {h : D → D → Option Bool} {f g : EM} {r r' : Rho} {o : Bool} (q : tstM h f g r = some (o, r')) : opM (bD h) f g r = some (.bool o, r') := by
  unfold tstM at q
  unfold opM bD
  simp only [Option.bind_eq_some_iff, Option.map_eq_some_iff] at q ⊢
  obtain ⟨p, e1, p2, e2, b, e3, e4⟩ := q
  cases e4
  exact ⟨p, e1, p2, e2, _, ⟨_, e3, rfl⟩, rfl⟩
theorem st_cmp {op : CmpOp} {h : D → D → Option Bool} (ho : OpR X (compareOp op) (liftO X.K (bD h))) (ha : SE X a f) (hb : SW X b g) (hm : behindInMarks op b = false := by first | exact nobehind _ (by decide) (by decide) | rfl) : ST X (.Compare a [op] [b] pos) (tstM h f g) :=
  ⟨pt_imp (pt_cmpR ho ha.pe hb.pe hm) fun s H Q ⟨z, r, F, d, r', R, e, k⟩ => by
    refine top_op (r2 := liftO X.K (bD h)) hb ha ⟨z, r, F, _, r', R, tstM_op e, fun v H' F' R' sb dv => ⟨d, ?_, k H' F' R' sb⟩⟩
    cases dv.inv; rfl⟩
/-! ### not, and, or: tests -/
structure SWt (X : Cx) (e : Expr) (f : TM) : Prop where
  pw : PW X e (liftT X.K f)
def notM (f : TM) : TM := fun r => (f r).map fun p => (!p.1, p.2)
def andM (f g : TM) : TM := fun r => (f r).bind fun p => if p.1 = true then g p.2 else some (false, p.2)
def orM (f g : TM) : TM := fun r => (f r).bind fun p => if p.1 = true then some (true, p.2) else g p.2
variable {ft gt : TM} {rest : List Expr}
theorem st_not (ha : ST X a ft) : ST X (.UnaryOp .Not a pos) (notM ft) :=
  ⟨pt_imp (pt_not ha.pt) fun s H Q ⟨z, r, F, d, r', R, e, k⟩ => by
    unfold notM at e
    simp only [Option.map_eq_some_iff] at e
    obtain ⟨⟨b, r1⟩, e1, e2⟩ := e
    cases e2
    exact ⟨z, r, F, b, r1, R, e1, fun H' F' R' sb => k H' F' R' sb⟩⟩
theorem pw_imp {e : Expr} {t t' : TT} (h : PW X e t) (k : ∀ s H Q, t' s H Q → t s H Q) : PW X e t' := ⟨fun wh pins s σ H Q I hq => h.run wh pins s σ H Q I (k _ _ _ hq)⟩
theorem and_lift {s : L2.St} {H : Hp} {Q : Bool → Hp → Prop} (q : liftT X.K (andM ft gt) s H Q) : tAnd (liftT X.K ft) (liftT X.K gt) s H Q := by
  obtain ⟨z, r, F, d, r', R, e, k⟩ := q
  unfold andM at e
  simp only [Option.bind_eq_some_iff] at e
  obtain ⟨⟨b, r1⟩, e1, e2⟩ := e
  refine ⟨z, r, F, b, r1, R, e1, fun H1 F1 R1 sb => ?_⟩
  cases b with
  | true => exact ⟨z, r1, F1, d, r', R1, e2, fun H2 F2 R2 sb2 => k H2 F2 R2 (sb.trans sb2)⟩
  | false => cases e2; exact k H1 F1 R1 sb
theorem or_lift {s : L2.St} {H : Hp} {Q : Bool → Hp → Prop} (q : liftT X.K (orM ft gt) s H Q) : tOr (liftT X.K ft) (liftT X.K gt) s H Q := by
  obtain ⟨z, r, F, d, r', R, e, k⟩ := q
  unfold orM at e
  simp only [Option.bind_eq_some_iff] at e
  obtain ⟨⟨b, r1⟩, e1, e2⟩ := e
  refine ⟨z, r, F, b, r1, R, e1, fun H1 F1 R1 sb => ?_⟩
  cases b with
  | false => exact ⟨z, r1, F1, d, r', R1, e2, fun H2 F2 R2 sb2 => k H2 F2 R2 (sb.trans sb2)⟩
  | true => cases e2; exact k H1 F1 R1 sb
theorem sw_and1 (ha : ST X a ft) : SWt X (.BoolOp .And [a] pos) ft := ⟨pw_and1 ha.pt⟩
theorem sw_or1 (ha : ST X a ft) : SWt X (.BoolOp .Or [a] pos) ft := ⟨pw_or1 ha.pt⟩
theorem sw_and (ha : ST X a ft) (hb : SWt X (.BoolOp .And (b :: rest) pos) gt) : SWt X (.BoolOp .And (a :: b :: rest) pos) (andM ft gt) := ⟨pw_imp (pw_and ha.pt hb.pw) fun s H Q q => and_lift q⟩
theorem sw_or (ha : ST X a ft) (hb : SWt X (.BoolOp .Or (b :: rest) pos) gt) : SWt X (.BoolOp .Or (a :: b :: rest) pos) (orM ft gt) := ⟨pw_imp (pw_or ha.pt hb.pw) fun s H Q q => or_lift q⟩
theorem SWt.st (h : SWt X e ft) : ST X e ft := ⟨h.pw.pt⟩
/-! ### as values -/
def andVM (f g : EM) : EM := fun r => (f r).bind fun p => (truD p.1).bind fun b => if b = true then g p.2 else some (p.1, p.2)
def notVM (f : EM) : EM := fun r => (f r).bind fun p => (truD p.1).map fun b => (.bool (!b), p.2)
theorem se_one {op} (ha : SE X a f) : SE X (.BoolOp op [a] pos) f := ⟨pe_one ha.pe⟩
theorem se_and (ha : SE X a f) (hb : SE X (.BoolOp .And (b :: rest) pos) g) : SE X (.BoolOp .And (a :: b :: rest) pos) (andVM f g) :=
  ⟨pe_imp (pe_andT ha.pe hb.pe) fun s H Q ⟨z, r, F, d, r', R, e, k⟩ => by
    unfold andVM at e
    simp only [Option.bind_eq_some_iff] at e
    obtain ⟨⟨x, r1⟩, e1, b, e2, e3⟩ := e
    refine ⟨z, r, F, x, r1, R, e1, fun v H1 F1 R1 sb dv => ⟨b, tru_of R1.fh (.inl dv) e2, ?_⟩⟩
    cases b with
    | true => exact ⟨z, r1, F1, d, r', R1, e3, fun v2 H2 F2 R2 sb2 dd => k v2 H2 F2 R2 (sb.trans sb2) dd⟩
    | false => cases e3; exact k v H1 F1 R1 sb dv⟩
theorem se_not (ha : SW X a f) : SE X (.UnaryOp .Not a pos) (notVM f) :=
  ⟨pe_imp (pe_notT ha.pe) fun s H Q ⟨z, r, F, d, r', R, e, k⟩ => by
    unfold notVM at e
    simp only [Option.bind_eq_some_iff, Option.map_eq_some_iff] at e
    obtain ⟨⟨x, r1⟩, e1, b, e2, e3⟩ := e
    cases e3
    exact ⟨z, r, F, x, r1, R, e1, fun v H1 F1 R1 sb dv => ⟨b, tru_of R1.fh dv e2, k _ H1 F1 R1 sb (.bl _)⟩⟩⟩
/-- a if t else b -/
def iteM (t : TM) (f g : EM) : EM := fun r => (t r).bind fun p => if p.1 = true then f p.2 else g p.2
theorem se_ite (hc : ST X c ft) (ha : SE X a f) (hb : SE X b g) : SE X (.IfExp c a b pos) (iteM ft f g) :=
  ⟨pe_imp (pe_ifExp hc.pt ha.pe hb.pe) fun s H Q ⟨z, r, F, d, r', R, e, k⟩ => by
    unfold iteM at e
    simp only [Option.bind_eq_some_iff] at e
    obtain ⟨⟨b, r1⟩, e1, e2⟩ := e
    refine ⟨z, r, F, b, r1, R, e1, fun H1 F1 R1 sb => ?_⟩
    cases b with
    | true => exact ⟨z, r1, F1, d, r', R1, e2, fun v2 H2 F2 R2 sb2 dd => k v2 H2 F2 R2 (sb.trans sb2) dd⟩
    | false => exact ⟨z, r1, F1, d, r', R1, e2, fun v2 H2 F2 R2 sb2 dd => k v2 H2 F2 R2 (sb.trans sb2) dd⟩⟩
/-- -a -/
def negD : D → Option D
  | .int i => some (.int (-i))
  | _ => none
theorem se_neg (ha : SE X a f) : SE X (.UnaryOp .USub a pos) (unM negD f) :=
  ⟨pe_imp (pe_un un_neg ha.pe) fun s H Q ⟨z, r, F, d, r', R, e, k⟩ => by
    obtain ⟨x, e1, e2⟩ := unM_some e
    unfold negD at e2
    split at e2
    · cases e2
      exact ⟨z, r, F, _, r', R, e1, fun v H1 F1 R1 sb dv => by cases dv.inv; exact ⟨_, rfl, k _ H1 F1 R1 sb (.int _)⟩⟩
    · cases e2⟩
/-! ### rows of expressions, displays -/
def nilM : AM := fun r => some ([], r)
def consM (f : EM) (g : AM) : AM := fun r => (f r).bind fun p => (g p.2).map fun q => (p.1 :: q.1, q.2)
theorem sa_nil : SA X [] nilM := ⟨pa_imp pa_nil fun s H Q ⟨z, r, F, d, r', R, e, k⟩ => by cases e; exact k [] H F R (.refl _) .nil, fun r ds r' e => by cases e; rfl⟩
theorem consM_some {f : EM} {g : AM} {r r' : Rho} {o : List D} (q : consM f g r = some (o, r')) : ∃ x r1 xs, f r = some (x, r1) ∧ g r1 = some (xs, r') ∧ o = x :: xs := by
  unfold consM at q
  simp only [Option.bind_eq_some_iff, Option.map_eq_some_iff] at q
  obtain ⟨⟨x, r1⟩, e1, ⟨xs, r2⟩, e2, e3⟩ := q
  cases e3; exact ⟨x, r1, xs, e1, e2, rfl⟩
theorem sa_cons {g : AM} (ha : SE X e f) (hr : SA X es g) (hs : starEach (e :: es) X.env = (false, eval e X.env) :: starEach es X.env := by rfl) : SA X (e :: es) (consM f g) :=
  ⟨pa_imp (pa_cons ha.pe hr.pa hs) fun s H Q ⟨z, r, F, d, r', R, e, k⟩ => by
    obtain ⟨x, r1, xs, e1, e2, rfl⟩ := consM_some e
    exact ⟨z, r, F, x, r1, R, e1, fun v H1 F1 R1 sb1 dv => ⟨z, r1, F1, xs, r', R1, e2, fun vs H2 F2 R2 sb2 dvs => k _ H2 F2 R2 (sb1.trans sb2) (.cons (dp_mono sb2 dv) dvs)⟩⟩, fun r ds r' e => by
    obtain ⟨x, r1, xs, e1, e2, rfl⟩ := consM_some e
    rw [List.length_cons, hr.len _ _ _ e2]; rfl⟩
def tupM (f : AM) : EM := fun r => (f r).bind fun p => if szOk p.1.length then some (.tuple p.1, p.2) else none
def lstM (f : AM) : AM := fun r => (f r).bind fun p => if szOk p.1.length then some p else none
/-- a written tuple -/
def tTupN (t : TA) : TE := fun σ H Q => t σ H fun xs H1 => xs.length ≤ sizeLine ∧ Laid H1 xs Q
theorem pe_tupN {x1} {t : TA} (h : PA X es t) : PE X (.Tuple es x1 pos) (tTupN t) := by
  constructor
  intro pins s σ H Q I want
  apply PyProof.Rows.Tuple_
  refine thn (h.run pos pins s σ H _ I want) ?_
  rintro us s1 ⟨xs, H1, I1, vals, fits, q⟩
  exact wpAny_newTuple (laid_ep I1 vals fits q) (by rw [← vals.length]; exact fits)
theorem se_tup {x1} {f : AM} (h : SA X es f) : SE X (.Tuple es x1 pos) (tupM f) :=
  ⟨pe_imp (pe_tupN h.pa) fun s H Q ⟨z, r, F, d, r', R, e, k⟩ => by
    unfold tupM at e
    simp only [Option.bind_eq_some_iff] at e
    obtain ⟨⟨xs, r1⟩, e1, e2⟩ := e
    split at e2
    · rename_i hz
      cases e2
      refine ⟨z, r, F, xs, r1, R, e1, fun vs H1 F1 R1 sb dv => ⟨by rw [dpa_len dv]; exact szOk_le hz, fun p ob nd hp => ?_⟩⟩
      obtain ⟨G, q⟩ := new_tup nd R1.fh hp dv
      exact k _ _ _ (R1.grow G) (sb.trans G.ff) q
    · cases e2⟩
theorem Rep.loose {K : PySem.W.Frag} {z : Fx} {r : Rho} {s : L2.St} {H F : Hp} {p : Addr} {vs : List V} (R : Rep K z r s H F) (hp : H p = none) : Rep K z r s (upd H p (.lst vs)) F ∧ (upd H p (.lst vs)) p = some (.lst vs) ∧ F p = none ∧ z.H0 p = none ∧ ¬ OwnAt r s (upd H p (.lst vs)) p :=
  ⟨R.grow (.loose R.fh hp), upd_same, R.fh.none hp, R.old.none hp, fun q => R.free hp (R.ownAtH (SubH.new hp) q)⟩
theorem sl_lst {f : AM} (h : SA X es f) : SL X (.List es pos) (lstM f) :=
  ⟨pe_imp (pe_lst h.pa) fun s H Q ⟨z, r, F, d, r', R, e, k⟩ => by
    unfold lstM at e
    simp only [Option.bind_eq_some_iff] at e
    obtain ⟨⟨xs, r1⟩, e1, e2⟩ := e
    split at e2
    · rename_i hz
      cases e2
      refine ⟨z, r, F, _, _, R, e1, fun vs H1 F1 R1 sb dv => ⟨by rw [dpa_len dv]; exact szOk_le hz, fun p hp => ?_⟩⟩
      obtain ⟨R2, h1, h2, h3, h4⟩ := R1.loose (vs := vs) hp
      exact k p vs _ F1 R2 sb h1 h2 h3 h4 dv
    · cases e2⟩
end
end DL
namespace DL
open PySem L2 PyProof.Rows PySem.Spec
section
variable {X : Cx} {a b c e : Expr} {es : List Expr} {f g h : EM} {pos : Pos}
/-! ### subscripts -/
def ixD : D → D → Option D
  | .tuple ds, .int i => atI ds i
  | .list ds, .int i => atI ds i
  | .str x, .int i => if szOk x.length then (atI x.cps.toList i).map fun c => .str ⟨#[c]⟩ else none
  | _, _ => none
theorem atI_dpa {K : PySem.W.Frag} {F : Hp} {vs : List V} {ds : List D} {i : Int} {d : D} (h : DpAll K F vs ds) (q : atI ds i = some d) : ∃ v, atI vs i = some v ∧ Dp K F v d := by
  unfold atI at q ⊢
  rw [dpa_len h]
  cases e : ixN ds.length i with
  | none => rw [e] at q; cases q
  | some j => rw [e] at q; exact dpa_get (i := j) h q
theorem ix_any : IxR X (liftO X.K ixD) := by
  intro value slice pins s σ H x y v u Q I rx ry h hs
  obtain ⟨F, d, e, o, sb, dx, dy, eo, k⟩ := h
  unfold ixD at eo
  split at eo
  · obtain ⟨a, vs, rfl, h1, h2⟩ := dv_tup dx
    cases dv_int dy
    obtain ⟨w, e1, e2⟩ := atI_dpa h2 eo
    exact ix_tup value slice pins s σ H _ _ v u Q I rx ry ⟨a, vs, _, w, rfl, rfl, sb.sqt (sqt_of h1), e1, k _ H F (.refl sb) e2⟩ hs
  · obtain ⟨a, vs, rfl, h1, h2⟩ := dv_lst sb dx
    cases dv_int dy
    obtain ⟨w, e1, e2⟩ := atI_dpa h2 eo
    exact ix_list value slice pins s σ H _ _ v u Q I rx ry ⟨a, vs, _, w, rfl, rfl, h1, e1, k _ H F (.refl sb) e2⟩ hs
  · split at eo
    · rename_i hz
      simp only [Option.map_eq_some_iff] at eo
      obtain ⟨c, e1, rfl⟩ := eo
      cases dv_str dx
      cases dv_int dy
      exact ix_str value slice pins s σ H _ _ v u Q I rx ry ⟨_, _, c, rfl, rfl, szOk_le hz, e1, k _ H F (.refl sb) (.str _)⟩ hs
    · cases eo
  · cases eo
theorem se_ix (ha : SE X a f) (hb : SE X b g) (hp : PlainIx b := by exact fun _ _ => rfl) : SE X (.Subscript a b pos) (opM ixD f g) :=
  ⟨pe_imp (pe_ix ix_any ha.pe hb.sw.pe hp) fun s H Q q => top_op (r2 := liftO X.K ixD) hb.sw ha q⟩
/-! ### slices -/
abbrev OM := Rho → Option (Option Int × Rho)
def liftP (K : PySem.W.Frag) (f : OM) : TO := fun s H Q => ∃ z r F d r', Rep K z r s H F ∧ f r = some (d, r') ∧ ∀ H' F', Rep K z r' s H' F' → SubH F F' → Q d H'
structure SP' (X : Cx) (e : Option Expr) (f : OM) : Prop where
  po : PO X e (liftP X.K f)
def noM : OM := fun r => some (none, r)
def someM (f : EM) : OM := fun r => (f r).bind fun p => match p.1 with
  | .int i => some (some i, p.2)
  | _ => none
theorem po_imp {e : Option Expr} {t t' : TO} (h : PO X e t) (k : ∀ s H Q, t' s H Q → t s H Q) : PO X e t' := ⟨fun pins s σ H Q I hq => h.run pins s σ H Q I (k _ _ _ hq)⟩
theorem sp_none : SP' X none noM := ⟨po_imp po_none fun s H Q ⟨z, r, F, d, r', R, e, k⟩ => by cases e; exact k H F R (.refl _)⟩
theorem sp_some (ha : SE X e f) : SP' X (some e) (someM f) := ⟨po_imp (po_some ha.pe) fun s H Q ⟨z, r, F, d, r', R, e, k⟩ => by
  unfold someM at e
  simp only [Option.bind_eq_some_iff] at e
  obtain ⟨⟨x, r1⟩, e1, e2⟩ := e
  split at e2
  · rename_i i hx
    cases e2
    have hx : x = .int i := hx
    subst hx
    exact ⟨z, r, F, _, r1, R, e1, fun v H1 F1 R1 sb dv => by cases dv.inv; exact ⟨i, rfl, k H1 F1 R1 sb⟩⟩
  · cases e2⟩
def cutD {α : Type} (xs : List α) (lo hi : Option Int) : List α := (xs.drop (HT.sIx xs.length 0 lo)).take (HT.sIx xs.length xs.length hi - HT.sIx xs.length 0 lo)
def slD (x : D) (lo hi : Option Int) : Option D := match x with
  | .tuple ds => some (.tuple (cutD ds lo hi))
  | .list ds => some (.list (cutD ds lo hi))
  | .str z => if szOk z.length then some (.str (cutS z lo hi)) else none
  | _ => none
def liftSl (K : PySem.W.Frag) : V → Option Int → Option Int → Hp → VK → Prop := fun x lo hi H Q => ∃ F d o, SubH F H ∧ Dv K F H x d ∧ slD d lo hi = some o ∧ ∀ v H' F', Grow F H F' H' → Dp K F' v o → Q v H'
theorem cut_dpa {K : PySem.W.Frag} {F : Hp} {vs : List V} {ds : List D} {lo hi : Option Int} (h : DpAll K F vs ds) : DpAll K F (cutV vs lo hi) (cutD ds lo hi) := by
  unfold cutV cutD
  rw [dpa_len h]
  exact dpa_take _ (dpa_drop _ h)
theorem cut_all {α : Type} {xs : List α} {lo hi : Option Int} (h : HT.sIx xs.length 0 lo = 0 ∧ HT.sIx xs.length xs.length hi = xs.length) : cutD xs lo hi = xs := by
  unfold cutD
  rw [h.1, h.2]
  simp
/-- a part of a tuple: the tuple itself if it is all of it, else a new one -/
def rSlN (K : PySem.W.Frag) : V → Option Int → Option Int → Hp → VK → Prop := fun x lo hi H Q => ∃ a xs, x = .ref a ∧ SqT K H a xs ∧
  (HT.sIx xs.length 0 lo = 0 ∧ HT.sIx xs.length xs.length hi = xs.length → Q (.ref a) H) ∧ (¬ (HT.sIx xs.length 0 lo = 0 ∧ HT.sIx xs.length xs.length hi = xs.length) → Laid H (cutD xs lo hi) Q)
theorem sl_tupN : SlR X (rSlN X.K) := by
  rintro pins s σ H x v vl vu lo hi sl Q I rx isS pl pu ⟨a, xs, rfl, tup, whole, part⟩
  cases rx
  obtain ⟨its, vals, isT, fits⟩ := I.tuple tup
  refine ⟨"tuple", "tuple.__getitem__", PySem.F.slot_tuple_getitem.lookup, isT.typeIs, ?_⟩
  have len : its.toArray.size = xs.length := by simp [vals.length]
  by_cases all : HT.sIx xs.length 0 lo = 0 ∧ HT.sIx xs.length xs.length hi = xs.length
  · exact getItem_tuple_whole isT isS pl pu (by rwa [len]) ⟨.ref a, H, I, rfl, whole all⟩
  · have cut := (vals.drop (HT.sIx xs.length 0 lo)).take (HT.sIx xs.length xs.length hi - HT.sIx xs.length 0 lo)
    have short : (cutD xs lo hi).length ≤ sizeLine := by unfold cutD; simp only [List.length_take, List.length_drop]; omega
    have made := laid_ep I cut short (part all)
    refine HT.getItem_tuple_cut isT isS pl pu (by rwa [len]) ?_ (by rw [len]; exact fits)
    rw [len]
    exact made
theorem sl_any : SlR X (liftSl X.K) := by
  intro pins s σ H x v vl vu lo hi sl Q I rx hsl pl pu h
  obtain ⟨F, d, o, sb, dx, eo, k⟩ := h
  unfold slD at eo
  split at eo
  · cases eo
    obtain ⟨a, vs, rfl, h1, h2⟩ := dv_tup dx
    refine sl_tupN pins s σ H _ v vl vu lo hi sl Q I rx hsl pl pu ⟨a, vs, rfl, sb.sqt (sqt_of h1), fun e => ?_, fun e p ob nd hp => ?_⟩
    · rw [dpa_len h2] at e
      rw [cut_all e] at k
      exact k _ H F (.refl sb) (.tup h1 h2)
    · obtain ⟨G, q⟩ := new_tup nd sb hp (cut_dpa (lo := lo) (hi := hi) h2)
      exact k _ _ _ G q
  · cases eo
    obtain ⟨a, vs, rfl, h1, h2⟩ := dv_lst sb dx
    refine sl_list pins s σ H _ v vl vu lo hi sl Q I rx hsl pl pu ⟨a, vs, rfl, h1, fun p hp => ?_⟩
    obtain ⟨G, q⟩ := new_lst sb hp (cut_dpa (lo := lo) (hi := hi) h2)
    exact k _ _ _ G q
  · split at eo
    · rename_i hz
      cases eo
      cases dv_str dx
      exact sl_str pins s σ H _ v vl vu lo hi sl Q I rx hsl pl pu ⟨_, rfl, szOk_le hz, k _ H F (.refl sb) (.str _)⟩
    · cases eo
  · cases eo
def slM (f : EM) (l u : OM) : EM := fun r => (f r).bind fun p => (l p.2).bind fun q => (u q.2).bind fun w => (slD p.1 q.1 w.1).map fun d => (d, w.2)
theorem se_sl {lo hi : Option Expr} {l u : OM} {p2 : Pos} (ha : SE X e f) (hl : SP' X lo l) (hh : SP' X hi u) : SE X (.Subscript e (.Slice lo hi none p2) pos) (slM f l u) :=
  ⟨pe_imp (pe_slice sl_any ha.pe hl.po hh.po) fun s H Q ⟨z, r, F, d, r', R, e, k⟩ => by
    unfold slM at e
    simp only [Option.bind_eq_some_iff, Option.map_eq_some_iff] at e
    obtain ⟨⟨x, r1⟩, e1, ⟨q, r2⟩, e2, ⟨w, r3⟩, e3, o, e4, e5⟩ := e
    cases e5
    exact ⟨z, r, F, x, r1, R, e1, fun v H1 F1 R1 sb1 dv => ⟨z, r1, F1, q, r2, R1, e2, fun H2 F2 R2 sb2 => ⟨z, r2, F2, w, _, R2, e3, fun H3 F3 R3 sb3 =>
      ⟨F3, x, d, R3.fh, .inl (dp_mono (sb2.trans sb3) dv), e4, fun v2 H4 F4 G dd => k v2 H4 F4 (R3.grow G) (((sb1.trans sb2).trans sb3).trans G.ff) dd⟩⟩⟩⟩⟩
/-! ### built-ins -/
def lenD : D → Option D
  | .tuple ds => some (.int ds.length)
  | .list ds => some (.int ds.length)
  | .str x => if szOk x.length then some (.int x.length) else none
  | _ => none
theorem cr_len : CallR X (.builtin "len") (liftC1 X.K lenD) := by
  intro pins s σ H vs us Q I r h
  obtain ⟨F, x, d, o, rfl, sb, dx, eo, k⟩ := h
  unfold lenD at eo
  split at eo
  · cases eo
    obtain ⟨a, vs, rfl, h1, h2⟩ := dv_tup dx
    refine call_len_seq pins s σ H _ us Q I r ⟨a, vs, rfl, .inr (sb.sqt (sqt_of h1)), ?_⟩
    rw [dpa_len h2]; exact k _ H F (.refl sb) (.int _)
  · cases eo
    obtain ⟨a, vs, rfl, h1, h2⟩ := dv_lst sb dx
    refine call_len_seq pins s σ H _ us Q I r ⟨a, vs, rfl, .inl h1, ?_⟩
    rw [dpa_len h2]; exact k _ H F (.refl sb) (.int _)
  · split at eo
    · rename_i hz
      cases eo
      cases dv_str dx
      exact call_len_str pins s σ H _ us Q I r ⟨_, rfl, szOk_le hz, k _ H F (.refl sb) (.int _)⟩
    · cases eo
  · cases eo
def tupleD : D → Option D
  | .tuple ds => some (.tuple ds)
  | .list ds => some (.tuple ds)
  | _ => none
theorem cr_tuple : CallR X (.type "tuple") (liftC1 X.K tupleD) := by
  rintro pins s σ H vs us Q I rel ⟨F, x, d, o, rfl, sb, dx, eo, k⟩
  obtain ⟨u, rfl, ru⟩ := vals1 rel
  cases d with
  | tuple row =>
    cases eo
    obtain ⟨a, xs, rfl, tup, each⟩ := dv_tup dx
    cases ru
    obtain ⟨its, _, isT, _⟩ := I.tuple (sb.sqt (sqt_of tup))
    exact call_tuple_tup isT ⟨.ref a, H, I, rfl, k _ H F (.refl sb) (.tup tup each)⟩
  | list row =>
    cases eo
    obtain ⟨a, xs, rfl, lst, each⟩ := dv_lst sb dx
    cases ru
    obtain ⟨its, vals, isL, fits⟩ := I.list lst
    refine call_tuple_list isL.isList (fun h1 keeps => ?_) (by rw [List.size_toArray, ← vals.length]; exact fits)
    have I1 : L2.Inv X pins σ H { s with heap := h1 } := I.kept (t' := s.toks) keeps
    exact laid_ep I1 vals fits fun p ob nd hp => let ⟨G, q⟩ := new_tup nd sb hp each; k _ _ _ G q
  | _ => cases eo
def listD : D → Option D
  | .tuple ds => some (.list ds)
  | .list ds => some (.list ds)
  | _ => none
theorem cr_list : CallR X (.type "list") (liftC1 X.K listD) := by
  intro pins s σ H vs us Q I r h
  obtain ⟨F, x, d, o, rfl, sb, dx, eo, k⟩ := h
  unfold listD at eo
  split at eo
  · cases eo
    obtain ⟨a, vs, rfl, h1, h2⟩ := dv_tup dx
    refine call_list_of pins s σ H _ us Q I r ⟨a, vs, rfl, .inr (sb.sqt (sqt_of h1)), fun p hp => ?_⟩
    obtain ⟨G, q⟩ := new_lst sb hp h2
    exact k _ _ _ G q
  · cases eo
    obtain ⟨a, vs, rfl, h1, h2⟩ := dv_lst sb dx
    refine call_list_of pins s σ H _ us Q I r ⟨a, vs, rfl, .inl h1, fun p hp => ?_⟩
    obtain ⟨G, q⟩ := new_lst sb hp h2
    exact k _ _ _ G q
  · cases eo
/-- the truths of a row -/
def blsOf : List D → Option (List Bool)
  | [] => some []
  | .bool i :: r => (blsOf r).map (i :: ·)
  | _ :: _ => none
theorem blsOf_some : ∀ {ds : List D} {ns : List Bool}, blsOf ds = some ns → ds = ns.map PyData.bool
  | [], ns, h => by cases h; rfl
  | .bool i :: r, ns, h => by
    simp only [blsOf, Option.map_eq_some_iff] at h
    obtain ⟨ms, h1, rfl⟩ := h
    rw [blsOf_some h1]; rfl
  | .none :: _, _, h => nomatch h
  | .int _ :: _, _, h => nomatch h
  | .str _ :: _, _, h => nomatch h
  | .list _ :: _, _, h => nomatch h
  | .tuple _ :: _, _, h => nomatch h
  | .dict _ :: _, _, h => nomatch h
theorem dpa_bls {K : PySem.W.Frag} {F : Hp} : ∀ {ns : List Bool} {vs : List V}, DpAll K F vs (ns.map PyData.bool) → vs = ns.map V.bl
  | [], [], _ => rfl
  | n :: ns, v :: vs, h => by
    cases h with
    | cons x t => cases x.inv; rw [dpa_bls t]; rfl
  | [], _ :: _, h => nomatch h
  | _ :: _, [], h => nomatch h
def allD : D → Option D
  | .list ds => (blsOf ds).map fun bs => .bool (bs.all id)
  | _ => none
theorem cr_allD (hc : X.calm = true) : CallR X (.builtin "all") (liftC1 X.K allD) := by
  intro pins s σ H vs us Q I r h
  obtain ⟨F, x, d, o, rfl, sb, dx, eo, k⟩ := h
  unfold allD at eo
  split at eo
  · simp only [Option.map_eq_some_iff] at eo
    obtain ⟨bs, e1, rfl⟩ := eo
    cases blsOf_some e1
    obtain ⟨a, vs, rfl, h1, h2⟩ := dv_lst sb dx
    cases dpa_bls h2
    exact cr_all hc pins s σ H _ us Q I r ⟨a, bs, rfl, h1, k _ H F (.refl sb) (.bl _)⟩
  · cases eo
def intD : D → Option D
  | .int i => some (.int i)
  | .bool b => some (.int (if b = true then 1 else 0))
  | _ => none
theorem cr_int : CallR X (.type "int") (liftC1 X.K intD) := by
  intro pins s σ H vs us Q I r h
  obtain ⟨F, x, d, o, rfl, sb, dx, eo, k⟩ := h
  unfold intD at eo
  split at eo
  · cases eo
    cases dv_int dx
    exact call_int1 pins s σ H _ us Q I r (.inl ⟨_, rfl, k _ H F (.refl sb) (.int _)⟩)
  · cases eo
    cases dv_bl dx
    exact call_int1 pins s σ H _ us Q I r (.inr ⟨_, rfl, k _ H F (.refl sb) (.int _)⟩)
  · cases eo
/-! ### isinstance(x, T), T one of int, bool, str, tuple, list -/
inductive Ty where
  | int | bool | str | tuple | list
def Ty.nm : Ty → String
  | .int => "int" | .bool => "bool" | .str => "str" | .tuple => "tuple" | .list => "list"
def isiD (t : Ty) (d : D) : Option D := some (.bool (match t, d with
  | .int, .int _ => true
  | .int, .bool _ => true
  | .bool, .bool _ => true
  | .str, .str _ => true
  | .tuple, .tuple _ => true
  | .list, .list _ => true
  | _, _ => false))
theorem ty_of {K : PySem.W.Frag} {H : Hp} {v : V} {d : D} (x : L2.Dp K H v d) : ∃ n, TyX K H v (.type n) ∧ n = (match d with | .none => "NoneType" | .bool _ => "bool" | .int _ => "int" | .str _ => "str" | .list _ => "list" | .tuple _ => "tuple" | .dict _ => "dict") := by
  cases x with
  | non => exact ⟨_, .base .non, rfl⟩
  | bl b => exact ⟨_, .base (.bl b), rfl⟩
  | int b => exact ⟨_, .base (.int b), rfl⟩
  | str b => exact ⟨_, .base (.str b), rfl⟩
  | lst h _ =>
    rcases h with (h | ⟨o, h⟩) | ⟨o, its, n, hk, hc, _⟩
    · exact ⟨_, .base (.lst h), rfl⟩
    · exact ⟨_, .base (.frz h), rfl⟩
    · exact ⟨_, .kList hk hc, rfl⟩
  | tup h _ =>
    rcases h with (h | ⟨o, h⟩) | ⟨o, its, n, hk, hc, _⟩
    · exact ⟨_, .base (.tup h), rfl⟩
    · exact ⟨_, .fTuple h, rfl⟩
    · exact ⟨_, .kTuple hk hc, rfl⟩
/-- the name of a datum's type -/
def tyN (d : D) : String := match d with
  | .int _ => Ty.nm .int
  | .bool _ => Ty.nm .bool
  | .tuple _ => Ty.nm .tuple
  | .str _ => Ty.nm .str
  | .none => "NoneType"
  | .list _ => "list"
  | .dict _ => "dict"
theorem kit_any {K : PySem.W.Frag} (t : Ty) (d : D) (hd : ∀ kvs, d ≠ .dict kvs) : ∃ b, isiD t d = some (.bool b) ∧ PySem.W.kitOne K (.type (tyN d)) (.type t.nm) = some b := by
  cases t <;> cases d <;> first
    | exact absurd rfl (hd _)
    | exact ⟨true, rfl, kit_ty (by simp only [tyN, Ty.nm]; decide +kernel)⟩
    | exact ⟨false, rfl, kit_ty (by simp only [tyN, Ty.nm]; decide +kernel)⟩
theorem cr_isi (t : Ty) : CallR X (.builtin "isinstance") (fun vs H Q => ∃ F x d o, vs = [x, .ty t.nm] ∧ SubH F H ∧ Dv X.K F H x d ∧ isiD t d = some o ∧ ∀ v H' F', Grow F H F' H' → Dp X.K F' v o → Q v H') := by
  intro pins s σ H vs us Q I r h
  obtain ⟨F, x, d, o, rfl, sb, dx, eo, k⟩ := h
  have dx' := dp_old (dx.dp sb)
  obtain ⟨n, hn, en⟩ := ty_of dx'
  obtain ⟨b, e1, e2⟩ := kit_any (K := X.K) t d (by intro kvs q; subst q; cases dx')
  rw [e1] at eo
  cases eo
  have : n = tyN d := by rw [en]; cases d <;> rfl
  subst this
  exact call_isi pins s σ H _ us Q I r ⟨x, _, _, _, b, rfl, .ty _, hn, e2, k _ H F (.refl sb) (.bl _)⟩
theorem se_isi (t : Ty) {x : Str} {p1 p2 : Pos} (hg : Gl X "isinstance") (hm : X.mg "isinstance" = none) (hg2 : Gl X x) (hm2 : X.mg x = none) (hv2 : bootBuiltins x = some (.type t.nm)) (ha : SW X a f)
    (he : starEach [a, .Name x p2] X.env = [(false, eval a X.env), (false, eval (.Name x p2) X.env)] := by rfl) (he2 : starEach [.Name x p2] X.env = [(false, eval (.Name x p2) X.env)] := by rfl) (hv : bootBuiltins "isinstance" = some (.builtin "isinstance") := by decide +kernel) (hn : x ≠ "__name__" := by decide) (hdb : (x == ("__debug__" : Str)) = false := by decide) :
    SE X (.Call (.Name "isinstance" p1) [a, .Name x p2] [] pos) (unM (isiD t) f) :=
  ⟨pe_imp (pe_callB (cr_isi t) hg hm hv (pa_cons ha.pe (pa_cons (pe_bltn (v := .ty t.nm) hg2 hm2 hv2 rfl hn hdb) pa_nil he2) (by rw [he, he2])) (by decide) (by decide) (by rw [he, he2]) (by rw [he2]; rfl)) fun s H Q ⟨z, r, F, d, r', R, e, k⟩ => by
    obtain ⟨x, e1, e2⟩ := unM_some e
    exact ⟨z, r, F, x, r', R, e1, fun v H' F' R' sb dv => ⟨F', v, x, d, rfl, R'.fh, dv, e2, fun v2 H2 F2 G dd => k v2 H2 F2 (R'.grow G) (sb.trans G.ff) dd⟩⟩⟩
/-! ### a < b < c -/
def chM (h1 h2 : D → D → Option Bool) (f g k : EM) : EM := fun r => (f r).bind fun p => (g p.2).bind fun q => (h1 p.1 q.1).bind fun b => if b = true then (k q.2).bind fun w => (h2 q.1 w.1).map fun c => (.bool c, w.2) else some (.bool false, q.2)
theorem ch_lift {h1 h2 : D → D → Option Bool} {k : EM} {s : L2.St} {H : Hp} {Q : VK} (q : liftE X.K (chM h1 h2 f g k) s H Q) : tChain (liftO X.K (bD h1)) (liftO X.K (bD h2)) (liftE X.K f) (liftE X.K g) (liftW X.K k) s H Q := by
  obtain ⟨z, r, F, d, r', R, e, kk⟩ := q
  unfold chM at e
  simp only [Option.bind_eq_some_iff] at e
  obtain ⟨⟨x, r1⟩, e1, ⟨y, r2⟩, e2, b, e3, e4⟩ := e
  refine ⟨z, r, F, x, r1, R, e1, fun v H1 F1 R1 sb1 dx => ⟨z, r1, F1, y, r2, R1, e2, fun w H2 F2 R2 sb2 dy => ⟨F2, x, y, .bool b, R2.fh, .inl (dp_mono sb2 dx), .inl dy, ?_, fun v' H3 F3 G dd => ⟨b, ?_, ?_⟩⟩⟩⟩
  · unfold bD; rw [e3]; rfl
  · cases dd.inv; rfl
  · have R3 := R2.grow G
    cases b with
    | false => cases e4; exact kk _ H3 F3 R3 ((sb1.trans sb2).trans G.ff) (.bl _)
    | true =>
      simp only [if_true, Option.bind_eq_some_iff, Option.map_eq_some_iff] at e4
      obtain ⟨⟨w, r3⟩, e5, c, e6, e7⟩ := e4
      cases e7
      exact ⟨z, r2, F3, w, _, R3, e5, fun v4 H4 F4 R4 sb4 dw => ⟨F4, y, w, .bool c, R4.fh, .inl (dp_mono (G.ff.trans sb4) dy), dw, by unfold bD; rw [e6]; rfl, fun v5 H5 F5 G5 d5 => kk v5 H5 F5 (R4.grow G5) ((((sb1.trans sb2).trans G.ff).trans sb4).trans G5.ff) d5⟩⟩
theorem se_chain {op op' : CmpOp} {h1 h2 : D → D → Option Bool} {k : EM} (ho : OpR X (compareOp op) (liftO X.K (bD h1))) (ho' : OpR X (compareOp op') (liftO X.K (bD h2))) (ha : SE X a f) (hb : SE X b g) (hc : SW X c k)
    (hl : lastMarks [op, op'] [b, c] = false := by rfl) : SE X (.Compare a [op, op'] [b, c] pos) (chM h1 h2 f g k) := ⟨pe_imp (pe_chain ho ho' ha.pe hb.pe hc.pe hl) fun s H Q q => ch_lift q⟩
end
end DL
namespace DL
open PySem L2 PyProof.Rows PySem.Spec
/-! ### what is walked: data (q false), or data and new pairs, which only a tuple target takes (q true) -/
def Dz (K : PySem.W.Frag) (q : Bool) (F : Hp) (v : V) (d : D) : Prop := Dp K F v d ∨ (q = true ∧ ∃ a vs ds, v = .ref a ∧ d = .tuple ds ∧ F a = some (.tup vs) ∧ DpAll K F vs ds)
structure WalkD (K : PySem.W.Frag) (q : Bool) (F0 : Hp) (J : It) (ds : List D) : Prop where
  w : ∃ Y, Walk J ds.length (fun H => SubH F0 H) Y ∧ ∀ i H x H', Y i H x H' → ∀ F, SubH F0 F → SubH F H → ∃ F' d, ds[i]? = some d ∧ Grow F H F' H' ∧ Dz K q F' x d
def liftI (K : PySem.W.Frag) (q : Bool) (f : AM) : TI := fun s H R => ∃ z r F ds r', Rep K z r s H F ∧ f r = some (ds, r') ∧ ∀ J H' F', Rep K z r' s H' F' → SubH F F' → WalkD K q F' J ds → R J H'
structure SI (X : Cx) (q : Bool) (tg iter : Expr) (f : AM) : Prop where
  pi : PI X tg iter (liftI X.K q f)
section
variable {X : Cx} {a b c e tg : Expr} {es : List Expr} {f g h : EM} {pos : Pos}
/-- the items of a list or a tuple -/
def seqM (f : EM) : AM := fun r => (f r).bind fun p => (itemsOf p.1).map fun ds => (ds, p.2)
theorem seqM_some {r r' : Rho} {ds : List D} (q : seqM f r = some (ds, r')) : ∃ x, f r = some (x, r') ∧ itemsOf x = some ds := by
  unfold seqM at q
  simp only [Option.bind_eq_some_iff, Option.map_eq_some_iff] at q
  obtain ⟨⟨x, r1⟩, e1, o', e2, e3⟩ := q
  cases e3; exact ⟨x, e1, e2⟩
theorem walkD_list {K : PySem.W.Frag} {F : Hp} {a : Addr} {vs : List V} {ds : List D} (h1 : SqL K F a vs) (h2 : DpAll K F vs ds) : WalkD K false F (Itl K a) ds := by
  refine ⟨⟨YAt vs, ?_, ?_⟩⟩
  · rw [← dpa_len h2]
    exact walk_list.mono (fun H hs => hs.sql h1) fun _ _ _ _ _ _ y => y
  · rintro i H x H' ⟨rfl, hx⟩ F' sb sh
    obtain ⟨d, e1, e2⟩ := dpa_at h2 hx
    exact ⟨F', d, e1, .refl sh, .inl (dp_mono sb e2)⟩
theorem walkD_tup {K : PySem.W.Frag} {F : Hp} {a : Addr} {vs : List V} {ds : List D} (h1 : TupAt F a vs) (h2 : DpAll K F vs ds) : WalkD K false F (Itt K a) ds := by
  refine ⟨⟨YAt vs, ?_, ?_⟩⟩
  · rw [← dpa_len h2]
    exact walk_tup.mono (fun H hs => hs.sqt (sqt_of h1)) fun _ _ _ _ _ _ y => y
  · rintro i H x H' ⟨rfl, hx⟩ F' sb sh
    obtain ⟨d, e1, e2⟩ := dpa_at h2 hx
    exact ⟨F', d, e1, .refl sh, .inl (dp_mono sb e2)⟩
theorem si_seq (ha : SE X e f) : SI X false tg e (seqM f) := ⟨⟨fun pins s σ H R I h => by
  obtain ⟨z, r, F, ds, r', Rr, e, k⟩ := h
  obtain ⟨x, e1, e2⟩ := seqM_some e
  unfold itemsOf at e2
  split at e2
  · cases e2
    refine (pi_tup ha.pe).run pins s σ H R I ⟨z, r, F, _, r', Rr, e1, fun v H' F' R' sb dv => ?_⟩
    obtain ⟨_, _, rfl, h1, h2⟩ := dv.inv; exact ⟨_, rfl, ⟨_, R'.fh.sqt (sqt_of h1)⟩, k _ H' F' R' sb (walkD_tup h1 h2)⟩
  · cases e2
    refine (pi_list ha.pe).run pins s σ H R I ⟨z, r, F, _, r', Rr, e1, fun v H' F' R' sb dv => ?_⟩
    obtain ⟨_, _, rfl, h1, h2⟩ := dv.inv; exact ⟨_, rfl, ⟨_, R'.fh.sql h1⟩, k _ H' F' R' sb (walkD_list h1 h2)⟩
  · cases e2⟩⟩
/-- range -/
def rngL (lo hi : Int) : List D := (List.range (hi - lo).toNat).map fun i => .int (lo + (i : Nat))
def rngOk (i : Int) : Bool := decide (-1000000 ≤ i) && decide (i ≤ 1000000)
theorem rngOk_le {i : Int} (h : rngOk i = true) : -(2 ^ 62) ≤ i ∧ i < 2 ^ 62 := by
  obtain ⟨h1, h2⟩ := Bool.and_eq_true_iff.mp h
  have h1 := of_decide_eq_true h1
  have h2 := of_decide_eq_true h2
  omega
def rng1M (f : EM) : AM := fun r => (f r).bind fun p => match p.1 with
  | .int j => if rngOk j then some (rngL 0 j, p.2) else none
  | _ => none
def rng2M (f g : EM) : AM := fun r => (f r).bind fun p => (g p.2).bind fun q => match p.1, q.1 with
  | .int i, .int j => if rngOk i && rngOk j then some (rngL i j, q.2) else none
  | _, _ => none
theorem walkD_range {K : PySem.W.Frag} {F : Hp} {lo hi : Int} : WalkD K false F (Itr lo (hi - lo).toNat) (rngL lo hi) := by
  have hl : (rngL lo hi).length = (hi - lo).toNat := by unfold rngL; simp
  refine ⟨⟨fun i H x H' => i < (hi - lo).toNat ∧ YFn (fun i => V.int (lo + (i : Nat))) i H x H', ?_, ?_⟩⟩
  · rw [hl]
    exact walk_range.mono (fun H hs => trivial) fun _ _ _ _ hi _ y => ⟨hi, y⟩
  · rintro i H x H' ⟨hlt, rfl, hx⟩ F' sb sh
    subst hx
    exact ⟨F', .int (lo + (i : Nat)), by unfold rngL; simp [hlt], .refl sh, .inl (.int _)⟩
theorem si_range1 {p : Pos} (hg : Gl X "range") (hm : X.mg "range" = none) (ha : SE X a f) (hs : starEach [a] X.env = [(false, eval a X.env)] := by rfl) : SI X false tg (.Call (.Name "range" p) [a] [] pos) (rng1M f) := ⟨⟨fun pins s σ H R I h => by
  obtain ⟨z, r, F, ds, r', Rr, e, k⟩ := h
  unfold rng1M at e
  simp only [Option.bind_eq_some_iff] at e
  obtain ⟨⟨x, r1⟩, e1, e2⟩ := e
  split at e2
  · rename_i j hx
    have hx : x = .int j := hx
    subst hx
    split at e2
    · rename_i ok
      cases e2
      have := rngOk_le ok
      refine (pi_range1 hg hm (pa_cons ha.pe pa_nil hs) hs).run pins s σ H R I ⟨z, r, F, _, r1, Rr, e1, fun v H' F' R' sb dv => ?_⟩
      cases dv.inv
      refine ⟨j, rfl, this.1, this.2, k _ H' F' R' sb ?_⟩
      have w := walkD_range (K := X.K) (F := F') (lo := 0) (hi := j)
      rw [Int.sub_zero] at w
      exact w
    · cases e2
  · cases e2⟩⟩
theorem si_range2 {p : Pos} (hg : Gl X "range") (hm : X.mg "range" = none) (ha : SE X a f) (hb : SE X b g) (hs : starEach [a, b] X.env = [(false, eval a X.env), (false, eval b X.env)] := by rfl) (hs2 : starEach [b] X.env = [(false, eval b X.env)] := by rfl) : SI X false tg (.Call (.Name "range" p) [a, b] [] pos) (rng2M f g) := ⟨⟨fun pins s σ H R I h => by
  obtain ⟨z, r, F, ds, r', Rr, e, k⟩ := h
  unfold rng2M at e
  simp only [Option.bind_eq_some_iff] at e
  obtain ⟨⟨x, r1⟩, e1, ⟨y, r2⟩, e2, e3⟩ := e
  split at e3
  · rename_i i j hx hy
    have hx : x = .int i := hx
    have hy : y = .int j := hy
    subst hx hy
    split at e3
    · rename_i ok
      cases e3
      obtain ⟨o1, o2⟩ := Bool.and_eq_true_iff.mp ok
      have q1 := rngOk_le o1
      have q2 := rngOk_le o2
      refine (pi_range2 hg hm (pa_cons ha.pe (pa_cons hb.pe pa_nil hs2) (by rw [hs, hs2])) hs hs2).run pins s σ H R I ⟨z, r, F, _, r1, Rr, e1, fun v H' F' R' sb dv => ⟨z, r1, F', _, r2, R', e2, fun v2 H2 F2 R2 sb2 dv2 => ?_⟩⟩
      cases dv.inv; cases dv2.inv
      exact ⟨i, j, rfl, ⟨q1.1, q1.2, q2.1, q2.2⟩, k _ H2 F2 R2 (sb.trans sb2) walkD_range⟩
    · cases e3
  · cases e3⟩⟩
/-- pairs -/
def pairD (x y : D) : D := .tuple [x, y]
def zipL (xs ys : List D) : List D := List.zipWith pairD xs ys
theorem pair_step {K : PySem.W.Frag} {F H : Hp} {T : Addr} {x y : V} {dx dy : D} (sb : SubH F H) (hT : H T = none) (h1 : Dp K F x dx) (h2 : Dp K F y dy) : ∃ F', Grow F H F' (upd H T (.tup [x, y])) ∧ Dz K true F' (.ref T) (pairD dx dy) :=
  have G := Grow.new (o := HO.tup [x, y]) sb hT
  ⟨_, G, .inr ⟨rfl, T, _, _, rfl, rfl, upd_same, .cons (dp_mono G.ff h1) (.cons (dp_mono G.ff h2) .nil)⟩⟩
theorem zipL_get {xs ys : List D} {i : Nat} {x y : D} (h1 : xs[i]? = some x) (h2 : ys[i]? = some y) : (zipL xs ys)[i]? = some (pairD x y) := by
  unfold zipL
  rw [List.getElem?_zipWith, h1, h2]
theorem walk_zipT {K : PySem.W.Frag} {a b : Addr} {xs ys : List V} {n : Nat} (hn : n = min xs.length ys.length) : Walk (RZ.ItzT K a b) n (fun H => SqT K H a xs ∧ SqT K H b ys) (YPair (fun i => xs[i]?) (fun i => ys[i]?)) where
  goes := by
    rintro m H lt ⟨sa, sb⟩
    have lx : m < xs.length := Nat.lt_of_lt_of_le (hn ▸ lt) (Nat.min_le_left ..)
    have ly : m < ys.length := Nat.lt_of_lt_of_le (hn ▸ lt) (Nat.min_le_right ..)
    exact ⟨xs, ys, _, _, sa, sb, List.getElem?_eq_getElem lx, List.getElem?_eq_getElem ly⟩
  stops := by
    rintro H ⟨sa, sb⟩
    exact ⟨xs, ys, sa, sb, by rcases Nat.le_total xs.length ys.length with l | l <;> simp [hn, l]⟩
  yields := by
    rintro m H v H' - ⟨sa, sb⟩ ⟨T, p, q, ev, eT, eH, fx, fy⟩
    exact ⟨T, p, q, ev, eT, eH, fx _ sa, fy _ sb⟩
theorem walkD_pair {K : PySem.W.Frag} {F : Hp} {J : It} {vs ws : List V} {ds es : List D} {n : Nat} (h1 : DpAll K F vs ds) (h2 : DpAll K F ws es) (hn : n = min vs.length ws.length) (w : Walk J n (fun H => SubH F H) (YPair (fun i => vs[i]?) (fun i => ws[i]?))) : WalkD K true F J (zipL ds es) := by
  have hl : (zipL ds es).length = n := by unfold zipL; rw [List.length_zipWith, ← dpa_len h1, ← dpa_len h2, hn]
  refine ⟨⟨_, by rw [hl]; exact w, ?_⟩⟩
  rintro i H x H' ⟨T, x, y, rfl, hT, rfl, hx, hy⟩ F' sb sh
  obtain ⟨d, e1, e2⟩ := dpa_at h1 hx
  obtain ⟨d', e1', e2'⟩ := dpa_at h2 hy
  obtain ⟨F2, G, q⟩ := pair_step sh hT (dp_mono sb e2) (dp_mono sb e2')
  exact ⟨F2, _, zipL_get e1 e1', G, q⟩
def zipM (f g : EM) : AM := fun r => (f r).bind fun p => (g p.2).bind fun q => match p.1, q.1 with
  | .tuple xs, .tuple ys => some (zipL xs ys, q.2)
  | .list xs, .list ys => some (zipL xs ys, q.2)
  | _, _ => none
theorem si_zip {p tpos : Pos} {elts : List Expr} {kk : Nat} (hg : Gl X "zip") (hm : X.mg "zip" = none) (ha : SE X a f) (hb : SE X b g) (hs : starEach [a, b] X.env = (false, eval a X.env) :: starEach [b] X.env := by rfl) (hs2 : starEach [b] X.env = [(false, eval b X.env)] := by rfl) :
    SI X true (.Tuple elts kk tpos) (.Call (.Name "zip" p) [a, b] [] pos) (zipM f g) := ⟨⟨fun pins s σ H R I h => by
  obtain ⟨z, r, F, ds, r', Rr, e, k⟩ := h
  unfold zipM at e
  simp only [Option.bind_eq_some_iff] at e
  obtain ⟨⟨x, r1⟩, e1, ⟨y, r2⟩, e2, e3⟩ := e
  split at e3
  · rename_i xs ys hx hy
    have hx : x = .tuple xs := hx
    have hy : y = .tuple ys := hy
    subst hx hy
    cases e3
    refine (RZ.pi_zipA hg hm (pa_cons ha.pe (pa_cons hb.pe pa_nil hs2) hs) hs (by rw [hs2]; rfl)).run pins s σ H R I ⟨z, r, F, _, r1, Rr, e1, fun v H' F' R' sb dv => ⟨z, r1, F', _, r2, R', e2, fun v2 H2 F2 R2 sb2 dv2 => ?_⟩⟩
    have dv := dp_mono sb2 dv
    obtain ⟨_, _, rfl, h1, h2⟩ := dv.inv
    obtain ⟨_, _, rfl, h3, h4⟩ := dv2.inv
    exact ⟨_, _, _, _, rfl, .inr ⟨R2.fh.sqt (sqt_of h1), R2.fh.sqt (sqt_of h3), k _ H2 F2 R2 (sb.trans sb2) (walkD_pair h2 h4 rfl ((walk_zipT rfl).mono (fun H hs => ⟨hs.sqt (sqt_of h1), hs.sqt (sqt_of h3)⟩) fun _ _ _ _ _ _ y => y))⟩⟩
  · rename_i xs ys hx hy
    have hx : x = .list xs := hx
    have hy : y = .list ys := hy
    subst hx hy
    cases e3
    refine (RZ.pi_zipA hg hm (pa_cons ha.pe (pa_cons hb.pe pa_nil hs2) hs) hs (by rw [hs2]; rfl)).run pins s σ H R I ⟨z, r, F, _, r1, Rr, e1, fun v H' F' R' sb dv => ⟨z, r1, F', _, r2, R', e2, fun v2 H2 F2 R2 sb2 dv2 => ?_⟩⟩
    have dv := dp_mono sb2 dv
    obtain ⟨_, _, rfl, h1, h2⟩ := dv.inv
    obtain ⟨_, _, rfl, h3, h4⟩ := dv2.inv
    exact ⟨_, _, _, _, rfl, .inl ⟨R2.fh.sql h1, R2.fh.sql h3, k _ H2 F2 R2 (sb.trans sb2) (walkD_pair h2 h4 rfl ((walk_zip rfl).mono (fun H hs => ⟨hs.sql h1, hs.sql h3⟩) fun _ _ _ _ _ _ y => y))⟩⟩
  · cases e3⟩⟩
/-! ### targets -/
abbrev GM := Rho → D → Option Rho
def liftGw (K : PySem.W.Frag) (q : Bool) (t : GM) (is : List Nat) : TG := fun v s H Q => ∃ z r F d r', Rep K z r s H F ∧ Dz K q F v d ∧ t r d = some r' ∧ ∀ s', wipe s' is = wipe s is → Rep K z r' s' H F → Q s' H
structure SG (X : Cx) (q : Bool) (tg : Expr) (t : GM) (is : List Nat) : Prop where
  pg : PG X tg (liftGw X.K q t is)
theorem Dz.dp {K : PySem.W.Frag} {F : Hp} {v : V} {d : D} (h : Dz K false F v d) : Dp K F v d := h.elim id fun ⟨q, _⟩ => nomatch q
def nameG (i : Nat) : GM := fun r d => some (r.set i (some (.d d)))
theorem pg_imp {tg : Expr} {t t' : TG} (h : PG X tg t) (k : ∀ v s H Q, t' v s H Q → t v s H Q) : PG X tg t' := ⟨fun pins s σ H v u Q I r hq => h.run pins s σ H v u Q I r (k _ _ _ _ hq)⟩
theorem wipe_set {s : L2.St} {i : Nat} {v : Option V} : ∀ {is : List Nat}, i ∈ is → wipe (s.set i v) is = wipe s is := by
  have getw : ∀ (is : List Nat) (s : L2.St) (j : Nat), (wipe s is)[j]? = if j < s.length then (if j ∈ is then some none else s[j]?) else none := by
    intro is
    induction is with
    | nil => intro s j; unfold wipe; by_cases h : j < s.length <;> simp [h]
    | cons v vs ih =>
      intro s j
      unfold wipe
      rw [List.getElem?_set]
      have hl : (wipe s vs).length = s.length := wipe_length s vs
      by_cases h : v = j
      · subst h
        by_cases h2 : v < s.length
        · simp [h2, hl]
        · simp [h2, hl]
      · rw [if_neg h, ih]
        have : (j ∈ v :: vs) ↔ j ∈ vs := by simp [Ne.symm h]
        simp [this]
  intro is hi
  apply List.ext_getElem?
  intro j
  rw [getw, getw]
  simp only [List.length_set]
  by_cases h : j < s.length
  · simp only [h, if_true]
    by_cases h2 : j ∈ is
    · simp [h2]
    · have : i ≠ j := fun e => h2 (e ▸ hi)
      simp [h2, List.getElem?_set, this]
  · simp [h]
theorem sg_name (i : Nat) {x : Str} {is : List Nat} (hN : X.N.Nodup) (hi : X.N[i]? = some x) (hx : Loc X.env.scope x) (his : i ∈ is) (hf : X.fn x = true ∨ X.env.scope.names.lookup x = some .local := by first | exact .inl rfl | exact .inr rfl | assumption) : SG X false (.Name x pos) (nameG i) is :=
  ⟨pg_imp (pg_name hN hi hx hf) fun v s H Q ⟨z, r, F, d, r', R, dv, e, k⟩ => by
    cases e
    exact k _ (wipe_set his) (R.put dv.dp)⟩
abbrev GMs := Rho → List D → Option Rho
structure SGs (X : Cx) (tgs : List Expr) (t : GMs) (is : List Nat) : Prop where
  pg : PGs X tgs (fun vs s H Q => ∃ z r F ds r', Rep X.K z r s H F ∧ DpAll X.K F vs ds ∧ t r ds = some r' ∧ ∀ s', wipe s' is = wipe s is → Rep X.K z r' s' H F → Q s' H)
theorem pgs_imp {tg : List Expr} {t t' : TGs} (h : PGs X tg t) (k : ∀ v s H Q, t' v s H Q → t v s H Q) : PGs X tg t' := ⟨fun pins s σ H v u Q I r hq => h.run pins s σ H v u Q I r (k _ _ _ _ hq)⟩
def nilG : GMs := fun r ds => match ds with
  | [] => some r
  | _ => none
def consG (t : GM) (u : GMs) : GMs := fun r ds => match ds with
  | d :: ds => (t r d).bind fun r1 => u r1 ds
  | _ => none
theorem sgs_nil {is : List Nat} : SGs X [] nilG is := ⟨pgs_imp pgs_nil fun v s H Q ⟨z, r, F, d, r', R, dv, e, k⟩ => by
  unfold nilG at e
  split at e
  · cases e; cases dv; exact ⟨rfl, k _ rfl R⟩
  · cases e⟩
theorem sgs_cons {t : GM} {u : GMs} {is : List Nat} (h1 : SG X false e t is) (h2 : SGs X es u is)
    (hs : (assignEach (e :: es) X.env).map (·.2) = assign e X.env :: (assignEach es X.env).map (·.2) := by rfl) : SGs X (e :: es) (consG t u) is := ⟨pgs_imp (pgs_cons h1.pg h2.pg hs) fun v s H Q ⟨z, r, F, d, r', R, dv, e, k⟩ => by
  unfold consG at e
  split at e
  · simp only [Option.bind_eq_some_iff] at e
    obtain ⟨r1, e1, e2⟩ := e
    cases dv with
    | cons d1 d2 => exact ⟨_, _, rfl, z, r, F, _, r1, R, .inl d1, e1, fun s' hw R' => ⟨z, r1, F, _, r', R', d2, e2, fun s2 hw2 R2 => k s2 (hw2.trans hw) R2⟩⟩
  · cases e⟩
def tupG (n : Nat) (t : GMs) : GM := fun r d => match d with
  | .tuple ds => if ds.length = n then t r ds else none
  | _ => none
theorem sg_tup {q : Bool} {k : Nat} {t : GMs} {n : Nat} {is : List Nat} (hc : X.calm = true) (h : SGs X es t is) (hn : (assignEach es X.env).length = n := by rfl) (hst : (assignEach es X.env).findIdx? (·.1) = none := by rfl) : SG X q (.Tuple es k pos) (tupG n t) is :=
  ⟨pg_imp (pg_tup hc h.pg hn hst) fun v s H Q ⟨z, r, F, d, r', R, dv, e, k⟩ => by
    unfold tupG at e
    split at e
    · split at e
      · rename_i hl
        rcases dv with dv | ⟨_, a, vs, ds, rfl, eq, plain, h2⟩
        · obtain ⟨_, _, rfl, h1, h2⟩ := dv.inv
          exact ⟨_, _, rfl, R.fh.sqt (sqt_of h1), by rw [dpa_len h2]; exact hl, z, r, F, _, r', R, h2, e, k⟩
        · cases eq
          exact ⟨_, _, rfl, .inl (.inl (R.fh _ _ plain)), by rw [dpa_len h2]; exact hl, z, r, F, _, r', R, h2, e, k⟩
      · cases e
    · cases e⟩
end
end DL
namespace DL
open PySem L2 PyProof.Rows PySem.Spec
/-! ### list comprehensions -/
def wipeR (r : Rho) : List Nat → Rho
  | [] => r
  | v :: vs => (wipeR r vs).set v none
def restR (r2 r1 : Rho) : List Nat → Rho
  | [] => r2
  | v :: vs => (restR r2 r1 vs).set v (r1[v]?.getD none)
def compL (g : GM) (t : TM) (el : EM) (is : List Nat) : List D → Rho → Option (List D × Rho)
  | [], r => some ([], r)
  | x :: xs, r => (g r x).bind fun r1 => (t r1).bind fun p => if p.1 = true then (el p.2).bind fun q => (compL g t el is xs (wipeR q.2 is)).map fun w => (q.1 :: w.1, w.2) else compL g t el is xs (wipeR p.2 is)
def plainAt (r : Rho) (is : List Nat) : Bool := is.all fun i => match r[i]? with
  | some (some sv) => !sv.own
  | _ => true
def compM (is : List Nat) (it : AM) (g : GM) (t : TM) (el : EM) : AM := fun r => (it r).bind fun p => if plainAt p.2 is && szOk p.1.length then (compL g t el is p.1 (wipeR p.2 is)).map fun w => (w.1, restR w.2 p.2 is) else none
theorem wipeR_length (r : Rho) : ∀ is, (wipeR r is).length = r.length
  | [] => rfl
  | v :: vs => by unfold wipeR; rw [List.length_set, wipeR_length r vs]
theorem wipeR_get {r : Rho} {j : Nat} {sv : SV} : ∀ {is : List Nat}, (wipeR r is)[j]? = some (some sv) → r[j]? = some (some sv) ∧ j ∉ is
  | [], h => ⟨h, by simp⟩
  | v :: vs, h => by
    unfold wipeR at h
    rcases get_set_cases h with ⟨_, e⟩ | ⟨ne, e⟩
    · cases e
    · obtain ⟨h1, h2⟩ := wipeR_get e
      exact ⟨h1, by simp [ne, h2]⟩
theorem wipe_get {s : L2.St} {j : Nat} {v : V} : ∀ {is : List Nat}, s[j]? = some (some v) → j ∉ is → (wipe s is)[j]? = some (some v)
  | [], h, _ => h
  | i :: is, h, hn => by
    unfold wipe
    simp only [List.mem_cons, not_or] at hn
    rw [List.getElem?_set_ne (Ne.symm hn.1)]
    exact wipe_get h hn.2
theorem wipe_wipe {s : L2.St} : ∀ {is js : List Nat}, (∀ i ∈ js, i ∈ is) → wipe (wipe s js) is = wipe s is
  | is, [], _ => rfl
  | is, j :: js, h => by
    show wipe ((wipe s js).set j none) is = _
    rw [wipe_set (h j (by simp)), wipe_wipe fun i hi => h i (by simp [hi])]
section
variable {K : PySem.W.Frag} {z : Fx} {r : Rho} {s : L2.St} {H F : Hp}
theorem Rep.weaken {r' : Rho} {s' : L2.St} (R : Rep K z r s H F) (hl : r'.length = s'.length) (h : ∀ (j : Nat) (sv : SV), r'[j]? = some (some sv) → r[j]? = some (some sv) ∧ ∀ v, s[j]? = some (some v) → s'[j]? = some (some v)) : Rep K z r' s' H F := by
  have key : ∀ {j : Nat} {sv : SV} {v : V}, r'[j]? = some (some sv) → s'[j]? = some (some v) → s[j]? = some (some v) := fun {j sv v} e q => by
    obtain ⟨h1, h2⟩ := h j sv e
    obtain ⟨w, hw, _⟩ := R.slots j sv h1
    have := h2 w hw
    rw [q] at this; cases this; exact hw
  refine ⟨R.fh, R.old, R.f0, R.nw, fun i sv e => ?_, R.ap.sub fun j b ⟨x, a, e1, o1, s1, p⟩ => ⟨x, a, (h j x e1).1, o1, key e1 s1, p⟩, hl⟩
  · obtain ⟨h1, h2⟩ := h i sv e
    obtain ⟨v, hv, q⟩ := R.slots i sv h1
    exact ⟨v, h2 v hv, q⟩
theorem Rep.wipe (R : Rep K z r s H F) (is : List Nat) : Rep K z (wipeR r is) (L2.wipe s is) H F :=
  R.weaken (by rw [wipeR_length, wipe_length, R.len]) fun j sv e => by
    obtain ⟨h1, h2⟩ := wipeR_get e
    exact ⟨h1, fun v hv => wipe_get hv h2⟩
/-- a loose list grows -/
theorem Rep.loosePut (R : Rep K z r s H F) {p : Addr} {o : HO} (hf : F p = none) (h0 : z.H0 p = none) (ho : ¬ OwnAt r s H p) : Rep K z r s (upd H p o) F where
  fh := fun b u q => by
    have : b ≠ p := fun e => by rw [e, hf] at q; cases q
    rw [upd_ne this]; exact R.fh b u q
  old := fun b u q => by
    have : b ≠ p := fun e => by rw [e, h0] at q; cases q
    rw [upd_ne this]; exact R.old b u q
  f0 := R.f0
  nw := R.nw
  slots := fun i sv q => by
    obtain ⟨v, h1, h2⟩ := R.slots i sv q
    refine ⟨v, h1, h2.mono (.refl _) (fun a b e hp hown u hu => ?_) fun a b _ _ hf' _ _ _ _ => hf'⟩
    have : b ≠ p := fun z => ho ⟨i, sv, a, q, hown, by rw [h1, e], z ▸ hp⟩
    rw [upd_ne this]; exact hu
  ap := R.ap.sub fun j b h => owns_upd ho h
  len := R.len
/-- what a step over the bare base leaves of a loose object -/
theorem Rep.loose_kept {r' : Rho} {s' : L2.St} {H' F' : Hp} (R : Rep K z r s H F) (R' : Rep K ⟨bare r s H, F, z.rf⟩ r' s' H' F') {p : Addr} {o : HO} (hp : H p = some o) (hf : F p = none) (ho : ¬ OwnAt r s H p) (hnt : ¬ IsTu o) : H' p = some o ∧ F' p = none ∧ ¬ OwnAt r' s' H' p := by
  have hb : bare r s H p = some o := by rw [bare_not ho]; exact hp
  refine ⟨R'.old p o hb, ?_, fun q => ?_⟩
  · cases e : F' p with
    | none => rfl
    | some u =>
      rcases R'.nw p u e with h | h | h
      · have h : F p = some u := h
        rw [hf] at h; cases h
      · have h : bare r s H p = none := h
        rw [hb] at h; cases h
      · have := R'.fh p u e
        rw [R'.old p o hb] at this; cases this
        exact absurd h hnt
  · have h : bare r s H p = none := (R'.own_facts q).2.2
    rw [hb] at h; cases h
theorem restR_length (r2 r1 : Rho) : ∀ is, (restR r2 r1 is).length = r2.length
  | [] => rfl
  | v :: vs => by unfold restR; rw [List.length_set, restR_length r2 r1 vs]
theorem restR_get {r2 r1 : Rho} {j : Nat} {sv : SV} : ∀ {is : List Nat}, (restR r2 r1 is)[j]? = some (some sv) → (j ∈ is ∧ r1[j]? = some (some sv)) ∨ (j ∉ is ∧ r2[j]? = some (some sv))
  | [], h => .inr ⟨by simp, h⟩
  | v :: vs, h => by
    unfold restR at h
    rcases get_set_cases h with ⟨rfl, e⟩ | ⟨ne, e⟩
    · left
      refine ⟨by simp, ?_⟩
      cases q : r1[j]? with
      | none => rw [q] at e; cases e
      | some o => rw [q] at e; simp only [Option.getD_some] at e; rw [← e]
    · rcases restR_get e with ⟨h1, h2⟩ | ⟨h1, h2⟩
      · exact .inl ⟨by simp [h1], h2⟩
      · exact .inr ⟨by simp [ne, h1], h2⟩
/-- behind the comprehension: the def's own slots again -/
theorem Rep.unwipe {r1 r2 : Rho} {H' F' : Hp} {is : List Nat} (R1 : Rep K z r1 s H F) (R2 : Rep K z r2 (L2.wipe s is) H' F') (sb : SubH F F') (hp : plainAt r1 is = true) : Rep K z (restR r2 r1 is) s H' F' := by
  have key : ∀ {j : Nat} {sv : SV}, (restR r2 r1 is)[j]? = some (some sv) → (sv.own = false ∧ r1[j]? = some (some sv)) ∨ (r2[j]? = some (some sv)) := fun {j sv} e => by
    rcases restR_get e with ⟨h1, h2⟩ | ⟨h1, h2⟩
    · left
      have := List.all_eq_true.mp hp j h1
      rw [h2] at this
      exact ⟨by simpa using this, h2⟩
    · exact .inr h2
  have own2 : ∀ {j : Nat} {sv : SV}, (restR r2 r1 is)[j]? = some (some sv) → sv.own = true → r2[j]? = some (some sv) := fun {j sv} e o => by
    rcases key e with ⟨x, _⟩ | h
    · rw [x] at o; cases o
    · exact h
  have sl2 : ∀ {j : Nat} {sv : SV} {v : V}, r2[j]? = some (some sv) → s[j]? = some (some v) → (L2.wipe s is)[j]? = some (some v) := fun {j sv v} e q => by
    obtain ⟨w, hw, _⟩ := R2.slots j sv e
    obtain ⟨h1, _⟩ := wipe_some hw
    rw [q] at h1; cases h1; exact hw
  refine ⟨R2.fh, R2.old, R2.f0, R2.nw, fun j sv e => ?_, R2.ap.sub fun j b ⟨x, a, e1, o1, s1, p⟩ => ⟨x, a, own2 e1 o1, o1, sl2 (own2 e1 o1) s1, p⟩, ?_⟩
  · rcases key e with ⟨x, h⟩ | h
    · obtain ⟨v, h1, h2⟩ := R1.slots j _ h
      exact ⟨v, h1, h2.mono sb (fun _ _ _ _ o => by rw [x] at o; cases o) fun _ _ _ _ _ _ o => by rw [x] at o; cases o⟩
    · obtain ⟨v, h1, h2⟩ := R2.slots j sv h
      exact ⟨v, (wipe_some h1).1, h2⟩
  · rw [restR_length, R2.len, wipe_length]
end
section
variable {X : Cx} {elt tg iter : Expr} {ifs : List Expr} {scope : Scope} {pos : Pos} {it : AM} {g : GM} {t : TM} {el : EM}
structure STs (X : Cx) (ifs : List Expr) (f : TM) : Prop where
  pts : PTs X ifs (liftT X.K f)
def yesM : TM := fun r => some (true, r)
theorem pts_imp {e : List Expr} {t t' : TT} (h : PTs X e t) (k : ∀ s H Q, t' s H Q → t s H Q) : PTs X e t' := ⟨fun pins s σ H Q I hq => h.run pins s σ H Q I (k _ _ _ hq)⟩
theorem sts_nil : STs X [] yesM := ⟨pts_imp pts_nil fun s H Q ⟨z, r, F, d, r', R, e, k⟩ => by cases e; exact k H F R (.refl _)⟩
theorem sts_one {c : Expr} {f : TM} (h : ST X c f) : STs X [c] f := ⟨pts_one h.pt⟩
theorem comp_core {pw : Bool} {own : List (Str × Nat)} {s : L2.St} {H : Hp} {Q : VK} (q : liftL X.K (compM (own.map (·.2)) it g t el) s H Q) :
    tLc (liftI X.K pw it) (liftGw X.K pw g (own.map (·.2))) (liftT X.K t) (liftE X.K el) (own.map (·.2)) s H Q := by
  generalize own.map (·.2) = is at q ⊢
  obtain ⟨z, r, F, d, r', R, e, k⟩ := q
  unfold compM at e
  simp only [Option.bind_eq_some_iff] at e
  obtain ⟨⟨ds, r1⟩, e1, e2⟩ := e
  split at e2
  · rename_i hok
    obtain ⟨hp, hz⟩ := Bool.and_eq_true_iff.mp hok
    have hz : ds.length ≤ 1000000 := of_decide_eq_true hz
    simp only [Option.map_eq_some_iff] at e2
    obtain ⟨⟨out, r2⟩, e3, e4⟩ := e2
    cases e4
    refine ⟨z, r, F, ds, r1, R, e1, fun J H1 F1 R1 sb1 w D hD => ?_⟩
    obtain ⟨Y, W, hY⟩ := w.w
    refine lc_it (g := liftGw X.K pw g is) (tt := liftT X.K t) (te := liftE X.K el) (vs := is) (σ := s) (H1 := H1) (D := D) (Qd := fun H => Q (.ref D) H) W (fun i H => ∃ r F done rest vs, Rep X.K z r (wipe s is) H F ∧ SubH F1 F ∧ compL g t el is (ds.drop i) r = some (rest, r2) ∧ done ++ rest = out ∧ H D = some (.lst vs) ∧ F D = none ∧ z.H0 D = none ∧ ¬ OwnAt r (wipe s is) H D ∧ DpAll X.K F vs done ∧ vs.length ≤ i)
      ?_ (fun i H _ ⟨r, F, done, rest, vs, Rr, sb, _⟩ => sb.trans Rr.fh) ?_ ?_
    · obtain ⟨Rl, h1, h2, h3, h4⟩ := (R1.wipe is).loose (vs := []) hD
      exact ⟨wipeR r1 is, F1, [], out, [], Rl, .refl _, by simpa using e3, rfl, h1, h2, h3, h4, .nil, Nat.le_refl _⟩
    · rintro i x H2 H3 hi ⟨ra, Fa, done, rest, vs, Ra, sba, ec, ed, hDa, hFa, hza, hoa, hda, hla⟩ y
      obtain ⟨Fb, dx, ei, G, dvx⟩ := hY i H2 x H3 y Fa sba Ra.fh
      have Rb := Ra.grow G
      have hDb : H3 D = some (.lst vs) := G.hh _ _ hDa
      have hFb : Fb D = none := by
        cases q : Fb D with
        | none => rfl
        | some u =>
          rcases G.nw D u q with h | h | ⟨ob, ws, rfl⟩
          · rw [hFa] at h; cases h
          · rw [hDa] at h; cases h
          · have q2 := G.fh D _ q
            rw [hDb] at q2; exact (tupHO_lst q2).elim
      have hdrop : ds.drop i = dx :: ds.drop (i + 1) := by
        have hlt : i < ds.length := (List.getElem?_eq_some_iff.mp ei).1
        rw [List.drop_eq_getElem_cons hlt]
        congr 1
        exact (List.getElem?_eq_some_iff.mp ei).2
      rw [hdrop] at ec
      simp only [compL, Option.bind_eq_some_iff] at ec
      obtain ⟨rg, eg, ⟨bt, rt⟩, et, ec⟩ := ec
      refine ⟨_, ra, Fb, dx, rg, Rb.base, dvx, eg, fun s2 hw2 R2 => ?_⟩
      have hww : wipe s2 is = wipe s is := hw2.trans (wipe_wipe fun _ h => h)
      refine ⟨hww, ?_⟩
      refine ⟨_, rg, Fb, bt, rt, R2, et, fun H4 F4 R4 sb4 => ?_⟩
      cases bt with
      | false =>
        simp only [Bool.false_eq_true, if_false] at ec ⊢
        obtain ⟨k1, k2, k3⟩ := Rb.loose_kept R4 hDb hFb (fun q => hoa (Ra.ownAtH G.hh q)) not_tu
        have R5 := (Rb.back R4).wipe is
        rw [hww] at R5
        refine ⟨_, F4, done, rest, vs, R5, (sba.trans G.ff).trans sb4, ec, ed, k1, k2, hza, ?_, dpa_mono (G.ff.trans sb4) hda, by omega⟩
        rintro ⟨j, sv, a, q1, q2, q3, qp⟩
        obtain ⟨q4, q5⟩ := wipeR_get q1
        obtain ⟨v, hv, _⟩ := R4.slots j sv q4
        have := wipe_get hv q5
        rw [hww] at this
        rw [q3] at this; cases this
        exact k3 ⟨j, sv, a, q4, q2, hv, qp⟩
      | true =>
        simp only [if_true, Option.bind_eq_some_iff, Option.map_eq_some_iff] at ec ⊢
        obtain ⟨⟨y1, ry⟩, ey, ⟨ws, rw'⟩, ecl, ee⟩ := ec
        cases ee
        refine ⟨_, rt, F4, y1, ry, R4, ey, fun v5 H5 F5 R5 sb5 dv5 => ?_⟩
        obtain ⟨k1, k2, k3⟩ := Rb.loose_kept R5 hDb hFb (fun q => hoa (Ra.ownAtH G.hh q)) not_tu
        have R6 := (Rb.back R5).wipe is
        rw [hww] at R6
        have k4 : ¬ OwnAt (wipeR ry is) (wipe s is) H5 D := by
          rintro ⟨j, sv, a, q1, q2, q3, qp⟩
          obtain ⟨q4, q5⟩ := wipeR_get q1
          obtain ⟨v, hv, _⟩ := R5.slots j sv q4
          have := wipe_get hv q5
          rw [hww] at this
          rw [q3] at this; cases this
          exact k3 ⟨j, sv, a, q4, q2, hv, qp⟩
        refine ⟨vs, k1, Nat.lt_of_le_of_lt (Nat.le_trans hla (Nat.le_trans (Nat.le_of_lt hi) hz)) (by decide), ?_⟩
        exact ⟨_, F5, done ++ [y1], ws, vs ++ [v5], R6.loosePut k2 hza k4, ((sba.trans G.ff).trans sb4).trans sb5, ecl, by rw [← ed]; simp, upd_same, k2, hza, fun q => k4 (ownAt_upd k4 q), dpa_app (dpa_mono ((G.ff.trans sb4).trans sb5) hda) (dpa_one dv5), by rw [List.length_append]; simp; omega⟩
    · rintro H2 ⟨ra, Fa, done, rest, vs, Ra, sba, ec, ed, hDa, hFa, hza, hoa, hda, hla⟩
      rw [List.drop_length] at ec
      cases ec
      have R9 := R1.unwipe Ra sba hp
      rw [List.append_nil] at ed
      subst ed
      refine k D vs H2 Fa R9 (sb1.trans sba) hDa hFa hza ?_ hda
      rintro ⟨j, sv, a, q1, q2, q3, qp⟩
      rcases restR_get q1 with ⟨h1, h2⟩ | ⟨h1, h2⟩
      · have := List.all_eq_true.mp hp j h1
        rw [h2] at this
        simp only [q2] at this
        cases this
      · exact hoa ⟨j, sv, a, h2, q2, wipe_get q3 h1, qp⟩
  · cases e2
theorem sl_comp {pw : Bool} {own : List (Str × Nat)} (hc : X.calm = true) (hN : X.N.Nodup) (hi : SI X pw tg iter it) (ok : BlkOk X.N X.env.scope scope own)
    (hg : ∀ (s : Shared) (H : Hp) (C : Addr) (cl : List (Str × Addr)) (fp : List Addr), SG (X.blk s H scope (compEnvC scope cl C X.env) fp) pw tg g (own.map (·.2))) (ht : ∀ (s : Shared) (H : Hp) (C : Addr) (cl : List (Str × Addr)) (fp : List Addr), STs (X.blk s H scope (compEnvC scope cl C X.env) fp) ifs t)
    (he : ∀ (s : Shared) (H : Hp) (C : Addr) (cl : List (Str × Addr)) (fp : List Addr), SE (X.blk s H scope (compEnvC scope cl C X.env) fp) elt el) (hs : ∀ x, foldedSetIterable iter X.env x = pure x := by intro _; rfl) :
    SL X (.ListComp elt [⟨tg, iter, ifs, 0⟩] scope pos) (compM (own.map (·.2)) it g t el) :=
  ⟨pe_imp (pe_lc (own := own) hc hN hi.pi ok (fun s H C cl fp => (hg s H C cl fp).pg) (fun s H C cl fp => (ht s H C cl fp).pts) (fun s H C cl fp => (he s H C cl fp).pe) hs) fun s H Q q => comp_core q⟩
end
end DL
namespace DL
open PySem L2 PyProof.Rows PySem.Spec
/-! ### statements -/
inductive Out where
  | nx (r : Rho)
  | rt (d : D) (r : Rho)
  | bk (r : Rho)
  | ct (r : Rho)
  | ex (c : String) (r : Rho)
abbrev SM := Rho → Option Out
def outOk (K : PySem.W.Frag) (z : Fx) (F : Hp) (W : String → Hp → Prop) (D : Ends) : Out → Prop
  | .nx r' => ∀ s' H' F', Rep K z r' s' H' F' → SubH F F' → D.nx s' H'
  | .rt d r' => ∀ v s' H' F', Rep K z r' s' H' F' → SubH F F' → Dp K F' v d → D.rt v H'
  | .bk r' => ∀ s' H' F', Rep K z r' s' H' F' → SubH F F' → D.bk s' H'
  | .ct r' => ∀ s' H' F', Rep K z r' s' H' F' → SubH F F' → D.ct s' H'
  | .ex c r' => ∀ s' H' F', Rep K z r' s' H' F' → SubH F F' → W c H'
theorem outOk.mono {K : PySem.W.Frag} {z : Fx} {F F' : Hp} {W : String → Hp → Prop} {D : Ends} {o : Out} (h : outOk K z F W D o) (e : SubH F F') : outOk K z F' W D o := by
  cases o with
  | nx r => exact fun s' H' F2 R sb => h s' H' F2 R (e.trans sb)
  | rt d r => exact fun v s' H' F2 R sb => h v s' H' F2 R (e.trans sb)
  | bk r => exact fun s' H' F2 R sb => h s' H' F2 R (e.trans sb)
  | ct r => exact fun s' H' F2 R sb => h s' H' F2 R (e.trans sb)
  | ex c r => exact fun s' H' F2 R sb => h s' H' F2 R (e.trans sb)
def liftS (K : PySem.W.Frag) (W : String → Hp → Prop) (f : SM) : TS := fun D s H => ∃ z r F o, Rep K z r s H F ∧ f r = some o ∧ outOk K z F W D o
structure SS (X : Cx) (W : String → Hp → Prop) (st : Stmt) (f : SM) : Prop where
  ps : PS X st (liftS X.K W f)
structure SSs (X : Cx) (W : String → Hp → Prop) (st : List Stmt) (f : SM) : Prop where
  ps : PSs X st (liftS X.K W f)
section
variable {X : Cx} {W : String → Hp → Prop} {a b c e tg : Expr} {st : Stmt} {sts : List Stmt} {f g : SM} {pos : Pos}
theorem ps_imp {st : Stmt} {t t' : TS} (h : PS X st t) (k : ∀ D s H, t' D s H → t D s H) : PS X st t' := ⟨fun pins s σ H D I hq => h.run pins s σ H D I (k _ _ _ hq)⟩
theorem pss_imp {st : List Stmt} {t t' : TS} (h : PSs X st t) (k : ∀ D s H, t' D s H → t D s H) : PSs X st t' := ⟨fun pins s σ H D I hq => h.run pins s σ H D I (k _ _ _ hq)⟩
def skipM : SM := fun r => some (.nx r)
def seqS (f g : SM) : SM := fun r => (f r).bind fun o => match o with
  | .nx r1 => g r1
  | o => some o
theorem sss_nil : SSs X W [] skipM := ⟨pss_imp pss_nil fun D s H ⟨z, r, F, o, R, e, k⟩ => by cases e; exact k s H F R (.refl _)⟩
theorem sss_cons (h1 : SS X W st f) (h2 : SSs X W sts g) : SSs X W (st :: sts) (seqS f g) := ⟨pss_imp (pss_cons h1.ps h2.ps) fun D s H ⟨z, r, F, o, R, e, k⟩ => by
  unfold seqS at e
  simp only [Option.bind_eq_some_iff] at e
  obtain ⟨o1, e1, e2⟩ := e
  refine ⟨z, r, F, o1, R, e1, ?_⟩
  cases o1 with
  | nx r1 => exact fun s' H' F' R' sb => ⟨z, r1, F', o, R', e2, k.mono sb⟩
  | rt d r1 => cases e2; exact k
  | bk r1 => cases e2; exact k
  | ct r1 => cases e2; exact k
  | ex c r1 => cases e2; exact k⟩
theorem sss_one (h1 : SS X W st f) : SSs X W [st] f := ⟨pss_one h1.ps⟩
def asgM (i : Nat) (f : EM) : SM := fun r => (f r).map fun p => .nx (p.2.set i (some (.d p.1)))
theorem ss_asg (i : Nat) {x : Str} {pos' : Pos} {f : EM} (hN : X.N.Nodup) (he : SE X e f) (hi : X.N[i]? = some x := by rfl) (hx : Loc X.env.scope x := by first | exact Or.inl rfl | exact Or.inr rfl) (hs : swapsWith e (some (.Name x pos')) pos.line X.env = pure false := by rfl) (hf : X.fn x = true ∨ X.env.scope.names.lookup x = some .local := by first | exact .inl rfl | exact .inr rfl | assumption) :
    SS X W (.Assign [.Name x pos'] e pos) (asgM i f) := ⟨ps_imp (ps_set hN hi hx he.pe hs hf) fun D s H ⟨z, r, F, o, R, e, k⟩ => by
  unfold asgM at e
  simp only [Option.map_eq_some_iff] at e
  obtain ⟨⟨d, r1⟩, e1, e2⟩ := e
  cases e2
  exact ⟨z, r, F, d, r1, R, e1, fun v H' F' R' sb dv => k _ H' F' (R'.put dv) sb⟩⟩
/-- targets of any form -/
def asgG (g : GM) (f : EM) : SM := fun r => (f r).bind fun p => (g p.2 p.1).map .nx
theorem ss_asgG {is : List Nat} {g : GM} {f : EM} (he : SE X e f) (hg : SG X false tg g is) (hs : swapsWithSole [tg] e pos.line X.env = pure false := by rfl) (hw : swappedStores [tg] e X.env = pure none := by rfl)
    (h1 : (assignEach [tg] X.env).map (·.2) = [assign tg X.env] := by rfl) : SS X W (.Assign [tg] e pos) (asgG g f) := ⟨ps_imp (ps_asg he.pe hg.pg hs hw h1) fun D s H ⟨z, r, F, o, R, e, k⟩ => by
  unfold asgG at e
  simp only [Option.bind_eq_some_iff, Option.map_eq_some_iff] at e
  obtain ⟨⟨d, r1⟩, e1, r2, e2, e3⟩ := e
  cases e3
  exact ⟨z, r, F, d, r1, R, e1, fun v H' F' R' sb dv => ⟨z, r1, F', d, r2, R', .inl dv, e2, fun s' _ R2 => k s' H' F' R2 sb⟩⟩⟩
/-- an own list -/
theorem Rep.putOwn {K : PySem.W.Frag} {z : Fx} {r : Rho} {s : L2.St} {H F : Hp} (R : Rep K z r s H F) {i : Nat} {p : Addr} {vs : List V} {xs : List D} (hp : H p = some (.lst vs)) (hf : F p = none) (h0 : z.H0 p = none) (ho : ¬ OwnAt r s H p) (hd : DpAll K F vs xs) :
    Rep K z (r.set i (some (.l false xs))) (s.set i (some (.ref p))) H F where
  fh := R.fh
  old := R.old
  f0 := R.f0
  nw := R.nw
  slots := fun j sv e => by
    have hj : j < r.length := by
      have q : j < (r.set i (some (SV.l false xs))).length := (List.getElem?_eq_some_iff.mp e).1
      simpa using q
    rcases get_set_cases e with ⟨rfl, e2⟩ | ⟨ne, e⟩
    · cases e2
      exact ⟨_, by rw [List.getElem?_set_self (by rw [← R.len]; exact hj)], p, vs, rfl, hp, hf, h0, hd, fun q => nomatch q⟩
    · obtain ⟨w, h1, h2⟩ := R.slots j sv e
      exact ⟨w, by rw [List.getElem?_set_ne (Ne.symm ne)]; exact h1, h2⟩
  ap := R.ap.new (i := i) (P := fun b => b = p) (fun b e => e ▸ ho) fun j b h => by
    rcases owns_set h with ⟨e, _, a, ea, q⟩ | ⟨n, h⟩
    · cases ea; exact .inl ⟨e, part_lst hp q⟩
    · exact .inr ⟨n, h⟩
  len := by simpa using R.len
def newM (i : Nat) (f : AM) : SM := fun r => (f r).map fun p => .nx (p.2.set i (some (.l false p.1)))
theorem new_core {i : Nat} {f : AM} {D : Ends} {s : L2.St} {H : Hp} (q : liftS X.K W (newM i f) D s H) : tAsg (liftL X.K f) (gName i) D s H := by
  obtain ⟨z, r, F, o, R, e, k⟩ := q
  unfold newM at e
  simp only [Option.map_eq_some_iff] at e
  obtain ⟨⟨d, r1⟩, e1, e2⟩ := e
  cases e2
  exact ⟨z, r, F, d, r1, R, e1, fun a vs H' F' R' sb h1 h2 h3 h4 h5 => k _ H' F' (R'.putOwn h1 h2 h3 h4 h5) sb⟩
theorem ss_new (i : Nat) {x : Str} {pos' : Pos} {f : AM} (hN : X.N.Nodup) (he : SL X e f) (hi : X.N[i]? = some x := by rfl) (hx : Loc X.env.scope x := by first | exact Or.inl rfl | exact Or.inr rfl) (hs : swapsWith e (some (.Name x pos')) pos.line X.env = pure false := by rfl) (hf : X.fn x = true ∨ X.env.scope.names.lookup x = some .local := by first | exact .inl rfl | exact .inr rfl | assumption) :
    SS X W (.Assign [.Name x pos'] e pos) (newM i f) := ⟨ps_imp (ps_set hN hi hx he.pe hs hf) fun D s H q => new_core q⟩
def asgLM (i : Nat) (f : AM) : SM := fun r => (f r).map fun p => .nx (p.2.set i (some (.d (.list p.1))))
theorem asgL_core {i : Nat} {f : AM} {D : Ends} {s : L2.St} {H : Hp} (q : liftS X.K W (asgLM i f) D s H) : tAsg (liftL X.K f) (gName i) D s H := by
  obtain ⟨z, r, F, o, R, e, k⟩ := q
  unfold asgLM at e
  simp only [Option.map_eq_some_iff] at e
  obtain ⟨⟨d, r1⟩, e1, e2⟩ := e
  cases e2
  refine ⟨z, r, F, d, r1, R, e1, fun a vs H' F' R' sb h1 h2 h3 h4 h5 => ?_⟩
  have G := R'.freeze1 h1 h2 h3 h4
  exact k _ H' _ (G.put (.lst (.inl (.inl upd_same)) (dpa_mono (.new h2) h5))) (sb.trans (.new h2))
section
variable {elt iter : Expr} {ifs : List Expr} {scope : Scope} {it : AM} {gg : GM} {t : TM} {el : EM}
/-- name = [.. for ..] -/
theorem ss_compD {pw : Bool} (i : Nat) {y : Str} {py spos : Pos} {own : List (Str × Nat)} (hc : X.calm = true) (hN : X.N.Nodup) (hi : SI X pw tg iter it) (ok : BlkOk X.N X.env.scope scope own)
    (hg : ∀ (s : Shared) (H : Hp) (C : Addr) (cl : List (Str × Addr)) (fp : List Addr), SG (X.blk s H scope (compEnvC scope cl C X.env) fp) pw tg gg (own.map (·.2))) (ht : ∀ (s : Shared) (H : Hp) (C : Addr) (cl : List (Str × Addr)) (fp : List Addr), STs (X.blk s H scope (compEnvC scope cl C X.env) fp) ifs t)
    (he : ∀ (s : Shared) (H : Hp) (C : Addr) (cl : List (Str × Addr)) (fp : List Addr), SE (X.blk s H scope (compEnvC scope cl C X.env) fp) elt el)
    (hsw : swapsWith (.ListComp elt [⟨tg, iter, ifs, 0⟩] scope pos) (some (.Name y py)) spos.line X.env = pure true) (hy : X.N[i]? = some y := by rfl) (hyl : X.env.scope.names.lookup y = some .local := by rfl) (hs : ∀ x, foldedSetIterable iter X.env x = pure x := by intro _; rfl) :
    SS X W (.Assign [.Name y py] (.ListComp elt [⟨tg, iter, ifs, 0⟩] scope pos) spos) (asgLM i (compM (own.map (·.2)) it gg t el)) :=
  ⟨ps_imp (ps_setLc (own := own) hc hN hy hyl hsw hi.pi ok (fun s H C cl fp => (hg s H C cl fp).pg) (fun s H C cl fp => (ht s H C cl fp).pts) (fun s H C cl fp => (he s H C cl fp).pe) hs) fun D s H q => by
    have q2 : tAsg (liftL X.K (compM (own.map (·.2)) it gg t el)) (gName i) D s H := asgL_core q
    exact comp_core q2⟩
end
def retM (f : EM) : SM := fun r => (f r).map fun p => .rt p.1 p.2
theorem ss_ret {f : EM} (he : SE X e f) : SS X W (.Return (some e) pos) (retM f) := ⟨ps_imp (ps_ret he.pe) fun D s H ⟨z, r, F, o, R, e, k⟩ => by
  unfold retM at e
  simp only [Option.map_eq_some_iff] at e
  obtain ⟨⟨d, r1⟩, e1, e2⟩ := e
  cases e2
  exact ⟨z, r, F, d, r1, R, e1, fun v H' F' R' sb dv => k v s H' F' R' sb dv⟩⟩
def exprM (f : EM) : SM := fun r => (f r).map fun p => .nx p.2
theorem ss_expr {f : EM} (he : SE X e f) (hs : swapsWith e none pos.line X.env = pure false := by rfl) : SS X W (.Expr e pos) (exprM f) := ⟨ps_imp (ps_expr he.pe hs) fun D s H ⟨z, r, F, o, R, e, k⟩ => by
  unfold exprM at e
  simp only [Option.map_eq_some_iff] at e
  obtain ⟨⟨d, r1⟩, e1, e2⟩ := e
  cases e2
  exact ⟨z, r, F, d, r1, R, e1, fun v H' F' R' sb dv => k s H' F' R' sb⟩⟩
def ifM (t : TM) (f g : SM) : SM := fun r => (t r).bind fun p => if p.1 = true then f p.2 else g p.2
theorem ss_if {as bs : List Stmt} {t : TM} (hc : ST X c t) (ha : SSs X W as f) (hb : SSs X W bs g) : SS X W (.If c as bs pos) (ifM t f g) := ⟨ps_imp (ps_if hc.pt ha.ps hb.ps) fun D s H ⟨z, r, F, o, R, e, k⟩ => by
  unfold ifM at e
  simp only [Option.bind_eq_some_iff] at e
  obtain ⟨⟨d, r1⟩, e1, e2⟩ := e
  refine ⟨z, r, F, d, r1, R, e1, fun H' F' R' sb => ?_⟩
  cases d with
  | true => exact ⟨z, r1, F', o, R', e2, k.mono sb⟩
  | false => exact ⟨z, r1, F', o, R', e2, k.mono sb⟩⟩
/-! ### loops -/
def forL (g : GM) (f : SM) : List D → Rho → Option Out
  | [], r => some (.nx r)
  | x :: xs, r => (g r x).bind fun r1 => (f r1).bind fun o => match o with
    | .nx r2 => forL g f xs r2
    | .ct r2 => forL g f xs r2
    | .bk r2 => some (.nx r2)
    | o => some o
def forM (it : AM) (g : GM) (f : SM) : SM := fun r => (it r).bind fun p => forL g f p.1 p.2
theorem ss_for {pw : Bool} {iter : Expr} {body : List Stmt} {it : AM} {g : GM} {is : List Nat} (hp : PassesOwn (model X.prog X.w) X.A X.env X.xe) (hc : X.calm = true) (hi : SI X pw tg iter it) (hg : SG X pw tg g is) (hb : SSs X W body f)
    (hs : ∀ x, foldedSetIterable iter X.env x = pure x := by intro _; rfl) : SS X W (.For tg iter body [] pos) (forM it g f) := ⟨ps_imp (ps_for hp hc hi.pi hg.pg hb.ps hs) fun D s H ⟨z, r, F, o, R, e, k⟩ => by
  unfold forM at e
  simp only [Option.bind_eq_some_iff] at e
  obtain ⟨⟨ds, r1⟩, e1, e2⟩ := e
  refine ⟨z, r, F, ds, r1, R, e1, fun J H1 F1 R1 sb1 w => ?_⟩
  obtain ⟨Y, Wk, hY⟩ := w.w
  refine for_it Wk (fun i s H => ∃ r F, Rep X.K z r s H F ∧ SubH F1 F ∧ forL g f (ds.drop i) r = some o) ⟨r1, F1, R1, .refl _, by simpa using e2⟩ (fun i s H _ ⟨r, F, Rr, sb, _⟩ => sb.trans Rr.fh) ?_ ?_
  · rintro i x s2 H2 H3 hi ⟨ra, Fa, Ra, sba, ec⟩ y
    obtain ⟨Fb, dx, ei, G, dvx⟩ := hY i H2 x H3 y Fa sba Ra.fh
    have Rb := Ra.grow G
    have hdrop : ds.drop i = dx :: ds.drop (i + 1) := by
      have hlt : i < ds.length := (List.getElem?_eq_some_iff.mp ei).1
      rw [List.drop_eq_getElem_cons hlt]
      congr 1
      exact (List.getElem?_eq_some_iff.mp ei).2
    rw [hdrop] at ec
    simp only [forL, Option.bind_eq_some_iff] at ec
    obtain ⟨rg, eg, ob, eb, ec⟩ := ec
    refine ⟨z, ra, Fb, dx, rg, Rb, dvx, eg, fun s3 _ R3 => ⟨z, rg, Fb, ob, R3, eb, ?_⟩⟩
    have sbb : SubH F1 Fb := sba.trans G.ff
    cases ob with
    | nx r4 => exact fun s4 H4 F4 R4 sb4 => ⟨r4, F4, R4, sbb.trans sb4, ec⟩
    | ct r4 => exact fun s4 H4 F4 R4 sb4 => ⟨r4, F4, R4, sbb.trans sb4, ec⟩
    | bk r4 => cases ec; exact fun s4 H4 F4 R4 sb4 => k s4 H4 F4 R4 ((sb1.trans sbb).trans sb4)
    | rt d r4 => cases ec; exact fun v s4 H4 F4 R4 sb4 dv => k v s4 H4 F4 R4 ((sb1.trans sbb).trans sb4) dv
    | ex c r4 => cases ec; exact fun s4 H4 F4 R4 sb4 => k s4 H4 F4 R4 ((sb1.trans sbb).trans sb4)
  · rintro s2 H2 ⟨ra, Fa, Ra, sba, ec⟩
    rw [List.drop_length] at ec
    cases ec
    exact k s2 H2 Fa Ra (sb1.trans sba)⟩
/-! ### an own list is frozen -/
def frzR (i : Nat) (r : Rho) : Option Rho := match r[i]? with
  | some (some (.l _ xs)) => some (r.set i (some (.d (.list xs))))
  | _ => none
theorem Rep.frz {K : PySem.W.Frag} {z : Fx} {r r' : Rho} {s : L2.St} {H F : Hp} {i : Nat} (R : Rep K z r s H F) (e : frzR i r = some r') : ∃ F', Rep K z r' s H F' ∧ SubH F F' := by
  unfold frzR at e
  split at e
  · rename_i xs hi
    cases e
    obtain ⟨v, h1, p, vs, rfl, h2, h3, h4, h5, h6⟩ := R.slots i _ hi
    have hil : i < r.length := (List.getElem?_eq_some_iff.mp hi).1
    refine ⟨upd F p (.lst vs), ⟨fun b u q => ?_, R.old, R.f0.trans (.new h3), fun b u q => ?_, fun j sv q => ?_, R.ap.sub fun j b h => by
      rcases owns_setR h with ⟨_, o, _⟩ | ⟨_, h⟩
      · cases o
      · exact h, by simpa using R.len⟩, .new h3⟩
    · by_cases e : b = p
      · subst e; rw [upd_same] at q; rw [h2]; exact q
      · rw [upd_ne e] at q; exact R.fh b u q
    · by_cases e : b = p
      · subst e; exact .inr (.inl h4)
      · rw [upd_ne e] at q; exact R.nw b u q
    · rcases get_set_cases q with ⟨rfl, e⟩ | ⟨ne, q⟩
      · cases e
        exact ⟨_, h1, .lst (.inl (.inl upd_same)) (dpa_mono (.new h3) h5)⟩
      · obtain ⟨v, q1, q2⟩ := R.slots j sv q
        refine ⟨v, q1, q2.mono (.new h3) (fun _ _ _ _ _ _ h => h) fun a b o ho' hf' _ hown e hp => ?_⟩
        rw [upd_ne (R.other ne hi rfl h1 q hown (by rw [q1, e]) hp)]; exact hf'
  · cases e
end
end DL
namespace DL
open PySem L2 PyProof.Rows PySem.Spec
section
variable {K : PySem.W.Frag} {z : Fx} {r : Rho} {s : L2.St} {H F : Hp}
/-- an own list takes another content -/
theorem Rep.setOwn (R : Rep K z r s H F) {i : Nat} {p : Addr} {bb : Bool} {xs xs' : List D} {vs' : List V} (hi : r[i]? = some (some (.l bb xs))) (hs : s[i]? = some (some (.ref p))) (hd : DpAll K F vs' xs') : Rep K z (r.set i (some (.l bb xs'))) s (upd H p (.lst vs')) F := by
  have hrf : bb = true → z.rf i = some p := by
    obtain ⟨v, h1, p', vs, e, _, _, _, _, h6⟩ := R.slots i _ hi
    subst e
    rw [hs] at h1; cases h1; exact h6
  have own : OwnAt r s H p := ⟨i, _, _, hi, rfl, hs, part_self⟩
  obtain ⟨_, hf, h0⟩ := R.own_facts own
  have hil : i < r.length := (List.getElem?_eq_some_iff.mp hi).1
  refine ⟨fun b u q => ?_, fun b u q => ?_, R.f0, R.nw, fun j sv q => ?_, R.ap_upd hi rfl hs fun b q => .inl (part_lst upd_same q), by simpa using R.len⟩
  · have : b ≠ p := fun e => by rw [e, hf] at q; cases q
    rw [upd_ne this]; exact R.fh b u q
  · have : b ≠ p := fun e => by rw [e, h0] at q; cases q
    rw [upd_ne this]; exact R.old b u q
  · rcases get_set_cases q with ⟨rfl, e⟩ | ⟨ne, q⟩
    · cases e
      exact ⟨_, hs, p, vs', rfl, upd_same, hf, h0, hd, hrf⟩
    · obtain ⟨v, q1, q2⟩ := R.slots j sv q
      refine ⟨v, q1, q2.mono (.refl _) (fun a b e hp hown u hu => ?_) fun a b _ _ hf' _ _ _ _ => hf'⟩
      rw [upd_ne (R.other ne hi rfl hs q hown (by rw [q1, e]) hp)]; exact hu
end
section
variable {X : Cx} {a b c e : Expr} {f g : EM} {pos : Pos}
/-! ### own lists changed -/
def appM (i : Nat) (f : EM) : EM := fun r => (ownM i r).bind fun _ => (f r).bind fun p => match p.2[i]? with
  | some (some (.l b xs)) => if szOk xs.length then some (.none, p.2.set i (some (.l b (xs ++ [p.1])))) else none
  | _ => none
theorem se_app (i : Nat) {x : Str} {p apos cpos : Pos} (he : SE X e f) (hN : X.N[i]? = some x := by rfl) (hv : Vis X.env.scope x := by first | exact Or.inl rfl | exact Or.inr (Or.inl rfl) | exact Or.inr (Or.inr rfl)) (hd : (x == ("__debug__" : Str)) = false := by decide)
    (hcd : (x == ("__classdict__" : Str)) = false := by decide) (hb : attributeBase (.Name x p) "append" X.env (eval (.Name x p) X.env) = eval (.Name x p) X.env := by rfl)
    (hk : (((backTo cpos (starEach [e] X.env)).all (fun y => !y.1) && (backToKw cpos (keywordEach [] X.env)).all (fun y => y.1.isSome)) && decide (([e].length + ([] : List Keyword).length + if ([] : List Keyword).isEmpty then 0 else 1) < 30)) = true := by rfl)
    (hl : (apos.endLine == cpos.line) = true := by rfl) (hs : starEach [e] X.env = (false, eval e X.env) :: starEach [] X.env := by rfl) (hpl : (backTo cpos (starEach [] X.env)).any (·.1) = false := by rfl) :
    SE X (.Call (.Attribute (.Name x p) "append" apos) [e] [] cpos) (appM i f) :=
  ⟨pe_imp (pe_bm PySem.F.plainAttrs_list PySem.F.slot_list_append PySem.F.type_list_append mt_append (pe_var hN hv hd hcd) (pa_cons he.pe pa_nil hs) hb hk hl hs hpl) fun s H Q ⟨z, r, F, d, r', R, e, k⟩ => by
    unfold appM at e
    simp only [Option.bind_eq_some_iff] at e
    obtain ⟨⟨p0, r0⟩, e0, ⟨y, r1⟩, e1, e2⟩ := e
    obtain ⟨b0, xs0, f1, _, _⟩ := ownM_some e0
    obtain ⟨v, h1, p, vs, rfl, h2, h3, h4, h5, h6⟩ := R.slots i _ f1
    split at e2
    · rename_i bb xs hxs
      have hxs : r1[i]? = some (some (.l bb xs)) := hxs
      split at e2
      · rename_i hz
        cases e2
        refine ⟨_, h1, .inl ⟨rfl, _, .inl (.inl h2)⟩, z, r, F, y, r1, R, e1, fun w H2 F2 R2 sb2 dy => ?_⟩
        obtain ⟨v', h1', p', vs', rfl, h2', h3', h4', h5', h6'⟩ := R2.slots i _ hxs
        have ea : p' = p := by have := h1.symm.trans h1'; cases this; rfl
        subst ea
        exact ⟨p', vs', w, rfl, rfl, h2', by rw [dpa_len h5']; exact szOk_lt hz, k _ _ _ (R2.setOwn hxs h1' (dpa_app h5' (dpa_one dy))) sb2 .non⟩
      · cases e2
    · cases e2⟩
end
end DL
namespace DL
open PySem L2 PyProof.Rows PySem.Spec
/-! ### defs: a def is a function of data -/
def spF (K : PySem.W.Frag) (n : Nat) (g : List D → Option D) : Sp := fun vs H Q _ => vs.length = n ∧ ∃ F ds d, SubH F H ∧ DpAll K F vs ds ∧ g ds = some d ∧ ∀ v H' F', Grow F H F' H' → Dp K F' v d → Q v H'
/-- one parameter (the j-th) is an own list of the caller's: it may be changed -/
def spR (K : PySem.W.Frag) (n j : Nat) (g : List D → List D → Option (D × List D)) : Sp := fun vs H Q _ => vs.length = n ∧ ∃ F ds a us xs d xs', SubH F H ∧ vs[j]? = some (.ref a) ∧ DpAll K F (vs.eraseIdx j) ds ∧ H a = some (.lst us) ∧ F a = none ∧ DpAll K F us xs ∧ g ds xs = some (d, xs') ∧
  ∀ v H' F' us', (∀ b o, b ≠ a → H b = some o → H' b = some o) → SubH F F' → SubH F' H' → (∀ b o, F' b = some o → F b = some o ∨ H b = none ∨ IsTu o) → H' a = some (.lst us') → DpAll K F' us' xs' → Dp K F' v d → Q v H'
def startD (N : List Str) (ds : List D) : Rho := ds.map (fun d => some (.d d)) ++ List.replicate (N.length - ds.length) none
/-- the slots at the entry, the j-th parameter an own list -/
def startR (N : List Str) (j : Nat) (ds : List D) (xs : List D) : Rho := (ds.take j).map (fun d => some (.d d)) ++ some (.l true xs) :: ((ds.drop j).map (fun d => some (.d d)) ++ List.replicate (N.length - (ds.length + 1)) none)
/-- a def's parameters are among its names -/
theorem names_fit {N ps : List Str} {sc : Scope} (S : FnScope N ps sc) : ps.length ≤ N.length :=
  S.pre ▸ List.length_take_le' ..
section
variable {P : Program} {w : World} {K : PySem.W.Frag} {mg : Str → Option Value} {base : Heap}
theorem startD_get {N : List Str} {ds : List D} {i : Nat} {sv : SV} (h : (startD N ds)[i]? = some (some sv)) : ∃ d, ds[i]? = some d ∧ sv = .d d := by
  unfold startD at h
  by_cases hi : i < ds.length
  · rw [List.getElem?_append_left (by simpa using hi), List.getElem?_map] at h
    cases e : ds[i]? with
    | none => rw [e] at h; cases h
    | some d => rw [e] at h; cases h; exact ⟨d, rfl, rfl⟩
  · rw [List.getElem?_append_right (by simpa using hi), List.getElem?_replicate] at h
    split at h <;> cases h
theorem rep_start {N : List Str} {F H : Hp} {vs : List V} {ds : List D} (sb : SubH F H) (h : DpAll K F vs ds) (hn : vs.length ≤ N.length) : Rep K ⟨H, F, fun _ => none⟩ (startD N ds) (L2.start N vs) H F := by
  have hl := dpa_len h
  refine ⟨sb, .refl _, .refl _, fun _ _ q => .inl q, fun i sv e => ?_, fun i j b ⟨x, a, e1, o1, _⟩ _ => ?_, ?_⟩
  · obtain ⟨d, h1, rfl⟩ := startD_get e
    obtain ⟨v, h2, h3⟩ := dpa_get h h1
    refine ⟨v, ?_, h3⟩
    unfold L2.start
    have hi : i < vs.length := (List.getElem?_eq_some_iff.mp h2).1
    rw [List.getElem?_append_left (by simpa using hi), List.getElem?_map, h2]
    rfl
  · obtain ⟨d, _, rfl⟩ := startD_get e1
    cases o1
  · unfold startD L2.start
    simp only [List.length_append, List.length_map, List.length_replicate]
    omega
theorem fn_ok {x qual : Str} {st : Stmt} {f : Addr} {fd : FuncData} {N ps : List Str} {k : Nat} (F : Fun K x qual st f fd) (S : FnScope N ps (defScope st)) (g : List D → Option D) (body : SM)
    (hb : ∀ (cdv : Value) (A : Around) (outer : List Env) (s : Shared) (H : Hp) (E : XK), Room k (A.deeper (envOfC qual (defScope st) s.heap.objs.size f cdv)) →
      SSs (cxOf CX0 P w K mg base N qual (defScope st) f cdv A outer s H E).nox (fun _ _ => False) (defBody st) body)
    (hv : ∀ ds d, g ds = some d → (∃ r', body (startD N ds) = some (.rt d r')) ∨ (d = .none ∧ ∃ r', body (startD N ds) = some (.nx r'))) : FnOk P w K mg base CX0 (k + 1) f fd ps (spF K ps.length g) := by
  refine F.ok S (fun vs H Q E h => h.1) fun cdv A outer s H vs Q E hr h => ?_
  obtain ⟨hlen, F0, ds, d, sb, dv, e, q⟩ := h
  refine ⟨_, (hb cdv A outer s H E hr).ps, ?_⟩
  have hpl : ps.length ≤ N.length := names_fit S
  have R := rep_start (N := N) sb dv (by omega)
  have fin : ∀ {r' : Rho} {v : V} {s' : L2.St} {H' F' : Hp}, Rep K ⟨H, F0, fun _ => none⟩ r' s' H' F' → Dp K F' v d → Q v H' := fun R' dd => q _ _ _ ⟨R'.f0, R'.old, R'.fh, R'.nw⟩ dd
  rcases hv ds d e with ⟨r', e2⟩ | ⟨rfl, r', e2⟩
  · exact ⟨⟨H, F0, fun _ => none⟩, _, F0, _, R, e2, fun v s' H' F' R' _ dd => fin R' dd⟩
  · exact ⟨⟨H, F0, fun _ => none⟩, _, F0, _, R, e2, fun s' H' F' R' _ => fin R' .non⟩
theorem startR_get {N : List Str} {ds xs : List D} {i j : Nat} {sv : SV} (hj : j ≤ ds.length) (h : (startR N j ds xs)[i]? = some (some sv)) : (i = j ∧ sv = .l true xs) ∨ (i < j ∧ ∃ d, ds[i]? = some d ∧ sv = .d d) ∨ (j < i ∧ ∃ d, ds[i - 1]? = some d ∧ sv = .d d) := by
  unfold startR at h
  have ht : ((ds.take j).map fun d => some (SV.d d)).length = j := by rw [List.length_map, List.length_take]; omega
  by_cases h1 : i < j
  · rw [List.getElem?_append_left (by omega), List.getElem?_map, List.getElem?_take_of_lt h1] at h
    cases e : ds[i]? with
    | none => rw [e] at h; cases h
    | some d => rw [e] at h; cases h; exact .inr (.inl ⟨h1, d, rfl, rfl⟩)
  · rw [List.getElem?_append_right (by omega), ht] at h
    by_cases h2 : i = j
    · subst h2
      simp at h
      exact .inl ⟨rfl, h.symm⟩
    · have h3 : i - j = (i - j - 1) + 1 := by omega
      rw [h3, List.getElem?_cons_succ] at h
      by_cases h4 : i - j - 1 < (ds.drop j).length
      · rw [List.getElem?_append_left (by simpa using h4), List.getElem?_map, List.getElem?_drop] at h
        have h5 : j + (i - j - 1) = i - 1 := by omega
        rw [h5] at h
        cases e : ds[i - 1]? with
        | none => rw [e] at h; cases h
        | some d => rw [e] at h; cases h; exact .inr (.inr ⟨by omega, d, rfl, rfl⟩)
      · rw [List.getElem?_append_right (by simpa using h4), List.getElem?_replicate] at h
        split at h <;> cases h
noncomputable def less (H : Hp) (a : Addr) : Hp := fun b => if b = a then none else H b
theorem less_same {H : Hp} {a : Addr} : less H a a = none := by unfold less; rw [if_pos rfl]
theorem less_ne {H : Hp} {a b : Addr} (h : b ≠ a) : less H a b = H b := by unfold less; rw [if_neg h]
theorem rep_startR {N : List Str} {F H : Hp} {vs us : List V} {ds xs : List D} {j : Nat} {a : Addr} (sb : SubH F H) (hj : vs[j]? = some (.ref a)) (h : DpAll K F (vs.eraseIdx j) ds) (hn : vs.length ≤ N.length) (ha : H a = some (.lst us)) (hf : F a = none) (hx : DpAll K F us xs) :
    Rep K ⟨less H a, F, fun _ => some a⟩ (startR N j ds xs) (L2.start N vs) H F := by
  have hl := dpa_len h
  have hjl : j < vs.length := (List.getElem?_eq_some_iff.mp hj).1
  rw [List.length_eraseIdx_of_lt hjl] at hl
  have hjd : j ≤ ds.length := by omega
  have sg : ∀ {i : Nat} {v : V}, vs[i]? = some v → (L2.start N vs)[i]? = some (some v) := fun {i v} e => by
    unfold L2.start
    have hi : i < vs.length := (List.getElem?_eq_some_iff.mp e).1
    rw [List.getElem?_append_left (by simpa using hi), List.getElem?_map, e]
    rfl
  refine ⟨sb, fun b o q => ?_, .refl _, fun b o q => .inl q, fun i sv e => ?_, fun i k b ⟨x, _, e1, o1, _⟩ ⟨y, _, e2, o2, _⟩ => ?_, ?_⟩
  · by_cases e : b = a
    · subst e
      have q : less H b b = some o := q
      rw [less_same] at q; cases q
    · have q : less H a b = some o := q
      rw [less_ne e] at q; exact q
  · rcases startR_get hjd e with ⟨rfl, rfl⟩ | ⟨h1, d, h2, rfl⟩ | ⟨h1, d, h2, rfl⟩
    · exact ⟨_, sg hj, a, us, rfl, ha, hf, less_same, hx, fun _ => rfl⟩
    · obtain ⟨v, h3, h4⟩ := dpa_get h h2
      rw [List.getElem?_eraseIdx_of_lt h1] at h3
      exact ⟨v, sg h3, h4⟩
    · obtain ⟨v, h3, h4⟩ := dpa_get h h2
      rw [List.getElem?_eraseIdx_of_ge (by omega)] at h3
      have : i - 1 + 1 = i := by omega
      rw [this] at h3
      exact ⟨v, sg h3, h4⟩
  · have ow : ∀ {i : Nat} {x : SV}, (startR N j ds xs)[i]? = some (some x) → x.own = true → i = j := fun {i x} e o => by
      rcases startR_get hjd e with ⟨rfl, rfl⟩ | ⟨h1, d, h2, rfl⟩ | ⟨h1, d, h2, rfl⟩
      · rfl
      · cases o
      · cases o
    rw [ow e1 o1, ow e2 o2]
  · unfold startR L2.start
    simp only [List.length_append, List.length_map, List.length_replicate, List.length_cons, List.length_take, List.length_drop]
    omega
/-- the own list's content at the end -/
def endR (j : Nat) (r : Rho) : Option (List D) := match r[j]? with
  | some (some (.l true xs)) => some xs
  | _ => none
theorem fn_okR {x qual : Str} {st : Stmt} {f : Addr} {fd : FuncData} {N ps : List Str} {k : Nat} (j : Nat) (F : Fun K x qual st f fd) (S : FnScope N ps (defScope st)) (g : List D → List D → Option (D × List D)) (body : SM)
    (hb : ∀ (cdv : Value) (A : Around) (outer : List Env) (s : Shared) (H : Hp) (E : XK), Room k (A.deeper (envOfC qual (defScope st) s.heap.objs.size f cdv)) →
      SSs (cxOf CX0 P w K mg base N qual (defScope st) f cdv A outer s H E).nox (fun _ _ => False) (defBody st) body)
    (hv : ∀ ds xs d xs', g ds xs = some (d, xs') → ∃ r', (body (startR N j ds xs) = some (.rt d r') ∨ (d = .none ∧ body (startR N j ds xs) = some (.nx r'))) ∧ endR j r' = some xs') : FnOk P w K mg base CX0 (k + 1) f fd ps (spR K ps.length j g) := by
  refine F.ok S (fun vs H Q E h => h.1) fun cdv A outer s H vs Q E hr h => ?_
  obtain ⟨hlen, F0, ds, a, us, xs, d, xs', sb, hj, dv, ha, hf, hx, e, q⟩ := h
  refine ⟨_, (hb cdv A outer s H E hr).ps, ?_⟩
  have hpl : ps.length ≤ N.length := names_fit S
  have R := rep_startR (N := N) sb hj dv (by omega) ha hf hx
  obtain ⟨r', e2, e3⟩ := hv ds xs d xs' e
  have fin : ∀ {v : V} {s' : L2.St} {H' F' : Hp}, Rep K ⟨less H a, F0, fun _ => some a⟩ r' s' H' F' → Dp K F' v d → Q v H' := fun {v s' H' F'} R' dd => by
    unfold endR at e3
    split at e3
    · rename_i ys hy
      cases e3
      obtain ⟨v', h1, a', us', rfl, h2, h3, h4, h5, h6⟩ := R'.slots j _ hy
      have ea : a' = a := by have := h6 rfl; cases this; rfl
      subst ea
      refine q v H' F' us' (fun b o hb ho => R'.old b o ?_) R'.f0 R'.fh (fun b o hb => ?_) h2 h5 dd
      · show less H a' b = some o
        rw [less_ne hb]; exact ho
      · rcases R'.nw b o hb with h | h | h
        · exact .inl h
        · by_cases hba : b = a'
          · subst hba
            rw [h3] at hb; cases hb
          · have h : less H a' b = none := h
            rw [less_ne hba] at h; exact .inr (.inl h)
        · exact .inr (.inr h)
    · cases e3
  rcases e2 with e2 | ⟨rfl, e2⟩
  · exact ⟨_, _, F0, _, R, e2, fun v s' H' F' R' _ dd => fin R' dd⟩
  · exact ⟨_, _, F0, _, R, e2, fun s' H' F' R' _ => fin R' .non⟩
end
section
variable {X : Cx} {a b c e : Expr} {es : List Expr} {f : EM} {pos : Pos}
/-! ### calls -/
def callM (g : List D → Option D) (f : AM) : EM := fun r => (f r).bind fun p => (g p.1).map fun d => (d, p.2)
theorem se_call {k : Nat} {fa : Addr} {fd : FuncData} {ps : List Str} {g : List D → Option D} {x : Str} {p : Pos} {fs : AM} (G : FnOk X.prog X.w X.K X.mg X.base CX0 k fa fd ps (spF X.K ps.length g)) (hr : Room k X.A) (hg : Gl X x) (hm : X.mg x = some (.ref fa)) (hk : PySem.W.keepIn X.K (.ref fa) = true) (hb : Binds X.K fd ps [])
    (ha : SA X (e :: es) fs) (hps : ps.length = (e :: es).length) (hdb : (x == ("__debug__" : Str)) = false := by decide) (he : starEach (e :: es) X.env = (false, eval e X.env) :: starEach es X.env := by rfl) (hpl : (backTo pos (starEach es X.env)).any (·.1) = false := by rfl) :
    SE X (.Call (.Name x p) (e :: es) [] pos) (callM g fs) := ⟨pe_imp (pe_call G hr hg hm hk hb .nil pass0 ha.pa hdb he hpl) fun s H Q ⟨z, r, F, d, r', R, e, k⟩ => by
  unfold callM at e
  simp only [Option.bind_eq_some_iff, Option.map_eq_some_iff] at e
  obtain ⟨⟨ds, r1⟩, e1, d', e2, e3⟩ := e
  cases e3
  refine ⟨z, r, F, ds, _, R, e1, fun vs H1 F1 R1 sb dv => ?_⟩
  show spF X.K ps.length g (vs ++ []) H1 Q E0
  rw [List.append_nil]
  exact ⟨by rw [dpa_len dv, hps]; exact ha.len _ _ _ e1, F1, ds, d, R1.fh, dv, e2, fun v H' F' G dd => k v H' F' (R1.grow G) (sb.trans G.ff) dd⟩⟩
/-- arguments, the j-th the own list in slot i -/
def liftAr (K : PySem.W.Frag) (f : AM) (i j : Nat) : TA := fun s H Q => ∃ z r F ds r', Rep K z r s H F ∧ f r = some (ds, r') ∧
  ∀ vs H' F', Rep K z r' s H' F' → SubH F F' → (∃ a, s[i]? = some (some (V.ref a)) ∧ vs[j]? = some (V.ref a)) → DpAll K F' (vs.eraseIdx j) ds → Q vs H'
structure SAr (X : Cx) (es : List Expr) (f : AM) (i j : Nat) : Prop where
  pa : PA X es (liftAr X.K f i j)
  len : ∀ r ds r', f r = some (ds, r') → ds.length + 1 = es.length
  lt : j < es.length
def hereM (i : Nat) (f : AM) : AM := fun r => (ownM i r).bind fun _ => f r
theorem sar_here (i : Nat) {x : Str} {p : Pos} {f : AM} (hr : SA X es f) (hN : X.N[i]? = some x := by rfl) (hv : Vis X.env.scope x := by first | exact Or.inl rfl | exact Or.inr (Or.inl rfl) | exact Or.inr (Or.inr rfl)) (hd : (x == ("__debug__" : Str)) = false := by decide)
    (hcd : (x == ("__classdict__" : Str)) = false := by decide) (hs : starEach (.Name x p :: es) X.env = (false, eval (.Name x p) X.env) :: starEach es X.env := by rfl) : SAr X (.Name x p :: es) (hereM i f) i 0 :=
  ⟨pa_imp (pa_cons (pe_var hN hv hd hcd) hr.pa hs) fun s H Q ⟨z, r, F, d, r', R, e, k⟩ => by
    unfold hereM at e
    simp only [Option.bind_eq_some_iff] at e
    obtain ⟨⟨p0, r0⟩, e0, e1⟩ := e
    obtain ⟨bb, xs, f1, _, _⟩ := ownM_some e0
    obtain ⟨v, h1, a, vs, rfl, h2, h3, h4, h5, h6⟩ := R.slots i _ f1
    exact ⟨_, h1, z, r, F, d, r', R, e1, fun vs H' F' R' sb dv => k _ H' F' R' sb ⟨a, h1, rfl⟩ dv⟩, fun r ds r' e => by
    unfold hereM at e
    simp only [Option.bind_eq_some_iff] at e
    obtain ⟨_, _, e1⟩ := e
    rw [hr.len _ _ _ e1]; rfl, by simp⟩
theorem sar_there {i j : Nat} {g : AM} (ha : SE X e f) (hr : SAr X es g i j) (hs : starEach (e :: es) X.env = (false, eval e X.env) :: starEach es X.env := by rfl) : SAr X (e :: es) (consM f g) i (j + 1) :=
  ⟨pa_imp (pa_cons ha.pe hr.pa hs) fun s H Q ⟨z, r, F, d, r', R, e, k⟩ => by
    obtain ⟨x, r1, xs, e1, e2, rfl⟩ := consM_some e
    exact ⟨z, r, F, x, r1, R, e1, fun v H1 F1 R1 sb1 dv => ⟨z, r1, F1, xs, r', R1, e2, fun vs H2 F2 R2 sb2 ⟨a, q1, q2⟩ dvs => k (v :: vs) H2 F2 R2 (sb1.trans sb2) ⟨a, q1, by simpa using q2⟩ (.cons (dp_mono sb2 dv) dvs)⟩⟩, fun r ds r' e => by
    obtain ⟨x, r1, xs, e1, e2, rfl⟩ := consM_some e
    have := hr.len _ _ _ e2
    simp only [List.length_cons]; omega, by have := hr.lt; simp only [List.length_cons]; omega⟩
def callRM (i : Nat) (g : List D → List D → Option (D × List D)) (f : AM) : EM := fun r => (f r).bind fun p => match p.2[i]? with
  | some (some (.l b xs)) => (g p.1 xs).map fun q => (q.1, p.2.set i (some (.l b q.2)))
  | _ => none
theorem se_callR {k : Nat} {fa : Addr} {fd : FuncData} {ps : List Str} {i j : Nat} {g : List D → List D → Option (D × List D)} {x : Str} {p : Pos} {fs : AM} (G : FnOk X.prog X.w X.K X.mg X.base CX0 k fa fd ps (spR X.K ps.length j g)) (hr : Room k X.A) (hg : Gl X x) (hm : X.mg x = some (.ref fa)) (hk : PySem.W.keepIn X.K (.ref fa) = true) (hb : Binds X.K fd ps [])
    (ha : SAr X (e :: es) fs i j) (hps : ps.length = (e :: es).length) (hdb : (x == ("__debug__" : Str)) = false := by decide) (he : starEach (e :: es) X.env = (false, eval e X.env) :: starEach es X.env := by rfl) (hpl : (backTo pos (starEach es X.env)).any (·.1) = false := by rfl) :
    SE X (.Call (.Name x p) (e :: es) [] pos) (callRM i g fs) := ⟨pe_imp (pe_call G hr hg hm hk hb .nil pass0 ha.pa hdb he hpl) fun s H Q ⟨z, r, F, d, r', R, e, k⟩ => by
  unfold callRM at e
  simp only [Option.bind_eq_some_iff] at e
  obtain ⟨⟨ds, r1⟩, e1, e2⟩ := e
  split at e2
  · rename_i bb xs hxs
    have hxs : r1[i]? = some (some (.l bb xs)) := hxs
    simp only [Option.map_eq_some_iff] at e2
    obtain ⟨⟨d', xs'⟩, e3, e4⟩ := e2
    cases e4
    refine ⟨z, r, F, ds, _, R, e1, fun vs H1 F1 R1 sb ⟨a, q1, q2⟩ dv => ?_⟩
    show spR X.K ps.length j g (vs ++ []) H1 Q E0
    rw [List.append_nil]
    obtain ⟨v', h1', a', us, rfl, h2', h3', h4', h5', h6'⟩ := R1.slots i _ hxs
    have ea : a' = a := by have := q1.symm.trans h1'; cases this; rfl
    subst ea
    have hl := dpa_len dv
    have hlen := ha.len _ _ _ e1
    have hjl : j < vs.length := (List.getElem?_eq_some_iff.mp q2).1
    rw [List.length_eraseIdx_of_lt hjl] at hl
    refine ⟨by rw [hps]; omega, F1, ds, a', us, xs, d', xs', R1.fh, q2, dv, h2', h3', h5', e3, fun v H' F' us' keep ff fh nw ha' dus dd => k v H' F' ?_ (sb.trans ff) dd⟩
    refine ⟨fh, fun b o q => ?_, R1.f0.trans ff, fun b o q => ?_, fun m sv q => ?_, R1.ap_keep hxs rfl h1' (fun a _ _ ne o ho => keep a o ne ho) (fun b q => .inl (.inl (part_lst ha' q))), by simpa using R1.len⟩
    · refine keep b o (fun e => ?_) (R1.old b o q)
      rw [e, h4'] at q; cases q
    · rcases nw b o q with h | h | h
      · exact R1.nw b o h
      · exact .inr (.inl (R1.old.none h))
      · exact .inr (.inr h)
    · rcases get_set_cases q with ⟨rfl, e⟩ | ⟨ne, q⟩
      · cases e
        refine ⟨_, h1', a', us', rfl, ha', ?_, h4', dus, h6'⟩
        cases qq : F' a' with
        | none => rfl
        | some o =>
          rcases nw a' o qq with h | h | ⟨ob, ws, rfl⟩
          · rw [h3'] at h; cases h
          · rw [h2'] at h; cases h
          · have q2 := fh a' _ qq
            rw [ha'] at q2; exact (tupHO_lst q2).elim
      · obtain ⟨v2, q1', q2'⟩ := R1.slots m sv q
        refine ⟨v2, q1', q2'.mono ff (fun a3 a2 e hp hown u hu => ?_) fun a3 a2 o ho hf _ hown e hp => ?_⟩
        · exact keep a2 u (R1.other ne hxs rfl h1' q hown (by rw [q1', e]) hp) hu
        · cases qq : F' a2 with
          | none => rfl
          | some o2 =>
            rcases nw a2 o2 qq with h | h | ⟨ob, ws, rfl⟩
            · rw [hf] at h; cases h
            · rw [ho] at h; cases h
            · have q2 := fh a2 _ qq
              rw [keep a2 o (R1.other ne hxs rfl h1' q hown (by rw [q1', e]) hp) ho] at q2; cases q2
              exact absurd ⟨_, _, ho⟩ (q2'.noTup hown e hp)
  · cases e2⟩
end
end DL
namespace DL
open PySem L2 PyProof.Rows PySem.Spec PySem.W
/-! ### sorted -/
def tupCons : D → Bool
  | .tuple (_ :: _) => true
  | _ => false
def nonTup : D → Bool
  | .none => false
  | .tuple _ => false
  | _ => true
def sortOk (ds : List D) : Bool := (ds.all fun d => ds.all fun e => alike d e) && (ds.all tupCons || ds.all nonTup) && szOk ds.length && ds.all fun d => decide (d.depth ≤ 60)
def sortL (ds : List D) : List D := ds.mergeSort (dataLe false id)
theorem sortOk_facts {ds : List D} (h : sortOk ds = true) : AllAlike (ds.map id) ∧ Sortable (ds.map id) ∧ ds.length ≤ sizeLine ∧ ∀ d ∈ ds, d.depth ≤ 60 := by
  unfold sortOk at h
  simp only [Bool.and_eq_true, List.all_eq_true, Bool.or_eq_true, decide_eq_true_eq] at h
  obtain ⟨⟨⟨h1, h2⟩, h3⟩, h4⟩ := h
  rw [List.map_id]
  refine ⟨fun d hd e he => h1 d hd e he, ?_, szOk_le h3, h4⟩
  rcases h2 with h2 | h2
  · left
    intro d hd
    have := h2 d hd
    unfold tupCons at this
    split at this
    · exact ⟨_, _, rfl⟩
    · cases this
  · right
    intro d hd
    have := h2 d hd
    unfold nonTup at this
    split at this
    · cases this
    · cases this
    · rename_i n1 n2
      exact ⟨fun e => n1 e, fun xs e => n2 xs e⟩
section
variable {X : Cx}
theorem each_of {K : PySem.W.Frag} {F : Hp} : ∀ {vs : List V} {us : List Value} {ds : List D}, Vals vs us → DpAll K F vs ds → EachIs (fun u d => ∃ x, RelV x u ∧ Dp K F x d) us ds
  | _, _, _, .nil, .nil => .nil
  | _, _, _, .cons r rs, .cons d ds => .cons ⟨_, r, d⟩ (each_of rs ds)
theorem of_each {K : PySem.W.Frag} {F : Hp} : ∀ {us : List Value} {ds : List D}, EachIs (fun u d => ∃ x, RelV x u ∧ Dp K F x d) us ds → ∃ vs, Vals vs us ∧ DpAll K F vs ds
  | _, _, .nil => ⟨[], .nil, .nil⟩
  | _, _, .cons ⟨x, r, d⟩ t => by
    obtain ⟨vs, h1, h2⟩ := of_each t
    exact ⟨x :: vs, .cons r h1, .cons d h2⟩
theorem each_reads {pins : List (Addr × Obj)} {σ : L2.St} {H F : Hp} {s : Shared} (I : L2.Inv X pins σ H s) (sb : SubH F H) : ∀ {vs : List V} {us : List Value} {ds : List D}, Vals vs us → DpAll X.K F vs ds → EachIs (fun v b => ∃ as, Reads s.heap v b as) us ds
  | _, _, _, .nil, .nil => .nil
  | _, _, _, .cons r1 rs, .cons d1 d2 => .cons (L2.Dp.reads I _ _ _ (dp_old (dp_mono sb d1)) r1) (each_reads I sb rs d2)
end
end DL
namespace DL
open PySem L2 PyProof.Rows PySem.Spec PySem.W
/-! ### own dicts -/
def keyOf : D → Option Key
  | .int i => some (.inl i)
  | .str x => some (.inr x)
  | _ => none
def keysOf : List D → Option (List Key)
  | [] => some []
  | d :: ds => (keyOf d).bind fun k => (keysOf ds).map (k :: ·)
def dkOf (t : Bool) (d : D) : Option DK := if t then (match d with
  | .tuple ds => (keysOf ds).map .inr
  | _ => none) else (keyOf d).map .inl
def dkD : DK → D
  | .inl k => keyD k
  | .inr ks => .tuple (ks.map keyD)
/-- a value put under a key: where the key stands, or behind all -/
def putG {α β : Type} [DecidableEq α] (kvs : List (α × β)) (k : α) (v : β) : List (α × β) :=
  if k ∈ kvs.map Prod.fst then kvs.map (fun kv => (kv.1, if kv.1 = k then v else kv.2)) else kvs ++ [(k, v)]
theorem keyOf_rel {K : PySem.W.Frag} {F : Hp} {v : V} {d : D} {k : Key} (x : Dp K F v d) (h : keyOf d = some k) : v = kV k := by
  unfold keyOf at h
  split at h
  · cases h; exact x.inv
  · cases h; exact x.inv
  · cases h
theorem keysOf_rel {K : PySem.W.Frag} {F : Hp} : ∀ {vs : List V} {ds : List D} {ks : List Key}, DpAll K F vs ds → keysOf ds = some ks → vs = ks.map kV
  | _, [], _, .nil, h => by cases h; rfl
  | _, d :: ds, ks, .cons x t, h => by
    simp only [keysOf, Option.bind_eq_some_iff, Option.map_eq_some_iff] at h
    obtain ⟨k, h1, ks', h2, rfl⟩ := h
    rw [keyOf_rel x h1, keysOf_rel t h2]; rfl
theorem kD_dp {K : PySem.W.Frag} {F : Hp} (k : Key) : Dp K F (kV k) (keyD k) := by
  cases k with
  | inl i => exact .int i
  | inr x => exact .str x
theorem kDs_dp {K : PySem.W.Frag} {F : Hp} : ∀ ks : List Key, DpAll K F (ks.map kV) (ks.map keyD)
  | [] => .nil
  | k :: ks => .cons (kD_dp k) (kDs_dp ks)
section
variable {K : PySem.W.Frag} {z : Fx} {r : Rho} {s : L2.St} {H F : Hp}
theorem paired_keys {α : Type} {g : α → DK} : ∀ {ks : List (α × V)} {kvs : List (DK × D)}, Paired (fun (p : α × V) (q : DK × D) => q.1 = g p.1 ∧ Dp K F p.2 q.2) ks kvs → kvs.map Prod.fst = ks.map fun p => g p.1
  | _, _, .nil => rfl
  | _, _, .cons ⟨e, _⟩ t => by rw [List.map_cons, List.map_cons, paired_keys t, e]
theorem paired_map {α : Type} [DecidableEq α] {g : α → DK} (hg : ∀ x y, g x = g y → x = y) {k : α} {v : V} {d : D} (hv : Dp K F v d) : ∀ {ks : List (α × V)} {kvs : List (DK × D)}, Paired (fun (p : α × V) (q : DK × D) => q.1 = g p.1 ∧ Dp K F p.2 q.2) ks kvs →
    Paired (fun (p : α × V) (q : DK × D) => q.1 = g p.1 ∧ Dp K F p.2 q.2) (ks.map fun kv => if kv.1 = k then (kv.1, v) else kv) (kvs.map fun kv => (kv.1, if kv.1 = g k then d else kv.2))
  | _, _, .nil => .nil
  | _, _, .cons (a := p) (b := q) ⟨e, e2⟩ t => by
    refine .cons ?_ (paired_map hg hv t)
    dsimp only
    by_cases h : p.1 = k
    · rw [if_pos h, if_pos (e.trans (congrArg g h))]; exact ⟨e, hv⟩
    · rw [if_neg h, if_neg fun q => h (hg _ _ (e.symm.trans q))]; exact ⟨e, e2⟩
theorem paired_app {α β : Type} {R : α → β → Prop} : ∀ {as bs : List α} {cs ds : List β}, Paired R as cs → Paired R bs ds → Paired R (as ++ bs) (cs ++ ds)
  | _, _, _, _, .nil, h => h
  | _, _, _, _, .cons a t, h => .cons a (paired_app t h)
theorem paired_put {α : Type} [DecidableEq α] {g : α → DK} (hg : ∀ x y, g x = g y → x = y) {k : α} {v : V} {d : D} (hv : Dp K F v d) {ks : List (α × V)} {kvs : List (DK × D)} (h : Paired (fun (p : α × V) (q : DK × D) => q.1 = g p.1 ∧ Dp K F p.2 q.2) ks kvs) :
    Paired (fun (p : α × V) (q : DK × D) => q.1 = g p.1 ∧ Dp K F p.2 q.2) (putK ks k v) (putG kvs (g k) d) := by
  have same : g k ∈ kvs.map Prod.fst ↔ (ks.any fun kv => decide (kv.1 = k)) = true := by
    rw [paired_keys h, List.mem_map, List.any_eq_true]
    exact ⟨fun ⟨p, m, e⟩ => ⟨p, m, decide_eq_true (hg _ _ e)⟩, fun ⟨p, m, e⟩ => ⟨p, m, congrArg g (of_decide_eq_true e)⟩⟩
  unfold putK putG
  by_cases there : g k ∈ kvs.map Prod.fst
  · rw [if_pos there, if_pos (same.mp there)]; exact paired_map hg hv h
  · rw [if_neg there, if_neg fun q => there (same.mpr q)]; exact paired_app h (.cons ⟨rfl, hv⟩ .nil)
theorem paired_len {α β : Type} {R : α → β → Prop} : ∀ {as : List α} {bs : List β}, Paired R as bs → as.length = bs.length
  | _, _, .nil => rfl
  | _, _, .cons _ t => by simp [paired_len t]
/-- an own dict takes another content -/
theorem Rep.setDict (R : Rep K z r s H F) {i : Nat} {p : Addr} {bb t t' : Bool} {kvs kvs' : List (DK × D)} {o : HO} (hi : r[i]? = some (some (.m bb t kvs))) (hs : s[i]? = some (some (.ref p))) (hd : DicOk K F (upd H p o) p t' kvs') : Rep K z (r.set i (some (.m bb t' kvs'))) s (upd H p o) F := by
  have hrf : bb = true → z.rf i = some p := by
    obtain ⟨v, h1, p', e, _, _, _, h6⟩ := R.slots i _ hi
    subst e
    rw [hs] at h1; cases h1; exact h6
  have own : OwnAt r s H p := ⟨i, _, _, hi, rfl, hs, part_self⟩
  obtain ⟨_, hf, h0⟩ := R.own_facts own
  refine ⟨fun b u q => ?_, fun b u q => ?_, R.f0, R.nw, fun j sv q => ?_, R.ap_upd hi rfl hs fun b q => .inl (hd.one q), by simpa using R.len⟩
  · have : b ≠ p := fun e => by rw [e, hf] at q; cases q
    rw [upd_ne this]; exact R.fh b u q
  · have : b ≠ p := fun e => by rw [e, h0] at q; cases q
    rw [upd_ne this]; exact R.old b u q
  · rcases get_set_cases q with ⟨rfl, e⟩ | ⟨ne, q⟩
    · cases e
      exact ⟨_, hs, p, rfl, hf, h0, hd, hrf⟩
    · obtain ⟨v, q1, q2⟩ := R.slots j sv q
      refine ⟨v, q1, q2.mono (.refl _) (fun a b e hp hown u hu => ?_) fun a b _ _ hf' _ _ _ _ => hf'⟩
      rw [upd_ne (R.other ne hi rfl hs q hown (by rw [q1, e]) hp)]; exact hu
/-- a new own dict -/
theorem Rep.putDict (R : Rep K z r s H F) {i : Nat} {p : Addr} {t : Bool} {o : HO} {kvs : List (DK × D)} (hp : H p = none) (hd : DicOk K F (upd H p o) p t kvs) : Rep K z (r.set i (some (.m false t kvs))) (s.set i (some (.ref p))) (upd H p o) F := by
  have R1 := R.grow (Grow.loose (o := o) R.fh hp)
  have ho : ¬ OwnAt r s H p := R.free hp
  refine ⟨R1.fh, R1.old, R1.f0, R1.nw, fun j sv e => ?_, R1.ap.new (i := i) (P := fun b => b = p) (fun b e q => ho (e ▸ ownAt_upd ho q)) fun j b h => by
    rcases owns_set h with ⟨e, _, a, ea, q⟩ | ⟨n, h⟩
    · cases ea; exact .inl ⟨e, hd.one q⟩
    · exact .inr ⟨n, h⟩, by simpa using R.len⟩
  · have hj : j < r.length := by
      have q : j < (r.set i (some (SV.m false t kvs))).length := (List.getElem?_eq_some_iff.mp e).1
      simpa using q
    rcases get_set_cases e with ⟨rfl, e2⟩ | ⟨ne, e⟩
    · cases e2
      exact ⟨_, by rw [List.getElem?_set_self (by rw [← R.len]; exact hj)], p, rfl, R.fh.none hp, R.old.none hp, hd, fun q => nomatch q⟩
    · obtain ⟨w, h1, h2⟩ := R1.slots j sv e
      exact ⟨w, by rw [List.getElem?_set_ne (Ne.symm ne)]; exact h1, h2⟩
end
theorem paired_mem2 {α β : Type} {R : α → β → Prop} : ∀ {as : List α} {bs : List β} {b : β}, Paired R as bs → b ∈ bs → ∃ a, a ∈ as ∧ R a b
  | _, _, _, .nil, h => nomatch h
  | _, _, b, .cons (a := a) r t, h => by
    rcases List.mem_cons.mp h with e | h
    · subst e; exact ⟨a, by simp, r⟩
    · obtain ⟨a', h1, h2⟩ := paired_mem2 t h
      exact ⟨a', by simp [h1], h2⟩
theorem dk_map {K : PySem.W.Frag} {F : Hp} : ∀ {ks : List (List Key × V)} {kvs : List (DK × D)}, Paired (fun (p : List Key × V) (q : DK × D) => q.1 = .inr p.1 ∧ Dp K F p.2 q.2) ks kvs → (kvs.map fun kv => dkD kv.1) = ks.map fun kv => dkD (.inr kv.1)
  | _, _, .nil => rfl
  | _, _, .cons ⟨e, _⟩ t => by rw [List.map_cons, List.map_cons, dk_map t, e]
/-- a key's tuple is flat -/
theorem kV_flat (k : List Key) : (k.map kV).all noRef = true := by
  rw [List.all_map, List.all_eq_true]
  intro x _
  cases x <;> rfl
theorem tupAt_key {H : Hp} {b : Addr} {k : List Key} : TupAt H b (k.map kV) ↔ H b = some (.tup (k.map kV)) :=
  ⟨fun ⟨_, _, e⟩ => by rwa [tupHO_flat (kV_flat k)] at e, fun e => ⟨tupObj [], rfl, by rw [tupHO_flat (kV_flat k)]; exact e⟩⟩
mutual
theorem reads_lt {h : Heap} : ∀ (d : PyData) (v : Value) (as : List Addr), alike d d = true → Reads h v d as → ∀ a ∈ as, a < h.objs.size
  | .none, _, _, _, .none, a, hm => nomatch hm
  | .bool _, _, _, _, .bool _, a, hm => nomatch hm
  | .int _, _, _, _, .int _ _, a, hm => nomatch hm
  | .str _, _, _, _, .str _ _, a, hm => nomatch hm
  | .list xs, _, _, al, .list h1 _ _ h4, a, hm => by
    rcases List.mem_cons.mp hm with e | hm
    · subst e; exact Heap.lt_size h1
    · exact reads_ltAll xs _ _ (by simpa [alike] using al) h4 a hm
  | .tuple xs, _, _, al, .tuple h1 _ _ h4, a, hm => reads_ltAll xs _ _ (by simpa [alike] using al) h4 a hm
  | .dict kvs, _, _, al, _, a, hm => by simp [alike] at al
theorem reads_ltAll {h : Heap} : ∀ (ds : List PyData) (vs : List Value) (as : List Addr), alikeAll ds ds = true → ReadsAll h vs ds as → ∀ a ∈ as, a < h.objs.size
  | [], _, _, _, .nil, a, hm => nomatch hm
  | d :: ds, _, _, al, .cons h1 h2, a, hm => by
    obtain ⟨a1, a2⟩ := alike_all_cons al
    rcases List.mem_append.mp hm with hm | hm
    · exact reads_lt d _ _ a1 h1 a hm
    · exact reads_ltAll ds _ _ a2 h2 a hm
end
section
variable {X : Cx} {W : String → Hp → Prop} {a b c e : Expr} {f g : EM} {pos : Pos}
def newDM (i : Nat) (t : Bool) : SM := fun r => some (.nx (r.set i (some (.m false t []))))
theorem ss_newD (i : Nat) (t : Bool) {x : Str} {pos' dpos : Pos} (hN : X.N.Nodup) (hi : X.N[i]? = some x := by rfl) (hx : Loc X.env.scope x := by first | exact Or.inl rfl | exact Or.inr rfl) (hs : swapsWith (.Dict [] [] dpos) (some (.Name x pos')) pos.line X.env = pure false := by rfl) (hf : X.fn x = true ∨ X.env.scope.names.lookup x = some .local := by first | exact .inl rfl | exact .inr rfl | assumption) :
    SS X W (.Assign [.Name x pos'] (.Dict [] [] dpos) pos) (newDM i t) := by
  cases t with
  | true =>
    exact ⟨ps_imp (ps_set hN hi hx pe_dnewT hs hf) fun D s H ⟨z, r, F, o, R, e, k⟩ => by
      cases e
      intro p hp
      exact k _ _ F (R.putDict hp (.inr ⟨rfl, [], upd_same, .nil⟩)) (.refl _)⟩
  | false =>
    exact ⟨ps_imp (ps_set hN hi hx pe_dnewK hs hf) fun D s H ⟨z, r, F, o, R, e, k⟩ => by
      cases e
      intro p hp
      exact k _ _ F (R.putDict hp (.inl ⟨rfl, [], upd_same, .nil⟩)) (.refl _)⟩
/-- d[k] = v: the value, the dict, the key -/
def putM (i : Nat) (fk fv : EM) : SM := fun r => (fv r).bind fun p => match p.2[i]? with
  | some (some (.m _ _ _)) => (fk p.2).bind fun q => (match q.2[i]? with
    | some (some (.m b t kvs)) => (dkOf t q.1).bind fun k => if szOk kvs.length then some (.nx (q.2.set i (some (.m b t (putG kvs k p.1))))) else none
    | _ => none)
  | _ => none
theorem ss_put (i : Nat) {x : Str} {p pos' : Pos} {ie value : Expr} {fk fv : EM} (hu : X.A.units + 1 < cLine) (hk : SE X ie fk) (hvv : SE X value fv) (hN : X.N[i]? = some x := by rfl) (hv : Vis X.env.scope x := by first | exact Or.inl rfl | exact Or.inr (Or.inl rfl) | exact Or.inr (Or.inr rfl)) (hd : (x == ("__debug__" : Str)) = false := by decide)
    (hcd : (x == ("__classdict__" : Str)) = false := by decide) (hs : swapsWith value (some (.Subscript (.Name x p) ie pos')) pos.line X.env = pure false := by rfl) :
    SS X W (.Assign [.Subscript (.Name x p) ie pos'] value pos) (putM i fk fv) := ⟨ps_imp (ps_dput hu (pe_var hN hv hd hcd) hk.pe hvv.pe hs) fun D s H ⟨z, r, F, o, R, e, k⟩ => by
  unfold putM at e
  simp only [Option.bind_eq_some_iff] at e
  obtain ⟨⟨v, r1⟩, e1, e2⟩ := e
  split at e2
  · rename_i b0 t0 kvs0 h0
    have h0 : r1[i]? = some (some (.m b0 t0 kvs0)) := h0
    simp only [Option.bind_eq_some_iff] at e2
    obtain ⟨⟨kd, r2⟩, e3, e4⟩ := e2
    split at e4
    · rename_i b1 t1 kvs1 h1
      have h1 : r2[i]? = some (some (.m b1 t1 kvs1)) := h1
      simp only [Option.bind_eq_some_iff] at e4
      obtain ⟨key, e5, e6⟩ := e4
      split at e6
      · rename_i hz
        cases e6
        refine ⟨z, r, F, v, r1, R, e1, fun w H1 F1 R1 sb1 dw => ?_⟩
        obtain ⟨v0, q1, p0, rfl, q2, q3, q4, q5⟩ := R1.slots i _ h0
        refine ⟨_, q1, z, r1, F1, kd, r2, R1, e3, fun y H2 F2 R2 sb2 dk => ?_⟩
        obtain ⟨v1, w1, p1, rfl, w2, w3, w4, w5⟩ := R2.slots i _ h1
        have ea : p1 = p0 := by have := q1.symm.trans w1; cases this; rfl
        subst ea
        have dw' := dp_mono sb2 dw
        rcases w4 with ⟨rfl, ks, hk1, hk2⟩ | ⟨rfl, ks, hk1, hk2⟩
        · simp only [dkOf, Bool.false_eq_true, if_false, Option.map_eq_some_iff] at e5
          obtain ⟨kk, ek, rfl⟩ := e5
          cases keyOf_rel dk ek
          have hl := paired_len hk2
          refine ⟨p1, _, rfl, DPut.k hk1 (by rw [hl]; exact szOk_lt hz), k _ _ F2 (R2.setDict h1 w1 (.inl ⟨rfl, _, upd_same, paired_put (g := Sum.inl) (fun _ _ h => Sum.inl.inj h) dw' hk2⟩)) (sb1.trans sb2)⟩
        · simp only [dkOf, if_true] at e5
          split at e5
          · simp only [Option.map_eq_some_iff] at e5
            obtain ⟨kk, ek, rfl⟩ := e5
            obtain ⟨_, _, rfl, t1, t2⟩ := dk.inv
            cases keysOf_rel t2 ek
            have hl := paired_len hk2
            refine ⟨p1, _, rfl, DPut.t hk1 (R2.fh _ _ (tupAt_key.mp t1)) (by rw [hl]; exact szOk_lt hz), k _ _ F2 (R2.setDict h1 w1 (.inr ⟨rfl, _, upd_same, paired_put (g := Sum.inr) (fun _ _ h => Sum.inr.inj h) dw' hk2⟩)) (sb1.trans sb2)⟩
          · cases e5
      · cases e6
    · cases e4
  · cases e2⟩
/-- len(d) -/
def lenDM (i : Nat) : EM := fun r => match r[i]? with
  | some (some (.m _ true kvs)) => some (.int kvs.length, r)
  | _ => none
theorem se_lenD (i : Nat) {x : Str} {p p1 : Pos} (hg : Gl X "len") (hm : X.mg "len" = none) (hN : X.N[i]? = some x := by rfl) (hv : Vis X.env.scope x := by first | exact Or.inl rfl | exact Or.inr (Or.inl rfl) | exact Or.inr (Or.inr rfl)) (hd : (x == ("__debug__" : Str)) = false := by decide)
    (hcd : (x == ("__classdict__" : Str)) = false := by decide) (he : starEach [.Name x p] X.env = [(false, eval (.Name x p) X.env)] := by rfl) : SE X (.Call (.Name "len" p1) [.Name x p] [] pos) (lenDM i) :=
  ⟨pe_imp (pe_callB call_len_dT hg hm PySem.boot_len (pa_cons (pe_var hN hv hd hcd) pa_nil he) (by decide) (by decide) he rfl) fun s H Q ⟨z, r, F, d, r', R, e, k⟩ => by
    unfold lenDM at e
    split at e
    · rename_i b kvs h1
      cases e
      obtain ⟨v1, w1, p1, rfl, w2, w3, w4, w5⟩ := R.slots i _ h1
      rcases w4 with ⟨h, _⟩ | ⟨_, ks, hk1, hk2⟩
      · cases h
      · refine ⟨_, w1, p1, ks, rfl, hk1, ?_⟩
        rw [paired_len hk2]
        exact k _ H F R (.refl _) (.int _)
    · cases e⟩
/-- sorted(d), the keys tuples -/
def sortDM (i : Nat) : EM := fun r => match r[i]? with
  | some (some (.m _ true kvs)) => if sortOk (kvs.map fun kv => dkD kv.1) then some (.list (sortL (kvs.map fun kv => dkD kv.1)), r) else none
  | _ => none
/-- what a walk over a dict with tuple keys collects: the key tuples, in order -/
theorem collect_dT {A : Around} {E : Value → Shared → Prop} {pins : List (Addr × Obj)} {s : Shared} {σ : L2.St} {H : Hp} {d : Addr} {kvs : List (List Key × V)} {R : List Value → Shared → Prop} (calm : A.handled = none) (I : L2.Inv X pins σ H s) (hd : H d = some (.dT kvs))
    (out : ∀ (h' : Heap) (tk : Nat) (bs : List Addr), (∀ b o, s.heap.get? b = some o → h'.get? b = some o) → IsKeys H kvs bs → R (bs.map Value.ref) { s with heap := h', toks := tk }) : wpAny (model X.prog X.w) A (collect (.ref d)) R E s := by
  have ok : ObjOk X.prog X.w H s.heap d (.dT kvs) := I.hok d _ hd
  obtain ⟨small, own, rows, pr, o, es, ep, stands, exact', data, entries, -⟩ := ok
  have many : es.size = kvs.length := (size_of_entries entries).trans (Paired.length pr).symm
  refine PySem.W.kdu_collect (kdl_raw own exact' data) calm stands (by omega) fun h' tk acc keeps items => ?_
  have all : acc.toList = (rows.map fun x => x.2.1).map Value.ref := by
    refine List.ext_getElem (by simp [items.1, size_of_entries entries]) fun n l1 l2 => ?_
    obtain ⟨en, at_, key⟩ := items.2 n acc.toList[n] (by simp at l1 ⊢)
    rw [entry_at entries n] at at_
    obtain ⟨row, hr, rfl⟩ := Option.map_eq_some_iff.mp at_
    rw [key]
    simp [(List.getElem?_eq_some_iff.mp hr).2, entryOfKey, tupleKind]
  rw [all]
  exact out h' tk _ keeps (isKeys_of pr)
end
section
variable {X : Cx}
/-- key tuples are frozen -/
theorem keys_frozen {F H : Hp} {kvs : List (List Key × V)} : ∀ {bs : List Addr}, IsKeys H kvs bs → SubH F H → ∃ F1, Grow F H F1 H ∧ DpAll X.K F1 (bs.map V.ref) (kvs.map fun kv => dkD (.inr kv.1)) := by
  classical
  intro bs keys sb
  refine ⟨fun b => if b ∈ bs then H b else F b, ⟨fun b o e => ?_, .refl _, fun b o e => ?_, fun b o e => ?_⟩, ?_⟩
  · by_cases m : b ∈ bs
    · simpa [m] using sb b o e
    · simpa [m] using e
  · by_cases m : b ∈ bs
    · simpa [m] using e
    · exact sb b o (by simpa [m] using e)
  · by_cases m : b ∈ bs
    · obtain ⟨p, -, hp⟩ := paired_mem2 keys m
      have e : H b = some o := by simpa [m] using e
      rw [hp] at e
      exact .inr (.inr ⟨tupObj [], _, ((tupHO_flat (kV_flat _)).trans (Option.some.inj e)).symm⟩)
    · exact .inl (by simpa [m] using e)
  · have each : ∀ {kvs' : List (List Key × V)} {bs' : List Addr}, IsKeys H kvs' bs' → (∀ b ∈ bs', b ∈ bs) → DpAll X.K (fun b => if b ∈ bs then H b else F b) (bs'.map V.ref) (kvs'.map fun kv => dkD (.inr kv.1)) := by
      intro kvs' bs' k
      unfold IsKeys at k
      induction k with
      | nil => exact fun _ => .nil
      | cons h _ ih =>
        intro m
        refine .cons (.tup ?_ (kDs_dp _)) (ih fun b hb => m b (List.mem_cons_of_mem _ hb))
        refine tupAt_key.mpr ?_
        rw [if_pos (m _ List.mem_cons_self)]
        exact h
    exact each keys fun _ m => m
/-- sorted of what may be collected -/
theorem sorted_from {pins : List (Addr × Obj)} {s : Shared} {σ : L2.St} {H F : Hp} {v : Value} {ds : List D} {Q : VK} (hu : X.A.units + 100 < cLine) (I : L2.Inv X pins σ H s) (ok : sortOk ds = true)
    (col : ∀ {R : List Value → Shared → Prop}, (∀ (h1 : Heap) (tk : Nat) (us : List Value) (vs : List V) (F1 : Hp), (∀ b o, s.heap.get? b = some o → h1.get? b = some o) → Vals vs us → Grow F H F1 H → DpAll X.K F1 vs ds → R us { s with heap := h1, toks := tk }) → wpAny (model X.prog X.w) X.A.in1 (collect v) R X.xe s)
    (give : ∀ w H' F', Grow F H F' H' → Dp X.K F' w (.list (sortL ds)) → Q w H') : wpAny (model X.prog X.w) X.A (call (.builtin "sorted") [v]) (EP X pins σ Q) X.xe s := by
  obtain ⟨alikes, sortable, short, flat⟩ := sortOk_facts ok
  apply Calls.call_function_entry PyProof.Rows.kind_sorted PyProof.Rows.plain_sorted PyProof.Rows.entry_sorted (PyProof.Rows.args_sorted1 _)
  delta Builtin.«sorted»
  apply wpAny_bind; apply wpAny_pure
  apply wpAny_bind
  refine col fun h1 tk us vs F1 keeps vals grown data => ?_
  have I1 : L2.Inv X pins σ H { s with heap := h1, toks := tk } := I.kept keeps
  have len : us.length ≤ sizeLine := by rw [← vals.length, dpa_len data]; exact short
  apply wpAny_bind
  refine wpAny_newList ?_ len
  have stands := Heap.get?_push_size h1 (o := seqObj "list" us.toArray 0) rfl
  have reads : EachIs (fun v b => ∃ as, Reads (h1.push (seqObj "list" us.toArray 0)) v (id b) as ∧ h1.objs.size ∉ as) us ds := by
    refine (each_mem (each_reads I1 grown.fh vals data)).mono ?_
    rintro v b ⟨⟨as, r⟩, mb⟩
    refine ⟨as, PyProof.Rows.Reads.keeps (fun _ _ old => Heap.get?_push_of_some _ old) r, fun inn => ?_⟩
    have mb' : b ∈ ds.map id := by rwa [List.map_id]
    exact Nat.lt_irrefl _ (reads_lt _ _ _ (alikes b mb' b mb') r _ inn)
  apply wpAny_bind; apply wpAny_holding
  refine list_sort_data (A := X.A.in1) (s := { s with heap := h1.push (seqObj "list" us.toArray 0), toks := tk }) (enc := id) (R := fun u d => ∃ x, RelV x u ∧ Dp X.K F1 x d) stands (each_of vals data) reads alikes sortable short (fun b mb => ?_) fun out outLen outIs => ?_
  · have := flat b mb
    show X.A.units + 1 + 1 + _ < _
    simp only [id]
    omega
  · obtain ⟨ws, wv, wd⟩ := of_each outIs
    obtain ⟨n, sortedAt⟩ := PyProof.Rows.sortedHeap_at (vs := us) (out := out.toArray) stands
    have new : H h1.objs.size = none := I1.hok.fresh (Nat.le_refl _)
    obtain ⟨laid, dp⟩ := new_lst grown.fh new wd
    have wlen : ws.length ≤ sizeLine := by
      have e1 := wv.length
      omega
    apply wpAny_pure
    refine ⟨_, rfl, .ref h1.objs.size, upd H h1.objs.size (.lst ws), I1.laid (t' := tk) (fun b o old => ?_) (Nat.le_refl _) ⟨wlen, out, n, wv, sortedAt⟩, rfl, give _ _ _ (grown.trans laid) dp⟩
    have older : b < h1.objs.size := Heap.lt_size old
    rw [PyProof.Rows.sortedHeap_old (Nat.ne_of_lt older) (by rw [size_push']; exact Nat.lt_succ_of_lt older)]
    exact Heap.get?_push_of_some _ old
/-- sorted(d), the keys tuples -/
theorem call_sortedT (hu : X.A.units + 100 < cLine) (hc : X.calm = true) : CallR X (.builtin "sorted") (fun xs H Q => ∃ (d : Addr) (kvs : List (List Key × V)) (F : Hp), xs = [V.ref d] ∧ SubH F H ∧ H d = some (.dT kvs) ∧ sortOk (kvs.map fun kv => dkD (.inr kv.1)) = true ∧
    ∀ v H' F', Grow F H F' H' → Dp X.K F' v (.list (sortL (kvs.map fun kv => dkD (.inr kv.1)))) → Q v H') := by
  rintro pins s σ H xs us Q I rel ⟨d, kvs, F, rfl, sb, hd, ok, give⟩
  obtain ⟨u, rfl, ru⟩ := vals1 rel
  cases ru
  refine sorted_from hu I ok (fun {R} go => ?_) give
  refine collect_dT (A := X.A.in1) (I.ok.hd hc) I hd fun h1 tk bs keeps keys => ?_
  obtain ⟨F1, grown, data⟩ := keys_frozen (X := X) keys sb
  exact go h1 tk _ _ F1 keeps (vals_refs bs) grown data
end
section
variable {X : Cx} {W : String → Hp → Prop} {a b c e : Expr} {f g : EM} {pos : Pos}
theorem se_sortD (i : Nat) {x : Str} {p p1 : Pos} (hu : X.A.units + 100 < cLine) (hc : X.calm = true) (hg : Gl X "sorted") (hm : X.mg "sorted" = none) (hN : X.N[i]? = some x := by rfl) (hv : Vis X.env.scope x := by first | exact Or.inl rfl | exact Or.inr (Or.inl rfl) | exact Or.inr (Or.inr rfl)) (hd : (x == ("__debug__" : Str)) = false := by decide)
    (hcd : (x == ("__classdict__" : Str)) = false := by decide) (he : starEach [.Name x p] X.env = [(false, eval (.Name x p) X.env)] := by rfl) (hv2 : bootBuiltins "sorted" = some (.builtin "sorted") := by decide +kernel) : SE X (.Call (.Name "sorted" p1) [.Name x p] [] pos) (sortDM i) :=
  ⟨pe_imp (pe_callB (call_sortedT hu hc) hg hm hv2 (pa_cons (pe_var hN hv hd hcd) pa_nil he) (by decide) (by decide) he rfl) fun s H Q ⟨z, r, F, d, r', R, e, k⟩ => by
    unfold sortDM at e
    split at e
    · rename_i b kvs h1
      split at e
      · rename_i ok
        cases e
        obtain ⟨v1, w1, p1, rfl, w2, w3, w4, w5⟩ := R.slots i _ h1
        rcases w4 with ⟨h, _⟩ | ⟨_, ks, hk1, hk2⟩
        · cases h
        · have em : (kvs.map fun kv => dkD kv.1) = ks.map fun kv => dkD (.inr kv.1) := dk_map hk2
          rw [em] at ok k
          exact ⟨_, w1, p1, ks, F, rfl, R.fh, hk1, ok, fun v H' F' G dd => k v H' F' (R.grow G) G.ff dd⟩
      · cases e
    · cases e⟩
end
end DL
namespace DL
open PySem L2 PyProof.Rows PySem.Spec PySem.W
/-! ### t[::-1] -/
section
variable {prog : Program} {w : World} {A : Around} {E : Value → Shared → Prop} {s : Shared}
theorem sliceApplied_rev {sl : Addr} {vl vu vs : Value} {n : Nat} {Q : Int × Int × Nat → Shared → Prop} (hs : s.heap.IsSliceOf sl vl vu vs) (pl : IsPart vl none) (pu : IsPart vu none) (ps : IsPart vs (some (-1)))
    (h : Q ((n : Int) - 1, -1, n) s) : wpAny (model prog w) A (Builtin.Slice.sliceApplied (.ref sl) (pure (n : Int))) Q E s := by
  rcases hs with ⟨obj, stands, -, parts⟩
  have ends : Builtin.Slice.sliceAdjust none none (-1) (n : Int) = ((n : Int) - 1, -1) := by simp [Builtin.Slice.sliceAdjust]
  have many : Builtin.Slice.slicePlaces ((n : Int) - 1) (-1) (-1) = n := by
    simp [Builtin.Slice.slicePlaces]
    omega
  delta Builtin.Slice.sliceApplied Builtin.Slice.sliceFields
  wp_walk using wpAny_field (i := 0) (x := vl) stands parts rfl, wpAny_field (i := 1) (x := vu) stands parts rfl, wpAny_field (i := 2) (x := vs) stands parts rfl, HT.slicePart_ pl, HT.slicePart_ pu, HT.slicePart_ ps
  simp only [Option.getD_some, ends, many]
  wp_walk
  exact h
theorem pick_rev (xs : Array Value) : ((List.range xs.size).filterMap fun (m : Nat) => xs[(((xs.size : Int) - 1) + (m : Int) * (-1)).toNat]?).toArray = xs.toList.reverse.toArray := by
  congr 1
  have e : ∀ m ∈ List.range xs.size, xs[(((xs.size : Int) - 1) + (m : Int) * (-1)).toNat]? = some (xs.toList.reverse.getD m .none) := by
    intro m hm
    have hm := List.mem_range.mp hm
    have : (((xs.size : Int) - 1) + (m : Int) * (-1)).toNat = xs.size - 1 - m := by omega
    rw [this]
    have h2 : xs.size - 1 - m < xs.size := by omega
    rw [Array.getElem?_eq_getElem h2, List.getD_eq_getElem?_getD, List.getElem?_reverse (by simpa using hm)]
    simp [h2]
  have : ∀ (l : List Nat) (f : Nat → Option Value) (g : Nat → Value), (∀ m ∈ l, f m = some (g m)) → l.filterMap f = l.map g := by
    intro l f g h
    induction l with
    | nil => rfl
    | cons a l ih => rw [List.filterMap_cons, h a (by simp), List.map_cons, ih fun m hm => h m (by simp [hm])]
  rw [this _ _ _ e]
  apply List.ext_getElem?
  intro j
  rw [List.getElem?_map]
  by_cases hj : j < xs.size
  · rw [List.getElem?_range hj]
    simp [hj]
  · rw [List.getElem?_eq_none (by simpa using hj), List.getElem?_eq_none (by simpa using hj)]
    rfl
/-- tuple.__getitem__ at a slice that goes backwards through all -/
theorem meets_tupBack (t sl : Addr) (items : Array Value) (vl vu vs : Value) (pl : IsPart vl none) (pu : IsPart vu none) (ps : IsPart vs (some (-1))) (fits : items.size ≤ sizeLine) :
    Meets (Builtin.«tuple.__getitem__» ⟨[.ref t, .ref sl], []⟩) (fun _ R s => IsTup s.heap t items ∧ s.heap.IsSliceOf sl vl vu vs ∧
      R (.ok (.ret (.ref s.heap.objs.size))) { s with heap := s.heap.push { cls := .type "tuple", data := .seq items.toList.reverse.toArray } }) := by
  refine .of_wp fun prog w A R s ⟨isT, isS, done⟩ => ?_
  have tyS : s.TypeIs (.ref sl) "slice" := let ⟨o, g, c, _⟩ := isS; ⟨o, g, c⟩
  have small : sizeOk (.seq items.toList.reverse.toArray) := by simpa [sizeOk] using fits
  wp_walk using tupleItemsOf_ isT, wpAny_typeOf tyS, sliceApplied_rev (A := A.in1) (n := items.size) isS pl pu ps
  have room : ¬ items.toList.reverse.toArray.size > sizeLine := by simpa using fits
  rw [pick_rev, if_neg room]
  wp_walk
  exact ⟨_, rfl, done⟩
end
section
variable {X : Cx} {a b c e : Expr} {f g : EM} {pos : Pos}
/-- a slice display of three parts: a new slice with these parts -/
theorem slice3 {lo hi st : Option Expr} {tl th ts : TO} {p : Pos} (hl : PO X lo tl) (hh : PO X hi th) (hs : PO X st ts) {pins : List (Addr × Obj)} {s : Shared} {σ : L2.St} {H : Hp} {Q : Option Int → Option Int → Option Int → Hp → Prop}
    (I : L2.Inv X pins σ H s) (q : tl σ H fun l H1 => th σ H1 fun h H2 => ts σ H2 fun d H3 => Q l h d H3) :
    wpAny (model X.prog X.w) X.A (eval (.Slice lo hi st p) X.env) (fun v s' => ∃ sl u1 u2 u3 l h d H', v = .ref sl ∧ s'.heap.IsSliceOf sl u1 u2 u3 ∧ IsPart u1 l ∧ IsPart u2 h ∧ IsPart u3 d ∧ L2.Inv X pins σ H' s' ∧ Q l h d H') X.xe s := by
  apply wpAny_Slice
  refine thn (hl.run pins s σ H _ I q) ?_
  rintro u1 s1 ⟨l, H1, I1, part1, q1⟩
  refine thn (hh.run pins s1 σ H1 _ I1 q1) ?_
  rintro u2 s2 ⟨h, H2, I2, part2, q2⟩
  refine thn (hs.run pins s2 σ H2 _ I2 q2) ?_
  rintro u3 s3 ⟨d, H3, I3, part3, q3⟩
  exact ⟨_, u1, u2, u3, l, h, d, H3, rfl, Heap.IsSliceOf.new _ u1 u2 u3, part1, part2, part3, I3.kept (t' := s3.toks) (fun _ _ old => Heap.get?_push_of_some _ old), q3⟩
def tRevT (K : PySem.W.Frag) (te : TE) : TE := fun σ H Q => te σ H fun x H1 => ∃ a xs, x = .ref a ∧ SqT K H1 a xs ∧ Laid H1 xs.reverse Q
theorem pe_revT {e : Expr} {te : TE} {k : Nat} {p1 p2 p3 pos : Pos} (he : PE X e te) : PE X (.Subscript e (.Slice none none (some (.UnaryOp .USub (.Constant (.int 1) k p1) p2)) p3) pos) (tRevT X.K te) := by
  constructor
  intro pins s σ H Q I want
  apply Subscript_
  refine thn (he.run pins s σ H _ I want) ?_
  rintro v s1 ⟨x, H1, I1, rel, a, xs, rfl, tup, give⟩
  cases rel
  refine thn (slice3 po_none po_none (po_some (pe_un un_neg pe_int)) I1 (Q := fun l h d H' => l = none ∧ h = none ∧ d = some (-1) ∧ H' = H1) ⟨1, rfl, -1, rfl, rfl, rfl, rfl, rfl⟩) ?_
  rintro v2 s2 ⟨sl, u1, u2, u3, l, h, d, H2, rfl, isS, part1, part2, part3, I2, rfl, rfl, rfl, rfl⟩
  obtain ⟨its, vals, isT, len⟩ := I2.tuple tup
  have fits : its.toArray.size ≤ sizeLine := by rw [List.size_toArray, ← vals.length]; exact len
  refine tail_any (T := "tuple") (id := "tuple.__getitem__") (ops := [.ref a, .ref sl]) isT.typeIs PySem.F.slot_tuple_getitem.lookup ?_ (by with_unfolding_all rfl)
  refine getItem_meets isT.typeIs (by decide) PySem.F.slot_tuple_getitem PySem.F.entry_tuple_getitem (PySem.F.args_tuple_getitem_2 _ _) (meets_tupBack a sl its.toArray u1 u2 u3 part1 part2 part3 fits) ⟨isT, isS, ?_⟩
  exact laid_ep I2 vals.reverse (by simpa using len) give
def revD : D → Option D
  | .tuple ds => some (.tuple ds.reverse)
  | .list ds => some (.list ds.reverse)
  | _ => none
theorem se_rev {k : Nat} {p1 p2 p3 : Pos} (he : SE X e f) : SE X (.Subscript e (.Slice none none (some (.UnaryOp .USub (.Constant (.int 1) k p1) p2)) p3) pos) (unM revD f) := ⟨⟨fun pins s σ H Q I h => by
  obtain ⟨z, r, F, d, r', R, e, k⟩ := h
  obtain ⟨x, e1, e2⟩ := unM_some e
  unfold revD at e2
  split at e2
  · cases e2
    refine (pe_revT he.pe).run pins s σ H Q I ⟨z, r, F, _, r', R, e1, fun v H' F' R' sb dv => ?_⟩
    obtain ⟨_, _, rfl, h1, h2⟩ := dv.inv
    refine ⟨_, _, rfl, R'.fh.sqt (sqt_of h1), fun p ob nd hp => ?_⟩
    obtain ⟨G, q⟩ := new_tup nd R'.fh hp (dpa_rev h2)
    exact k _ _ _ (R'.grow G) (sb.trans G.ff) q
  · cases e2
    refine (pe_revL he.pe).run pins s σ H Q I ⟨z, r, F, _, r', R, e1, fun v H' F' R' sb dv => ?_⟩
    obtain ⟨_, _, rfl, h1, h2⟩ := dv.inv
    refine ⟨_, _, rfl, R'.fh.sql h1, fun p hp => ?_⟩
    obtain ⟨G, q⟩ := new_lst R'.fh hp (dpa_rev h2)
    exact k _ _ _ (R'.grow G) (sb.trans G.ff) q
  · cases e2⟩⟩
/-! ### own + row: a new list -/
def catOwnM (i : Nat) (g : EM) : AM := fun r => (ownM i r).bind fun _ => (g r).bind fun q => match q.2[i]?, q.1 with
  | some (some (.l _ xs)), .list ys => if szOk (xs.length + ys.length) then some (xs ++ ys, q.2) else none
  | _, _ => none
theorem sl_catOwn (i : Nat) {x : Str} {p : Pos} (hb : SW X b g) (hN : X.N[i]? = some x := by rfl) (hv : Vis X.env.scope x := by first | exact Or.inl rfl | exact Or.inr (Or.inl rfl) | exact Or.inr (Or.inr rfl)) (hd : (x == ("__debug__" : Str)) = false := by decide)
    (hcd : (x == ("__classdict__" : Str)) = false := by decide) : SL X (.BinOp (.Name x p) .Add b pos) (catOwnM i g) :=
  ⟨pe_imp (pe_op op_catL (pe_var hN hv hd hcd) hb.pe) fun s H Q ⟨z, r, F, d, r', R, e, k⟩ => by
    unfold catOwnM at e
    simp only [Option.bind_eq_some_iff] at e
    obtain ⟨⟨p0, r0⟩, e0, ⟨y, r1⟩, e1, e2⟩ := e
    obtain ⟨b0, xs0, f1, f2, f3⟩ := ownM_some e0
    obtain ⟨v, h1, a, vs, rfl, h2, h3, h4, h5, h6⟩ := R.slots i _ f1
    split at e2
    · rename_i bb xs ys hxs hys
      have hxs : r1[i]? = some (some (.l bb xs)) := hxs
      have hys : y = .list ys := hys
      subst hys
      split at e2
      · rename_i hz
        cases e2
        refine ⟨_, h1, z, r, F, _, r1, R, e1, fun w H2 F2 R2 sb2 dy => ?_⟩
        obtain ⟨v', h1', a', vs', rfl, h2', h3', h4', h5', h6'⟩ := R2.slots i _ hxs
        have ea : a' = a := by have := h1.symm.trans h1'; cases this; rfl
        subst ea
        obtain ⟨c, ws, rfl, q1, q2⟩ := dv_lst R2.fh dy
        refine ⟨a', c, vs', ws, rfl, rfl, .inl (.inl h2'), q1, by rw [dpa_len h5', dpa_len q2]; exact szOk_le hz, fun p hp => ?_⟩
        obtain ⟨R3, g1, g2, g3, g4⟩ := R2.loose (vs := vs' ++ ws) hp
        exact k p _ _ F2 R3 sb2 g1 g2 g3 g4 (dpa_app h5' q2)
      · cases e2
    · cases e2⟩
end
/-! ### what a body is worth -/
def runF (N : List Str) (body : SM) (ds : List D) : Option D := match body (startD N ds) with
  | some (.rt d _) => some d
  | some (.nx _) => some .none
  | _ => none
def runR (N : List Str) (j : Nat) (body : SM) (ds xs : List D) : Option (D × List D) := match body (startR N j ds xs) with
  | some (.rt d r) => (endR j r).map fun ys => (d, ys)
  | some (.nx r) => (endR j r).map fun ys => (.none, ys)
  | _ => none
section
variable {P : Program} {w : World} {K : PySem.W.Frag} {mg : Str → Option Value} {base : Heap}
theorem fn_run {x qual : Str} {st : Stmt} {f : Addr} {fd : FuncData} {N ps : List Str} {k : Nat} {body : SM} (F : Fun K x qual st f fd) (S : FnScope N ps (defScope st))
    (hb : ∀ (cdv : Value) (A : Around) (outer : List Env) (s : Shared) (H : Hp) (E : XK), Room k (A.deeper (envOfC qual (defScope st) s.heap.objs.size f cdv)) →
      SSs (cxOf CX0 P w K mg base N qual (defScope st) f cdv A outer s H E).nox (fun _ _ => False) (defBody st) body) : FnOk P w K mg base CX0 (k + 1) f fd ps (spF K ps.length (runF N body)) :=
  fn_ok F S (runF N body) body hb fun ds d e => by
    unfold runF at e
    split at e
    · rename_i d' r' h; cases e; exact .inl ⟨r', h⟩
    · rename_i r' h; cases e; exact .inr ⟨rfl, r', h⟩
    · cases e
theorem fn_runR {x qual : Str} {st : Stmt} {f : Addr} {fd : FuncData} {N ps : List Str} {k : Nat} {body : SM} (j : Nat) (F : Fun K x qual st f fd) (S : FnScope N ps (defScope st))
    (hb : ∀ (cdv : Value) (A : Around) (outer : List Env) (s : Shared) (H : Hp) (E : XK), Room k (A.deeper (envOfC qual (defScope st) s.heap.objs.size f cdv)) →
      SSs (cxOf CX0 P w K mg base N qual (defScope st) f cdv A outer s H E).nox (fun _ _ => False) (defBody st) body) : FnOk P w K mg base CX0 (k + 1) f fd ps (spR K ps.length j (runR N j body)) :=
  fn_okR j F S (runR N j body) body hb fun ds xs d xs' e => by
    unfold runR at e
    split at e
    · rename_i d' r' h
      simp only [Option.map_eq_some_iff] at e
      obtain ⟨ys, e1, e2⟩ := e
      cases e2; exact ⟨r', .inl h, e1⟩
    · rename_i r' h
      simp only [Option.map_eq_some_iff] at e
      obtain ⟨ys, e1, e2⟩ := e
      cases e2; exact ⟨r', .inr ⟨rfl, h⟩, e1⟩
    · cases e
/-- a promise of nothing -/
theorem spF_none {f : Addr} {fd : FuncData} {ps : List Str} {k : Nat} : FnOk P w K mg base CX0 k f fd ps (spF K ps.length fun _ => none) :=
  ⟨fun vs H Q E h => h.1, fun A outer s H args us vs Q E _ _ _ _ h => by obtain ⟨_, _, _, _, _, _, e, _⟩ := h; cases e⟩
end
/-- room in units -/
structure Un1 (A : Around) : Prop where
  c0 : A.units < cLine
  c1 : A.units + 1 < cLine
  c64 : A.units + 64 < cLine
  c65 : A.units + 65 < cLine
  c100 : A.units + 100 < cLine
theorem un1 {k : Nat} {A : Around} (hr : Room k A) : Un1 A := by
  have := hr.un
  exact ⟨by omega, by omega, by omega, by omega, by omega⟩
end DL
namespace DL
open PySem L2 PyProof.Rows PySem.Spec PySem.W
/-- the law's end -/
theorem law_end {K : PySem.W.Frag} {H : Hp} {a : Addr} {ns : List Int} {g : List D → Option D} {E : XK} (h : g [.list (ns.map PyData.int)] = some (.bool true)) (hS : SqL K H a (ns.map V.int)) : spF K 1 g [.ref a] H (fun v _ => v = .bl true) E :=
  ⟨rfl, H, [.list (ns.map PyData.int)], .bool true, .refl _, .cons (.lst hS (dpa_ints_mk ns)) .nil, h, fun _ _ _ _ dd => dd.inv⟩
end DL
namespace DL
open PySem L2 PyProof.Rows PySem.Spec
/-! ### t.index(x), t a tuple that holds no flat things alone -/
end DL
namespace DL
open PySem L2 PyProof.Rows PySem.Spec
/-! ### a set made of a tuple of ints, of which only the length is asked -/
def dedup : List Int → List Int
  | [] => []
  | a :: as => if a ∈ as then dedup as else a :: dedup as
theorem mem_dedup {a : Int} : ∀ {as : List Int}, a ∈ dedup as ↔ a ∈ as
  | [] => by simp [dedup]
  | b :: as => by
    unfold dedup
    split
    · rename_i h
      rw [mem_dedup, List.mem_cons]
      exact ⟨.inr, fun q => q.elim (fun e => e ▸ h) id⟩
    · rw [List.mem_cons, List.mem_cons, mem_dedup]
theorem dedup_nodup : ∀ as : List Int, (dedup as).Nodup
  | [] => by simp [dedup]
  | b :: as => by
    unfold dedup
    split
    · exact dedup_nodup as
    · rename_i h
      rw [List.nodup_cons]
      exact ⟨fun m => h (mem_dedup.mp m), dedup_nodup as⟩
end DL
namespace DL
open PySem L2 PyProof.Rows PySem.Spec
/-! ### enumerate(t), t a tuple or a list -/
/-- numbered things of the tuple at a, each in a new pair -/
def enumIt (K : PySem.W.Frag) (a : Addr) : It where
  go i H := ∃ xs, SqT K H a xs ∧ i < xs.length
  stop i H := ∃ xs, SqT K H a xs ∧ i = xs.length
  yld i H v H' := ∃ T x, v = .ref T ∧ H T = none ∧ H' = upd H T (.tup [.int (i : Nat), x]) ∧ ∀ xs, SqT K H a xs → xs[i]? = some x
theorem walk_enumIt {K : PySem.W.Frag} {a : Addr} {xs : List V} : Walk (enumIt K a) xs.length (fun H => SqT K H a xs) (YPair (fun i => some (.int (i : Nat))) (fun i => xs[i]?)) where
  goes m H lt tup := ⟨xs, tup, lt⟩
  stops H tup := ⟨xs, tup, rfl⟩
  yields := by
    rintro m H v H' - tup ⟨T, x, ev, new, eH, at_⟩
    exact ⟨T, _, x, ev, new, eH, rfl, at_ xs tup⟩
/-- the library's walk of an enumerate object over what a tuple's iterator draws -/
theorem walks_enum {P : Program} {w : World} {A : Around} (calm : A.handled = none) {a e it : Addr} (h1 : e ≠ it) (h2 : e ≠ a) (h3 : a ≠ it) (items : Array Value) :
    WalksT P w A e [e, it, a] [e, it] items.size (fun i vals => ∃ t x, items[i]? = some x ∧ vals = #[.int i t, x]) (fun i h => (∃ old, IsEnum h e it i old) ∧ h.IsTupleIter it a i ∧ h.IsTuple a items)
      (fun i T h => (∃ x, IsEnumOut h e it ((i : Int) + 1) x T) ∧ (h.IsTupleIter it a (i + 1) ∧ h.IsTuple a items) ∧ T ≠ e ∧ T ≠ it) :=
  WalksT.enumerateD (Draws.tuple (show A.in1.handled = none from calm) it a h3 items) e h1 (by simp [h1, h2]) (by simp)
theorem turn_enumT {P : Program} {w : World} {K : PySem.W.Frag} {elts : List Expr} {kk : Nat} {tpos : Pos} {a e it : Addr} (h1 : e ≠ it) (h2 : e ≠ a) (h3 : a ≠ it) :
    Turn P w K (.Tuple elts kk tpos) (enumIt K a) [e, it] e (fun i h => (∃ old, IsEnum h e it (i : Nat) old) ∧ h.IsTupleIter it a i) where
  mem := List.mem_cons_self
  obj := by
    rintro i h ⟨⟨old, en⟩, ⟨ob, at_, _, data⟩⟩ b mb
    rcases List.mem_cons.mp mb with rfl | mb
    · exact ⟨_, en, nofun⟩
    · cases List.mem_singleton.mp mb
      exact ⟨ob, at_, fun v q => by rw [data] at q; cases q⟩
  keep := by
    rintro i h h' ⟨⟨old, en⟩, iter⟩ same
    exact ⟨⟨old, same e (by simp) _ en⟩, iter.at (same it (by simp))⟩
  item := by
    rintro X rfl rfl rfl calm i pins s σ H E I own ⟨en, iter⟩ ⟨xs, tup, lt⟩
    obtain ⟨its, vals, isT, _⟩ := I.tuple tup
    have W := walks_enum (P := X.prog) (w := X.w) (I.ok.hd calm) h1 h2 h3 its.toArray
    have lt' : i < its.toArray.size := by simpa [← vals.length] using lt
    refine W.item i s _ _ lt' ⟨en, iter, isT⟩ ?_
    rintro T row g1 tk ⟨t, x, hx, rfl⟩ newer isRow mid same1
    refine ⟨.ref T, rfl, W.go elts kk tpos i T _ _ _ mid fun g2 st same2 => ?_⟩
    have other := W.apart i T _ mid
    obtain ⟨u, hu, ru⟩ := vals.get (List.getElem?_eq_getElem lt)
    have exu : x = u := by
      have : its[i]? = some x := by simpa using hx
      rw [hu] at this; exact (Option.some.inj this).symm
    subst exu
    have pair : g2.IsTuple T #[.int i t, x] := isRow.at fun o q => same2 T o other q
    have made : ObjOk X.prog X.w (upd H T (.tup [.int (i : Nat), xs[i]])) g2 T (.tup [.int (i : Nat), xs[i]]) :=
      ⟨by show 2 ≤ sizeLine; decide, [.int i t, x], .cons ⟨_, rfl⟩ (.cons ru .nil), pair⟩
    have I2 := I.turnedNew (t' := tk) (ch := [e, it]) (fun b o nb q => same2 b o nb (same1 b o nb q)) own newer made
    refine ⟨.ref T, _, I2, rfl, ⟨T, xs[i], rfl, I.hok.fresh newer, rfl, fun ys ty => ?_⟩, ⟨by simpa using st.1, st.2.1⟩, fun b mb => ?_⟩
    · rw [I.tuple_inj ty tup]; exact List.getElem?_eq_getElem lt
    · have ne : b ≠ T := fun q => other (q ▸ mb)
      rw [upd_ne ne]
      exact (own b mb).1
  done := by
    rintro X rfl rfl rfl calm i pins s σ H E I own ⟨en, iter⟩ ⟨xs, tup, rfl⟩
    obtain ⟨its, vals, isT, _⟩ := I.tuple tup
    have W := walks_enum (P := X.prog) (w := X.w) (I.ok.hd calm) h1 h2 h3 its.toArray
    have all : its.toArray.size = xs.length := by simp [vals.length]
    refine W.done s _ _ ?_ fun g tk same => ⟨rfl, I.turnedL (t' := tk) (ch := [e, it]) same own⟩
    rw [all]
    exact ⟨en, iter, isT⟩
  self A i s Q E st q := let ⟨⟨_, en⟩, _⟩ := st; wpAny_pyIter_enum en q
/-- enumerate.__new__ of anything that an iterator begins at -/
theorem meets_enumNew {v : Value} {o : Obj} {G : Heap → Prop} (B : Begins v o G) : Meets (Builtin.«enumerate.__new__» ⟨[.type "enumerate", v], []⟩) (fun _ R s => G s.heap ∧
    R (.ok (.ret (.ref (s.heap.objs.size + 1)))) { s with heap := (s.heap.push o).push { cls := .type "enumerate", data := .fields #[.none, .bool false, .ref s.heap.objs.size, rawInt 0, .none, .none] } }) := by
  refine .of_wp fun prog w A R s ⟨begins, done⟩ => ?_
  have own := sub_enumerate
  have iter := fun {A' : Around} {E' : Value → Shared → Prop} {Q' : Value → Shared → Prop} => B.iter prog w A' E' s Q' begins
  wp_walk using iter
  apply wpAny_stack_any
  intro calls
  apply wpAny_pure
  have size : (s.heap.push o).objs.size = s.heap.objs.size + 1 := Heap.size_push ..
  rw [← size] at done
  dsimp only
  by_cases short : (match List.drop 1 calls with | (Code.builtin "type.__call__" { pos := c :: tail, kw := kw }, snd) :: tail_1 => c == Value.type "enumerate" | x => false) = true
  · erw [if_pos short]
    wp_walk using iter
    exact ⟨_, rfl, done⟩
  · erw [if_neg short]
    wp_walk using iter
    exact ⟨_, rfl, done⟩
/-- what enumerate(t) of a tuple makes -/
theorem call_enumT {prog : Program} {w : World} {A : Around} {E : Value → Shared → Prop} {s : Shared} {a : Addr} {items : Array Value} {Q : Value → Shared → Prop} (isT : s.heap.IsTuple a items)
    (q : ∀ g, IsEnum g (s.heap.objs.size + 1) s.heap.objs.size (0 : Nat) .none → g.IsTupleIter s.heap.objs.size a 0 → (∀ b o, s.heap.get? b = some o → g.get? b = some o) → Q (.ref (s.heap.objs.size + 1)) { s with heap := g }) : wpAny (model prog w) A (call (.type "enumerate") [.ref a]) Q E s := by
  have B := begins_tuple a items
  refine callType_new F.called_enumerate (by decide) (F.typeCall_enumerate_1 _) (F.newCall_enumerate_1 _) (fun obj => F.args_object_init_2 obj _) F.entry_enumerate_new (meets_enumNew B) ⟨isT, ?_⟩
  have size : (s.heap.push { cls := .type "tuple_iterator", data := .fields #[.ref a, .int 0 0] }).objs.size = s.heap.objs.size + 1 := Heap.size_push ..
  have en := Heap.get?_push_size (s.heap.push { cls := .type "tuple_iterator", data := .fields #[.ref a, .int 0 0] }) (o := { cls := .type "enumerate", data := .fields #[.none, .bool false, .ref s.heap.objs.size, rawInt 0, .none, .none] }) rfl
  rw [size] at en
  have two := fun b o (old : s.heap.get? b = some o) => Heap.get?_push_of_some { cls := .type "enumerate", data := .fields #[.none, .bool false, .ref s.heap.objs.size, rawInt 0, .none, .none] } (Heap.get?_push_of_some { cls := .type "tuple_iterator", data := .fields #[.ref a, .int 0 0] } old)
  exact ⟨⟨_, en, rfl⟩, q _ en ⟨_, Heap.get?_push_of_some _ (Heap.get?_push_size _ B.free), rfl, rfl⟩ two⟩
def tEnum (K : PySem.W.Frag) (ta : TA) : TI := fun σ H R => ta σ H fun vs H1 => ∃ a xs, vs = [.ref a] ∧ SqT K H1 a xs ∧ R (enumIt K a) H1
theorem pi_enumT {X : Cx} {e : Expr} {ta : TA} {p pos tpos : Pos} {elts : List Expr} {kk : Nat} (hg : Gl X "enumerate") (hm : X.mg "enumerate" = none) (ha : PA X [e] ta) (star : starEach [e] X.env = [(false, eval e X.env)]) :
    PI X (.Tuple elts kk tpos) (.Call (.Name "enumerate" p) [e] [] pos) (tEnum X.K ta) := by
  constructor
  intro pins s σ H R I want
  refine Call_ (ld_blt I hg hm boot_enumerate ?_)
  refine PyProof.Rows.callWith_type1 (thn (ha.run pos pins s σ H _ I want) ?_) star rfl
  rintro us s1 ⟨vs, H1, I1, rel, a, xs, rfl, tup, r⟩
  obtain ⟨u, rfl, ru⟩ := vals1 rel
  cases ru
  obtain ⟨its, _, isT, _⟩ := I1.tuple tup
  have older : a < s1.heap.objs.size := let ⟨_, at_, _⟩ := isT; Heap.lt_size at_
  refine call_enumT (items := its.toArray) isT fun g en iter same => wpAny_pyIter_enum en ?_
  refine ⟨_, _, _, _, H1, rfl, I1.kept (t' := s1.toks) same, turn_enumT (Nat.succ_ne_self _) (Nat.ne_of_gt (Nat.lt_succ_of_lt older)) (Nat.ne_of_lt older), ⟨⟨_, en⟩, iter⟩, fun b mb => ?_, r⟩
  have new : s1.heap.objs.size ≤ b := by
    rcases List.mem_cons.mp mb with rfl | mb
    · exact Nat.le_succ _
    · exact Nat.le_of_eq (List.mem_singleton.mp mb).symm
  exact I1.fpOk new (I1.hok.fresh new)
/-- numbered things -/
def enumL (ds : List D) : List D := zipL ((List.range ds.length).map fun (i : Nat) => PyData.int (i : Int)) ds
theorem walkD_enum {K : PySem.W.Frag} {F : Hp} {J : It} {vs : List V} {ds : List D} (each : DpAll K F vs ds) (w : Walk J vs.length (fun H => SubH F H) (YPair (fun i => some (.int (i : Nat))) (fun i => vs[i]?))) : WalkD K true F J (enumL ds) := by
  have many : (enumL ds).length = vs.length := by simp [enumL, zipL, dpa_len each]
  refine ⟨⟨_, many ▸ w, ?_⟩⟩
  rintro i H x H' ⟨T, n, y, rfl, new, rfl, hn, hy⟩ F' sb sh
  cases hn
  obtain ⟨d, at_, dy⟩ := dpa_at each hy
  obtain ⟨F2, G, q⟩ := pair_step sh new (.int (i : Nat)) (dp_mono sb dy)
  have lt := (List.getElem?_eq_some_iff.mp at_).1
  exact ⟨F2, _, zipL_get (by simp [lt]) at_, G, q⟩
def enumM (f : EM) : AM := fun r => (f r).bind fun p => (itemsOf p.1).map fun ds => (enumL ds, p.2)
section
variable {X : Cx} {a : Expr} {f : EM} {pos : Pos}
theorem si_enum {p tpos : Pos} {elts : List Expr} {kk : Nat} (hg : Gl X "enumerate") (hm : X.mg "enumerate" = none) (ha : SE X a f) (star : starEach [a] X.env = [(false, eval a X.env)] := by rfl) :
    SI X true (.Tuple elts kk tpos) (.Call (.Name "enumerate" p) [a] [] pos) (enumM f) := ⟨⟨fun pins s σ H R I ⟨z, r, F, ds, r', Rr, e, k⟩ => by
  obtain ⟨⟨x, r1⟩, e1, e2⟩ := Option.bind_eq_some_iff.mp e
  obtain ⟨row, e3, e4⟩ := Option.map_eq_some_iff.mp e2
  cases e4
  have args := pa_cons ha.pe pa_nil star
  cases x with
  | tuple l =>
    cases e3
    refine (pi_enumT hg hm args star).run pins s σ H R I ⟨z, r, F, _, _, Rr, e1, fun v H1 F1 R1 sb dv => ?_⟩
    obtain ⟨t, vs, rfl, tup, each⟩ := dv.inv
    exact ⟨t, vs, rfl, R1.fh.sqt (sqt_of tup), k _ _ _ R1 sb (walkD_enum each (walk_enumIt.mono (fun _ sub => sub.sqt (sqt_of tup)) fun _ _ _ _ _ _ y => y))⟩
  | list l =>
    cases e3
    refine (pi_enum hg hm args star).run pins s σ H R I ⟨z, r, F, _, _, Rr, e1, fun v H1 F1 R1 sb dv => ?_⟩
    obtain ⟨t, vs, rfl, lst, each⟩ := dv.inv
    exact ⟨t, vs, rfl, R1.fh.sql lst, k _ _ _ R1 sb (walkD_enum each (walk_enum.mono (fun _ sub => sub.sql lst) fun _ _ _ _ _ _ y => y))⟩
  | _ => cases e3⟩⟩
end
/-! ### raise, where no one takes it -/
def exM (c : String) : SM := fun r => some (.ex c r)
end DL
namespace DL
open PySem L2 PyProof.Rows PySem.Spec
/-! ### a new list said so often: [x] * n -/
end DL
namespace DL
open PySem L2 PyProof.Rows PySem.Spec
/-! ### own dicts: a display of one pair, in, sorted keys -/
section
variable {X : Cx} {W : String → Hp → Prop} {a b e : Expr} {f g : EM} {pos : Pos}
theorem sorted_is {ys ks : List Int} (p : ys.Perm ks) (up : ys.Pairwise (· ≤ ·)) : ys = ks.mergeSort fun a b => decide (a ≤ b) := by
  have up2 := List.pairwise_mergeSort (le := fun a b : Int => decide (a ≤ b)) (by simp; omega) (by simp; omega) ks
  refine (p.trans (List.mergeSort_perm ks _).symm).eq_of_pairwise ?_ up (up2.imp fun h => of_decide_eq_true h)
  intro a b _ _ h1 h2
  exact Int.le_antisymm h1 h2
end
end DL
namespace DL
open PySem L2 PyProof.Rows PySem.Spec
/-! ### what is raised: classes of the program's own, made with no argument -/
/-- what is known of such a class -/
structure Err (K : PySem.W.Frag) (mg : Str → Option Value) (c : String) (C : Addr) : Prop where
  made : ∃ B newId initId bm, ExcBaseFacts B newId initId bm ∧ PySem.W.excIn K C bm newId = true
  at_ : mg (Str.ofString c) = some (.ref C)
  keep : PySem.W.keepIn K (.ref C) = true
  base : PySem.W.subIn K (.ref C) (.type "BaseException") = some true
  type : PySem.W.typeIn K (.ref C) = some (.type "type")
  self : PySem.W.exmOne K (.ref C) (.ref C) = some true
section
variable {X : Cx} {c : String} {C : Addr} {p pos pos' : Pos}
theorem call_err {pins : List (Addr × Obj)} {σ : L2.St} {H : Hp} {s : Shared} {Q : XK} (T : Err X.K X.mg c C) (I : Inv X pins σ H s) (q : Q (.ref C) none H) : wpAny (model X.prog X.w) X.A (call (.ref C) []) (MkP X pins σ Q) X.xe s := by
  obtain ⟨_, _, _, _, F, ex⟩ := T.made
  have cls := exc_obj I.kIn ex
  obtain ⟨_, _, _, _, _, _, _, _, _, _, _, _, _, _, _, _, _, there, names, bare, tail⟩ := cls
  exact wpAny_call_exc_subT F tail there names bare (fun _ _ new => mk_of I new (raises_own T.base T.type) q (I.hok.gone new.new)) (Nat.zero_le _)
theorem pmk_err (T : Err X.K X.mg c C) (hg : Gl X (Str.ofString c)) (hdb : (Str.ofString c == ("__debug__" : Str)) = false) : PMk X (.Call (.Name (Str.ofString c) p) [] [] pos) (fun _ H Q => Q (.ref C) none H) :=
  fun pins s σ H Q I q => wpAny_Call_Name_kw (ld_glob I hg T.at_ (PySem.W.callWith_K0 I.kIn T.keep (call_err T I q)) hdb)
/-- what is wished of what a def lets out -/
def Let (mg : Str → Option Value) (E : XK) (c : String) (H : Hp) : Prop := ∀ C, mg (Str.ofString c) = some (.ref C) → E (.ref C) none H
theorem ss_raise {E : XK} (hc : X.calm = true) (tk : Takes X fun cls d _ H => E cls d H) (T : Err X.K X.mg c C) (hg : Gl X (Str.ofString c)) (hdb : (Str.ofString c == ("__debug__" : Str)) = false) :
    SS X (Let X.mg E) (.Raise (some (.Call (.Name (Str.ofString c) p) [] [] pos)) none pos') (exM c) :=
  ⟨ps_imp (ps_raise hc tk (pmk_err T hg hdb)) fun D s H ⟨z, r, F, o, R, e, k⟩ => by cases e; exact k _ _ _ R (.refl _) C T.at_⟩
end
/-! ### a def that may raise -/
def runX (N : List Str) (body : SM) (ds : List D) : Option (Except String D) := match body (startD N ds) with
  | some (.rt d _) => some (.ok d)
  | some (.nx _) => some (.ok .none)
  | some (.ex c _) => some (.error c)
  | _ => none
def spX (K : PySem.W.Frag) (mg : Str → Option Value) (n : Nat) (g : List D → Option (Except String D)) : Sp := fun vs H Q E => vs.length = n ∧ ∃ F ds o, SubH F H ∧ DpAll K F vs ds ∧ g ds = some o ∧ ∀ H' F', Grow F H F' H' →
  (∀ d v, o = .ok d → Dp K F' v d → Q v H') ∧ ∀ c, o = .error c → Let mg E c H'
section
variable {P : Program} {w : World} {K : PySem.W.Frag} {mg : Str → Option Value} {base : Heap}
theorem fn_runX {x qual : Str} {st : Stmt} {f : Addr} {fd : FuncData} {N ps : List Str} {k : Nat} {body : SM} (F : Fun K x qual st f fd) (S : FnScope N ps (defScope st))
    (hb : ∀ (cdv : Value) (A : Around) (outer : List Env) (s : Shared) (H : Hp) (E : XK), Room k (A.deeper (envOfC qual (defScope st) s.heap.objs.size f cdv)) →
      SSs (cxOf (L2.CX P w) P w K mg base N qual (defScope st) f cdv A outer s H E) (Let mg E) (defBody st) body) : FnOk P w K mg base (L2.CX P w) (k + 1) f fd ps (spX K mg ps.length (runX N body)) := by
  refine F.okX S (fun vs H Q E h => h.1) fun cdv A outer s H vs Q E hr h => ⟨_, (hb cdv A outer s H E hr).ps, ?_⟩
  obtain ⟨hlen, F0, ds, o, sb, dv, e, q⟩ := h
  have fit := names_fit S
  have gr : ∀ {r' : Rho} {s' : L2.St} {H' F' : Hp}, Rep K ⟨H, F0, fun _ => none⟩ r' s' H' F' → Grow F0 H F' H' := fun R' => ⟨R'.f0, R'.old, R'.fh, R'.nw⟩
  unfold runX at e
  refine ⟨⟨H, F0, fun _ => none⟩, startD N ds, F0, ?_⟩
  have R := rep_start (N := N) sb dv (by omega)
  split at e
  · rename_i d r' h; cases e
    exact ⟨_, R, h, fun v s' H' F' R' _ dd => (q _ _ (gr R')).1 _ _ rfl dd⟩
  · rename_i r' h; cases e
    exact ⟨_, R, h, fun s' H' F' R' _ => (q _ _ (gr R')).1 _ _ rfl .non⟩
  · rename_i c r' h; cases e
    exact ⟨_, R, h, fun s' H' F' R' _ => (q _ _ (gr R')).2 _ rfl⟩
  · cases e
end
/-! ### x = f(..) in a try with one clause -/
def tryM (i : Nat) (g : List D → Option (Except String D)) (f : AM) (c : String) (h : SM) : SM := fun r => (f r).bind fun p => (g p.1).bind fun o => match o with
  | .ok d => some (.nx (p.2.set i (some (.d d))))
  | .error c' => if c' = c then h p.2 else none
section
variable {X : Cx} {W : String → Hp → Prop} {c : String} {C : Addr} {e : Expr} {es : List Expr} {b₀ : Stmt} {suite : List Stmt} {fs : AM} {h : SM} {p px pa pc ph np pt : Pos}
theorem ss_try {k : Nat} {fa : Addr} {fd : FuncData} {ps : List Str} {g : List D → Option (Except String D)} {fn x : Str} (i : Nat) (hN : X.N.Nodup) (G : FnOk X.prog X.w X.K X.mg X.base (L2.CX X.prog X.w) k fa fd ps (spX X.K X.mg ps.length g))
    (hr : Room k X.A) (hgf : Gl X fn) (hmf : X.mg fn = some (.ref fa)) (hkf : PySem.W.keepIn X.K (.ref fa) = true) (hbf : Binds X.K fd ps []) (ha : ∀ pn xe, SA (X.tr pn xe) (e :: es) fs) (hps : ps.length = (e :: es).length)
    (T : Err X.K X.mg c C) (hgc : Gl X (Str.ofString c)) (hdc : (Str.ofString c == ("__debug__" : Str)) = false) (hst : X.stack = X.env :: X.outer) (hfr : X.env.frame = some X.env.locals) (hsu : ∀ a pn, SSs (X.suite a pn) W (b₀ :: suite) h)
    (hi : X.N[i]? = some x := by rfl) (hx : Loc X.env.scope x := by first | exact Or.inl rfl | exact Or.inr rfl) (hsw : swapsWith (.Call (.Name fn p) (e :: es) [] pc) (some (.Name x px)) pa.line X.env = pure false := by rfl)
    (hfn : X.fn x = true ∨ X.env.scope.names.lookup x = some .local := by first | exact .inl rfl | exact .inr rfl | assumption)
    (hdb : (fn == ("__debug__" : Str)) = false := by decide) (he : starEach (e :: es) X.env = (false, eval e X.env) :: starEach es X.env := by rfl) (hpl : (backTo pc (starEach es X.env)).any (·.1) = false := by rfl) :
    SS X W (.Try [.Assign [.Name x px] (.Call (.Name fn p) (e :: es) [] pc) pa] [.ExceptHandler (some (.Name (Str.ofString c) np)) none (b₀ :: suite) ph] [] [] pt) (tryM i g fs c h) := by
  refine ⟨ps_imp (ps_try_only (tb := fun V => tAsg (tCallS (spX X.K X.mg ps.length g) (WE V) (liftA X.K fs)) (gName i)) (ts := fun _ _ _ => liftS X.K W h) (Wout := fun _ _ _ _ => False) hst hfr ⟨hgc, hdc, .inl T.at_⟩ takes0
    (fun V pn xe tk _ => pss_one (ps_set (X := X.tr pn xe) hN hi hx (pe_callS (X := X.tr pn xe) G hr hgf hmf hkf hbf (fun σ => passAt tk σ) (ha pn xe).pa hdb he hpl) hsw hfn)) (fun a oe cls d pn _ _ => (hsu a _).ps)) fun D s H ⟨z, r, F, o, R, ev, k⟩ => ?_⟩
  obtain ⟨⟨ds, r1⟩, e1, e2⟩ := Option.bind_eq_some_iff.mp ev
  obtain ⟨o1, e3, e4⟩ := Option.bind_eq_some_iff.mp e2
  refine ⟨z, r, F, ds, r1, R, e1, fun vs H1 F1 R1 sb dv => ⟨?_, F1, ds, o1, R1.fh, dv, e3, fun H' F' gr => ⟨fun d v eo dd => ?_, fun c' eo C' at' => ?_⟩⟩⟩
  · rw [dpa_len dv, hps]
    exact (ha [] X.xe).len _ _ _ e1
  · subst eo
    cases e4
    exact k _ _ _ ((R1.grow gr).put dd) (sb.trans gr.ff)
  · subst eo
    by_cases q : c' = c
    · subst q
      have eC : C' = C := by
        have := at'.symm.trans T.at_
        cases this; rfl
      subst eC
      simp only [if_true] at e4
      exact ⟨true, T.self, fun _ a _ => ⟨z, r1, F', o, R1.grow gr, e4, k.mono (sb.trans gr.ff)⟩, fun no => by cases no⟩
    · simp only [if_neg q] at e4
      cases e4
end
end DL
namespace DL
open PySem L2 PyProof.Rows PySem.Spec
/-! ### tuple(range(n)), list(range(n)) -/
end DL
/-! slots that are forgotten; a, b = x, y -/
namespace DL
open PySem L2
section
variable {X : Cx} {W : String → Hp → Prop} {a b c e : Expr} {st : Stmt} {sts : List Stmt} {f g : SM} {pos : Pos}
theorem Rep.forget {K : PySem.W.Frag} {z : Fx} {r : Rho} {s : L2.St} {H F : Hp} (R : Rep K z r s H F) (is : List Nat) : Rep K z (wipeR r is) s H F :=
  R.weaken (by rw [wipeR_length, R.len]) fun j sv e => ⟨(wipeR_get e).1, fun _ h => h⟩
def wipO (is : List Nat) : Out → Out
  | .nx r => .nx (wipeR r is)
  | .ct r => .ct (wipeR r is)
  | .bk r => .bk (wipeR r is)
  | o => o
/-- what was in some slots is forgotten at the end -/
def wipM (is : List Nat) (f : SM) : SM := fun r => (f r).map (wipO is)
theorem wip_core {is : List Nat} {D : Ends} {s : L2.St} {H : Hp} (q : liftS X.K W (wipM is f) D s H) : liftS X.K W f D s H := by
  obtain ⟨z, r, F, o, R, e, k⟩ := q
  unfold wipM at e
  simp only [Option.map_eq_some_iff] at e
  obtain ⟨o1, e1, rfl⟩ := e
  refine ⟨z, r, F, o1, R, e1, ?_⟩
  cases o1 with
  | nx r1 => exact fun s' H' F' R' sb => k s' H' F' (R'.forget is) sb
  | ct r1 => exact fun s' H' F' R' sb => k s' H' F' (R'.forget is) sb
  | bk r1 => exact fun s' H' F' R' sb => k s' H' F' (R'.forget is) sb
  | rt d r1 => exact k
  | ex c r1 => exact k
theorem ss_wip (is : List Nat) (h : SS X W st f) : SS X W st (wipM is f) := ⟨ps_imp h.ps fun D s H q => wip_core q⟩
theorem sss_wip (is : List Nat) (h : SSs X W sts f) : SSs X W sts (wipM is f) := ⟨pss_imp h.ps fun D s H q => wip_core q⟩
/-- .. ahead -/
def preM (is : List Nat) (f : SM) : SM := fun r => f (wipeR r is)
theorem ss_pre (is : List Nat) (h : SS X W st f) : SS X W st (preM is f) := ⟨ps_imp h.ps fun D s H ⟨z, r, F, o, R, e, k⟩ => ⟨z, wipeR r is, F, o, R.forget is, e, k⟩⟩
/-! two stores at once -/
def two (i j : Nat) (r : Rho) : List D → Option Out
  | [d, e] => some (.nx ((r.set i (some (.d d))).set j (some (.d e))))
  | _ => none
end
end DL
/-! sorted(dict(ps)), len(dict(ps)): ps a list of pairs whose first is an int -/
namespace DL
open PySem L2
def headI : D → Option (Int × D)
  | .tuple [.int k, v] => some (k, v)
  | _ => none
def headsI : List D → Option (List (Int × D))
  | [] => some []
  | d :: ds => (headI d).bind fun p => (headsI ds).map (p :: ·)
theorem headI_some {d : D} {p : Int × D} (h : headI d = some p) : d = .tuple [.int p.1, p.2] := by
  unfold headI at h
  split at h
  · cases h; rfl
  · cases h
theorem mergeK_keys : ∀ (more kvs : List (Key × V)), (kvs.map (·.1)).Nodup → ((mergeK kvs more).map (·.1)).Nodup ∧ ∀ k, k ∈ (mergeK kvs more).map (·.1) ↔ k ∈ kvs.map (·.1) ∨ k ∈ more.map (·.1)
  | [], kvs, h => ⟨h, fun k => by simp [mergeK]⟩
  | (k0, v0) :: more, kvs, h => by
    have step : ((putK kvs k0 v0).map (·.1)).Nodup ∧ ∀ k, k ∈ (putK kvs k0 v0).map (·.1) ↔ k ∈ kvs.map (·.1) ∨ k = k0 := by
      unfold putK
      split
      · rename_i there
        have e : (kvs.map fun kv => if kv.1 = k0 then (kv.1, v0) else kv).map (·.1) = kvs.map (·.1) := by
          rw [List.map_map]
          refine List.map_congr_left fun kv _ => ?_
          simp only [Function.comp]
          split <;> rfl
        rw [e]
        refine ⟨h, fun k => ⟨.inl, fun q => ?_⟩⟩
        rcases q with q | rfl
        · exact q
        · obtain ⟨kv, m, ek⟩ := List.any_eq_true.mp there
          exact List.mem_map.mpr ⟨kv, m, of_decide_eq_true ek⟩
      · rename_i no
        rw [List.map_append]
        refine ⟨List.nodup_append.mpr ⟨h, by simp, fun a ma b mb => ?_⟩, fun k => by simp⟩
        simp at mb; subst mb
        intro e; subst e
        obtain ⟨kv, m, ek⟩ := List.mem_map.mp ma
        exact no (List.any_eq_true.mpr ⟨kv, m, decide_eq_true ek⟩)
    obtain ⟨h1, h2⟩ := mergeK_keys more (putK kvs k0 v0) step.1
    refine ⟨h1, fun k => ?_⟩
    show k ∈ (mergeK (putK kvs k0 v0) more).map (·.1) ↔ _
    rw [h2 k, step.2 k]
    simp [or_assoc]
/-- the keys of the dict, as ints -/
theorem merged_ints {ns : List Int} {kvs : List (Key × V)} (h : kvs.map (·.1) = ns.map Sum.inl) : ∃ ks : List Int, (mergeK [] kvs).map (·.1) = ks.map Sum.inl ∧ ks.Perm (dedup ns) := by
  obtain ⟨h1, h2⟩ := mergeK_keys kvs [] (by simp)
  have key : ∀ l : List Key, (∀ k ∈ l, ∃ i : Int, k = Sum.inl i) → ∃ ks : List Int, l = ks.map Sum.inl := by
    intro l
    induction l with
    | nil => exact fun _ => ⟨[], rfl⟩
    | cons a l ih =>
      intro hl
      obtain ⟨i, rfl⟩ := hl a (by simp)
      obtain ⟨ks, rfl⟩ := ih fun k m => hl k (List.mem_cons_of_mem _ m)
      exact ⟨i :: ks, rfl⟩
  obtain ⟨ks, hk⟩ := key ((mergeK [] kvs).map (·.1)) fun k m => by
    have := (h2 k).mp m
    rw [h] at this
    simp at this
    obtain ⟨a, _, e⟩ := this
    exact ⟨a, e.symm⟩
  refine ⟨ks, hk, (List.perm_ext_iff_of_nodup ?_ (dedup_nodup ns)).mpr fun a => ?_⟩
  · rw [hk] at h1
    have := List.pairwise_map.mp h1
    exact this.imp fun q e => q (congrArg _ e)
  · rw [mem_dedup]
    have := h2 (Sum.inl a)
    rw [hk, h] at this
    simpa using this
section
variable {X : Cx} {W : String → Hp → Prop} {a b e : Expr} {f g : EM} {pos : Pos}
theorem heads_rel {K : PySem.W.Frag} {F H : Hp} (sb : SubH F H) : ∀ {ds : List D} {ps : List (Int × D)} {vs : List V}, DpAll K F vs ds → headsI ds = some ps →
    ∃ (as : List Addr) (kvs : List (Key × V)), vs = as.map V.ref ∧ Paired (fun p kv => SqT K H p [kV kv.1, kv.2]) as kvs ∧ kvs.map (·.1) = (ps.map (·.1)).map Sum.inl
  | [], _, [], _, e => by cases e; exact ⟨[], [], rfl, .nil, rfl⟩
  | d :: ds, ps, v :: vs, h, e => by
    cases h with
    | cons x t =>
      obtain ⟨p, e1, e2⟩ := Option.bind_eq_some_iff.mp e
      obtain ⟨qs, e3, rfl⟩ := Option.map_eq_some_iff.mp e2
      obtain ⟨as, kvs, rfl, h1, h2⟩ := heads_rel sb t e3
      cases headI_some e1
      obtain ⟨q, ws, rfl, at_, each⟩ := x.inv
      cases each with
      | cons y1 t1 =>
        cases t1 with
        | cons y2 t2 =>
          cases t2
          cases y1.inv
          exact ⟨q :: as, (Sum.inl p.1, _) :: kvs, rfl, .cons (sb.sqt (sqt_of at_)) h1, by rw [List.map_cons, List.map_cons, List.map_cons, h2]⟩
  | [], _, _ :: _, h, _ => nomatch h
  | _ :: _, _, [], h, _ => nomatch h
/-- dict(ps) as a loose object -/
theorem cr_dictI (calm : X.calm = true) : CallR X (.type "dict") (fun xs H Q => ∃ F v ds ps, xs = [v] ∧ SubH F H ∧ Dp X.K F v (.list ds) ∧ headsI ds = some ps ∧
    ∀ (p : Addr) (kvs : List (Key × V)) (ks : List Int), H p = none → kvs.map (·.1) = ks.map Sum.inl → ks.Perm (dedup (ps.map (·.1))) → Q (.ref p) (upd H p (.dK kvs))) := by
  intro pins s σ H xs us Q I r ⟨F, v, ds, ps, e, sb, dv, hh, k⟩
  subst e
  obtain ⟨p, vs, rfl, at_, each⟩ := dv.inv
  obtain ⟨as, kvs, rfl, h1, h2⟩ := heads_rel sb each hh
  obtain ⟨ks, g1, g2⟩ := merged_ints h2
  exact call_dictP calm pins s σ H _ us Q I r ⟨p, as, kvs, rfl, sb.sql at_, h1, fun q hq => k q _ ks hq g1 g2⟩
def sortDictD : D → Option D
  | .list ds => (headsI ds).bind fun ps => if (dedup (ps.map (·.1))).length < 64 then some (.list (((dedup (ps.map (·.1))).mergeSort fun a b => decide (a ≤ b)).map .int)) else none
  | _ => none
theorem se_sortDict {p p2 q : Pos} (calm : X.calm = true) (hg : Gl X "sorted") (hm : X.mg "sorted" = none) (hg2 : Gl X "dict") (hm2 : X.mg "dict" = none) (ha : SE X a f)
    (star : starEach [a] X.env = [(false, eval a X.env)] := by rfl) (star2 : starEach [.Call (.Name "dict" p2) [a] [] q] X.env = [(false, eval (.Call (.Name "dict" p2) [a] [] q) X.env)] := by rfl) (b1 : bootBuiltins "sorted" = some (.builtin "sorted") := by decide +kernel) (b2 : bootBuiltins "dict" = some (.type "dict") := by decide +kernel) :
    SE X (.Call (.Name "sorted" p) [.Call (.Name "dict" p2) [a] [] q] [] pos) (unM sortDictD f) :=
  ⟨pe_imp (pe_callB (call_sortedDI calm) hg hm b1 (pa_cons (pe_callTy (cr_dictI calm) hg2 hm2 b2 (pa_cons ha.pe pa_nil star) (by decide) (by decide) star rfl) pa_nil star2) (by decide) (by decide) star2 rfl) fun s H Q ⟨z, r, F, d, r', R, e, k⟩ => by
    obtain ⟨x, e1, e2⟩ := unM_some e
    cases x with
    | list ds =>
      obtain ⟨ps, e3, e4⟩ := Option.bind_eq_some_iff.mp e2
      split at e4
      · rename_i few
        cases e4
        refine ⟨z, r, F, _, r', R, e1, fun v H1 F1 R1 sb dv => ⟨F1, v, ds, ps, rfl, R1.fh, dv, e3, fun q kvs ks new hk pm => ?_⟩⟩
        refine ⟨q, kvs, ks, rfl, .inl upd_same, hk, by rw [pm.length_eq]; exact few, fun ys y pm2 up new2 => ?_⟩
        cases sorted_is (pm2.trans pm) up
        have R2 := R1.grow (.loose (o := .dK kvs) R1.fh new)
        obtain ⟨G, dd⟩ := new_lst R2.fh new2 (dpa_ints_mk (K := X.K) (F := F1) ((dedup (ps.map (·.1))).mergeSort fun a b => decide (a ≤ b)))
        exact k _ _ _ (R2.grow G) (sb.trans G.ff) dd
      · cases e4
    | _ => cases e2⟩
end
end DL
/-! an own list of own lists: filled, its lists grown in a walk, and then let go as a datum -/
namespace DL
open PySem L2
structure LL (K : PySem.W.Frag) (z : Fx) (r : Rho) (s : L2.St) (H F : Hp) (i : Nat) (p : Addr) (as : List Addr) (rows : List (List D)) : Prop where
  here : s[i]? = some (some (.ref p))
  out : H p = some (.lst (as.map V.ref))
  len : as.length = rows.length
  ins : ∀ (k : Nat) (a : Addr) (xs : List D), as[k]? = some a → rows[k]? = some xs → ∃ vs, H a = some (.lst vs) ∧ DpAll K F vs xs
  free : ∀ a ∈ p :: as, F a = none ∧ z.H0 a = none ∧ ¬ OwnAt r s H a
  nd : (p :: as).Nodup
section
variable {K : PySem.W.Frag} {z : Fx} {r r' : Rho} {s s' : L2.St} {H F H' F' : Hp} {i j : Nat} {p : Addr} {as : List Addr} {rows : List (List D)}
theorem LL.there (L : LL K z r s H F i p as rows) {a : Addr} (m : a ∈ as) : ∃ (k : Nat) (vs : List V) (xs : List D), as[k]? = some a ∧ rows[k]? = some xs ∧ H a = some (.lst vs) ∧ DpAll K F vs xs := by
  obtain ⟨k, hk, e⟩ := List.getElem_of_mem m
  have e1 : as[k]? = some a := by rw [List.getElem?_eq_getElem hk, e]
  have hk2 : k < rows.length := by rw [← L.len]; exact hk
  obtain ⟨vs, h1, h2⟩ := L.ins k a rows[k] e1 (List.getElem?_eq_getElem hk2)
  exact ⟨k, vs, _, e1, List.getElem?_eq_getElem hk2, h1, h2⟩
theorem LL.isl (L : LL K z r s H F i p as rows) {a : Addr} (m : a ∈ p :: as) : ∃ vs, H a = some (.lst vs) := by
  rcases List.mem_cons.mp m with rfl | m
  · exact ⟨_, L.out⟩
  · obtain ⟨_, vs, _, _, _, h, _⟩ := L.there m; exact ⟨vs, h⟩
/-- what a step over the bare base leaves -/
theorem LL.kept (L : LL K z r s H F i p as rows) (R : Rep K z r s H F) (R' : Rep K ⟨bare r s H, F, z.rf⟩ r' s' H' F') (hi : s'[i]? = s[i]?) : LL K z r' s' H' F' i p as rows := by
  have key : ∀ a ∈ p :: as, ∀ vs, H a = some (.lst vs) → H' a = some (.lst vs) ∧ F' a = none ∧ ¬ OwnAt r' s' H' a := fun a m vs h =>
    R.loose_kept R' h (L.free a m).1 (L.free a m).2.2 not_tu
  refine ⟨by rw [hi]; exact L.here, (key p (by simp) _ L.out).1, L.len, fun k a xs e1 e2 => ?_, fun a m => ?_, L.nd⟩
  · obtain ⟨vs, h1, h2⟩ := L.ins k a xs e1 e2
    exact ⟨vs, (key a (List.mem_cons_of_mem _ (List.mem_of_getElem? e1)) vs h1).1, dpa_mono R'.f0 h2⟩
  · obtain ⟨vs, h⟩ := L.isl m
    exact ⟨(key a m vs h).2.1, (L.free a m).2.1, (key a m vs h).2.2⟩
theorem LL.grow (L : LL K z r s H F i p as rows) (R : Rep K z r s H F) (G : Grow F H F' H') : LL K z r s H' F' i p as rows := by
  refine ⟨L.here, G.hh _ _ L.out, L.len, fun k a xs e1 e2 => ?_, fun a m => ?_, L.nd⟩
  · obtain ⟨vs, h1, h2⟩ := L.ins k a xs e1 e2
    exact ⟨vs, G.hh _ _ h1, dpa_mono G.ff h2⟩
  · refine ⟨?_, (L.free a m).2.1, fun q => (L.free a m).2.2 (R.ownAtH G.hh q)⟩
    obtain ⟨vs, h⟩ := L.isl m
    cases q : F' a with
    | none => rfl
    | some u =>
      rcases G.nw a u q with h1 | h1 | ⟨ob, ws, rfl⟩
      · rw [(L.free a m).1] at h1; cases h1
      · rw [h] at h1; cases h1
      · have q2 := G.fh a _ q
        rw [G.hh _ _ h] at q2; exact (tupHO_lst q2).elim
/-- all of them frozen -/
theorem freeze_all : ∀ (as : List Addr) {F : Hp}, Rep K z r s H F → (∀ a ∈ as, (∃ vs, H a = some (.lst vs)) ∧ F a = none ∧ z.H0 a = none ∧ ¬ OwnAt r s H a) → as.Nodup →
    ∃ F', Rep K z r s H F' ∧ SubH F F' ∧ (∀ a ∈ as, F' a = H a) ∧ ∀ b, b ∉ as → F' b = F b
  | [], F, R, _, _ => ⟨F, R, .refl _, by simp, fun _ _ => rfl⟩
  | a :: as, F, R, h, nd => by
    obtain ⟨⟨vs, h1⟩, h2, h3, h4⟩ := h a (by simp)
    have nd' := List.nodup_cons.mp nd
    have R1 := R.freeze1 h1 h2 h3 h4
    obtain ⟨F2, R2, s2, g1, g2⟩ := freeze_all as R1 (fun b m => by
      obtain ⟨q1, q2, q3, q4⟩ := h b (List.mem_cons_of_mem _ m)
      exact ⟨q1, by
        have ne : b ≠ a := fun e => nd'.1 (e ▸ m)
        rw [upd_ne ne]; exact q2, q3, q4⟩) nd'.2
    refine ⟨F2, R2, (SubH.new h2).trans s2, fun b m => ?_, fun b nb => ?_⟩
    · rcases List.mem_cons.mp m with rfl | m
      · rw [g2 b nd'.1, upd_same, h1]
      · exact g1 b m
    · simp only [List.mem_cons, not_or] at nb
      rw [g2 b nb.2, upd_ne nb.1]
theorem LL.done (L : LL K z r s H F i p as rows) (R : Rep K z r s H F) : ∃ F', Rep K z (r.set i (some (.d (.list (rows.map .list))))) s H F' ∧ SubH F F' := by
  obtain ⟨F2, R2, s2, g1, g2⟩ := freeze_all (p :: as) R (fun a m => ⟨L.isl m, L.free a m⟩) L.nd
  have dp : Dp K F2 (.ref p) (.list (rows.map .list)) := by
    refine .lst (.inl (.inl (by rw [g1 p (by simp)]; exact L.out))) (dpa_of (by simp [L.len]) fun k v d e1 e2 => ?_)
    rw [List.getElem?_map] at e1 e2
    obtain ⟨a, e3, rfl⟩ := Option.map_eq_some_iff.mp e1
    obtain ⟨xs, e4, rfl⟩ := Option.map_eq_some_iff.mp e2
    obtain ⟨vs, h1, h2⟩ := L.ins k a xs e3 e4
    exact .lst (.inl (.inl (by rw [g1 a (List.mem_cons_of_mem _ (List.mem_of_getElem? e3))]; exact h1))) (dpa_mono s2 h2)
  have R3 := R2.put (i := i) dp
  have e : s.set i (some (V.ref p)) = s := by
    have hl := (List.getElem?_eq_some_iff.mp L.here)
    obtain ⟨h1, h2⟩ := hl
    rw [← h2]
    exact List.set_getElem_self h1
  rw [e] at R3
  exact ⟨F2, R3, s2⟩
theorem LL.forget (L : LL K z r s H F i p as rows) : LL K z (r.set j none) s H F i p as rows :=
  ⟨L.here, L.out, L.len, L.ins, fun a m => ⟨(L.free a m).1, (L.free a m).2.1, fun ⟨k, h⟩ => (L.free a m).2.2 ⟨k, (owns_none h).2⟩⟩, L.nd⟩
theorem LL.start (R : Rep K z r s H F) {b : Bool} (h : r[i]? = some (some (.l b []))) : ∃ p, LL K z (r.set i none) s H F i p [] [] := by
  obtain ⟨v, h1, q, vs, rfl, h2, h3, h4, h5, h6⟩ := R.slots i _ h
  cases h5
  refine ⟨q, h1, h2, rfl, fun k a xs e => by simp at e, fun a m => ?_, by simp⟩
  simp only [List.mem_cons, List.not_mem_nil, or_false] at m
  subst m
  exact ⟨h3, h4, fun ⟨k, q⟩ => (owns_none q).1 (R.ap k i a (owns_none q).2 ⟨_, _, h, rfl, h1, part_self⟩)⟩
end
/-! ### statements over it -/
/-- a statement that stores nothing -/
abbrev CM := Rho → Option Rho
def liftC (K : PySem.W.Frag) (f : CM) : TS := fun D s H => ∃ z r F r', Rep K z r s H F ∧ f r = some r' ∧ ∀ H' F', Rep K z r' s H' F' → SubH F F' → D.nx s H'
structure SC (X : Cx) (st : Stmt) (f : CM) : Prop where
  ps : PS X st (liftC X.K f)
end DL
/-! xs.count(x) of a list; forgotten slots ahead of a list of lists -/
namespace DL
open PySem L2 PyProof.Rows PySem.Spec
end DL
/-! all(t), any(t) of a tuple of truths -/
namespace DL
open PySem L2
end DL
/-! t * n of a tuple that has something -/
namespace DL
open PySem L2 PyProof.Rows PySem.Spec
end DL
/-! return f(..) in a try with one clause; a, b, c = x, y, z -/
namespace DL
open PySem L2
end DL
/-! range(i, j, -1) -/
namespace DL
open PySem L2
end DL
/-! d[k] of an own dict -/
namespace DL
open PySem L2
end DL
/-! t > u of tuples -/
namespace DL
open PySem L2 PyProof.Rows PySem.SeqAt
section
variable {X : Cx}
def gtD : D → D → Option Bool
  | .int i, .int j => some (decide (j < i))
  | .tuple xs, .tuple ys => if (PySem.W.alike (.tuple xs) (.tuple ys) && decide (PyData.depth (.tuple xs) ≤ 60)) = true then some (PySem.W.dataLt (.tuple ys) (.tuple xs)) else none
  | _, _ => none
theorem or_gtD (hu : X.A.units + 64 < cLine) : OpR X (compareOp .Gt) (liftO X.K (bD gtD)) := by
  intro pins s σ H x y v u Q I rx ry h
  obtain ⟨F, d, e, o, sb, dx, dy, eo, k⟩ := h
  obtain ⟨bb, e9, rfl⟩ := bD_some eo
  unfold gtD at e9
  split at e9
  · cases e9
    cases dv_int dx; cases dv_int dy
    exact op_gt pins s σ H _ _ v u Q I rx ry ⟨_, _, rfl, rfl, k _ H F (.refl sb) (.bl _)⟩
  · split at e9
    · rename_i xs ys c
      cases e9
      rw [Bool.and_eq_true, decide_eq_true_eq] at c
      obtain ⟨as, ra⟩ := L2.Dp.reads I _ _ _ (dp_old (dx.dp sb)) rx
      obtain ⟨bs, rb⟩ := L2.Dp.reads I _ _ _ (dp_old (dy.dp sb)) ry
      have := PySem.W.rcGt_alike _ _ X.A s v u as bs ra rb c.1 (by simp) (Nat.lt_of_le_of_lt (Nat.add_le_add_left (Nat.le_trans (Nat.min_le_left _ _) (Nat.le_trans c.2 (by omega : 60 ≤ 64))) _) hu) X.prog X.w X.xe (EP X pins σ Q) ⟨.bl _, H, I, rfl, k _ H F (.refl sb) (.bl _)⟩
      exact this
    · cases e9
  · cases e9
end
end DL
/-! set(t), t a tuple -/
namespace DL
open PySem L2 PySem.Spec PyProof.Rows PySem.SeqAt
section
variable {P : Program} {w : World} {A : Around} {E : Value → Shared → Prop}
/-- a set that was just made -/
abbrev newSet (w : World) : Obj := { cls := .type "set", dict := none, data := .set #[] 0 (.fresh 0 0 (!w.params.followText "set-order")) }
end
end DL
/-! sorted(set(t)), t a tuple of pairs -/
namespace DL
open PySem L2 PyProof.Rows PySem.Spec
end DL
namespace DL
open PySem L2 PyProof.Rows PySem.Spec
abbrev PLt (t u : Int × Int) : Prop := t.1 < u.1 ∨ (t.1 = u.1 ∧ t.2 < u.2)
def insP (t : Int × Int) : List (Int × Int) → List (Int × Int)
  | [] => [t]
  | u :: us => if t = u then u :: us else if t.1 < u.1 ∨ (t.1 = u.1 ∧ t.2 < u.2) then t :: u :: us else u :: insP t us
def canonP : List (Int × Int) → List (Int × Int)
  | [] => []
  | p :: ps => insP p (canonP ps)
theorem mem_insP {x t : Int × Int} : ∀ {us : List (Int × Int)}, x ∈ insP t us ↔ x = t ∨ x ∈ us
  | [] => by simp [insP]
  | u :: us => by
    unfold insP
    split
    · rename_i h; subst h; simp
    · split
      · simp
      · rw [List.mem_cons, mem_insP, List.mem_cons]
        exact ⟨fun h => h.elim (fun h => .inr (.inl h)) fun h => h.elim .inl fun h => .inr (.inr h), fun h => h.elim (fun h => .inr (.inl h)) fun h => h.elim .inl fun h => .inr (.inr h)⟩
theorem up_insP {t : Int × Int} : ∀ {us : List (Int × Int)}, us.Pairwise PLt → (insP t us).Pairwise PLt
  | [], _ => by simp [insP]
  | u :: us, h => by
    obtain ⟨h1, h2⟩ := List.pairwise_cons.mp h
    unfold insP
    split
    · exact h
    · split
      · rename_i ne lt
        refine List.pairwise_cons.mpr ⟨fun x m => ?_, h⟩
        rcases List.mem_cons.mp m with rfl | m
        · exact lt
        · have := h1 x m
          unfold PLt at *
          omega
      · rename_i ne nl
        refine List.pairwise_cons.mpr ⟨fun x m => ?_, up_insP h2⟩
        rcases mem_insP.mp m with rfl | m
        · have : ¬ (x.1 = u.1 ∧ x.2 = u.2) := fun q => ne (Prod.ext q.1 q.2)
          unfold PLt
          omega
        · exact h1 x m
theorem mem_canonP {x : Int × Int} : ∀ {ps : List (Int × Int)}, x ∈ canonP ps ↔ x ∈ ps
  | [] => by simp [canonP]
  | p :: ps => by rw [canonP, mem_insP, mem_canonP, List.mem_cons]
theorem up_canonP : ∀ ps : List (Int × Int), (canonP ps).Pairwise PLt
  | [] => by simp [canonP]
  | p :: ps => by rw [canonP]; exact up_insP (up_canonP ps)
theorem up_ext {xs ys : List (Int × Int)} (h1 : xs.Pairwise PLt) (h2 : ys.Pairwise PLt) (h : ∀ x, x ∈ xs ↔ x ∈ ys) : xs = ys := by
  have nd : ∀ {zs : List (Int × Int)}, zs.Pairwise PLt → zs.Nodup := fun q => List.Pairwise.imp (fun {a b} (q : PLt a b) (e : a = b) => by subst e; unfold PLt at q; omega) q
  refine List.Perm.eq_of_pairwise (le := PLt) (fun a b _ _ p q => ?_) h1 h2 ((List.perm_ext_iff_of_nodup (nd h1) (nd h2)).mpr h)
  unfold PLt at p q
  omega
end DL
/-! dict(ps), ps a list of pairs whose first is a flat tuple -/
namespace DL
open PySem L2
/-- a pair's place, its key, the key's place, its value -/
structure PEn where
  at_ : Addr
  key : List Key
  kat : Addr
  val : V
section
variable {X : Cx}
def dictOf (es : List PEn) : List (List Key × V) := es.foldl (fun m e => putK m e.key e.val) []
theorem put_len' {α : Type} [DecidableEq α] (kvs : List (α × V)) (k : α) (v : V) : (putK kvs k v).length ≤ kvs.length + 1 := by
  unfold putK
  split <;> simp
theorem fold_len : ∀ (es : List PEn) (m : List (List Key × V)), (es.foldl (fun m e => putK m e.key e.val) m).length ≤ m.length + es.length
  | [], m => by simp
  | e :: es, m => by
    have h1 := fold_len es (putK m e.key e.val)
    have h2 := put_len' m e.key e.val
    simp only [List.foldl_cons, List.length_cons]
    omega
/-- the values that stand in the pairs -/
theorem vals_in {pins : List (Addr × Obj)} {s : Shared} {σ : L2.St} {H : Hp} (I : L2.Inv X pins σ H s) : ∀ {es : List PEn}, (∀ e ∈ es, SqT X.K H e.at_ [.ref e.kat, e.val] ∧ H e.kat = some (.tup (e.key.map kV))) →
    ∃ us : List Value, us.length = es.length ∧ (∀ (j : Nat) (e : PEn) (u : Value), es[j]? = some e → us[j]? = some u → s.heap.IsTuple e.at_ #[.ref e.kat, u] ∧ RelV e.val u)
  | [], _ => ⟨[], rfl, fun j e u h => by simp at h⟩
  | e :: es, h => by
    obtain ⟨us, l, r⟩ := vals_in I fun x m => h x (List.mem_cons_of_mem _ m)
    obtain ⟨its, rv, isT, _⟩ := I.tuple (h e (by simp)).1
    cases rv with
    | cons r1 t1 =>
      cases t1 with
      | cons r2 t2 =>
        cases t2
        cases r1
        rename_i u
        refine ⟨u :: us, by simp [l], fun j e' u' h1 h2 => ?_⟩
        cases j with
        | zero =>
          simp at h1 h2
          subst h1 h2
          exact ⟨isT, r2⟩
        | succ j => exact r j e' u' (by simpa using h1) (by simpa using h2)
theorem kt_fold {H : Hp} : ∀ {es : List PEn} {us : List Value} {m : List (List Key × V)} {xs : List (List Key × Addr × Value)}, us.length = es.length → (∀ (j : Nat) (e : PEn) (u : Value), es[j]? = some e → us[j]? = some u → H e.kat = some (.tup (e.key.map kV)) ∧ RelV e.val u) → KT H m xs →
    KT H (es.foldl (fun m e => putK m e.key e.val) m) (storedAllH xs ((es.zip us).map fun p => (p.1.key, p.1.kat, p.2)))
  | [], us, m, xs, l, _, r => by simpa [storedAllH] using r
  | e :: es, [], m, xs, l, _, r => by simp at l
  | e :: es, u :: us, m, xs, l, h, r => by
    obtain ⟨h1, h2⟩ := h 0 e u rfl rfl
    exact kt_fold (es := es) (us := us) (by simpa using l) (fun j e' u' a b => h (j + 1) e' u' (by simpa using a) (by simpa using b)) (r.put e.key h1 h2)
theorem zip_at2 {es : List PEn} {us : List Value} {j : Nat} {e : PEn} {u : Value} (h : (es.zip us)[j]? = some (e, u)) : es[j]? = some e ∧ us[j]? = some u := by
  rw [List.getElem?_zip_eq_some] at h
  exact h
theorem cr_dictT (calm : X.calm = true) (hu : X.A.units + 64 < cLine) : CallR X (.type "dict") (fun xs H Q => ∃ (a : Addr) (es : List PEn), xs = [.ref a] ∧ SqL X.K H a (es.map fun e => V.ref e.at_) ∧ (∀ e ∈ es, SqT X.K H e.at_ [.ref e.kat, e.val] ∧ H e.kat = some (.tup (e.key.map kV))) ∧
    ∀ p, H p = none → Q (.ref p) (upd H p (.dT (dictOf es)))) := by
  rintro pins s σ H xs us0 Q I rel ⟨a, es, rfl, hl, each, give⟩
  obtain ⟨u0, rfl, ru⟩ := vals1 rel
  cases ru
  obtain ⟨its, rv, ⟨o, n, ho, hc, hd, hdat⟩, hz⟩ := I.list hl
  have ei : its = es.map fun e => Value.ref e.at_ := by
    have := refs_at (ps := es.map (·.at_)) (us := its) (by rw [List.map_map]; exact rv)
    rw [this, List.map_map]; rfl
  subst ei
  rw [List.length_map] at hz
  obtain ⟨us, l, r⟩ := vals_in I each
  have zl : (es.zip us).length = es.length := by rw [List.length_zip, l, Nat.min_self]
  have rows : ∀ (j : Nat) (e : PEn) (u : Value), (es.zip us)[j]? = some (e, u) → e ∈ es ∧ s.heap.IsTuple e.at_ #[.ref e.kat, u] ∧ RelV e.val u := fun j e u h => by
    obtain ⟨h1, h2⟩ := zip_at2 h
    exact ⟨List.mem_of_getElem? h1, r j e u h1 h2⟩
  have P := PySem.PairArg.list (prog := X.prog) (w := X.w) a (es.map fun e => Value.ref e.at_).toArray (fun j => ((es[j]?).map (·.at_)).getD 0) ((es.zip us).map fun p => (Value.ref p.1.kat, p.2))
  refine call_dict_pairsH (knd := tupleKind (mixKind X.prog X.w)) (ps := (es.zip us).map fun p => (p.1.key, p.1.kat, p.2)) P (I.ok.hd calm) (by show _ < _; simp; omega) ⟨⟨o, n, ho, hc, hd, hdat⟩, ?_⟩ ⟨by simp, ?_⟩ ?_ (by simp [l]; exact hz) fun h' tk hd' keep => ?_
  · refine ⟨by simp [l], fun j k v h => ?_⟩
    rw [List.getElem?_map, Option.map_eq_some_iff] at h
    obtain ⟨⟨e, u⟩, h1, h2⟩ := h
    cases h2
    obtain ⟨g1, g2⟩ := zip_at2 h1
    obtain ⟨_, g3, _⟩ := rows j e u h1
    have ea : ((es[j]?).map (·.at_)).getD 0 = e.at_ := by rw [g1]; rfl
    refine ⟨?_, .inl ?_⟩
    · show _ = some (Value.ref (((es[j]?).map (·.at_)).getD 0))
      rw [ea]
      simp [g1]
    · show s.heap.IsTuple (((es[j]?).map (·.at_)).getD 0) _
      rw [ea]
      exact g3
  · intro i key v h
    have h : ((es.zip us).map fun p => (Value.ref p.1.kat, p.2))[i]? = some (key, v) := h
    rw [List.getElem?_map, Option.map_eq_some_iff] at h
    obtain ⟨⟨e, u⟩, h1, h2⟩ := h
    cases h2
    exact ⟨e.key, e.kat, by rw [List.getElem?_map, h1]; rfl, rfl⟩
  · intro h' hk x mx
    obtain ⟨⟨e, u⟩, m, rfl⟩ := List.mem_map.mp mx
    obtain ⟨j, hj⟩ := List.getElem?_of_mem m
    obtain ⟨o, items, n, g1, g2⟩ := key_of (P := X.prog) (w := X.w) I.hok (each e (rows j e u hj).1).2
    exact ⟨o, items, n, hk _ _ (Nat.ne_of_lt (Heap.lt_size g1)) (by simp) g1, g2⟩
  · have hm : (s.heap.objs.size == sysModules) = false := beq_eq_false_iff_ne.mpr (Nat.ne_of_gt I.big)
    have len : (dictOf es).length ≤ sizeLine := Nat.le_trans (fold_len es []) (by simpa using hz)
    have kt := kt_fold (H := H) (es := es) (us := us) (m := []) (xs := []) l (fun j e u h1 h2 => ⟨(each e (List.mem_of_getElem? h1)).2, (r j e u h1 h2).2⟩) .nil
    obtain ⟨o', es', ep, q1, q2, q3, q4, q5, q6⟩ := hd'
    have new : H s.heap.objs.size = none := I.hok.fresh (Nat.le_refl _)
    refine ⟨.ref s.heap.objs.size, upd H s.heap.objs.size (.dT (dictOf es)), I.laid (t' := tk) (fun b o e => keep b o (by simp) e) (Nat.le_refl _) (show ObjOk X.prog X.w _ _ _ (.dT (dictOf es)) from ⟨len, hm, _, ?_, o', es', ep, q1, q2, q3, q4, q6⟩), rfl, give _ new⟩
    exact KT.keeps kt fun b ys e => by rw [upd_ne (fun z => by rw [z, new] at e; cases e)]; exact e
end
end DL
/-! sorted(dict(ps)): ps a list of pairs whose first is a flat tuple -/
namespace DL
open PySem L2
def headT : D → Option (List Key × D)
  | .tuple [.tuple ks, v] => (keysOf ks).map (·, v)
  | _ => none
def headsT : List D → Option (List (List Key × D))
  | [] => some []
  | d :: ds => (headT d).bind fun p => (headsT ds).map (p :: ·)
def dictTD (ps : List (List Key × D)) : List (DK × D) := ps.foldl (fun m p => putG m (.inr p.1) p.2) []
def sortDictT : D → Option D
  | .list ds => (headsT ds).bind fun ps => if sortOk ((dictTD ps).map fun kv => dkD kv.1) then some (.list (sortL ((dictTD ps).map fun kv => dkD kv.1))) else none
  | _ => none
theorem heads_at {K : PySem.W.Frag} {F : Hp} : ∀ {vs : List V} {ds : List D} {ps : List (List Key × D)}, DpAll K F vs ds → headsT ds = some ps → ∃ es : List PEn, vs = es.map (fun e => V.ref e.at_) ∧
    (∀ e ∈ es, TupAt F e.at_ [.ref e.kat, e.val] ∧ F e.kat = some (.tup (e.key.map kV))) ∧ Paired (fun (e : PEn) (p : List Key × D) => e.key = p.1 ∧ Dp K F e.val p.2) es ps
  | _, _, _, .nil, h => by cases h; exact ⟨[], rfl, by simp, .nil⟩
  | _, _, _, .cons h1 h2, h => by
    simp only [headsT, Option.bind_eq_some_iff, Option.map_eq_some_iff] at h
    obtain ⟨p, e1, ps, e2, rfl⟩ := h
    obtain ⟨es, a1, a2, a3⟩ := heads_at h2 e2
    unfold headT at e1
    split at e1
    · rename_i ks v
      obtain ⟨kk, ek, rfl⟩ := Option.map_eq_some_iff.mp e1
      obtain ⟨t, us, rfl, tup, each⟩ := id h1.inv
      cases each with
      | cons y1 t1 =>
        cases t1 with
        | cons y2 t2 =>
          cases t2
          obtain ⟨q, ws, rfl, at2, each2⟩ := id y1.inv
          cases keysOf_rel each2 ek
          refine ⟨⟨t, kk, q, _⟩ :: es, by rw [a1]; rfl, fun e m => ?_, .cons ⟨rfl, y2⟩ a3⟩
          rcases List.mem_cons.mp m with rfl | m
          · exact ⟨tup, tupAt_key.mp at2⟩
          · exact a2 e m
    · cases e1
theorem dict_fold {K : PySem.W.Frag} {F : Hp} : ∀ {es : List PEn} {ps : List (List Key × D)} {m : List (List Key × V)} {n : List (DK × D)}, Paired (fun (e : PEn) (p : List Key × D) => e.key = p.1 ∧ Dp K F e.val p.2) es ps →
    Paired (fun (p : List Key × V) (q : DK × D) => q.1 = .inr p.1 ∧ Dp K F p.2 q.2) m n →
    Paired (fun (p : List Key × V) (q : DK × D) => q.1 = .inr p.1 ∧ Dp K F p.2 q.2) (es.foldl (fun m e => putK m e.key e.val) m) (ps.foldl (fun m p => putG m (.inr p.1) p.2) n)
  | _, _, _, _, .nil, h => h
  | _, _, _, _, .cons (a := e) (b := p) ⟨e1, e2⟩ t, h => by
    rw [List.foldl_cons, List.foldl_cons, ← e1]
    exact dict_fold t (paired_put (g := Sum.inr) (fun _ _ q => Sum.inr.inj q) e2 h)
section
variable {X : Cx} {a : Expr} {f : EM}
theorem se_sortDictT {p p2 q pos : Pos} (calm : X.calm = true) (hu : X.A.units + 100 < cLine) (hg : Gl X "sorted") (hm : X.mg "sorted" = none) (hg2 : Gl X "dict") (hm2 : X.mg "dict" = none) (ha : SE X a f)
    (star : starEach [a] X.env = [(false, eval a X.env)] := by rfl) (star2 : starEach [.Call (.Name "dict" p2) [a] [] q] X.env = [(false, eval (.Call (.Name "dict" p2) [a] [] q) X.env)] := by rfl) (b1 : bootBuiltins "sorted" = some (.builtin "sorted") := by decide +kernel) (b2 : bootBuiltins "dict" = some (.type "dict") := by decide +kernel) :
    SE X (.Call (.Name "sorted" p) [.Call (.Name "dict" p2) [a] [] q] [] pos) (unM sortDictT f) :=
  ⟨pe_imp (pe_callB (call_sortedT hu calm) hg hm b1 (pa_cons (pe_callTy (cr_dictT calm (by omega)) hg2 hm2 b2 (pa_cons ha.pe pa_nil star) (by decide) (by decide) star rfl) pa_nil star2) (by decide) (by decide) star2 rfl) fun s H Q ⟨z, r, F, d, r', R, e, k⟩ => by
    obtain ⟨x, e1, e2⟩ := unM_some e
    cases x with
    | list ds =>
      obtain ⟨ps, e3, e4⟩ := Option.bind_eq_some_iff.mp e2
      split at e4
      · rename_i ok
        cases e4
        refine ⟨z, r, F, _, r', R, e1, fun v H1 F1 R1 sb dv => ?_⟩
        obtain ⟨t, vs, rfl, at_, each⟩ := dv.inv
        obtain ⟨es, rfl, e5, e6⟩ := heads_at each e3
        refine ⟨t, es, rfl, R1.fh.sql at_, fun e m => ⟨R1.fh.sqt (sqt_of (e5 e m).1), R1.fh _ _ (e5 e m).2⟩, fun b new => ?_⟩
        have R2 : Rep X.K z r' s (upd H1 b (.dT (dictOf es))) F1 := R1.grow (.loose R1.fh new)
        have dk := dk_map (dict_fold (K := X.K) (F := F1) e6 (m := []) (n := []) .nil)
        have dk' : ((dictTD ps).map fun kv => dkD kv.1) = (dictOf es).map fun kv => dkD (.inr kv.1) := dk
        rw [dk'] at ok k
        exact ⟨b, dictOf es, F1, rfl, R2.fh, upd_same, ok, fun v H' F' G dd => k _ _ _ (R2.grow G) (sb.trans G.ff) dd⟩
      · cases e4
    | _ => cases e2⟩
end
end DL
/-! sorted(dict(ps)): the keys ints, or flat tuples -/
namespace DL
open PySem L2
def sortDictB (d : D) : Option D := match sortDictD d with
  | some o => some o
  | none => sortDictT d
theorem se_either {X : Cx} {a : Expr} {f : EM} {h1 h2 h : D → Option D} (e : ∀ d o, h d = some o → h1 d = some o ∨ h2 d = some o) (s1 : SE X a (unM h1 f)) (s2 : SE X a (unM h2 f)) : SE X a (unM h f) :=
  ⟨⟨fun pins s σ H Q I ⟨z, r, F, d, r', R, eq, k⟩ => by
    obtain ⟨x, e1, e2⟩ := unM_some eq
    rcases e x d e2 with q | q
    · exact s1.pe.run pins s σ H Q I ⟨z, r, F, d, r', R, by unfold unM; rw [e1]; simp [q], k⟩
    · exact s2.pe.run pins s σ H Q I ⟨z, r, F, d, r', R, by unfold unM; rw [e1]; simp [q], k⟩⟩⟩
theorem sortDictB_or (d o : D) (h : sortDictB d = some o) : sortDictD d = some o ∨ sortDictT d = some o := by
  unfold sortDictB at h
  split at h
  · rename_i x e
    exact .inl (e.trans h)
  · exact .inr h
end DL
/-! x = dict(pairs), the keys flat tuples: an own dict -/
namespace DL
open PySem L2
end DL
/-! sum(rows, []), rows a list of lists -/
namespace DL
open PySem L2 PySem.Spec PyProof.Rows
end DL
/-! sum(rows, []) as an expression -/
namespace DL
open PySem L2 PySem.Spec PyProof.Rows
end DL
/-! str(n) -/
namespace DL
open PySem L2
def strD : D → Option D
  | .int i => if i.natAbs.log2 < 1920 then some (.str (toString i)) else none
  | _ => none
section
variable {X : Cx}
theorem cr_str : CallR X (.type "str") (liftC1 X.K strD) := by
  intro pins s σ H vs us Q I r h
  obtain ⟨F, x, d, o, rfl, sb, dx, eo, k⟩ := h
  unfold strD at eo
  split at eo
  · split at eo
    · rename_i small
      cases eo
      cases dv_int dx
      exact call_str_int pins s σ H _ us Q I r ⟨_, rfl, small, k _ H F (.refl sb) (.str _)⟩
    · cases eo
  · cases eo
end
end DL
/-! t * 2, t maybe empty -/
namespace DL
open PySem L2 PyProof.Rows PySem.Spec
end DL
/-! sets of tuples whose items are of any flat kind -/
namespace DL
open PySem L2 PySem.Spec PyProof.Rows PySem.SeqAt
section
variable {P : Program} {w : World} {A : Around} {E : Value → Shared → Prop} {s : Shared} {K : Type} [DecidableEq K] {knd : PySem.KeyKind P w K}
/-! the set -/
abbrev hsh (knd : PySem.KeyKind P w K) (k : List K) : Int := tupleKeyHash knd k
abbrev ent (knd : PySem.KeyKind P w K) (p : Addr × List K) : Int × Value := (hsh knd p.2, Value.ref p.1)
/-- L: what is in the set at S, in the table's order -/
structure TSet (knd : PySem.KeyKind P w K) (h : Heap) (S : Addr) (L : List (Addr × List K)) (es : Array (Int × Value)) (ep : Nat) (t : SetTable) : Prop where
  at_ : ∃ o, h.get? S = some o ∧ o.ExactSet ∧ o.data = .set es ep t
  es_ : es.toList = L.map (ent knd)
  tab : TabOk t (L.map fun p => hsh knd p.2)
  one : (L.map Prod.snd).Nodup
  tup : ∀ p ∈ L, IsTupleKey knd h p.2 p.1
  pln : t.plain = true
  led : w.params.followText "set-order" = true ∨ t.led = true
  free : L.length * 5 < t.mask * 3
  few : L.length < 64
end
end DL
/-! sets of tuples: adding -/
namespace DL
open PySem L2 PySem.Spec PyProof.Rows PySem.SeqAt
section
variable {P : Program} {w : World} {A : Around} {E : Value → Shared → Prop} {s : Shared} {K : Type} [DecidableEq K] {knd : PySem.KeyKind P w K}
variable {S : Addr} {L : List (Addr × List K)} {es : Array (Int × Value)} {ep : Nat} {t : SetTable}
theorem TSet.fresh {h : Heap} (at_ : h.get? S = some (newSet w)) : TSet knd h S [] #[] 0 (.fresh 0 0 (!w.params.followText "set-order")) where
  at_ := ⟨_, at_, ⟨rfl, rfl, rfl⟩, rfl⟩
  es_ := rfl
  tab := ⟨List.Pairwise.nil, rfl, rfl, .inl rfl, (by intro x m; cases m), (by intro i h j q; simp at q)⟩
  one := List.nodup_nil
  tup := by intro p m; cases m
  pln := rfl
  led := by
    show _ ∨ (!w.params.followText "set-order") = true
    cases w.params.followText "set-order"
    · exact .inr rfl
    · exact .inl rfl
  free := by show 0 * 5 < 7 * 3; decide
  few := by show 0 < 64; decide
end
end DL
/-! len(set(words)), words a list of tuples of truths -/
namespace DL
open PySem L2 PySem.Spec PyProof.Rows PySem.SeqAt
/-! each thing once -/
def once {α : Type} [DecidableEq α] : List α → List α
  | [] => []
  | x :: xs => if x ∈ once xs then once xs else x :: once xs
section
variable {P : Program} {w : World} {A : Around} {E : Value → Shared → Prop} {K : Type} [DecidableEq K] {knd : PySem.KeyKind P w K}
theorem TSet.keeps {h h' : Heap} {S : Addr} {L : List (Addr × List K)} {es : Array (Int × Value)} {ep : Nat} {t : SetTable} (T : TSet knd h S L es ep t) (k1 : ∀ o, h.get? S = some o → h'.get? S = some o) (k2 : ∀ p ∈ L, IsTupleKey knd h' p.2 p.1) : TSet knd h' S L es ep t := by
  obtain ⟨o, g, r⟩ := T.at_
  exact ⟨⟨o, k1 o g, r⟩, T.es_, T.tab, T.one, k2, T.pln, T.led, T.free, T.few⟩
end
/-! truths -/
end DL
/-! list(x) as a new list; a, b = xs, ys, both new lists -/
namespace DL
open PySem L2
def lisM (f : EM) : AM := fun r => (f r).bind fun p => (itemsOf p.1).map fun ds => (ds, p.2)
section
variable {X : Cx} {W : String → Hp → Prop} {a b : Expr} {pos : Pos}
theorem sl_list {p : Pos} {f : EM} (hg : Gl X "list") (hm : X.mg "list" = none) (ha : SE X a f) (b1 : bootBuiltins "list" = some (.type "list") := by decide +kernel) (star : starEach [a] X.env = [(false, eval a X.env)] := by rfl) :
    SL X (.Call (.Name "list" p) [a] [] pos) (lisM f) :=
  ⟨pe_imp (pe_callTy call_list_of hg hm b1 (pa_cons ha.pe pa_nil star) (by decide) (by decide) star rfl) fun s H Q ⟨z, r, F, d, r', R, e, k⟩ => by
    obtain ⟨⟨x, r1⟩, e1, e2⟩ := Option.bind_eq_some_iff.mp e
    obtain ⟨ds, e3, e4⟩ := Option.map_eq_some_iff.mp e2
    cases e4
    refine ⟨z, r, F, x, r1, R, e1, fun v H1 F1 R1 sb dv => ?_⟩
    cases x with
    | list row =>
      cases e3
      obtain ⟨t, vs, rfl, at_, each⟩ := dv.inv
      refine ⟨t, vs, rfl, .inl (R1.fh.sql at_), fun b new => ?_⟩
      obtain ⟨R2, g1, g2, g3, g4⟩ := R1.loose (vs := vs) new
      exact k b _ _ F1 R2 sb g1 g2 g3 g4 each
    | tuple row =>
      cases e3
      obtain ⟨t, vs, rfl, at_, each⟩ := dv.inv
      refine ⟨t, vs, rfl, .inr (R1.fh.sqt (sqt_of at_)), fun b new => ?_⟩
      obtain ⟨R2, g1, g2, g3, g4⟩ := R1.loose (vs := vs) new
      exact k b _ _ F1 R2 sb g1 g2 g3 g4 each
    | _ => cases e3⟩
end
end DL
/-! tuple(range(a, b)) -/
namespace DL
open PySem L2 PyProof.Rows PySem.Spec
end DL
/-! min(xs), xs a list of data that are alike -/
namespace DL
open PySem L2 PySem.Spec PyProof.Rows
end DL
/-! min(xs) as an expression -/
namespace DL
open PySem L2 PySem.Spec PyProof.Rows
end DL
/-! max(xs), xs a list of ints -/
namespace DL
open PySem L2
end DL
/-! own dicts of ints under rows of ints and None: the kind of key, reading, asking, storing -/
namespace DL
open PySem L2 PySem.Spec PyProof.Rows PySem.SeqAt
end DL
namespace DL
open PySem L2 PySem.Spec PyProof.Rows PySem.SeqAt
/-! ### what stands under a row -/
/-! ### in the heap -/
/-! ### the rules -/
end DL
namespace DL
open PySem L2 PyProof.Rows PySem.Spec
/-! ### an own thing of any kind, at its place -/
def SvAt (K : PySem.W.Frag) (F H : Hp) (a : Addr) : SV → Prop
  | .d _ => False
  | .ad _ => False
  | .l _ xs => ∃ us, H a = some (.lst us) ∧ DpAll K F us xs
  | .m _ t kvs => DicOk K F H a t kvs
  | .k _ kvs => KnAt F H a kvs
  | .s _ n t rows => SkAt K F H a n t rows
section
variable {K : PySem.W.Frag} {z : Fx} {r : Rho} {s : L2.St} {H F H' F' : Hp} {a p : Addr} {sv sv' : SV} {v : V}
theorem SvAt.own (h : SvAt K F H a sv) : sv.own = true := by cases sv <;> first | rfl | exact h.elim
theorem SvAt.there (h : SvAt K F H a sv) : ∃ o, H a = some o := by
  cases sv with
  | d x => exact h.elim
  | ad y => exact h.elim
  | l b xs => obtain ⟨us, h1, _⟩ := h; exact ⟨_, h1⟩
  | m b t kvs => exact DicOk.there h
  | k b kvs => exact KnAt.there h
  | s b n t rows => obtain ⟨C, dx, fs, g⟩ := SkAt.there h; exact ⟨_, g⟩
/-- its parts: itself; a list that is not frozen -/
theorem SvAt.part {b : Addr} (h : SvAt K F H a sv) (p : Part H a b) : b = a ∨ ∃ vs, H b = some (.lst vs) ∧ F b = none := by
  cases sv with
  | d x => exact h.elim
  | ad y => exact h.elim
  | l q xs => obtain ⟨us, h1, _⟩ := h; exact .inl (part_lst h1 p)
  | m q t kvs => exact .inl (DicOk.one h p)
  | k q kvs => exact .inl (KnAt.one h p)
  | s q n t rows => exact SkAt.rows h p
theorem SvAt.noTup (h : SvAt K F H a sv) {ob : Obj} {vs : List V} (e : H a = some (tupHO ob vs)) : False := by
  have e : H a = some (.tup vs) ∨ H a = some (.frz ob (.tup vs)) := by rcases tupHO_cases ob vs with q | q <;> rw [q] at e <;> simp [e]
  cases sv with
  | d x => exact h
  | ad y => exact h
  | l b xs => obtain ⟨us, h1, _⟩ := h; simp [h1] at e
  | m b t kvs => rcases h with ⟨_, ks, h1, _⟩ | ⟨_, ks, h1, _⟩ <;> simp [h1] at e
  | k b kvs => obtain ⟨xs, h1, _⟩ := h; simp [h1] at e
  | s b n t rows => obtain ⟨C, dx, fs, g⟩ := SkAt.there h; simp [g] at e
theorem SvAt.mono (h : SvAt K F H a sv) (e : SubH F F') (hh : ∀ b, Part H a b → ∀ o, H b = some o → H' b = some o) (hn : ∀ b, Part H a b → ∀ o, H b = some o → F b = none → F' b = none) : SvAt K F' H' a sv := by
  cases sv with
  | d x => exact h
  | ad y => exact h
  | l b xs => obtain ⟨us, h1, h2⟩ := h; exact ⟨us, hh _ part_self _ h1, dpa_mono e h2⟩
  | m b t kvs => exact DicOk.mono h e (hh _ part_self)
  | k b kvs => exact KnAt.mono h e (hh _ part_self)
  | s b n t rows => exact SkAt.mono h e hh hn
end
/-! ### rows as keys -/
/-! ### {}, in, [], []= -/
end DL
namespace DL
open PySem L2 PyProof.Rows PySem.Spec
/-! ### a def one parameter of which (the j-th) is an own thing of the caller's, of any kind: it may be changed -/
/-! ### the call -/
end DL
namespace DL
open PySem L2 PyProof.Rows PySem.Spec
/-! ### xs + ys: a new list, to be owned -/
end DL
namespace DL
open PySem L2 PyProof.Rows PySem.Spec
/-! xs.index(x), xs a list or a tuple -/
end DL
/-! x = len(f(..)) in a try with one clause -/
namespace DL
open PySem L2
end DL
/-! a dict made anew: a display, a def that gives its own one back; a, b = {k: v}, y; a, b = x, f(..) -/
namespace DL
open PySem L2 PyProof.Rows PySem.Spec
/-! ### a body that ends with `return x`, x an own dict -/
end DL
/-! a seeker in a slot: what it has, what may be done to it -/
namespace DL
open PySem L2 PyProof.Rows PySem.Spec
/-- what the class must have -/
structure SkC (K : PySem.W.Frag) (C : Addr) : Prop where
  at_ : PySem.W.nsIn K mainGlobals "Seeker" = some (some (.ref C))
  cls : Cls K C
  net : NoAttr K C "net"
  rows : NoAttr K C "rows"
  told : NoAttr K C "told"
section
variable {K : PySem.W.Frag} {z : Fx} {r : Rho} {s : L2.St} {H F : Hp} {i : Nat} {b : Bool} {n t : D} {rows rows' : List D} {C a dx l : Addr} {vn vt : V} {vs vs' : List V}
/-- what stands there -/
theorem Rep.sk (R : Rep K z r s H F) (T : SkC K C) (hi : r[i]? = some (some (.s b n t rows))) : ∃ a dx l vn vt vs, s[i]? = some (some (.ref a)) ∧ H a = some (.ins C dx (seekF vn l vt)) ∧ F dx = some (.own a) ∧ H l = some (.lst vs) ∧ F l = none ∧ Dp K F vn n ∧ Dp K F vt t ∧ DpAll K F vs rows := by
  obtain ⟨v, at_, a, rfl, _, _, ⟨C', dx, l, vn, vt, vs, h0, h1, h2, h3, h4, h5, h6, h7⟩, _⟩ := R.slots i _ hi
  have : C' = C := by
    have := h0.symm.trans T.at_
    cases this; rfl
  subst this
  exact ⟨a, dx, l, vn, vt, vs, at_, h1, h2, h3, h4, h5, h6, h7⟩
theorem sk_part (h : H a = some (.ins C dx (seekF vn l vt))) : Part H a l := .inr ⟨C, dx, _, h, rfl⟩
theorem sk_parts (h : H a = some (.ins C dx (seekF vn l vt))) {x : Addr} (p : Part H a x) : x = a ∨ x = l := by
  rcases p with p | ⟨C', dx', fs, g1, g2⟩
  · exact .inl p
  · rw [h] at g1
    cases g1
    have : some (V.ref l) = some (V.ref x) := g2
    cases this
    exact .inr rfl
end
end DL
/-! methods, of a seeker in a slot; what they raise -/
namespace DL
open PySem L2 PyProof.Rows PySem.Spec
/-! ### a def that may raise, one parameter of which (the j-th) is an own thing of the caller's -/
/-! ### the calls -/
end DL
/-! a new seeker -/
namespace DL
open PySem L2 PyProof.Rows PySem.Spec
/-! ### the call: a loose seeker -/
end DL
/-! a seeker's method in a try, with several clauses -/
namespace DL
open PySem L2 PyProof.Rows PySem.Spec
inductive SHds (X : Cx) (W : String → Hp → Prop) (rs : List String) : List ExceptHandler → List (Value × (Addr → Value → Option Addr → TS)) → List (String × SM) → Prop
  | nil : SHds X W rs [] [] []
  | cons {c : String} {C : Addr} {b₀ : Stmt} {suite : List Stmt} {np ph : Pos} {h : SM} {hds : List ExceptHandler} {l : List (Value × (Addr → Value → Option Addr → TS))} {hs : List (String × SM)} (T : Err X.K X.mg c C) (hg : Gl X (Str.ofString c)) (hd : (Str.ofString c == ("__debug__" : Str)) = false)
      (dis : ∀ c' ∈ rs, c' ≠ c → ∀ C', X.mg (Str.ofString c') = some (.ref C') → PySem.W.exmOne X.K (.ref C') (.ref C) = some false) (hsu : ∀ a pn, SSs (X.suite a pn) W (b₀ :: suite) h) (r : SHds X W rs hds l hs) :
      SHds X W rs (.ExceptHandler (some (.Name (Str.ofString c) np)) none (b₀ :: suite) ph :: hds) ((.ref C, fun _ _ _ => liftS X.K W h) :: l) ((c, h) :: hs)
section
variable {X : Cx} {W : String → Hp → Prop} {rs : List String} {hds : List ExceptHandler} {l : List (Value × (Addr → Value → Option Addr → TS))} {hs : List (String × SM)}
theorem SHds.ok (h : SHds X W rs hds l hs) : HdsOk X hds l := by
  induction h with
  | nil => exact .nil
  | cons T hg hd dis hsu r ih => exact .cons ⟨hg, hd, .inl T.at_⟩ (fun a oe cls d pn _ _ => (hsu a _).ps) ih
end
/-! ### a, b = C(..), y -/
theorem Rep.sk_kept {K : PySem.W.Frag} {z : Fx} {r r' : Rho} {s s' : L2.St} {H F H' F' : Hp} {a : Addr} {n t : D} {rows : List D} (R : Rep K z r s H F) (R' : Rep K ⟨bare r s H, F, z.rf⟩ r' s' H' F') (nf : F a = none) (no : ∀ b, Part H a b → z.H0 b = none ∧ ¬ OwnAt r s H b) (sk : SkAt K F H a n t rows) (ff : SubH F F') :
    F' a = none ∧ (∀ b, Part H' a b → z.H0 b = none ∧ ¬ OwnAt r' s' H' b) ∧ SkAt K F' H' a n t rows := by
  obtain ⟨C, dx, l, vn, vt, vs, h0, h1, h2, h3, h4, h5, h6, h7⟩ := sk
  have p : Part H a l := sk_part h1
  have nt : ¬ IsTu (.ins C dx (seekF vn l vt)) := fun ⟨ob, ws, q⟩ => by rcases tupHO_cases ob ws with e | e <;> rw [e] at q <;> cases q
  obtain ⟨a1, a2, a3⟩ := R.loose_kept R' h1 nf (no a part_self).2 nt
  obtain ⟨l1, l2, l3⟩ := R.loose_kept R' h3 h4 (no l p).2 not_tu
  refine ⟨a2, fun b q => ?_, C, dx, l, vn, vt, vs, h0, a1, ff _ _ h2, l1, l2, dp_mono ff h5, dp_mono ff h6, dpa_mono ff h7⟩
  rcases sk_parts a1 q with rfl | rfl
  · exact ⟨(no b part_self).1, a3⟩
  · exact ⟨(no b p).1, l3⟩
end DL
/-! a def with any number of own things of the caller's among its arguments -/
namespace DL
open PySem L2 PyProof.Rows PySem.Spec
end DL
/-! the call of a def with any number of own things among its arguments -/
namespace DL
open PySem L2 PyProof.Rows PySem.Spec
/-! ### the arguments: none for a datum, some i for the own thing of slot i -/
/-! ### what stands behind the pattern -/
end DL
/-! a, b = C(..), C(..); a, b, c = C(..), C(..), C(..) -/
namespace DL
open PySem L2 PyProof.Rows PySem.Spec
/-- a seeker that no slot has yet -/
structure Loose (K : PySem.W.Frag) (z : Fx) (r : Rho) (s : L2.St) (H F : Hp) (a : Addr) (n t : D) (rows : List D) : Prop where
  nf : F a = none
  no : ∀ b, Part H a b → z.H0 b = none ∧ ¬ OwnAt r s H b
  sk : SkAt K F H a n t rows
section
variable {K : PySem.W.Frag} {z : Fx} {r r' : Rho} {s s' : L2.St} {H F H' F' : Hp} {a b : Addr} {n t n' t' : D} {rows rows' : List D}
theorem Loose.kept (L : Loose K z r s H F a n t rows) (R : Rep K z r s H F) (R' : Rep K ⟨bare r s H, F, z.rf⟩ r' s' H' F') (ff : SubH F F') : Loose K z r' s' H' F' a n t rows := by
  obtain ⟨h1, h2, h3⟩ := R.sk_kept R' L.nf L.no L.sk ff
  exact ⟨h1, h2, h3⟩
theorem bare_gone (R : Rep K z r s H F) {b : Addr} (h : bare r s H b = none) : z.H0 b = none := by
  by_cases p : OwnAt r s H b
  · exact (R.own_facts p).2.2
  · rw [bare_not p] at h
    exact R.old.none h
theorem Loose.up (R : Rep K z r s H F) (L : Loose K ⟨bare r s H, F, z.rf⟩ r' s' H' F' a n t rows) : Loose K z r' s' H' F' a n t rows :=
  ⟨L.nf, fun b p => ⟨bare_gone R (L.no b p).1, (L.no b p).2⟩, L.sk⟩
/-- the old one's parts were there -/
theorem Loose.there (L : Loose K z r s H F a n t rows) (R' : Rep K ⟨bare r s H, F, z.rf⟩ r' s' H' F') {x : Addr} (p : Part H' a x) : bare r s H x ≠ none := by
  obtain ⟨C, dx, l, vn, vt, vs, h0, h1, h2, h3, _⟩ := L.sk
  have b1 : bare r s H a = some (.ins C dx (seekF vn l vt)) := by rw [bare_not (L.no a part_self).2]; exact h1
  have b2 : bare r s H l = some (.lst vs) := by rw [bare_not (L.no l (sk_part h1)).2]; exact h3
  have k1 : H' a = some (.ins C dx (seekF vn l vt)) := R'.old _ _ b1
  rcases sk_parts k1 p with rfl | rfl
  · rw [b1]; simp
  · rw [b2]; simp
theorem Loose.own (L : Loose K z r s H F b n t rows) {i : Nat} {sv : SV} (ap : ∀ x, Part H a x → ¬ Part H b x) : Loose K z (r.set i (some sv)) (s.set i (some (.ref a))) H F b n t rows :=
  ⟨L.nf, fun x p => ⟨(L.no x p).1, fun ⟨j, h⟩ => by
    rcases owns_set h with ⟨_, _, a', e, q⟩ | ⟨_, h⟩
    · cases e; exact ap x q p
    · exact (L.no x p).2 ⟨j, h⟩⟩, L.sk⟩
end
end DL
/-! the body of a try, in which a seeker's methods may raise -/
namespace DL
open PySem L2 PyProof.Rows PySem.Spec
def outTB (K : PySem.W.Frag) (mg : Str → Option Value) (z : Fx) (F : Hp) (V : WX) (D : Ends) : Out → Prop
  | .nx r' => ∀ s' H' F', Rep K z r' s' H' F' → SubH F F' → D.nx s' H'
  | .rt d r' => ∀ v s' H' F', Rep K z r' s' H' F' → SubH F F' → Dp K F' v d → D.rt v H'
  | .bk r' => ∀ s' H' F', Rep K z r' s' H' F' → SubH F F' → D.bk s' H'
  | .ct r' => ∀ s' H' F', Rep K z r' s' H' F' → SubH F F' → D.ct s' H'
  | .ex c r' => ∀ s' H' F' C, mg (Str.ofString c) = some (.ref C) → Rep K z r' s' H' F' → SubH F F' → V (.ref C) none s' H'
theorem outTB.mono {K : PySem.W.Frag} {mg : Str → Option Value} {z : Fx} {F F' : Hp} {V : WX} {D : Ends} {o : Out} (h : outTB K mg z F V D o) (e : SubH F F') : outTB K mg z F' V D o := by
  cases o with
  | nx r => exact fun s H G R sb => h s H G R (e.trans sb)
  | rt d r => exact fun v s H G R sb => h v s H G R (e.trans sb)
  | bk r => exact fun s H G R sb => h s H G R (e.trans sb)
  | ct r => exact fun s H G R sb => h s H G R (e.trans sb)
  | ex c r => exact fun s H G C m R sb => h s H G C m R (e.trans sb)
end DL
/-! xs[l:u:k] of a list -/
namespace DL
open PySem L2 PyProof.Rows PySem.Spec
end DL
/-! texts -/
namespace DL
open PySem L2 PyProof.Rows PySem.Spec
def strsOf : List D → Option (List Str)
  | [] => some []
  | .str x :: ds => (strsOf ds).map (x :: ·)
  | _ :: _ => none
theorem strsOf_some : ∀ {ds : List D} {ys : List Str}, strsOf ds = some ys → ds = ys.map PyData.str
  | [], _, h => by cases h; rfl
  | .str x :: ds, ys, h => by
    obtain ⟨q, h1, h2⟩ := Option.map_eq_some_iff.mp h
    cases h2
    rw [strsOf_some h1]; rfl
  | .none :: _, _, h => nomatch h
  | .bool _ :: _, _, h => nomatch h
  | .int _ :: _, _, h => nomatch h
  | .list _ :: _, _, h => nomatch h
  | .tuple _ :: _, _, h => nomatch h
  | .dict _ :: _, _, h => nomatch h
theorem dpa_strs {K : PySem.W.Frag} {F : Hp} : ∀ {ys : List Str} {vs : List V}, DpAll K F vs (ys.map PyData.str) → vs = ys.map V.str
  | [], [], _ => rfl
  | y :: ys, v :: vs, h => by
    cases h with
    | cons x t => cases x.inv; rw [dpa_strs t]; rfl
  | [], _ :: _, h => nomatch h
  | _ :: _, [], h => nomatch h
theorem dpa_strs_mk {K : PySem.W.Frag} {F : Hp} : ∀ (ys : List Str), DpAll K F (ys.map V.str) (ys.map PyData.str)
  | [] => .nil
  | y :: ys => .cons (.str y) (dpa_strs_mk ys)
def joinD : D → D → Option D
  | .str a, .list ds => (strsOf ds).bind fun ys => if (ys.map (·.length)).sum + ys.length * a.length ≤ 16777216 then some (.str (Txt.join a ys)) else none
  | _, _ => none
/-- x.split(y), the parts -/
def splitV : D → D → Option (List D)
  | .str a, .str b => if (b.length == 0) = false ∧ szOk a.length = true then some ((Txt.split a b).map .str) else none
  | _, _ => none
theorem joinD_some {d e o : D} (h : joinD d e = some o) : ∃ (a : Str) (ys : List Str), d = .str a ∧ e = .list (ys.map .str) ∧ (ys.map (·.length)).sum + ys.length * a.length ≤ 16777216 ∧ o = .str (Txt.join a ys) := by
  unfold joinD at h
  split at h
  · obtain ⟨ys, e4, e5⟩ := Option.bind_eq_some_iff.mp h
    split at e5
    · rename_i hz
      cases e5
      cases strsOf_some e4
      exact ⟨_, ys, rfl, rfl, hz, rfl⟩
    · cases e5
  · cases h
theorem splitV_some {d e : D} {ds : List D} (h : splitV d e = some ds) : ∃ a b : Str, d = .str a ∧ e = .str b ∧ (b.length == 0) = false ∧ a.length + 2 ≤ sizeLine ∧ ds = (Txt.split a b).map .str := by
  unfold splitV at h
  split at h
  · split at h
    · rename_i hz
      cases h
      exact ⟨_, _, rfl, rfl, hz.1, Nat.le_trans (Nat.add_le_add_right (of_decide_eq_true hz.2) 2) (by decide), rfl⟩
    · cases h
  · cases h
def splitM (f g : EM) : AM := fun r => (f r).bind fun p => (g p.2).bind fun q => (splitV p.1 q.1).map fun ds => (ds, q.2)
section
variable {X : Cx} {a b c e o tg : Expr} {es : List Expr} {f g : EM} {pos : Pos}
theorem se_join {apos pos : Pos} (ha : SE X o f) (hb : SE X e g) (hs : starEach [e] X.env = [(false, eval e X.env)] := by rfl) (hbase : attributeBase o "join" X.env (eval o X.env) = eval o X.env := by rfl) (hline : (apos.endLine == pos.line) = true := by rfl) :
    SE X (.Call (.Attribute o "join" apos) [e] [] pos) (opM joinD f g) :=
  ⟨pe_imp (pe_join ha.pe hb.pe hs hbase hline) fun s H Q ⟨z, r, F, d, r', R, e, k⟩ => by
    obtain ⟨x, r1, y, e1, e2, e3⟩ := opM_some e
    obtain ⟨a, ys, rfl, rfl, hz, rfl⟩ := joinD_some e3
    refine ⟨z, r, F, _, r1, R, e1, fun v H1 F1 R1 sb1 dx => ⟨⟨a, dx.inv⟩, z, r1, F1, _, r', R1, e2, fun w H2 F2 R2 sb2 dy => ?_⟩⟩
    obtain ⟨p, vs, rfl, h1, h2⟩ := dy.inv
    cases dpa_strs h2
    exact ⟨a, p, ys, dx.inv, rfl, .inl (R2.fh.sql h1), hz, k _ _ _ R2 (sb1.trans sb2) (.str _)⟩⟩
theorem sl_split {apos pos : Pos} (ha : SE X o f) (hb : SE X e g) (hs : starEach [e] X.env = [(false, eval e X.env)] := by rfl) (hbase : attributeBase o "split" X.env (eval o X.env) = eval o X.env := by rfl) (hline : (apos.endLine == pos.line) = true := by rfl) :
    SL X (.Call (.Attribute o "split" apos) [e] [] pos) (splitM f g) :=
  ⟨pe_imp (pe_split ha.pe hb.pe hs hbase hline) fun s H Q ⟨z, r, F, d, r', R, e, k⟩ => by
    obtain ⟨⟨x, r1⟩, e1, e⟩ := Option.bind_eq_some_iff.mp e
    obtain ⟨⟨y, r2⟩, e2, e⟩ := Option.bind_eq_some_iff.mp e
    obtain ⟨ds, e3, e4⟩ := Option.map_eq_some_iff.mp e
    cases e4
    obtain ⟨a, b, ea, eb, h1, h2, ed⟩ := splitV_some e3
    have ea : x = .str a := ea
    have eb : y = .str b := eb
    subst ea eb ed
    refine ⟨z, r, F, _, r1, R, e1, fun v H1 F1 R1 sb1 dx => ⟨⟨a, dx.inv⟩, z, r1, F1, _, _, R1, e2, fun w H2 F2 R2 sb2 dy => ⟨a, b, dx.inv, by rw [dy.inv], h1, h2, fun p hp => ?_⟩⟩⟩
    obtain ⟨R3, g1, g2, g3, g4⟩ := R2.loose (vs := (Txt.split a b).map V.str) hp
    exact k p _ _ F2 R3 (sb1.trans sb2) g1 g2 g3 g4 (dpa_strs_mk _)⟩
/-! ### f'..' -/
/-- a part's text -/
def fmtT : D → Option Str
  | .str y => if szOk y.length then some y else none
  | .int i => if i.natAbs.log2 < 1920 then some (toString i) else none
  | _ => none
def fmtM (f : EM) : EM := fun r => (f r).bind fun p => (fmtT p.1).map fun y => (.str y, p.2)
theorem se_fmt {p : Pos} (ha : SE X e f) : SE X (.FormattedValue e (-1) none p) (fmtM f) :=
  ⟨pe_imp (pe_fmt ha.pe) fun s H Q ⟨z, r, F, d, r', R, e, k⟩ => by
    obtain ⟨⟨x, r1⟩, e1, e⟩ := Option.bind_eq_some_iff.mp e
    obtain ⟨y, e2, e3⟩ := Option.map_eq_some_iff.mp e
    cases e3
    refine ⟨z, r, F, x, _, R, e1, fun v H1 F1 R1 sb dv => ?_⟩
    cases x with
    | str y' =>
      have e2 : (if szOk y'.length then some y' else none) = some y := e2
      split at e2
      · rename_i hz
        cases e2
        exact .inl ⟨_, dv.inv, szOk_le hz, k _ _ _ R1 sb (.str _)⟩
      · cases e2
    | int i =>
      have e2 : (if i.natAbs.log2 < 1920 then some (toString i : Str) else none) = some y := e2
      split at e2
      · rename_i hz
        cases e2
        exact .inr ⟨i, dv.inv, hz, k _ _ _ R1 sb (.str _)⟩
      · cases e2
    | _ => cases e2⟩
/-- the parts, each a text -/
inductive SJ (X : Cx) : List Expr → List EM → Prop
  | nil : SJ X [] []
  | cons {e : Expr} {f : EM} {es : List Expr} {fs : List EM} (h : SE X e f) (r : SJ X es fs) : SJ X (e :: es) (f :: fs)
theorem SJ.pj {es : List Expr} {fs : List EM} (h : SJ X es fs) : PJ X es (fs.map (liftE X.K)) := by
  induction h with
  | nil => exact .nil
  | cons h r ih => exact .cons h.pe ih
def jsL : List EM → Str → Rho → Option (Str × Rho)
  | [], acc, r => some (acc, r)
  | f :: fs, acc, r => (f r).bind fun p => match p.1 with
    | .str y => if szOk (acc ++ y).length then jsL fs (acc ++ y) p.2 else none
    | _ => none
def jsM (fs : List EM) : EM := fun r => (jsL fs Str.empty r).map fun p => (.str p.1, p.2)
theorem js_run {K : PySem.W.Frag} : ∀ (fs : List EM) (acc : Str) (s : L2.St) (H : Hp) (Q : Str → Hp → Prop) (z : Fx) (r r' : Rho) (F : Hp) (out : Str), Rep K z r s H F → jsL fs acc r = some (out, r') → (∀ H' F', Rep K z r' s H' F' → SubH F F' → Q out H') →
    tJs (fs.map (liftE K)) acc s H Q
  | [], acc, s, H, Q, z, r, r', F, out, R, e, k => by
    cases e
    exact k H F R (.refl _)
  | f :: fs, acc, s, H, Q, z, r, r', F, out, R, e, k => by
    obtain ⟨⟨x, r1⟩, e1, e⟩ := Option.bind_eq_some_iff.mp e
    cases x with
    | str y =>
      have e : (if szOk (acc ++ y).length = true then jsL fs (acc ++ y) r1 else none) = some (out, r') := e
      split at e
      · rename_i hz
        exact ⟨z, r, F, _, r1, R, e1, fun v H1 F1 R1 sb dv => ⟨y, dv.inv, szOk_le hz, js_run fs _ s H1 Q z r1 r' F1 out R1 e fun H2 F2 R2 sb2 => k H2 F2 R2 (sb.trans sb2)⟩⟩
      · cases e
    | _ => cases e
theorem se_js {v1 v2 : Expr} {rest : List Expr} {fs : List EM} (h : SJ X (v1 :: v2 :: rest) fs) : SE X (.JoinedStr (v1 :: v2 :: rest) pos) (jsM fs) :=
  ⟨pe_imp (pe_joined h.pj) fun s H Q ⟨z, r, F, d, r', R, e, k⟩ => by
    obtain ⟨⟨out, r1⟩, e1, e2⟩ := Option.map_eq_some_iff.mp e
    cases e2
    exact js_run fs _ s H _ z r _ F out R e1 fun H' F' R' sb => k _ _ _ R' sb (.str _)⟩
/-! ### one sign in a text, int of a figure, a text's signs -/
def inSB : D → D → Option Bool
  | .str ⟨⟨[c]⟩⟩, .str z => some (decide (c ∈ z.cps.toList))
  | _, _ => none
def notInSB (d e : D) : Option Bool := (inSB d e).map fun b => !b
theorem inSB_some {d e : D} {b : Bool} (h : inSB d e = some b) : ∃ (c : Nat) (z : Str), d = .str ⟨#[c]⟩ ∧ e = .str z ∧ b = decide (c ∈ z.cps.toList) := by
  unfold inSB at h
  split at h
  · cases h; exact ⟨_, _, rfl, rfl, rfl⟩
  · cases h
theorem or_notInSB : OpR X (compareOp .NotIn) (liftO X.K (bD notInSB)) := by
  intro pins s σ H x y v u Q I rx ry h
  obtain ⟨F, d, e, o, sb, dx, dy, eo, k⟩ := h
  obtain ⟨bb, e9, rfl⟩ := bD_some eo
  obtain ⟨b', e8, rfl⟩ := Option.map_eq_some_iff.mp e9
  obtain ⟨c, z, rfl, rfl, rfl⟩ := inSB_some e8
  cases dv_str dx; cases dv_str dy
  exact op_notIn_sign pins s σ H _ _ v u Q I rx ry ⟨c, z, rfl, rfl, k _ H F (.refl sb) (.bl _)⟩
def intSD : D → Option D
  | .str a => if a.length ≤ 640 then (PySem.intText? a).map .int else none
  | _ => none
theorem cr_intS : CallR X (.type "int") (liftC1 X.K intSD) := by
  intro pins s σ H vs us Q I r h
  obtain ⟨F, x, d, o, rfl, sb, dx, eo, k⟩ := h
  unfold intSD at eo
  split at eo
  · split at eo
    · rename_i hz
      obtain ⟨n, e1, e2⟩ := Option.map_eq_some_iff.mp eo
      cases e2
      cases dv_str dx
      exact call_int_str pins s σ H _ us Q I r ⟨_, n, rfl, e1, hz, k _ H F (.refl sb) (.int _)⟩
    · cases eo
  · cases eo
def signsOf : D → Option (List D)
  | .str z => some (z.cps.toList.map fun c => .str ⟨#[c]⟩)
  | _ => none
def seqSM (f : EM) : AM := fun r => (f r).bind fun p => (signsOf p.1).map fun ds => (ds, p.2)
theorem walkD_str {K : PySem.W.Frag} {F : Hp} {z : Str} : WalkD K false F (Its z) (z.cps.toList.map fun c => PyData.str ⟨#[c]⟩) := by
  refine ⟨⟨fun i H v H' => H' = H ∧ ∃ c, z.cps[i]? = some c ∧ v = .str ⟨#[c]⟩, ?_, ?_⟩⟩
  · have : (z.cps.toList.map fun c => PyData.str ⟨#[c]⟩).length = z.cps.size := by simp
    rw [this]
    exact walk_str.mono (fun H hs => trivial) fun _ _ _ _ _ _ y => y
  · rintro i H x H' ⟨rfl, c, hc, rfl⟩ F' sb sh
    exact ⟨F', .str ⟨#[c]⟩, by simp [hc], .refl sh, .inl (.str _)⟩
theorem si_str (ha : SE X e f) : SI X false tg e (seqSM f) := ⟨⟨fun pins s σ H R I h => by
  obtain ⟨z, r, F, ds, r', Rr, e, k⟩ := h
  obtain ⟨⟨x, r1⟩, e1, e⟩ := Option.bind_eq_some_iff.mp e
  obtain ⟨ds', e2, e3⟩ := Option.map_eq_some_iff.mp e
  cases e3
  have e2 : signsOf x = some ds := e2
  cases x with
  | str y =>
    cases e2
    exact (pi_str ha.pe).run pins s σ H R I ⟨z, r, F, _, _, Rr, e1, fun v H' F' R' sb dv => ⟨y, dv.inv, k _ H' F' R' sb walkD_str⟩⟩
  | _ => cases e2⟩⟩
end
end DL
/-! a def called where it is known that no repr is under way -/
namespace DL
open PySem L2 PyProof.Rows PySem.Spec
/-- as FnOk, but only where it is known that nothing guarded runs around -/
structure FnG (P : Program) (w : World) (K : PySem.W.Frag) (mg : Str → Option Value) (base : Heap) (k : Nat) (f : Addr) (fd : FuncData) (ps : List Str) (sp : Sp) : Prop where
  len : ∀ vs H Q E, sp vs H Q E → vs.length = ps.length
  run : ∀ (A : Around) (outer : List Env) (s : Shared) (H : Hp) (args : Args) (us : List Value) (vs : List V) (Q : VK) (E : XK), A.guards = some [] → Room k A → Env0 P w K mg base A outer s H → BindsTo s fd args (ps.zip us) → Vals vs us → sp vs H Q E →
    codeAny (model P w) A (.call (.ref f) args) (CR CX0 outer P w H s Q E) s
section
variable {P : Program} {w : World} {K : PySem.W.Frag} {mg : Str → Option Value} {base : Heap}
theorem FnG.mono {j k : Nat} {f : Addr} {fd : FuncData} {ps : List Str} {sp : Sp} (F : FnG P w K mg base j f fd ps sp) (h : j ≤ k) : FnG P w K mg base k f fd ps sp :=
  ⟨F.len, fun A outer s H args us vs Q E hg room => F.run A outer s H args us vs Q E hg (room.mono h)⟩
end
end DL
/-! the law's call, where no repr is under way -/
namespace DL
open PySem L2 PyProof.Rows PySem.Spec
section
variable {P : Program} {w : World} {K : PySem.W.Frag} {mg mb : Str → Option Value} {s : Shared} {a : Addr} {vs : List Value} {ns : List Int} {H : Hp}
/-- the script's object -/
def scriptObj (vs : List Value) : Obj := { cls := .type "list", data := .seq vs.toArray }
/-- an abstract heap that tells at most of the script -/
structure Root (P : Program) (w : World) (K : PySem.W.Frag) (s : Shared) (a : Addr) (vs : List Value) (ns : List Int) (H : Hp) : Prop where
  none_ : ∀ b, b ≠ a → H b = none
  one_ : H a = none ∨ (H a = some (.frz (scriptObj vs) (.lst (ns.map V.int))) ∧ K.lookup a = none)
  sql : SqL K H a (ns.map V.int)
  hok : HOk P w H s.heap
/-- what is no script stands in the heap without what is told of -/
theorem Root.base (R : Root P w K s a vs ns H) {b : Addr} {o : Obj} (h : s.heap.get? b = some o) (n : b ≠ a ∨ H a = none) : (hidT s.heap H).get? b = some o := by
  refine hidT_get h ?_
  by_cases e : b = a
  · subst e
    exact n.elim (fun q => absurd rfl q) fun q => q
  · exact R.none_ b e
theorem Root.nsp (R : Root P w K s a vs ns H) (ha : s.heap.get? a = some (scriptObj vs)) {b : Addr} {m : Str → Option Value} (h : s.heap.Ns b m) : (hidT s.heap H).Ns b m := by
  obtain ⟨o, es, ep, at_, dat, rest⟩ := h
  refine ⟨o, es, ep, R.base at_ (.inl fun e => ?_), dat, rest⟩
  subst e
  rw [ha] at at_
  cases at_
  have dat : Data.seq vs.toArray _ = Data.dict es ep := dat
  cases dat
theorem Root.env (R : Root P w K s a vs ns H) (KX : K.In s.heap) (hns : s.heap.Ns mainGlobals mg) (hb : s.heap.Ns builtinsNs mb) (hbb : ∀ x : Str, x ≠ "__name__" → mb x = bootBuiltins x) (hlim : s.heap.NoLimit) (hg : s.gens = #[]) (ha : s.heap.get? a = some (scriptObj vs)) :
    Env0 P w K mg (hidT s.heap H) callerA [] s H := by
  have kin : K.In (hidT s.heap H) := fun b o q => R.base (KX b o q) (by
    rcases R.one_ with h | ⟨_, no⟩
    · exact .inr h
    · exact .inl fun e => by rw [e, no] at q; cases q)
  obtain ⟨mc, c1, c2⟩ := hlim
  exact {
    frames := rfl
    mod := ⟨kin, R.nsp ha hns, ⟨mb, R.nsp ha hb, hbb⟩, ⟨mc, R.nsp ha c1, c2⟩⟩
    bs := fun b o q => of_hidT q
    bsz := Nat.le_of_eq (hidT_size _ _)
    funs := trivial
    frf := fun b m => by cases m
    hok := R.hok
    bare := .of_eq hg }
/-- behind the call all that was there is there -/
theorem Root.old (R : Root P w K s a vs ns H) {Q : VK} {u : Value} {s' : Shared} (c : CE [] P w H s Q u s') : OldK s.heap s'.heap ∧ s'.os = s.os ∧ AllBare s'.gens := by
  obtain ⟨v, H', os, bare, un, hok', _, _⟩ := c
  refine ⟨OldK.of_keep fun b o at_ => ?_, os, bare⟩
  cases told : H b with
  | none => exact un.keep b o at_ told (by intro m; cases m) (by intro m; cases m)
  | some x =>
    have e : b = a := Classical.byContradiction fun n => by rw [R.none_ b n] at told; cases told
    subst e
    rcases R.one_ with n | ⟨y, _⟩
    · rw [n] at told; cases told
    · obtain ⟨g1, _⟩ := R.hok b _ y
      obtain ⟨g2, _⟩ := hok' b _ (un.frzs b _ _ y)
      rw [g1] at at_
      cases at_
      exact g2
end
end DL
/-! repr(t), str(t) of a tuple, where none is under way -/
namespace DL
open PySem L2 PyProof.Rows PySem.Spec
/-! ### the call of a def where no repr is under way -/
end DL
/-! calls as statements of their own, which may raise -/
namespace DL
open PySem L2 PyProof.Rows PySem.Spec
/-! ### where an exception is handled -/
open L2H (RoomH PinOk cxH inv_startH)
end DL
/-! except .. as e, where e is handed to a def that looks at its class -/
namespace DL
open PySem L2 PyProof.Rows PySem.Spec
open L2H (RoomH PinOk)
/-! ### a def that looks at an exception's class -/
/-! ### the try -/
end DL
/-! the suite that hands the exception on; a new seeker's method as a statement of its own -/
namespace DL
open PySem L2 PyProof.Rows PySem.Spec
open L2H (RoomH PinOk)
/-! ### C(..).m() -/
end DL
/-! a comprehension whose element may raise by a call -/
namespace DL
open PySem L2 PyProof.Rows PySem.Spec
/-! ### the exception on its way out of the block -/
theorem frames_but {h1 h2 B B2 : Heap} {C : Addr} (sb : ∀ b, b ≠ C → h2.get? b = h1.get? b) (sub : ∀ b, B.get? b = none → B2.get? b = none) : ∀ {l : List Env}, C ∉ frs l → h1.FunFrames B l → h2.FunFrames B2 l
  | [], _, _ => trivial
  | fr :: l, no, ⟨kd, ⟨L, o, ef, bn, ho, nr⟩, more⟩ => by
    have no2 : L ≠ C ∧ C ∉ frs l := by
      unfold frs at no ⊢
      rw [List.filterMap_cons, ef] at no
      exact ⟨fun z => no (z ▸ List.mem_cons_self), fun m => no (List.mem_cons_of_mem _ m)⟩
    exact ⟨kd, ⟨L, o, ef, sub L bn, (sb L no2.1).trans ho, nr⟩, frames_but sb sub no2.2 more⟩
/-- what is known to fly does not stand noted -/
theorem sky_fly {B B2 : Heap} {l l2 : List Env} {a L : Addr} {Z Z2 : Obj → Prop} {h : Heap} (x : Sky B l a Z L h) (f : HandSPX.FlyingZ B2 l2 a Z2 h) : HandSPX.FlyingZ B l a Z h := by
  obtain ⟨_, _, _, oa, fa, T, oT, fT, ga, _, da, f1, _, _, gT, dT, f3⟩ := f
  rcases x with ⟨_, _, _, o2, v2, g2, _, d2, n2⟩ | x | ⟨_, _, _, o2, v2, T2, p2, t2, g2, _, d2, n2, _, _, q2, r2, s2⟩
  · rw [ga] at g2; cases g2; rw [da] at d2; cases d2; rw [f1] at n2; cases n2
  · exact x
  · rw [ga] at g2; cases g2; rw [da] at d2; cases d2; rw [f1] at n2; cases n2
    rw [gT] at q2; cases q2; rw [dT] at r2; cases r2; rw [f3] at s2; cases s2
/-- the block's names are let go, the ground without them -/
theorem held_but {B B2 : Heap} {l : List Env} {a C L : Addr} {Z : Obj → Prop} {h1 h2 : Heap} {m : Str → Option Value} (hh : HandSPX.HeldZ B l a Z L h1) (sb : Heap.SameBut C h1 h2) (ns : h1.Ns C m) (no : C ∉ frs l)
    (r1 : ∀ b, b ≠ C → B2.get? b = B.get? b) (r2 : B2.get? C = none) : HandSPX.HeldZ B2 l a Z L h2 := by
  obtain ⟨st, ba, ff, oa, fa, T, oT, fT, ga, za, da, f1, bT, ne, gT, dT, f3⟩ := hh
  obtain ⟨oc, es, ep, gc, dc, _⟩ := ns
  have nrec : ∀ {b o fs}, h1.get? b = some o → o.data = .fields fs → b ≠ C := fun {b o fs} g d z => by
    rw [z, gc] at g; cases g; rw [dc] at d; cases d
  have sub : ∀ b, B.get? b = none → B2.get? b = none := fun b q => by
    by_cases e : b = C
    · rw [e]; exact r2
    · rw [r1 b e]; exact q
  refine ⟨fun b o g => ?_, sub a ba, frames_but sb.2 sub no ff, oa, fa, T, oT, fT, (sb.2 a (nrec ga da)).trans ga, za, da, f1, sub T bT, ne, (sb.2 T (nrec gT dT)).trans gT, dT, f3⟩
  by_cases e : b = C
  · rw [e, r2] at g; cases g
  · rw [r1 b e] at g
    exact (sb.2 b e).trans (st b o g)
/-- it goes on in the def's own frame -/
theorem pass_held {M : Model} {A : Around} {E : Value → Shared → Prop} {s : Shared} {B : Heap} {l : List Env} {a L : Addr} {Z : Obj → Prop} {fr : Env} {what : String} {Q : Value → Shared → Prop} (hh : HandSPX.HeldZ B l a Z L s.heap) (ef : fr.frame = some L)
    (k : ∀ h, HandSPX.HeldZ B l a Z L h → s.heap.UpToSlots h → E (.ref a) { s with heap := h }) : wpAny M A (PySem.passOn what (.ref a) fr : Sem Value) Q E s := by
  obtain ⟨_, _, _, oa, fa, T, oT, fT, ga, za, da, f1, _⟩ := id hh
  unfold PySem.passOn
  refine wpAny_bind (wpAny_field ga da f1 ?_)
  rw [if_neg (show ¬ (Value.ref T == Value.none) = true by simp), ef]
  exact wpAny_bind (HandSPX.setFlight_onZ hh fun h q up => wpAny_throw (k h q up))
/-- what an element's call may let out, in the block Y of X -/
def FlyOut (X Y : Cx) (E : XK) (u : Value) (s : Shared) : Prop := L2.XE Y (fun c d _ H => E c d H) u s ∧ ∃ a B Z, u = .ref a ∧ HandSPX.FlyingZ B X.stack a Z s.heap
theorem passes_out {X Y : Cx} {E : XK} (st : Y.stack = X.stack) (σ : L2.St) : PassesAt (L2.CX Y.prog Y.w) (Y.wish (FlyOut X Y E)) σ E := fun pins H s u s1 I c => by
  refine ⟨L2.XE.of_call I.unwish (fun _ _ _ h => h) c, ?_⟩
  obtain ⟨a, B, _, _, _, e, fl, _⟩ := c
  exact ⟨a, B, _, e, st ▸ fl⟩
section
variable {X : Cx} {pins : List (Addr × Obj)} {σ : L2.St} {H : Hp} {s : Shared} {E : XK}
/-- the block's frame notes it, lets its names go, and the def's frame has it in its air -/
theorem blk_out {scope : Scope} {ce : Env} {fp : List Addr} {u : Value} {s5 : Shared} (hs : X.stack = X.env :: X.outer) (hf : X.env.frame = some X.env.locals) (tk : L2.Takes X fun c d _ H => E c d H) (I : L2.Inv X pins σ H s) (cL : ce.locals = s.heap.objs.size)
    (cN : ∀ e, noteFrame e ce = noteFrame e X.env) (cF : ce.frame = X.env.frame) (hfp : ∀ b ∈ fp, FpOk X pins H b) (x : FlyOut X (X.blk s H scope ce fp) E u s5) :
    notedBy (model X.prog X.w) X.A ce (CompFails (model X.prog X.w) X.A X.xe ce) u s5 := by
  obtain ⟨⟨a, B, sI, _, _, H6, cls, d, rfl, I6, nb, up, sky, na, os, ag, w⟩, a2, B2, Z2, ea, fl2⟩ := x
  cases ea
  have fly : HandSPX.FlyingZ B (X.env :: X.outer) a (Zc cls d) s5.heap := hs ▸ sky_fly sky fl2
  have I7 : L2.Inv X pins σ H6 sI := I.call' (ch := fp) I6.os I6.base I6.hok I6.bare fun b hb => ⟨(hfp b hb).2.2.2.1, (hfp b hb).2.1, (hfp b hb).2.2.2.2.1, (hfp b hb).2.2.2.2.2⟩
  have nC : H6 ce.locals = none := I6.free
  obtain ⟨m, ns0, _⟩ := I6.loc
  have ns0 : sI.heap.Ns ce.locals m := ns0
  have noC : ce.locals ∉ frs (X.env :: X.outer) := fun hm => by
    have := I.stkSub ce.locals (hs ▸ hm)
    rcases List.mem_cons.mp this with z | z
    · exact absurd (z ▸ I.lt) (by rw [cL]; exact Nat.lt_irrefl _)
    · exact I.nofs (Nat.le_of_eq cL.symm) z
  unfold notedBy
  rw [cN]
  refine HandSPX.looks_onZ Zc.steady (by rw [I.ok.frames, hs]) hf fly fun h1 held1 up1 => ?_
  have ns1 : h1.Ns ce.locals m := (up.trans up1).ns ns0
  refine ⟨m, ns1, fun h2 m2 ns2 sb2 => ?_⟩
  obtain ⟨G, g1, g2⟩ := L2.restrict sI.heap fun b => decide (b ≠ ce.locals)
  obtain ⟨B3, b1, b2⟩ := L2.restrict B fun b => decide (b ≠ ce.locals)
  have g1 : ∀ b, b ≠ ce.locals → G.get? b = sI.heap.get? b := fun b q => g1 b (decide_eq_true q)
  have g2 : G.get? ce.locals = none := g2 _ (by simp)
  have b1 : ∀ b, b ≠ ce.locals → B3.get? b = B.get? b := fun b q => b1 b (decide_eq_true q)
  have b2 : B3.get? ce.locals = none := b2 _ (by simp)
  have inG : ∀ {b o}, G.get? b = some o → b ≠ ce.locals ∧ sI.heap.get? b = some o := fun {b o} q => by
    by_cases e : b = ce.locals
    · rw [e, g2] at q; cases q
    · exact ⟨e, (g1 b e) ▸ q⟩
  obtain ⟨p0, p1, p2, p3, p4, p5⟩ := I.fpOk (H' := H6) (Nat.le_of_eq cL.symm) nC
  have I8 : L2.Inv X pins σ H6 { sI with heap := G } := I7.turned (t' := sI.toks) (fun b o q e => (g1 b q).trans e) p0 p1 p3 p4 p5
  refine pass_held (B := B3) (l := X.env :: X.outer) (Z := Zc cls d) (held_but held1 sb2 ns1 noC b1 b2) (cF.trans hf) fun h3 held3 up3 => tk _ _ ?_
  refine ⟨a, B3, { sI with heap := G }, pins, σ, H6, cls, d, rfl, I8, fun b o q nf => ?_, fun b o q nr => ?_, .inr (.inr (hs ▸ held3)), na, os, ag, w⟩
  · obtain ⟨q1, q2⟩ := inG q
    exact (b1 b q1).trans (nb b o q2 nf)
  · obtain ⟨q1, q2⟩ := inG q
    obtain ⟨sl, e1⟩ := (up.trans up1) b o q2 nr
    obtain ⟨sl2, e2⟩ := up3 b _ ((sb2.2 b q1).trans e1) nr
    exact ⟨sl2, e2⟩
/-- the block, from the new list D on -/
theorem lc_turns {elt tg iter : Expr} {scope : Scope} {own : List (Str × Nat)} {pos : Pos} {g : TG} {te : TE} {Q : VK} {D it : Addr} {fp : List Addr} {tn : Nat → Heap → Prop} {J : It} {W : Nat → Nat → Hp → Prop} {m0 : Nat} (hs : X.stack = X.env :: X.outer) (hf : X.env.frame = some X.env.locals) (tk : L2.Takes X fun c d _ H => E c d H) (hc : X.calm = true) (hN : X.N.Nodup)
    (ok : BlkOk X.N X.env.scope scope own) (hg : ∀ (s : Shared) (H : Hp) (C : Addr) (cl : List (Str × Addr)) (fp : List Addr), PG (X.blk s H scope (compEnvC scope cl C X.env) fp) tg g)
    (he : ∀ (s : Shared) (H : Hp) (C : Addr) (cl : List (Str × Addr)) (fp : List Addr), PE ((X.blk s H scope (compEnvC scope cl C X.env) fp).wish (FlyOut X (X.blk s H scope (compEnvC scope cl C X.env) fp) E)) elt te)
    (I : L2.Inv X pins σ H s) (T : Turn X.prog X.w X.K tg J fp it tn) (here : tn 0 s.heap) (free : ∀ b ∈ fp, FpOk X pins H b ∧ b < s.heap.objs.size) (W0 : W 0 m0 H)
    (turn : ∀ i m H, W i m H → (J.stop i H ∧ Q (.ref D) H) ∨ (J.go i H ∧ ∃ Nx : Hp → Prop, (∀ H', Nx H' → ∃ m', m' < m ∧ W (i + 1) m' H') ∧ ∀ x H', J.yld i H x H' → g x (L2.wipe σ (own.map (·.2))) H' fun σ2 H2 => L2.wipe σ2 (own.map (·.2)) = L2.wipe σ (own.map (·.2)) ∧
      te σ2 H2 fun y H4 => ∃ acc, H4 D = some (.lst acc) ∧ acc.length < sizeLine ∧ Nx (upd H4 D (.lst (acc ++ [y]))))) :
    codeAny (model X.prog X.w) X.A (.compStart (.ListComp elt [⟨tg, iter, [], 0⟩] scope pos) 0 (.ref it) (.ref D) (compEnvC scope (cellsFrom (s.heap.objs.size + 1) scope.names (cloFrom X.env.cells scope.names [])) s.heap.objs.size X.env))
      (compEnds (model X.prog X.w) X.A X.xe none (EP X pins σ Q) (.ref D) (compEnvC scope (cellsFrom (s.heap.objs.size + 1) scope.names (cloFrom X.env.cells scope.names [])) s.heap.objs.size X.env)) { s with heap := pushCells (s.heap.push { cls := .type "dict", data := .dict #[] }) scope.names } := by
  have B0 := block_start I ok hN free
  have h0 : tn 0 ({ s with heap := pushCells (s.heap.push { cls := .type "dict", data := .dict #[] }) scope.names } : Shared).heap := T.keep _ _ _ here fun b _ o q => pushCells_keeps _ _ _ _ (Heap.get?_push_of_some _ q)
  have pg := hg s H s.heap.objs.size (cellsFrom (s.heap.objs.size + 1) scope.names (cloFrom X.env.cells scope.names [])) fp
  have pe := he s H s.heap.objs.size (cellsFrom (s.heap.objs.size + 1) scope.names (cloFrom X.env.cells scope.names [])) fp
  have eL : (compEnvC scope (cellsFrom (s.heap.objs.size + 1) scope.names (cloFrom X.env.cells scope.names [])) s.heap.objs.size X.env).locals = s.heap.objs.size := rfl
  have eN : ∀ e, noteFrame e (compEnvC scope (cellsFrom (s.heap.objs.size + 1) scope.names (cloFrom X.env.cells scope.names [])) s.heap.objs.size X.env) = noteFrame e X.env := fun e => rfl
  have eF : (compEnvC scope (cellsFrom (s.heap.objs.size + 1) scope.names (cloFrom X.env.cells scope.names [])) s.heap.objs.size X.env).frame = X.env.frame := rfl
  generalize compEnvC scope (cellsFrom (s.heap.objs.size + 1) scope.names (cloFrom X.env.cells scope.names [])) s.heap.objs.size X.env = ce at *
  generalize ({ s with heap := pushCells (s.heap.push { cls := .type "dict", data := .dict #[] }) scope.names } : Shared) = sc at *
  have turns : ∀ {σ' : L2.St} {H' : Hp} {s' : Shared}, L2.Inv (X.blk s H scope ce fp) [] σ' H' s' → (∀ b ∈ fp, H' b = none) → ∀ b ∈ fp, FpOk (X.blk s H scope ce fp) [] H' b := fun {σ' H' s'} J n b m =>
    ⟨n b m, (J.ok.exf b m).1, J.ok.exfs b m, .inl m, (J.ok.exf b m).2, fun p q => nomatch q⟩
  have loop : codeAny (model X.prog X.w) X.A (.compLoop (.ListComp elt [⟨tg, iter, [], 0⟩] scope pos) 0 (.ref it) (.ref D) ce) (compEnds (model X.prog X.w) X.A X.xe none (EP X pins σ Q) (.ref D) ce) sc := by
    refine compLoop_any (fun n s' => ∃ i H', L2.Inv (X.blk s H scope ce fp) [] (L2.wipe σ (own.map (·.2))) H' s' ∧ tn i s'.heap ∧ (∀ b ∈ fp, H' b = none) ∧ W i n H') ?_ m0 ⟨0, H, B0, h0, fun b m => (free b m).1.1, W0⟩
    rintro n s1 ⟨i, H1, J1, t1, n1, w1⟩
    rcases turn i n H1 w1 with ⟨stop, q⟩ | ⟨go, Nx, less, step⟩
    · refine thnF (T.done (X.blk s H scope ce fp) rfl rfl rfl hc i [] s1 _ H1 (fun _ _ => False) J1 (turns J1 n1) t1 stop) ?_
      rintro _ s2 ⟨rfl, J2⟩
      have J3 : L2.Inv X pins σ H1 s2 := I.call' (ch := fp) J2.os J2.base J2.hok J2.bare fun b m => ⟨(free b m).1.2.2.2.1, (free b m).1.2.1, (free b m).1.2.2.2.2.1, (free b m).1.2.2.2.2.2⟩
      have nC : H1 ce.locals = none := J2.free
      obtain ⟨m, ns, _⟩ := J2.loc
      obtain ⟨f0, f1, f2, f3, f4, f5⟩ := I.fpOk (H' := H1) (Nat.le_of_eq eL.symm) nC
      exact ⟨m, ns, fun h' sb => ⟨.ref D, H1, J3.turned (t' := s2.toks) (fun b o nb e => (sb.2 b nb).trans e) f0 f1 f3 f4 f5, rfl, q⟩⟩
    · refine thnF (T.item (X.blk s H scope ce fp) rfl rfl rfl hc i [] s1 _ H1 (fun _ _ => False) J1 (turns J1 n1) t1 go) ?_
      rintro _ s2 ⟨u, rfl, more⟩
      refine thnF more ?_
      rintro _ s3 ⟨x, H3, J3, rx, y3, t3, n3⟩
      refine thnF (pg.run _ s3 _ H3 x u _ (J3.pinned (turns J3 n3) (T.obj _ _ t3)) rx (step x H3 y3)) ?_
      rintro _ s4 ⟨σ4, H4, J4, w4, q4⟩
      refine wpAny_tests_nil ?_
      rw [if_pos rfl]
      refine wpAny_mono (pe.run _ s4 σ4 H4 _ (J4.wish _) q4) ?_ fun e s' x => blk_out hs hf tk I eL eN eF (fun b m => (free b m).1) x
      rintro v s5 ⟨y, H5, J5, ry, acc, hD, hz, nx⟩
      refine app_ok (X := X.blk s H scope ce fp) J5.unwish hD hz ry fun s6 J6 => ?_
      obtain ⟨m', lt, w'⟩ := less _ nx
      have pin : ∀ b ∈ fp, ∀ o, s3.heap.get? b = some o → s6.heap.get? b = some o ∧ upd H5 D (.lst (acc ++ [y])) b = none := fun b m o e =>
        have z := J6.pin (b, o) (List.mem_append_right _ (List.mem_append_right _ (mem_pinsAt m e)))
        ⟨z.1, z.2.1⟩
      refine ⟨m', lt, i + 1, _, (J6.unpinned (pins := [])).weak (by rw [← w4, wipe_length]) fun j z e => ?_, T.keep _ _ _ t3 fun b m o e => (pin b m o e).1, fun b m => ?_, w'⟩
      · rw [← w4] at e
        exact (wipe_some e).1
      · obtain ⟨o, e, _⟩ := T.obj _ _ t3 b m
        exact (pin b m o e).2
  exact codeAny_compStart_list loop (T.self X.A 0 _ _ _ h0 loop)
/-- [e for t in xs], e may raise as the def does -/
theorem pe_lcE {elt tg iter : Expr} {scope : Scope} {own : List (Str × Nat)} {pos : Pos} {wi : L2.TI} {g : TG} {te : TE} (hs : X.stack = X.env :: X.outer) (hf : X.env.frame = some X.env.locals) (tk : L2.Takes X fun c d _ H => E c d H) (hc : X.calm = true) (hN : X.N.Nodup) (hi : PI X tg iter wi)
    (ok : BlkOk X.N X.env.scope scope own) (hg : ∀ (s : Shared) (H : Hp) (C : Addr) (cl : List (Str × Addr)) (fp : List Addr), PG (X.blk s H scope (compEnvC scope cl C X.env) fp) tg g)
    (he : ∀ (s : Shared) (H : Hp) (C : Addr) (cl : List (Str × Addr)) (fp : List Addr), PE ((X.blk s H scope (compEnvC scope cl C X.env) fp).wish (FlyOut X (X.blk s H scope (compEnvC scope cl C X.env) fp) E)) elt te)
    (hw : ∀ x, foldedSetIterable iter X.env x = pure x := by intro _; rfl) : PE X (.ListComp elt [⟨tg, iter, [], 0⟩] scope pos) (tLc wi g tYes te (own.map (·.2))) := by
  refine ⟨fun pins s σ H Q I want => ?_⟩
  have caught : ∀ y ∈ scope.names, y.2 = .free → ∃ c, X.env.cells.lookup y.1 = some c := fun y m q => (ok.free y m q).elim (fun z => I.ok.has _ (.inl z)) fun z => I.ok.has _ (.inr z)
  rw [eval_ListComp]
  refine comprehension_at (use := none) rfl hw (closure_ok caught) ok.kind (fun y m q => by rw [ok.uniq y m, q]) (thn (hi.run pins s σ H _ I want) fun _ _ ready => thn ready ?_)
  rintro _ sa ⟨it, fp, tn, J, Ha, rfl, Ia, T, here, free, next⟩
  refine wpAny_newObj_type (newEnv_comp ?_) (by show 0 ≤ sizeLine; decide)
  -- the list D that is filled
  have dN : Ha sa.heap.objs.size = none := Ia.hok.fresh (Nat.le_refl _)
  obtain ⟨W, ⟨m0, W0⟩, turn⟩ := next _ dN
  have Ib : L2.Inv X pins σ (upd Ha sa.heap.objs.size (.lst [])) { sa with heap := sa.heap.push { cls := .type "list", data := .seq ([] : List Value).toArray } } :=
    Ia.laid (t' := sa.toks) (fun b o q => Heap.get?_push_of_some _ q) (Nat.le_refl _) ⟨Nat.zero_le _, [], 0, .nil, Heap.get?_push_size _ rfl⟩
  have low : ∀ b ∈ fp, b < sa.heap.objs.size := fun b m => let ⟨_, q, _⟩ := T.obj _ _ here b m; Heap.lt_size q
  have freeb : ∀ b ∈ fp, FpOk X pins (upd Ha sa.heap.objs.size (.lst [])) b ∧ b < (sa.heap.push { cls := .type "list", data := .seq ([] : List Value).toArray }).objs.size := fun b m =>
    ⟨⟨by rw [upd_ne (Nat.ne_of_lt (low b m))]; exact (free b m).1, (free b m).2⟩, by rw [Heap.size_push]; exact Nat.lt_succ_of_lt (low b m)⟩
  have hereb : tn 0 (sa.heap.push { cls := .type "list", data := .seq ([] : List Value).toArray }) := T.keep _ _ _ here fun b _ o q => Heap.get?_push_of_some _ q
  exact lc_turns hs hf tk hc hN ok hg he Ib T hereb freeb W0 turn
end
end DL
/-! expressions that may raise, by calls -/
namespace DL
open PySem L2 PyProof.Rows PySem.Spec
abbrev EXM := Rho → Option (Except String D × Rho)
abbrev EXA := Rho → Option (Except String (List D) × Rho)
/-- what is wished of what is let out -/
def errOk (K : PySem.W.Frag) (mg : Str → Option Value) (E : XK) (z : Fx) (F : Hp) (r' : Rho) (c : String) : Prop := ∀ s' H' F', Rep K z r' s' H' F' → SubH F F' → Let mg E c H'
theorem errOk.mono {K : PySem.W.Frag} {mg : Str → Option Value} {E : XK} {z : Fx} {F F1 : Hp} {r' : Rho} {c : String} (h : errOk K mg E z F r' c) (e : SubH F F1) : errOk K mg E z F1 r' c := fun s' H' F' R sb => h s' H' F' R (e.trans sb)
def liftEx (K : PySem.W.Frag) (mg : Str → Option Value) (E : XK) (f : EXM) : TE := fun s H Q => ∃ z r F o r', Rep K z r s H F ∧ f r = some (o, r') ∧ match o with
  | .ok d => ∀ v H' F', Rep K z r' s H' F' → SubH F F' → Dp K F' v d → Q v H'
  | .error c => errOk K mg E z F r' c
def liftAx (K : PySem.W.Frag) (mg : Str → Option Value) (E : XK) (f : EXA) : TA := fun s H Q => ∃ z r F o r', Rep K z r s H F ∧ f r = some (o, r') ∧ match o with
  | .ok ds => ∀ vs H' F', Rep K z r' s H' F' → SubH F F' → DpAll K F' vs ds → Q vs H'
  | .error c => errOk K mg E z F r' c
/-- a new list -/
def liftLx (K : PySem.W.Frag) (mg : Str → Option Value) (E : XK) (f : EXA) : TE := fun s H Q => ∃ z r F o r', Rep K z r s H F ∧ f r = some (o, r') ∧ match o with
  | .ok ds => ∀ a vs H' F', Rep K z r' s H' F' → SubH F F' → H' a = some (.lst vs) → F' a = none → z.H0 a = none → ¬ OwnAt r' s H' a → DpAll K F' vs ds → Q (.ref a) H'
  | .error c => errOk K mg E z F r' c
structure SEx (X : Cx) (E : XK) (e : Expr) (f : EXM) : Prop where
  pe : PE X e (liftEx X.K X.mg E f)
structure SAx (X : Cx) (E : XK) (es : List Expr) (f : EXA) : Prop where
  pa : PA X es (liftAx X.K X.mg E f)
structure SLx (X : Cx) (E : XK) (e : Expr) (f : EXA) : Prop where
  pe : PE X e (liftLx X.K X.mg E f)
def okx (f : EM) : EXM := fun r => (f r).map fun p => (.ok p.1, p.2)
def nilx : EXA := fun r => some (.ok [], r)
def consx (f : EXM) (g : EXA) : EXA := fun r => (f r).bind fun p => match p.1 with
  | .error c => some (.error c, p.2)
  | .ok d => (g p.2).map fun q => match q.1 with
    | .error c => (.error c, q.2)
    | .ok ds => (.ok (d :: ds), q.2)
def callx (g : List D → Option (Except String D)) (f : AM) : EXM := fun r => (f r).bind fun p => (g p.1).map fun o => (o, p.2)
def tupx (f : EXA) : EXM := fun r => (f r).bind fun p => match p.1 with
  | .error c => some (.error c, p.2)
  | .ok ds => if szOk ds.length then some (.ok (.tuple ds), p.2) else none
def ofx (f : EXA) : EXM := fun r => (f r).map fun p => match p.1 with
  | .error c => (.error c, p.2)
  | .ok ds => (.ok (.list ds), p.2)
def unx (h : D → Option D) (f : EXM) : EXM := fun r => (f r).bind fun p => match p.1 with
  | .error c => some (.error c, p.2)
  | .ok d => (h d).map fun o => (.ok o, p.2)
def asgx (i : Nat) (f : EXM) : SM := fun r => (f r).map fun p => match p.1 with
  | .error c => .ex c p.2
  | .ok d => .nx (p.2.set i (some (.d d)))
def retx (f : EXM) : SM := fun r => (f r).map fun p => match p.1 with
  | .error c => .ex c p.2
  | .ok d => .rt d p.2
theorem passes_at {X : Cx} {E : XK} (tk : L2.Takes X fun c d _ H => E c d H) (σ : L2.St) : PassesAt (L2.CX X.prog X.w) X σ E := fun _ _ _ u s' I c => tk u s' (L2.XE.of_call I (fun _ _ _ h => h) c)
section
variable {X : Cx} {E : XK} {e : Expr} {es : List Expr} {pos : Pos}
theorem sex_of {f : EM} (h : SE X e f) : SEx X E e (okx f) := ⟨pe_imp h.pe fun s H Q ⟨z, r, F, o, r', R, q, k⟩ => by
  obtain ⟨⟨d, r1⟩, e1, e2⟩ := Option.map_eq_some_iff.mp q
  cases e2
  exact ⟨z, r, F, d, r1, R, e1, k⟩⟩
theorem sax_nil : SAx X E [] nilx := ⟨pa_imp pa_nil fun s H Q ⟨z, r, F, o, r', R, q, k⟩ => by cases q; exact k [] H F R (.refl _) .nil⟩
theorem sax_cons {f : EXM} {g : EXA} (ha : SEx X E e f) (hr : SAx X E es g) (hs : starEach (e :: es) X.env = (false, eval e X.env) :: starEach es X.env := by rfl) : SAx X E (e :: es) (consx f g) :=
  ⟨pa_imp (pa_cons ha.pe hr.pa hs) fun s H Q ⟨z, r, F, o, r', R, q, k⟩ => by
    obtain ⟨⟨o1, r1⟩, e1, e2⟩ := Option.bind_eq_some_iff.mp q
    refine ⟨z, r, F, o1, r1, R, e1, ?_⟩
    cases o1 with
    | error c => cases e2; exact k
    | ok d =>
      obtain ⟨⟨o2, r2⟩, e3, e4⟩ := Option.map_eq_some_iff.mp e2
      refine fun v H1 F1 R1 sb1 dv => ⟨z, r1, F1, o2, r2, R1, e3, ?_⟩
      cases o2 with
      | error c => cases e4; exact errOk.mono k sb1
      | ok ds => cases e4; exact fun vs H2 F2 R2 sb2 dvs => k _ H2 F2 R2 (sb1.trans sb2) (.cons (dp_mono sb2 dv) dvs)⟩
theorem sex_call {k : Nat} {fa : Addr} {fd : FuncData} {ps : List Str} {g : List D → Option (Except String D)} {x : Str} {p : Pos} {f : AM} (G : FnOk X.prog X.w X.K X.mg X.base (L2.CX X.prog X.w) k fa fd ps (spX X.K X.mg ps.length g)) (hr : Room k X.A)
    (hg : Gl X x) (hm : X.mg x = some (.ref fa)) (hk : PySem.W.keepIn X.K (.ref fa) = true) (hb : Binds X.K fd ps []) (ha : SA X (e :: es) f) (hps : ps.length = (e :: es).length) (hx : ∀ σ, PassesAt (L2.CX X.prog X.w) X σ E)
    (hdb : (x == ("__debug__" : Str)) = false := by decide) (he : starEach (e :: es) X.env = (false, eval e X.env) :: starEach es X.env := by rfl) (hpl : (backTo pos (starEach es X.env)).any (·.1) = false := by rfl) :
    SEx X E (.Call (.Name x p) (e :: es) [] pos) (callx g f) :=
  ⟨pe_imp (pe_call G hr hg hm hk hb .nil (fun pins σ H s u s' I c => hx σ pins H s u s' I c) ha.pa hdb he hpl) fun s H Q ⟨z, r, F, o, r', R, q, kk⟩ => by
    obtain ⟨⟨ds, r1⟩, e1, e2⟩ := Option.bind_eq_some_iff.mp q
    obtain ⟨o1, e3, e4⟩ := Option.map_eq_some_iff.mp e2
    cases e4
    refine ⟨z, r, F, ds, _, R, e1, fun vs H1 F1 R1 sb dv => ?_⟩
    show spX X.K X.mg ps.length g (vs ++ []) H1 Q E
    rw [List.append_nil]
    refine ⟨by rw [dpa_len dv, hps]; exact ha.len _ _ _ e1, F1, ds, o, R1.fh, dv, e3, fun H' F' gr => ⟨fun d v eo dd => ?_, fun c eo => ?_⟩⟩
    · subst eo
      exact kk v H' F' (R1.grow gr) (sb.trans gr.ff) dd
    · subst eo
      exact kk s H' F' (R1.grow gr) (sb.trans gr.ff)⟩
theorem sex_tup {x1} {f : EXA} (h : SAx X E es f) : SEx X E (.Tuple es x1 pos) (tupx f) :=
  ⟨pe_imp (pe_tupN h.pa) fun s H Q ⟨z, r, F, o, r', R, q, k⟩ => by
    obtain ⟨⟨o1, r1⟩, e1, e2⟩ := Option.bind_eq_some_iff.mp q
    refine ⟨z, r, F, o1, r1, R, e1, ?_⟩
    cases o1 with
    | error c => cases e2; exact k
    | ok ds =>
      have e2 : (if szOk ds.length = true then some (Except.ok (PyData.tuple ds), r1) else none) = some (o, r') := e2
      split at e2
      · rename_i hz
        cases e2
        refine fun vs H1 F1 R1 sb dv => ⟨by rw [dpa_len dv]; exact szOk_le hz, fun p ob nd hp => ?_⟩
        obtain ⟨G, q⟩ := new_tup nd R1.fh hp dv
        exact k _ _ _ (R1.grow G) (sb.trans G.ff) q
      · cases e2⟩
theorem SLx.se {f : EXA} (h : SLx X E e f) : SEx X E e (ofx f) := ⟨pe_imp h.pe fun s H Q ⟨z, r, F, o, r', R, q, k⟩ => by
  obtain ⟨⟨o1, r1⟩, e1, e2⟩ := Option.map_eq_some_iff.mp q
  refine ⟨z, r, F, o1, r1, R, e1, ?_⟩
  cases o1 with
  | error c => cases e2; exact k
  | ok ds =>
    cases e2
    exact fun a vs H' F' R' sb h1 h2 h3 h4 h5 => k _ _ _ (R'.freeze1 h1 h2 h3 h4) (sb.trans (.new h2)) (.lst (.inl (.inl upd_same)) (dpa_mono (.new h2) h5))⟩
theorem sex_t1 {id : String} {x : Str} {p : Pos} {h : D → Option D} {f : EXM} (hc : CallR X (.type id) (liftC1 X.K h)) (hg : Gl X x) (hm : X.mg x = none) (hv : bootBuiltins x = some (.type id)) (ha : SEx X E e f) (hn : x ≠ "__name__" := by decide) (hdb : (x == ("__debug__" : Str)) = false := by decide)
    (he : starEach [e] X.env = [(false, eval e X.env)] := by rfl) : SEx X E (.Call (.Name x p) [e] [] pos) (unx h f) :=
  ⟨pe_imp (pe_callTy hc hg hm hv (pa_cons ha.pe pa_nil he) hn hdb he rfl) fun s H Q ⟨z, r, F, o, r', R, q, k⟩ => by
    obtain ⟨⟨o1, r1⟩, e1, e2⟩ := Option.bind_eq_some_iff.mp q
    refine ⟨z, r, F, o1, r1, R, e1, ?_⟩
    cases o1 with
    | error c => cases e2; exact k
    | ok d =>
      obtain ⟨y, e3, e4⟩ := Option.map_eq_some_iff.mp e2
      cases e4
      exact fun v H1 F1 R1 sb dv => ⟨F1, v, d, y, rfl, R1.fh, .inl dv, e3, fun v2 H2 F2 G dd => k v2 H2 F2 (R1.grow G) (sb.trans G.ff) dd⟩⟩
theorem ss_asgx (i : Nat) {x : Str} {pos' : Pos} {f : EXM} (hN : X.N.Nodup) (he : SEx X E e f) (hi : X.N[i]? = some x := by rfl) (hx : Loc X.env.scope x := by first | exact Or.inl rfl | exact Or.inr rfl) (hs : swapsWith e (some (.Name x pos')) pos.line X.env = pure false := by rfl)
    (hf : X.fn x = true ∨ X.env.scope.names.lookup x = some .local := by first | exact .inl rfl | exact .inr rfl | assumption) : SS X (Let X.mg E) (.Assign [.Name x pos'] e pos) (asgx i f) :=
  ⟨ps_imp (ps_set hN hi hx he.pe hs hf) fun D s H ⟨z, r, F, o, R, q, k⟩ => by
    obtain ⟨⟨o1, r1⟩, e1, e2⟩ := Option.map_eq_some_iff.mp q
    refine ⟨z, r, F, o1, r1, R, e1, ?_⟩
    cases o1 with
    | error c => cases e2; exact fun s' H' F' R' sb => k s' H' F' R' sb
    | ok d => cases e2; exact fun v H' F' R' sb dv => k _ H' F' (R'.put dv) sb⟩
theorem ss_retx {f : EXM} (he : SEx X E e f) : SS X (Let X.mg E) (.Return (some e) pos) (retx f) :=
  ⟨ps_imp (ps_ret he.pe) fun D s H ⟨z, r, F, o, R, q, k⟩ => by
    obtain ⟨⟨o1, r1⟩, e1, e2⟩ := Option.map_eq_some_iff.mp q
    refine ⟨z, r, F, o1, r1, R, e1, ?_⟩
    cases o1 with
    | error c => cases e2; exact fun s' H' F' R' sb => k s' H' F' R' sb
    | ok d => cases e2; exact fun v H' F' R' sb dv => k v s H' F' R' sb dv⟩
end
/-! ### [e for t in xs] -/
def compLx (g : GM) (el : EXM) (is : List Nat) : List D → Rho → Option (Except String (List D) × Rho)
  | [], r => some (.ok [], r)
  | x :: xs, r => (g r x).bind fun r1 => (el r1).bind fun q => match q.1 with
    | .error c => some (.error c, q.2)
    | .ok y => (compLx g el is xs (wipeR q.2 is)).map fun w => match w.1 with
      | .error c => (.error c, w.2)
      | .ok ys => (.ok (y :: ys), w.2)
def compx (is : List Nat) (it : AM) (g : GM) (el : EXM) : EXA := fun r => (it r).bind fun p => if plainAt p.2 is && szOk p.1.length then (compLx g el is p.1 (wipeR p.2 is)).map fun w => match w.1 with
  | .error c => (.error c, w.2)
  | .ok ys => (.ok ys, restR w.2 p.2 is) else none
/-- what is made so far, and what comes -/
def gluex (done : List D) : Except String (List D) → Except String (List D)
  | .error c => .error c
  | .ok rest => .ok (done ++ rest)
section
variable {X : Cx} {E : XK} {elt tg iter : Expr} {scope : Scope} {pos : Pos} {it : AM} {g : GM} {el : EXM}
theorem comp_corex {pw : Bool} {own : List (Str × Nat)} {s : L2.St} {H : Hp} {Q : VK} (q : liftLx X.K X.mg E (compx (own.map (·.2)) it g el) s H Q) :
    tLc (liftI X.K pw it) (liftGw X.K pw g (own.map (·.2))) tYes (liftEx X.K X.mg E el) (own.map (·.2)) s H Q := by
  generalize own.map (·.2) = is at q ⊢
  obtain ⟨z, r, F, o, r', R, e, k⟩ := q
  obtain ⟨⟨ds, r1⟩, e1, e2⟩ := Option.bind_eq_some_iff.mp e
  have e2 : (if (plainAt r1 is && szOk ds.length) = true then (compLx g el is ds (wipeR r1 is)).map fun w => match w.1 with
    | .error c => (.error c, w.2)
    | .ok ys => (.ok ys, restR w.2 r1 is) else none) = some (o, r') := e2
  split at e2
  · rename_i hok
    obtain ⟨hp, hz⟩ := Bool.and_eq_true_iff.mp hok
    have hz : ds.length ≤ 1000000 := of_decide_eq_true hz
    obtain ⟨⟨w0, r2⟩, e3, e4⟩ := Option.map_eq_some_iff.mp e2
    refine ⟨z, r, F, ds, r1, R, e1, fun J H1 F1 R1 sb1 w D hD => ?_⟩
    obtain ⟨Y, W, hY⟩ := w.w
    refine lc_it (g := liftGw X.K pw g is) (tt := tYes) (te := liftEx X.K X.mg E el) (vs := is) (σ := s) (H1 := H1) (D := D) (Qd := fun H => Q (.ref D) H) W (fun i H => ∃ r F done w vs, Rep X.K z r (wipe s is) H F ∧ SubH F1 F ∧ compLx g el is (ds.drop i) r = some (w, r2) ∧ gluex done w = w0 ∧ H D = some (.lst vs) ∧ F D = none ∧ z.H0 D = none ∧ ¬ OwnAt r (wipe s is) H D ∧ DpAll X.K F vs done ∧ vs.length ≤ i)
      ?_ (fun i H _ ⟨r, F, done, w, vs, Rr, sb, _⟩ => sb.trans Rr.fh) ?_ ?_
    · obtain ⟨Rl, h1, h2, h3, h4⟩ := (R1.wipe is).loose (vs := []) hD
      exact ⟨wipeR r1 is, F1, [], w0, [], Rl, .refl _, by simpa using e3, by cases w0 <;> rfl, h1, h2, h3, h4, .nil, Nat.le_refl _⟩
    · rintro i x H2 H3 hi ⟨ra, Fa, done, w, vs, Ra, sba, ec, ed, hDa, hFa, hza, hoa, hda, hla⟩ y
      obtain ⟨Fb, dx, ei, G, dvx⟩ := hY i H2 x H3 y Fa sba Ra.fh
      have Rb := Ra.grow G
      have hDb : H3 D = some (.lst vs) := G.hh _ _ hDa
      have hFb : Fb D = none := by
        cases q : Fb D with
        | none => rfl
        | some u =>
          rcases G.nw D u q with h | h | ⟨ob, ws, rfl⟩
          · rw [hFa] at h; cases h
          · rw [hDa] at h; cases h
          · have q2 := G.fh D _ q
            rw [hDb] at q2; exact (tupHO_lst q2).elim
      have hdrop : ds.drop i = dx :: ds.drop (i + 1) := by
        have hlt : i < ds.length := (List.getElem?_eq_some_iff.mp ei).1
        rw [List.drop_eq_getElem_cons hlt]
        congr 1
        exact (List.getElem?_eq_some_iff.mp ei).2
      rw [hdrop] at ec
      obtain ⟨rg, eg, ec⟩ := Option.bind_eq_some_iff.mp ec
      obtain ⟨⟨oy, ry⟩, ey, ec⟩ := Option.bind_eq_some_iff.mp ec
      refine ⟨_, ra, Fb, dx, rg, Rb.base, dvx, eg, fun s2 hw2 R2 => ?_⟩
      have hww : wipe s2 is = wipe s is := hw2.trans (wipe_wipe fun _ h => h)
      refine ⟨hww, ?_⟩
      simp only [tYes, if_true]
      refine ⟨_, rg, Fb, oy, ry, R2, ey, ?_⟩
      cases oy with
      | error c =>
        cases ec
        have ed : w0 = .error c := ed.symm
        subst ed
        cases e4
        exact fun s' H' F' R' sb' => k s' H' F' (Rb.back R') (((sb1.trans sba).trans G.ff).trans sb')
      | ok y1 =>
        obtain ⟨⟨ws, rw'⟩, ecl, ee⟩ := Option.map_eq_some_iff.mp ec
        refine fun v5 H5 F5 R5 sb5 dv5 => ?_
        obtain ⟨k1, k2, k3⟩ := Rb.loose_kept R5 hDb hFb (fun q => hoa (Ra.ownAtH G.hh q)) not_tu
        have R6 := (Rb.back R5).wipe is
        rw [hww] at R6
        have k4 : ¬ OwnAt (wipeR ry is) (wipe s is) H5 D := by
          rintro ⟨j, sv, a, q1, q2, q3, qp⟩
          obtain ⟨q4, q5⟩ := wipeR_get q1
          obtain ⟨v, hv, _⟩ := R5.slots j sv q4
          have := wipe_get hv q5
          rw [hww] at this
          rw [q3] at this; cases this
          exact k3 ⟨j, sv, a, q4, q2, hv, qp⟩
        refine ⟨vs, k1, Nat.lt_of_le_of_lt (Nat.le_trans hla (Nat.le_trans (Nat.le_of_lt hi) hz)) (by decide), ?_⟩
        refine ⟨_, F5, done ++ [y1], ws, vs ++ [v5], R6.loosePut k2 hza k4, (sba.trans G.ff).trans sb5, ?_, ?_, upd_same, k2, hza, fun q => k4 (ownAt_upd k4 q), dpa_app (dpa_mono (G.ff.trans sb5) hda) (dpa_one dv5), by rw [List.length_append]; simp; omega⟩
        · cases ws <;> cases ee <;> exact ecl
        · rw [← ed]
          cases ws <;> cases ee
          · rfl
          · show Except.ok ((done ++ [y1]) ++ _) = Except.ok (done ++ y1 :: _)
            rw [List.append_assoc, List.singleton_append]
    · rintro H2 ⟨ra, Fa, done, w, vs, Ra, sba, ec, ed, hDa, hFa, hza, hoa, hda, hla⟩
      rw [List.drop_length] at ec
      cases ec
      have R9 := R1.unwipe Ra sba hp
      have ed : w0 = .ok (done ++ []) := ed.symm
      rw [List.append_nil] at ed
      subst ed
      cases e4
      refine k D vs H2 Fa R9 (sb1.trans sba) hDa hFa hza ?_ hda
      rintro ⟨j, sv, a, q1, q2, q3, qp⟩
      rcases restR_get q1 with ⟨h1, h2⟩ | ⟨h1, h2⟩
      · have := List.all_eq_true.mp hp j h1
        rw [h2] at this
        simp only [q2] at this
        cases this
      · exact hoa ⟨j, sv, a, h2, q2, wipe_get q3 h1, qp⟩
  · cases e2
theorem slx_comp {pw : Bool} {own : List (Str × Nat)} (hs : X.stack = X.env :: X.outer) (hf : X.env.frame = some X.env.locals) (tk : L2.Takes X fun c d _ H => E c d H) (hc : X.calm = true) (hN : X.N.Nodup) (hi : SI X pw tg iter it) (ok : BlkOk X.N X.env.scope scope own)
    (hg : ∀ (s : Shared) (H : Hp) (C : Addr) (cl : List (Str × Addr)) (fp : List Addr), SG (X.blk s H scope (compEnvC scope cl C X.env) fp) pw tg g (own.map (·.2)))
    (he : ∀ (s : Shared) (H : Hp) (C : Addr) (cl : List (Str × Addr)) (fp : List Addr), SEx ((X.blk s H scope (compEnvC scope cl C X.env) fp).wish (FlyOut X (X.blk s H scope (compEnvC scope cl C X.env) fp) E)) E elt el) (hw : ∀ x, foldedSetIterable iter X.env x = pure x := by intro _; rfl) :
    SLx X E (.ListComp elt [⟨tg, iter, [], 0⟩] scope pos) (compx (own.map (·.2)) it g el) :=
  ⟨pe_imp (pe_lcE (own := own) hs hf tk hc hN hi.pi ok (fun s H C cl fp => (hg s H C cl fp).pg) (fun s H C cl fp => (he s H C cl fp).pe) hw) fun s H Q q => comp_corex q⟩
end
end DL
/-! x.replace(sign, text, 1): it asks for tokens that are out -/
namespace DL
open PySem L2 PyProof.Rows PySem.Spec
open PySem.Builtin PySem.Builtin.Str PySem.StrLaws
theorem occ_few (x y : Str) (hi limit : Nat) : ∀ (l : List Nat) (st : Array Nat × Nat), st.fst.size ≤ limit → (forIn l st (occBody x y hi limit)).run.fst.size ≤ limit
  | [], _, h => h
  | a :: l, st, h => by
    rw [List.forIn_cons]
    unfold occBody
    split
    · rename_i q
      refine occ_few x y hi limit l _ ?_
      show (st.fst.push a).size ≤ limit
      rw [Array.size_push]
      have : st.fst.size < limit := by
        have := q.1.1.1
        omega
      omega
    · exact occ_few x y hi limit l _ h
theorem occ_one (x : Str) (c : Nat) : (occurrences x ⟨#[c]⟩ 0 x.length 1 = [] ∧ c ∉ x.cps.toList) ∨ ∃ i, occurrences x ⟨#[c]⟩ 0 x.length 1 = [i] ∧ x.cps.toList[i]? = some c ∧ ∀ k, k < i → x.cps.toList[k]? ≠ some c := by
  have few : (occurrences x ⟨#[c]⟩ 0 x.length 1).length ≤ 1 := by
    rw [occ_eq]
    have := occ_few x ⟨#[c]⟩ x.length 1 (List.range' 0 (x.length + 1 - 0)) ((#[] : Array Nat), 0) (by simp)
    simpa using this
  have atI : ∀ i, At x ⟨#[c]⟩ x.length i ↔ x.cps.toList[i]? = some c := fun i => by
    constructor
    · intro h; exact (subAt_one x c i).mp h
    · intro h
      exact (subAt_one x c i).mpr h
  rcases occ_head x ⟨#[c]⟩ 1 (Nat.le_refl _) with ⟨e, n⟩ | ⟨i, r, e, a, n⟩
  · refine .inl ⟨e, fun m => ?_⟩
    obtain ⟨j, hj⟩ := List.getElem?_of_mem m
    exact n j ((atI j).mpr hj)
  · rw [e] at few
    have : r = [] := by
      cases r with
      | nil => rfl
      | cons a r => simp at few
    subst this
    exact .inr ⟨i, e, (atI i).mp a, fun k hk h => n k hk ((atI k).mpr h)⟩
end DL
/-! statements behind which a token is out -/
namespace DL
open PySem L2 PyProof.Rows PySem.Spec
/-! ### a token is given out -/
/-! ### the same in plain data -/
end DL
/-! texts: turned about, counted, searched for a sign, compared, none or once -/
namespace DL
open PySem L2 PyProof.Rows PySem.Spec
open PySem.Builtin PySem.Builtin.Str PySem.StrLaws
/-! ### x * 0, x * 1 -/
def mulSD : D → D → Option D
  | .str x, .int n => if n = 0 then some (.str Str.empty) else if n = 1 then some (.str x) else none
  | _, _ => none
section
variable {X : Cx} {o e : Expr} {f g : EM} {apos cpos pos : Pos}
theorem or_mulS : OpR X (binaryOp .Mult) (liftO X.K mulSD) := by
  rintro pins s σ H x y v u Q I rx ry ⟨F, d, e, o, sb, dx, dy, eo, k⟩
  unfold mulSD at eo
  split at eo
  · rename_i z n
    cases dv_str dx; cases dv_int dy
    obtain ⟨t, rfl⟩ := rx
    obtain ⟨t2, rfl⟩ := ry
    split at eo
    · rename_i h0
      cases eo
      subst h0
      exact P.mul_str_none (by decide) (by decide) ⟨.str Str.empty, H, I.tok _, ⟨_, rfl⟩, k _ H F (.refl sb) (.str _)⟩
    · split at eo
      · rename_i h1
        cases eo
        subst h1
        exact P.mul_str (by decide) (fun _ q => by simp at q) (fun _ q => by simp at q) (by
          rw [if_neg (by decide), if_pos (by simp)]
          exact ⟨.str z, H, I, ⟨t, rfl⟩, k _ H F (.refl sb) (.str _)⟩)
      · cases eo
  · cases eo
/-! ### x >= y -/
def geSB : D → D → Option Bool
  | .str x, .str y => some (!decide (x.cps.toList < y.cps.toList))
  | _, _ => none
theorem or_geSB : OpR X (compareOp .GtE) (liftO X.K (bD geSB)) := by
  intro pins s σ H x y v u Q I rx ry h
  obtain ⟨F, d, e, o, sb, dx, dy, eo, k⟩ := h
  obtain ⟨bb, e9, rfl⟩ := bD_some eo
  unfold geSB at e9
  split at e9
  · cases e9
    cases dv_str dx; cases dv_str dy
    exact op_ge_str pins s σ H _ _ v u Q I rx ry ⟨_, _, rfl, rfl, k _ H F (.refl sb) (.bl _)⟩
  · cases e9
/-! ### x.count(c), x.index(c) -/
def countSD : D → D → Option D
  | .str x, .str ⟨⟨[c]⟩⟩ => some (.int (x.cps.toList.count c : Nat))
  | _, _ => none
theorem occ_all (x : Str) (c limit : Nat) : ∀ (n a : Nat) (st : Array Nat × Nat), st.fst.size ≤ a → st.snd ≤ a → a + n ≤ limit →
    (forIn (List.range' a n) st (occBody x ⟨#[c]⟩ x.length limit)).run.fst.size = st.fst.size + (List.range' a n).countP fun k => decide (x.cps.toList[k]? = some c)
  | 0, _, _, _, _, _ => rfl
  | n + 1, a, st, h1, h2, h3 => by
    rw [List.range'_succ, List.forIn_cons, List.countP_cons]
    have one : subAt x ⟨#[c]⟩ a = true ∧ a + 1 ≤ x.length ↔ x.cps.toList[a]? = some c := by
      rw [← subAt_one x c a]
      exact ⟨fun q => ⟨q.2, q.1⟩, fun q => ⟨q.2, q.1⟩⟩
    unfold occBody
    split
    · rename_i q
      have yes : x.cps.toList[a]? = some c := one.mp ⟨q.2, q.1.2⟩
      show (forIn (List.range' (a + 1) n) (st.fst.push a, a + 1) (occBody x ⟨#[c]⟩ x.length limit)).run.fst.size = _
      rw [occ_all x c limit n (a + 1) (st.fst.push a, a + 1) (by simp; omega) (Nat.le_refl _) (by omega), decide_eq_true yes]
      simp
      omega
    · rename_i q
      have no : x.cps.toList[a]? ≠ some c := fun e => q (by
        obtain ⟨e1, e2⟩ := one.mpr e
        exact ⟨⟨⟨by omega, h2⟩, e2⟩, e1⟩)
      show (forIn (List.range' (a + 1) n) st (occBody x ⟨#[c]⟩ x.length limit)).run.fst.size = _
      rw [occ_all x c limit n (a + 1) st (by omega) (by omega) (by omega), decide_eq_false no]
      simp
theorem count_range (c : Nat) : ∀ l : List Nat, (List.range' 0 (l.length + 1)).countP (fun k => decide (l[k]? = some c)) = l.count c
  | [] => by simp
  | a :: l => by
    have ih := count_range c l
    rw [List.length_cons, List.range'_succ, List.countP_cons]
    have sh : List.range' (0 + 1) (l.length + 1) = (List.range' 0 (l.length + 1)).map (· + 1) := by
      apply List.ext_getElem (by simp)
      intro i h1 h2
      simp
      omega
    rw [sh, List.countP_map]
    have : ((fun k => decide ((a :: l)[k]? = some c)) ∘ fun x => x + 1) = fun k => decide (l[k]? = some c) := by
      funext k
      simp
    rw [this, ih, List.count_cons]
    simp
theorem count_txt (x : Str) (c : Nat) : Txt.count x ⟨#[c]⟩ = (x.cps.toList.count c : Nat) := by
  unfold Txt.count
  congr 1
  rw [occ_eq]
  have e : x.cps.toList.length = x.length := by simp [Str.length]
  have h := occ_all x c (x.length + 1) (x.length + 1) 0 ((#[] : Array Nat), 0) (by simp) (Nat.le_refl _) (by omega)
  have cr := count_range c x.cps.toList
  rw [e] at cr
  rw [cr] at h
  simpa using h
theorem countSD_some {d e o : D} (h : countSD d e = some o) : ∃ (x : Str) (c : Nat), d = .str x ∧ e = .str ⟨#[c]⟩ ∧ o = .int (Txt.count x ⟨#[c]⟩) := by
  unfold countSD at h
  split at h
  · cases h
    exact ⟨_, _, rfl, rfl, by rw [count_txt]⟩
  · cases h
theorem se_countS (ho : SE X o f) (he : SE X e g) (base : attributeBase o "count" X.env (eval o X.env) = eval o X.env := by rfl)
    (few : ((backTo cpos (starEach [e] X.env)).all (fun x => !x.1) && (backToKw cpos (keywordEach [] X.env)).all (fun x => x.1.isSome) && decide ([e].length + ([] : List Keyword).length + (if ([] : List Keyword).isEmpty then 0 else 1) < 30)) = true := by rfl)
    (line : (apos.endLine == cpos.line) = true := by rfl) (star : starEach [e] X.env = (false, eval e X.env) :: starEach [] X.env := by rfl) (hpl : (backTo cpos (starEach [] X.env)).any (·.1) = false := by rfl) : SE X (.Call (.Attribute o "count" apos) [e] [] cpos) (opM countSD f g) :=
  ⟨pe_imp (pe_bm PySem.F.plainAttrs_str PySem.F.slot_str_count PySem.F.type_str_count mt_count ho.pe (pa_cons he.pe pa_nil star) base few line star hpl) fun s H Q ⟨z, r, F, d, r', R, e, k⟩ => by
    obtain ⟨t, r1, x, e1, e2, e3⟩ := opM_some e
    obtain ⟨a, c, rfl, rfl, rfl⟩ := countSD_some e3
    refine ⟨z, r, F, _, r1, R, e1, fun v H1 F1 R1 sb1 dt => ?_⟩
    cases dt.inv
    refine ⟨rfl, z, r1, F1, _, r', R1, e2, fun w H2 F2 R2 sb2 dx => ?_⟩
    exact ⟨a, ⟨#[c]⟩, rfl, by rw [dx.inv], k _ _ _ R2 (sb1.trans sb2) (.int _)⟩⟩
/-! ### x[::-1] -/
def revSD : D → Option D
  | .str x => if szOk x.length then some (.str ⟨x.cps.toList.reverse.toArray⟩) else none
  | _ => none
theorem back_picked (l : List Nat) : ((List.range l.length).map fun (k : Nat) => (((l.length : Int) - 1) + (-1) * (k : Int)).toNat).filterMap (l[·]?) = l.reverse := by
  apply List.ext_getElem?
  intro i
  have e : ((List.range l.length).map fun (k : Nat) => (((l.length : Int) - 1) + (-1) * (k : Int)).toNat).filterMap (l[·]?) = (List.range l.length).map fun k => l.getD (l.length - 1 - k) 0 := by
    rw [List.filterMap_map]
    have : ∀ ks : List Nat, (∀ k ∈ ks, k < l.length) → ks.filterMap ((fun x => l[x]?) ∘ fun (k : Nat) => (((l.length : Int) - 1) + (-1) * (k : Int)).toNat) = ks.map fun k => l.getD (l.length - 1 - k) 0 := by
      intro ks
      induction ks with
      | nil => intro _; rfl
      | cons k ks ih =>
        intro h
        have hk := h k (by simp)
        have e1 : (((l.length : Int) - 1) + (-1) * (k : Int)).toNat = l.length - 1 - k := by omega
        have e2 : l[l.length - 1 - k]? = some (l.getD (l.length - 1 - k) 0) := by
          rw [List.getD_eq_getElem?_getD]
          have : l.length - 1 - k < l.length := by omega
          simp [this]
        rw [List.filterMap_cons]
        simp only [Function.comp, e1, e2, List.map_cons]
        congr 1
        exact ih fun x m => h x (List.mem_cons_of_mem _ m)
    exact this _ fun k m => List.mem_range.mp m
  rw [e]
  by_cases h : i < l.length
  · rw [List.getElem?_map, List.getElem?_range h, Option.map_some, List.getElem?_reverse h, List.getD_eq_getElem?_getD]
    have : l.length - 1 - i < l.length := by omega
    simp [this]
  · rw [List.getElem?_eq_none (by simpa using h), List.getElem?_eq_none (by simpa using h)]
def tRevS (te : TE) : TE := fun σ H Q => te σ H fun x H1 => ∃ z, x = .str z ∧ z.length ≤ sizeLine ∧ Q (.str ⟨z.cps.toList.reverse.toArray⟩) H1
theorem pe_revS {e : Expr} {te : TE} {k : Nat} {p1 p2 p3 pos : Pos} (he : PE X e te) : PE X (.Subscript e (.Slice none none (some (.UnaryOp .USub (.Constant (.int 1) k p1) p2)) p3) pos) (tRevS te) := by
  constructor
  intro pins s σ H Q I want
  apply Subscript_
  refine thn (he.run pins s σ H _ I want) ?_
  rintro v s1 ⟨x, H1, I1, rel, z, rfl, hz, give⟩
  obtain ⟨t, rfl⟩ := rel
  refine thn (slice3 po_none po_none (po_some (pe_un un_neg pe_int)) I1 (Q := fun l h d H' => l = none ∧ h = none ∧ d = some (-1) ∧ H' = H1) ⟨1, rfl, -1, rfl, rfl, rfl, rfl, rfl⟩) ?_
  rintro v2 s2 ⟨sl, u1, u2, u3, l, h, d, H2, rfl, isS, part1, part2, part3, I2, rfl, rfl, rfl, rfl⟩
  obtain ⟨l1, rfl, e1⟩ := IsPart.raw part1
  obtain ⟨l2, rfl, e2⟩ := IsPart.raw part2
  obtain ⟨l3, rfl, e3⟩ := IsPart.raw part3
  refine PyProof.Rows.tail_any (T := "str") (id := "str.__getitem__") (ops := [.str z t, .ref sl]) (typeIs_str _ _ _) PySem.F.slot_str_getitem.lookup ?_ (by with_unfolding_all rfl)
  have isl : s2.heap.IsSlice sl l1 l2 l3 := by
    obtain ⟨o, g1, g2, g3⟩ := isS
    exact ⟨o, g1, g2, g3⟩
  have len : z.cps.toList.length = z.length := by simp [Str.length]
  have pick : ((slicePicked z l1 l2 l3).filterMap (z.cps[·]?)) = z.cps.toList.reverse := by
    unfold slicePicked
    rw [e1, e2, e3]
    have b := back_picked z.cps.toList
    rw [len] at b
    have : strSliceIndices none none ((some (-1 : Int)).getD 1) z.length = (List.range z.length).map fun (k : Nat) => (((z.length : Int) - 1) + (-1) * (k : Int)).toNat := by
      unfold strSliceIndices
      simp only [Option.getD_some]
      rw [if_neg (by decide), if_neg (by decide)]
      unfold sliceRange
      have cnt : (if (-1 : Int) > 0 then (if ((z.length : Int) - 1) < -1 then (-1 - ((z.length : Int) - 1) + -1 - 1) / -1 else 0) else (if ((z.length : Int) - 1) > -1 then (((z.length : Int) - 1) - -1 - -1 - 1) / (-(-1)) else 0)).toNat = z.length := by
        rw [if_neg (by decide)]
        by_cases q : z.length = 0
        · rw [q]; rfl
        · rw [if_pos (by omega)]
          have : (((z.length : Int) - 1) - -1 - -1 - 1) / (-(-1)) = (z.length : Int) := by
            rw [show (-(-1 : Int)) = 1 from rfl, Int.ediv_one]; omega
          rw [this]; rfl
      show List.map _ (List.range (_ : Int).toNat) = _
      rw [cnt]
    rw [this, ← b]
    congr 1
    funext i
    simp
  refine wpAny_getItem_str_slice (l := l1) (u := l2) (st := l3) isl (by rw [e3]; decide) ?_
  unfold sliceMade
  rw [if_neg (by rw [e3]; simp), pick]
  exact ⟨by
    have : (⟨z.cps.toList.reverse.toArray⟩ : Str).length = z.length := by simp [Str.length]
    rw [this]; exact hz, .str _, _, I2.tok _, ⟨_, rfl⟩, give⟩
theorem se_revS {k : Nat} {p1 p2 p3 : Pos} (he : SE X e f) : SE X (.Subscript e (.Slice none none (some (.UnaryOp .USub (.Constant (.int 1) k p1) p2)) p3) pos) (unM revSD f) :=
  ⟨pe_imp (pe_revS he.pe) fun s H Q ⟨z, r, F, d, r', R, q, kk⟩ => by
    obtain ⟨x, e1, e2⟩ := unM_some q
    unfold revSD at e2
    split at e2
    · split at e2
      · rename_i hz
        cases e2
        exact ⟨z, r, F, _, r', R, e1, fun v H' F' R' sb dv => ⟨_, dv.inv, szOk_le hz, kk _ H' F' R' sb (.str _)⟩⟩
      · cases e2
    · cases e2⟩
/-- the first place of c -/
def firstIx (c : Nat) : List Nat → Option Nat
  | [] => none
  | a :: l => if a = c then some 0 else (firstIx c l).map (· + 1)
def indexSD : D → D → Option D
  | .str x, .str ⟨⟨[c]⟩⟩ => (firstIx c x.cps.toList).map fun i => .int (i : Nat)
  | _, _ => none
theorem firstIx_some {c : Nat} : ∀ {l : List Nat} {i : Nat}, firstIx c l = some i → l[i]? = some c ∧ ∀ k, k < i → l[k]? ≠ some c
  | [], _, h => by cases h
  | a :: l, i, h => by
    unfold firstIx at h
    split at h
    · rename_i e
      cases h
      exact ⟨by simp [e], fun k hk => by omega⟩
    · rename_i ne
      obtain ⟨j, e1, rfl⟩ := Option.map_eq_some_iff.mp h
      obtain ⟨h1, h2⟩ := firstIx_some e1
      refine ⟨by simpa using h1, fun k hk => ?_⟩
      cases k with
      | zero => simpa using ne
      | succ k => simpa using h2 k (by omega)
theorem index_occ {x : Str} {c i : Nat} (h : firstIx c x.cps.toList = some i) : occurrences x ⟨#[c]⟩ 0 x.length 1 = [i] := by
  obtain ⟨h1, h2⟩ := firstIx_some h
  rcases occ_one x c with ⟨_, no⟩ | ⟨j, e, a1, a2⟩
  · exact absurd (List.mem_of_getElem? h1) no
  · have : j = i := by
      rcases Nat.lt_trichotomy j i with q | q | q
      · exact absurd a1 (h2 j q)
      · exact q
      · exact absurd h1 (a2 i q)
    rw [e, this]
theorem indexSD_some {d e o : D} (h : indexSD d e = some o) : ∃ (x : Str) (c i : Nat), d = .str x ∧ e = .str ⟨#[c]⟩ ∧ firstIx c x.cps.toList = some i ∧ o = .int (i : Nat) := by
  unfold indexSD at h
  split at h
  · obtain ⟨i, e1, e2⟩ := Option.map_eq_some_iff.mp h
    exact ⟨_, _, i, rfl, rfl, e1, e2.symm⟩
  · cases h
theorem se_indexS (ho : SE X o f) (he : SE X e g) (base : attributeBase o "index" X.env (eval o X.env) = eval o X.env := by rfl)
    (few : ((backTo cpos (starEach [e] X.env)).all (fun x => !x.1) && (backToKw cpos (keywordEach [] X.env)).all (fun x => x.1.isSome) && decide ([e].length + ([] : List Keyword).length + (if ([] : List Keyword).isEmpty then 0 else 1) < 30)) = true := by rfl)
    (line : (apos.endLine == cpos.line) = true := by rfl) (star : starEach [e] X.env = (false, eval e X.env) :: starEach [] X.env := by rfl) (hpl : (backTo cpos (starEach [] X.env)).any (·.1) = false := by rfl) : SE X (.Call (.Attribute o "index" apos) [e] [] cpos) (opM indexSD f g) :=
  ⟨pe_imp (pe_bm PySem.F.plainAttrs_str PySem.F.slot_str_index PySem.F.type_str_index mt_sindex ho.pe (pa_cons he.pe pa_nil star) base few line star hpl) fun s H Q ⟨z, r, F, d, r', R, e, k⟩ => by
    obtain ⟨t, r1, x, e1, e2, e3⟩ := opM_some e
    obtain ⟨a, c, i, rfl, rfl, e4, rfl⟩ := indexSD_some e3
    refine ⟨z, r, F, _, r1, R, e1, fun v H1 F1 R1 sb1 dt => ?_⟩
    cases dt.inv
    refine ⟨rfl, z, r1, F1, _, r', R1, e2, fun w H2 F2 R2 sb2 dx => ?_⟩
    exact ⟨a, ⟨#[c]⟩, i, [], rfl, by rw [dx.inv], index_occ e4, k _ _ _ R2 (sb1.trans sb2) (.int _)⟩⟩
end
end DL
namespace PG
open PySem L2 DL
def N_is_whole : List Str := ["thing", "low", "high"]
def b_is_whole : SM :=
    (retM (andVM (unM (isiD .int) (varM 0)) (andVM (notVM (unM (isiD .bool) (varM 0))) (chM leB leB (varM 1) (varM 0) (varM 2)))))
def g_is_whole : List D → Option D := runF N_is_whole b_is_whole
def N_are_rising : List Str := ["row", "one", "two"]
def Ce_are_rising_1 : EM :=
    (opM (bD ltB) (varM 1) (varM 2))
def b_are_rising : SM :=
    (retM (unM allD (ofL (compM [1, 2] (zipM (slM (varM 0) noM (someM (unM negD (cM (PyData.int 1))))) (slM (varM 0) (someM (cM (PyData.int 1))) noM)) (tupG 2 (consG (nameG 1) (consG (nameG 2) nilG))) yesM Ce_are_rising_1))))
def g_are_rising : List D → Option D := runF N_are_rising b_are_rising
def N_is_tie : List Str := ["thing", "many", "one"]
def Ce_is_tie_1 : EM :=
    (callM g_is_whole (consM (varM 2) (consM (cM (PyData.int 0)) (consM (opM subD (varM 1) (cM (PyData.int 1))) nilM))))
def b_is_tie : SM :=
    (seqS (ifM (orM (notM (truM (unM (isiD .tuple) (varM 0)))) (orM (tstM neB (unM lenD (varM 0)) (cM (PyData.int 2))) (notM (truM (unM allD (ofL (compM [2] (seqM (varM 0)) (nameG 2) yesM Ce_is_tie_1))))))) (retM (cM (PyData.bool false))) skipM)
    (retM (opM (bD ltB) (opM ixD (varM 0) (cM (PyData.int 0))) (opM ixD (varM 0) (cM (PyData.int 1))))))
def g_is_tie : List D → Option D := runF N_is_tie b_is_tie
def N_is_net : List Str := ["thing", "many", "ties", "rim", "tie", "knot"]
def Ce_is_net_1 : EM :=
    (callM g_is_tie (consM (varM 4) (consM (varM 1) nilM)))
def Ce_is_net_2 : EM :=
    (callM g_is_whole (consM (varM 5) (consM (cM (PyData.int 0)) (consM (opM subD (varM 1) (cM (PyData.int 1))) nilM))))
def b_is_net : SM :=
    (seqS (ifM (orM (notM (truM (unM (isiD .tuple) (varM 0)))) (orM (tstM neB (unM lenD (varM 0)) (cM (PyData.int 3))) (notM (truM (callM g_is_whole (consM (opM ixD (varM 0) (cM (PyData.int 0))) (consM (cM (PyData.int 1)) (consM (cM (PyData.int 7)) nilM)))))))) (retM (cM (PyData.bool false))) skipM)
    (seqS (asgG (tupG 3 (consG (nameG 1) (consG (nameG 2) (consG (nameG 3) nilG)))) (varM 0))
    (seqS (ifM (orM (notM (truM (unM (isiD .tuple) (varM 2)))) (orM (tstM gtD (unM lenD (varM 2)) (cM (PyData.int 9))) (notM (truM (unM allD (ofL (compM [4] (seqM (varM 2)) (nameG 4) yesM Ce_is_net_1))))))) (retM (cM (PyData.bool false))) skipM)
    (seqS (ifM (orM (notM (truM (unM (isiD .tuple) (varM 3)))) (orM (tstM eqB (varM 3) (tupM nilM)) (notM (truM (unM allD (ofL (compM [5] (seqM (varM 3)) (nameG 5) yesM Ce_is_net_2))))))) (retM (cM (PyData.bool false))) skipM)
    (retM (andVM (callM g_are_rising (consM (varM 2) nilM)) (callM g_are_rising (consM (varM 3) nilM))))))))
def g_is_net : List D → Option D := runF N_is_net b_is_net
def N_written : List Str := ["net", "many", "ties", "rim", "knot", "one", "other"]
def Ce_written_1 : EM :=
    (jsM ((fmtM (varM 5)) :: ((fmtM (varM 6)) :: [])))
def Ce_written_2 : EM :=
    (unM strD (varM 4))
def Sq_written_1 : SM :=
    (retM (opM addD (opM addD (opM addD (jsM ((fmtM (varM 1)) :: ((cM (PyData.str ";")) :: []))) (opM joinD (cM (PyData.str ",")) (ofL (compM [5, 6] (seqM (varM 2)) (tupG 2 (consG (nameG 5) (consG (nameG 6) nilG))) yesM Ce_written_1)))) (cM (PyData.str ";"))) (opM joinD (cM (PyData.str "")) (ofL (compM [4] (seqM (varM 3)) (nameG 4) yesM Ce_written_2)))))
theorem Sq_written_1_a (rr : Rho) : Sq_written_1 rr = (retM (opM addD (opM addD (opM addD (jsM ((fmtM (varM 1)) :: ((cM (PyData.str ";")) :: []))) (opM joinD (cM (PyData.str ",")) (ofL (compM [5, 6] (seqM (varM 2)) (tupG 2 (consG (nameG 5) (consG (nameG 6) nilG))) yesM Ce_written_1)))) (cM (PyData.str ";"))) (opM joinD (cM (PyData.str "")) (ofL (compM [4] (seqM (varM 3)) (nameG 4) yesM Ce_written_2))))) rr := (rfl)
def b_written : SM :=
    (seqS (asgG (tupG 3 (consG (nameG 1) (consG (nameG 2) (consG (nameG 3) nilG)))) (varM 0))
    Sq_written_1)
def g_written : List D → Option D := runF N_written b_written
def N_figure_in : List Str := ["sign"]
def b_figure_in : SM :=
    (seqS (ifM (orM (tstM neB (unM lenD (varM 0)) (cM (PyData.int 1))) (tstM notInSB (varM 0) (cM (PyData.str "0123456789")))) (exM "NoText") skipM)
    (retM (unM intSD (varM 0))))
def g_figure_in : List D → Option D := runF N_figure_in b_figure_in
def N_tie_in : List Str := ["part"]
def Sq_tie_in_1 : SM :=
    (retM (tupM (consM (callM g_figure_in (consM (opM ixD (varM 0) (cM (PyData.int 0))) nilM)) (consM (callM g_figure_in (consM (opM ixD (varM 0) (cM (PyData.int 1))) nilM)) nilM))))
theorem Sq_tie_in_1_a (rr : Rho) : Sq_tie_in_1 rr = (retM (tupM (consM (callM g_figure_in (consM (opM ixD (varM 0) (cM (PyData.int 0))) nilM)) (consM (callM g_figure_in (consM (opM ixD (varM 0) (cM (PyData.int 1))) nilM)) nilM)))) rr := (rfl)
def b_tie_in : SM :=
    (seqS (ifM (tstM neB (unM lenD (varM 0)) (cM (PyData.int 2))) (exM "NoText") skipM)
    Sq_tie_in_1)
def g_tie_in : List D → Option D := runF N_tie_in b_tie_in
def N_read : List Str := ["text", "parts", "ties", "net", "part", "sign"]
def Ce_read_1 : EM :=
    (callM g_tie_in (consM (varM 4) nilM))
def Ce_read_2 : EM :=
    (callM g_figure_in (consM (varM 5) nilM))
def Sq_read_1 : SM :=
    (seqS (ifM (orM (notM (truM (callM g_is_net (consM (varM 3) nilM)))) (tstM neB (callM g_written (consM (varM 3) nilM)) (varM 0))) (exM "NoText") skipM)
    (retM (varM 3)))
theorem Sq_read_1_a (rr : Rho) : Sq_read_1 rr = (seqS (ifM (orM (notM (truM (callM g_is_net (consM (varM 3) nilM)))) (tstM neB (callM g_written (consM (varM 3) nilM)) (varM 0))) (exM "NoText") skipM)
    (retM (varM 3))) rr := (rfl)
def Sq_read_2 : SM :=
    (seqS (asgM 3 (tupM (consM (callM g_figure_in (consM (opM ixD (varM 1) (cM (PyData.int 0))) nilM)) (consM (varM 2) (consM (unM tupleD (ofL (compM [5] (seqSM (opM ixD (varM 1) (cM (PyData.int 2)))) (nameG 5) yesM Ce_read_2))) nilM)))))
    Sq_read_1)
theorem Sq_read_2_a (rr : Rho) : Sq_read_2 rr = (seqS (asgM 3 (tupM (consM (callM g_figure_in (consM (opM ixD (varM 1) (cM (PyData.int 0))) nilM)) (consM (varM 2) (consM (unM tupleD (ofL (compM [5] (seqSM (opM ixD (varM 1) (cM (PyData.int 2)))) (nameG 5) yesM Ce_read_2))) nilM)))))
    Sq_read_1) rr := (rfl)
def Sq_read_3 : SM :=
    (seqS (wipM [4] (ifM (tstM neB (opM ixD (varM 1) (cM (PyData.int 1))) (cM (PyData.str ""))) (asgM 2 (unM tupleD (ofL (compM [4] (seqM (ofL (splitM (opM ixD (varM 1) (cM (PyData.int 1))) (cM (PyData.str ","))))) (nameG 4) yesM Ce_read_1)))) skipM))
    Sq_read_2)
theorem Sq_read_3_a (rr : Rho) : Sq_read_3 rr = (seqS (wipM [4] (ifM (tstM neB (opM ixD (varM 1) (cM (PyData.int 1))) (cM (PyData.str ""))) (asgM 2 (unM tupleD (ofL (compM [4] (seqM (ofL (splitM (opM ixD (varM 1) (cM (PyData.int 1))) (cM (PyData.str ","))))) (nameG 4) yesM Ce_read_1)))) skipM))
    Sq_read_2) rr := (rfl)
def Sq_read_4 : SM :=
    (seqS (ifM (tstM neB (unM lenD (varM 1)) (cM (PyData.int 3))) (exM "NoText") skipM)
    (seqS (asgM 2 (tupM nilM))
    Sq_read_3))
theorem Sq_read_4_a (rr : Rho) : Sq_read_4 rr = (seqS (ifM (tstM neB (unM lenD (varM 1)) (cM (PyData.int 3))) (exM "NoText") skipM)
    (seqS (asgM 2 (tupM nilM))
    Sq_read_3)) rr := (rfl)
def b_read : SM :=
    (seqS (asgM 1 (ofL (splitM (varM 0) (cM (PyData.str ";")))))
    Sq_read_4)
def g_read : List D → Option D := runF N_read b_read
end PG
local macro_rules | `(tactic| simp_arith [$xs,*]) => `(tactic| simp only [PG.Sq_written_1_a, PG.Sq_tie_in_1_a, PG.Sq_read_1_a, PG.Sq_read_2_a, PG.Sq_read_3_a, PG.Sq_read_4_a, Nat.reduceAdd, Nat.reduceSub, Nat.reduceMul, Int.reduceLT, Int.reduceLE, Int.reducePow, Int.reduceNeg, Int.reduceAdd, Int.reduceSub, Int.reduceMul, Int.reduceBEq, Int.reduceBNe, Int.reduceToNat, $xs,*])
namespace FA
open PySem L2 DL PG
def N__law_same : List Str := ["_law_got", "_law_due", "_law_one", "_law_other"]
def Ce__law_same_1 (hh : List D → Option D) : EM :=
    (callM hh (consM (varM 2) (consM (varM 3) nilM)))
def b__law_same (hh : List D → Option D) : SM :=
    (seqS (ifM (tstM isB (varM 1) (cM PyData.none)) (retM (opM (bD isB) (varM 0) (cM PyData.none))) skipM)
    (seqS (ifM (truM (unM (isiD .bool) (varM 1))) (retM (andVM (unM (isiD .bool) (varM 0)) (opM (bD eqB) (varM 0) (varM 1)))) skipM)
    (seqS (ifM (truM (unM (isiD .tuple) (varM 1))) (seqS (ifM (orM (notM (truM (unM (isiD .tuple) (varM 0)))) (tstM neB (unM lenD (varM 0)) (unM lenD (varM 1)))) (retM (cM (PyData.bool false))) skipM)
    (retM (unM allD (ofL (compM [2, 3] (zipM (varM 0) (varM 1)) (tupG 2 (consG (nameG 2) (consG (nameG 3) nilG))) yesM (Ce__law_same_1 hh)))))) skipM)
    (seqS (ifM (truM (unM (isiD .str) (varM 1))) (retM (andVM (unM (isiD .str) (varM 0)) (opM (bD eqB) (varM 0) (varM 1)))) skipM)
    (retM (andVM (unM (isiD .int) (varM 0)) (andVM (notVM (unM (isiD .bool) (varM 0))) (opM (bD eqB) (varM 0) (varM 1)))))))))
def gr__law_same : Nat → List D → Option D
  | 0 => fun _ => none
  | nn + 1 => runF N__law_same (b__law_same (gr__law_same nn))
def g__law_same : List D → Option D := gr__law_same 40
def N__law_draw : List Str := ["_law_script", "_law_town", "_law_many", "_law_k", "_law_cell", "_law_number"]
def b__law_draw : SM :=
    (seqS (exprM (appM 1 (cM (PyData.int 0))))
    (seqS (asgM 3 (unM lenD (ownM 1)))
    (seqS (asgM 4 (cM (PyData.int 0)))
    (seqS (ifM (truM (varM 0)) (asgM 4 (opM ixD (varM 0) (opM modD (varM 3) (unM lenD (varM 0))))) skipM)
    (seqS (asgM 5 (opM modD (opM addD (varM 4) (opM mulD (cM (PyData.int 104729)) (varM 3))) (cM (PyData.int 4294967291))))
    (seqS (asgM 5 (opM modD (opM mulD (opM modD (opM mulD (varM 5) (varM 5)) (cM (PyData.int 4294967279))) (cM (PyData.int 48271))) (cM (PyData.int 4294967291))))
    (retM (opM modD (opM fdivD (varM 5) (cM (PyData.int 64))) (varM 2)))))))))
def g__law_draw : List D → List D → Option (D × List D) := runR N__law_draw 1 b__law_draw
def N__law_pick : List Str := ["_law_script", "_law_town", "_law_some"]
def b__law_pick : SM :=
    (retM (opM ixD (varM 2) (callRM 1 g__law_draw (consM (varM 0) (hereM 1 (consM (unM lenD (varM 2)) nilM))))))
def g__law_pick : List D → List D → Option (D × List D) := runR N__law_pick 1 b__law_pick
def N__law_net : List Str := ["_law_script", "_law_town", "_law_high", "_law_wide", "_law_many", "_law_every", "_law_one", "_law_ties_here", "_law_k", "_law_rim", "_law_knot", "_law_other"]
def Ce__law_net_1 : EM :=
    (tupM (consM (varM 6) (consM (varM 11) nilM)))
def F__law_net_1 : SM :=
    (asgM 5 (opM addD (varM 5) (ofL (compM [11] (rng2M (opM addD (varM 6) (cM (PyData.int 1))) (varM 4)) (nameG 11) yesM Ce__law_net_1))))
def F__law_net_2 : SM :=
    (seqS (asgM 11 (callRM 1 g__law_draw (consM (varM 0) (hereM 1 (consM (varM 10) nilM)))))
    (putM 7 (tupM (consM (varM 11) (consM (varM 10) nilM))) (cM (PyData.int 0))))
def F__law_net_3 : SM :=
    (ifM (andM (truM (varM 5)) (tstM ltB (lenDM 7) (varM 3))) (putM 7 (callRM 1 g__law_pick (consM (varM 0) (hereM 1 (consM (varM 5) nilM)))) (cM (PyData.int 0))) skipM)
def Ct__law_net_1 : TM :=
    (tstM eqB (callRM 1 g__law_draw (consM (varM 0) (hereM 1 (consM (cM (PyData.int 2)) nilM)))) (cM (PyData.int 0)))
def Ce__law_net_2 : EM :=
    (varM 10)
def b__law_net : SM :=
    (seqS (asgM 4 (opM addD (cM (PyData.int 1)) (callRM 1 g__law_draw (consM (varM 0) (hereM 1 (consM (varM 2) nilM))))))
    (seqS (asgM 5 (ofL (lstM nilM)))
    (seqS (forM (rng1M (varM 4)) (nameG 6) F__law_net_1)
    (seqS (newDM 7 true)
    (seqS (ifM (tstM gtD (callRM 1 g__law_draw (consM (varM 0) (hereM 1 (consM (cM (PyData.int 3)) nilM)))) (cM (PyData.int 0))) (forM (rng2M (cM (PyData.int 1)) (varM 4)) (nameG 10) F__law_net_2) skipM)
    (seqS (forM (rng1M (callRM 1 g__law_draw (consM (varM 0) (hereM 1 (consM (opM addD (varM 3) (cM (PyData.int 1))) nilM))))) (nameG 8) F__law_net_3)
    (seqS (asgLM 9 (compM [10] (rng1M (varM 4)) (nameG 10) Ct__law_net_1 Ce__law_net_2))
    (seqS (ifM (notM (truM (varM 9))) (asgM 9 (ofL (lstM (consM (callRM 1 g__law_draw (consM (varM 0) (hereM 1 (consM (varM 4) nilM)))) nilM)))) skipM)
    (retM (tupM (consM (varM 4) (consM (slM (unM tupleD (sortDM 7)) noM (someM (varM 3))) (consM (unM tupleD (varM 9)) nilM)))))))))))))
def g__law_net : List D → List D → Option (D × List D) := runR N__law_net 1 b__law_net
end FA
namespace PG
open PySem L2 DL
def gX_figure_in : List D → Option (Except String D) := runX N_figure_in b_figure_in
def Sqx_tie_in_1 : SM :=
    (retx (tupx (consx (callx gX_figure_in (consM (opM ixD (varM 0) (cM (PyData.int 0))) nilM)) (consx (callx gX_figure_in (consM (opM ixD (varM 0) (cM (PyData.int 1))) nilM)) nilx))))
theorem Sqx_tie_in_1_a (rr : Rho) : Sqx_tie_in_1 rr = (retx (tupx (consx (callx gX_figure_in (consM (opM ixD (varM 0) (cM (PyData.int 0))) nilM)) (consx (callx gX_figure_in (consM (opM ixD (varM 0) (cM (PyData.int 1))) nilM)) nilx)))) rr := (rfl)
def bX_tie_in : SM :=
    (seqS (ifM (tstM neB (unM lenD (varM 0)) (cM (PyData.int 2))) (exM "NoText") skipM)
    Sqx_tie_in_1)
def gX_tie_in : List D → Option (Except String D) := runX N_tie_in bX_tie_in
def Cex_read_1 : EXM :=
    (callx gX_tie_in (consM (varM 4) nilM))
def Cex_read_2 : EXM :=
    (callx gX_figure_in (consM (varM 5) nilM))
def Sqx_read_1 : SM :=
    (seqS (ifM (orM (notM (truM (callM g_is_net (consM (varM 3) nilM)))) (tstM neB (callM g_written (consM (varM 3) nilM)) (varM 0))) (exM "NoText") skipM)
    (retM (varM 3)))
theorem Sqx_read_1_a (rr : Rho) : Sqx_read_1 rr = (seqS (ifM (orM (notM (truM (callM g_is_net (consM (varM 3) nilM)))) (tstM neB (callM g_written (consM (varM 3) nilM)) (varM 0))) (exM "NoText") skipM)
    (retM (varM 3))) rr := (rfl)
def Sqx_read_2 : SM :=
    (seqS (asgx 3 (tupx (consx (callx gX_figure_in (consM (opM ixD (varM 1) (cM (PyData.int 0))) nilM)) (consx (okx (varM 2)) (consx (unx tupleD (ofx (compx [5] (seqSM (opM ixD (varM 1) (cM (PyData.int 2)))) (nameG 5) Cex_read_2))) nilx)))))
    Sqx_read_1)
theorem Sqx_read_2_a (rr : Rho) : Sqx_read_2 rr = (seqS (asgx 3 (tupx (consx (callx gX_figure_in (consM (opM ixD (varM 1) (cM (PyData.int 0))) nilM)) (consx (okx (varM 2)) (consx (unx tupleD (ofx (compx [5] (seqSM (opM ixD (varM 1) (cM (PyData.int 2)))) (nameG 5) Cex_read_2))) nilx)))))
    Sqx_read_1) rr := (rfl)
def Sqx_read_3 : SM :=
    (seqS (wipM [4] (ifM (tstM neB (opM ixD (varM 1) (cM (PyData.int 1))) (cM (PyData.str ""))) (asgx 2 (unx tupleD (ofx (compx [4] (seqM (ofL (splitM (opM ixD (varM 1) (cM (PyData.int 1))) (cM (PyData.str ","))))) (nameG 4) Cex_read_1)))) skipM))
    Sqx_read_2)
theorem Sqx_read_3_a (rr : Rho) : Sqx_read_3 rr = (seqS (wipM [4] (ifM (tstM neB (opM ixD (varM 1) (cM (PyData.int 1))) (cM (PyData.str ""))) (asgx 2 (unx tupleD (ofx (compx [4] (seqM (ofL (splitM (opM ixD (varM 1) (cM (PyData.int 1))) (cM (PyData.str ","))))) (nameG 4) Cex_read_1)))) skipM))
    Sqx_read_2) rr := (rfl)
def Sqx_read_4 : SM :=
    (seqS (ifM (tstM neB (unM lenD (varM 1)) (cM (PyData.int 3))) (exM "NoText") skipM)
    (seqS (asgM 2 (tupM nilM))
    Sqx_read_3))
theorem Sqx_read_4_a (rr : Rho) : Sqx_read_4 rr = (seqS (ifM (tstM neB (unM lenD (varM 1)) (cM (PyData.int 3))) (exM "NoText") skipM)
    (seqS (asgM 2 (tupM nilM))
    Sqx_read_3)) rr := (rfl)
def bX_read : SM :=
    (seqS (asgM 1 (ofL (splitM (varM 0) (cM (PyData.str ";")))))
    Sqx_read_4)
def gX_read : List D → Option (Except String D) := runX N_read bX_read
end PG
local macro_rules | `(tactic| simp_arith [$xs,*]) => `(tactic| simp only [PG.Sq_written_1_a, PG.Sq_tie_in_1_a, PG.Sq_read_1_a, PG.Sq_read_2_a, PG.Sq_read_3_a, PG.Sq_read_4_a, PG.Sqx_tie_in_1_a, PG.Sqx_read_1_a, PG.Sqx_read_2_a, PG.Sqx_read_3_a, PG.Sqx_read_4_a, Nat.reduceAdd, Nat.reduceSub, Nat.reduceMul, Int.reduceLT, Int.reduceLE, Int.reducePow, Int.reduceNeg, Int.reduceAdd, Int.reduceSub, Int.reduceMul, Int.reduceBEq, Int.reduceBNe, Int.reduceToNat, $xs,*])
namespace L_k15
open PySem L2 DL FA PG
def N__law_or : List Str := ["_law_due"]
def b__law_or : SM :=
    (seqS (ifM (tstM isB (varM 0) (cM PyData.none)) (retM (cM (PyData.str "refused"))) skipM)
    (retM (varM 0)))
def g__law_or : List D → Option D := runF N__law_or b__law_or
def N__law_told : List Str := ["_law_text", "_law_got"]
def Sq__law_told_1 : SM :=
    (seqS (tryM 1 gX_read (consM (varM 0) nilM) "NoText" (asgM 1 (cM (PyData.str "refused"))))
    (retM (varM 1)))
theorem Sq__law_told_1_a (rr : Rho) : Sq__law_told_1 rr = (seqS (tryM 1 gX_read (consM (varM 0) nilM) "NoText" (asgM 1 (cM (PyData.str "refused"))))
    (retM (varM 1))) rr := (rfl)
def b__law_told : SM :=
    (seqS (asgM 1 (cM PyData.none))
    Sq__law_told_1)
def g__law_told : List D → Option D := runF N__law_told b__law_told
def N__law_say : List Str := ["_law_net_here", "_law_text", "_law_knot", "_law_at", "_law_tie"]
def F__law_say_1 : SM :=
    (wipM [3, 4] (asgM 1 (opM addD (opM addD (opM addD (varM 1) (opM mulSD (cM (PyData.str ",")) (unM intD (opM (bD gtD) (varM 3) (cM (PyData.int 0)))))) (unM strD (opM ixD (varM 4) (cM (PyData.int 0))))) (unM strD (opM ixD (varM 4) (cM (PyData.int 1)))))))
def F__law_say_2 : SM :=
    (wipM [2] (asgM 1 (opM addD (varM 1) (unM strD (varM 2)))))
def Sq__law_say_1 : SM :=
    (seqS (preM [2] (forM (seqM (opM ixD (varM 0) (cM (PyData.int 2)))) (nameG 2) F__law_say_2))
    (retM (varM 1)))
theorem Sq__law_say_1_a (rr : Rho) : Sq__law_say_1 rr = (seqS (preM [2] (forM (seqM (opM ixD (varM 0) (cM (PyData.int 2)))) (nameG 2) F__law_say_2))
    (retM (varM 1))) rr := (rfl)
def Sq__law_say_2 : SM :=
    (seqS (asgM 1 (opM addD (varM 1) (cM (PyData.str ";"))))
    Sq__law_say_1)
theorem Sq__law_say_2_a (rr : Rho) : Sq__law_say_2 rr = (seqS (asgM 1 (opM addD (varM 1) (cM (PyData.str ";"))))
    Sq__law_say_1) rr := (rfl)
def Sq__law_say_3 : SM :=
    (seqS (preM [3, 4] (forM (enumM (opM ixD (varM 0) (cM (PyData.int 1)))) (tupG 2 (consG (nameG 3) (consG (nameG 4) nilG))) F__law_say_1))
    Sq__law_say_2)
theorem Sq__law_say_3_a (rr : Rho) : Sq__law_say_3 rr = (seqS (preM [3, 4] (forM (enumM (opM ixD (varM 0) (cM (PyData.int 1)))) (tupG 2 (consG (nameG 3) (consG (nameG 4) nilG))) F__law_say_1))
    Sq__law_say_2) rr := (rfl)
def b__law_say : SM :=
    (seqS (asgM 1 (opM addD (unM strD (opM ixD (varM 0) (cM (PyData.int 0)))) (cM (PyData.str ";"))))
    Sq__law_say_3)
def g__law_say : List D → Option D := runF N__law_say b__law_say
def N__law_rising : List Str := ["_law_some", "_law_most", "_law_one"]
def Ce__law_rising_1 : EM :=
    (tupM (consM (varM 2) (consM (cM (PyData.int 0)) nilM)))
def b__law_rising : SM :=
    (retM (andVM (opM (bD eqB) (unM listD (varM 0)) (unM sortDictB (ofL (compM [2] (seqM (varM 0)) (nameG 2) yesM Ce__law_rising_1)))) (opM (bD leB) (unM lenD (varM 0)) (varM 1))))
def g__law_rising : List D → Option D := runF N__law_rising b__law_rising
def N__law_read : List Str := ["_law_text", "_law_many", "_law_figures", "_law_middle", "_law_piece", "_law_sign", "_law_ties_here", "_law_rim"]
def Sq__law_read_1 : SM :=
    (asgM 6 (opM addD (varM 6) (tupM (consM (tupM (consM (unM intSD (opM ixD (varM 4) (cM (PyData.int 0)))) (consM (unM intSD (opM ixD (varM 4) (cM (PyData.int 1)))) nilM))) nilM))))
theorem Sq__law_read_1_a (rr : Rho) : Sq__law_read_1 rr = (asgM 6 (opM addD (varM 6) (tupM (consM (tupM (consM (unM intSD (opM ixD (varM 4) (cM (PyData.int 0)))) (consM (unM intSD (opM ixD (varM 4) (cM (PyData.int 1)))) nilM))) nilM)))) rr := (rfl)
def F__law_read_1 : SM :=
    (wipM [4] (seqS (ifM (orM (tstM neB (unM lenD (varM 4)) (cM (PyData.int 2))) (orM (tstM notInSB (opM ixD (varM 4) (cM (PyData.int 0))) (varM 2)) (orM (tstM notInSB (opM ixD (varM 4) (cM (PyData.int 1))) (varM 2)) (tstM geSB (opM ixD (varM 4) (cM (PyData.int 0))) (opM ixD (varM 4) (cM (PyData.int 1))))))) (retM (cM PyData.none)) skipM)
    Sq__law_read_1))
def Sq__law_read_2 : SM :=
    (asgM 7 (opM addD (varM 7) (tupM (consM (unM intSD (varM 5)) nilM))))
theorem Sq__law_read_2_a (rr : Rho) : Sq__law_read_2 rr = (asgM 7 (opM addD (varM 7) (tupM (consM (unM intSD (varM 5)) nilM)))) rr := (rfl)
def F__law_read_2 : SM :=
    (wipM [5] (seqS (ifM (tstM notInSB (varM 5) (varM 2)) (retM (cM PyData.none)) skipM)
    Sq__law_read_2))
def Sq__law_read_3 : SM :=
    (retM (tupM (consM (varM 1) (consM (varM 6) (consM (varM 7) nilM)))))
theorem Sq__law_read_3_a (rr : Rho) : Sq__law_read_3 rr = (retM (tupM (consM (varM 1) (consM (varM 6) (consM (varM 7) nilM))))) rr := (rfl)
def Sq__law_read_4 : SM :=
    (seqS (ifM (orM (tstM eqB (varM 7) (tupM nilM)) (orM (notM (truM (callM g__law_rising (consM (varM 6) (consM (cM (PyData.int 9)) nilM))))) (notM (truM (callM g__law_rising (consM (varM 7) (consM (cM (PyData.int 7)) nilM))))))) (retM (cM PyData.none)) skipM)
    Sq__law_read_3)
theorem Sq__law_read_4_a (rr : Rho) : Sq__law_read_4 rr = (seqS (ifM (orM (tstM eqB (varM 7) (tupM nilM)) (orM (notM (truM (callM g__law_rising (consM (varM 6) (consM (cM (PyData.int 9)) nilM))))) (notM (truM (callM g__law_rising (consM (varM 7) (consM (cM (PyData.int 7)) nilM))))))) (retM (cM PyData.none)) skipM)
    Sq__law_read_3) rr := (rfl)
def Sq__law_read_5 : SM :=
    (seqS (preM [5] (forM (seqSM (slM (varM 0) (someM (opM addD (varM 3) (cM (PyData.int 1)))) noM)) (nameG 5) F__law_read_2))
    Sq__law_read_4)
theorem Sq__law_read_5_a (rr : Rho) : Sq__law_read_5 rr = (seqS (preM [5] (forM (seqSM (slM (varM 0) (someM (opM addD (varM 3) (cM (PyData.int 1)))) noM)) (nameG 5) F__law_read_2))
    Sq__law_read_4) rr := (rfl)
def Sq__law_read_6 : SM :=
    (seqS (preM [4] (forM (seqM (iteM (tstM gtD (varM 3) (cM (PyData.int 2))) (ofL (splitM (slM (varM 0) (someM (cM (PyData.int 2))) (someM (varM 3))) (cM (PyData.str ",")))) (ofL (lstM nilM)))) (nameG 4) F__law_read_1))
    Sq__law_read_5)
theorem Sq__law_read_6_a (rr : Rho) : Sq__law_read_6 rr = (seqS (preM [4] (forM (seqM (iteM (tstM gtD (varM 3) (cM (PyData.int 2))) (ofL (splitM (slM (varM 0) (someM (cM (PyData.int 2))) (someM (varM 3))) (cM (PyData.str ",")))) (ofL (lstM nilM)))) (nameG 4) F__law_read_1))
    Sq__law_read_5) rr := (rfl)
def Sq__law_read_7 : SM :=
    (seqS (asgG (tupG 2 (consG (nameG 6) (consG (nameG 7) nilG))) (tupM (consM (tupM nilM) (consM (tupM nilM) nilM))))
    Sq__law_read_6)
theorem Sq__law_read_7_a (rr : Rho) : Sq__law_read_7 rr = (seqS (asgG (tupG 2 (consG (nameG 6) (consG (nameG 7) nilG))) (tupM (consM (tupM nilM) (consM (tupM nilM) nilM))))
    Sq__law_read_6) rr := (rfl)
def Sq__law_read_8 : SM :=
    (seqS (asgM 3 (opM addD (opM indexSD (slM (varM 0) (someM (cM (PyData.int 2))) noM) (cM (PyData.str ";"))) (cM (PyData.int 2))))
    Sq__law_read_7)
theorem Sq__law_read_8_a (rr : Rho) : Sq__law_read_8 rr = (seqS (asgM 3 (opM addD (opM indexSD (slM (varM 0) (someM (cM (PyData.int 2))) noM) (cM (PyData.str ";"))) (cM (PyData.int 2))))
    Sq__law_read_7) rr := (rfl)
def Sq__law_read_9 : SM :=
    (seqS (asgM 2 (slM (cM (PyData.str "0123456")) noM (someM (varM 1))))
    Sq__law_read_8)
theorem Sq__law_read_9_a (rr : Rho) : Sq__law_read_9 rr = (seqS (asgM 2 (slM (cM (PyData.str "0123456")) noM (someM (varM 1))))
    Sq__law_read_8) rr := (rfl)
def Sq__law_read_10 : SM :=
    (seqS (asgM 1 (unM intSD (opM ixD (varM 0) (cM (PyData.int 0)))))
    Sq__law_read_9)
theorem Sq__law_read_10_a (rr : Rho) : Sq__law_read_10 rr = (seqS (asgM 1 (unM intSD (opM ixD (varM 0) (cM (PyData.int 0)))))
    Sq__law_read_9) rr := (rfl)
def b__law_read : SM :=
    (seqS (ifM (orM (tstM ltB (unM lenD (varM 0)) (cM (PyData.int 4))) (orM (tstM notInSB (opM ixD (varM 0) (cM (PyData.int 0))) (cM (PyData.str "1234567"))) (orM (tstM neB (opM ixD (varM 0) (cM (PyData.int 1))) (cM (PyData.str ";"))) (tstM neB (opM countSD (varM 0) (cM (PyData.str ";"))) (cM (PyData.int 2)))))) (retM (cM PyData.none)) skipM)
    Sq__law_read_10)
def g__law_read : List D → Option D := runF N__law_read b__law_read
def N_law : List Str := ["_law_script", "_law_town", "_law_k", "_law_net_here", "_law_text", "_law_texts", "_law_j", "_law_pieces", "_law_some", "_law_one", "_law_thing", "_law_at", "_law_sign"]
def Sq_law_1 : SM :=
    (exprM (appM 5 (opM addD (opM addD (slM (varM 4) noM (someM (varM 11))) (unM revSD (slM (varM 4) (someM (varM 11)) (someM (opM addD (varM 11) (cM (PyData.int 2))))))) (slM (varM 4) (someM (opM addD (varM 11) (cM (PyData.int 2)))) noM))))
theorem Sq_law_1_a (rr : Rho) : Sq_law_1 rr = (exprM (appM 5 (opM addD (opM addD (slM (varM 4) noM (someM (varM 11))) (unM revSD (slM (varM 4) (someM (varM 11)) (someM (opM addD (varM 11) (cM (PyData.int 2))))))) (slM (varM 4) (someM (opM addD (varM 11) (cM (PyData.int 2)))) noM)))) rr := (rfl)
def Sq_law_2 : SM :=
    (seqS (newM 5 (catOwnM 5 (ofL (lstM (consM (opM addD (opM addD (slM (varM 4) noM (someM (varM 11))) (varM 12)) (slM (varM 4) (someM (varM 11)) noM)) (consM (opM addD (slM (varM 4) noM (someM (varM 11))) (slM (varM 4) (someM (opM addD (varM 11) (cM (PyData.int 1)))) noM)) (consM (opM addD (opM addD (slM (varM 4) noM (someM (varM 11))) (varM 12)) (slM (varM 4) (someM (opM addD (varM 11) (cM (PyData.int 1)))) noM)) nilM)))))))
    Sq_law_1)
theorem Sq_law_2_a (rr : Rho) : Sq_law_2 rr = (seqS (newM 5 (catOwnM 5 (ofL (lstM (consM (opM addD (opM addD (slM (varM 4) noM (someM (varM 11))) (varM 12)) (slM (varM 4) (someM (varM 11)) noM)) (consM (opM addD (slM (varM 4) noM (someM (varM 11))) (slM (varM 4) (someM (opM addD (varM 11) (cM (PyData.int 1)))) noM)) (consM (opM addD (opM addD (slM (varM 4) noM (someM (varM 11))) (varM 12)) (slM (varM 4) (someM (opM addD (varM 11) (cM (PyData.int 1)))) noM)) nilM)))))))
    Sq_law_1) rr := (rfl)
def Sq_law_3 : SM :=
    (seqS (asgM 12 (callRM 1 g__law_pick (consM (varM 0) (hereM 1 (consM (cM (PyData.str "0123456789;, -+_.aZ~!")) nilM)))))
    Sq_law_2)
theorem Sq_law_3_a (rr : Rho) : Sq_law_3 rr = (seqS (asgM 12 (callRM 1 g__law_pick (consM (varM 0) (hereM 1 (consM (cM (PyData.str "0123456789;, -+_.aZ~!")) nilM)))))
    Sq_law_2) rr := (rfl)
def F_law_1 : SM :=
    (wipM [6, 11, 12] (seqS (asgM 11 (callRM 1 g__law_draw (consM (varM 0) (hereM 1 (consM (opM addD (unM lenD (varM 4)) (cM (PyData.int 1))) nilM)))))
    Sq_law_3))
def F_law_2 : SM :=
    (wipM [9] (exprM (appM 5 (opM joinD (cM (PyData.str ";")) (ofL (lstM (consM (opM ixD (varM 7) (cM (PyData.int 0))) (consM (opM joinD (cM (PyData.str ",")) (varM 9)) (consM (opM ixD (varM 7) (cM (PyData.int 2))) nilM)))))))))
def F_law_3 : SM :=
    (wipM [10] (ifM (notM (truM (callM g__law_same (consM (callM g__law_told (consM (varM 10) nilM)) (consM (callM g__law_or (consM (callM g__law_read (consM (varM 10) nilM)) nilM)) nilM))))) (retM (cM (PyData.bool false))) skipM))
def Sq_law_4 : SM :=
    (preM [10] (forM (seqM (ofL (catOwnM 5 (ofL (lstM (consM (opM joinD (cM (PyData.str ";")) (slM (varM 7) noM (someM (cM (PyData.int 2))))) (consM (opM joinD (cM (PyData.str ";")) (opM addD (varM 7) (ofL (lstM (consM (cM (PyData.str "")) nilM))))) (consM (opM joinD (cM (PyData.str ";")) (unM revD (varM 7))) nilM)))))))) (nameG 10) F_law_3))
theorem Sq_law_4_a (rr : Rho) : Sq_law_4 rr = (preM [10] (forM (seqM (ofL (catOwnM 5 (ofL (lstM (consM (opM joinD (cM (PyData.str ";")) (slM (varM 7) noM (someM (cM (PyData.int 2))))) (consM (opM joinD (cM (PyData.str ";")) (opM addD (varM 7) (ofL (lstM (consM (cM (PyData.str "")) nilM))))) (consM (opM joinD (cM (PyData.str ";")) (unM revD (varM 7))) nilM)))))))) (nameG 10) F_law_3)) rr := (rfl)
def Sq_law_5 : SM :=
    (seqS (preM [9] (forM (seqM (tupM (consM (slM (varM 8) (someM (cM (PyData.int 1))) noM) (consM (unM revD (varM 8)) (consM (opM addD (varM 8) (slM (varM 8) noM (someM (cM (PyData.int 1))))) nilM))))) (nameG 9) F_law_2))
    Sq_law_4)
theorem Sq_law_5_a (rr : Rho) : Sq_law_5 rr = (seqS (preM [9] (forM (seqM (tupM (consM (slM (varM 8) (someM (cM (PyData.int 1))) noM) (consM (unM revD (varM 8)) (consM (opM addD (varM 8) (slM (varM 8) noM (someM (cM (PyData.int 1))))) nilM))))) (nameG 9) F_law_2))
    Sq_law_4) rr := (rfl)
def Sq_law_6 : SM :=
    (seqS (asgM 8 (ofL (splitM (opM ixD (varM 7) (cM (PyData.int 1))) (cM (PyData.str ",")))))
    Sq_law_5)
theorem Sq_law_6_a (rr : Rho) : Sq_law_6 rr = (seqS (asgM 8 (ofL (splitM (opM ixD (varM 7) (cM (PyData.int 1))) (cM (PyData.str ",")))))
    Sq_law_5) rr := (rfl)
def Sq_law_7 : SM :=
    (seqS (asgM 7 (ofL (splitM (varM 4) (cM (PyData.str ";")))))
    Sq_law_6)
theorem Sq_law_7_a (rr : Rho) : Sq_law_7 rr = (seqS (asgM 7 (ofL (splitM (varM 4) (cM (PyData.str ";")))))
    Sq_law_6) rr := (rfl)
def Sq_law_8 : SM :=
    (seqS (preM [6, 11, 12] (forM (rng1M (cM (PyData.int 6))) (nameG 6) F_law_1))
    Sq_law_7)
theorem Sq_law_8_a (rr : Rho) : Sq_law_8 rr = (seqS (preM [6, 11, 12] (forM (rng1M (cM (PyData.int 6))) (nameG 6) F_law_1))
    Sq_law_7) rr := (rfl)
def Sq_law_9 : SM :=
    (seqS (newM 5 (lstM (consM (opM addD (varM 4) (varM 4)) (consM (opM addD (cM (PyData.str " ")) (varM 4)) (consM (opM addD (varM 4) (cM (PyData.str " "))) (consM (unM revSD (varM 4)) (consM (cM (PyData.str "")) (consM (cM (PyData.str ";;")) (consM (cM (PyData.str "1;;")) (consM (cM (PyData.str "1;;0")) (consM (cM (PyData.str "0;;")) (consM (cM (PyData.str "2;10;0")) (consM (cM (PyData.str "2;01,;0")) nilM)))))))))))))
    Sq_law_8)
theorem Sq_law_9_a (rr : Rho) : Sq_law_9 rr = (seqS (newM 5 (lstM (consM (opM addD (varM 4) (varM 4)) (consM (opM addD (cM (PyData.str " ")) (varM 4)) (consM (opM addD (varM 4) (cM (PyData.str " "))) (consM (unM revSD (varM 4)) (consM (cM (PyData.str "")) (consM (cM (PyData.str ";;")) (consM (cM (PyData.str "1;;")) (consM (cM (PyData.str "1;;0")) (consM (cM (PyData.str "0;;")) (consM (cM (PyData.str "2;10;0")) (consM (cM (PyData.str "2;01,;0")) nilM)))))))))))))
    Sq_law_8) rr := (rfl)
def Sq_law_10 : SM :=
    (seqS (ifM (orM (notM (truM (callM g__law_same (consM (callM g_written (consM (varM 3) nilM)) (consM (varM 4) nilM))))) (notM (truM (callM g__law_same (consM (callM g__law_told (consM (varM 4) nilM)) (consM (varM 3) nilM)))))) (retM (cM (PyData.bool false))) skipM)
    Sq_law_9)
theorem Sq_law_10_a (rr : Rho) : Sq_law_10 rr = (seqS (ifM (orM (notM (truM (callM g__law_same (consM (callM g_written (consM (varM 3) nilM)) (consM (varM 4) nilM))))) (notM (truM (callM g__law_same (consM (callM g__law_told (consM (varM 4) nilM)) (consM (varM 3) nilM)))))) (retM (cM (PyData.bool false))) skipM)
    Sq_law_9) rr := (rfl)
def Sq_law_11 : SM :=
    (seqS (asgM 4 (callM g__law_say (consM (varM 3) nilM)))
    Sq_law_10)
theorem Sq_law_11_a (rr : Rho) : Sq_law_11 rr = (seqS (asgM 4 (callM g__law_say (consM (varM 3) nilM)))
    Sq_law_10) rr := (rfl)
def F_law_4 : SM :=
    (wipM [2, 3, 4, 5, 6, 7, 8, 9, 10, 11, 12] (seqS (asgM 3 (callRM 1 g__law_net (consM (varM 0) (hereM 1 (consM (cM (PyData.int 7)) (consM (cM (PyData.int 9)) nilM))))))
    Sq_law_11))
def Sq_law_12 : SM :=
    (seqS (preM [2, 3, 4, 5, 6, 7, 8, 9, 10, 11, 12] (forM (rng1M (cM (PyData.int 10))) (nameG 2) F_law_4))
    (retM (cM (PyData.bool true))))
theorem Sq_law_12_a (rr : Rho) : Sq_law_12 rr = (seqS (preM [2, 3, 4, 5, 6, 7, 8, 9, 10, 11, 12] (forM (rng1M (cM (PyData.int 10))) (nameG 2) F_law_4))
    (retM (cM (PyData.bool true)))) rr := (rfl)
def b_law : SM :=
    (seqS (newM 1 (lstM nilM))
    Sq_law_12)
def g_law : List D → Option D := runF N_law b_law
end L_k15
/-! evaluation of combinator terms at rows of slots that are written out -/
namespace DL
open PySem L2
theorem ob_some {α β : Type} (a : α) (f : α → Option β) : (some a).bind f = f a := (rfl)
theorem om_some {α β : Type} (a : α) (f : α → β) : (some a).map f = some (f a) := (rfl)
/-! slots -/
def SV.dat : SV → Option D
  | .d x => some x
  | _ => none
def SV.lis : SV → Option (Bool × List D)
  | .l b xs => some (b, xs)
  | _ => none
def SV.dic : SV → Option (Bool × Bool × List (DK × D))
  | .m b t xs => some (b, t, xs)
  | _ => none
theorem dat_d (x : D) : (SV.d x).dat = some x := (rfl)
theorem lis_l (b : Bool) (x : List D) : (SV.l b x).lis = some (b, x) := (rfl)
theorem dic_m (b t : Bool) (x : List (DK × D)) : (SV.m b t x).dic = some (b, t, x) := (rfl)
def gt (r : Rho) (i : Nat) : Option SV := r[i]?.bind id
theorem gt_0 (o : Option SV) (r : Rho) : gt (o :: r) 0 = o := (rfl)
theorem gt_1 (a o : Option SV) (r : Rho) : gt (a :: o :: r) 1 = o := (rfl)
theorem gt_2 (a b o : Option SV) (r : Rho) : gt (a :: b :: o :: r) 2 = o := (rfl)
theorem gt_3 (a b c o : Option SV) (r : Rho) : gt (a :: b :: c :: o :: r) 3 = o := (rfl)
theorem gt_4 (a b c d o : Option SV) (r : Rho) : gt (a :: b :: c :: d :: o :: r) 4 = o := (rfl)
theorem gt_5 (a b c d e o : Option SV) (r : Rho) : gt (a :: b :: c :: d :: e :: o :: r) 5 = o := (rfl)
theorem gt_6 (a b c d e f o : Option SV) (r : Rho) : gt (a :: b :: c :: d :: e :: f :: o :: r) 6 = o := (rfl)
theorem gt_7 (a b c d e f g o : Option SV) (r : Rho) : gt (a :: b :: c :: d :: e :: f :: g :: o :: r) 7 = o := (rfl)
theorem gt_b (a b c d e f g h : Option SV) (r : Rho) (i : Nat) : gt (a :: b :: c :: d :: e :: f :: g :: h :: r) (i + 8) = gt r i := by unfold gt; simp
theorem st_0 (o x : Option SV) (r : Rho) : List.set (o :: r) 0 x = x :: r := (rfl)
theorem st_s (o x : Option SV) (r : Rho) (i : Nat) : List.set (o :: r) (i + 1) x = o :: List.set r i x := (rfl)
def plG : Option SV → Bool
  | some sv => !sv.own
  | none => true
theorem plG_d (x : D) : plG (some (.d x)) = true := (rfl)
theorem plG_n : plG none = true := (rfl)
theorem plainAt_a (r : Rho) (is : List Nat) : plainAt r is = is.all fun i => plG (gt r i) := by
  unfold plainAt plG gt
  congr 1; funext i
  cases r[i]? with
  | none => rfl
  | some o => cases o <;> rfl
/-! expressions -/
theorem varM_a (i : Nat) (r : Rho) : varM i r = (gt r i).bind fun s => s.dat.map fun x => (x, r) := by
  unfold varM gt
  cases r[i]? with
  | none => rfl
  | some o => cases o with
    | none => rfl
    | some s => cases s <;> rfl
theorem ownM_a (i : Nat) (r : Rho) : ownM i r = (gt r i).bind fun s => s.lis.map fun x => (.list x.2, r) := by
  unfold ownM gt
  cases r[i]? with
  | none => rfl
  | some o => cases o with
    | none => rfl
    | some s => cases s <;> rfl
theorem cM_a (d : D) (r : Rho) : cM d r = some (d, r) := (rfl)
theorem ofL_a (f : AM) (r : Rho) : ofL f r = (f r).map fun p => (.list p.1, p.2) := (rfl)
theorem opM_a (h : D → D → Option D) (f g : EM) (r : Rho) : opM h f g r = (f r).bind fun p => (g p.2).bind fun q => (h p.1 q.1).map fun d => (d, q.2) := (rfl)
theorem unM_a (h : D → Option D) (f : EM) (r : Rho) : unM h f r = (f r).bind fun p => (h p.1).map fun d => (d, p.2) := (rfl)
theorem truM_a (f : EM) (r : Rho) : truM f r = (f r).bind fun p => (truD p.1).map fun b => (b, p.2) := (rfl)
theorem tstM_a (h : D → D → Option Bool) (f g : EM) (r : Rho) : tstM h f g r = (f r).bind fun p => (g p.2).bind fun q => (h p.1 q.1).map fun b => (b, q.2) := (rfl)
theorem notM_a (f : TM) (r : Rho) : notM f r = (f r).map fun p => (!p.1, p.2) := (rfl)
def cnd {α : Type} (b : Bool) (x y : Unit → α) : α := if b = true then x () else y ()
theorem cnd_t {α : Type} (x y : Unit → α) : cnd true x y = x () := (rfl)
theorem cnd_f {α : Type} (x y : Unit → α) : cnd false x y = y () := (rfl)
theorem andM_a (f g : TM) (r : Rho) : andM f g r = (f r).bind fun p => cnd p.1 (fun _ => g p.2) (fun _ => some (false, p.2)) := (rfl)
theorem orM_a (f g : TM) (r : Rho) : orM f g r = (f r).bind fun p => cnd p.1 (fun _ => some (true, p.2)) (fun _ => g p.2) := (rfl)
theorem andVM_a (f g : EM) (r : Rho) : andVM f g r = (f r).bind fun p => (truD p.1).bind fun b => cnd b (fun _ => g p.2) (fun _ => some (p.1, p.2)) := (rfl)
theorem notVM_a (f : EM) (r : Rho) : notVM f r = (f r).bind fun p => (truD p.1).map fun b => (.bool (!b), p.2) := (rfl)
theorem iteM_a (t : TM) (f g : EM) (r : Rho) : iteM t f g r = (t r).bind fun p => cnd p.1 (fun _ => f p.2) (fun _ => g p.2) := (rfl)
theorem chM_a (h1 h2 : D → D → Option Bool) (f g k : EM) (r : Rho) : chM h1 h2 f g k r = (f r).bind fun p => (g p.2).bind fun q => (h1 p.1 q.1).bind fun b => cnd b (fun _ => (k q.2).bind fun w => (h2 q.1 w.1).map fun c => (.bool c, w.2)) (fun _ => some (.bool false, q.2)) := (rfl)
theorem nilM_a (r : Rho) : nilM r = some ([], r) := (rfl)
theorem consM_a (f : EM) (g : AM) (r : Rho) : consM f g r = (f r).bind fun p => (g p.2).map fun q => (p.1 :: q.1, q.2) := (rfl)
def guard' {α : Type} (b : Bool) (x : Unit → Option α) : Option α := if b = true then x () else none
theorem guard_tt {α : Type} (x : Unit → Option α) : guard' true x = x () := (rfl)
theorem tupM_a (f : AM) (r : Rho) : tupM f r = (f r).bind fun p => guard' (szOk p.1.length) fun _ => some (.tuple p.1, p.2) := (rfl)
theorem lstM_a (f : AM) (r : Rho) : lstM f r = (f r).bind fun p => guard' (szOk p.1.length) fun _ => some p := (rfl)
theorem noM_a (r : Rho) : noM r = some (none, r) := (rfl)
def intV : D → Option Int
  | .int i => some i
  | _ => none
theorem intV_i (i : Int) : intV (.int i) = some i := (rfl)
theorem someM_a (f : EM) (r : Rho) : someM f r = (f r).bind fun p => (intV p.1).map fun i => (some i, p.2) := by
  unfold someM
  cases f r with
  | none => rfl
  | some p => obtain ⟨d, r1⟩ := p; cases d <;> rfl
theorem slM_a (f : EM) (l u : OM) (r : Rho) : slM f l u r = (f r).bind fun p => (l p.2).bind fun q => (u q.2).bind fun w => (slD p.1 q.1 w.1).map fun d => (d, w.2) := (rfl)
theorem rng1M_a (f : EM) (r : Rho) : rng1M f r = (f r).bind fun p => (intV p.1).bind fun j => guard' (rngOk j) fun _ => some (rngL 0 j, p.2) := by
  unfold rng1M
  cases f r with
  | none => rfl
  | some p => obtain ⟨d, r1⟩ := p; cases d <;> rfl
theorem rng2M_a (f g : EM) (r : Rho) : rng2M f g r = (f r).bind fun p => (g p.2).bind fun q => (intV p.1).bind fun i => (intV q.1).bind fun j => guard' (rngOk i && rngOk j) fun _ => some (rngL i j, q.2) := by
  unfold rng2M
  cases f r with
  | none => rfl
  | some p =>
    obtain ⟨d, r1⟩ := p
    simp only [ob_some]
    cases g r1 with
    | none => rfl
    | some q => obtain ⟨e, r2⟩ := q; cases d <;> cases e <;> rfl
def zipV : D → D → Option (List D)
  | .tuple xs, .tuple ys => some (zipL xs ys)
  | .list xs, .list ys => some (zipL xs ys)
  | _, _ => none
theorem zipV_t (xs ys : List D) : zipV (.tuple xs) (.tuple ys) = some (zipL xs ys) := (rfl)
theorem zipV_l (xs ys : List D) : zipV (.list xs) (.list ys) = some (zipL xs ys) := (rfl)
theorem zipM_a (f g : EM) (r : Rho) : zipM f g r = (f r).bind fun p => (g p.2).bind fun q => (zipV p.1 q.1).map fun z => (z, q.2) := by
  unfold zipM
  cases f r with
  | none => rfl
  | some p =>
    obtain ⟨d, r1⟩ := p
    simp only [ob_some]
    cases g r1 with
    | none => rfl
    | some q => obtain ⟨e, r2⟩ := q; cases d <;> cases e <;> rfl
theorem seqM_a (f : EM) (r : Rho) : seqM f r = (f r).bind fun p => (itemsOf p.1).map fun ds => (ds, p.2) := (rfl)
theorem callM_a (g : List D → Option D) (f : AM) (r : Rho) : callM g f r = (f r).bind fun p => (g p.1).map fun d => (d, p.2) := (rfl)
theorem hereM_a (i : Nat) (f : AM) (r : Rho) : hereM i f r = (ownM i r).bind fun _ => f r := (rfl)
theorem callRM_a (i : Nat) (g : List D → List D → Option (D × List D)) (f : AM) (r : Rho) : callRM i g f r = (f r).bind fun p => (gt p.2 i).bind fun s => s.lis.bind fun x => (g p.1 x.2).map fun q => (q.1, p.2.set i (some (.l x.1 q.2))) := by
  unfold callRM gt
  cases f r with
  | none => rfl
  | some p =>
    simp only [ob_some]
    cases p.2[i]? with
    | none => rfl
    | some o => cases o with
      | none => rfl
      | some s => cases s <;> rfl
theorem appM_a (i : Nat) (f : EM) (r : Rho) : appM i f r = (ownM i r).bind fun _ => (f r).bind fun p => (gt p.2 i).bind fun s => s.lis.bind fun x => guard' (szOk x.2.length) fun _ => some (.none, p.2.set i (some (.l x.1 (x.2 ++ [p.1])))) := by
  unfold appM gt
  congr 1; funext _
  congr 1; funext p
  cases p.2[i]? with
  | none => rfl
  | some o => cases o with
    | none => rfl
    | some s => cases s <;> rfl
def lisV : D → Option (List D)
  | .list x => some x
  | _ => none
theorem lisV_l (x : List D) : lisV (.list x) = some x := (rfl)
theorem catOwnM_a (i : Nat) (g : EM) (r : Rho) : catOwnM i g r = (ownM i r).bind fun _ => (g r).bind fun p => (gt p.2 i).bind fun s => s.lis.bind fun x => (lisV p.1).bind fun y => guard' (szOk (x.2.length + y.length)) fun _ => some (x.2 ++ y, p.2) := by
  unfold catOwnM gt
  congr 1; funext _
  congr 1; funext p
  cases p.2[i]? with
  | none => rfl
  | some o => cases o with
    | none => rfl
    | some s => cases s with
      | l b xs => obtain ⟨d, r1⟩ := p; cases d <;> rfl
      | _ => obtain ⟨d, r1⟩ := p; cases d <;> rfl
theorem newDM_a (i : Nat) (t : Bool) (r : Rho) : newDM i t r = some (.nx (r.set i (some (.m false t [])))) := (rfl)
theorem putM_a (i : Nat) (fk fv : EM) (r : Rho) : putM i fk fv r = (fv r).bind fun p => (gt p.2 i).bind fun s => s.dic.bind fun _ => (fk p.2).bind fun q => (gt q.2 i).bind fun s => s.dic.bind fun x => (dkOf x.2.1 q.1).bind fun k => guard' (szOk x.2.2.length) fun _ => some (.nx (q.2.set i (some (.m x.1 x.2.1 (putG x.2.2 k p.1))))) := by
  unfold putM gt
  congr 1; funext p
  cases p.2[i]? with
  | none => rfl
  | some o => cases o with
    | none => rfl
    | some s => cases s with
      | m b t xs =>
        simp only [ob_some, id, SV.dic]
        congr 1; funext q
        cases q.2[i]? with
        | none => rfl
        | some o => cases o with
          | none => rfl
          | some s => cases s <;> rfl
      | _ => rfl
theorem lenDM_a (i : Nat) (r : Rho) : lenDM i r = (gt r i).bind fun s => s.dic.bind fun x => guard' x.2.1 fun _ => some (.int x.2.2.length, r) := by
  unfold lenDM gt
  cases r[i]? with
  | none => rfl
  | some o => cases o with
    | none => rfl
    | some s => cases s with
      | m b t xs => cases t <;> rfl
      | _ => rfl
theorem sortDM_a (i : Nat) (r : Rho) : sortDM i r = (gt r i).bind fun s => s.dic.bind fun x => guard' x.2.1 fun _ => guard' (sortOk (x.2.2.map fun kv => dkD kv.1)) fun _ => some (.list (sortL (x.2.2.map fun kv => dkD kv.1)), r) := by
  unfold sortDM gt
  cases r[i]? with
  | none => rfl
  | some o => cases o with
    | none => rfl
    | some s => cases s with
      | m b t xs => cases t <;> rfl
      | _ => rfl
/-! targets -/
theorem nameG_a (i : Nat) (r : Rho) (d : D) : nameG i r d = some (r.set i (some (.d d))) := (rfl)
theorem nilG_a (r : Rho) : nilG r [] = some r := (rfl)
theorem consG_a (t : GM) (u : GMs) (r : Rho) (d : D) (ds : List D) : consG t u r (d :: ds) = (t r d).bind fun r1 => u r1 ds := (rfl)
theorem tupG_a (n : Nat) (t : GMs) (r : Rho) (ds : List D) : tupG n t r (.tuple ds) = guard' (decide (ds.length = n)) fun _ => t r ds := by
  unfold tupG guard'
  simp only [decide_eq_true_eq]
/-! statements -/
def seqK (g : SM) : Out → Option Out
  | .nx r1 => g r1
  | o => some o
theorem seqS_a (f g : SM) (r : Rho) : seqS f g r = (f r).bind (seqK g) := by
  unfold seqS
  cases f r with
  | none => rfl
  | some o => cases o <;> rfl
theorem seqK_nx (g : SM) (r : Rho) : seqK g (.nx r) = g r := (rfl)
theorem seqK_rt (g : SM) (d : D) (r : Rho) : seqK g (.rt d r) = some (.rt d r) := (rfl)
theorem seqK_ct (g : SM) (r : Rho) : seqK g (.ct r) = some (.ct r) := (rfl)
theorem skipM_a (r : Rho) : skipM r = some (.nx r) := (rfl)
theorem asgM_a (i : Nat) (f : EM) (r : Rho) : asgM i f r = (f r).map fun p => .nx (p.2.set i (some (.d p.1))) := (rfl)
theorem asgG_a (g : GM) (f : EM) (r : Rho) : asgG g f r = (f r).bind fun p => (g p.2 p.1).map .nx := (rfl)
theorem newM_a (i : Nat) (f : AM) (r : Rho) : newM i f r = (f r).map fun p => .nx (p.2.set i (some (.l false p.1))) := (rfl)
theorem asgLM_a (i : Nat) (f : AM) (r : Rho) : asgLM i f r = (f r).map fun p => .nx (p.2.set i (some (.d (.list p.1)))) := (rfl)
theorem retM_a (f : EM) (r : Rho) : retM f r = (f r).map fun p => .rt p.1 p.2 := (rfl)
theorem exprM_a (f : EM) (r : Rho) : exprM f r = (f r).map fun p => .nx p.2 := (rfl)
theorem ifM_a (t : TM) (f g : SM) (r : Rho) : ifM t f g r = (t r).bind fun p => cnd p.1 (fun _ => f p.2) (fun _ => g p.2) := (rfl)
theorem forM_a (it : AM) (g : GM) (f : SM) (r : Rho) : forM it g f r = (it r).bind fun p => forL g f p.1 p.2 := (rfl)
def finF : Out → Option D
  | .rt d _ => some d
  | .nx _ => some .none
  | _ => none
theorem runF_a (N : List Str) (b : SM) (ds : List D) : runF N b ds = (b (startD N ds)).bind finF := by
  unfold runF
  cases b (startD N ds) with
  | none => rfl
  | some o => cases o <;> rfl
theorem finF_rt (d : D) (r : Rho) : finF (.rt d r) = some d := (rfl)
theorem finF_nx (r : Rho) : finF (.nx r) = some .none := (rfl)
def finR (j : Nat) : Out → Option (D × List D)
  | .rt d r => (gt r j).bind fun s => s.lis.bind fun x => guard' x.1 fun _ => some (d, x.2)
  | .nx r => (gt r j).bind fun s => s.lis.bind fun x => guard' x.1 fun _ => some (.none, x.2)
  | _ => none
theorem endR_a (j : Nat) (r : Rho) (d : D) : (endR j r).map (fun ys => (d, ys)) = (gt r j).bind fun s => s.lis.bind fun x => guard' x.1 fun _ => some (d, x.2) := by
  unfold endR gt
  cases r[j]? with
  | none => rfl
  | some o => cases o with
    | none => rfl
    | some s => cases s with
      | l b xs => cases b <;> rfl
      | _ => rfl
theorem runR_a (N : List Str) (j : Nat) (b : SM) (ds xs : List D) : runR N j b ds xs = (b (startR N j ds xs)).bind (finR j) := by
  unfold runR
  cases b (startR N j ds xs) with
  | none => rfl
  | some o => cases o <;> first | rfl | exact endR_a _ _ _
theorem finR_rt (j : Nat) (d : D) (r : Rho) : finR j (.rt d r) = (gt r j).bind fun s => s.lis.bind fun x => guard' x.1 fun _ => some (d, x.2) := (rfl)
theorem finR_nx (j : Nat) (r : Rho) : finR j (.nx r) = (gt r j).bind fun s => s.lis.bind fun x => guard' x.1 fun _ => some (.none, x.2) := (rfl)
/-! data -/
theorem szOk_of {n : Nat} (h : n ≤ 1000000) : szOk n = true := decide_eq_true h
theorem sz_0 : szOk 0 = true := by decide
theorem sz_1 : szOk 1 = true := by decide
theorem sz_2 : szOk 2 = true := by decide
theorem sz_3 : szOk 3 = true := by decide
theorem sz_4 : szOk 4 = true := by decide
theorem sz_5 : szOk 5 = true := by decide
theorem sz_6 : szOk 6 = true := by decide
theorem sz_7 : szOk 7 = true := by decide
theorem sz_8 : szOk 8 = true := by decide
theorem sz_9 : szOk 9 = true := by decide
theorem sz_10 : szOk 10 = true := by decide
theorem sz_11 : szOk 11 = true := by decide
theorem sz_12 : szOk 12 = true := by decide
theorem sz_13 : szOk 13 = true := by decide
theorem sz_14 : szOk 14 = true := by decide
theorem sz_15 : szOk 15 = true := by decide
theorem sz_16 : szOk 16 = true := by decide
theorem sz_17 : szOk 17 = true := by decide
theorem sz_18 : szOk 18 = true := by decide
theorem sz_19 : szOk 19 = true := by decide
theorem sz_20 : szOk 20 = true := by decide
theorem sz_21 : szOk 21 = true := by decide
theorem sz_22 : szOk 22 = true := by decide
theorem sz_23 : szOk 23 = true := by decide
theorem sz_24 : szOk 24 = true := by decide
theorem sz_25 : szOk 25 = true := by decide
theorem sz_26 : szOk 26 = true := by decide
theorem sz_27 : szOk 27 = true := by decide
theorem sz_28 : szOk 28 = true := by decide
theorem sz_29 : szOk 29 = true := by decide
theorem sz_30 : szOk 30 = true := by decide
theorem nc_0 : ((0 : Nat) : Int) = 0 := (rfl)
theorem nc_1 : ((1 : Nat) : Int) = 1 := (rfl)
theorem nc_2 : ((2 : Nat) : Int) = 2 := (rfl)
theorem nc_3 : ((3 : Nat) : Int) = 3 := (rfl)
theorem nc_4 : ((4 : Nat) : Int) = 4 := (rfl)
theorem nc_5 : ((5 : Nat) : Int) = 5 := (rfl)
theorem nc_6 : ((6 : Nat) : Int) = 6 := (rfl)
theorem nc_7 : ((7 : Nat) : Int) = 7 := (rfl)
theorem nc_8 : ((8 : Nat) : Int) = 8 := (rfl)
theorem nc_9 : ((9 : Nat) : Int) = 9 := (rfl)
theorem nc_10 : ((10 : Nat) : Int) = 10 := (rfl)
theorem nc_11 : ((11 : Nat) : Int) = 11 := (rfl)
theorem nc_12 : ((12 : Nat) : Int) = 12 := (rfl)
theorem nc_13 : ((13 : Nat) : Int) = 13 := (rfl)
theorem nc_14 : ((14 : Nat) : Int) = 14 := (rfl)
theorem nc_15 : ((15 : Nat) : Int) = 15 := (rfl)
theorem nc_16 : ((16 : Nat) : Int) = 16 := (rfl)
theorem nc_17 : ((17 : Nat) : Int) = 17 := (rfl)
theorem nc_18 : ((18 : Nat) : Int) = 18 := (rfl)
theorem nc_19 : ((19 : Nat) : Int) = 19 := (rfl)
theorem nc_20 : ((20 : Nat) : Int) = 20 := (rfl)
theorem nc_21 : ((21 : Nat) : Int) = 21 := (rfl)
theorem nc_22 : ((22 : Nat) : Int) = 22 := (rfl)
theorem nc_23 : ((23 : Nat) : Int) = 23 := (rfl)
theorem nc_24 : ((24 : Nat) : Int) = 24 := (rfl)
theorem nc_25 : ((25 : Nat) : Int) = 25 := (rfl)
theorem nc_26 : ((26 : Nat) : Int) = 26 := (rfl)
theorem nc_27 : ((27 : Nat) : Int) = 27 := (rfl)
theorem nc_28 : ((28 : Nat) : Int) = 28 := (rfl)
theorem nc_29 : ((29 : Nat) : Int) = 29 := (rfl)
theorem nc_30 : ((30 : Nat) : Int) = 30 := (rfl)
theorem addD_i (i j : Int) : addD (.int i) (.int j) = some (.int (i + j)) := (rfl)
theorem addD_t (xs ys : List D) : addD (.tuple xs) (.tuple ys) = guard' (szOk (xs.length + ys.length)) fun _ => some (.tuple (xs ++ ys)) := (rfl)
theorem addD_l (xs ys : List D) : addD (.list xs) (.list ys) = guard' (szOk (xs.length + ys.length)) fun _ => some (.list (xs ++ ys)) := (rfl)
theorem subD_i (i j : Int) : subD (.int i) (.int j) = some (.int (i - j)) := (rfl)
theorem modD_i (i j : Int) : modD (.int i) (.int j) = guard' (decide (0 < j)) fun _ => some (.int (i % j)) := by simp [modD, guard']
theorem fdivD_i (i j : Int) : fdivD (.int i) (.int j) = guard' (decide (0 < j ∧ j < 1073741824)) fun _ => some (.int (i / j)) := by simp [fdivD, guard']
def mulOk (i j : Int) : Bool := decide ((-(2 ^ 64) < i ∧ i < 2 ^ 64) ∨ (-(2 ^ 64) < j ∧ j < 2 ^ 64))
theorem mulD_i (i j : Int) : mulD (.int i) (.int j) = guard' (mulOk i j) fun _ => some (.int (i * j)) := by simp [mulD, guard', mulOk]
theorem lenD_t (x : List D) : lenD (.tuple x) = some (.int x.length) := (rfl)
theorem lenD_l (x : List D) : lenD (.list x) = some (.int x.length) := (rfl)
theorem tupleD_t (x : List D) : tupleD (.tuple x) = some (.tuple x) := (rfl)
theorem tupleD_l (x : List D) : tupleD (.list x) = some (.tuple x) := (rfl)
theorem listD_t (x : List D) : listD (.tuple x) = some (.list x) := (rfl)
theorem listD_l (x : List D) : listD (.list x) = some (.list x) := (rfl)
theorem truD_i (i : Int) : truD (.int i) = some (i != 0) := (rfl)
theorem truD_b (b : Bool) : truD (.bool b) = some b := (rfl)
theorem truD_n : truD .none = some false := (rfl)
theorem truD_l (x : List D) : truD (.list x) = some (!x.isEmpty) := (rfl)
theorem truD_t (x : List D) : truD (.tuple x) = some (!x.isEmpty) := (rfl)
theorem ixD_t (x : List D) (i : Int) : ixD (.tuple x) (.int i) = atI x i := (rfl)
theorem ixD_l (x : List D) (i : Int) : ixD (.list x) (.int i) = atI x i := (rfl)
theorem negD_i (i : Int) : negD (.int i) = some (.int (-i)) := (rfl)
theorem bD_a (h : D → D → Option Bool) (d e : D) : bD h d e = (h d e).map .bool := (rfl)
theorem ltB_i (i j : Int) : ltB (.int i) (.int j) = some (decide (i < j)) := (rfl)
theorem leB_i (i j : Int) : leB (.int i) (.int j) = some (decide (i ≤ j)) := (rfl)
theorem eqB_i (i j : Int) : eqB (.int i) (.int j) = some (i == j) := (rfl)
theorem neB_i (i j : Int) : neB (.int i) (.int j) = some (!(i == j)) := (rfl)
theorem items_t (x : List D) : itemsOf (.tuple x) = some x := (rfl)
theorem items_l (x : List D) : itemsOf (.list x) = some x := (rfl)
theorem intD_b (b : Bool) : intD (.bool b) = some (.int (if b = true then 1 else 0)) := (rfl)
theorem isNN : isB .none .none = some true := (rfl)
theorem slD_t (x : List D) (l u : Option Int) : slD (.tuple x) l u = some (.tuple (cutD x l u)) := (rfl)
theorem slD_l (x : List D) (l u : Option Int) : slD (.list x) l u = some (.list (cutD x l u)) := (rfl)
theorem rng_ok {i : Int} (h1 : -1000000 ≤ i) (h2 : i ≤ 1000000) : rngOk i = true := by unfold rngOk; simp [h1, h2]
/-! plain steps -/
theorem p_ge0 {α : Type} (a : α) (l : List α) : (a :: l)[0]? = some a := (rfl)
theorem p_geS {α : Type} (a : α) (l : List α) (i : Nat) : (a :: l)[i + 1]? = l[i]? := (rfl)
theorem p_tk0 {α : Type} (l : List α) : l.take 0 = [] := by cases l <;> rfl
theorem p_tkS {α : Type} (a : α) (l : List α) (i : Nat) : (a :: l).take (i + 1) = a :: l.take i := (rfl)
theorem p_tkN {α : Type} (i : Nat) : ([] : List α).take i = [] := by cases i <;> rfl
theorem p_dr0 {α : Type} (l : List α) : l.drop 0 = l := by cases l <;> rfl
theorem p_drS {α : Type} (a : α) (l : List α) (i : Nat) : (a :: l).drop (i + 1) = l.drop i := (rfl)
theorem p_drN {α : Type} (i : Nat) : ([] : List α).drop i = [] := by cases i <;> rfl
theorem p_mpC {α β : Type} (f : α → β) (a : α) (l : List α) : (a :: l).map f = f a :: l.map f := (rfl)
theorem p_mpN {α β : Type} (f : α → β) : ([] : List α).map f = [] := (rfl)
theorem p_apC {α : Type} (a : α) (l m : List α) : a :: l ++ m = a :: (l ++ m) := (rfl)
theorem p_apN {α : Type} (l : List α) : [] ++ l = l := (rfl)
theorem p_lnC {α : Type} (a : α) (l : List α) : (a :: l).length = l.length + 1 := (rfl)
theorem p_lnN {α : Type} : ([] : List α).length = 0 := (rfl)
theorem p_rpS {α : Type} (n : Nat) (a : α) : List.replicate (n + 1) a = a :: List.replicate n a := (rfl)
theorem p_rp0 {α : Type} (a : α) : List.replicate 0 a = [] := (rfl)
theorem p_alC {α : Type} (p : α → Bool) (a : α) (l : List α) : (a :: l).all p = (p a && l.all p) := (rfl)
theorem p_alN {α : Type} (p : α → Bool) : ([] : List α).all p = true := (rfl)
theorem p_gdS {α : Type} (a b : α) : (some a).getD b = a := (rfl)
theorem p_gdN {α : Type} (b : α) : (none : Option α).getD b = b := (rfl)
theorem p_tlS {α : Type} (a : α) : (some a).toList = [a] := (rfl)
theorem p_tlN {α : Type} : (none : Option α).toList = [] := (rfl)
theorem p_ieC {α : Type} (a : α) (l : List α) : (a :: l).isEmpty = false := (rfl)
theorem p_ieN {α : Type} : ([] : List α).isEmpty = true := (rfl)
theorem p_nt : (!true) = false := (rfl)
theorem p_nf : (!false) = true := (rfl)
theorem p_atb (b : Bool) : (true && b) = b := (rfl)
theorem p_afb (b : Bool) : (false && b) = false := (rfl)
theorem p_abt (b : Bool) : (b && true) = b := by cases b <;> rfl
theorem p_abf (b : Bool) : (b && false) = false := by cases b <;> rfl
theorem p_eqS {α : Sort _} (a : α) : (a = a) = True := eq_true rfl
theorem p_dT {h : Decidable True} : @decide True h = true := by simp
theorem p_dF {h : Decidable False} : @decide False h = false := by simp
theorem p_TA (p : Prop) : (True ∧ p) = p := by simp
theorem p_AT (p : Prop) : (p ∧ True) = p := by simp
theorem p_TO (p : Prop) : (True ∨ p) = True := by simp
theorem p_OT (p : Prop) : (p ∨ True) = True := by simp
theorem p_startD (N : List Str) (ds : List D) : startD N ds = ds.map (fun d => some (.d d)) ++ List.replicate (N.length - ds.length) none := (rfl)
theorem p_startR (N : List Str) (j : Nat) (ds : List D) (xs : List D) : startR N j ds xs = (ds.take j).map (fun d => some (.d d)) ++ some (.l true xs) :: ((ds.drop j).map (fun d => some (.d d)) ++ List.replicate (N.length - (ds.length + 1)) none) := (rfl)
end DL
local macro_rules | `(tactic| simp_arith [$xs,*]) => `(tactic| simp only [DL.ob_some, DL.om_some, DL.dat_d, DL.lis_l, DL.dic_m, DL.gt_0, DL.gt_1, DL.gt_2, DL.gt_3, DL.gt_4, DL.gt_5, DL.gt_6, DL.gt_7, DL.gt_b, DL.st_0, DL.st_s, DL.plG_d, DL.plG_n, DL.plainAt_a, DL.varM_a, DL.ownM_a, DL.cM_a, DL.ofL_a, DL.opM_a, DL.unM_a, DL.truM_a, DL.tstM_a, DL.notM_a, DL.cnd_t, DL.cnd_f, DL.andM_a, DL.orM_a, DL.andVM_a, DL.notVM_a, DL.iteM_a, DL.chM_a, DL.nilM_a, DL.consM_a, DL.guard_tt, DL.tupM_a, DL.lstM_a, DL.noM_a, DL.intV_i, DL.someM_a, DL.slM_a, DL.rng1M_a, DL.rng2M_a, DL.zipV_t, DL.zipV_l, DL.zipM_a, DL.seqM_a, DL.callM_a, DL.hereM_a, DL.callRM_a, DL.appM_a, DL.lisV_l, DL.catOwnM_a, DL.newDM_a, DL.putM_a, DL.lenDM_a, DL.sortDM_a, DL.nameG_a, DL.nilG_a, DL.consG_a, DL.tupG_a, DL.seqS_a, DL.seqK_nx, DL.seqK_rt, DL.seqK_ct, DL.skipM_a, DL.asgM_a, DL.asgG_a, DL.newM_a, DL.asgLM_a, DL.retM_a, DL.exprM_a, DL.ifM_a, DL.forM_a, DL.runF_a, DL.finF_rt, DL.finF_nx, DL.runR_a, DL.finR_rt, DL.finR_nx, DL.sz_0, DL.sz_1, DL.sz_2, DL.sz_3, DL.sz_4, DL.sz_5, DL.sz_6, DL.sz_7, DL.sz_8, DL.sz_9, DL.sz_10, DL.sz_11, DL.sz_12, DL.sz_13, DL.sz_14, DL.sz_15, DL.sz_16, DL.sz_17, DL.sz_18, DL.sz_19, DL.sz_20, DL.sz_21, DL.sz_22, DL.sz_23, DL.sz_24, DL.sz_25, DL.sz_26, DL.sz_27, DL.sz_28, DL.sz_29, DL.sz_30, DL.nc_0, DL.nc_1, DL.nc_2, DL.nc_3, DL.nc_4, DL.nc_5, DL.nc_6, DL.nc_7, DL.nc_8, DL.nc_9, DL.nc_10, DL.nc_11, DL.nc_12, DL.nc_13, DL.nc_14, DL.nc_15, DL.nc_16, DL.nc_17, DL.nc_18, DL.nc_19, DL.nc_20, DL.nc_21, DL.nc_22, DL.nc_23, DL.nc_24, DL.nc_25, DL.nc_26, DL.nc_27, DL.nc_28, DL.nc_29, DL.nc_30, DL.addD_i, DL.addD_t, DL.addD_l, DL.subD_i, DL.modD_i, DL.fdivD_i, DL.mulD_i, DL.lenD_t, DL.lenD_l, DL.tupleD_t, DL.tupleD_l, DL.listD_t, DL.listD_l, DL.truD_i, DL.truD_b, DL.truD_n, DL.truD_l, DL.truD_t, DL.ixD_t, DL.ixD_l, DL.negD_i, DL.bD_a, DL.ltB_i, DL.leB_i, DL.eqB_i, DL.neB_i, DL.items_t, DL.items_l, DL.intD_b, DL.isNN, DL.slD_t, DL.slD_l, DL.p_ge0, DL.p_geS, DL.p_tk0, DL.p_tkS, DL.p_tkN, DL.p_dr0, DL.p_drS, DL.p_drN, DL.p_mpC, DL.p_mpN, DL.p_apC, DL.p_apN, DL.p_lnC, DL.p_lnN, DL.p_rpS, DL.p_rp0, DL.p_alC, DL.p_alN, DL.p_gdS, DL.p_gdN, DL.p_tlS, DL.p_tlN, DL.p_ieC, DL.p_ieN, DL.p_nt, DL.p_nf, DL.p_atb, DL.p_afb, DL.p_abt, DL.p_abf, DL.p_eqS, DL.p_dT, DL.p_dF, DL.p_TA, DL.p_AT, DL.p_TO, DL.p_OT, DL.p_startD, DL.p_startR, Nat.reduceAdd, Nat.reduceSub, Nat.reduceMul, Int.reduceLT, Int.reduceLE, Int.reducePow, Int.reduceNeg, Int.reduceAdd, Int.reduceSub, Int.reduceMul, Int.reduceBEq, Int.reduceBNe, Int.reduceToNat, $xs,*])
namespace DL
open PySem L2
theorem atI_lt {α : Type} {xs : List α} {i : Int} (h0 : 0 ≤ i) (h1 : i < xs.length) : ∃ x, atI xs i = some x ∧ xs[i.toNat]? = some x := by
  have hl : i.toNat < xs.length := by omega
  refine ⟨xs[i.toNat], ?_, by simp [hl]⟩
  unfold atI ixN
  rw [if_pos h0, if_pos h1]
  simp [hl]
theorem atI_mem {α : Type} {xs : List α} {i : Int} (h0 : 0 ≤ i) (h1 : i < xs.length) : ∃ x ∈ xs, atI xs i = some x := by
  obtain ⟨x, h, g⟩ := atI_lt h0 h1
  exact ⟨x, List.mem_of_getElem? g, h⟩
theorem atI_map {α β : Type} (f : α → β) (xs : List α) (i : Int) : atI (xs.map f) i = (atI xs i).map f := by
  unfold atI
  rw [List.length_map]
  cases ixN xs.length i <;> simp
theorem sz_small {n : Nat} (h : n < 1000) : szOk n = true := szOk_of (by omega)
theorem mulOk_of {i j : Int} (h1 : -18446744073709551616 < i) (h2 : i < 18446744073709551616) : mulOk i j = true := by
  unfold mulOk
  have e : (2 : Int) ^ 64 = 18446744073709551616 := by decide
  rw [e]
  exact decide_eq_true (.inl ⟨h1, h2⟩)
theorem mulOk_a (j : Int) : mulOk 104729 j = true := mulOk_of (by decide) (by decide)
theorem mulOk_b (x j : Int) : mulOk (x % 4294967291) j = true := mulOk_of (by have := Int.emod_nonneg x (b := 4294967291) (by decide); omega) (by have := Int.emod_lt_of_pos x (b := 4294967291) (by decide); omega)
theorem mulOk_c (x j : Int) : mulOk (x % 4294967279) j = true := mulOk_of (by have := Int.emod_nonneg x (b := 4294967279) (by decide); omega) (by have := Int.emod_lt_of_pos x (b := 4294967279) (by decide); omega)
end DL
namespace GT
/-! plain lists -/
section
variable {α β : Type}
/-- two rows that rise, with the same things, are one -/
theorem sorted_ext (lt : α → α → Prop) (irr : ∀ a, ¬ lt a a) (tr : ∀ a b c, lt a b → lt b c → lt a c) :
    ∀ (xs ys : List α), xs.Pairwise lt → ys.Pairwise lt → (∀ a, a ∈ xs ↔ a ∈ ys) → xs = ys
  | [], [], _, _, _ => rfl
  | [], y :: ys, _, _, h => by have := (h y).mpr (by simp); simp at this
  | x :: xs, [], _, _, h => by have := (h x).mp (by simp); simp at this
  | x :: xs, y :: ys, hx, hy, h => by
    rw [List.pairwise_cons] at hx hy
    have exy : x = y := by
      have h1 := (h x).mp (by simp)
      have h2 := (h y).mpr (by simp)
      rcases List.mem_cons.mp h1 with e | m1
      · exact e
      · rcases List.mem_cons.mp h2 with e | m2
        · exact e.symm
        · exact absurd (tr _ _ _ (hx.1 y m2) (hy.1 x m1)) (irr x)
    subst exy
    congr 1
    refine sorted_ext lt irr tr xs ys hx.2 hy.2 fun a => ⟨fun m => ?_, fun m => ?_⟩
    · rcases List.mem_cons.mp ((h a).mp (List.mem_cons_of_mem _ m)) with e | q
      · subst e; exact absurd (hx.1 a m) (irr a)
      · exact q
    · rcases List.mem_cons.mp ((h a).mpr (List.mem_cons_of_mem _ m)) with e | q
      · subst e; exact absurd (hy.1 a m) (irr a)
      · exact q
theorem sorted_extI (xs ys : List Int) (h1 : xs.Pairwise (· < ·)) (h2 : ys.Pairwise (· < ·)) (h : ∀ a, a ∈ xs ↔ a ∈ ys) : xs = ys :=
  sorted_ext (· < ·) (fun a => Int.lt_irrefl a) (fun a b c => Int.lt_trans) xs ys h1 h2 h
theorem nodup_len_le [DecidableEq α] : ∀ (xs ys : List α), xs.Nodup → (∀ a ∈ xs, a ∈ ys) → xs.length ≤ ys.length
  | [], ys, _, _ => by simp
  | x :: xs, ys, hn, h => by
    rw [List.nodup_cons] at hn
    have h1 := nodup_len_le xs (ys.erase x) hn.2 fun a m => by
      have ne : a ≠ x := fun e => hn.1 (e ▸ m)
      exact (List.mem_erase_of_ne ne).mpr (h a (List.mem_cons_of_mem _ m))
    have h2 := List.length_erase_of_mem (h x (by simp))
    have h3 : 0 < ys.length := List.length_pos_of_mem (h x (by simp))
    simp only [List.length_cons]; omega
theorem nodup_of_lt {lt : α → α → Prop} (irr : ∀ a, ¬ lt a a) {xs : List α} (h : xs.Pairwise lt) : xs.Nodup :=
  List.Pairwise.imp (fun {a b} q (e : a = b) => irr a (by subst e; exact q)) h
end
/-- 0, 1, .., n - 1 -/
def ir (n : Nat) : List Int := (List.range n).map fun (i : Nat) => (i : Int)
theorem mem_ir {n : Nat} {a : Int} : a ∈ ir n ↔ 0 ≤ a ∧ a < n := by
  unfold ir
  simp only [List.mem_map, List.mem_range]
  constructor
  · rintro ⟨i, h, rfl⟩; omega
  · rintro ⟨h1, h2⟩; exact ⟨a.toNat, by omega, by omega⟩
theorem ir_len (n : Nat) : (ir n).length = n := by simp [ir]
theorem ir_sorted (n : Nat) : (ir n).Pairwise (· < ·) := by
  unfold ir
  rw [List.pairwise_map]
  exact List.pairwise_lt_range.imp fun h => by omega
theorem ir_nodup (n : Nat) : (ir n).Nodup := nodup_of_lt (fun a => Int.lt_irrefl a) (ir_sorted n)
/-- sorted ints -/
def sortI (xs : List Int) : List Int := xs.mergeSort fun a b => decide (a ≤ b)
theorem sortI_perm (xs : List Int) : (sortI xs).Perm xs := List.mergeSort_perm xs _
theorem mem_sortI {xs : List Int} {a : Int} : a ∈ sortI xs ↔ a ∈ xs := (sortI_perm xs).mem_iff
theorem sortI_le (xs : List Int) : (sortI xs).Pairwise (· ≤ ·) := by
  have h := List.pairwise_mergeSort (le := fun a b : Int => decide (a ≤ b)) (fun a b c h1 h2 => by simp at *; omega) (fun a b => by simp; omega) xs
  exact h.imp fun q => by simpa using q
theorem sortI_lt {xs : List Int} (h : xs.Nodup) : (sortI xs).Pairwise (· < ·) := by
  have h2 : (sortI xs).Nodup := (sortI_perm xs).nodup_iff.mpr h
  have h1 := sortI_le xs
  exact (List.pairwise_and_iff.mpr ⟨h1, h2⟩).imp fun ⟨a, b⟩ => by omega
/-! nets -/
abbrev Tie := Int × Int
structure Net where
  n : Nat
  ties : List Tie
  rim : List Int
def tlt (a b : Tie) : Prop := a.1 < b.1 ∨ (a.1 = b.1 ∧ a.2 < b.2)
instance : DecidableRel tlt := fun a b => by unfold tlt; exact inferInstance
theorem tlt_tr (a b c : Tie) (h1 : tlt a b) (h2 : tlt b c) : tlt a c := by unfold tlt at *; omega
structure Net.WF (N : Net) : Prop where
  pos : 1 ≤ N.n
  small : N.n ≤ 7
  tie : ∀ t ∈ N.ties, 0 ≤ t.1 ∧ t.1 < t.2 ∧ t.2 < N.n
  up : N.ties.Pairwise tlt
  rimIn : ∀ k ∈ N.rim, 0 ≤ k ∧ k < N.n
  rimUp : N.rim.Pairwise (· < ·)
def pr (a b : Int) : Tie := (min a b, max a b)
theorem pr_comm (a b : Int) : pr a b = pr b a := by unfold pr; rw [Int.min_comm, Int.max_comm]
def adj (N : Net) (a b : Int) : Bool := decide (pr a b ∈ N.ties)
theorem adj_comm (N : Net) (a b : Int) : adj N a b = adj N b a := by unfold adj; rw [pr_comm]
theorem adj_in {N : Net} (w : N.WF) {a b : Int} (h : adj N a b = true) : (0 ≤ a ∧ a < N.n) ∧ (0 ≤ b ∧ b < N.n) ∧ a ≠ b := by
  unfold adj at h
  have := w.tie _ (of_decide_eq_true h)
  unfold pr at this
  simp only at this
  omega
def nb (N : Net) (k : Int) : List Int := (ir N.n).filter fun o => adj N k o
theorem mem_nb {N : Net} {w : N.WF} {a b : Int} : b ∈ nb N a ↔ adj N a b = true := by
  unfold nb
  rw [List.mem_filter, mem_ir]
  exact ⟨fun h => h.2, fun h => ⟨(adj_in w h).2.1, h⟩⟩
/-- ties by their numbers left out -/
def keepF (B : List Int) (ts : List Tie) (i : Nat) : List Tie := ((ts.zipIdx i).filter fun p => !(B.contains (p.2 : Int))).map (·.1)
def without (N : Net) (B : List Int) : Net := { N with ties := keepF B N.ties 0 }
/-! reaching -/
inductive Reach (N : Net) (a : Int) : Int → Prop
  | refl : Reach N a a
  | step {b c : Int} : Reach N a b → adj N b c = true → Reach N a c
theorem Reach.trans {N : Net} {a b c : Int} (h1 : Reach N a b) (h2 : Reach N b c) : Reach N a c := by
  induction h2 with
  | refl => exact h1
  | step _ e ih => exact ih.step e
theorem Reach.head {N : Net} {a b c : Int} (h1 : adj N a b = true) (h2 : Reach N b c) : Reach N a c := (Reach.refl.step h1).trans h2
theorem Reach.symm {N : Net} {a b : Int} (h : Reach N a b) : Reach N b a := by
  induction h with
  | refl => exact .refl
  | step _ e ih => exact Reach.head (by rw [adj_comm]; exact e) ih
theorem Reach.mono {N M : Net} (hs : ∀ a b, adj N a b = true → adj M a b = true) {a b : Int} (h : Reach N a b) : Reach M a b := by
  induction h with
  | refl => exact .refl
  | step _ e ih => exact ih.step (hs _ _ e)
theorem Reach.inn {N : Net} (w : N.WF) {a b : Int} (h : Reach N a b) (ha : 0 ≤ a ∧ a < N.n) : 0 ≤ b ∧ b < N.n := by
  cases h with
  | refl => exact ha
  | step _ e => exact (adj_in w e).2.1
open Classical in
noncomputable def reached (N : Net) (k : Int) : List Int := (ir N.n).filter fun x => decide (Reach N k x)
end GT
namespace GT
/-! rows of ints in order -/
def llt : List Int → List Int → Bool
  | [], [] => false
  | [], _ :: _ => true
  | _ :: _, [] => false
  | x :: xs, y :: ys => if x = y then llt xs ys else decide (x < y)
theorem llt_irr : ∀ a : List Int, ¬ llt a a = true
  | [] => by simp [llt]
  | x :: xs => by simpa [llt] using llt_irr xs
theorem llt_tr : ∀ a b c : List Int, llt a b = true → llt b c = true → llt a c = true
  | [], [], _, h, _ => by simp [llt] at h
  | [], _ :: _, [], _, h => by simp [llt] at h
  | [], _ :: _, _ :: _, _, _ => by simp [llt]
  | _ :: _, [], _, h, _ => by simp [llt] at h
  | _ :: _, _ :: _, [], _, h => by simp [llt] at h
  | x :: xs, y :: ys, z :: zs, h1, h2 => by
    simp only [llt] at *
    by_cases e1 : x = y
    · subst e1
      rw [if_pos rfl] at h1
      by_cases e2 : x = z
      · subst e2; rw [if_pos rfl] at h2 ⊢; exact llt_tr xs ys zs h1 h2
      · rw [if_neg e2] at h2 ⊢; exact h2
    · rw [if_neg e1] at h1
      by_cases e2 : y = z
      · subst e2; rw [if_neg e1]; exact h1
      · rw [if_neg e2] at h2
        simp only [decide_eq_true_eq] at h1 h2
        rw [if_neg (by omega)]
        simp only [decide_eq_true_eq]; omega
theorem llt_total : ∀ a b : List Int, a = b ∨ llt a b = true ∨ llt b a = true
  | [], [] => .inl rfl
  | [], _ :: _ => .inr (.inl rfl)
  | _ :: _, [] => .inr (.inr rfl)
  | x :: xs, y :: ys => by
    simp only [llt]
    by_cases e : x = y
    · subst e
      rw [if_pos rfl, if_pos rfl]
      rcases llt_total xs ys with h | h | h
      · exact .inl (by rw [h])
      · exact .inr (.inl h)
      · exact .inr (.inr h)
    · rw [if_neg e, if_neg (fun h => e h.symm)]
      simp only [decide_eq_true_eq]; omega
def lle (a b : List Int) : Bool := !llt b a
theorem lle_tr (a b c : List Int) (h1 : lle a b = true) (h2 : lle b c = true) : lle a c = true := by
  unfold lle at *
  simp only [Bool.not_eq_true'] at *
  rcases llt_total a b with e | h | h
  · subst e; exact h2
  · rcases llt_total b c with e | g | g
    · subst e; exact h1
    · have := llt_tr _ _ _ h g
      cases q : llt c a with
      | false => rfl
      | true => exact absurd (llt_tr _ _ _ this q) (llt_irr _)
    · rw [g] at h2; cases h2
  · rw [h] at h1; cases h1
theorem lle_total (a b : List Int) : (lle a b || lle b a) = true := by
  unfold lle
  rcases llt_total a b with e | h | h
  · subst e; simp [llt_irr a]
  · have : llt b a = false := by
      cases q : llt b a with
      | false => rfl
      | true => exact absurd (llt_tr _ _ _ h q) (llt_irr _)
    simp [this]
  · have : llt a b = false := by
      cases q : llt a b with
      | false => rfl
      | true => exact absurd (llt_tr _ _ _ h q) (llt_irr _)
    simp [this]
theorem llt_of_lle {a b : List Int} (h : lle a b = true) (n : a ≠ b) : llt a b = true := by
  unfold lle at h
  rcases llt_total a b with e | g | g
  · exact absurd e n
  · exact g
  · rw [g] at h; cases h
/-! routes -/
def linked (N : Net) : List Int → Bool
  | a :: b :: r => adj N a b && linked N (b :: r)
  | _ => true
theorem linked_cons {N : Net} {a b : Int} {r : List Int} : linked N (a :: b :: r) = true ↔ adj N a b = true ∧ linked N (b :: r) = true := by
  simp [linked]
theorem linked_snoc {N : Net} {b : Int} : ∀ {r : List Int} {a : Int}, r.getLast? = some a → (linked N (r ++ [b]) = true ↔ linked N r = true ∧ adj N a b = true)
  | [], a, h => by simp at h
  | [c], a, h => by simp at h; subst h; simp [linked]
  | c :: d :: r, a, h => by
    have h' : (d :: r).getLast? = some a := by simpa [List.getLast?_cons_cons] using h
    have ih := linked_snoc (N := N) (b := b) h'
    simp only [List.cons_append] at ih ⊢
    rw [linked_cons, linked_cons, ih]
    exact and_assoc.symm
end GT
namespace DL
open PySem L2 GT
/-! loops -/
def forK (g : GM) (f : SM) (xs : List D) : Out → Option Out
  | .nx r2 => forL g f xs r2
  | .ct r2 => forL g f xs r2
  | .bk r2 => some (.nx r2)
  | o => some o
theorem forL_cons (g : GM) (f : SM) (x : D) (xs : List D) (r : Rho) : forL g f (x :: xs) r = ((g r x).bind f).bind (forK g f xs) := by
  rw [forL]
  cases g r x with
  | none => rfl
  | some r1 =>
    simp only [ob_some]
    cases f r1 with
    | none => rfl
    | some o => cases o <;> rfl
theorem forK_nx (g : GM) (f : SM) (xs : List D) (r : Rho) : forK g f xs (.nx r) = forL g f xs r := (rfl)
theorem forK_ct (g : GM) (f : SM) (xs : List D) (r : Rho) : forK g f xs (.ct r) = forL g f xs r := (rfl)
theorem forK_rt (g : GM) (f : SM) (xs : List D) (d : D) (r : Rho) : forK g f xs (.rt d r) = some (.rt d r) := (rfl)
theorem forL_inv {A : Type} {g : GM} {f : SM} (enc : A → D) (P : List A → Rho → Prop)
    (step : ∀ a as r, P (a :: as) r → ∃ r2, ((g r (enc a)).bind f = some (.nx r2) ∨ (g r (enc a)).bind f = some (.ct r2)) ∧ P as r2) :
    ∀ as r, P as r → ∃ r', forL g f (as.map enc) r = some (.nx r') ∧ P [] r'
  | [], r, h => ⟨r, rfl, h⟩
  | a :: as, r, h => by
    obtain ⟨r2, h1, h3⟩ := step a as r h
    obtain ⟨r', h4, h5⟩ := forL_inv enc P step as r2 h3
    refine ⟨r', ?_, h5⟩
    rw [List.map_cons, forL_cons]
    rcases h1 with h1 | h1 <;> (rw [h1, ob_some]; exact h4)
/-- one turn of a comprehension -/
def it1 (g : GM) (t : TM) (el : EM) (is : List Nat) (r : Rho) (x : D) : Option (Option D × Rho) :=
  (g r x).bind fun r1 => (t r1).bind fun p => cnd p.1 (fun _ => (el p.2).map fun q => (some q.1, wipeR q.2 is)) (fun _ => some (none, wipeR p.2 is))
theorem compL_cons (g : GM) (t : TM) (el : EM) (is : List Nat) (r : Rho) (x : D) (xs : List D) :
    compL g t el is (x :: xs) r = (it1 g t el is r x).bind fun q => (compL g t el is xs q.2).map fun w => (q.1.toList ++ w.1, w.2) := by
  unfold it1
  rw [compL]
  cases g r x with
  | none => rfl
  | some r1 =>
    simp only [ob_some]
    cases t r1 with
    | none => rfl
    | some p =>
      obtain ⟨b, r2⟩ := p
      cases b with
      | false =>
        simp only [ob_some, cnd_f, Bool.false_eq_true, if_false]
        cases compL g t el is xs (wipeR r2 is) <;> rfl
      | true =>
        simp only [ob_some, cnd_t, if_true]
        cases el r2 with
        | none => rfl
        | some q => rfl
/-- a comprehension that changes nothing -/
theorem compL_pure {A : Type} {g : GM} {t : TM} {el : EM} {is : List Nat} {r : Rho} (enc e : A → D) (p : A → Bool) :
    ∀ as : List A, (∀ a ∈ as, it1 g t el is r (enc a) = some (if p a = true then some (e a) else none, r)) →
    compL g t el is (as.map enc) r = some ((as.filter p).map e, r)
  | [], _ => rfl
  | a :: as, h => by
    have h1 := h a (by simp)
    have ih := compL_pure enc e p as fun b m => h b (List.mem_cons_of_mem _ m)
    rw [List.map_cons, compL_cons, h1, ob_some, ih]
    cases q : p a with
    | false => rw [List.filter_cons_of_neg (by simp [q])]; rfl
    | true => rw [List.filter_cons_of_pos (by simp [q])]; rfl
theorem compL_map {A : Type} {g : GM} {el : EM} {is : List Nat} {r : Rho} (enc e : A → D) (as : List A) (h : ∀ a ∈ as, it1 g yesM el is r (enc a) = some (some (e a), r)) :
    compL g yesM el is (as.map enc) r = some (as.map e, r) := by
  have := compL_pure (g := g) (t := yesM) (el := el) (is := is) (r := r) enc e (fun _ => true) as fun a m => by rw [h a m]; rfl
  rwa [List.filter_eq_self.mpr (by simp)] at this
theorem yesM_a (r : Rho) : yesM r = some (true, r) := (rfl)
theorem it1_a (g : GM) (t : TM) (el : EM) (is : List Nat) (r : Rho) (x : D) : it1 g t el is r x =
  (g r x).bind fun r1 => (t r1).bind fun p => cnd p.1 (fun _ => (el p.2).map fun q => (some q.1, wipeR q.2 is)) (fun _ => some (none, wipeR p.2 is)) := (rfl)
theorem compM_a (is : List Nat) (it : AM) (g : GM) (t : TM) (el : EM) (r : Rho) : compM is it g t el r = (it r).bind fun p => guard' (plainAt p.2 is && szOk p.1.length) fun _ => (compL g t el is p.1 (wipeR p.2 is)).map fun w => (w.1, restR w.2 p.2 is) := (rfl)
theorem wipeR_c (r : Rho) (i : Nat) (is : List Nat) : wipeR r (i :: is) = (wipeR r is).set i none := (rfl)
theorem wipeR_n (r : Rho) : wipeR r [] = r := (rfl)
theorem restR_c (r r1 : Rho) (i : Nat) (is : List Nat) : restR r r1 (i :: is) = (restR r r1 is).set i (r1[i]?.getD none) := (rfl)
theorem restR_n (r r1 : Rho) : restR r r1 [] = r := (rfl)
/-! the kinds of data -/
abbrev I (n : Int) : D := .int n
abbrev TI (xs : List Int) : D := .tuple (xs.map .int)
abbrev encT (t : Tie) : D := .tuple [.int t.1, .int t.2]
def encN (N : Net) : D := .tuple [.int N.n, .tuple (N.ties.map encT), TI N.rim]
theorem rngL_ir (n : Nat) : rngL 0 (n : Int) = (ir n).map .int := by
  unfold rngL ir
  simp [List.map_map]
theorem rngL_eq (a b : Int) : rngL a b = ((List.range (b - a).toNat).map fun (i : Nat) => a + (i : Int)).map .int := by
  unfold rngL
  simp [List.map_map]
theorem mem_rg {a b x : Int} : x ∈ ((List.range (b - a).toNat).map fun (i : Nat) => a + (i : Int)) ↔ a ≤ x ∧ x < b := by
  simp only [List.mem_map, List.mem_range]
  constructor
  · rintro ⟨i, h, rfl⟩; omega
  · rintro ⟨h1, h2⟩; exact ⟨(x - a).toNat, by omega, by omega⟩
end DL
local macro_rules | `(tactic| simp_arith [$xs,*]) => `(tactic| simp only [DL.ob_some, DL.om_some, DL.dat_d, DL.lis_l, DL.dic_m, DL.gt_0, DL.gt_1, DL.gt_2, DL.gt_3, DL.gt_4, DL.gt_5, DL.gt_6, DL.gt_7, DL.gt_b, DL.st_0, DL.st_s, DL.plG_d, DL.plG_n, DL.plainAt_a, DL.varM_a, DL.ownM_a, DL.cM_a, DL.ofL_a, DL.opM_a, DL.unM_a, DL.truM_a, DL.tstM_a, DL.notM_a, DL.cnd_t, DL.cnd_f, DL.andM_a, DL.orM_a, DL.andVM_a, DL.notVM_a, DL.iteM_a, DL.chM_a, DL.nilM_a, DL.consM_a, DL.guard_tt, DL.tupM_a, DL.lstM_a, DL.noM_a, DL.intV_i, DL.someM_a, DL.slM_a, DL.rng1M_a, DL.rng2M_a, DL.zipV_t, DL.zipV_l, DL.zipM_a, DL.seqM_a, DL.callM_a, DL.hereM_a, DL.callRM_a, DL.appM_a, DL.lisV_l, DL.catOwnM_a, DL.newDM_a, DL.putM_a, DL.lenDM_a, DL.sortDM_a, DL.nameG_a, DL.nilG_a, DL.consG_a, DL.tupG_a, DL.seqS_a, DL.seqK_nx, DL.seqK_rt, DL.seqK_ct, DL.skipM_a, DL.asgM_a, DL.asgG_a, DL.newM_a, DL.asgLM_a, DL.retM_a, DL.exprM_a, DL.ifM_a, DL.forM_a, DL.runF_a, DL.finF_rt, DL.finF_nx, DL.runR_a, DL.finR_rt, DL.finR_nx, DL.sz_0, DL.sz_1, DL.sz_2, DL.sz_3, DL.sz_4, DL.sz_5, DL.sz_6, DL.sz_7, DL.sz_8, DL.sz_9, DL.sz_10, DL.sz_11, DL.sz_12, DL.sz_13, DL.sz_14, DL.sz_15, DL.sz_16, DL.sz_17, DL.sz_18, DL.sz_19, DL.sz_20, DL.sz_21, DL.sz_22, DL.sz_23, DL.sz_24, DL.sz_25, DL.sz_26, DL.sz_27, DL.sz_28, DL.sz_29, DL.sz_30, DL.nc_0, DL.nc_1, DL.nc_2, DL.nc_3, DL.nc_4, DL.nc_5, DL.nc_6, DL.nc_7, DL.nc_8, DL.nc_9, DL.nc_10, DL.nc_11, DL.nc_12, DL.nc_13, DL.nc_14, DL.nc_15, DL.nc_16, DL.nc_17, DL.nc_18, DL.nc_19, DL.nc_20, DL.nc_21, DL.nc_22, DL.nc_23, DL.nc_24, DL.nc_25, DL.nc_26, DL.nc_27, DL.nc_28, DL.nc_29, DL.nc_30, DL.addD_i, DL.addD_t, DL.addD_l, DL.subD_i, DL.modD_i, DL.fdivD_i, DL.mulD_i, DL.lenD_t, DL.lenD_l, DL.tupleD_t, DL.tupleD_l, DL.listD_t, DL.listD_l, DL.truD_i, DL.truD_b, DL.truD_n, DL.truD_l, DL.truD_t, DL.ixD_t, DL.ixD_l, DL.negD_i, DL.bD_a, DL.ltB_i, DL.leB_i, DL.eqB_i, DL.neB_i, DL.items_t, DL.items_l, DL.intD_b, DL.isNN, DL.slD_t, DL.slD_l, DL.p_ge0, DL.p_geS, DL.p_tk0, DL.p_tkS, DL.p_tkN, DL.p_dr0, DL.p_drS, DL.p_drN, DL.p_mpC, DL.p_mpN, DL.p_apC, DL.p_apN, DL.p_lnC, DL.p_lnN, DL.p_rpS, DL.p_rp0, DL.p_alC, DL.p_alN, DL.p_gdS, DL.p_gdN, DL.p_tlS, DL.p_tlN, DL.p_ieC, DL.p_ieN, DL.p_nt, DL.p_nf, DL.p_atb, DL.p_afb, DL.p_abt, DL.p_abf, DL.p_eqS, DL.p_dT, DL.p_dF, DL.p_TA, DL.p_AT, DL.p_TO, DL.p_OT, DL.p_startD, DL.p_startR, DL.forK_nx, DL.forK_ct, DL.forK_rt, DL.yesM_a, DL.it1_a, DL.compM_a, DL.wipeR_c, DL.wipeR_n, DL.restR_c, DL.restR_n, Nat.reduceAdd, Nat.reduceSub, Nat.reduceMul, Int.reduceLT, Int.reduceLE, Int.reducePow, Int.reduceNeg, Int.reduceAdd, Int.reduceSub, Int.reduceMul, Int.reduceBEq, Int.reduceBNe, Int.reduceToNat, $xs,*])
namespace DL
open PySem L2 GT PySem.W
/-! order of rows of ints -/
theorem alikeAll_ints : ∀ a b : List Int, alikeAll (a.map PyData.int) (b.map PyData.int) = true
  | [], _ => by simp [alikeAll]
  | _ :: _, [] => by simp [alikeAll]
  | x :: a, y :: b => by simp [alikeAll, alike, alikeAll_ints a b]
theorem alike_TI (a b : List Int) : alike (TI a) (TI b) = true := by simp [alike, alikeAll_ints]
theorem dataLt_TI : ∀ a b : List Int, dataLt (TI a) (TI b) = llt a b
  | [], [] => by decide
  | [], y :: b => by
    rw [dataLt_tuple, List.map_cons, toks_all_cons]; rfl
  | x :: a, [] => by
    rw [dataLt_tuple, List.map_cons, toks_all_cons]; rfl
  | x :: a, y :: b => by
    rw [dataLt_tuple]
    simp only [List.map_cons, llt]
    by_cases e : x = y
    · subst e
      rw [if_pos rfl, dataLt_all_yes (x := PyData.int x) (y := PyData.int x) (by simp [alike]) (by simp [PyData.eqv]), ← dataLt_tuple]
      exact dataLt_TI a b
    · rw [if_neg e, dataLt_all_no (x := PyData.int x) (y := PyData.int y) (by simp [alike]) (by simp [PyData.eqv, e]), dataLt_int]
theorem dataLe_TI (a b : List Int) : dataLe false id (TI a) (TI b) = lle a b := by
  rw [dataLe_eq]
  simp only [cond_false, id]
  rw [dataLt_TI]; rfl
theorem depth_ints : ∀ xs : List Int, PyData.depthAll (xs.map PyData.int) ≤ 1
  | [] => by simp [PyData.depthAll]
  | x :: xs => by have := depth_ints xs; simp [PyData.depthAll, PyData.depth]; omega
theorem sortOk_TI {xs : List (List Int)} (h : xs.length ≤ 1000000) (hn : ∀ x ∈ xs, x ≠ []) : sortOk (xs.map TI) = true := by
  unfold sortOk
  have h1 : (xs.map TI).all (fun d => (xs.map TI).all fun e => alike d e) = true := by simp [List.all_eq_true, alike_TI]
  have h2 : (xs.map TI).all tupCons = true := by
    simp only [List.all_eq_true, List.mem_map]
    rintro d ⟨x, m, rfl⟩
    cases x with
    | nil => exact absurd rfl (hn _ m)
    | cons a x => rfl
  have h3 : (xs.map TI).all (fun d => decide (d.depth ≤ 60)) = true := by
    simp only [List.all_eq_true, List.mem_map, decide_eq_true_eq]
    rintro d ⟨x, m, rfl⟩
    have := depth_ints x
    simp only [PyData.depth]; omega
  rw [h1, h2, h3, List.length_map, szOk_of h]
  simp
/-! ties -/
theorem llt_pair (a b : Tie) : llt [a.1, a.2] [b.1, b.2] = true ↔ tlt a b := by
  unfold tlt
  simp only [llt]
  by_cases e : a.1 = b.1
  · rw [if_pos e]
    by_cases e2 : a.2 = b.2
    · simp [e2, e]
    · simp only [if_neg e2, decide_eq_true_eq]; omega
  · simp only [if_neg e, decide_eq_true_eq]; omega
def tle (a b : Tie) : Bool := lle [a.1, a.2] [b.1, b.2]
def sortT (xs : List Tie) : List Tie := xs.mergeSort tle
theorem sortL_T (xs : List Tie) : sortL (xs.map encT) = (sortT xs).map encT := by
  unfold sortL sortT
  exact (List.map_mergeSort (fun a _ b _ => (dataLe_TI [a.1, a.2] [b.1, b.2]).symm)).symm
theorem sortT_perm (xs : List Tie) : (sortT xs).Perm xs := List.mergeSort_perm xs _
theorem mem_sortT {xs : List Tie} {a : Tie} : a ∈ sortT xs ↔ a ∈ xs := (sortT_perm xs).mem_iff
theorem sortT_lt {xs : List Tie} (h : xs.Nodup) : (sortT xs).Pairwise tlt := by
  have h2 : (sortT xs).Nodup := (sortT_perm xs).nodup_iff.mpr h
  have h1 := List.pairwise_mergeSort (le := tle) (fun a b c => lle_tr _ _ _) (fun a b => lle_total _ _) xs
  exact (List.pairwise_and_iff.mpr ⟨h1, h2⟩).imp fun {a b} ⟨p, q⟩ => (llt_pair a b).mp (llt_of_lle p fun e => q (by
    obtain ⟨a1, a2⟩ := a; obtain ⟨b1, b2⟩ := b; simpa using e))
theorem sortOk_T {xs : List Tie} (h : xs.length ≤ 1000000) : sortOk (xs.map encT) = true := by
  have e : xs.map encT = (xs.map fun t => [t.1, t.2]).map TI := by simp [List.map_map]
  rw [e]
  exact sortOk_TI (by simpa using h) fun x m => by
    obtain ⟨t, _, rfl⟩ := List.mem_map.mp m
    simp
/-! dicts with ties as keys -/
def dkT (t : Tie) : DK := .inr [.inl t.1, .inl t.2]
theorem dkOf_T (t : Tie) : dkOf true (encT t) = some (dkT t) := rfl
theorem dkT_inj {a b : Tie} (h : dkT a = dkT b) : a = b := by
  unfold dkT at h
  obtain ⟨a1, a2⟩ := a; obtain ⟨b1, b2⟩ := b
  simpa using h
def dicT (ks : List Tie) : List (DK × D) := ks.map fun t => (dkT t, .int 0)
theorem dicT_put (ks : List Tie) (t : Tie) : putG (dicT ks) (dkT t) (.int 0) = dicT (if t ∈ ks then ks else ks ++ [t]) := by
  have there : dkT t ∈ (dicT ks).map Prod.fst ↔ t ∈ ks := by
    simp only [dicT, List.map_map, List.mem_map, Function.comp]
    exact ⟨fun ⟨a, m, e⟩ => dkT_inj e ▸ m, fun m => ⟨t, m, rfl⟩⟩
  unfold putG
  by_cases h : t ∈ ks
  · rw [if_pos (there.mpr h), if_pos h]
    simp [dicT, Function.comp_def]
  · rw [if_neg fun q => h (there.mp q), if_neg h]
    simp [dicT]
theorem dicT_keys (ks : List Tie) : (dicT ks).map (fun kv => dkD kv.1) = ks.map encT := by
  unfold dicT; rw [List.map_map]; rfl
theorem dicT_len (ks : List Tie) : (dicT ks).length = ks.length := by unfold dicT; simp
end DL
namespace DL
open PySem L2 GT
theorem gtD_i (i j : Int) : gtD (.int i) (.int j) = some (decide (j < i)) := (rfl)
theorem gtD_T (a b : List Int) : gtD (TI a) (TI b) = some (llt b a) := by
  have h1 := alike_TI a b
  have h2 : decide (PyData.depth (TI a) ≤ 60) = true := by
    have := depth_ints a
    rw [decide_eq_true_eq]
    simp only [PyData.depth]; omega
  show (if (PySem.W.alike (TI a) (TI b) && decide (PyData.depth (TI a) ≤ 60)) = true then some (PySem.W.dataLt (TI b) (TI a)) else none) = _
  rw [h1, h2, Bool.and_self, if_pos rfl]
  exact congrArg some (dataLt_TI b a)
/-! what an evaluation comes to -/
def wp {α : Type} (e : Option α) (Q : α → Prop) : Prop := ∃ a, e = some a ∧ Q a
theorem wp_ok {α : Type} {a : α} {Q : α → Prop} (h : Q a) : wp (some a) Q := ⟨a, rfl, h⟩
theorem wp_mono {α : Type} {e : Option α} {P Q : α → Prop} (h : wp e P) (k : ∀ a, P a → Q a) : wp e Q := by
  obtain ⟨a, e, ha⟩ := h
  exact ⟨a, e, k a ha⟩
theorem wp_val {α : Type} {e : Option α} {a : α} (h : wp e (· = a)) : e = some a := by
  obtain ⟨b, e, rfl⟩ := h; exact e
theorem ob_assoc {α β γ : Type} (x : Option α) (f : α → Option β) (g : β → Option γ) : (x.bind f).bind g = x.bind fun a => (f a).bind g := by cases x <;> rfl
theorem om_bind {α β γ : Type} (x : Option α) (f : α → β) (g : β → Option γ) : (x.map f).bind g = x.bind fun a => g (f a) := by cases x <;> rfl
theorem ob_map {α β γ : Type} (x : Option α) (f : α → Option β) (g : β → γ) : (x.bind f).map g = x.bind fun a => (f a).map g := by cases x <;> rfl
theorem om_map {α β γ : Type} (x : Option α) (f : α → β) (g : β → γ) : (x.map f).map g = x.map fun a => g (f a) := by cases x <;> rfl
theorem cnd_bind {α β : Type} (b : Bool) (x y : Unit → Option α) (f : α → Option β) : (cnd b x y).bind f = cnd b (fun u => (x u).bind f) (fun u => (y u).bind f) := by cases b <;> rfl
theorem cnd_map {α β : Type} (b : Bool) (x y : Unit → Option α) (f : α → β) : (cnd b x y).map f = cnd b (fun u => (x u).map f) (fun u => (y u).map f) := by cases b <;> rfl
theorem guard_bind {α β : Type} (b : Bool) (x : Unit → Option α) (f : α → Option β) : (guard' b x).bind f = guard' b fun u => (x u).bind f := by cases b <;> rfl
theorem guard_map {α β : Type} (b : Bool) (x : Unit → Option α) (f : α → β) : (guard' b x).map f = guard' b fun u => (x u).map f := by cases b <;> rfl
theorem atI_nat {α : Type} (xs : List α) (k : Nat) : atI xs (k : Int) = xs[k]? := by
  by_cases h : k < xs.length
  · obtain ⟨x, h1, h2⟩ := atI_lt (xs := xs) (i := (k : Int)) (by omega) (by omega)
    rw [h1, ← h2]; simp
  · unfold atI ixN
    rw [if_pos (by omega), if_neg (by omega)]
    exact (List.getElem?_eq_none (by omega)).symm
theorem atI_c0 {α : Type} (a : α) (l : List α) : atI (a :: l) 0 = some a := atI_nat (a :: l) 0
theorem atI_c1 {α : Type} (a b : α) (l : List α) : atI (a :: b :: l) 1 = some b := atI_nat (a :: b :: l) 1
theorem atI_c2 {α : Type} (a b c : α) (l : List α) : atI (a :: b :: c :: l) 2 = some c := atI_nat (a :: b :: c :: l) 2
theorem atI_c3 {α : Type} (a b c d : α) (l : List α) : atI (a :: b :: c :: d :: l) 3 = some d := atI_nat (a :: b :: c :: d :: l) 3
/-- a net's parts -/
theorem encN_0 (N : Net) : ixD (encN N) (.int 0) = some (.int N.n) := (rfl)
theorem encN_1 (N : Net) : ixD (encN N) (.int 1) = some (.tuple (N.ties.map encT)) := (rfl)
theorem encN_2 (N : Net) : ixD (encN N) (.int 2) = some (TI N.rim) := (rfl)
theorem encN_u (N : Net) (n : Nat) (t : GMs) (r : Rho) : tupG n t r (encN N) = tupG n t r (.tuple [.int N.n, .tuple (N.ties.map encT), TI N.rim]) := (rfl)
theorem revD_t (l : List D) : revD (.tuple l) = some (.tuple l.reverse) := (rfl)
theorem revD_l (l : List D) : revD (.list l) = some (.list l.reverse) := (rfl)
/-- what a turn leaves -/
def goesOn (P : Rho → Prop) : Out → Prop
  | .nx r => P r
  | .ct r => P r
  | _ => False
theorem wp_for {A β : Type} {g : GM} {f : SM} {as : List A} {r : Rho} {K : Out → Option β} {Q : β → Prop} (enc : A → D) (P : List A → Rho → Prop) (h0 : P as r)
    (step : ∀ a as r, P (a :: as) r → wp ((g r (enc a)).bind f) (goesOn (P as)))
    (k : ∀ r, P [] r → wp (K (.nx r)) Q) : wp ((forL g f (as.map enc) r).bind K) Q := by
  obtain ⟨r', h1, h2⟩ := forL_inv (g := g) (f := f) enc P (fun a as r h => by
    obtain ⟨o, e, ho⟩ := step a as r h
    cases o with
    | nx r2 => exact ⟨r2, .inl e, ho⟩
    | ct r2 => exact ⟨r2, .inr e, ho⟩
    | rt _ _ => exact ho.elim
    | bk _ => exact ho.elim
    | ex _ _ => exact ho.elim) as r h0
  rw [h1]; exact k r' h2
end DL
local macro_rules | `(tactic| simp_arith [$xs,*]) => `(tactic| simp only [DL.ob_some, DL.om_some, DL.dat_d, DL.lis_l, DL.dic_m, DL.gt_0, DL.gt_1, DL.gt_2, DL.gt_3, DL.gt_4, DL.gt_5, DL.gt_6, DL.gt_7, DL.gt_b, DL.st_0, DL.st_s, DL.plG_d, DL.plG_n, DL.plainAt_a, DL.varM_a, DL.ownM_a, DL.cM_a, DL.ofL_a, DL.opM_a, DL.unM_a, DL.truM_a, DL.tstM_a, DL.notM_a, DL.cnd_t, DL.cnd_f, DL.andM_a, DL.orM_a, DL.andVM_a, DL.notVM_a, DL.iteM_a, DL.chM_a, DL.nilM_a, DL.consM_a, DL.guard_tt, DL.tupM_a, DL.lstM_a, DL.noM_a, DL.intV_i, DL.someM_a, DL.slM_a, DL.rng1M_a, DL.rng2M_a, DL.zipV_t, DL.zipV_l, DL.zipM_a, DL.seqM_a, DL.callM_a, DL.hereM_a, DL.callRM_a, DL.appM_a, DL.lisV_l, DL.catOwnM_a, DL.newDM_a, DL.putM_a, DL.lenDM_a, DL.sortDM_a, DL.nameG_a, DL.nilG_a, DL.consG_a, DL.tupG_a, DL.seqS_a, DL.seqK_nx, DL.seqK_rt, DL.seqK_ct, DL.skipM_a, DL.asgM_a, DL.asgG_a, DL.newM_a, DL.asgLM_a, DL.retM_a, DL.exprM_a, DL.ifM_a, DL.forM_a, DL.runF_a, DL.finF_rt, DL.finF_nx, DL.runR_a, DL.finR_rt, DL.finR_nx, DL.sz_0, DL.sz_1, DL.sz_2, DL.sz_3, DL.sz_4, DL.sz_5, DL.sz_6, DL.sz_7, DL.sz_8, DL.sz_9, DL.sz_10, DL.sz_11, DL.sz_12, DL.sz_13, DL.sz_14, DL.sz_15, DL.sz_16, DL.sz_17, DL.sz_18, DL.sz_19, DL.sz_20, DL.sz_21, DL.sz_22, DL.sz_23, DL.sz_24, DL.sz_25, DL.sz_26, DL.sz_27, DL.sz_28, DL.sz_29, DL.sz_30, DL.nc_0, DL.nc_1, DL.nc_2, DL.nc_3, DL.nc_4, DL.nc_5, DL.nc_6, DL.nc_7, DL.nc_8, DL.nc_9, DL.nc_10, DL.nc_11, DL.nc_12, DL.nc_13, DL.nc_14, DL.nc_15, DL.nc_16, DL.nc_17, DL.nc_18, DL.nc_19, DL.nc_20, DL.nc_21, DL.nc_22, DL.nc_23, DL.nc_24, DL.nc_25, DL.nc_26, DL.nc_27, DL.nc_28, DL.nc_29, DL.nc_30, DL.addD_i, DL.addD_t, DL.addD_l, DL.subD_i, DL.modD_i, DL.fdivD_i, DL.mulD_i, DL.lenD_t, DL.lenD_l, DL.tupleD_t, DL.tupleD_l, DL.listD_t, DL.listD_l, DL.truD_i, DL.truD_b, DL.truD_n, DL.truD_l, DL.truD_t, DL.ixD_t, DL.ixD_l, DL.negD_i, DL.bD_a, DL.ltB_i, DL.leB_i, DL.eqB_i, DL.neB_i, DL.items_t, DL.items_l, DL.intD_b, DL.isNN, DL.slD_t, DL.slD_l, DL.p_ge0, DL.p_geS, DL.p_tk0, DL.p_tkS, DL.p_tkN, DL.p_dr0, DL.p_drS, DL.p_drN, DL.p_mpC, DL.p_mpN, DL.p_apC, DL.p_apN, DL.p_lnC, DL.p_lnN, DL.p_rpS, DL.p_rp0, DL.p_alC, DL.p_alN, DL.p_gdS, DL.p_gdN, DL.p_tlS, DL.p_tlN, DL.p_ieC, DL.p_ieN, DL.p_nt, DL.p_nf, DL.p_atb, DL.p_afb, DL.p_abt, DL.p_abf, DL.p_eqS, DL.p_dT, DL.p_dF, DL.p_TA, DL.p_AT, DL.p_TO, DL.p_OT, DL.p_startD, DL.p_startR, DL.forK_nx, DL.forK_ct, DL.forK_rt, DL.yesM_a, DL.it1_a, DL.compM_a, DL.wipeR_c, DL.wipeR_n, DL.restR_c, DL.restR_n, DL.gtD_i, DL.gtD_T, DL.ob_assoc, DL.om_bind, DL.ob_map, DL.om_map, DL.cnd_bind, DL.cnd_map, DL.guard_bind, DL.guard_map, DL.atI_c0, DL.atI_c1, DL.atI_c2, DL.atI_c3, DL.encN_0, DL.encN_1, DL.encN_2, DL.encN_u, DL.revD_t, DL.revD_l, Nat.reduceAdd, Nat.reduceSub, Nat.reduceMul, Int.reduceLT, Int.reduceLE, Int.reducePow, Int.reduceNeg, Int.reduceAdd, Int.reduceSub, Int.reduceMul, Int.reduceBEq, Int.reduceBNe, Int.reduceToNat, $xs,*])
namespace DL
open PySem L2 GT
/-! kinds of data by their encoder -/
structure EncF {α : Type} [DecidableEq α] (k : Nat) (f : α → D) : Prop where
  lay : ∀ a, (f a).canLay0 = true
  dep : ∀ a, (f a).depth ≤ k
  eqv : ∀ a b, PyData.eqv (f a) (f b) = decide (a = b)
theorem layAll {α : Type} [DecidableEq α] {k : Nat} {f : α → D} (h : EncF k f) : ∀ xs : List α, PyData.canLayAll0 (xs.map f) = true
  | [] => rfl
  | a :: xs => by simp [PyData.canLayAll0, h.lay a, layAll h xs]
theorem depAll {α : Type} [DecidableEq α] {k : Nat} {f : α → D} (h : EncF k f) : ∀ xs : List α, PyData.depthAll (xs.map f) ≤ k
  | [] => by simp [PyData.depthAll]
  | a :: xs => by have h1 := h.dep a; have h2 := depAll h xs; simp only [List.map_cons, PyData.depthAll]; omega
theorem eqvAll_map {α : Type} [DecidableEq α] {k : Nat} {f : α → D} (h : EncF k f) : ∀ xs ys : List α, PyData.eqvAll (xs.map f) (ys.map f) = decide (xs = ys)
  | [], [] => by simp [PyData.eqvAll]
  | [], _ :: _ => by simp [PyData.eqvAll]
  | _ :: _, [] => by simp [PyData.eqvAll]
  | a :: xs, b :: ys => by simp only [List.map_cons, PyData.eqvAll, h.eqv, eqvAll_map h xs ys, List.cons.injEq, Bool.decide_and]
theorem encF_int : EncF 1 PyData.int := ⟨fun _ => rfl, fun _ => by simp [PyData.depth], fun a b => by simp only [PyData.eqv]; by_cases h : a = b <;> simp [h]⟩
theorem encF_bool : EncF 1 PyData.bool := ⟨fun _ => rfl, fun _ => by simp [PyData.depth], fun a b => by simp only [PyData.eqv]; cases a <;> cases b <;> rfl⟩
theorem encF_tup {α : Type} [DecidableEq α] {k : Nat} {f : α → D} (h : EncF k f) : EncF (k + 1) (fun xs : List α => PyData.tuple (xs.map f)) :=
  ⟨fun xs => by simpa [PyData.canLay0] using layAll h xs, fun xs => by have := depAll h xs; simp only [PyData.depth]; omega, fun xs ys => by simp only [PyData.eqv]; exact eqvAll_map h xs ys⟩
theorem encF_TI : EncF 2 TI := encF_tup encF_int
theorem encF_T : EncF 2 encT := ⟨fun t => by simp [PyData.canLay0, PyData.canLayAll0], fun t => by simp [PyData.depth, PyData.depthAll], fun a b => by
  obtain ⟨a1, a2⟩ := a; obtain ⟨b1, b2⟩ := b
  simp only [PyData.eqv, PyData.eqvAll, Bool.and_true, Prod.mk.injEq, Bool.decide_and]
  by_cases h1 : a1 = b1 <;> by_cases h2 : a2 = b2 <;> simp [h1, h2]⟩
section
variable {α : Type} [DecidableEq α] {k : Nat} {f : α → D}
theorem sh_mk {d : D} (l : d.canLay0 = true) (h : d.depth ≤ 64) : SeqAt.shaped d = true := by
  unfold SeqAt.shaped
  rw [l, decide_eq_true h]; rfl
theorem sh_one (h : EncF k f) (hk : k ≤ 60) (a : α) : SeqAt.shaped (f a) = true := sh_mk (h.lay a) (Nat.le_trans (h.dep a) (by omega))
theorem eq_one (h : EncF k f) (hk : k ≤ 60) (a b : α) : eqB (f a) (f b) = some (decide (a = b)) := by
  unfold eqB; simp [sh_one h hk, h.eqv]
theorem ne_one (h : EncF k f) (hk : k ≤ 60) (a b : α) : neB (f a) (f b) = some (!decide (a = b)) := by
  unfold neB; simp [sh_one h hk, h.eqv]
end
theorem eq_TI (a b : List Int) : eqB (TI a) (TI b) = some (decide (a = b)) := eq_one encF_TI (by decide) a b
theorem ne_TI (a b : List Int) : neB (TI a) (TI b) = some (!decide (a = b)) := ne_one encF_TI (by decide) a b
theorem enumM_a (f : EM) (r : Rho) : enumM f r = (f r).bind fun p => (itemsOf p.1).map fun ds => (enumL ds, p.2) := (rfl)
theorem exM_a (c : String) (r : Rho) : exM c r = some (.ex c r) := (rfl)
theorem seqK_ex (g : SM) (c : String) (r : Rho) : seqK g (.ex c r) = some (.ex c r) := (rfl)
theorem finF_ex (c : String) (r : Rho) : finF (.ex c r) = none := (rfl)
theorem forK_ex (g : GM) (f : SM) (xs : List D) (c : String) (r : Rho) : forK g f xs (.ex c r) = some (.ex c r) := (rfl)
theorem tri_no {α β : Type} (f : α → Option β) : (none : Option α).bind f = none := (rfl)
theorem trm_no {α β : Type} (f : α → β) : (none : Option α).map f = none := (rfl)
theorem atI_neg1 {α : Type} (xs : List α) : atI xs (-1) = xs.getLast? := by
  cases xs with
  | nil => rfl
  | cons a l =>
    unfold atI ixN
    rw [if_neg (by decide), if_pos (by simp only [List.length_cons]; omega)]
    simp only [Option.bind_some, List.length_cons]
    rw [show ((-1 : Int) + ((l.length + 1 : Nat) : Int)).toNat = l.length by omega, List.getLast?_eq_getElem?]
    simp
theorem enumL_map {α : Type} (f : α → D) (xs : List α) : enumL (xs.map f) = (xs.zipIdx).map fun p => pairD (.int (p.2 : Nat)) (f p.1) := by
  unfold enumL zipL
  apply List.ext_getElem?
  intro i
  simp only [List.getElem?_zipWith, List.getElem?_map, List.getElem?_zipIdx, List.length_map, Nat.zero_add]
  cases h : xs[i]? with
  | none => simp
  | some a =>
    have hl := (List.getElem?_eq_some_iff.mp h).1
    simp [hl]
end DL
local macro_rules | `(tactic| simp_arith [$xs,*]) => `(tactic| simp only [DL.ob_some, DL.om_some, DL.dat_d, DL.lis_l, DL.dic_m, DL.gt_0, DL.gt_1, DL.gt_2, DL.gt_3, DL.gt_4, DL.gt_5, DL.gt_6, DL.gt_7, DL.gt_b, DL.st_0, DL.st_s, DL.plG_d, DL.plG_n, DL.plainAt_a, DL.varM_a, DL.ownM_a, DL.cM_a, DL.ofL_a, DL.opM_a, DL.unM_a, DL.truM_a, DL.tstM_a, DL.notM_a, DL.cnd_t, DL.cnd_f, DL.andM_a, DL.orM_a, DL.andVM_a, DL.notVM_a, DL.iteM_a, DL.chM_a, DL.nilM_a, DL.consM_a, DL.guard_tt, DL.tupM_a, DL.lstM_a, DL.noM_a, DL.intV_i, DL.someM_a, DL.slM_a, DL.rng1M_a, DL.rng2M_a, DL.zipV_t, DL.zipV_l, DL.zipM_a, DL.seqM_a, DL.callM_a, DL.hereM_a, DL.callRM_a, DL.appM_a, DL.lisV_l, DL.catOwnM_a, DL.newDM_a, DL.putM_a, DL.lenDM_a, DL.sortDM_a, DL.nameG_a, DL.nilG_a, DL.consG_a, DL.tupG_a, DL.seqS_a, DL.seqK_nx, DL.seqK_rt, DL.seqK_ct, DL.skipM_a, DL.asgM_a, DL.asgG_a, DL.newM_a, DL.asgLM_a, DL.retM_a, DL.exprM_a, DL.ifM_a, DL.forM_a, DL.runF_a, DL.finF_rt, DL.finF_nx, DL.runR_a, DL.finR_rt, DL.finR_nx, DL.sz_0, DL.sz_1, DL.sz_2, DL.sz_3, DL.sz_4, DL.sz_5, DL.sz_6, DL.sz_7, DL.sz_8, DL.sz_9, DL.sz_10, DL.sz_11, DL.sz_12, DL.sz_13, DL.sz_14, DL.sz_15, DL.sz_16, DL.sz_17, DL.sz_18, DL.sz_19, DL.sz_20, DL.sz_21, DL.sz_22, DL.sz_23, DL.sz_24, DL.sz_25, DL.sz_26, DL.sz_27, DL.sz_28, DL.sz_29, DL.sz_30, DL.nc_0, DL.nc_1, DL.nc_2, DL.nc_3, DL.nc_4, DL.nc_5, DL.nc_6, DL.nc_7, DL.nc_8, DL.nc_9, DL.nc_10, DL.nc_11, DL.nc_12, DL.nc_13, DL.nc_14, DL.nc_15, DL.nc_16, DL.nc_17, DL.nc_18, DL.nc_19, DL.nc_20, DL.nc_21, DL.nc_22, DL.nc_23, DL.nc_24, DL.nc_25, DL.nc_26, DL.nc_27, DL.nc_28, DL.nc_29, DL.nc_30, DL.addD_i, DL.addD_t, DL.addD_l, DL.subD_i, DL.modD_i, DL.fdivD_i, DL.mulD_i, DL.lenD_t, DL.lenD_l, DL.tupleD_t, DL.tupleD_l, DL.listD_t, DL.listD_l, DL.truD_i, DL.truD_b, DL.truD_n, DL.truD_l, DL.truD_t, DL.ixD_t, DL.ixD_l, DL.negD_i, DL.bD_a, DL.ltB_i, DL.leB_i, DL.eqB_i, DL.neB_i, DL.items_t, DL.items_l, DL.intD_b, DL.isNN, DL.slD_t, DL.slD_l, DL.p_ge0, DL.p_geS, DL.p_tk0, DL.p_tkS, DL.p_tkN, DL.p_dr0, DL.p_drS, DL.p_drN, DL.p_mpC, DL.p_mpN, DL.p_apC, DL.p_apN, DL.p_lnC, DL.p_lnN, DL.p_rpS, DL.p_rp0, DL.p_alC, DL.p_alN, DL.p_gdS, DL.p_gdN, DL.p_tlS, DL.p_tlN, DL.p_ieC, DL.p_ieN, DL.p_nt, DL.p_nf, DL.p_atb, DL.p_afb, DL.p_abt, DL.p_abf, DL.p_eqS, DL.p_dT, DL.p_dF, DL.p_TA, DL.p_AT, DL.p_TO, DL.p_OT, DL.p_startD, DL.p_startR, DL.forK_nx, DL.forK_ct, DL.forK_rt, DL.yesM_a, DL.it1_a, DL.compM_a, DL.wipeR_c, DL.wipeR_n, DL.restR_c, DL.restR_n, DL.gtD_i, DL.gtD_T, DL.ob_assoc, DL.om_bind, DL.ob_map, DL.om_map, DL.cnd_bind, DL.cnd_map, DL.guard_bind, DL.guard_map, DL.atI_c0, DL.atI_c1, DL.atI_c2, DL.atI_c3, DL.encN_0, DL.encN_1, DL.encN_2, DL.encN_u, DL.revD_t, DL.revD_l, DL.eq_TI, DL.ne_TI, DL.enumM_a, DL.exM_a, DL.seqK_ex, DL.finF_ex, DL.forK_ex, DL.tri_no, DL.trm_no, DL.atI_neg1, Nat.reduceAdd, Nat.reduceSub, Nat.reduceMul, Int.reduceLT, Int.reduceLE, Int.reducePow, Int.reduceNeg, Int.reduceAdd, Int.reduceSub, Int.reduceMul, Int.reduceBEq, Int.reduceBNe, Int.reduceToNat, $xs,*])
namespace DL
open PySem L2 GT
theorem wipO_nx (is : List Nat) (r : Rho) : wipO is (.nx r) = .nx (wipeR r is) := (rfl)
theorem wipO_ct (is : List Nat) (r : Rho) : wipO is (.ct r) = .ct (wipeR r is) := (rfl)
theorem wipO_bk (is : List Nat) (r : Rho) : wipO is (.bk r) = .bk (wipeR r is) := (rfl)
theorem wipO_rt (is : List Nat) (d : D) (r : Rho) : wipO is (.rt d r) = .rt d r := (rfl)
theorem wipO_ex (is : List Nat) (c : String) (r : Rho) : wipO is (.ex c r) = .ex c r := (rfl)
theorem wipM_a (is : List Nat) (f : SM) (r : Rho) : wipM is f r = (f r).map (wipO is) := (rfl)
theorem preM_a (is : List Nat) (f : SM) (r : Rho) : preM is f r = f (wipeR r is) := (rfl)
theorem two_a (i j : Nat) (r : Rho) (d e : D) : two i j r [d, e] = some (.nx ((r.set i (some (.d d))).set j (some (.d e)))) := (rfl)
theorem finR_ex (j : Nat) (c : String) (r : Rho) : finR j (.ex c r) = none := (rfl)
theorem len_map {α β : Type} (f : α → β) (xs : List α) : (xs.map f).length = xs.length := by simp
theorem len_app {α : Type} (xs ys : List α) : (xs ++ ys).length = xs.length + ys.length := by simp
theorem len_ir (n : Nat) : (ir n).length = n := ir_len n
theorem len_rev {α : Type} (xs : List α) : xs.reverse.length = xs.length := by simp
theorem sz_c {n : Nat} (h : n ≤ 1000000) : szOk n = true := szOk_of h
theorem rng_c {i : Int} (h1 : -1000000 ≤ i) (h2 : i ≤ 1000000) : rngOk i = true := rng_ok h1 h2
theorem rngL_n (n : Nat) : rngL 0 (n : Int) = (ir n).map .int := rngL_ir n
theorem forM_a' (it : AM) (g : GM) (f : SM) (r : Rho) : forM it g f r = (it r).bind fun p => forL g f p.1 p.2 := (rfl)
theorem rev_map {α β : Type} (f : α → β) (xs : List α) : (xs.map f).reverse = xs.reverse.map f := by simp
theorem seqK_bk (g : SM) (r : Rho) : seqK g (.bk r) = some (.bk r) := (rfl)
theorem forK_bk (g : GM) (f : SM) (xs : List D) (r : Rho) : forK g f xs (.bk r) = some (.nx r) := (rfl)
theorem enum_m {α : Type} (f : α → D) (xs : List α) : enumL (xs.map f) = (xs.zipIdx).map fun p => .tuple [.int (p.2 : Nat), f p.1] := enumL_map f xs
theorem emp_map {α β : Type} (f : α → β) (xs : List α) : (xs.map f).isEmpty = xs.isEmpty := by cases xs <;> rfl
/-! steps of an evaluation -/
/-- a loop that changes nothing -/
theorem wp_all {A β : Type} {g : GM} {f : SM} {as : List A} {r : Rho} {K : Out → Option β} {Q : β → Prop} {enc : A → D}
    (step : ∀ a ∈ as, wp ((g r (enc a)).bind f) (goesOn (· = r))) (k : wp (K (.nx r)) Q) : wp ((forL g f (as.map enc) r).bind K) Q := by
  refine wp_for enc (fun bs q => (∀ b ∈ bs, b ∈ as) ∧ q = r) ⟨fun _ h => h, rfl⟩ ?_ ?_
  · rintro a bs q ⟨h, rfl⟩
    refine wp_mono (step a (h a (by simp))) fun o ho => ?_
    cases o with
    | nx r2 => exact ⟨fun b m => h b (List.mem_cons_of_mem _ m), ho⟩
    | ct r2 => exact ⟨fun b m => h b (List.mem_cons_of_mem _ m), ho⟩
    | _ => exact ho.elim
  · rintro q ⟨_, rfl⟩; exact k
/-- a loop that draws: each turn at most c times -/
theorem wp_town {A β : Type} {g : GM} {f : SM} {as : List A} {K : Out → Option β} {Q : β → Prop} {enc : A → D} (st : List D → Rho) (c : Nat) (tw0 : List D)
    (step : ∀ a ∈ as, ∀ tw : List D, tw.length ≤ tw0.length + c * as.length → wp ((g (st tw) (enc a)).bind f) (goesOn fun r => ∃ tw' : List D, tw'.length ≤ tw.length + c ∧ r = st tw'))
    (k : ∀ tw : List D, tw.length ≤ tw0.length + c * as.length → wp (K (.nx (st tw))) Q) : wp ((forL g f (as.map enc) (st tw0)).bind K) Q := by
  refine wp_for enc (fun bs q => (∀ b ∈ bs, b ∈ as) ∧ ∃ tw : List D, tw.length + c * bs.length ≤ tw0.length + c * as.length ∧ q = st tw) ⟨fun _ h => h, tw0, Nat.le_refl _, rfl⟩ ?_ ?_
  · rintro a bs q ⟨h, tw, hl, rfl⟩
    simp only [List.length_cons, Nat.mul_add, Nat.mul_one] at hl
    refine wp_mono (step a (h a (by simp)) tw (by omega)) fun o ho => ?_
    cases o with
    | nx r2 => obtain ⟨tw', h1, h2⟩ := ho; exact ⟨fun b m => h b (List.mem_cons_of_mem _ m), tw', by omega, h2⟩
    | ct r2 => obtain ⟨tw', h1, h2⟩ := ho; exact ⟨fun b m => h b (List.mem_cons_of_mem _ m), tw', by omega, h2⟩
    | _ => exact ho.elim
  · rintro q ⟨_, tw, hl, rfl⟩; exact k tw (by simpa using hl)
/-- a loop whose state is a function of what it has seen -/
theorem wp_fold {A S β : Type} {g : GM} {f : SM} {as : List A} {K : Out → Option β} {Q : β → Prop} {enc : A → D} (st : S → Rho) (up : S → A → S) (s0 : S)
    (step : ∀ pre a post, as = pre ++ a :: post → wp ((g (st (pre.foldl up s0)) (enc a)).bind f) (goesOn (· = st (up (pre.foldl up s0) a))))
    (k : wp (K (.nx (st (as.foldl up s0)))) Q) : wp ((forL g f (as.map enc) (st s0)).bind K) Q := by
  refine wp_for enc (fun bs q => ∃ pre, as = pre ++ bs ∧ q = st (pre.foldl up s0)) ⟨[], rfl, rfl⟩ ?_ ?_
  · rintro a bs q ⟨pre, h, rfl⟩
    refine wp_mono (step pre a bs h) fun o ho => ?_
    cases o with
    | nx r2 => exact ⟨pre ++ [a], by simp [h], by rw [List.foldl_append]; exact ho⟩
    | ct r2 => exact ⟨pre ++ [a], by simp [h], by rw [List.foldl_append]; exact ho⟩
    | _ => exact ho.elim
  · rintro q ⟨pre, h, rfl⟩
    rw [List.append_nil] at h; subst h; exact k
/-- comprehensions -/
theorem wp_cmap {A β : Type} {g : GM} {el : EM} {is : List Nat} {as : List A} {r : Rho} {K : List D × Rho → Option β} {Q : β → Prop} {enc : A → D} (e : A → D)
    (step : ∀ a ∈ as, wp (it1 g yesM el is r (enc a)) (· = (some (e a), r))) (k : wp (K (as.map e, r)) Q) : wp ((compL g yesM el is (as.map enc) r).bind K) Q := by
  rw [compL_map enc e as fun a m => wp_val (step a m)]; exact k
/-- the parts of a row without one -/
theorem cut_from {α : Type} (xs : List α) (k : Nat) : cutD xs (some (k : Int)) none = xs.drop k := by
  unfold cutD
  rw [HT.sIx_none, HT.sIx_nat]
  rcases Nat.le_total k xs.length with h | h
  · rw [Nat.min_eq_left h]
    exact List.take_of_length_le (by simp)
  · rw [Nat.min_eq_right h, List.drop_of_length_le h]
    simp
theorem cut_to {α : Type} (xs : List α) (k : Nat) : cutD xs none (some (k : Int)) = xs.take k := by
  unfold cutD
  rw [HT.sIx_none, HT.sIx_nat, List.drop_zero, Nat.sub_zero]
  rcases Nat.le_total k xs.length with h | h
  · rw [Nat.min_eq_left h]
  · rw [Nat.min_eq_right h, List.take_length, List.take_of_length_le h]
theorem cut_from1 {α : Type} (xs : List α) (k : Nat) : cutD xs (some ((k : Int) + 1)) none = xs.drop (k + 1) := by
  rw [show ((k : Int) + 1) = ((k + 1 : Nat) : Int) by omega]; exact cut_from xs (k + 1)
end DL
local macro_rules | `(tactic| simp_arith [$xs,*]) => `(tactic| simp only [DL.ob_some, DL.om_some, DL.dat_d, DL.lis_l, DL.dic_m, DL.gt_0, DL.gt_1, DL.gt_2, DL.gt_3, DL.gt_4, DL.gt_5, DL.gt_6, DL.gt_7, DL.gt_b, DL.st_0, DL.st_s, DL.plG_d, DL.plG_n, DL.plainAt_a, DL.varM_a, DL.ownM_a, DL.cM_a, DL.ofL_a, DL.opM_a, DL.unM_a, DL.truM_a, DL.tstM_a, DL.notM_a, DL.cnd_t, DL.cnd_f, DL.andM_a, DL.orM_a, DL.andVM_a, DL.notVM_a, DL.iteM_a, DL.chM_a, DL.nilM_a, DL.consM_a, DL.guard_tt, DL.tupM_a, DL.lstM_a, DL.noM_a, DL.intV_i, DL.someM_a, DL.slM_a, DL.rng1M_a, DL.rng2M_a, DL.zipV_t, DL.zipV_l, DL.zipM_a, DL.seqM_a, DL.callM_a, DL.hereM_a, DL.callRM_a, DL.appM_a, DL.lisV_l, DL.catOwnM_a, DL.newDM_a, DL.putM_a, DL.lenDM_a, DL.sortDM_a, DL.nameG_a, DL.nilG_a, DL.consG_a, DL.tupG_a, DL.seqS_a, DL.seqK_nx, DL.seqK_rt, DL.seqK_ct, DL.skipM_a, DL.asgM_a, DL.asgG_a, DL.newM_a, DL.asgLM_a, DL.retM_a, DL.exprM_a, DL.ifM_a, DL.forM_a, DL.runF_a, DL.finF_rt, DL.finF_nx, DL.runR_a, DL.finR_rt, DL.finR_nx, DL.sz_0, DL.sz_1, DL.sz_2, DL.sz_3, DL.sz_4, DL.sz_5, DL.sz_6, DL.sz_7, DL.sz_8, DL.sz_9, DL.sz_10, DL.sz_11, DL.sz_12, DL.sz_13, DL.sz_14, DL.sz_15, DL.sz_16, DL.sz_17, DL.sz_18, DL.sz_19, DL.sz_20, DL.sz_21, DL.sz_22, DL.sz_23, DL.sz_24, DL.sz_25, DL.sz_26, DL.sz_27, DL.sz_28, DL.sz_29, DL.sz_30, DL.nc_0, DL.nc_1, DL.nc_2, DL.nc_3, DL.nc_4, DL.nc_5, DL.nc_6, DL.nc_7, DL.nc_8, DL.nc_9, DL.nc_10, DL.nc_11, DL.nc_12, DL.nc_13, DL.nc_14, DL.nc_15, DL.nc_16, DL.nc_17, DL.nc_18, DL.nc_19, DL.nc_20, DL.nc_21, DL.nc_22, DL.nc_23, DL.nc_24, DL.nc_25, DL.nc_26, DL.nc_27, DL.nc_28, DL.nc_29, DL.nc_30, DL.addD_i, DL.addD_t, DL.addD_l, DL.subD_i, DL.modD_i, DL.fdivD_i, DL.mulD_i, DL.lenD_t, DL.lenD_l, DL.tupleD_t, DL.tupleD_l, DL.listD_t, DL.listD_l, DL.truD_i, DL.truD_b, DL.truD_n, DL.truD_l, DL.truD_t, DL.ixD_t, DL.ixD_l, DL.negD_i, DL.bD_a, DL.ltB_i, DL.leB_i, DL.eqB_i, DL.neB_i, DL.items_t, DL.items_l, DL.intD_b, DL.isNN, DL.slD_t, DL.slD_l, DL.p_ge0, DL.p_geS, DL.p_tk0, DL.p_tkS, DL.p_tkN, DL.p_dr0, DL.p_drS, DL.p_drN, DL.p_mpC, DL.p_mpN, DL.p_apC, DL.p_apN, DL.p_lnC, DL.p_lnN, DL.p_rpS, DL.p_rp0, DL.p_alC, DL.p_alN, DL.p_gdS, DL.p_gdN, DL.p_tlS, DL.p_tlN, DL.p_ieC, DL.p_ieN, DL.p_nt, DL.p_nf, DL.p_atb, DL.p_afb, DL.p_abt, DL.p_abf, DL.p_eqS, DL.p_dT, DL.p_dF, DL.p_TA, DL.p_AT, DL.p_TO, DL.p_OT, DL.p_startD, DL.p_startR, DL.forK_nx, DL.forK_ct, DL.forK_rt, DL.yesM_a, DL.it1_a, DL.compM_a, DL.wipeR_c, DL.wipeR_n, DL.restR_c, DL.restR_n, DL.gtD_i, DL.gtD_T, DL.ob_assoc, DL.om_bind, DL.ob_map, DL.om_map, DL.cnd_bind, DL.cnd_map, DL.guard_bind, DL.guard_map, DL.atI_c0, DL.atI_c1, DL.atI_c2, DL.atI_c3, DL.encN_0, DL.encN_1, DL.encN_2, DL.encN_u, DL.revD_t, DL.revD_l, PG.Sq_written_1_a, PG.Sq_tie_in_1_a, PG.Sq_read_1_a, PG.Sq_read_2_a, PG.Sq_read_3_a, PG.Sq_read_4_a, Nat.reduceAdd, Nat.reduceSub, Nat.reduceMul, Int.reduceLT, Int.reduceLE, Int.reducePow, Int.reduceNeg, Int.reduceAdd, Int.reduceSub, Int.reduceMul, Int.reduceBEq, Int.reduceBNe, Int.reduceToNat, $xs,*])
namespace DL
open PySem L2 GT
def wholeD (d : D) (lo hi : Int) : Bool := match d with
  | .int i => decide (lo ≤ i) && decide (i ≤ hi)
  | _ => false
theorem isi_int (d : D) : isiD .int d = some (.bool (match d with | .int _ => true | .bool _ => true | _ => false)) := by cases d <;> rfl
theorem isi_bool (d : D) : isiD .bool d = some (.bool (match d with | .bool _ => true | _ => false)) := by cases d <;> rfl
theorem isi_tuple (d : D) : isiD .tuple d = some (.bool (match d with | .tuple _ => true | _ => false)) := by cases d <;> rfl
theorem isi_str (d : D) : isiD .str d = some (.bool (match d with | .str _ => true | _ => false)) := by cases d <;> rfl
theorem cut_init {α : Type} (xs : List α) : cutD xs none (some (-1)) = xs.dropLast := by
  unfold cutD
  have e : HT.sIx xs.length xs.length (some (-1)) = xs.length - 1 := by
    show (if (-1 : Int) < 0 then ((-1 : Int) + (xs.length : Int)).toNat else min (-1 : Int).toNat xs.length) = _
    rw [if_pos (by decide)]; omega
  rw [e, HT.sIx_none, List.drop_zero, Nat.sub_zero, List.dropLast_eq_take]
theorem cut_tail {α : Type} (xs : List α) : cutD xs (some 1) none = xs.tail := by
  unfold cutD
  have e : HT.sIx xs.length 0 (some 1) = min 1 xs.length := HT.sIx_nat xs.length 0 1
  rw [e, HT.sIx_none]
  cases xs with
  | nil => rfl
  | cons x xs => simp
/-- neighbours rise -/
def upB {α : Type} (lt : α → α → Bool) : List α → Bool
  | a :: b :: r => lt a b && upB lt (b :: r)
  | _ => true
theorem upB_zip {α : Type} (lt : α → α → Bool) : ∀ xs : List α, ((xs.dropLast.zip xs.tail).all fun p => lt p.1 p.2) = upB lt xs
  | [] => rfl
  | [_] => rfl
  | a :: b :: r => by
    have ih := upB_zip lt (b :: r)
    simp only [List.dropLast_cons_cons, List.tail_cons, List.zip_cons_cons, List.all_cons, upB] at ih ⊢
    rw [ih]
theorem zipL_enc {α : Type} (enc : α → D) (xs ys : List α) : zipL (xs.map enc) (ys.map enc) = (xs.zip ys).map fun p => pairD (enc p.1) (enc p.2) := by
  unfold zipL
  rw [List.zipWith_map, List.zip, List.map_zipWith]
theorem allD_b (bs : List Bool) : allD (.list (bs.map .bool)) = some (.bool (bs.all id)) := by
  show (blsOf (bs.map .bool)).map _ = _
  rw [show blsOf (bs.map PyData.bool) = some bs from by induction bs with
    | nil => rfl
    | cons b bs ih => simp [blsOf, ih]]
  rfl
theorem allD_map {α : Type} (p : α → Bool) (xs : List α) : allD (.list (xs.map fun x => .bool (p x))) = some (.bool (xs.all p)) := by
  have := allD_b (xs.map p)
  rw [List.map_map] at this
  rw [show (fun x => PyData.bool (p x)) = PyData.bool ∘ p from rfl, this]
  simp [List.all_map]
end DL
namespace PG
open PySem L2 DL GT
theorem whole_eval (d : D) (lo hi : Int) : g_is_whole [d, .int lo, .int hi] = some (.bool (wholeD d lo hi)) := by
  unfold g_is_whole b_is_whole N_is_whole
  cases d with
  | int i =>
    simp_arith [isi_int, isi_bool]
    by_cases h : lo ≤ i
    · simp_arith [h, wholeD]
    · simp_arith [h, wholeD]
  | _ => simp_arith [isi_int, isi_bool, wholeD]
theorem rising_eval (lt : D → D → Bool) (xs : List D) (hl : xs.length ≤ 1000) (hlt : ∀ x ∈ xs, ∀ y ∈ xs, ltB x y = some (lt x y)) : g_are_rising [.tuple xs] = some (.bool (upB lt xs)) := by
  unfold g_are_rising b_are_rising N_are_rising
  have hc := compL_map (g := tupG 2 (consG (nameG 1) (consG (nameG 2) nilG))) (el := Ce_are_rising_1) (is := [1, 2]) (r := [some (.d (.tuple xs)), none, none]) (fun p : D × D => pairD p.1 p.2) (fun p => .bool (lt p.1 p.2)) (xs.dropLast.zip xs.tail) (fun p m => by
    have h1 : p.1 ∈ xs := List.dropLast_subset _ (List.of_mem_zip m).1
    have h2 : p.2 ∈ xs := List.mem_of_mem_tail (List.of_mem_zip m).2
    unfold Ce_are_rising_1 pairD
    simp_arith [hlt p.1 h1 p.2 h2])
  have hz : zipL xs.dropLast xs.tail = (xs.dropLast.zip xs.tail).map (fun p : D × D => pairD p.1 p.2) := by
    have := zipL_enc id xs.dropLast xs.tail
    simpa using this
  have hs : szOk (zipL xs.dropLast xs.tail).length = true := szOk_of (by rw [hz]; simp; omega)
  rw [← hz] at hc
  simp_arith [cut_init, cut_tail, hs, hc, allD_map, upB_zip]
end PG
namespace DL
open PySem L2 GT
/-- data not too deep, not too long -/
def nice : Nat → D → Bool
  | _, .none => true
  | _, .bool _ => true
  | _, .int _ => true
  | _, .str x => PyData.strOk x && decide (x.length ≤ 1000)
  | k + 1, .tuple xs => decide (xs.length ≤ 1000) && xs.all (nice k)
  | k + 1, .list xs => decide (xs.length ≤ 1000) && xs.all (nice k)
  | _, _ => false
theorem nice_all {k : Nat} {xs : List D} (ih : ∀ d, nice k d = true → d.canLay0 = true ∧ d.depth ≤ k) : xs.all (nice k) = true → PyData.canLayAll0 xs = true ∧ PyData.depthAll xs ≤ k := by
  induction xs with
  | nil => intro _; simp [PyData.canLayAll0, PyData.depthAll]
  | cons x xs ihx =>
    intro h
    simp only [List.all_cons, Bool.and_eq_true] at h
    have h1 := ih x h.1
    have h2 := ihx h.2
    simp only [PyData.canLayAll0, PyData.depthAll, h1.1, h2.1, Bool.and_self, true_and]
    omega
theorem nice_lay : ∀ (k : Nat) (d : D), nice k d = true → d.canLay0 = true ∧ d.depth ≤ k
  | k, .none, _ => by simp [PyData.canLay0, PyData.depth]
  | k, .bool _, _ => by simp [PyData.canLay0, PyData.depth]
  | k, .int _, _ => by simp [PyData.canLay0, PyData.depth]
  | k, .str x, h => by cases k <;> (simp [nice] at h; simp [PyData.canLay0, PyData.depth, h.1])
  | 0, .tuple xs, h => by simp [nice] at h
  | k + 1, .tuple xs, h => by
    simp only [nice, Bool.and_eq_true] at h
    have := nice_all (nice_lay k) h.2
    simp only [PyData.canLay0, PyData.depth]; exact ⟨this.1, by omega⟩
  | 0, .list xs, h => by simp [nice] at h
  | k + 1, .list xs, h => by
    simp only [nice, Bool.and_eq_true] at h
    have := nice_all (nice_lay k) h.2
    simp only [PyData.canLay0, PyData.depth]; exact ⟨this.1, by omega⟩
  | 0, .dict _, h => by simp [nice] at h
  | _ + 1, .dict _, h => by simp [nice] at h
theorem nice_shaped {k : Nat} {d : D} (h : nice k d = true) (hk : k ≤ 60) : SeqAt.shaped d = true := by
  have := nice_lay k d h
  unfold SeqAt.shaped
  rw [this.1, decide_eq_true (by omega)]; rfl
theorem nice_tup {k : Nat} {xs : List D} (h : nice k (.tuple xs) = true) : xs.length ≤ 1000 ∧ ∃ j, k = j + 1 ∧ ∀ x ∈ xs, nice j x = true := by
  cases k with
  | zero => simp [nice] at h
  | succ j => simp only [nice, Bool.and_eq_true, decide_eq_true_eq, List.all_eq_true] at h; exact ⟨h.1, j, rfl, h.2⟩
theorem eqB_nil {xs : List D} (h : SeqAt.shaped (.tuple xs) = true) : eqB (.tuple xs) (.tuple []) = some xs.isEmpty := by
  unfold eqB
  rw [h]
  cases xs <;> rfl
def tieD (m : Int) (d : D) : Bool := match d with
  | .tuple [.int x, .int y] => (decide (0 ≤ x) && decide (x ≤ m - 1)) && ((decide (0 ≤ y) && decide (y ≤ m - 1)) && decide (x < y))
  | _ => false
def ltD (x y : D) : Bool := (ltB x y).getD false
def netD (d : D) : Bool := match d with
  | .tuple [.int m, .tuple ts, .tuple rim] => (decide (1 ≤ m) && decide (m ≤ 7)) && (decide (ts.length ≤ 9) && (ts.all (tieD m) && (!rim.isEmpty && (rim.all (wholeD · 0 (m - 1)) && (upB ltD ts && upB ltD rim)))))
  | _ => false
theorem tieD_lt {m : Int} {x y : D} (hx : tieD m x = true) (hy : tieD m y = true) : ltB x y = some (ltD x y) := by
  unfold tieD at hx hy
  split at hx
  · split at hy
    · rfl
    · cases hy
  · cases hx
theorem wholeD_lt {a b : Int} {x y : D} (hx : wholeD x a b = true) (hy : wholeD y a b = true) : ltB x y = some (ltD x y) := by
  unfold wholeD at hx hy
  split at hx
  · split at hy
    · rfl
    · cases hy
  · cases hx
theorem len3 {xs : List D} (h : xs.length = 3) : ∃ a b c, xs = [a, b, c] := by
  match xs, h with
  | [a, b, c], _ => exact ⟨a, b, c, rfl⟩
theorem len2 {xs : List D} (h : xs.length = 2) : ∃ a b, xs = [a, b] := by
  match xs, h with
  | [a, b], _ => exact ⟨a, b, rfl⟩
theorem atI_0 {α : Type} (a : α) (xs : List α) : atI (a :: xs) 0 = some a := by
  unfold atI ixN; simp
theorem atI_1 {α : Type} (a b : α) (xs : List α) : atI (a :: b :: xs) 1 = some b := by
  unfold atI ixN
  rw [if_pos (by decide), if_pos (by simp only [List.length_cons]; omega)]; rfl
end DL
namespace PG
open PySem L2 DL GT
theorem tie_eval (d : D) (m : Int) : g_is_tie [d, .int m] = some (.bool (tieD m d)) := by
  unfold g_is_tie b_is_tie N_is_tie
  cases d with
  | tuple ds =>
    by_cases hl : ds.length = 2
    · obtain ⟨a, b, rfl⟩ := len2 hl
      have hc := compL_map (g := nameG 2) (el := Ce_is_tie_1) (is := [2]) (r := [some (.d (.tuple [a, b])), some (.d (.int m)), none]) id (fun x => .bool (wholeD x 0 (m - 1))) [a, b] (fun x _ => by
        unfold Ce_is_tie_1
        simp_arith [whole_eval, id])
      rw [List.map_id] at hc
      simp_arith [isi_tuple, hc, allD_map, atI_0, atI_1]
      have ha : allD (.list [.bool (wholeD a 0 (m - 1)), .bool (wholeD b 0 (m - 1))]) = some (.bool (wholeD a 0 (m - 1) && wholeD b 0 (m - 1))) := by
        have := allD_b [wholeD a 0 (m - 1), wholeD b 0 (m - 1)]
        simpa using this
      simp_arith [ha]
      cases h1 : wholeD a 0 (m - 1) with
      | false =>
        simp_arith [Bool.false_and]
        unfold tieD wholeD at *
        split
        · rename_i e; cases e; simp only at h1; rw [h1]; rfl
        · rfl
      | true =>
        cases h2 : wholeD b 0 (m - 1) with
        | false =>
          simp_arith [Bool.and_false]
          unfold tieD wholeD at *
          split
          · rename_i e; cases e; simp only at h1 h2; rw [h1, h2]; rfl
          · rfl
        | true =>
          simp_arith [Bool.and_true]
          unfold wholeD at h1 h2
          split at h1
          · split at h2
            · simp_arith [atI_0, atI_1, tieD]
              rw [h1, h2]; rfl
            · cases h2
          · cases h1
    · have hb : ((ds.length : Int) == 2) = false := by simp; omega
      simp_arith [isi_tuple, hb]
      unfold tieD
      split
      · rename_i e; cases e; exact absurd rfl hl
      · rfl
  | _ => simp_arith [isi_tuple, tieD]
theorem netD_no {d : D} (h : ∀ m ts rim, d ≠ .tuple [.int m, .tuple ts, .tuple rim]) : netD d = false := by
  unfold netD
  split
  · exact absurd rfl (h _ _ _)
  · rfl
theorem net_eval (d : D) (hn : nice 20 d = true) : g_is_net [d] = some (.bool (netD d)) := by
  unfold g_is_net b_is_net N_is_net
  cases d with
  | tuple ds =>
    by_cases hl : ds.length = 3
    · obtain ⟨a, b, c, rfl⟩ := len3 hl
      cases hw : wholeD a 1 7 with
      | false =>
        simp_arith [isi_tuple, atI_0, whole_eval, hw]
        unfold netD wholeD at *
        split
        · rename_i e; cases e; simp only at hw; rw [hw]; rfl
        · rfl
      | true =>
        obtain ⟨m, rfl⟩ : ∃ m, a = .int m := by
          unfold wholeD at hw; split at hw
          · exact ⟨_, rfl⟩
          · cases hw
        have hw' : (decide (1 ≤ m) && decide (m ≤ 7)) = true := hw
        cases b with
        | tuple ts =>
          by_cases h9 : ts.length ≤ 9
          · have h9' : decide ((9 : Int) < (ts.length : Nat)) = false := decide_eq_false (by omega)
            have hc := compL_map (g := nameG 4) (el := Ce_is_net_1) (is := [4]) (r := [some (.d (.tuple [.int m, .tuple ts, c])), some (.d (.int m)), some (.d (.tuple ts)), some (.d c), none, none]) id (fun x => .bool (tieD m x)) ts (fun x _ => by
              unfold Ce_is_net_1
              simp_arith [tie_eval, id])
            rw [List.map_id] at hc
            have hz : szOk ts.length = true := szOk_of (by omega)
            cases ht : ts.all (tieD m) with
            | false =>
              simp_arith [isi_tuple, atI_0, whole_eval, hw, h9', hz, hc, allD_map, ht]
              unfold netD
              split
              · rename_i e; cases e; rw [ht]; simp
              · rfl
            | true =>
              cases c with
              | tuple rim =>
                obtain ⟨_, j, ej, hsub⟩ := nice_tup hn
                have hr := hsub (.tuple rim) (by simp)
                have hsh := nice_shaped hr (by omega)
                have hlen := (nice_tup hr).1
                have hz2 : szOk rim.length = true := szOk_of (by omega)
                have hc2 := compL_map (g := nameG 5) (el := Ce_is_net_2) (is := [5]) (r := [some (.d (.tuple [.int m, .tuple ts, .tuple rim])), some (.d (.int m)), some (.d (.tuple ts)), some (.d (.tuple rim)), none, none]) id (fun x => .bool (wholeD x 0 (m - 1))) rim (fun x _ => by
                  unfold Ce_is_net_2
                  simp_arith [whole_eval, id])
                rw [List.map_id] at hc2
                cases he : rim.isEmpty with
                | true =>
                  simp_arith [isi_tuple, atI_0, whole_eval, hw, h9', hz, hc, allD_map, ht, eqB_nil hsh, he]
                  unfold netD
                  simp [he]
                | false =>
                  cases hk : rim.all (wholeD · 0 (m - 1)) with
                  | false =>
                    simp_arith [isi_tuple, atI_0, whole_eval, hw, h9', hz, hc, allD_map, ht, eqB_nil hsh, he, hz2, hc2, hk]
                    unfold netD
                    simp [hk]
                  | true =>
                    have u1 := rising_eval ltD ts (by omega) fun x mx y my => tieD_lt (List.all_eq_true.mp ht x mx) (List.all_eq_true.mp ht y my)
                    have u2 := rising_eval ltD rim hlen fun x mx y my => wholeD_lt (List.all_eq_true.mp hk x mx) (List.all_eq_true.mp hk y my)
                    have hN : netD (.tuple [.int m, .tuple ts, .tuple rim]) = (upB ltD ts && upB ltD rim) := by
                      simp only [netD]
                      rw [hw', ht, hk, he, decide_eq_true h9]; rfl
                    rw [hN]
                    cases hu : upB ltD ts with
                    | false =>
                      simp_arith [isi_tuple, atI_0, whole_eval, hw, h9', hz, hc, allD_map, ht, eqB_nil hsh, he, hz2, hc2, hk, u1, u2, hu, Bool.false_and]
                    | true =>
                      simp_arith [isi_tuple, atI_0, whole_eval, hw, h9', hz, hc, allD_map, ht, eqB_nil hsh, he, hz2, hc2, hk, u1, u2, hu, Bool.true_and]
              | _ =>
                simp_arith [isi_tuple, atI_0, whole_eval, hw, h9', hz, hc, allD_map, ht]
                rw [netD_no (by intro _ _ _ e; cases e)]
          · have h9' : decide ((9 : Int) < (ts.length : Nat)) = true := decide_eq_true (by omega)
            simp_arith [isi_tuple, atI_0, whole_eval, hw, h9']
            unfold netD
            split
            · rename_i e; cases e; rw [decide_eq_false h9]; simp
            · rfl
        | _ =>
          simp_arith [isi_tuple, atI_0, whole_eval, hw]
          rw [netD_no (by intro _ _ _ e; cases e)]
    · have hb : ((ds.length : Int) == 3) = false := by simp; omega
      simp_arith [isi_tuple, hb]
      rw [netD_no (by intro _ _ _ e; cases e; exact hl rfl)]
  | _ =>
    simp_arith [isi_tuple]
    rw [netD_no (by intro _ _ _ e; cases e)]
end PG
local macro_rules | `(tactic| simp_arith [$xs,*]) => `(tactic| simp (maxSteps := 2000000) (disch := omega) only [DL.ob_some, DL.om_some, DL.dat_d, DL.lis_l, DL.dic_m, DL.gt_0, DL.gt_1, DL.gt_2, DL.gt_3, DL.gt_4, DL.gt_5, DL.gt_6, DL.gt_7, DL.gt_b, DL.st_0, DL.st_s, DL.plG_d, DL.plG_n, DL.plainAt_a, DL.varM_a, DL.ownM_a, DL.cM_a, DL.ofL_a, DL.opM_a, DL.unM_a, DL.truM_a, DL.tstM_a, DL.notM_a, DL.cnd_t, DL.cnd_f, DL.andM_a, DL.orM_a, DL.andVM_a, DL.notVM_a, DL.iteM_a, DL.chM_a, DL.nilM_a, DL.consM_a, DL.guard_tt, DL.tupM_a, DL.lstM_a, DL.noM_a, DL.intV_i, DL.someM_a, DL.slM_a, DL.rng1M_a, DL.rng2M_a, DL.zipV_t, DL.zipV_l, DL.zipM_a, DL.seqM_a, DL.callM_a, DL.hereM_a, DL.callRM_a, DL.appM_a, DL.lisV_l, DL.catOwnM_a, DL.newDM_a, DL.putM_a, DL.lenDM_a, DL.sortDM_a, DL.nameG_a, DL.nilG_a, DL.consG_a, DL.tupG_a, DL.seqS_a, DL.seqK_nx, DL.seqK_rt, DL.seqK_ct, DL.skipM_a, DL.asgM_a, DL.asgG_a, DL.newM_a, DL.asgLM_a, DL.retM_a, DL.exprM_a, DL.ifM_a, DL.forM_a, DL.runF_a, DL.finF_rt, DL.finF_nx, DL.runR_a, DL.finR_rt, DL.finR_nx, DL.sz_0, DL.sz_1, DL.sz_2, DL.sz_3, DL.sz_4, DL.sz_5, DL.sz_6, DL.sz_7, DL.sz_8, DL.sz_9, DL.sz_10, DL.sz_11, DL.sz_12, DL.sz_13, DL.sz_14, DL.sz_15, DL.sz_16, DL.sz_17, DL.sz_18, DL.sz_19, DL.sz_20, DL.sz_21, DL.sz_22, DL.sz_23, DL.sz_24, DL.sz_25, DL.sz_26, DL.sz_27, DL.sz_28, DL.sz_29, DL.sz_30, DL.nc_0, DL.nc_1, DL.nc_2, DL.nc_3, DL.nc_4, DL.nc_5, DL.nc_6, DL.nc_7, DL.nc_8, DL.nc_9, DL.nc_10, DL.nc_11, DL.nc_12, DL.nc_13, DL.nc_14, DL.nc_15, DL.nc_16, DL.nc_17, DL.nc_18, DL.nc_19, DL.nc_20, DL.nc_21, DL.nc_22, DL.nc_23, DL.nc_24, DL.nc_25, DL.nc_26, DL.nc_27, DL.nc_28, DL.nc_29, DL.nc_30, DL.addD_i, DL.addD_t, DL.addD_l, DL.subD_i, DL.modD_i, DL.fdivD_i, DL.mulD_i, DL.lenD_t, DL.lenD_l, DL.tupleD_t, DL.tupleD_l, DL.listD_t, DL.listD_l, DL.truD_i, DL.truD_b, DL.truD_n, DL.truD_l, DL.truD_t, DL.ixD_t, DL.ixD_l, DL.negD_i, DL.bD_a, DL.ltB_i, DL.leB_i, DL.eqB_i, DL.neB_i, DL.items_t, DL.items_l, DL.intD_b, DL.isNN, DL.slD_t, DL.slD_l, DL.p_ge0, DL.p_geS, DL.p_tk0, DL.p_tkS, DL.p_tkN, DL.p_dr0, DL.p_drS, DL.p_drN, DL.p_mpC, DL.p_mpN, DL.p_apC, DL.p_apN, DL.p_lnC, DL.p_lnN, DL.p_rpS, DL.p_rp0, DL.p_alC, DL.p_alN, DL.p_gdS, DL.p_gdN, DL.p_tlS, DL.p_tlN, DL.p_ieC, DL.p_ieN, DL.p_nt, DL.p_nf, DL.p_atb, DL.p_afb, DL.p_abt, DL.p_abf, DL.p_eqS, DL.p_dT, DL.p_dF, DL.p_TA, DL.p_AT, DL.p_TO, DL.p_OT, DL.p_startD, DL.p_startR, DL.forK_nx, DL.forK_ct, DL.forK_rt, DL.yesM_a, DL.it1_a, DL.compM_a, DL.wipeR_c, DL.wipeR_n, DL.restR_c, DL.restR_n, DL.gtD_i, DL.gtD_T, DL.ob_assoc, DL.om_bind, DL.ob_map, DL.om_map, DL.cnd_bind, DL.cnd_map, DL.guard_bind, DL.guard_map, DL.atI_c0, DL.atI_c1, DL.atI_c2, DL.atI_c3, DL.encN_0, DL.encN_1, DL.encN_2, DL.encN_u, DL.revD_t, DL.revD_l, DL.eq_TI, DL.ne_TI, DL.enumM_a, DL.exM_a, DL.seqK_ex, DL.finF_ex, DL.forK_ex, DL.tri_no, DL.trm_no, DL.atI_neg1, DL.wipO_nx, DL.wipO_ct, DL.wipO_bk, DL.wipO_rt, DL.wipO_ex, DL.wipM_a, DL.preM_a, DL.two_a, DL.finR_ex, DL.len_map, DL.len_app, DL.len_ir, DL.len_rev, DL.sz_c, DL.rng_c, DL.rngL_n, DL.forM_a', DL.rev_map, DL.seqK_bk, DL.forK_bk, DL.enum_m, DL.emp_map, PG.Sq_written_1_a, PG.Sq_tie_in_1_a, PG.Sq_read_1_a, PG.Sq_read_2_a, PG.Sq_read_3_a, PG.Sq_read_4_a, Nat.reduceAdd, Nat.reduceSub, Nat.reduceMul, Int.reduceLT, Int.reduceLE, Int.reducePow, Int.reduceNeg, Int.reduceAdd, Int.reduceSub, Int.reduceMul, Int.reduceBEq, Int.reduceBNe, Int.reduceToNat, $xs,*])
namespace DL
open PySem L2 GT
theorem encF_lst {α : Type} [DecidableEq α] {k : Nat} {f : α → D} (h : EncF k f) : EncF (k + 1) (fun xs : List α => PyData.list (xs.map f)) :=
  ⟨fun xs => by simpa [PyData.canLay0] using layAll h xs, fun xs => by have := depAll h xs; simp only [PyData.depth]; omega, fun xs ys => by simp only [PyData.eqv]; exact eqvAll_map h xs ys⟩
theorem eq_LI (a b : List Int) : eqB (.list (a.map .int)) (.list (b.map .int)) = some (decide (a = b)) := eq_one (encF_lst encF_int) (by decide) a b
theorem ne_LI (a b : List Int) : neB (.list (a.map .int)) (.list (b.map .int)) = some (!decide (a = b)) := ne_one (encF_lst encF_int) (by decide) a b
theorem eq_LI0 (a : List Int) : eqB (.list (a.map .int)) (.list []) = some a.isEmpty := (eq_one (encF_lst encF_int) (by decide) a []).trans (by cases a <;> rfl)
theorem ne_LI0 (a : List Int) : neB (.list (a.map .int)) (.list []) = some (!a.isEmpty) := (ne_one (encF_lst encF_int) (by decide) a []).trans (by cases a <;> rfl)
theorem eq_LT (a b : List Tie) : eqB (.list (a.map encT)) (.list (b.map encT)) = some (decide (a = b)) := eq_one (encF_lst encF_T) (by decide) a b
theorem ne_LT (a b : List Tie) : neB (.list (a.map encT)) (.list (b.map encT)) = some (!decide (a = b)) := ne_one (encF_lst encF_T) (by decide) a b
theorem eq_LR (a b : List (List Int)) : eqB (.list (a.map TI)) (.list (b.map TI)) = some (decide (a = b)) := eq_one (encF_lst encF_TI) (by decide) a b
theorem ne_LR (a b : List (List Int)) : neB (.list (a.map TI)) (.list (b.map TI)) = some (!decide (a = b)) := ne_one (encF_lst encF_TI) (by decide) a b
theorem eq_TR (a b : List (List Int)) : eqB (.tuple (a.map TI)) (.tuple (b.map TI)) = some (decide (a = b)) := eq_one (encF_tup encF_TI) (by decide) a b
theorem ne_TR (a b : List (List Int)) : neB (.tuple (a.map TI)) (.tuple (b.map TI)) = some (!decide (a = b)) := ne_one (encF_tup encF_TI) (by decide) a b
theorem eq_B (a b : Bool) : eqB (.bool a) (.bool b) = some (decide (a = b)) := eq_one encF_bool (by decide) a b
theorem ne_B (a b : Bool) : neB (.bool a) (.bool b) = some (!decide (a = b)) := ne_one encF_bool (by decide) a b
theorem wp_mapE {α β : Type} (e : Option α) (f : α → β) (Q : β → Prop) : wp (e.map f) Q = wp (e.bind fun a => some (f a)) Q := by cases e <;> rfl
theorem heads_map {α : Type} (k : α → Int) (v : α → D) : ∀ xs : List α, headsI (xs.map fun a => .tuple [.int (k a), v a]) = some (xs.map fun a => (k a, v a))
  | [] => rfl
  | a :: xs => by rw [List.map_cons, headsI, heads_map k v xs]; rfl
theorem sortDict_map0 {α : Type} (k : α → Int) (v : α → D) (xs : List α) : sortDictD (.list (xs.map fun a => .tuple [.int (k a), v a])) = guard' (decide ((dedup (xs.map k)).length < 64)) fun _ => some (.list ((GT.sortI (dedup (xs.map k))).map .int)) := by
  show (headsI _).bind _ = _
  rw [heads_map]
  have e : (xs.map fun a => (k a, v a)).map (·.1) = xs.map k := by simp
  simp only [Option.bind_some, e]
  unfold guard'
  simp only [decide_eq_true_eq]
  rfl
theorem sortDict_map {α : Type} (k : α → Int) (v : α → D) (xs : List α) : sortDictB (.list (xs.map fun a => .tuple [.int (k a), v a])) = guard' (decide ((dedup (xs.map k)).length < 64)) fun _ => some (.list ((GT.sortI (dedup (xs.map k))).map .int)) := by
  unfold sortDictB
  rw [sortDict_map0]
  by_cases h : (dedup (xs.map k)).length < 64
  · rw [decide_eq_true h]; rfl
  · rw [decide_eq_false h]
    cases xs with
    | nil => simp [dedup] at h
    | cons x xs => rfl
theorem sort_dedup {xs : List Int} (h : xs.Pairwise (· < ·)) : GT.sortI (dedup xs) = xs :=
  sorted_extI _ _ (sortI_lt (dedup_nodup xs)) h fun a => by rw [mem_sortI, mem_dedup]
theorem sort_dedup_iff {xs : List Int} : xs = GT.sortI (dedup xs) ↔ xs.Pairwise (· < ·) :=
  ⟨fun h => by rw [h]; exact sortI_lt (dedup_nodup xs), fun h => (sort_dedup h).symm⟩
theorem map_id_int (xs : List Int) : (xs.map fun a => a) = xs := by simp
theorem cut_f {α : Type} (xs : List α) (k : Nat) : cutD xs (some (k : Int)) none = xs.drop k := DL.cut_from xs k
theorem cut_t {α : Type} (xs : List α) (k : Nat) : cutD xs none (some (k : Int)) = xs.take k := DL.cut_to xs k
theorem cut_f1 {α : Type} (xs : List α) (k : Nat) : cutD xs (some ((k : Int) + 1)) none = xs.drop (k + 1) := DL.cut_from1 xs k
theorem map_drop' {α β : Type} (f : α → β) (xs : List α) (k : Nat) : (xs.map f).drop k = (xs.drop k).map f := List.map_drop.symm
theorem map_take' {α β : Type} (f : α → β) (xs : List α) (k : Nat) : (xs.map f).take k = (xs.take k).map f := List.map_take.symm
theorem map_app' {α β : Type} (f : α → β) (xs ys : List α) : xs.map f ++ ys.map f = (xs ++ ys).map f := List.map_append.symm
theorem len_zip {α : Type} (xs : List α) (i : Nat) : (xs.zipIdx i).length = xs.length := by simp
end DL
local macro_rules | `(tactic| simp_arith [$xs,*]) => `(tactic| simp only [DL.ob_some, DL.om_some, DL.dat_d, DL.lis_l, DL.dic_m, DL.gt_0, DL.gt_1, DL.gt_2, DL.gt_3, DL.gt_4, DL.gt_5, DL.gt_6, DL.gt_7, DL.gt_b, DL.st_0, DL.st_s, DL.plG_d, DL.plG_n, DL.plainAt_a, DL.varM_a, DL.ownM_a, DL.cM_a, DL.ofL_a, DL.opM_a, DL.unM_a, DL.truM_a, DL.tstM_a, DL.notM_a, DL.cnd_t, DL.cnd_f, DL.andM_a, DL.orM_a, DL.andVM_a, DL.notVM_a, DL.iteM_a, DL.chM_a, DL.nilM_a, DL.consM_a, DL.guard_tt, DL.tupM_a, DL.lstM_a, DL.noM_a, DL.intV_i, DL.someM_a, DL.slM_a, DL.rng1M_a, DL.rng2M_a, DL.zipV_t, DL.zipV_l, DL.zipM_a, DL.seqM_a, DL.callM_a, DL.hereM_a, DL.callRM_a, DL.appM_a, DL.lisV_l, DL.catOwnM_a, DL.newDM_a, DL.putM_a, DL.lenDM_a, DL.sortDM_a, DL.nameG_a, DL.nilG_a, DL.consG_a, DL.tupG_a, DL.seqS_a, DL.seqK_nx, DL.seqK_rt, DL.seqK_ct, DL.skipM_a, DL.asgM_a, DL.asgG_a, DL.newM_a, DL.asgLM_a, DL.retM_a, DL.exprM_a, DL.ifM_a, DL.forM_a, DL.runF_a, DL.finF_rt, DL.finF_nx, DL.runR_a, DL.finR_rt, DL.finR_nx, DL.sz_0, DL.sz_1, DL.sz_2, DL.sz_3, DL.sz_4, DL.sz_5, DL.sz_6, DL.sz_7, DL.sz_8, DL.sz_9, DL.sz_10, DL.sz_11, DL.sz_12, DL.sz_13, DL.sz_14, DL.sz_15, DL.sz_16, DL.sz_17, DL.sz_18, DL.sz_19, DL.sz_20, DL.sz_21, DL.sz_22, DL.sz_23, DL.sz_24, DL.sz_25, DL.sz_26, DL.sz_27, DL.sz_28, DL.sz_29, DL.sz_30, DL.nc_0, DL.nc_1, DL.nc_2, DL.nc_3, DL.nc_4, DL.nc_5, DL.nc_6, DL.nc_7, DL.nc_8, DL.nc_9, DL.nc_10, DL.nc_11, DL.nc_12, DL.nc_13, DL.nc_14, DL.nc_15, DL.nc_16, DL.nc_17, DL.nc_18, DL.nc_19, DL.nc_20, DL.nc_21, DL.nc_22, DL.nc_23, DL.nc_24, DL.nc_25, DL.nc_26, DL.nc_27, DL.nc_28, DL.nc_29, DL.nc_30, DL.addD_i, DL.addD_t, DL.addD_l, DL.subD_i, DL.modD_i, DL.fdivD_i, DL.mulD_i, DL.lenD_t, DL.lenD_l, DL.tupleD_t, DL.tupleD_l, DL.listD_t, DL.listD_l, DL.truD_i, DL.truD_b, DL.truD_n, DL.truD_l, DL.truD_t, DL.ixD_t, DL.ixD_l, DL.negD_i, DL.bD_a, DL.ltB_i, DL.leB_i, DL.eqB_i, DL.neB_i, DL.items_t, DL.items_l, DL.intD_b, DL.isNN, DL.slD_t, DL.slD_l, DL.p_ge0, DL.p_geS, DL.p_tk0, DL.p_tkS, DL.p_tkN, DL.p_dr0, DL.p_drS, DL.p_drN, DL.p_mpC, DL.p_mpN, DL.p_apC, DL.p_apN, DL.p_lnC, DL.p_lnN, DL.p_rpS, DL.p_rp0, DL.p_alC, DL.p_alN, DL.p_gdS, DL.p_gdN, DL.p_tlS, DL.p_tlN, DL.p_ieC, DL.p_ieN, DL.p_nt, DL.p_nf, DL.p_atb, DL.p_afb, DL.p_abt, DL.p_abf, DL.p_eqS, DL.p_dT, DL.p_dF, DL.p_TA, DL.p_AT, DL.p_TO, DL.p_OT, DL.p_startD, DL.p_startR, DL.forK_nx, DL.forK_ct, DL.forK_rt, DL.yesM_a, DL.it1_a, DL.compM_a, DL.wipeR_c, DL.wipeR_n, DL.restR_c, DL.restR_n, DL.gtD_i, DL.gtD_T, DL.ob_assoc, DL.om_bind, DL.ob_map, DL.om_map, DL.cnd_bind, DL.cnd_map, DL.guard_bind, DL.guard_map, DL.atI_c0, DL.atI_c1, DL.atI_c2, DL.atI_c3, DL.encN_0, DL.encN_1, DL.encN_2, DL.encN_u, DL.revD_t, DL.revD_l, DL.eq_TI, DL.ne_TI, DL.enumM_a, DL.exM_a, DL.seqK_ex, DL.finF_ex, DL.forK_ex, DL.tri_no, DL.trm_no, DL.atI_neg1, PG.Sq_written_1_a, PG.Sq_tie_in_1_a, PG.Sq_read_1_a, PG.Sq_read_2_a, PG.Sq_read_3_a, PG.Sq_read_4_a, Nat.reduceAdd, Nat.reduceSub, Nat.reduceMul, Int.reduceLT, Int.reduceLE, Int.reducePow, Int.reduceNeg, Int.reduceAdd, Int.reduceSub, Int.reduceMul, Int.reduceBEq, Int.reduceBNe, Int.reduceToNat, $xs,*])
namespace DL
open PySem L2 GT
theorem sk {n : Nat} (h : n ≤ 1000) : szOk n = true := szOk_of (by omega)
theorem rl {n : Nat} (h : n ≤ 1000) : szOk (rngL 0 (n : Int)).length = true := by rw [rngL_ir, List.length_map, ir_len]; exact sk h
end DL
namespace PG
open PySem L2 DL GT
theorem md {α β : Type} (f : α → β) (xs : List α) : (xs.map f).dropLast = xs.dropLast.map f := (List.map_dropLast ..).symm
end PG
namespace GT
end GT
namespace PG
open PySem L2 DL GT
end PG
namespace DL
open PySem L2 GT
/-! dicts with ints as keys -/
theorem dkOf_i (i : Int) : dkOf false (.int i) = some (.inl (.inl i)) := (rfl)
theorem keyOf_i (i : Int) : keyOf (.int i) = some (.inl i) := (rfl)
end DL
local macro_rules | `(tactic| simp_arith [$xs,*]) => `(tactic| simp only [DL.ob_some, DL.om_some, DL.dat_d, DL.lis_l, DL.dic_m, DL.gt_0, DL.gt_1, DL.gt_2, DL.gt_3, DL.gt_4, DL.gt_5, DL.gt_6, DL.gt_7, DL.gt_b, DL.st_0, DL.st_s, DL.plG_d, DL.plG_n, DL.plainAt_a, DL.varM_a, DL.ownM_a, DL.cM_a, DL.ofL_a, DL.opM_a, DL.unM_a, DL.truM_a, DL.tstM_a, DL.notM_a, DL.cnd_t, DL.cnd_f, DL.andM_a, DL.orM_a, DL.andVM_a, DL.notVM_a, DL.iteM_a, DL.chM_a, DL.nilM_a, DL.consM_a, DL.guard_tt, DL.tupM_a, DL.lstM_a, DL.noM_a, DL.intV_i, DL.someM_a, DL.slM_a, DL.rng1M_a, DL.rng2M_a, DL.zipV_t, DL.zipV_l, DL.zipM_a, DL.seqM_a, DL.callM_a, DL.hereM_a, DL.callRM_a, DL.appM_a, DL.lisV_l, DL.catOwnM_a, DL.newDM_a, DL.putM_a, DL.lenDM_a, DL.sortDM_a, DL.nameG_a, DL.nilG_a, DL.consG_a, DL.tupG_a, DL.seqS_a, DL.seqK_nx, DL.seqK_rt, DL.seqK_ct, DL.skipM_a, DL.asgM_a, DL.asgG_a, DL.newM_a, DL.asgLM_a, DL.retM_a, DL.exprM_a, DL.ifM_a, DL.forM_a, DL.runF_a, DL.finF_rt, DL.finF_nx, DL.runR_a, DL.finR_rt, DL.finR_nx, DL.sz_0, DL.sz_1, DL.sz_2, DL.sz_3, DL.sz_4, DL.sz_5, DL.sz_6, DL.sz_7, DL.sz_8, DL.sz_9, DL.sz_10, DL.sz_11, DL.sz_12, DL.sz_13, DL.sz_14, DL.sz_15, DL.sz_16, DL.sz_17, DL.sz_18, DL.sz_19, DL.sz_20, DL.sz_21, DL.sz_22, DL.sz_23, DL.sz_24, DL.sz_25, DL.sz_26, DL.sz_27, DL.sz_28, DL.sz_29, DL.sz_30, DL.nc_0, DL.nc_1, DL.nc_2, DL.nc_3, DL.nc_4, DL.nc_5, DL.nc_6, DL.nc_7, DL.nc_8, DL.nc_9, DL.nc_10, DL.nc_11, DL.nc_12, DL.nc_13, DL.nc_14, DL.nc_15, DL.nc_16, DL.nc_17, DL.nc_18, DL.nc_19, DL.nc_20, DL.nc_21, DL.nc_22, DL.nc_23, DL.nc_24, DL.nc_25, DL.nc_26, DL.nc_27, DL.nc_28, DL.nc_29, DL.nc_30, DL.addD_i, DL.addD_t, DL.addD_l, DL.subD_i, DL.modD_i, DL.fdivD_i, DL.mulD_i, DL.lenD_t, DL.lenD_l, DL.tupleD_t, DL.tupleD_l, DL.listD_t, DL.listD_l, DL.truD_i, DL.truD_b, DL.truD_n, DL.truD_l, DL.truD_t, DL.ixD_t, DL.ixD_l, DL.negD_i, DL.bD_a, DL.ltB_i, DL.leB_i, DL.eqB_i, DL.neB_i, DL.items_t, DL.items_l, DL.intD_b, DL.isNN, DL.slD_t, DL.slD_l, DL.p_ge0, DL.p_geS, DL.p_tk0, DL.p_tkS, DL.p_tkN, DL.p_dr0, DL.p_drS, DL.p_drN, DL.p_mpC, DL.p_mpN, DL.p_apC, DL.p_apN, DL.p_lnC, DL.p_lnN, DL.p_rpS, DL.p_rp0, DL.p_alC, DL.p_alN, DL.p_gdS, DL.p_gdN, DL.p_tlS, DL.p_tlN, DL.p_ieC, DL.p_ieN, DL.p_nt, DL.p_nf, DL.p_atb, DL.p_afb, DL.p_abt, DL.p_abf, DL.p_eqS, DL.p_dT, DL.p_dF, DL.p_TA, DL.p_AT, DL.p_TO, DL.p_OT, DL.p_startD, DL.p_startR, DL.forK_nx, DL.forK_ct, DL.forK_rt, DL.yesM_a, DL.it1_a, DL.compM_a, DL.wipeR_c, DL.wipeR_n, DL.restR_c, DL.restR_n, DL.gtD_i, DL.gtD_T, DL.ob_assoc, DL.om_bind, DL.ob_map, DL.om_map, DL.cnd_bind, DL.cnd_map, DL.guard_bind, DL.guard_map, DL.atI_c0, DL.atI_c1, DL.atI_c2, DL.atI_c3, DL.encN_0, DL.encN_1, DL.encN_2, DL.encN_u, DL.revD_t, DL.revD_l, DL.eq_TI, DL.ne_TI, DL.enumM_a, DL.exM_a, DL.seqK_ex, DL.finF_ex, DL.forK_ex, DL.tri_no, DL.trm_no, DL.atI_neg1, PG.Sq_written_1_a, PG.Sq_tie_in_1_a, PG.Sq_read_1_a, PG.Sq_read_2_a, PG.Sq_read_3_a, PG.Sq_read_4_a, DL.dkOf_i, DL.keyOf_i, Nat.reduceAdd, Nat.reduceSub, Nat.reduceMul, Int.reduceLT, Int.reduceLE, Int.reducePow, Int.reduceNeg, Int.reduceAdd, Int.reduceSub, Int.reduceMul, Int.reduceBEq, Int.reduceBNe, Int.reduceToNat, $xs,*])
open PySem L2 GT
namespace PG
open PySem L2 DL GT
end PG
namespace GT
/-- nothing together -/
def disj (a b : List Int) : Bool := !(b.any fun x => decide (x ∈ a))
/-- a choice of rows, no two with something together -/
abbrev Apart (s : List (List Int)) : Prop := s.Pairwise fun a b => disj a b = true
end GT
namespace PG
open PySem L2 DL GT
end PG
local macro_rules | `(tactic| simp_arith [$xs,*]) => `(tactic| simp only [DL.ob_some, DL.om_some, DL.dat_d, DL.lis_l, DL.dic_m, DL.gt_0, DL.gt_1, DL.gt_2, DL.gt_3, DL.gt_4, DL.gt_5, DL.gt_6, DL.gt_7, DL.gt_b, DL.st_0, DL.st_s, DL.plG_d, DL.plG_n, DL.plainAt_a, DL.varM_a, DL.ownM_a, DL.cM_a, DL.ofL_a, DL.opM_a, DL.unM_a, DL.truM_a, DL.tstM_a, DL.notM_a, DL.cnd_t, DL.cnd_f, DL.andM_a, DL.orM_a, DL.andVM_a, DL.notVM_a, DL.iteM_a, DL.chM_a, DL.nilM_a, DL.consM_a, DL.guard_tt, DL.tupM_a, DL.lstM_a, DL.noM_a, DL.intV_i, DL.someM_a, DL.slM_a, DL.rng1M_a, DL.rng2M_a, DL.zipV_t, DL.zipV_l, DL.zipM_a, DL.seqM_a, DL.callM_a, DL.hereM_a, DL.callRM_a, DL.appM_a, DL.lisV_l, DL.catOwnM_a, DL.newDM_a, DL.putM_a, DL.lenDM_a, DL.sortDM_a, DL.nameG_a, DL.nilG_a, DL.consG_a, DL.tupG_a, DL.seqS_a, DL.seqK_nx, DL.seqK_rt, DL.seqK_ct, DL.skipM_a, DL.asgM_a, DL.asgG_a, DL.newM_a, DL.asgLM_a, DL.retM_a, DL.exprM_a, DL.ifM_a, DL.forM_a, DL.runF_a, DL.finF_rt, DL.finF_nx, DL.runR_a, DL.finR_rt, DL.finR_nx, DL.sz_0, DL.sz_1, DL.sz_2, DL.sz_3, DL.sz_4, DL.sz_5, DL.sz_6, DL.sz_7, DL.sz_8, DL.sz_9, DL.sz_10, DL.sz_11, DL.sz_12, DL.sz_13, DL.sz_14, DL.sz_15, DL.sz_16, DL.sz_17, DL.sz_18, DL.sz_19, DL.sz_20, DL.sz_21, DL.sz_22, DL.sz_23, DL.sz_24, DL.sz_25, DL.sz_26, DL.sz_27, DL.sz_28, DL.sz_29, DL.sz_30, DL.nc_0, DL.nc_1, DL.nc_2, DL.nc_3, DL.nc_4, DL.nc_5, DL.nc_6, DL.nc_7, DL.nc_8, DL.nc_9, DL.nc_10, DL.nc_11, DL.nc_12, DL.nc_13, DL.nc_14, DL.nc_15, DL.nc_16, DL.nc_17, DL.nc_18, DL.nc_19, DL.nc_20, DL.nc_21, DL.nc_22, DL.nc_23, DL.nc_24, DL.nc_25, DL.nc_26, DL.nc_27, DL.nc_28, DL.nc_29, DL.nc_30, DL.addD_i, DL.addD_t, DL.addD_l, DL.subD_i, DL.modD_i, DL.fdivD_i, DL.mulD_i, DL.lenD_t, DL.lenD_l, DL.tupleD_t, DL.tupleD_l, DL.listD_t, DL.listD_l, DL.truD_i, DL.truD_b, DL.truD_n, DL.truD_l, DL.truD_t, DL.ixD_t, DL.ixD_l, DL.negD_i, DL.bD_a, DL.ltB_i, DL.leB_i, DL.eqB_i, DL.neB_i, DL.items_t, DL.items_l, DL.intD_b, DL.isNN, DL.slD_t, DL.slD_l, DL.p_ge0, DL.p_geS, DL.p_tk0, DL.p_tkS, DL.p_tkN, DL.p_dr0, DL.p_drS, DL.p_drN, DL.p_mpC, DL.p_mpN, DL.p_apC, DL.p_apN, DL.p_lnC, DL.p_lnN, DL.p_rpS, DL.p_rp0, DL.p_alC, DL.p_alN, DL.p_gdS, DL.p_gdN, DL.p_tlS, DL.p_tlN, DL.p_ieC, DL.p_ieN, DL.p_nt, DL.p_nf, DL.p_atb, DL.p_afb, DL.p_abt, DL.p_abf, DL.p_eqS, DL.p_dT, DL.p_dF, DL.p_TA, DL.p_AT, DL.p_TO, DL.p_OT, DL.p_startD, DL.p_startR, DL.forK_nx, DL.forK_ct, DL.forK_rt, DL.yesM_a, DL.it1_a, DL.compM_a, DL.wipeR_c, DL.wipeR_n, DL.restR_c, DL.restR_n, DL.gtD_i, DL.gtD_T, DL.ob_assoc, DL.om_bind, DL.ob_map, DL.om_map, DL.cnd_bind, DL.cnd_map, DL.guard_bind, DL.guard_map, DL.atI_c0, DL.atI_c1, DL.atI_c2, DL.atI_c3, DL.encN_0, DL.encN_1, DL.encN_2, DL.encN_u, DL.revD_t, DL.revD_l, PG.Sq_written_1_a, PG.Sq_tie_in_1_a, PG.Sq_read_1_a, PG.Sq_read_2_a, PG.Sq_read_3_a, PG.Sq_read_4_a, Nat.reduceAdd, Nat.reduceSub, Nat.reduceMul, Int.reduceLT, Int.reduceLE, Int.reducePow, Int.reduceNeg, Int.reduceAdd, Int.reduceSub, Int.reduceMul, Int.reduceBEq, Int.reduceBNe, Int.reduceToNat, $xs,*])
namespace FA
open PySem L2 DL GT PG
abbrev SC (ns : List Int) : D := .list (ns.map .int)
theorem draw_spec (ns : List Int) (town : List D) (m : Int) (hm : 0 < m) (hl : town.length < 900000) : ∃ v, 0 ≤ v ∧ v < m ∧ g__law_draw [SC ns, .int m] town = some (.int v, town ++ [.int 0]) := by
  have hz : szOk town.length = true := szOk_of (by omega)
  have key : ∀ c k : Int, 0 ≤ ((c + 104729 * k) % 4294967291 * ((c + 104729 * k) % 4294967291) % 4294967279 * 48271 % 4294967291 / 64 % m) ∧ ((c + 104729 * k) % 4294967291 * ((c + 104729 * k) % 4294967291) % 4294967279 * 48271 % 4294967291 / 64 % m) < m := fun c k => ⟨Int.emod_nonneg _ (by omega), Int.emod_lt_of_pos _ hm⟩
  unfold g__law_draw b__law_draw N__law_draw
  cases ns with
  | nil =>
    refine ⟨_, (key 0 (town ++ [PyData.int 0]).length).1, (key 0 (town ++ [PyData.int 0]).length).2, ?_⟩
    simp_arith [hz, mulOk_a, mulOk_b, mulOk_c, hm]
  | cons a as =>
    have hpos : (0 : Int) < ((a :: as).length : Nat) := by simp only [List.length_cons]; omega
    obtain ⟨c, _, hc⟩ := atI_mem (xs := a :: as) (i := ((town ++ [PyData.int 0]).length : Int) % ((a :: as).length : Nat)) (Int.emod_nonneg _ (by omega)) (Int.emod_lt_of_pos _ hpos)
    refine ⟨_, (key c (town ++ [PyData.int 0]).length).1, (key c (town ++ [PyData.int 0]).length).2, ?_⟩
    have hne : (List.map PyData.int (a :: as)).isEmpty = false := rfl
    have hlen : (List.map PyData.int (a :: as)).length = (a :: as).length := List.length_map ..
    have hix : ixD (.list (List.map PyData.int (a :: as))) (.int (((town ++ [PyData.int 0]).length : Int) % ((a :: as).length : Nat))) = some (.int c) := by
      rw [ixD_l, atI_map, hc]; rfl
    show runR _ _ _ [.list (List.map PyData.int (a :: as)), .int m] town = _
    generalize hA : List.map PyData.int (a :: as) = A at *
    generalize hB : (a :: as).length = B at *
    simp_arith [hz, hne, mulOk_a, mulOk_b, mulOk_c, hm, hlen, hpos, hix]
theorem pick_spec (ns : List Int) (town : List D) (ds : List D) (hd : ds ≠ []) (hl : town.length < 900000) : ∃ d ∈ ds, g__law_pick [SC ns, .list ds] town = some (d, town ++ [.int 0]) := by
  have hpos : (0 : Int) < (ds.length : Nat) := by
    have := List.length_pos_iff.mpr hd; omega
  obtain ⟨v, h0, h1, e⟩ := draw_spec ns town ds.length hpos hl
  obtain ⟨d, m, hc⟩ := atI_mem h0 h1
  refine ⟨d, m, ?_⟩
  unfold g__law_pick b__law_pick N__law_pick
  simp_arith [e, hc]
/-! a net by cells -/
theorem F1_net {sc tw hi wi : Option SV} {n : Nat} (hn : n ≤ 7) {x7 x8 x9 x10 x11 : Option SV} (hx : x11 = none) : ∀ (as : List Int) (ev : List Tie) (x6 : Option SV), (∀ a ∈ as, 0 ≤ a ∧ a < n) → (∀ t ∈ ev, 0 ≤ t.1 ∧ t.1 < t.2 ∧ t.2 < n) → ev.length + 7 * as.length ≤ 49 →
    ∃ (ev' : List Tie) (x6' : Option SV), (∀ t ∈ ev', 0 ≤ t.1 ∧ t.1 < t.2 ∧ t.2 < n) ∧ ev'.length ≤ 49 ∧ forL (nameG 6) F__law_net_1 (as.map .int) [sc, tw, hi, wi, some (.d (.int n)), some (.d (.list (ev.map encT))), x6, x7, x8, x9, x10, x11] = some (.nx [sc, tw, hi, wi, some (.d (.int n)), some (.d (.list (ev'.map encT))), x6', x7, x8, x9, x10, x11])
  | [], ev, x6, _, h, hl => ⟨ev, x6, h, by simpa using hl, rfl⟩
  | a :: as, ev, x6, ha, h, hl => by
    subst hx
    have ha0 := ha a (by simp)
    have hr : rngOk (a + 1) = true := rng_ok (by omega) (by omega)
    have hr2 : rngOk (n : Int) = true := rng_ok (by omega) (by omega)
    have hcl : (List.range ((n : Int) - (a + 1)).toNat).length ≤ 7 := by simp; omega
    have hc := compL_map (g := nameG 11) (el := Ce__law_net_1) (is := [11]) (r := [sc, tw, hi, wi, some (.d (.int n)), some (.d (.list (ev.map encT))), some (.d (.int a)), x7, x8, x9, x10, none]) PyData.int (fun b => encT (a, b)) ((List.range ((n : Int) - (a + 1)).toNat).map fun (i : Nat) => a + 1 + (i : Int)) (fun b _ => by
      unfold Ce__law_net_1
      simp_arith [sz_small])
    rw [← rngL_eq] at hc
    have hcl2 : szOk (rngL (a + 1) (n : Int)).length = true := by rw [rngL_eq]; exact szOk_of (by simp at hcl ⊢; omega)
    have hm : ∀ b ∈ ((List.range ((n : Int) - (a + 1)).toNat).map fun (i : Nat) => a + 1 + (i : Int)), a + 1 ≤ b ∧ b < n := fun b hb => mem_rg.mp hb
    obtain ⟨ev', x6', g1, g2, g3⟩ := F1_net (sc := sc) (tw := tw) (hi := hi) (wi := wi) hn (x7 := x7) (x8 := x8) (x9 := x9) (x10 := x10) rfl as (ev ++ ((List.range ((n : Int) - (a + 1)).toNat).map fun (i : Nat) => a + 1 + (i : Int)).map fun b => (a, b)) (some (.d (.int a))) (fun b m => ha b (List.mem_cons_of_mem _ m)) (fun t m => by
      rcases List.mem_append.mp m with m | m
      · exact h t m
      · obtain ⟨b, mb, rfl⟩ := List.mem_map.mp m
        have := hm b mb
        simp only; omega) (by simp only [List.length_append, List.length_map, List.length_cons] at *; omega)
    refine ⟨ev', x6', g1, g2, ?_⟩
    rw [← g3]
    rw [List.map_cons, forL_cons]
    unfold F__law_net_1
    have hz : szOk ((ev.map encT).length + (((List.range ((n : Int) - (a + 1)).toNat).map fun (i : Nat) => a + 1 + (i : Int)).map fun b => encT (a, b)).length) = true := szOk_of (by simp only [List.length_append, List.length_map, List.length_cons] at *; omega)
    simp_arith [hr, hr2, hcl2, hc, hz]
    simp [List.map_append, List.map_map, Function.comp_def]
abbrev TV (n : Nat) (t : Tie) : Prop := 0 ≤ t.1 ∧ t.1 < t.2 ∧ t.2 < (n : Int)
theorem put_ok {n : Nat} {ks : List Tie} {t : Tie} (h1 : ∀ t ∈ ks, TV n t) (h2 : ks.Nodup) (ht : TV n t) : (∀ u ∈ (if t ∈ ks then ks else ks ++ [t]), TV n u) ∧ (if t ∈ ks then ks else ks ++ [t]).Nodup ∧ (if t ∈ ks then ks else ks ++ [t]).length ≤ ks.length + 1 := by
  split
  · exact ⟨h1, h2, by omega⟩
  · rename_i hn
    refine ⟨fun u m => ?_, ?_, by simp⟩
    · rcases List.mem_append.mp m with m | m
      · exact h1 u m
      · simp at m; subst m; exact ht
    · rw [List.nodup_append]
      exact ⟨h2, by simp, fun a m b mb e => by simp at mb; subst mb; exact hn (e ▸ m)⟩
theorem F2_net {ns : List Int} {hi wi ev x6 x8 x9 : Option SV} {n : Nat} : ∀ (as : List Int) (ks : List Tie) (tw : List D) (x10 x11 : Option SV), plG x10 = true → (∀ a ∈ as, 1 ≤ a ∧ a < n) → (∀ t ∈ ks, TV n t) → ks.Nodup → ks.length + as.length ≤ 100 → tw.length + as.length < 800000 →
    ∃ (ks' : List Tie) (tw' : List D) (x10' x11' : Option SV), plG x10' = true ∧ (∀ t ∈ ks', TV n t) ∧ ks'.Nodup ∧ ks'.length ≤ ks.length + as.length ∧ tw'.length = tw.length + as.length ∧
    forL (nameG 10) F__law_net_2 (as.map .int) [some (.d (SC ns)), some (.l true tw), hi, wi, some (.d (.int n)), ev, x6, some (.m false true (dicT ks)), x8, x9, x10, x11] = some (.nx [some (.d (SC ns)), some (.l true tw'), hi, wi, some (.d (.int n)), ev, x6, some (.m false true (dicT ks')), x8, x9, x10', x11'])
  | [], ks, tw, x10, x11, hp, _, h1, h2, _, _ => ⟨ks, tw, x10, x11, hp, h1, h2, by simp, by simp, rfl⟩
  | a :: as, ks, tw, x10, x11, hp, ha, h1, h2, h3, h4 => by
    simp only [List.length_cons] at h3 h4
    have ha0 := ha a (by simp)
    obtain ⟨v, v0, v1, e⟩ := draw_spec ns tw a (by omega) (by omega)
    obtain ⟨p1, p2, p3⟩ := put_ok (t := (v, a)) h1 h2 ⟨v0, v1, ha0.2⟩
    obtain ⟨ks', tw', x10', x11', gp, g1, g2, g3, g4, g5⟩ := F2_net (ns := ns) (hi := hi) (wi := wi) (ev := ev) (x6 := x6) (x8 := x8) (x9 := x9) as (if (v, a) ∈ ks then ks else ks ++ [(v, a)]) (tw ++ [.int 0]) (some (.d (.int a))) (some (.d (.int v))) rfl (fun b m => ha b (List.mem_cons_of_mem _ m)) p1 p2 (by omega) (by simp; omega)
    refine ⟨ks', tw', x10', x11', gp, g1, g2, by simp only [List.length_cons]; omega, by simp only [List.length_cons, List.length_append, List.length_nil] at g4 ⊢; omega, ?_⟩
    rw [← g5, List.map_cons, forL_cons]
    unfold F__law_net_2
    have hd : dkOf true (PyData.tuple [.int v, .int a]) = some (dkT (v, a)) := dkOf_T (v, a)
    have hz : szOk (dicT ks).length = true := by rw [dicT_len]; exact szOk_of (by omega)
    simp_arith [e, hd, hz, dicT_put]
theorem F3_net {ns : List Int} {hi x6 x9 x10 x11 : Option SV} {n wide : Nat} {ev : List Tie} (hev : ∀ t ∈ ev, TV n t) : ∀ (as : List Int) (ks : List Tie) (tw : List D) (x8 : Option SV), (∀ t ∈ ks, TV n t) → ks.Nodup → ks.length + as.length ≤ 100 → tw.length + as.length < 800000 →
    ∃ (ks' : List Tie) (tw' : List D) (x8' : Option SV), (∀ t ∈ ks', TV n t) ∧ ks'.Nodup ∧ ks'.length ≤ ks.length + as.length ∧ tw'.length ≤ tw.length + as.length ∧ tw.length ≤ tw'.length ∧
    forL (nameG 8) F__law_net_3 (as.map .int) [some (.d (SC ns)), some (.l true tw), hi, some (.d (.int wide)), some (.d (.int n)), some (.d (.list (ev.map encT))), x6, some (.m false true (dicT ks)), x8, x9, x10, x11] = some (.nx [some (.d (SC ns)), some (.l true tw'), hi, some (.d (.int wide)), some (.d (.int n)), some (.d (.list (ev.map encT))), x6, some (.m false true (dicT ks')), x8', x9, x10, x11])
  | [], ks, tw, x8, h1, h2, _, _ => ⟨ks, tw, x8, h1, h2, by simp, by simp, by simp, rfl⟩
  | a :: as, ks, tw, x8, h1, h2, h3, h4 => by
    simp only [List.length_cons] at h3 h4
    have hz : szOk (dicT ks).length = true := by rw [dicT_len]; exact szOk_of (by omega)
    by_cases hE : ev = []
    · obtain ⟨ks', tw', x8', g1, g2, g3, g4, g5, g6⟩ := F3_net (ns := ns) (hi := hi) (x6 := x6) (x9 := x9) (x10 := x10) (x11 := x11) (wide := wide) hev as ks tw (some (.d (.int a))) h1 h2 (by omega) (by omega)
      refine ⟨ks', tw', x8', g1, g2, by simp only [List.length_cons]; omega, by simp only [List.length_cons]; omega, g5, ?_⟩
      rw [← g6, List.map_cons, forL_cons]
      unfold F__law_net_3
      subst hE
      simp_arith [hz]
    · obtain ⟨d, md, e⟩ := pick_spec ns tw (ev.map encT) (by simpa using hE) (by omega)
      obtain ⟨t, mt, rfl⟩ := List.mem_map.mp md
      have hne : (ev.map encT).isEmpty = false := by cases ev with
        | nil => exact absurd rfl hE
        | cons _ _ => rfl
      by_cases hw : (ks.length : Int) < wide
      · obtain ⟨p1, p2, p3⟩ := put_ok h1 h2 (hev t mt)
        obtain ⟨ks', tw', x8', g1, g2, g3, g4, g5, g6⟩ := F3_net (ns := ns) (hi := hi) (x6 := x6) (x9 := x9) (x10 := x10) (x11 := x11) (wide := wide) hev as (if t ∈ ks then ks else ks ++ [t]) (tw ++ [.int 0]) (some (.d (.int a))) p1 p2 (by omega) (by simp; omega)
        simp only [List.length_append, List.length_cons, List.length_nil] at g4 g5
        refine ⟨ks', tw', x8', g1, g2, by simp only [List.length_cons]; omega, by simp only [List.length_cons]; omega, by omega, ?_⟩
        rw [← g6, List.map_cons, forL_cons]
        unfold F__law_net_3
        have hd : dkOf true (PyData.tuple [.int t.1, .int t.2]) = some (dkT t) := dkOf_T t
        simp_arith [hne, dicT_len, hw, e, hd, hz, dicT_put]
        simp_arith [szOk_of (show ks.length ≤ 1000000 by omega)]
      · obtain ⟨ks', tw', x8', g1, g2, g3, g4, g5, g6⟩ := F3_net (ns := ns) (hi := hi) (x6 := x6) (x9 := x9) (x10 := x10) (x11 := x11) (wide := wide) hev as ks tw (some (.d (.int a))) h1 h2 (by omega) (by omega)
        refine ⟨ks', tw', x8', g1, g2, by simp only [List.length_cons]; omega, by simp only [List.length_cons]; omega, g5, ?_⟩
        rw [← g6, List.map_cons, forL_cons]
        unfold F__law_net_3
        simp_arith [hne, dicT_len, hw]
theorem cut_take {α : Type} (xs : List α) (k : Nat) : cutD xs none (some (k : Int)) = xs.take k := by
  unfold cutD
  rw [HT.sIx_none, HT.sIx_nat, List.drop_zero, Nat.sub_zero]
  rcases Nat.le_total k xs.length with h | h
  · rw [Nat.min_eq_left h]
  · rw [Nat.min_eq_right h, List.take_length, List.take_of_length_le h]
theorem rim_net {ns : List Int} {hi wi x4 ev x6 dc x8 x9 x11 : Option SV} : ∀ (as : List Int) (tw : List D), tw.length + as.length < 800000 →
    ∃ (bs : List Int) (tw' : List D), bs.Sublist as ∧ tw'.length = tw.length + as.length ∧
    compL (nameG 10) Ct__law_net_1 Ce__law_net_2 [10] (as.map .int) [some (.d (SC ns)), some (.l true tw), hi, wi, x4, ev, x6, dc, x8, x9, none, x11] = some (bs.map .int, [some (.d (SC ns)), some (.l true tw'), hi, wi, x4, ev, x6, dc, x8, x9, none, x11])
  | [], tw, _ => ⟨[], tw, .slnil, by simp, rfl⟩
  | a :: as, tw, h => by
    simp only [List.length_cons] at h
    obtain ⟨v, v0, v1, e⟩ := draw_spec ns tw 2 (by omega) (by omega)
    obtain ⟨bs, tw', s1, s2, s3⟩ := rim_net (ns := ns) (hi := hi) (wi := wi) (x4 := x4) (ev := ev) (x6 := x6) (dc := dc) (x8 := x8) (x9 := x9) (x11 := x11) as (tw ++ [.int 0]) (by simp; omega)
    simp only [List.length_append, List.length_cons, List.length_nil] at s2
    by_cases hv : v = 0
    · subst hv
      refine ⟨a :: bs, tw', .cons_cons a s1, by simp only [List.length_cons]; omega, ?_⟩
      rw [List.map_cons, compL_cons]
      unfold Ct__law_net_1 Ce__law_net_2 at *
      simp_arith [e, s3, Option.toList]
    · refine ⟨bs, tw', .cons a s1, by simp only [List.length_cons]; omega, ?_⟩
      rw [List.map_cons, compL_cons]
      have hb : (v == 0) = false := by simp [hv]
      unfold Ct__law_net_1 Ce__law_net_2 at *
      simp_arith [e, s3, hb, Option.toList]
theorem net_spec (ns : List Int) (town : List D) (high wide : Nat) (h1 : 1 ≤ high) (h2 : high ≤ 7) (h3 : wide ≤ 20) (hl : town.length < 700000) :
    ∃ (N : Net) (town' : List D), N.WF ∧ N.n ≤ high ∧ N.ties.length ≤ wide ∧ N.rim ≠ [] ∧ town'.length ≤ town.length + 60 ∧ g__law_net [SC ns, .int high, .int wide] town = some (encN N, town') := by
  obtain ⟨v, v0, v1, e1⟩ := draw_spec ns town high (by omega) (by omega)
  obtain ⟨n, rfl⟩ : ∃ n : Nat, v = n := ⟨v.toNat, by omega⟩
  have hn1 : ((1 : Int) + (n : Int)) = ((n + 1 : Nat) : Int) := by omega
  obtain ⟨ev, x6, a1, a2, a3⟩ := F1_net (sc := some (.d (SC ns))) (tw := some (.l true (town ++ [.int 0]))) (hi := some (.d (.int high))) (wi := some (.d (.int wide))) (n := n + 1) (by omega) (x7 := none) (x8 := none) (x9 := none) (x10 := none) (x11 := none) rfl (ir (n + 1)) [] none (fun a m => by have := mem_ir.mp m; omega) (by simp) (by simp [ir_len]; omega)
  obtain ⟨u, u0, u1, e2⟩ := draw_spec ns (town ++ [.int 0]) 3 (by omega) (by simp; omega)
  -- the second loop, or not
  have hF2 : ∃ (ks : List Tie) (tw : List D) (x10 x11 : Option SV), plG x10 = true ∧ (∀ t ∈ ks, TV (n + 1) t) ∧ ks.Nodup ∧ ks.length ≤ 7 ∧ town.length + 2 ≤ tw.length ∧ tw.length ≤ town.length + 9 ∧
      (ifM (tstM gtD (callRM 1 g__law_draw (consM (varM 0) (hereM 1 (consM (cM (PyData.int 3)) nilM)))) (cM (PyData.int 0))) (forM (rng2M (cM (PyData.int 1)) (varM 4)) (nameG 10) F__law_net_2) skipM) [some (.d (SC ns)), some (.l true (town ++ [.int 0])), some (.d (.int high)), some (.d (.int wide)), some (.d (.int ((n + 1 : Nat) : Int))), some (.d (.list (ev.map encT))), x6, some (.m false true (dicT [])), none, none, none, none] =
      some (.nx [some (.d (SC ns)), some (.l true tw), some (.d (.int high)), some (.d (.int wide)), some (.d (.int ((n + 1 : Nat) : Int))), some (.d (.list (ev.map encT))), x6, some (.m false true (dicT ks)), none, none, x10, x11]) := by
    by_cases hu : 0 < u
    · obtain ⟨ks, tw, x10, x11, bp, b1, b2, b3, b4, b5⟩ := F2_net (ns := ns) (hi := some (.d (.int high))) (wi := some (.d (.int wide))) (ev := some (.d (.list (ev.map encT)))) (x6 := x6) (x8 := none) (x9 := none) (n := n + 1) ((List.range (((n + 1 : Nat) : Int) - 1).toNat).map fun (i : Nat) => 1 + (i : Int)) [] (town ++ [.int 0] ++ [.int 0]) none none rfl (fun a m => mem_rg.mp m) (by simp) (by simp) (by simp; omega) (by simp; omega)
      refine ⟨ks, tw, x10, x11, bp, b1, b2, by simp at b3; omega, by simp at b4; omega, by simp at b4; omega, ?_⟩
      rw [← rngL_eq] at b5
      have r1 : rngOk 1 = true := by decide
      have r2 : rngOk ((n + 1 : Nat) : Int) = true := rng_ok (by omega) (by omega)
      simp_arith [forM_a, e2, hu, r1, r2, b5]
    · refine ⟨[], town ++ [.int 0] ++ [.int 0], none, none, rfl, by simp, by simp, by simp, by simp, by simp, ?_⟩
      simp_arith [e2, hu]
  obtain ⟨ks, tw, x10, x11, bp, b1, b2, b3, b4, b4', b5⟩ := hF2
  obtain ⟨w, w0, w1, e3⟩ := draw_spec ns tw ((wide : Int) + 1) (by omega) (by omega)
  obtain ⟨m, rfl⟩ : ∃ m : Nat, w = m := ⟨w.toNat, by omega⟩
  obtain ⟨ks2, tw2, x8, c1, c2, c3, c4, c5, c6⟩ := F3_net (ns := ns) (hi := some (.d (.int high))) (x6 := x6) (x9 := none) (x10 := x10) (x11 := x11) (n := n + 1) (wide := wide) a1 (ir m) ks (tw ++ [.int 0]) none b1 b2 (by rw [ir_len]; omega) (by simp [ir_len]; omega)
  simp only [ir_len, List.length_append, List.length_cons, List.length_nil] at c3 c4 c5
  obtain ⟨bs, tw3, d1, d2, d3⟩ := rim_net (ns := ns) (hi := some (.d (.int high))) (wi := some (.d (.int wide))) (x4 := some (.d (.int ((n + 1 : Nat) : Int)))) (ev := some (.d (.list (ev.map encT)))) (x6 := x6) (dc := some (.m false true (dicT ks2))) (x8 := x8) (x9 := none) (x11 := x11) (ir (n + 1)) tw2 (by rw [ir_len]; omega)
  rw [ir_len] at d2
  have hF4 : ∃ (rim : List Int) (tw4 : List D) (r : Rho), rim ≠ [] ∧ (∀ k ∈ rim, 0 ≤ k ∧ k < ((n + 1 : Nat) : Int)) ∧ rim.Pairwise (· < ·) ∧ tw4.length ≤ tw3.length + 1 ∧
      (ifM (notM (truM (varM 9))) (asgM 9 (ofL (lstM (consM (callRM 1 g__law_draw (consM (varM 0) (hereM 1 (consM (varM 4) nilM)))) nilM)))) skipM) [some (.d (SC ns)), some (.l true tw3), some (.d (.int high)), some (.d (.int wide)), some (.d (.int ((n + 1 : Nat) : Int))), some (.d (.list (ev.map encT))), x6, some (.m false true (dicT ks2)), x8, some (.d (.list (bs.map .int))), x10, x11] =
      some (.nx [some (.d (SC ns)), some (.l true tw4), some (.d (.int high)), some (.d (.int wide)), some (.d (.int ((n + 1 : Nat) : Int))), some (.d (.list (ev.map encT))), x6, some (.m false true (dicT ks2)), x8, some (.d (.list (rim.map .int))), x10, x11]) := by
    cases bs with
    | nil =>
      obtain ⟨q, q0, q1, e4⟩ := draw_spec ns tw3 ((n + 1 : Nat) : Int) (by omega) (by omega)
      refine ⟨[q], tw3 ++ [.int 0], [], by simp, by simp; omega, by simp, by simp, ?_⟩
      simp_arith [e4]
    | cons b bs =>
      refine ⟨b :: bs, tw3, [], by simp, fun k mk => mem_ir.mp (d1.subset mk), (ir_sorted _).sublist d1, by omega, ?_⟩
      simp_arith [e2]
  obtain ⟨rim, tw4, _, f1, f2, f3, f4, f5⟩ := hF4
  refine ⟨⟨n + 1, (sortT ks2).take wide, rim⟩, tw4, ⟨by simp, by simp; omega, fun t mt => ?_, ?_, f2, f3⟩, by simp; omega, by simp; omega, f1, by omega, ?_⟩
  · exact c1 t (mem_sortT.mp (List.mem_of_mem_take mt))
  · exact (sortT_lt c2).sublist (List.take_sublist _ _)
  · unfold g__law_net b__law_net N__law_net
    have r2 : rngOk ((n + 1 : Nat) : Int) = true := rng_ok (by omega) (by omega)
    have r3 : rngOk (m : Int) = true := rng_ok (by omega) (by omega)
    have z1 : szOk (rngL 0 ((n + 1 : Nat) : Int)).length = true := by rw [rngL_ir]; exact szOk_of (by simp [ir_len]; omega)
    rw [← rngL_ir] at a3 c6 d3
    rw [List.map_nil] at a3
    have so : sortOk (ks2.map encT) = true := sortOk_T (by omega)
    have dn : dicT [] = [] := rfl
    rw [dn] at b5
    simp_arith [-ifM_a, forM_a, e1, hn1, r2, a3, b5, e3, r3, c6, z1, d3, bp, f5, dicT_keys, so, sortL_T, cut_take]
    simp [encN, List.map_take]
end FA
local macro_rules | `(tactic| simp_arith [$xs,*]) => `(tactic| simp only [DL.ob_some, DL.om_some, DL.dat_d, DL.lis_l, DL.dic_m, DL.gt_0, DL.gt_1, DL.gt_2, DL.gt_3, DL.gt_4, DL.gt_5, DL.gt_6, DL.gt_7, DL.gt_b, DL.st_0, DL.st_s, DL.plG_d, DL.plG_n, DL.plainAt_a, DL.varM_a, DL.ownM_a, DL.cM_a, DL.ofL_a, DL.opM_a, DL.unM_a, DL.truM_a, DL.tstM_a, DL.notM_a, DL.cnd_t, DL.cnd_f, DL.andM_a, DL.orM_a, DL.andVM_a, DL.notVM_a, DL.iteM_a, DL.chM_a, DL.nilM_a, DL.consM_a, DL.guard_tt, DL.tupM_a, DL.lstM_a, DL.noM_a, DL.intV_i, DL.someM_a, DL.slM_a, DL.rng1M_a, DL.rng2M_a, DL.zipV_t, DL.zipV_l, DL.zipM_a, DL.seqM_a, DL.callM_a, DL.hereM_a, DL.callRM_a, DL.appM_a, DL.lisV_l, DL.catOwnM_a, DL.newDM_a, DL.putM_a, DL.lenDM_a, DL.sortDM_a, DL.nameG_a, DL.nilG_a, DL.consG_a, DL.tupG_a, DL.seqS_a, DL.seqK_nx, DL.seqK_rt, DL.seqK_ct, DL.skipM_a, DL.asgM_a, DL.asgG_a, DL.newM_a, DL.asgLM_a, DL.retM_a, DL.exprM_a, DL.ifM_a, DL.forM_a, DL.runF_a, DL.finF_rt, DL.finF_nx, DL.runR_a, DL.finR_rt, DL.finR_nx, DL.sz_0, DL.sz_1, DL.sz_2, DL.sz_3, DL.sz_4, DL.sz_5, DL.sz_6, DL.sz_7, DL.sz_8, DL.sz_9, DL.sz_10, DL.sz_11, DL.sz_12, DL.sz_13, DL.sz_14, DL.sz_15, DL.sz_16, DL.sz_17, DL.sz_18, DL.sz_19, DL.sz_20, DL.sz_21, DL.sz_22, DL.sz_23, DL.sz_24, DL.sz_25, DL.sz_26, DL.sz_27, DL.sz_28, DL.sz_29, DL.sz_30, DL.nc_0, DL.nc_1, DL.nc_2, DL.nc_3, DL.nc_4, DL.nc_5, DL.nc_6, DL.nc_7, DL.nc_8, DL.nc_9, DL.nc_10, DL.nc_11, DL.nc_12, DL.nc_13, DL.nc_14, DL.nc_15, DL.nc_16, DL.nc_17, DL.nc_18, DL.nc_19, DL.nc_20, DL.nc_21, DL.nc_22, DL.nc_23, DL.nc_24, DL.nc_25, DL.nc_26, DL.nc_27, DL.nc_28, DL.nc_29, DL.nc_30, DL.addD_i, DL.addD_t, DL.addD_l, DL.subD_i, DL.modD_i, DL.fdivD_i, DL.mulD_i, DL.lenD_t, DL.lenD_l, DL.tupleD_t, DL.tupleD_l, DL.listD_t, DL.listD_l, DL.truD_i, DL.truD_b, DL.truD_n, DL.truD_l, DL.truD_t, DL.ixD_t, DL.ixD_l, DL.negD_i, DL.bD_a, DL.ltB_i, DL.leB_i, DL.eqB_i, DL.neB_i, DL.items_t, DL.items_l, DL.intD_b, DL.isNN, DL.slD_t, DL.slD_l, DL.p_ge0, DL.p_geS, DL.p_tk0, DL.p_tkS, DL.p_tkN, DL.p_dr0, DL.p_drS, DL.p_drN, DL.p_mpC, DL.p_mpN, DL.p_apC, DL.p_apN, DL.p_lnC, DL.p_lnN, DL.p_rpS, DL.p_rp0, DL.p_alC, DL.p_alN, DL.p_gdS, DL.p_gdN, DL.p_tlS, DL.p_tlN, DL.p_ieC, DL.p_ieN, DL.p_nt, DL.p_nf, DL.p_atb, DL.p_afb, DL.p_abt, DL.p_abf, DL.p_eqS, DL.p_dT, DL.p_dF, DL.p_TA, DL.p_AT, DL.p_TO, DL.p_OT, DL.p_startD, DL.p_startR, DL.forK_nx, DL.forK_ct, DL.forK_rt, DL.yesM_a, DL.it1_a, DL.compM_a, DL.wipeR_c, DL.wipeR_n, DL.restR_c, DL.restR_n, DL.gtD_i, DL.gtD_T, DL.ob_assoc, DL.om_bind, DL.ob_map, DL.om_map, DL.cnd_bind, DL.cnd_map, DL.guard_bind, DL.guard_map, DL.atI_c0, DL.atI_c1, DL.atI_c2, DL.atI_c3, DL.encN_0, DL.encN_1, DL.encN_2, DL.encN_u, DL.revD_t, DL.revD_l, PG.Sq_written_1_a, PG.Sq_tie_in_1_a, PG.Sq_read_1_a, PG.Sq_read_2_a, PG.Sq_read_3_a, PG.Sq_read_4_a, DL.eq_TI, DL.ne_TI, DL.enumM_a, DL.exM_a, DL.seqK_ex, DL.finF_ex, DL.forK_ex, DL.tri_no, DL.trm_no, DL.atI_neg1, Nat.reduceAdd, Nat.reduceSub, Nat.reduceMul, Int.reduceLT, Int.reduceLE, Int.reducePow, Int.reduceNeg, Int.reduceAdd, Int.reduceSub, Int.reduceMul, Int.reduceBEq, Int.reduceBNe, Int.reduceToNat, $xs,*])
namespace DL
open PySem L2 GT
/-- flat things, and tuples of such, not too deep -/
def okD : Nat → D → Bool
  | _, .none => true
  | _, .bool _ => true
  | _, .int _ => true
  | _, .str x => PyData.strOk x
  | k + 1, .tuple xs => decide (xs.length ≤ 100000) && xs.all (okD k)
  | _, _ => false
theorem okD_I (k : Nat) (i : Int) : okD k (.int i) = true := by cases k <;> rfl
theorem okD_TI {k : Nat} (hk : 1 ≤ k) (xs : List Int) (h : xs.length ≤ 100000) : okD k (TI xs) = true := by
  obtain ⟨j, rfl⟩ : ∃ j, k = j + 1 := ⟨k - 1, by omega⟩
  simp only [okD, List.length_map, decide_eq_true h, Bool.true_and, List.all_map, List.all_eq_true]
  exact fun x _ => okD_I j x
theorem okD_map {α : Type} {f : α → D} {k : Nat} {xs : List α} (hl : xs.length ≤ 100000) (h : ∀ x ∈ xs, okD k (f x) = true) : okD (k + 1) (.tuple (xs.map f)) = true := by
  simp only [okD, List.length_map, decide_eq_true hl, Bool.true_and, List.all_map, List.all_eq_true]
  exact h
theorem zip_self (xs : List D) : zipL xs xs = xs.map fun d => pairD d d := by
  unfold zipL
  induction xs with
  | nil => rfl
  | cons x xs ih => rw [List.zipWith_cons_cons, ih, List.map_cons]
theorem eqB_s {x : Str} (h : PyData.strOk x = true) : eqB (.str x) (.str x) = some true := by
  unfold eqB
  have : SeqAt.shaped (.str x) = true := by simp [SeqAt.shaped, PyData.canLay0, h, PyData.depth]
  simp [this, PyData.eqv]
end DL
namespace FA
open PySem L2 DL GT PG
theorem same_refl : ∀ (f : Nat) (d : D), okD f d = true → gr__law_same (f + 1) [d, d] = some (.bool true)
  | f, d, h => by
    show runF N__law_same (b__law_same (gr__law_same f)) [d, d] = _
    unfold b__law_same N__law_same
    cases d with
    | none => simp_arith [isNN]
    | bool b =>
      have h1 : isB (.bool b) .none = some false := rfl
      have h2 : eqB (.bool b) (.bool b) = some true := by cases b <;> rfl
      simp_arith [isi_bool, h1, h2]
    | int i =>
      have h1 : isB (.int i) .none = some false := rfl
      simp_arith [isi_bool, isi_tuple, isi_str, isi_int, h1]
      simp
    | str x =>
      have h0 : PyData.strOk x = true := by cases f <;> simpa [okD] using h
      have h1 : isB (.str x) .none = some false := rfl
      simp_arith [isi_bool, isi_tuple, isi_str, h1, eqB_s h0]
    | tuple xs =>
      cases f with
      | zero => simp [okD] at h
      | succ f =>
        simp only [okD, Bool.and_eq_true, decide_eq_true_eq, List.all_eq_true] at h
        have h1 : isB (.tuple xs) .none = some false := rfl
        have z : szOk (xs.map fun d => pairD d d).length = true := szOk_of (by simp; omega)
        have ne : ((xs.length : Int) == (xs.length : Int)) = true := by simp
        simp_arith [isi_bool, isi_tuple, h1, ne, zip_self, z]
        rw [compL_map (fun d => pairD d d) (fun _ => .bool true) xs (fun d m => by
          unfold Ce__law_same_1 pairD
          simp_arith [same_refl f d (h.2 d m)])]
        have al : allD (.list (xs.map fun _ => .bool true)) = some (.bool true) := by rw [allD_map]; simp
        simp_arith [al]
    | list xs => cases f <;> simp [okD] at h
    | dict xs => cases f <;> simp [okD] at h
theorem same_ok {d : D} (h : okD 20 d = true) : g__law_same [d, d] = some (.bool true) := by
  have up : ∀ (j : Nat) (k : Nat) (d : D), okD k d = true → okD (k + j) d = true := by
    intro j k
    induction k with
    | zero => intro d h; cases d <;> cases j <;> simp_all [okD]
    | succ k ih =>
      intro d h
      cases d with
      | tuple xs =>
        rw [show k + 1 + j = (k + j) + 1 by omega]
        simp only [okD, Bool.and_eq_true, List.all_eq_true] at h ⊢
        exact ⟨h.1, fun x m => ih x (h.2 x m)⟩
      | _ => rw [show k + 1 + j = (k + j) + 1 by omega]; simpa [okD] using h
  exact same_refl 39 d (up 19 20 d h)
end FA
namespace DL
open PySem L2 GT
end DL
namespace FA
open PySem L2 DL GT PG
end FA
namespace GT
/-- a way longer by a tie that leads on -/
def leads (row : List Int) (b : Int) (t : Tie) : Bool := decide (b ∈ [t.1, t.2]) && (decide (t.1 ∉ row) || decide (t.2 ∉ row))
def ext (N : Net) (row : List Int) : List (List Int) := (N.ties.filter (leads row (row.getLast?.getD 0))).map fun t => row ++ [t.1 + t.2 - row.getLast?.getD 0]
end GT
namespace DL
open PySem L2 GT
end DL
namespace FA
open PySem L2 DL GT PG
end FA
local macro_rules | `(tactic| simp_arith [$xs,*]) => `(tactic| simp only [DL.ob_some, DL.om_some, DL.dat_d, DL.lis_l, DL.dic_m, DL.gt_0, DL.gt_1, DL.gt_2, DL.gt_3, DL.gt_4, DL.gt_5, DL.gt_6, DL.gt_7, DL.gt_b, DL.st_0, DL.st_s, DL.plG_d, DL.plG_n, DL.plainAt_a, DL.varM_a, DL.ownM_a, DL.cM_a, DL.ofL_a, DL.opM_a, DL.unM_a, DL.truM_a, DL.tstM_a, DL.notM_a, DL.cnd_t, DL.cnd_f, DL.andM_a, DL.orM_a, DL.andVM_a, DL.notVM_a, DL.iteM_a, DL.chM_a, DL.nilM_a, DL.consM_a, DL.guard_tt, DL.tupM_a, DL.lstM_a, DL.noM_a, DL.intV_i, DL.someM_a, DL.slM_a, DL.rng1M_a, DL.rng2M_a, DL.zipV_t, DL.zipV_l, DL.zipM_a, DL.seqM_a, DL.callM_a, DL.hereM_a, DL.callRM_a, DL.appM_a, DL.lisV_l, DL.catOwnM_a, DL.newDM_a, DL.putM_a, DL.lenDM_a, DL.sortDM_a, DL.nameG_a, DL.nilG_a, DL.consG_a, DL.tupG_a, DL.seqS_a, DL.seqK_nx, DL.seqK_rt, DL.seqK_ct, DL.skipM_a, DL.asgM_a, DL.asgG_a, DL.newM_a, DL.asgLM_a, DL.retM_a, DL.exprM_a, DL.ifM_a, DL.forM_a, DL.runF_a, DL.finF_rt, DL.finF_nx, DL.runR_a, DL.finR_rt, DL.finR_nx, DL.sz_0, DL.sz_1, DL.sz_2, DL.sz_3, DL.sz_4, DL.sz_5, DL.sz_6, DL.sz_7, DL.sz_8, DL.sz_9, DL.sz_10, DL.sz_11, DL.sz_12, DL.sz_13, DL.sz_14, DL.sz_15, DL.sz_16, DL.sz_17, DL.sz_18, DL.sz_19, DL.sz_20, DL.sz_21, DL.sz_22, DL.sz_23, DL.sz_24, DL.sz_25, DL.sz_26, DL.sz_27, DL.sz_28, DL.sz_29, DL.sz_30, DL.nc_0, DL.nc_1, DL.nc_2, DL.nc_3, DL.nc_4, DL.nc_5, DL.nc_6, DL.nc_7, DL.nc_8, DL.nc_9, DL.nc_10, DL.nc_11, DL.nc_12, DL.nc_13, DL.nc_14, DL.nc_15, DL.nc_16, DL.nc_17, DL.nc_18, DL.nc_19, DL.nc_20, DL.nc_21, DL.nc_22, DL.nc_23, DL.nc_24, DL.nc_25, DL.nc_26, DL.nc_27, DL.nc_28, DL.nc_29, DL.nc_30, DL.addD_i, DL.addD_t, DL.addD_l, DL.subD_i, DL.modD_i, DL.fdivD_i, DL.mulD_i, DL.lenD_t, DL.lenD_l, DL.tupleD_t, DL.tupleD_l, DL.listD_t, DL.listD_l, DL.truD_i, DL.truD_b, DL.truD_n, DL.truD_l, DL.truD_t, DL.ixD_t, DL.ixD_l, DL.negD_i, DL.bD_a, DL.ltB_i, DL.leB_i, DL.eqB_i, DL.neB_i, DL.items_t, DL.items_l, DL.intD_b, DL.isNN, DL.slD_t, DL.slD_l, DL.p_ge0, DL.p_geS, DL.p_tk0, DL.p_tkS, DL.p_tkN, DL.p_dr0, DL.p_drS, DL.p_drN, DL.p_mpC, DL.p_mpN, DL.p_apC, DL.p_apN, DL.p_lnC, DL.p_lnN, DL.p_rpS, DL.p_rp0, DL.p_alC, DL.p_alN, DL.p_gdS, DL.p_gdN, DL.p_tlS, DL.p_tlN, DL.p_ieC, DL.p_ieN, DL.p_nt, DL.p_nf, DL.p_atb, DL.p_afb, DL.p_abt, DL.p_abf, DL.p_eqS, DL.p_dT, DL.p_dF, DL.p_TA, DL.p_AT, DL.p_TO, DL.p_OT, DL.p_startD, DL.p_startR, DL.forK_nx, DL.forK_ct, DL.forK_rt, DL.yesM_a, DL.it1_a, DL.compM_a, DL.wipeR_c, DL.wipeR_n, DL.restR_c, DL.restR_n, DL.gtD_i, DL.gtD_T, DL.ob_assoc, DL.om_bind, DL.ob_map, DL.om_map, DL.cnd_bind, DL.cnd_map, DL.guard_bind, DL.guard_map, DL.atI_c0, DL.atI_c1, DL.atI_c2, DL.atI_c3, DL.encN_0, DL.encN_1, DL.encN_2, DL.encN_u, DL.revD_t, DL.revD_l, DL.eq_TI, DL.ne_TI, DL.enumM_a, DL.exM_a, DL.seqK_ex, DL.finF_ex, DL.forK_ex, DL.tri_no, DL.trm_no, DL.atI_neg1, PG.Sq_written_1_a, PG.Sq_tie_in_1_a, PG.Sq_read_1_a, PG.Sq_read_2_a, PG.Sq_read_3_a, PG.Sq_read_4_a, DL.dkOf_i, DL.keyOf_i, Nat.reduceAdd, Nat.reduceSub, Nat.reduceMul, Int.reduceLT, Int.reduceLE, Int.reducePow, Int.reduceNeg, Int.reduceAdd, Int.reduceSub, Int.reduceMul, Int.reduceBEq, Int.reduceBNe, Int.reduceToNat, $xs,*])
namespace PG
open PySem L2 DL GT
structure RInv (L : Net) (k : Int) (ks td : List Int) : Prop where
  nd : ks.Nodup
  tnd : td.Nodup
  at_ : k ∈ ks
  sub : ∀ x ∈ td, x ∈ ks
  sound : ∀ x ∈ ks, Reach L k x
  closed : ∀ b ∈ ks, b ∉ td → ∀ c, adj L b c = true → c ∈ ks
theorem RInv.few {L : Net} (w : L.WF) {k : Int} (hk : 0 ≤ k ∧ k < L.n) {ks td : List Int} (h : RInv L k ks td) : ks.length ≤ L.n := by
  have := nodup_len_le ks (ir L.n) h.nd fun x m => mem_ir.mpr ((h.sound x m).inn w hk)
  rwa [ir_len] at this
theorem RInv.step {L : Net} (w : L.WF) {k b : Int} {ks td new : List Int} (h : RInv L k ks (td ++ [b])) (hn : ∀ x, x ∈ new ↔ x ∈ nb L b ∧ x ∉ ks) (nn : new.Nodup) : RInv L k (ks ++ new) (td ++ new) where
  nd := List.nodup_append.mpr ⟨h.nd, nn, fun x m y my e => ((hn y).mp my).2 (e ▸ m)⟩
  tnd := List.nodup_append.mpr ⟨(List.nodup_append.mp h.tnd).1, nn, fun x m y my e => ((hn y).mp my).2 (e ▸ h.sub x (List.mem_append_left _ m))⟩
  at_ := List.mem_append_left _ h.at_
  sub := fun x m => by
    rcases List.mem_append.mp m with m | m
    · exact List.mem_append_left _ (h.sub x (List.mem_append_left _ m))
    · exact List.mem_append_right _ m
  sound := fun x m => by
    rcases List.mem_append.mp m with m | m
    · exact h.sound x m
    · exact (h.sound b (h.sub b (by simp))).step ((mem_nb (w := w)).mp ((hn x).mp m).1)
  closed := fun x m no c ha => by
    have no1 : x ∉ td := fun z => no (List.mem_append_left _ z)
    have no2 : x ∉ new := fun z => no (List.mem_append_right _ z)
    have mk : x ∈ ks := (List.mem_append.mp m).resolve_right no2
    by_cases e : x = b
    · subst e
      by_cases q : c ∈ ks
      · exact List.mem_append_left _ q
      · exact List.mem_append_right _ ((hn c).mpr ⟨(mem_nb (w := w)).mpr ha, q⟩)
    · exact List.mem_append_left _ (h.closed x mk (by simp [no1, e]) c ha)
end PG
namespace GT
/-- one tie looked at -/
def half (a b : Int) (got : List Int) : List Int := got ++ if a ∈ got ∧ b ∉ got then [b] else []
def stepT (B : List Int) (got : List Int) (p : Tie × Nat) : List Int := if (p.2 : Int) ∈ B then got else half p.1.2 p.1.1 (half p.1.1 p.1.2 got)
def turnT (N : Net) (B : List Int) (got : List Int) : List Int := N.ties.zipIdx.foldl (stepT B) got
structure HInv (L : Net) (k : Int) (got : List Int) : Prop where
  nd : got.Nodup
  at_ : k ∈ got
  sound : ∀ x ∈ got, Reach L k x
theorem HInv.few {L : Net} (w : L.WF) {k : Int} (hk : 0 ≤ k ∧ k < L.n) {got : List Int} (h : HInv L k got) : got.length ≤ L.n := by
  have := nodup_len_le got (ir L.n) h.nd fun x m => mem_ir.mpr ((h.sound x m).inn w hk)
  rwa [ir_len] at this
def turns (N : Net) (B : List Int) : Nat → List Int → List Int
  | 0, got => got
  | j + 1, got => turns N B j (turnT N B got)
end GT
namespace DL
open PySem L2 GT
end DL
local macro_rules | `(tactic| simp_arith [$xs,*]) => `(tactic| simp only [DL.ob_some, DL.om_some, DL.dat_d, DL.lis_l, DL.dic_m, DL.gt_0, DL.gt_1, DL.gt_2, DL.gt_3, DL.gt_4, DL.gt_5, DL.gt_6, DL.gt_7, DL.gt_b, DL.st_0, DL.st_s, DL.plG_d, DL.plG_n, DL.plainAt_a, DL.varM_a, DL.ownM_a, DL.cM_a, DL.ofL_a, DL.opM_a, DL.unM_a, DL.truM_a, DL.tstM_a, DL.notM_a, DL.cnd_t, DL.cnd_f, DL.andM_a, DL.orM_a, DL.andVM_a, DL.notVM_a, DL.iteM_a, DL.chM_a, DL.nilM_a, DL.consM_a, DL.guard_tt, DL.tupM_a, DL.lstM_a, DL.noM_a, DL.intV_i, DL.someM_a, DL.slM_a, DL.rng1M_a, DL.rng2M_a, DL.zipV_t, DL.zipV_l, DL.zipM_a, DL.seqM_a, DL.callM_a, DL.hereM_a, DL.callRM_a, DL.appM_a, DL.lisV_l, DL.catOwnM_a, DL.newDM_a, DL.putM_a, DL.lenDM_a, DL.sortDM_a, DL.nameG_a, DL.nilG_a, DL.consG_a, DL.tupG_a, DL.seqS_a, DL.seqK_nx, DL.seqK_rt, DL.seqK_ct, DL.skipM_a, DL.asgM_a, DL.asgG_a, DL.newM_a, DL.asgLM_a, DL.retM_a, DL.exprM_a, DL.ifM_a, DL.forM_a, DL.runF_a, DL.finF_rt, DL.finF_nx, DL.runR_a, DL.finR_rt, DL.finR_nx, DL.sz_0, DL.sz_1, DL.sz_2, DL.sz_3, DL.sz_4, DL.sz_5, DL.sz_6, DL.sz_7, DL.sz_8, DL.sz_9, DL.sz_10, DL.sz_11, DL.sz_12, DL.sz_13, DL.sz_14, DL.sz_15, DL.sz_16, DL.sz_17, DL.sz_18, DL.sz_19, DL.sz_20, DL.sz_21, DL.sz_22, DL.sz_23, DL.sz_24, DL.sz_25, DL.sz_26, DL.sz_27, DL.sz_28, DL.sz_29, DL.sz_30, DL.nc_0, DL.nc_1, DL.nc_2, DL.nc_3, DL.nc_4, DL.nc_5, DL.nc_6, DL.nc_7, DL.nc_8, DL.nc_9, DL.nc_10, DL.nc_11, DL.nc_12, DL.nc_13, DL.nc_14, DL.nc_15, DL.nc_16, DL.nc_17, DL.nc_18, DL.nc_19, DL.nc_20, DL.nc_21, DL.nc_22, DL.nc_23, DL.nc_24, DL.nc_25, DL.nc_26, DL.nc_27, DL.nc_28, DL.nc_29, DL.nc_30, DL.addD_i, DL.addD_t, DL.addD_l, DL.subD_i, DL.modD_i, DL.fdivD_i, DL.mulD_i, DL.lenD_t, DL.lenD_l, DL.tupleD_t, DL.tupleD_l, DL.listD_t, DL.listD_l, DL.truD_i, DL.truD_b, DL.truD_n, DL.truD_l, DL.truD_t, DL.ixD_t, DL.ixD_l, DL.negD_i, DL.bD_a, DL.ltB_i, DL.leB_i, DL.eqB_i, DL.neB_i, DL.items_t, DL.items_l, DL.intD_b, DL.isNN, DL.slD_t, DL.slD_l, DL.p_ge0, DL.p_geS, DL.p_tk0, DL.p_tkS, DL.p_tkN, DL.p_dr0, DL.p_drS, DL.p_drN, DL.p_mpC, DL.p_mpN, DL.p_apC, DL.p_apN, DL.p_lnC, DL.p_lnN, DL.p_rpS, DL.p_rp0, DL.p_alC, DL.p_alN, DL.p_gdS, DL.p_gdN, DL.p_tlS, DL.p_tlN, DL.p_ieC, DL.p_ieN, DL.p_nt, DL.p_nf, DL.p_atb, DL.p_afb, DL.p_abt, DL.p_abf, DL.p_eqS, DL.p_dT, DL.p_dF, DL.p_TA, DL.p_AT, DL.p_TO, DL.p_OT, DL.p_startD, DL.p_startR, DL.forK_nx, DL.forK_ct, DL.forK_rt, DL.yesM_a, DL.it1_a, DL.compM_a, DL.wipeR_c, DL.wipeR_n, DL.restR_c, DL.restR_n, DL.gtD_i, DL.gtD_T, DL.ob_assoc, DL.om_bind, DL.ob_map, DL.om_map, DL.cnd_bind, DL.cnd_map, DL.guard_bind, DL.guard_map, DL.atI_c0, DL.atI_c1, DL.atI_c2, DL.atI_c3, DL.encN_0, DL.encN_1, DL.encN_2, DL.encN_u, DL.revD_t, DL.revD_l, DL.eq_TI, DL.ne_TI, DL.enumM_a, DL.exM_a, DL.seqK_ex, DL.finF_ex, DL.forK_ex, DL.tri_no, DL.trm_no, DL.atI_neg1, PG.Sq_written_1_a, PG.Sq_tie_in_1_a, PG.Sq_read_1_a, PG.Sq_read_2_a, PG.Sq_read_3_a, PG.Sq_read_4_a, DL.dkOf_i, DL.keyOf_i, Nat.reduceAdd, Nat.reduceSub, Nat.reduceMul, Int.reduceLT, Int.reduceLE, Int.reducePow, Int.reduceNeg, Int.reduceAdd, Int.reduceSub, Int.reduceMul, Int.reduceBEq, Int.reduceBNe, Int.reduceToNat, $xs,*])
open PySem L2 GT
namespace FA
open PySem L2 DL GT PG
end FA
namespace PG
open PySem L2 DL GT
theorem cut_from {α : Type} (xs : List α) (k : Nat) : cutD xs (some (k : Int)) none = xs.drop k := by
  unfold cutD
  rw [HT.sIx_none, HT.sIx_nat]
  rcases Nat.le_total k xs.length with h | h
  · rw [Nat.min_eq_left h, List.take_of_length_le (by simp)]
  · rw [Nat.min_eq_right h, List.drop_of_length_le h]
    simp
noncomputable def parts (N : Net) (p : Tie × Nat) : Bool := !decide (p.1.2 ∈ GT.reached (GT.without N [(p.2 : Int)]) p.1.1)
end PG
local macro_rules | `(tactic| simp_arith [$xs,*]) => `(tactic| simp (maxSteps := 2000000) (disch := omega) only [DL.ob_some, DL.om_some, DL.dat_d, DL.lis_l, DL.dic_m, DL.gt_0, DL.gt_1, DL.gt_2, DL.gt_3, DL.gt_4, DL.gt_5, DL.gt_6, DL.gt_7, DL.gt_b, DL.st_0, DL.st_s, DL.plG_d, DL.plG_n, DL.plainAt_a, DL.varM_a, DL.ownM_a, DL.cM_a, DL.ofL_a, DL.opM_a, DL.unM_a, DL.truM_a, DL.tstM_a, DL.notM_a, DL.cnd_t, DL.cnd_f, DL.andM_a, DL.orM_a, DL.andVM_a, DL.notVM_a, DL.iteM_a, DL.chM_a, DL.nilM_a, DL.consM_a, DL.guard_tt, DL.tupM_a, DL.lstM_a, DL.noM_a, DL.intV_i, DL.someM_a, DL.slM_a, DL.rng1M_a, DL.rng2M_a, DL.zipV_t, DL.zipV_l, DL.zipM_a, DL.seqM_a, DL.callM_a, DL.hereM_a, DL.callRM_a, DL.appM_a, DL.lisV_l, DL.catOwnM_a, DL.newDM_a, DL.putM_a, DL.lenDM_a, DL.sortDM_a, DL.nameG_a, DL.nilG_a, DL.consG_a, DL.tupG_a, DL.seqS_a, DL.seqK_nx, DL.seqK_rt, DL.seqK_ct, DL.skipM_a, DL.asgM_a, DL.asgG_a, DL.newM_a, DL.asgLM_a, DL.retM_a, DL.exprM_a, DL.ifM_a, DL.forM_a, DL.runF_a, DL.finF_rt, DL.finF_nx, DL.runR_a, DL.finR_rt, DL.finR_nx, DL.sz_0, DL.sz_1, DL.sz_2, DL.sz_3, DL.sz_4, DL.sz_5, DL.sz_6, DL.sz_7, DL.sz_8, DL.sz_9, DL.sz_10, DL.sz_11, DL.sz_12, DL.sz_13, DL.sz_14, DL.sz_15, DL.sz_16, DL.sz_17, DL.sz_18, DL.sz_19, DL.sz_20, DL.sz_21, DL.sz_22, DL.sz_23, DL.sz_24, DL.sz_25, DL.sz_26, DL.sz_27, DL.sz_28, DL.sz_29, DL.sz_30, DL.nc_0, DL.nc_1, DL.nc_2, DL.nc_3, DL.nc_4, DL.nc_5, DL.nc_6, DL.nc_7, DL.nc_8, DL.nc_9, DL.nc_10, DL.nc_11, DL.nc_12, DL.nc_13, DL.nc_14, DL.nc_15, DL.nc_16, DL.nc_17, DL.nc_18, DL.nc_19, DL.nc_20, DL.nc_21, DL.nc_22, DL.nc_23, DL.nc_24, DL.nc_25, DL.nc_26, DL.nc_27, DL.nc_28, DL.nc_29, DL.nc_30, DL.addD_i, DL.addD_t, DL.addD_l, DL.subD_i, DL.modD_i, DL.fdivD_i, DL.mulD_i, DL.lenD_t, DL.lenD_l, DL.tupleD_t, DL.tupleD_l, DL.listD_t, DL.listD_l, DL.truD_i, DL.truD_b, DL.truD_n, DL.truD_l, DL.truD_t, DL.ixD_t, DL.ixD_l, DL.negD_i, DL.bD_a, DL.ltB_i, DL.leB_i, DL.eqB_i, DL.neB_i, DL.items_t, DL.items_l, DL.intD_b, DL.isNN, DL.slD_t, DL.slD_l, DL.p_ge0, DL.p_geS, DL.p_tk0, DL.p_tkS, DL.p_tkN, DL.p_dr0, DL.p_drS, DL.p_drN, DL.p_mpC, DL.p_mpN, DL.p_apC, DL.p_apN, DL.p_lnC, DL.p_lnN, DL.p_rpS, DL.p_rp0, DL.p_alC, DL.p_alN, DL.p_gdS, DL.p_gdN, DL.p_tlS, DL.p_tlN, DL.p_ieC, DL.p_ieN, DL.p_nt, DL.p_nf, DL.p_atb, DL.p_afb, DL.p_abt, DL.p_abf, DL.p_eqS, DL.p_dT, DL.p_dF, DL.p_TA, DL.p_AT, DL.p_TO, DL.p_OT, DL.p_startD, DL.p_startR, DL.forK_nx, DL.forK_ct, DL.forK_rt, DL.yesM_a, DL.it1_a, DL.compM_a, DL.wipeR_c, DL.wipeR_n, DL.restR_c, DL.restR_n, DL.gtD_i, DL.gtD_T, DL.ob_assoc, DL.om_bind, DL.ob_map, DL.om_map, DL.cnd_bind, DL.cnd_map, DL.guard_bind, DL.guard_map, DL.atI_c0, DL.atI_c1, DL.atI_c2, DL.atI_c3, DL.encN_0, DL.encN_1, DL.encN_2, DL.encN_u, DL.revD_t, DL.revD_l, DL.eq_TI, DL.ne_TI, DL.enumM_a, DL.exM_a, DL.seqK_ex, DL.finF_ex, DL.forK_ex, DL.tri_no, DL.trm_no, DL.atI_neg1, DL.wipO_nx, DL.wipO_ct, DL.wipO_bk, DL.wipO_rt, DL.wipO_ex, DL.wipM_a, DL.preM_a, DL.two_a, DL.finR_ex, DL.len_map, DL.len_app, DL.len_ir, DL.len_rev, DL.sz_c, DL.rng_c, DL.rngL_n, DL.forM_a', DL.rev_map, DL.seqK_bk, DL.forK_bk, DL.enum_m, DL.emp_map, PG.Sq_written_1_a, PG.Sq_tie_in_1_a, PG.Sq_read_1_a, PG.Sq_read_2_a, PG.Sq_read_3_a, PG.Sq_read_4_a, DL.eq_LI, DL.ne_LI, DL.eq_LI0, DL.ne_LI0, DL.eq_LT, DL.ne_LT, DL.eq_LR, DL.ne_LR, DL.eq_TR, DL.ne_TR, DL.eq_B, DL.ne_B, DL.wp_mapE, DL.sortDict_map, DL.map_id_int, DL.cut_f, DL.cut_t, DL.cut_f1, DL.map_drop', DL.map_take', DL.map_app', DL.len_zip, DL.dkOf_i, DL.keyOf_i, Nat.reduceAdd, Nat.reduceSub, Nat.reduceMul, Int.reduceLT, Int.reduceLE, Int.reducePow, Int.reduceNeg, Int.reduceAdd, Int.reduceSub, Int.reduceMul, Int.reduceBEq, Int.reduceBNe, Int.reduceToNat, $xs,*])
namespace RX
open PySem L2 DL GT PG
/-! plain: nets without ties -/
/-! a drawn net is one -/
theorem upB_T : ∀ {ts : List Tie}, ts.Pairwise tlt → upB ltD (ts.map encT) = true
  | [], _ => rfl
  | [_], _ => rfl
  | a :: b :: ts, h => by
    have h' := List.pairwise_cons.mp h
    have ih := upB_T h'.2
    have : ltD (encT a) (encT b) = true := by
      have := h'.1 b (by simp)
      unfold ltD ltB
      simp only [encT, intsOf]
      have e := (llt_pair a b).mpr this
      unfold tlt at this
      rcases this with q | ⟨q1, q2⟩
      · simp [HT.lexLt, q]; omega
      · simp [HT.lexLt, q1, q2]; omega
    simp only [List.map_cons] at ih ⊢
    unfold upB
    rw [this, ih]; rfl
theorem upB_I : ∀ {ks : List Int}, ks.Pairwise (· < ·) → upB ltD (ks.map .int) = true
  | [], _ => rfl
  | [_], _ => rfl
  | a :: b :: ks, h => by
    have h' := List.pairwise_cons.mp h
    have ih := upB_I h'.2
    have : ltD (.int a) (.int b) = true := by
      have := h'.1 b (by simp)
      simp [ltD, ltB, this]
    simp only [List.map_cons] at ih ⊢
    unfold upB
    rw [this, ih]; rfl
theorem netD_enc {N : Net} (w : N.WF) (ht : N.ties.length ≤ 9) (hr : N.rim ≠ []) : netD (encN N) = true := by
  have h1 : (N.ties.map encT).all (tieD N.n) = true := by
    rw [List.all_map, List.all_eq_true]
    intro t m
    have := w.tie t m
    simp [tieD]; omega
  have h2 : (N.rim.map PyData.int).all (wholeD · 0 (N.n - 1)) = true := by
    rw [List.all_map, List.all_eq_true]
    intro k m
    have := w.rimIn k m
    simp [wholeD]; omega
  have h3 : (N.rim.map PyData.int).isEmpty = false := by
    cases q : N.rim with
    | nil => exact absurd q hr
    | cons a l => rfl
  have := w.pos; have := w.small
  show ((decide ((1 : Int) ≤ N.n) && decide ((N.n : Int) ≤ 7)) && (decide ((N.ties.map encT).length ≤ 9) && ((N.ties.map encT).all (tieD N.n) && (!(N.rim.map PyData.int).isEmpty && ((N.rim.map PyData.int).all (wholeD · 0 (N.n - 1)) && (upB ltD (N.ties.map encT) && upB ltD (N.rim.map PyData.int))))))) = true
  rw [h1, h2, h3, upB_T w.up, upB_I w.rimUp, List.length_map, decide_eq_true ht, decide_eq_true (show (1 : Int) ≤ N.n by omega), decide_eq_true (show (N.n : Int) ≤ 7 by omega)]
  rfl
end RX
namespace PG
open PySem L2 DL GT RX
/-! what probes show -/
theorem allD_map' {α : Type} (p : α → Bool) (xs : List α) : allD (.list (xs.map fun x => .bool (p x))) = some (.bool (xs.all p)) := allD_map p xs
end PG
local macro_rules | `(tactic| simp_arith [$xs,*]) => `(tactic| simp (maxSteps := 2000000) (disch := omega) only [DL.ob_some, DL.om_some, DL.dat_d, DL.lis_l, DL.dic_m, DL.gt_0, DL.gt_1, DL.gt_2, DL.gt_3, DL.gt_4, DL.gt_5, DL.gt_6, DL.gt_7, DL.gt_b, DL.st_0, DL.st_s, DL.plG_d, DL.plG_n, DL.plainAt_a, DL.varM_a, DL.ownM_a, DL.cM_a, DL.ofL_a, DL.opM_a, DL.unM_a, DL.truM_a, DL.tstM_a, DL.notM_a, DL.cnd_t, DL.cnd_f, DL.andM_a, DL.orM_a, DL.andVM_a, DL.notVM_a, DL.iteM_a, DL.chM_a, DL.nilM_a, DL.consM_a, DL.guard_tt, DL.tupM_a, DL.lstM_a, DL.noM_a, DL.intV_i, DL.someM_a, DL.slM_a, DL.rng1M_a, DL.rng2M_a, DL.zipV_t, DL.zipV_l, DL.zipM_a, DL.seqM_a, DL.callM_a, DL.hereM_a, DL.callRM_a, DL.appM_a, DL.lisV_l, DL.catOwnM_a, DL.newDM_a, DL.putM_a, DL.lenDM_a, DL.sortDM_a, DL.nameG_a, DL.nilG_a, DL.consG_a, DL.tupG_a, DL.seqS_a, DL.seqK_nx, DL.seqK_rt, DL.seqK_ct, DL.skipM_a, DL.asgM_a, DL.asgG_a, DL.newM_a, DL.asgLM_a, DL.retM_a, DL.exprM_a, DL.ifM_a, DL.forM_a, DL.runF_a, DL.finF_rt, DL.finF_nx, DL.runR_a, DL.finR_rt, DL.finR_nx, DL.sz_0, DL.sz_1, DL.sz_2, DL.sz_3, DL.sz_4, DL.sz_5, DL.sz_6, DL.sz_7, DL.sz_8, DL.sz_9, DL.sz_10, DL.sz_11, DL.sz_12, DL.sz_13, DL.sz_14, DL.sz_15, DL.sz_16, DL.sz_17, DL.sz_18, DL.sz_19, DL.sz_20, DL.sz_21, DL.sz_22, DL.sz_23, DL.sz_24, DL.sz_25, DL.sz_26, DL.sz_27, DL.sz_28, DL.sz_29, DL.sz_30, DL.nc_0, DL.nc_1, DL.nc_2, DL.nc_3, DL.nc_4, DL.nc_5, DL.nc_6, DL.nc_7, DL.nc_8, DL.nc_9, DL.nc_10, DL.nc_11, DL.nc_12, DL.nc_13, DL.nc_14, DL.nc_15, DL.nc_16, DL.nc_17, DL.nc_18, DL.nc_19, DL.nc_20, DL.nc_21, DL.nc_22, DL.nc_23, DL.nc_24, DL.nc_25, DL.nc_26, DL.nc_27, DL.nc_28, DL.nc_29, DL.nc_30, DL.addD_i, DL.addD_t, DL.addD_l, DL.subD_i, DL.modD_i, DL.fdivD_i, DL.mulD_i, DL.lenD_t, DL.lenD_l, DL.tupleD_t, DL.tupleD_l, DL.listD_t, DL.listD_l, DL.truD_i, DL.truD_b, DL.truD_n, DL.truD_l, DL.truD_t, DL.ixD_t, DL.ixD_l, DL.negD_i, DL.bD_a, DL.ltB_i, DL.leB_i, DL.eqB_i, DL.neB_i, DL.items_t, DL.items_l, DL.intD_b, DL.isNN, DL.slD_t, DL.slD_l, DL.p_ge0, DL.p_geS, DL.p_tk0, DL.p_tkS, DL.p_tkN, DL.p_dr0, DL.p_drS, DL.p_drN, DL.p_mpC, DL.p_mpN, DL.p_apC, DL.p_apN, DL.p_lnC, DL.p_lnN, DL.p_rpS, DL.p_rp0, DL.p_alC, DL.p_alN, DL.p_gdS, DL.p_gdN, DL.p_tlS, DL.p_tlN, DL.p_ieC, DL.p_ieN, DL.p_nt, DL.p_nf, DL.p_atb, DL.p_afb, DL.p_abt, DL.p_abf, DL.p_eqS, DL.p_dT, DL.p_dF, DL.p_TA, DL.p_AT, DL.p_TO, DL.p_OT, DL.p_startD, DL.p_startR, DL.forK_nx, DL.forK_ct, DL.forK_rt, DL.yesM_a, DL.it1_a, DL.compM_a, DL.wipeR_c, DL.wipeR_n, DL.restR_c, DL.restR_n, DL.gtD_i, DL.gtD_T, DL.ob_assoc, DL.om_bind, DL.ob_map, DL.om_map, DL.cnd_bind, DL.cnd_map, DL.guard_bind, DL.guard_map, DL.atI_c0, DL.atI_c1, DL.atI_c2, DL.atI_c3, DL.encN_0, DL.encN_1, DL.encN_2, DL.encN_u, DL.revD_t, DL.revD_l, DL.eq_TI, DL.ne_TI, DL.enumM_a, DL.exM_a, DL.seqK_ex, DL.finF_ex, DL.forK_ex, DL.tri_no, DL.trm_no, DL.atI_neg1, DL.wipO_nx, DL.wipO_ct, DL.wipO_bk, DL.wipO_rt, DL.wipO_ex, DL.wipM_a, DL.preM_a, DL.two_a, DL.finR_ex, DL.len_map, DL.len_app, DL.len_ir, DL.len_rev, DL.sz_c, DL.rng_c, DL.rngL_n, DL.forM_a', DL.rev_map, DL.seqK_bk, DL.forK_bk, DL.enum_m, DL.emp_map, PG.Sq_written_1_a, PG.Sq_tie_in_1_a, PG.Sq_read_1_a, PG.Sq_read_2_a, PG.Sq_read_3_a, PG.Sq_read_4_a, DL.eq_LI, DL.ne_LI, DL.eq_LI0, DL.ne_LI0, DL.eq_LT, DL.ne_LT, DL.eq_LR, DL.ne_LR, DL.eq_TR, DL.ne_TR, DL.eq_B, DL.ne_B, DL.wp_mapE, DL.sortDict_map, DL.map_id_int, DL.cut_f, DL.cut_t, DL.cut_f1, DL.map_drop', DL.map_take', DL.map_app', DL.len_zip, DL.dkOf_i, DL.keyOf_i, PG.allD_map', Nat.reduceAdd, Nat.reduceSub, Nat.reduceMul, Int.reduceLT, Int.reduceLE, Int.reducePow, Int.reduceNeg, Int.reduceAdd, Int.reduceSub, Int.reduceMul, Int.reduceBEq, Int.reduceBNe, Int.reduceToNat, $xs,*])
namespace PG
open PySem L2 DL GT RX
theorem enum_ir {m : Nat} (g : Int → D) : enumL ((ir m).map g) = (ir m).map fun t => .tuple [.int t, g t] := by
  unfold ir
  rw [List.map_map, List.map_map]
  unfold enumL zipL
  apply List.ext_getElem?
  intro i
  simp only [List.getElem?_zipWith, List.getElem?_map, List.getElem?_range, List.length_map, List.length_range]
  by_cases h : i < m
  · simp [h, pairD]
  · simp [h]
end PG
local macro_rules | `(tactic| simp_arith [$xs,*]) => `(tactic| simp (maxSteps := 2000000) (disch := omega) only [DL.ob_some, DL.om_some, DL.dat_d, DL.lis_l, DL.dic_m, DL.gt_0, DL.gt_1, DL.gt_2, DL.gt_3, DL.gt_4, DL.gt_5, DL.gt_6, DL.gt_7, DL.gt_b, DL.st_0, DL.st_s, DL.plG_d, DL.plG_n, DL.plainAt_a, DL.varM_a, DL.ownM_a, DL.cM_a, DL.ofL_a, DL.opM_a, DL.unM_a, DL.truM_a, DL.tstM_a, DL.notM_a, DL.cnd_t, DL.cnd_f, DL.andM_a, DL.orM_a, DL.andVM_a, DL.notVM_a, DL.iteM_a, DL.chM_a, DL.nilM_a, DL.consM_a, DL.guard_tt, DL.tupM_a, DL.lstM_a, DL.noM_a, DL.intV_i, DL.someM_a, DL.slM_a, DL.rng1M_a, DL.rng2M_a, DL.zipV_t, DL.zipV_l, DL.zipM_a, DL.seqM_a, DL.callM_a, DL.hereM_a, DL.callRM_a, DL.appM_a, DL.lisV_l, DL.catOwnM_a, DL.newDM_a, DL.putM_a, DL.lenDM_a, DL.sortDM_a, DL.nameG_a, DL.nilG_a, DL.consG_a, DL.tupG_a, DL.seqS_a, DL.seqK_nx, DL.seqK_rt, DL.seqK_ct, DL.skipM_a, DL.asgM_a, DL.asgG_a, DL.newM_a, DL.asgLM_a, DL.retM_a, DL.exprM_a, DL.ifM_a, DL.forM_a, DL.runF_a, DL.finF_rt, DL.finF_nx, DL.runR_a, DL.finR_rt, DL.finR_nx, DL.sz_0, DL.sz_1, DL.sz_2, DL.sz_3, DL.sz_4, DL.sz_5, DL.sz_6, DL.sz_7, DL.sz_8, DL.sz_9, DL.sz_10, DL.sz_11, DL.sz_12, DL.sz_13, DL.sz_14, DL.sz_15, DL.sz_16, DL.sz_17, DL.sz_18, DL.sz_19, DL.sz_20, DL.sz_21, DL.sz_22, DL.sz_23, DL.sz_24, DL.sz_25, DL.sz_26, DL.sz_27, DL.sz_28, DL.sz_29, DL.sz_30, DL.nc_0, DL.nc_1, DL.nc_2, DL.nc_3, DL.nc_4, DL.nc_5, DL.nc_6, DL.nc_7, DL.nc_8, DL.nc_9, DL.nc_10, DL.nc_11, DL.nc_12, DL.nc_13, DL.nc_14, DL.nc_15, DL.nc_16, DL.nc_17, DL.nc_18, DL.nc_19, DL.nc_20, DL.nc_21, DL.nc_22, DL.nc_23, DL.nc_24, DL.nc_25, DL.nc_26, DL.nc_27, DL.nc_28, DL.nc_29, DL.nc_30, DL.addD_i, DL.addD_t, DL.addD_l, DL.subD_i, DL.modD_i, DL.fdivD_i, DL.mulD_i, DL.lenD_t, DL.lenD_l, DL.tupleD_t, DL.tupleD_l, DL.listD_t, DL.listD_l, DL.truD_i, DL.truD_b, DL.truD_n, DL.truD_l, DL.truD_t, DL.ixD_t, DL.ixD_l, DL.negD_i, DL.bD_a, DL.ltB_i, DL.leB_i, DL.eqB_i, DL.neB_i, DL.items_t, DL.items_l, DL.intD_b, DL.isNN, DL.slD_t, DL.slD_l, DL.p_ge0, DL.p_geS, DL.p_tk0, DL.p_tkS, DL.p_tkN, DL.p_dr0, DL.p_drS, DL.p_drN, DL.p_mpC, DL.p_mpN, DL.p_apC, DL.p_apN, DL.p_lnC, DL.p_lnN, DL.p_rpS, DL.p_rp0, DL.p_alC, DL.p_alN, DL.p_gdS, DL.p_gdN, DL.p_tlS, DL.p_tlN, DL.p_ieC, DL.p_ieN, DL.p_nt, DL.p_nf, DL.p_atb, DL.p_afb, DL.p_abt, DL.p_abf, DL.p_eqS, DL.p_dT, DL.p_dF, DL.p_TA, DL.p_AT, DL.p_TO, DL.p_OT, DL.p_startD, DL.p_startR, DL.forK_nx, DL.forK_ct, DL.forK_rt, DL.yesM_a, DL.it1_a, DL.compM_a, DL.wipeR_c, DL.wipeR_n, DL.restR_c, DL.restR_n, DL.gtD_i, DL.gtD_T, DL.ob_assoc, DL.om_bind, DL.ob_map, DL.om_map, DL.cnd_bind, DL.cnd_map, DL.guard_bind, DL.guard_map, DL.atI_c0, DL.atI_c1, DL.atI_c2, DL.atI_c3, DL.encN_0, DL.encN_1, DL.encN_2, DL.encN_u, DL.revD_t, DL.revD_l, DL.eq_TI, DL.ne_TI, DL.enumM_a, DL.exM_a, DL.seqK_ex, DL.finF_ex, DL.forK_ex, DL.tri_no, DL.trm_no, DL.atI_neg1, DL.wipO_nx, DL.wipO_ct, DL.wipO_bk, DL.wipO_rt, DL.wipO_ex, DL.wipM_a, DL.preM_a, DL.two_a, DL.finR_ex, DL.len_map, DL.len_app, DL.len_ir, DL.len_rev, DL.sz_c, DL.rng_c, DL.rngL_n, DL.forM_a', DL.rev_map, DL.seqK_bk, DL.forK_bk, DL.enum_m, DL.emp_map, PG.Sq_written_1_a, PG.Sq_tie_in_1_a, PG.Sq_read_1_a, PG.Sq_read_2_a, PG.Sq_read_3_a, PG.Sq_read_4_a, DL.eq_LI, DL.ne_LI, DL.eq_LI0, DL.ne_LI0, DL.eq_LT, DL.ne_LT, DL.eq_LR, DL.ne_LR, DL.eq_TR, DL.ne_TR, DL.eq_B, DL.ne_B, DL.wp_mapE, DL.sortDict_map, DL.map_id_int, DL.cut_f, DL.cut_t, DL.cut_f1, DL.map_drop', DL.map_take', DL.map_app', DL.len_zip, DL.dkOf_i, DL.keyOf_i, PG.allD_map', PG.enum_ir, Nat.reduceAdd, Nat.reduceSub, Nat.reduceMul, Int.reduceLT, Int.reduceLE, Int.reducePow, Int.reduceNeg, Int.reduceAdd, Int.reduceSub, Int.reduceMul, Int.reduceBEq, Int.reduceBNe, Int.reduceToNat, $xs,*])
namespace PG
open PySem L2 DL GT RX
/-! groups -/
end PG
namespace DL
open PySem L2 GT
end DL
local macro_rules | `(tactic| simp_arith [$xs,*]) => `(tactic| simp (maxSteps := 2000000) (disch := omega) only [DL.ob_some, DL.om_some, DL.dat_d, DL.lis_l, DL.dic_m, DL.gt_0, DL.gt_1, DL.gt_2, DL.gt_3, DL.gt_4, DL.gt_5, DL.gt_6, DL.gt_7, DL.gt_b, DL.st_0, DL.st_s, DL.plG_d, DL.plG_n, DL.plainAt_a, DL.varM_a, DL.ownM_a, DL.cM_a, DL.ofL_a, DL.opM_a, DL.unM_a, DL.truM_a, DL.tstM_a, DL.notM_a, DL.cnd_t, DL.cnd_f, DL.andM_a, DL.orM_a, DL.andVM_a, DL.notVM_a, DL.iteM_a, DL.chM_a, DL.nilM_a, DL.consM_a, DL.guard_tt, DL.tupM_a, DL.lstM_a, DL.noM_a, DL.intV_i, DL.someM_a, DL.slM_a, DL.rng1M_a, DL.rng2M_a, DL.zipV_t, DL.zipV_l, DL.zipM_a, DL.seqM_a, DL.callM_a, DL.hereM_a, DL.callRM_a, DL.appM_a, DL.lisV_l, DL.catOwnM_a, DL.newDM_a, DL.putM_a, DL.lenDM_a, DL.sortDM_a, DL.nameG_a, DL.nilG_a, DL.consG_a, DL.tupG_a, DL.seqS_a, DL.seqK_nx, DL.seqK_rt, DL.seqK_ct, DL.skipM_a, DL.asgM_a, DL.asgG_a, DL.newM_a, DL.asgLM_a, DL.retM_a, DL.exprM_a, DL.ifM_a, DL.forM_a, DL.runF_a, DL.finF_rt, DL.finF_nx, DL.runR_a, DL.finR_rt, DL.finR_nx, DL.sz_0, DL.sz_1, DL.sz_2, DL.sz_3, DL.sz_4, DL.sz_5, DL.sz_6, DL.sz_7, DL.sz_8, DL.sz_9, DL.sz_10, DL.sz_11, DL.sz_12, DL.sz_13, DL.sz_14, DL.sz_15, DL.sz_16, DL.sz_17, DL.sz_18, DL.sz_19, DL.sz_20, DL.sz_21, DL.sz_22, DL.sz_23, DL.sz_24, DL.sz_25, DL.sz_26, DL.sz_27, DL.sz_28, DL.sz_29, DL.sz_30, DL.nc_0, DL.nc_1, DL.nc_2, DL.nc_3, DL.nc_4, DL.nc_5, DL.nc_6, DL.nc_7, DL.nc_8, DL.nc_9, DL.nc_10, DL.nc_11, DL.nc_12, DL.nc_13, DL.nc_14, DL.nc_15, DL.nc_16, DL.nc_17, DL.nc_18, DL.nc_19, DL.nc_20, DL.nc_21, DL.nc_22, DL.nc_23, DL.nc_24, DL.nc_25, DL.nc_26, DL.nc_27, DL.nc_28, DL.nc_29, DL.nc_30, DL.addD_i, DL.addD_t, DL.addD_l, DL.subD_i, DL.modD_i, DL.fdivD_i, DL.mulD_i, DL.lenD_t, DL.lenD_l, DL.tupleD_t, DL.tupleD_l, DL.listD_t, DL.listD_l, DL.truD_i, DL.truD_b, DL.truD_n, DL.truD_l, DL.truD_t, DL.ixD_t, DL.ixD_l, DL.negD_i, DL.bD_a, DL.ltB_i, DL.leB_i, DL.eqB_i, DL.neB_i, DL.items_t, DL.items_l, DL.intD_b, DL.isNN, DL.slD_t, DL.slD_l, DL.p_ge0, DL.p_geS, DL.p_tk0, DL.p_tkS, DL.p_tkN, DL.p_dr0, DL.p_drS, DL.p_drN, DL.p_mpC, DL.p_mpN, DL.p_apC, DL.p_apN, DL.p_lnC, DL.p_lnN, DL.p_rpS, DL.p_rp0, DL.p_alC, DL.p_alN, DL.p_gdS, DL.p_gdN, DL.p_tlS, DL.p_tlN, DL.p_ieC, DL.p_ieN, DL.p_nt, DL.p_nf, DL.p_atb, DL.p_afb, DL.p_abt, DL.p_abf, DL.p_eqS, DL.p_dT, DL.p_dF, DL.p_TA, DL.p_AT, DL.p_TO, DL.p_OT, DL.p_startD, DL.p_startR, DL.forK_nx, DL.forK_ct, DL.forK_rt, DL.yesM_a, DL.it1_a, DL.compM_a, DL.wipeR_c, DL.wipeR_n, DL.restR_c, DL.restR_n, DL.gtD_i, DL.gtD_T, DL.ob_assoc, DL.om_bind, DL.ob_map, DL.om_map, DL.cnd_bind, DL.cnd_map, DL.guard_bind, DL.guard_map, DL.atI_c0, DL.atI_c1, DL.atI_c2, DL.atI_c3, DL.encN_0, DL.encN_1, DL.encN_2, DL.encN_u, DL.revD_t, DL.revD_l, DL.eq_TI, DL.ne_TI, DL.enumM_a, DL.exM_a, DL.seqK_ex, DL.finF_ex, DL.forK_ex, DL.tri_no, DL.trm_no, DL.atI_neg1, DL.wipO_nx, DL.wipO_ct, DL.wipO_bk, DL.wipO_rt, DL.wipO_ex, DL.wipM_a, DL.preM_a, DL.two_a, DL.finR_ex, DL.len_map, DL.len_app, DL.len_ir, DL.len_rev, DL.sz_c, DL.rng_c, DL.rngL_n, DL.forM_a', DL.rev_map, DL.seqK_bk, DL.forK_bk, DL.enum_m, DL.emp_map, PG.Sq_written_1_a, PG.Sq_tie_in_1_a, PG.Sq_read_1_a, PG.Sq_read_2_a, PG.Sq_read_3_a, PG.Sq_read_4_a, DL.eq_LI, DL.ne_LI, DL.eq_LI0, DL.ne_LI0, DL.eq_LT, DL.ne_LT, DL.eq_LR, DL.ne_LR, DL.eq_TR, DL.ne_TR, DL.eq_B, DL.ne_B, DL.wp_mapE, DL.sortDict_map, DL.map_id_int, DL.cut_f, DL.cut_t, DL.cut_f1, DL.map_drop', DL.map_take', DL.map_app', DL.len_zip, DL.dkOf_i, DL.keyOf_i, PG.allD_map', PG.enum_ir, Nat.reduceAdd, Nat.reduceSub, Nat.reduceMul, Int.reduceLT, Int.reduceLE, Int.reducePow, Int.reduceNeg, Int.reduceAdd, Int.reduceSub, Int.reduceMul, Int.reduceBEq, Int.reduceBNe, Int.reduceToNat, $xs,*])
namespace PG
open PySem L2 DL GT RX
/-! suspects -/
theorem eq_BB (a b : List Bool) : eqB (.tuple (a.map .bool)) (.tuple (b.map .bool)) = some (decide (a = b)) := eq_one (encF_tup encF_bool) (by decide) a b
theorem ne_BB (a b : List Bool) : neB (.tuple (a.map .bool)) (.tuple (b.map .bool)) = some (!decide (a = b)) := ne_one (encF_tup encF_bool) (by decide) a b
end PG
local macro_rules | `(tactic| simp_arith [$xs,*]) => `(tactic| simp (maxSteps := 2000000) (disch := omega) only [DL.ob_some, DL.om_some, DL.dat_d, DL.lis_l, DL.dic_m, DL.gt_0, DL.gt_1, DL.gt_2, DL.gt_3, DL.gt_4, DL.gt_5, DL.gt_6, DL.gt_7, DL.gt_b, DL.st_0, DL.st_s, DL.plG_d, DL.plG_n, DL.plainAt_a, DL.varM_a, DL.ownM_a, DL.cM_a, DL.ofL_a, DL.opM_a, DL.unM_a, DL.truM_a, DL.tstM_a, DL.notM_a, DL.cnd_t, DL.cnd_f, DL.andM_a, DL.orM_a, DL.andVM_a, DL.notVM_a, DL.iteM_a, DL.chM_a, DL.nilM_a, DL.consM_a, DL.guard_tt, DL.tupM_a, DL.lstM_a, DL.noM_a, DL.intV_i, DL.someM_a, DL.slM_a, DL.rng1M_a, DL.rng2M_a, DL.zipV_t, DL.zipV_l, DL.zipM_a, DL.seqM_a, DL.callM_a, DL.hereM_a, DL.callRM_a, DL.appM_a, DL.lisV_l, DL.catOwnM_a, DL.newDM_a, DL.putM_a, DL.lenDM_a, DL.sortDM_a, DL.nameG_a, DL.nilG_a, DL.consG_a, DL.tupG_a, DL.seqS_a, DL.seqK_nx, DL.seqK_rt, DL.seqK_ct, DL.skipM_a, DL.asgM_a, DL.asgG_a, DL.newM_a, DL.asgLM_a, DL.retM_a, DL.exprM_a, DL.ifM_a, DL.forM_a, DL.runF_a, DL.finF_rt, DL.finF_nx, DL.runR_a, DL.finR_rt, DL.finR_nx, DL.sz_0, DL.sz_1, DL.sz_2, DL.sz_3, DL.sz_4, DL.sz_5, DL.sz_6, DL.sz_7, DL.sz_8, DL.sz_9, DL.sz_10, DL.sz_11, DL.sz_12, DL.sz_13, DL.sz_14, DL.sz_15, DL.sz_16, DL.sz_17, DL.sz_18, DL.sz_19, DL.sz_20, DL.sz_21, DL.sz_22, DL.sz_23, DL.sz_24, DL.sz_25, DL.sz_26, DL.sz_27, DL.sz_28, DL.sz_29, DL.sz_30, DL.nc_0, DL.nc_1, DL.nc_2, DL.nc_3, DL.nc_4, DL.nc_5, DL.nc_6, DL.nc_7, DL.nc_8, DL.nc_9, DL.nc_10, DL.nc_11, DL.nc_12, DL.nc_13, DL.nc_14, DL.nc_15, DL.nc_16, DL.nc_17, DL.nc_18, DL.nc_19, DL.nc_20, DL.nc_21, DL.nc_22, DL.nc_23, DL.nc_24, DL.nc_25, DL.nc_26, DL.nc_27, DL.nc_28, DL.nc_29, DL.nc_30, DL.addD_i, DL.addD_t, DL.addD_l, DL.subD_i, DL.modD_i, DL.fdivD_i, DL.mulD_i, DL.lenD_t, DL.lenD_l, DL.tupleD_t, DL.tupleD_l, DL.listD_t, DL.listD_l, DL.truD_i, DL.truD_b, DL.truD_n, DL.truD_l, DL.truD_t, DL.ixD_t, DL.ixD_l, DL.negD_i, DL.bD_a, DL.ltB_i, DL.leB_i, DL.eqB_i, DL.neB_i, DL.items_t, DL.items_l, DL.intD_b, DL.isNN, DL.slD_t, DL.slD_l, DL.p_ge0, DL.p_geS, DL.p_tk0, DL.p_tkS, DL.p_tkN, DL.p_dr0, DL.p_drS, DL.p_drN, DL.p_mpC, DL.p_mpN, DL.p_apC, DL.p_apN, DL.p_lnC, DL.p_lnN, DL.p_rpS, DL.p_rp0, DL.p_alC, DL.p_alN, DL.p_gdS, DL.p_gdN, DL.p_tlS, DL.p_tlN, DL.p_ieC, DL.p_ieN, DL.p_nt, DL.p_nf, DL.p_atb, DL.p_afb, DL.p_abt, DL.p_abf, DL.p_eqS, DL.p_dT, DL.p_dF, DL.p_TA, DL.p_AT, DL.p_TO, DL.p_OT, DL.p_startD, DL.p_startR, DL.forK_nx, DL.forK_ct, DL.forK_rt, DL.yesM_a, DL.it1_a, DL.compM_a, DL.wipeR_c, DL.wipeR_n, DL.restR_c, DL.restR_n, DL.gtD_i, DL.gtD_T, DL.ob_assoc, DL.om_bind, DL.ob_map, DL.om_map, DL.cnd_bind, DL.cnd_map, DL.guard_bind, DL.guard_map, DL.atI_c0, DL.atI_c1, DL.atI_c2, DL.atI_c3, DL.encN_0, DL.encN_1, DL.encN_2, DL.encN_u, DL.revD_t, DL.revD_l, DL.eq_TI, DL.ne_TI, DL.enumM_a, DL.exM_a, DL.seqK_ex, DL.finF_ex, DL.forK_ex, DL.tri_no, DL.trm_no, DL.atI_neg1, DL.wipO_nx, DL.wipO_ct, DL.wipO_bk, DL.wipO_rt, DL.wipO_ex, DL.wipM_a, DL.preM_a, DL.two_a, DL.finR_ex, DL.len_map, DL.len_app, DL.len_ir, DL.len_rev, DL.sz_c, DL.rng_c, DL.rngL_n, DL.forM_a', DL.rev_map, DL.seqK_bk, DL.forK_bk, DL.enum_m, DL.emp_map, PG.Sq_written_1_a, PG.Sq_tie_in_1_a, PG.Sq_read_1_a, PG.Sq_read_2_a, PG.Sq_read_3_a, PG.Sq_read_4_a, DL.eq_LI, DL.ne_LI, DL.eq_LI0, DL.ne_LI0, DL.eq_LT, DL.ne_LT, DL.eq_LR, DL.ne_LR, DL.eq_TR, DL.ne_TR, DL.eq_B, DL.ne_B, DL.wp_mapE, DL.sortDict_map, DL.map_id_int, DL.cut_f, DL.cut_t, DL.cut_f1, DL.map_drop', DL.map_take', DL.map_app', DL.len_zip, DL.dkOf_i, DL.keyOf_i, PG.allD_map', PG.enum_ir, PG.eq_BB, PG.ne_BB, Nat.reduceAdd, Nat.reduceSub, Nat.reduceMul, Int.reduceLT, Int.reduceLE, Int.reducePow, Int.reduceNeg, Int.reduceAdd, Int.reduceSub, Int.reduceMul, Int.reduceBEq, Int.reduceBNe, Int.reduceToNat, $xs,*])
namespace PG
open PySem L2 DL GT RX
end PG
namespace DL
open PySem L2 GT
def finX : Out → Option (Except String D)
  | .rt d _ => some (.ok d)
  | .nx _ => some (.ok .none)
  | .ex c _ => some (.error c)
  | _ => none
theorem runX_a (N : List Str) (b : SM) (ds : List D) : runX N b ds = (b (startD N ds)).bind finX := by
  unfold runX
  cases b (startD N ds) with
  | none => rfl
  | some o => cases o <;> rfl
theorem finX_rt (d : D) (r : Rho) : finX (.rt d r) = some (.ok d) := (rfl)
theorem finX_ex (c : String) (r : Rho) : finX (.ex c r) = some (.error c) := (rfl)
def tryK (i : Nat) (c : String) (h : SM) (r : Rho) : Except String D → Option Out
  | .ok d => some (.nx (r.set i (some (.d d))))
  | .error c' => if c' = c then h r else none
theorem tryM_a (i : Nat) (g : List D → Option (Except String D)) (f : AM) (c : String) (h : SM) (r : Rho) : tryM i g f c h r = (f r).bind fun p => (g p.1).bind (tryK i c h p.2) := by
  unfold tryM
  cases f r with
  | none => rfl
  | some p =>
    simp only [Option.bind_some]
    cases g p.1 with
    | none => rfl
    | some o => cases o <;> rfl
theorem tryK_ok (i : Nat) (c : String) (h : SM) (r : Rho) (d : D) : tryK i c h r (.ok d) = some (.nx (r.set i (some (.d d)))) := (rfl)
theorem tryK_er (i : Nat) (c : String) (h : SM) (r : Rho) : tryK i c h r (.error c) = h r := if_pos rfl
theorem finX_nx (r : Rho) : finX (.nx r) = some (.ok .none) := (rfl)
theorem isN_i (i : Int) : isB (.int i) .none = some false := (rfl)
def rg (a b : Int) : List Int := (List.range (b - a).toNat).map fun (i : Nat) => a + (i : Int)
theorem rngL_g1 (a b : Int) : rngL (a + 1) b = (rg (a + 1) b).map .int := rngL_eq (a + 1) b
end DL
local macro_rules | `(tactic| simp_arith [$xs,*]) => `(tactic| simp (maxSteps := 2000000) (disch := omega) only [DL.ob_some, DL.om_some, DL.dat_d, DL.lis_l, DL.dic_m, DL.gt_0, DL.gt_1, DL.gt_2, DL.gt_3, DL.gt_4, DL.gt_5, DL.gt_6, DL.gt_7, DL.gt_b, DL.st_0, DL.st_s, DL.plG_d, DL.plG_n, DL.plainAt_a, DL.varM_a, DL.ownM_a, DL.cM_a, DL.ofL_a, DL.opM_a, DL.unM_a, DL.truM_a, DL.tstM_a, DL.notM_a, DL.cnd_t, DL.cnd_f, DL.andM_a, DL.orM_a, DL.andVM_a, DL.notVM_a, DL.iteM_a, DL.chM_a, DL.nilM_a, DL.consM_a, DL.guard_tt, DL.tupM_a, DL.lstM_a, DL.noM_a, DL.intV_i, DL.someM_a, DL.slM_a, DL.rng1M_a, DL.rng2M_a, DL.zipV_t, DL.zipV_l, DL.zipM_a, DL.seqM_a, DL.callM_a, DL.hereM_a, DL.callRM_a, DL.appM_a, DL.lisV_l, DL.catOwnM_a, DL.newDM_a, DL.putM_a, DL.lenDM_a, DL.sortDM_a, DL.nameG_a, DL.nilG_a, DL.consG_a, DL.tupG_a, DL.seqS_a, DL.seqK_nx, DL.seqK_rt, DL.seqK_ct, DL.skipM_a, DL.asgM_a, DL.asgG_a, DL.newM_a, DL.asgLM_a, DL.retM_a, DL.exprM_a, DL.ifM_a, DL.forM_a, DL.runF_a, DL.finF_rt, DL.finF_nx, DL.runR_a, DL.finR_rt, DL.finR_nx, DL.sz_0, DL.sz_1, DL.sz_2, DL.sz_3, DL.sz_4, DL.sz_5, DL.sz_6, DL.sz_7, DL.sz_8, DL.sz_9, DL.sz_10, DL.sz_11, DL.sz_12, DL.sz_13, DL.sz_14, DL.sz_15, DL.sz_16, DL.sz_17, DL.sz_18, DL.sz_19, DL.sz_20, DL.sz_21, DL.sz_22, DL.sz_23, DL.sz_24, DL.sz_25, DL.sz_26, DL.sz_27, DL.sz_28, DL.sz_29, DL.sz_30, DL.nc_0, DL.nc_1, DL.nc_2, DL.nc_3, DL.nc_4, DL.nc_5, DL.nc_6, DL.nc_7, DL.nc_8, DL.nc_9, DL.nc_10, DL.nc_11, DL.nc_12, DL.nc_13, DL.nc_14, DL.nc_15, DL.nc_16, DL.nc_17, DL.nc_18, DL.nc_19, DL.nc_20, DL.nc_21, DL.nc_22, DL.nc_23, DL.nc_24, DL.nc_25, DL.nc_26, DL.nc_27, DL.nc_28, DL.nc_29, DL.nc_30, DL.addD_i, DL.addD_t, DL.addD_l, DL.subD_i, DL.modD_i, DL.fdivD_i, DL.mulD_i, DL.lenD_t, DL.lenD_l, DL.tupleD_t, DL.tupleD_l, DL.listD_t, DL.listD_l, DL.truD_i, DL.truD_b, DL.truD_n, DL.truD_l, DL.truD_t, DL.ixD_t, DL.ixD_l, DL.negD_i, DL.bD_a, DL.ltB_i, DL.leB_i, DL.eqB_i, DL.neB_i, DL.items_t, DL.items_l, DL.intD_b, DL.isNN, DL.slD_t, DL.slD_l, DL.p_ge0, DL.p_geS, DL.p_tk0, DL.p_tkS, DL.p_tkN, DL.p_dr0, DL.p_drS, DL.p_drN, DL.p_mpC, DL.p_mpN, DL.p_apC, DL.p_apN, DL.p_lnC, DL.p_lnN, DL.p_rpS, DL.p_rp0, DL.p_alC, DL.p_alN, DL.p_gdS, DL.p_gdN, DL.p_tlS, DL.p_tlN, DL.p_ieC, DL.p_ieN, DL.p_nt, DL.p_nf, DL.p_atb, DL.p_afb, DL.p_abt, DL.p_abf, DL.p_eqS, DL.p_dT, DL.p_dF, DL.p_TA, DL.p_AT, DL.p_TO, DL.p_OT, DL.p_startD, DL.p_startR, DL.forK_nx, DL.forK_ct, DL.forK_rt, DL.yesM_a, DL.it1_a, DL.compM_a, DL.wipeR_c, DL.wipeR_n, DL.restR_c, DL.restR_n, DL.gtD_i, DL.gtD_T, DL.ob_assoc, DL.om_bind, DL.ob_map, DL.om_map, DL.cnd_bind, DL.cnd_map, DL.guard_bind, DL.guard_map, DL.atI_c0, DL.atI_c1, DL.atI_c2, DL.atI_c3, DL.encN_0, DL.encN_1, DL.encN_2, DL.encN_u, DL.revD_t, DL.revD_l, DL.eq_TI, DL.ne_TI, DL.enumM_a, DL.exM_a, DL.seqK_ex, DL.finF_ex, DL.forK_ex, DL.tri_no, DL.trm_no, DL.atI_neg1, DL.wipO_nx, DL.wipO_ct, DL.wipO_bk, DL.wipO_rt, DL.wipO_ex, DL.wipM_a, DL.preM_a, DL.two_a, DL.finR_ex, DL.len_map, DL.len_app, DL.len_ir, DL.len_rev, DL.sz_c, DL.rng_c, DL.rngL_n, DL.forM_a', DL.rev_map, DL.seqK_bk, DL.forK_bk, DL.enum_m, DL.emp_map, PG.Sq_written_1_a, PG.Sq_tie_in_1_a, PG.Sq_read_1_a, PG.Sq_read_2_a, PG.Sq_read_3_a, PG.Sq_read_4_a, DL.eq_LI, DL.ne_LI, DL.eq_LI0, DL.ne_LI0, DL.eq_LT, DL.ne_LT, DL.eq_LR, DL.ne_LR, DL.eq_TR, DL.ne_TR, DL.eq_B, DL.ne_B, DL.wp_mapE, DL.sortDict_map, DL.map_id_int, DL.cut_f, DL.cut_t, DL.cut_f1, DL.map_drop', DL.map_take', DL.map_app', DL.len_zip, DL.dkOf_i, DL.keyOf_i, PG.allD_map', PG.enum_ir, PG.eq_BB, PG.ne_BB, DL.runX_a, DL.finX_rt, DL.finX_ex, DL.tryM_a, DL.tryK_ok, DL.tryK_er, DL.finX_nx, DL.isN_i, DL.rngL_g1, Nat.reduceAdd, Nat.reduceSub, Nat.reduceMul, Int.reduceLT, Int.reduceLE, Int.reducePow, Int.reduceNeg, Int.reduceAdd, Int.reduceSub, Int.reduceMul, Int.reduceBEq, Int.reduceBNe, Int.reduceToNat, $xs,*])
namespace DL
open PySem L2 GT
/-! own dicts under rows, own things handed on: evaluation -/
/-! what stands under a row -/
end DL
local macro_rules | `(tactic| simp_arith [$xs,*]) => `(tactic| simp (maxSteps := 2000000) (disch := omega) only [DL.ob_some, DL.om_some, DL.dat_d, DL.lis_l, DL.dic_m, DL.gt_0, DL.gt_1, DL.gt_2, DL.gt_3, DL.gt_4, DL.gt_5, DL.gt_6, DL.gt_7, DL.gt_b, DL.st_0, DL.st_s, DL.plG_d, DL.plG_n, DL.plainAt_a, DL.varM_a, DL.ownM_a, DL.cM_a, DL.ofL_a, DL.opM_a, DL.unM_a, DL.truM_a, DL.tstM_a, DL.notM_a, DL.cnd_t, DL.cnd_f, DL.andM_a, DL.orM_a, DL.andVM_a, DL.notVM_a, DL.iteM_a, DL.chM_a, DL.nilM_a, DL.consM_a, DL.guard_tt, DL.tupM_a, DL.lstM_a, DL.noM_a, DL.intV_i, DL.someM_a, DL.slM_a, DL.rng1M_a, DL.rng2M_a, DL.zipV_t, DL.zipV_l, DL.zipM_a, DL.seqM_a, DL.callM_a, DL.hereM_a, DL.callRM_a, DL.appM_a, DL.lisV_l, DL.catOwnM_a, DL.newDM_a, DL.putM_a, DL.lenDM_a, DL.sortDM_a, DL.nameG_a, DL.nilG_a, DL.consG_a, DL.tupG_a, DL.seqS_a, DL.seqK_nx, DL.seqK_rt, DL.seqK_ct, DL.skipM_a, DL.asgM_a, DL.asgG_a, DL.newM_a, DL.asgLM_a, DL.retM_a, DL.exprM_a, DL.ifM_a, DL.forM_a, DL.runF_a, DL.finF_rt, DL.finF_nx, DL.runR_a, DL.finR_rt, DL.finR_nx, DL.sz_0, DL.sz_1, DL.sz_2, DL.sz_3, DL.sz_4, DL.sz_5, DL.sz_6, DL.sz_7, DL.sz_8, DL.sz_9, DL.sz_10, DL.sz_11, DL.sz_12, DL.sz_13, DL.sz_14, DL.sz_15, DL.sz_16, DL.sz_17, DL.sz_18, DL.sz_19, DL.sz_20, DL.sz_21, DL.sz_22, DL.sz_23, DL.sz_24, DL.sz_25, DL.sz_26, DL.sz_27, DL.sz_28, DL.sz_29, DL.sz_30, DL.nc_0, DL.nc_1, DL.nc_2, DL.nc_3, DL.nc_4, DL.nc_5, DL.nc_6, DL.nc_7, DL.nc_8, DL.nc_9, DL.nc_10, DL.nc_11, DL.nc_12, DL.nc_13, DL.nc_14, DL.nc_15, DL.nc_16, DL.nc_17, DL.nc_18, DL.nc_19, DL.nc_20, DL.nc_21, DL.nc_22, DL.nc_23, DL.nc_24, DL.nc_25, DL.nc_26, DL.nc_27, DL.nc_28, DL.nc_29, DL.nc_30, DL.addD_i, DL.addD_t, DL.addD_l, DL.subD_i, DL.modD_i, DL.fdivD_i, DL.mulD_i, DL.lenD_t, DL.lenD_l, DL.tupleD_t, DL.tupleD_l, DL.listD_t, DL.listD_l, DL.truD_i, DL.truD_b, DL.truD_n, DL.truD_l, DL.truD_t, DL.ixD_t, DL.ixD_l, DL.negD_i, DL.bD_a, DL.ltB_i, DL.leB_i, DL.eqB_i, DL.neB_i, DL.items_t, DL.items_l, DL.intD_b, DL.isNN, DL.slD_t, DL.slD_l, DL.p_ge0, DL.p_geS, DL.p_tk0, DL.p_tkS, DL.p_tkN, DL.p_dr0, DL.p_drS, DL.p_drN, DL.p_mpC, DL.p_mpN, DL.p_apC, DL.p_apN, DL.p_lnC, DL.p_lnN, DL.p_rpS, DL.p_rp0, DL.p_alC, DL.p_alN, DL.p_gdS, DL.p_gdN, DL.p_tlS, DL.p_tlN, DL.p_ieC, DL.p_ieN, DL.p_nt, DL.p_nf, DL.p_atb, DL.p_afb, DL.p_abt, DL.p_abf, DL.p_eqS, DL.p_dT, DL.p_dF, DL.p_TA, DL.p_AT, DL.p_TO, DL.p_OT, DL.p_startD, DL.p_startR, DL.forK_nx, DL.forK_ct, DL.forK_rt, DL.yesM_a, DL.it1_a, DL.compM_a, DL.wipeR_c, DL.wipeR_n, DL.restR_c, DL.restR_n, DL.gtD_i, DL.gtD_T, DL.ob_assoc, DL.om_bind, DL.ob_map, DL.om_map, DL.cnd_bind, DL.cnd_map, DL.guard_bind, DL.guard_map, DL.atI_c0, DL.atI_c1, DL.atI_c2, DL.atI_c3, DL.encN_0, DL.encN_1, DL.encN_2, DL.encN_u, DL.revD_t, DL.revD_l, DL.eq_TI, DL.ne_TI, DL.enumM_a, DL.exM_a, DL.seqK_ex, DL.finF_ex, DL.forK_ex, DL.tri_no, DL.trm_no, DL.atI_neg1, DL.wipO_nx, DL.wipO_ct, DL.wipO_bk, DL.wipO_rt, DL.wipO_ex, DL.wipM_a, DL.preM_a, DL.two_a, DL.finR_ex, DL.len_map, DL.len_app, DL.len_ir, DL.len_rev, DL.sz_c, DL.rng_c, DL.rngL_n, DL.forM_a', DL.rev_map, DL.seqK_bk, DL.forK_bk, DL.enum_m, DL.emp_map, PG.Sq_written_1_a, PG.Sq_tie_in_1_a, PG.Sq_read_1_a, PG.Sq_read_2_a, PG.Sq_read_3_a, PG.Sq_read_4_a, DL.eq_LI, DL.ne_LI, DL.eq_LI0, DL.ne_LI0, DL.eq_LT, DL.ne_LT, DL.eq_LR, DL.ne_LR, DL.eq_TR, DL.ne_TR, DL.eq_B, DL.ne_B, DL.wp_mapE, DL.sortDict_map, DL.map_id_int, DL.cut_f, DL.cut_t, DL.cut_f1, DL.map_drop', DL.map_take', DL.map_app', DL.len_zip, DL.dkOf_i, DL.keyOf_i, PG.allD_map', PG.enum_ir, PG.eq_BB, PG.ne_BB, DL.runX_a, DL.finX_rt, DL.finX_ex, DL.tryM_a, DL.tryK_ok, DL.tryK_er, DL.finX_nx, DL.isN_i, DL.rngL_g1, Nat.reduceAdd, Nat.reduceSub, Nat.reduceMul, Int.reduceLT, Int.reduceLE, Int.reducePow, Int.reduceNeg, Int.reduceAdd, Int.reduceSub, Int.reduceMul, Int.reduceBEq, Int.reduceBNe, Int.reduceToNat, $xs,*])
namespace DL
open PySem L2
/-! seekers -/
end DL
local macro_rules | `(tactic| simp_arith [$xs,*]) => `(tactic| simp (maxSteps := 2000000) (disch := omega) only [DL.ob_some, DL.om_some, DL.dat_d, DL.lis_l, DL.dic_m, DL.gt_0, DL.gt_1, DL.gt_2, DL.gt_3, DL.gt_4, DL.gt_5, DL.gt_6, DL.gt_7, DL.gt_b, DL.st_0, DL.st_s, DL.plG_d, DL.plG_n, DL.plainAt_a, DL.varM_a, DL.ownM_a, DL.cM_a, DL.ofL_a, DL.opM_a, DL.unM_a, DL.truM_a, DL.tstM_a, DL.notM_a, DL.cnd_t, DL.cnd_f, DL.andM_a, DL.orM_a, DL.andVM_a, DL.notVM_a, DL.iteM_a, DL.chM_a, DL.nilM_a, DL.consM_a, DL.guard_tt, DL.tupM_a, DL.lstM_a, DL.noM_a, DL.intV_i, DL.someM_a, DL.slM_a, DL.rng1M_a, DL.rng2M_a, DL.zipV_t, DL.zipV_l, DL.zipM_a, DL.seqM_a, DL.callM_a, DL.hereM_a, DL.callRM_a, DL.appM_a, DL.lisV_l, DL.catOwnM_a, DL.newDM_a, DL.putM_a, DL.lenDM_a, DL.sortDM_a, DL.nameG_a, DL.nilG_a, DL.consG_a, DL.tupG_a, DL.seqS_a, DL.seqK_nx, DL.seqK_rt, DL.seqK_ct, DL.skipM_a, DL.asgM_a, DL.asgG_a, DL.newM_a, DL.asgLM_a, DL.retM_a, DL.exprM_a, DL.ifM_a, DL.forM_a, DL.runF_a, DL.finF_rt, DL.finF_nx, DL.runR_a, DL.finR_rt, DL.finR_nx, DL.sz_0, DL.sz_1, DL.sz_2, DL.sz_3, DL.sz_4, DL.sz_5, DL.sz_6, DL.sz_7, DL.sz_8, DL.sz_9, DL.sz_10, DL.sz_11, DL.sz_12, DL.sz_13, DL.sz_14, DL.sz_15, DL.sz_16, DL.sz_17, DL.sz_18, DL.sz_19, DL.sz_20, DL.sz_21, DL.sz_22, DL.sz_23, DL.sz_24, DL.sz_25, DL.sz_26, DL.sz_27, DL.sz_28, DL.sz_29, DL.sz_30, DL.nc_0, DL.nc_1, DL.nc_2, DL.nc_3, DL.nc_4, DL.nc_5, DL.nc_6, DL.nc_7, DL.nc_8, DL.nc_9, DL.nc_10, DL.nc_11, DL.nc_12, DL.nc_13, DL.nc_14, DL.nc_15, DL.nc_16, DL.nc_17, DL.nc_18, DL.nc_19, DL.nc_20, DL.nc_21, DL.nc_22, DL.nc_23, DL.nc_24, DL.nc_25, DL.nc_26, DL.nc_27, DL.nc_28, DL.nc_29, DL.nc_30, DL.addD_i, DL.addD_t, DL.addD_l, DL.subD_i, DL.modD_i, DL.fdivD_i, DL.mulD_i, DL.lenD_t, DL.lenD_l, DL.tupleD_t, DL.tupleD_l, DL.listD_t, DL.listD_l, DL.truD_i, DL.truD_b, DL.truD_n, DL.truD_l, DL.truD_t, DL.ixD_t, DL.ixD_l, DL.negD_i, DL.bD_a, DL.ltB_i, DL.leB_i, DL.eqB_i, DL.neB_i, DL.items_t, DL.items_l, DL.intD_b, DL.isNN, DL.slD_t, DL.slD_l, DL.p_ge0, DL.p_geS, DL.p_tk0, DL.p_tkS, DL.p_tkN, DL.p_dr0, DL.p_drS, DL.p_drN, DL.p_mpC, DL.p_mpN, DL.p_apC, DL.p_apN, DL.p_lnC, DL.p_lnN, DL.p_rpS, DL.p_rp0, DL.p_alC, DL.p_alN, DL.p_gdS, DL.p_gdN, DL.p_tlS, DL.p_tlN, DL.p_ieC, DL.p_ieN, DL.p_nt, DL.p_nf, DL.p_atb, DL.p_afb, DL.p_abt, DL.p_abf, DL.p_eqS, DL.p_dT, DL.p_dF, DL.p_TA, DL.p_AT, DL.p_TO, DL.p_OT, DL.p_startD, DL.p_startR, DL.forK_nx, DL.forK_ct, DL.forK_rt, DL.yesM_a, DL.it1_a, DL.compM_a, DL.wipeR_c, DL.wipeR_n, DL.restR_c, DL.restR_n, DL.gtD_i, DL.gtD_T, DL.ob_assoc, DL.om_bind, DL.ob_map, DL.om_map, DL.cnd_bind, DL.cnd_map, DL.guard_bind, DL.guard_map, DL.atI_c0, DL.atI_c1, DL.atI_c2, DL.atI_c3, DL.encN_0, DL.encN_1, DL.encN_2, DL.encN_u, DL.revD_t, DL.revD_l, DL.eq_TI, DL.ne_TI, DL.enumM_a, DL.exM_a, DL.seqK_ex, DL.finF_ex, DL.forK_ex, DL.tri_no, DL.trm_no, DL.atI_neg1, DL.wipO_nx, DL.wipO_ct, DL.wipO_bk, DL.wipO_rt, DL.wipO_ex, DL.wipM_a, DL.preM_a, DL.two_a, DL.finR_ex, DL.len_map, DL.len_app, DL.len_ir, DL.len_rev, DL.sz_c, DL.rng_c, DL.rngL_n, DL.forM_a', DL.rev_map, DL.seqK_bk, DL.forK_bk, DL.enum_m, DL.emp_map, PG.Sq_written_1_a, PG.Sq_tie_in_1_a, PG.Sq_read_1_a, PG.Sq_read_2_a, PG.Sq_read_3_a, PG.Sq_read_4_a, DL.eq_LI, DL.ne_LI, DL.eq_LI0, DL.ne_LI0, DL.eq_LT, DL.ne_LT, DL.eq_LR, DL.ne_LR, DL.eq_TR, DL.ne_TR, DL.eq_B, DL.ne_B, DL.wp_mapE, DL.sortDict_map, DL.map_id_int, DL.cut_f, DL.cut_t, DL.cut_f1, DL.map_drop', DL.map_take', DL.map_app', DL.len_zip, DL.dkOf_i, DL.keyOf_i, PG.allD_map', PG.enum_ir, PG.eq_BB, PG.ne_BB, DL.runX_a, DL.finX_rt, DL.finX_ex, DL.tryM_a, DL.tryK_ok, DL.tryK_er, DL.finX_nx, DL.isN_i, DL.rngL_g1, Nat.reduceAdd, Nat.reduceSub, Nat.reduceMul, Int.reduceLT, Int.reduceLE, Int.reducePow, Int.reduceNeg, Int.reduceAdd, Int.reduceSub, Int.reduceMul, Int.reduceBEq, Int.reduceBNe, Int.reduceToNat, $xs,*])
namespace DL
open PySem L2
/-! several own things handed on; the body of a try -/
end DL
local macro_rules | `(tactic| simp_arith [$xs,*]) => `(tactic| simp (maxSteps := 2000000) (disch := omega) only [DL.ob_some, DL.om_some, DL.dat_d, DL.lis_l, DL.dic_m, DL.gt_0, DL.gt_1, DL.gt_2, DL.gt_3, DL.gt_4, DL.gt_5, DL.gt_6, DL.gt_7, DL.gt_b, DL.st_0, DL.st_s, DL.plG_d, DL.plG_n, DL.plainAt_a, DL.varM_a, DL.ownM_a, DL.cM_a, DL.ofL_a, DL.opM_a, DL.unM_a, DL.truM_a, DL.tstM_a, DL.notM_a, DL.cnd_t, DL.cnd_f, DL.andM_a, DL.orM_a, DL.andVM_a, DL.notVM_a, DL.iteM_a, DL.chM_a, DL.nilM_a, DL.consM_a, DL.guard_tt, DL.tupM_a, DL.lstM_a, DL.noM_a, DL.intV_i, DL.someM_a, DL.slM_a, DL.rng1M_a, DL.rng2M_a, DL.zipV_t, DL.zipV_l, DL.zipM_a, DL.seqM_a, DL.callM_a, DL.hereM_a, DL.callRM_a, DL.appM_a, DL.lisV_l, DL.catOwnM_a, DL.newDM_a, DL.putM_a, DL.lenDM_a, DL.sortDM_a, DL.nameG_a, DL.nilG_a, DL.consG_a, DL.tupG_a, DL.seqS_a, DL.seqK_nx, DL.seqK_rt, DL.seqK_ct, DL.skipM_a, DL.asgM_a, DL.asgG_a, DL.newM_a, DL.asgLM_a, DL.retM_a, DL.exprM_a, DL.ifM_a, DL.forM_a, DL.runF_a, DL.finF_rt, DL.finF_nx, DL.runR_a, DL.finR_rt, DL.finR_nx, DL.sz_0, DL.sz_1, DL.sz_2, DL.sz_3, DL.sz_4, DL.sz_5, DL.sz_6, DL.sz_7, DL.sz_8, DL.sz_9, DL.sz_10, DL.sz_11, DL.sz_12, DL.sz_13, DL.sz_14, DL.sz_15, DL.sz_16, DL.sz_17, DL.sz_18, DL.sz_19, DL.sz_20, DL.sz_21, DL.sz_22, DL.sz_23, DL.sz_24, DL.sz_25, DL.sz_26, DL.sz_27, DL.sz_28, DL.sz_29, DL.sz_30, DL.nc_0, DL.nc_1, DL.nc_2, DL.nc_3, DL.nc_4, DL.nc_5, DL.nc_6, DL.nc_7, DL.nc_8, DL.nc_9, DL.nc_10, DL.nc_11, DL.nc_12, DL.nc_13, DL.nc_14, DL.nc_15, DL.nc_16, DL.nc_17, DL.nc_18, DL.nc_19, DL.nc_20, DL.nc_21, DL.nc_22, DL.nc_23, DL.nc_24, DL.nc_25, DL.nc_26, DL.nc_27, DL.nc_28, DL.nc_29, DL.nc_30, DL.addD_i, DL.addD_t, DL.addD_l, DL.subD_i, DL.modD_i, DL.fdivD_i, DL.mulD_i, DL.lenD_t, DL.lenD_l, DL.tupleD_t, DL.tupleD_l, DL.listD_t, DL.listD_l, DL.truD_i, DL.truD_b, DL.truD_n, DL.truD_l, DL.truD_t, DL.ixD_t, DL.ixD_l, DL.negD_i, DL.bD_a, DL.ltB_i, DL.leB_i, DL.eqB_i, DL.neB_i, DL.items_t, DL.items_l, DL.intD_b, DL.isNN, DL.slD_t, DL.slD_l, DL.p_ge0, DL.p_geS, DL.p_tk0, DL.p_tkS, DL.p_tkN, DL.p_dr0, DL.p_drS, DL.p_drN, DL.p_mpC, DL.p_mpN, DL.p_apC, DL.p_apN, DL.p_lnC, DL.p_lnN, DL.p_rpS, DL.p_rp0, DL.p_alC, DL.p_alN, DL.p_gdS, DL.p_gdN, DL.p_tlS, DL.p_tlN, DL.p_ieC, DL.p_ieN, DL.p_nt, DL.p_nf, DL.p_atb, DL.p_afb, DL.p_abt, DL.p_abf, DL.p_eqS, DL.p_dT, DL.p_dF, DL.p_TA, DL.p_AT, DL.p_TO, DL.p_OT, DL.p_startD, DL.p_startR, DL.forK_nx, DL.forK_ct, DL.forK_rt, DL.yesM_a, DL.it1_a, DL.compM_a, DL.wipeR_c, DL.wipeR_n, DL.restR_c, DL.restR_n, DL.gtD_i, DL.gtD_T, DL.ob_assoc, DL.om_bind, DL.ob_map, DL.om_map, DL.cnd_bind, DL.cnd_map, DL.guard_bind, DL.guard_map, DL.atI_c0, DL.atI_c1, DL.atI_c2, DL.atI_c3, DL.encN_0, DL.encN_1, DL.encN_2, DL.encN_u, DL.revD_t, DL.revD_l, DL.eq_TI, DL.ne_TI, DL.enumM_a, DL.exM_a, DL.seqK_ex, DL.finF_ex, DL.forK_ex, DL.tri_no, DL.trm_no, DL.atI_neg1, DL.wipO_nx, DL.wipO_ct, DL.wipO_bk, DL.wipO_rt, DL.wipO_ex, DL.wipM_a, DL.preM_a, DL.two_a, DL.finR_ex, DL.len_map, DL.len_app, DL.len_ir, DL.len_rev, DL.sz_c, DL.rng_c, DL.rngL_n, DL.forM_a', DL.rev_map, DL.seqK_bk, DL.forK_bk, DL.enum_m, DL.emp_map, PG.Sq_written_1_a, PG.Sq_tie_in_1_a, PG.Sq_read_1_a, PG.Sq_read_2_a, PG.Sq_read_3_a, PG.Sq_read_4_a, DL.eq_LI, DL.ne_LI, DL.eq_LI0, DL.ne_LI0, DL.eq_LT, DL.ne_LT, DL.eq_LR, DL.ne_LR, DL.eq_TR, DL.ne_TR, DL.eq_B, DL.ne_B, DL.wp_mapE, DL.sortDict_map, DL.map_id_int, DL.cut_f, DL.cut_t, DL.cut_f1, DL.map_drop', DL.map_take', DL.map_app', DL.len_zip, DL.dkOf_i, DL.keyOf_i, PG.allD_map', PG.enum_ir, PG.eq_BB, PG.ne_BB, DL.runX_a, DL.finX_rt, DL.finX_ex, DL.tryM_a, DL.tryK_ok, DL.tryK_er, DL.finX_nx, DL.isN_i, DL.rngL_g1, Nat.reduceAdd, Nat.reduceSub, Nat.reduceMul, Int.reduceLT, Int.reduceLE, Int.reducePow, Int.reduceNeg, Int.reduceAdd, Int.reduceSub, Int.reduceMul, Int.reduceBEq, Int.reduceBNe, Int.reduceToNat, $xs,*])
namespace PG
open PySem L2 DL GT RX
/-! untold pairs -/
end PG
namespace PG
open PySem L2 DL GT RX PySem.W
/-! what one tie shows -/
/-! untold pairs: the order -/
end PG
local macro_rules | `(tactic| simp_arith [$xs,*]) => `(tactic| simp (maxSteps := 2000000) (disch := omega) only [DL.ob_some, DL.om_some, DL.dat_d, DL.lis_l, DL.dic_m, DL.gt_0, DL.gt_1, DL.gt_2, DL.gt_3, DL.gt_4, DL.gt_5, DL.gt_6, DL.gt_7, DL.gt_b, DL.st_0, DL.st_s, DL.plG_d, DL.plG_n, DL.plainAt_a, DL.varM_a, DL.ownM_a, DL.cM_a, DL.ofL_a, DL.opM_a, DL.unM_a, DL.truM_a, DL.tstM_a, DL.notM_a, DL.cnd_t, DL.cnd_f, DL.andM_a, DL.orM_a, DL.andVM_a, DL.notVM_a, DL.iteM_a, DL.chM_a, DL.nilM_a, DL.consM_a, DL.guard_tt, DL.tupM_a, DL.lstM_a, DL.noM_a, DL.intV_i, DL.someM_a, DL.slM_a, DL.rng1M_a, DL.rng2M_a, DL.zipV_t, DL.zipV_l, DL.zipM_a, DL.seqM_a, DL.callM_a, DL.hereM_a, DL.callRM_a, DL.appM_a, DL.lisV_l, DL.catOwnM_a, DL.newDM_a, DL.putM_a, DL.lenDM_a, DL.sortDM_a, DL.nameG_a, DL.nilG_a, DL.consG_a, DL.tupG_a, DL.seqS_a, DL.seqK_nx, DL.seqK_rt, DL.seqK_ct, DL.skipM_a, DL.asgM_a, DL.asgG_a, DL.newM_a, DL.asgLM_a, DL.retM_a, DL.exprM_a, DL.ifM_a, DL.forM_a, DL.runF_a, DL.finF_rt, DL.finF_nx, DL.runR_a, DL.finR_rt, DL.finR_nx, DL.sz_0, DL.sz_1, DL.sz_2, DL.sz_3, DL.sz_4, DL.sz_5, DL.sz_6, DL.sz_7, DL.sz_8, DL.sz_9, DL.sz_10, DL.sz_11, DL.sz_12, DL.sz_13, DL.sz_14, DL.sz_15, DL.sz_16, DL.sz_17, DL.sz_18, DL.sz_19, DL.sz_20, DL.sz_21, DL.sz_22, DL.sz_23, DL.sz_24, DL.sz_25, DL.sz_26, DL.sz_27, DL.sz_28, DL.sz_29, DL.sz_30, DL.nc_0, DL.nc_1, DL.nc_2, DL.nc_3, DL.nc_4, DL.nc_5, DL.nc_6, DL.nc_7, DL.nc_8, DL.nc_9, DL.nc_10, DL.nc_11, DL.nc_12, DL.nc_13, DL.nc_14, DL.nc_15, DL.nc_16, DL.nc_17, DL.nc_18, DL.nc_19, DL.nc_20, DL.nc_21, DL.nc_22, DL.nc_23, DL.nc_24, DL.nc_25, DL.nc_26, DL.nc_27, DL.nc_28, DL.nc_29, DL.nc_30, DL.addD_i, DL.addD_t, DL.addD_l, DL.subD_i, DL.modD_i, DL.fdivD_i, DL.mulD_i, DL.lenD_t, DL.lenD_l, DL.tupleD_t, DL.tupleD_l, DL.listD_t, DL.listD_l, DL.truD_i, DL.truD_b, DL.truD_n, DL.truD_l, DL.truD_t, DL.ixD_t, DL.ixD_l, DL.negD_i, DL.bD_a, DL.ltB_i, DL.leB_i, DL.eqB_i, DL.neB_i, DL.items_t, DL.items_l, DL.intD_b, DL.isNN, DL.slD_t, DL.slD_l, DL.p_ge0, DL.p_geS, DL.p_tk0, DL.p_tkS, DL.p_tkN, DL.p_dr0, DL.p_drS, DL.p_drN, DL.p_mpC, DL.p_mpN, DL.p_apC, DL.p_apN, DL.p_lnC, DL.p_lnN, DL.p_rpS, DL.p_rp0, DL.p_alC, DL.p_alN, DL.p_gdS, DL.p_gdN, DL.p_tlS, DL.p_tlN, DL.p_ieC, DL.p_ieN, DL.p_nt, DL.p_nf, DL.p_atb, DL.p_afb, DL.p_abt, DL.p_abf, DL.p_eqS, DL.p_dT, DL.p_dF, DL.p_TA, DL.p_AT, DL.p_TO, DL.p_OT, DL.p_startD, DL.p_startR, DL.forK_nx, DL.forK_ct, DL.forK_rt, DL.yesM_a, DL.it1_a, DL.compM_a, DL.wipeR_c, DL.wipeR_n, DL.restR_c, DL.restR_n, DL.gtD_i, DL.gtD_T, DL.ob_assoc, DL.om_bind, DL.ob_map, DL.om_map, DL.cnd_bind, DL.cnd_map, DL.guard_bind, DL.guard_map, DL.atI_c0, DL.atI_c1, DL.atI_c2, DL.atI_c3, DL.encN_0, DL.encN_1, DL.encN_2, DL.encN_u, DL.revD_t, DL.revD_l, DL.eq_TI, DL.ne_TI, DL.enumM_a, DL.exM_a, DL.seqK_ex, DL.finF_ex, DL.forK_ex, DL.tri_no, DL.trm_no, DL.atI_neg1, DL.wipO_nx, DL.wipO_ct, DL.wipO_bk, DL.wipO_rt, DL.wipO_ex, DL.wipM_a, DL.preM_a, DL.two_a, DL.finR_ex, DL.len_map, DL.len_app, DL.len_ir, DL.len_rev, DL.sz_c, DL.rng_c, DL.rngL_n, DL.forM_a', DL.rev_map, DL.seqK_bk, DL.forK_bk, DL.enum_m, DL.emp_map, PG.Sq_written_1_a, PG.Sq_tie_in_1_a, PG.Sq_read_1_a, PG.Sq_read_2_a, PG.Sq_read_3_a, PG.Sq_read_4_a, DL.eq_LI, DL.ne_LI, DL.eq_LI0, DL.ne_LI0, DL.eq_LT, DL.ne_LT, DL.eq_LR, DL.ne_LR, DL.eq_TR, DL.ne_TR, DL.eq_B, DL.ne_B, DL.wp_mapE, DL.sortDict_map, DL.map_id_int, DL.cut_f, DL.cut_t, DL.cut_f1, DL.map_drop', DL.map_take', DL.map_app', DL.len_zip, DL.dkOf_i, DL.keyOf_i, PG.allD_map', PG.enum_ir, PG.eq_BB, PG.ne_BB, DL.runX_a, DL.finX_rt, DL.finX_ex, DL.tryM_a, DL.tryK_ok, DL.tryK_er, DL.finX_nx, DL.isN_i, DL.rngL_g1, Nat.reduceAdd, Nat.reduceSub, Nat.reduceMul, Int.reduceLT, Int.reduceLE, Int.reducePow, Int.reduceNeg, Int.reduceAdd, Int.reduceSub, Int.reduceMul, Int.reduceBEq, Int.reduceBNe, Int.reduceToNat, $xs,*])
namespace PG
open PySem L2 DL GT RX
/-! probes as a set -/
/-! short -/
end PG
local macro_rules | `(tactic| simp_arith [$xs,*]) => `(tactic| simp (maxSteps := 2000000) (disch := omega) only [DL.ob_some, DL.om_some, DL.dat_d, DL.lis_l, DL.dic_m, DL.gt_0, DL.gt_1, DL.gt_2, DL.gt_3, DL.gt_4, DL.gt_5, DL.gt_6, DL.gt_7, DL.gt_b, DL.st_0, DL.st_s, DL.plG_d, DL.plG_n, DL.plainAt_a, DL.varM_a, DL.ownM_a, DL.cM_a, DL.ofL_a, DL.opM_a, DL.unM_a, DL.truM_a, DL.tstM_a, DL.notM_a, DL.cnd_t, DL.cnd_f, DL.andM_a, DL.orM_a, DL.andVM_a, DL.notVM_a, DL.iteM_a, DL.chM_a, DL.nilM_a, DL.consM_a, DL.guard_tt, DL.tupM_a, DL.lstM_a, DL.noM_a, DL.intV_i, DL.someM_a, DL.slM_a, DL.rng1M_a, DL.rng2M_a, DL.zipV_t, DL.zipV_l, DL.zipM_a, DL.seqM_a, DL.callM_a, DL.hereM_a, DL.callRM_a, DL.appM_a, DL.lisV_l, DL.catOwnM_a, DL.newDM_a, DL.putM_a, DL.lenDM_a, DL.sortDM_a, DL.nameG_a, DL.nilG_a, DL.consG_a, DL.tupG_a, DL.seqS_a, DL.seqK_nx, DL.seqK_rt, DL.seqK_ct, DL.skipM_a, DL.asgM_a, DL.asgG_a, DL.newM_a, DL.asgLM_a, DL.retM_a, DL.exprM_a, DL.ifM_a, DL.forM_a, DL.runF_a, DL.finF_rt, DL.finF_nx, DL.runR_a, DL.finR_rt, DL.finR_nx, DL.sz_0, DL.sz_1, DL.sz_2, DL.sz_3, DL.sz_4, DL.sz_5, DL.sz_6, DL.sz_7, DL.sz_8, DL.sz_9, DL.sz_10, DL.sz_11, DL.sz_12, DL.sz_13, DL.sz_14, DL.sz_15, DL.sz_16, DL.sz_17, DL.sz_18, DL.sz_19, DL.sz_20, DL.sz_21, DL.sz_22, DL.sz_23, DL.sz_24, DL.sz_25, DL.sz_26, DL.sz_27, DL.sz_28, DL.sz_29, DL.sz_30, DL.nc_0, DL.nc_1, DL.nc_2, DL.nc_3, DL.nc_4, DL.nc_5, DL.nc_6, DL.nc_7, DL.nc_8, DL.nc_9, DL.nc_10, DL.nc_11, DL.nc_12, DL.nc_13, DL.nc_14, DL.nc_15, DL.nc_16, DL.nc_17, DL.nc_18, DL.nc_19, DL.nc_20, DL.nc_21, DL.nc_22, DL.nc_23, DL.nc_24, DL.nc_25, DL.nc_26, DL.nc_27, DL.nc_28, DL.nc_29, DL.nc_30, DL.addD_i, DL.addD_t, DL.addD_l, DL.subD_i, DL.modD_i, DL.fdivD_i, DL.mulD_i, DL.lenD_t, DL.lenD_l, DL.tupleD_t, DL.tupleD_l, DL.listD_t, DL.listD_l, DL.truD_i, DL.truD_b, DL.truD_n, DL.truD_l, DL.truD_t, DL.ixD_t, DL.ixD_l, DL.negD_i, DL.bD_a, DL.ltB_i, DL.leB_i, DL.eqB_i, DL.neB_i, DL.items_t, DL.items_l, DL.intD_b, DL.isNN, DL.slD_t, DL.slD_l, DL.p_ge0, DL.p_geS, DL.p_tk0, DL.p_tkS, DL.p_tkN, DL.p_dr0, DL.p_drS, DL.p_drN, DL.p_mpC, DL.p_mpN, DL.p_apC, DL.p_apN, DL.p_lnC, DL.p_lnN, DL.p_rpS, DL.p_rp0, DL.p_alC, DL.p_alN, DL.p_gdS, DL.p_gdN, DL.p_tlS, DL.p_tlN, DL.p_ieC, DL.p_ieN, DL.p_nt, DL.p_nf, DL.p_atb, DL.p_afb, DL.p_abt, DL.p_abf, DL.p_eqS, DL.p_dT, DL.p_dF, DL.p_TA, DL.p_AT, DL.p_TO, DL.p_OT, DL.p_startD, DL.p_startR, DL.forK_nx, DL.forK_ct, DL.forK_rt, DL.yesM_a, DL.it1_a, DL.compM_a, DL.wipeR_c, DL.wipeR_n, DL.restR_c, DL.restR_n, DL.gtD_i, DL.gtD_T, DL.ob_assoc, DL.om_bind, DL.ob_map, DL.om_map, DL.cnd_bind, DL.cnd_map, DL.guard_bind, DL.guard_map, DL.atI_c0, DL.atI_c1, DL.atI_c2, DL.atI_c3, DL.encN_0, DL.encN_1, DL.encN_2, DL.encN_u, DL.revD_t, DL.revD_l, DL.eq_TI, DL.ne_TI, DL.enumM_a, DL.exM_a, DL.seqK_ex, DL.finF_ex, DL.forK_ex, DL.tri_no, DL.trm_no, DL.atI_neg1, DL.wipO_nx, DL.wipO_ct, DL.wipO_bk, DL.wipO_rt, DL.wipO_ex, DL.wipM_a, DL.preM_a, DL.two_a, DL.finR_ex, DL.len_map, DL.len_app, DL.len_ir, DL.len_rev, DL.sz_c, DL.rng_c, DL.rngL_n, DL.forM_a', DL.rev_map, DL.seqK_bk, DL.forK_bk, DL.enum_m, DL.emp_map, PG.Sq_written_1_a, PG.Sq_tie_in_1_a, PG.Sq_read_1_a, PG.Sq_read_2_a, PG.Sq_read_3_a, PG.Sq_read_4_a, DL.eq_LI, DL.ne_LI, DL.eq_LI0, DL.ne_LI0, DL.eq_LT, DL.ne_LT, DL.eq_LR, DL.ne_LR, DL.eq_TR, DL.ne_TR, DL.eq_B, DL.ne_B, DL.wp_mapE, DL.sortDict_map, DL.map_id_int, DL.cut_f, DL.cut_t, DL.cut_f1, DL.map_drop', DL.map_take', DL.map_app', DL.len_zip, DL.dkOf_i, DL.keyOf_i, PG.allD_map', PG.enum_ir, PG.eq_BB, PG.ne_BB, DL.runX_a, DL.finX_rt, DL.finX_ex, DL.tryM_a, DL.tryK_ok, DL.tryK_er, DL.finX_nx, DL.isN_i, DL.rngL_g1, Nat.reduceAdd, Nat.reduceSub, Nat.reduceMul, Int.reduceLT, Int.reduceLE, Int.reducePow, Int.reduceNeg, Int.reduceAdd, Int.reduceSub, Int.reduceMul, Int.reduceBEq, Int.reduceBNe, Int.reduceToNat, $xs,*])
namespace PG
open PySem L2 DL GT RX
end PG
namespace PG
open PySem L2 DL GT RX
/-! any thing as a row of whole numbers -/
/-! cuts -/
/-! barrings -/
end PG
namespace PG
open PySem L2 DL GT RX
end PG
namespace PG
open PySem L2 DL GT RX PySem.W
/-! the cases of a plan -/
/-! what a probe leaves of some cases -/
end PG
namespace PG
open PySem L2 DL GT RX PySem.W
/-! any thing as a plan -/
/-- a thing that is not too long -/
def fit : Nat → D → Bool
  | _, .none => true
  | _, .bool _ => true
  | _, .int _ => true
  | _, .str x => PyData.strOk x && decide (x.length ≤ 900)
  | k + 1, .tuple xs => decide (xs.length ≤ 900) && xs.all (fit k)
  | k + 1, .list xs => decide (xs.length ≤ 900) && xs.all (fit k)
  | _, _ => false
theorem neB_sh {a b : D} (ha : SeqAt.shaped a = true) (hb : SeqAt.shaped b = true) : neB a b = some (!PyData.eqv a b) := by
  unfold neB
  rw [ha, hb]
  rfl
end PG
namespace DL
open PySem L2 GT
end DL
namespace PG
open PySem L2 DL GT RX
/-! groups -/
end PG
/-! plain: as many ties part two knots as there are ways without a tie together (flows of ones) -/
namespace GT
/-! sums over a list -/
def S {α : Type} (l : List α) (g : α → Int) : Int := (l.map g).sum
section
variable {α β : Type}
theorem S_nil (g : α → Int) : S [] g = 0 := rfl
theorem S_cons (a : α) (l : List α) (g : α → Int) : S (a :: l) g = g a + S l g := by simp [S]
theorem S_add (l : List α) (g h : α → Int) : S l (fun x => g x + h x) = S l g + S l h := by
  induction l with
  | nil => rfl
  | cons a l ih => simp only [S_cons, ih]; omega
theorem S_neg (l : List α) (g : α → Int) : S l (fun x => - g x) = - S l g := by
  induction l with
  | nil => rfl
  | cons a l ih => simp only [S_cons, ih]; omega
theorem S_congr {l : List α} {g h : α → Int} (e : ∀ x ∈ l, g x = h x) : S l g = S l h := by
  induction l with
  | nil => rfl
  | cons a l ih => rw [S_cons, S_cons, e a (by simp), ih fun x m => e x (List.mem_cons_of_mem _ m)]
theorem S_zero {l : List α} {g : α → Int} (e : ∀ x ∈ l, g x = 0) : S l g = 0 := by
  rw [S_congr e]
  induction l with
  | nil => rfl
  | cons a l ih => rw [S_cons, ih fun x m => e x (List.mem_cons_of_mem _ m)]; rfl
theorem S_mul (l : List α) (c : Int) (g : α → Int) : S l (fun x => c * g x) = c * S l g := by
  induction l with
  | nil => simp [S_nil]
  | cons a l ih => simp only [S_cons, ih, Int.mul_add]
theorem S_swap (l : List α) (m : List β) (g : α → β → Int) : S l (fun x => S m (g x)) = S m (fun y => S l (fun x => g x y)) := by
  induction l with
  | nil => rw [S_nil, S_zero]; intro y _; rfl
  | cons a l ih =>
    rw [S_cons, ih, ← S_add]
    exact S_congr fun y _ => by rw [S_cons]
theorem S_one [DecidableEq α] {l : List α} (nd : l.Nodup) (a : α) (c : Int) : S l (fun x => if x = a then c else 0) = if a ∈ l then c else 0 := by
  induction l with
  | nil => simp [S_nil]
  | cons b l ih =>
    have nd' := List.nodup_cons.mp nd
    rw [S_cons, ih nd'.2]
    by_cases e : b = a
    · subst e
      rw [if_pos rfl, if_neg nd'.1, if_pos (by simp)]; omega
    · rw [if_neg e]
      by_cases m : a ∈ l
      · rw [if_pos m, if_pos (List.mem_cons_of_mem _ m)]; omega
      · rw [if_neg m, if_neg (by simp [m, Ne.symm e])]; omega
end
/-! ways by a relation -/
inductive Rch (R : Int → Int → Prop) (a : Int) : Int → Prop
  | refl : Rch R a a
  | step {b c : Int} : Rch R a b → R b c → Rch R a c
/-- next to one another in a row -/
def Nx : List Int → Int → Int → Prop
  | u :: v :: l, x, y => (x = u ∧ y = v) ∨ Nx (v :: l) x y
  | _, _, _ => False
theorem Nx.of_append : ∀ {p q : List Int} {x y : Int}, Nx p x y → Nx (p ++ q) x y
  | u :: v :: l, q, x, y, h => by
    rcases h with h | h
    · exact .inl h
    · exact .inr (Nx.of_append (p := v :: l) h)
theorem Nx.snoc : ∀ {p : List Int} {b c x y : Int}, p.getLast? = some b → Nx (p ++ [c]) x y → Nx p x y ∨ (x = b ∧ y = c)
  | [], _, _, _, _, h, _ => by simp at h
  | [u], b, c, x, y, h, n => by
    simp at h
    subst h
    rcases n with n | n
    · exact .inr n
    · exact n.elim
  | u :: v :: l, b, c, x, y, h, n => by
    rcases n with n | n
    · exact .inl (.inl n)
    · have h' : (v :: l).getLast? = some b := by rwa [List.getLast?_cons_cons] at h
      rcases Nx.snoc (p := v :: l) h' n with n | n
      · exact .inl (.inr n)
      · exact .inr n
theorem Rch.way {R : Int → Int → Prop} {a b : Int} (h : Rch R a b) : ∃ p : List Int, p.Nodup ∧ p.head? = some a ∧ p.getLast? = some b ∧ ∀ x y, Nx p x y → R x y := by
  induction h with
  | refl => exact ⟨[a], by simp, rfl, rfl, fun x y n => n.elim⟩
  | @step b c _ hr ih =>
    obtain ⟨p, h1, h2, h3, h4⟩ := ih
    by_cases m : c ∈ p
    · obtain ⟨s, t, rfl⟩ := List.append_of_mem m
      have e : s ++ c :: t = (s ++ [c]) ++ t := by simp
      refine ⟨s ++ [c], ?_, ?_, by simp, fun x y n => h4 x y ?_⟩
      · rw [e] at h1; exact (List.nodup_append.mp h1).1
      · cases s with
        | nil => simpa using h2
        | cons u s => simpa using h2
      · rw [e]; exact n.of_append
    · refine ⟨p ++ [c], ?_, ?_, by simp, fun x y n => ?_⟩
      · rw [List.nodup_append]
        exact ⟨h1, by simp, fun x mx y my e => by simp at my; subst my; exact m (e ▸ mx)⟩
      · cases p with
        | nil => simp at h2
        | cons u p => simpa using h2
      · rcases n.snoc h3 with n | ⟨rfl, rfl⟩
        · exact h4 x y n
        · exact hr
/-! flows of ones -/
abbrev Fl := Int → Int → Int
structure Flow (N : Net) (a b : Int) (f : Fl) (k : Int) : Prop where
  anti : ∀ u v : Int, f u v = - f v u
  sup : ∀ u v : Int, f u v ≠ 0 → adj N u v = true
  bd : ∀ u v : Int, f u v ≤ 1
  cons : ∀ u : Int, 0 ≤ u → u < N.n → u ≠ a → u ≠ b → S (ir N.n) (f u) = 0
  val : S (ir N.n) (f a) = k
/-! more along a way that has room -/
/-! what goes out of a set of knots -/
open Classical in
noncomputable def ch (X : Int → Prop) (x : Int) : Int := if X x then 1 else 0
theorem ch_cases (X : Int → Prop) (x : Int) : (X x ∧ ch X x = 1) ∨ (¬ X x ∧ ch X x = 0) := by
  unfold ch
  by_cases h : X x
  · exact .inl ⟨h, if_pos h⟩
  · exact .inr ⟨h, if_neg h⟩
theorem inner_zero {l : List Int} {f : Fl} (anti : ∀ u v, f u v = - f v u) (c : Int → Int) : S l (fun u => S l (fun v => c u * c v * f u v)) = 0 := by
  have e1 : S l (fun u => S l (fun v => c u * c v * f u v)) = S l (fun v => S l (fun u => c u * c v * f u v)) := S_swap l l _
  have e2 : S l (fun v => S l (fun u => c u * c v * f u v)) = S l (fun v => - S l (fun u => c v * c u * f v u)) := S_congr fun v _ => by
    rw [← S_neg]
    refine S_congr fun u _ => ?_
    rw [anti u v, Int.mul_comm (c u) (c v), Int.mul_neg]
  rw [S_neg] at e2
  omega
theorem Flow.out {N : Net} {a b : Int} (ha : 0 ≤ a ∧ a < N.n) {f : Fl} {k : Int} (F : Flow N a b f k) {X : Int → Prop} (xa : X a) (xb : ¬ X b) :
    S (ir N.n) (fun u => S (ir N.n) (fun v => ch X u * (1 - ch X v) * f u v)) = k := by
  have ca : ch X a = 1 := (ch_cases X a).elim (·.2) (fun h => absurd xa h.1)
  have cb : ch X b = 0 := (ch_cases X b).elim (fun h => absurd h.1 xb) (·.2)
  have h1 : S (ir N.n) (fun u => ch X u * S (ir N.n) (f u)) = k := by
    have e : ∀ u ∈ ir N.n, ch X u * S (ir N.n) (f u) = if u = a then k else 0 := fun u mu => by
      have hu := mem_ir.mp mu
      by_cases c : u = a
      · subst c; rw [if_pos rfl, ca, F.val]; omega
      · rw [if_neg c]
        by_cases c2 : u = b
        · subst c2; rw [cb]; omega
        · rw [F.cons u hu.1 hu.2 c c2]; omega
    rw [S_congr e, S_one (ir_nodup _), if_pos (mem_ir.mpr ha)]
  have h2 : S (ir N.n) (fun u => ch X u * S (ir N.n) (f u)) = S (ir N.n) (fun u => S (ir N.n) (fun v => ch X u * ch X v * f u v)) + S (ir N.n) (fun u => S (ir N.n) (fun v => ch X u * (1 - ch X v) * f u v)) := by
    rw [← S_add]
    refine S_congr fun u _ => ?_
    rw [← S_add, ← S_mul]
    refine S_congr fun v _ => ?_
    rcases ch_cases X u with ⟨_, c1⟩ | ⟨_, c1⟩ <;> rcases ch_cases X v with ⟨_, c2⟩ | ⟨_, c2⟩ <;> rw [c1, c2] <;> omega
  rw [inner_zero F.anti (ch X)] at h2
  omega
end GT
namespace GT
/-! ways out of a flow -/
/-! the ties that go out -/
end GT
namespace PG
open PySem L2 DL GT RX
/-! choices -/
/-! the least cut -/
end PG
namespace PG
open PySem L2 DL GT RX
end PG
namespace PG
open PySem L2 DL GT RX
end PG
namespace PG
open PySem L2 DL GT RX
end PG
namespace PG
open PySem L2 DL GT RX
end PG
local macro_rules | `(tactic| simp_arith [$xs,*]) => `(tactic| simp (maxSteps := 2000000) (disch := omega) only [DL.ob_some, DL.om_some, DL.dat_d, DL.lis_l, DL.dic_m, DL.gt_0, DL.gt_1, DL.gt_2, DL.gt_3, DL.gt_4, DL.gt_5, DL.gt_6, DL.gt_7, DL.gt_b, DL.st_0, DL.st_s, DL.plG_d, DL.plG_n, DL.plainAt_a, DL.varM_a, DL.ownM_a, DL.cM_a, DL.ofL_a, DL.opM_a, DL.unM_a, DL.truM_a, DL.tstM_a, DL.notM_a, DL.cnd_t, DL.cnd_f, DL.andM_a, DL.orM_a, DL.andVM_a, DL.notVM_a, DL.iteM_a, DL.chM_a, DL.nilM_a, DL.consM_a, DL.guard_tt, DL.tupM_a, DL.lstM_a, DL.noM_a, DL.intV_i, DL.someM_a, DL.slM_a, DL.rng1M_a, DL.rng2M_a, DL.zipV_t, DL.zipV_l, DL.zipM_a, DL.seqM_a, DL.callM_a, DL.hereM_a, DL.callRM_a, DL.appM_a, DL.lisV_l, DL.catOwnM_a, DL.newDM_a, DL.putM_a, DL.lenDM_a, DL.sortDM_a, DL.nameG_a, DL.nilG_a, DL.consG_a, DL.tupG_a, DL.seqS_a, DL.seqK_nx, DL.seqK_rt, DL.seqK_ct, DL.skipM_a, DL.asgM_a, DL.asgG_a, DL.newM_a, DL.asgLM_a, DL.retM_a, DL.exprM_a, DL.ifM_a, DL.forM_a, DL.runF_a, DL.finF_rt, DL.finF_nx, DL.runR_a, DL.finR_rt, DL.finR_nx, DL.sz_0, DL.sz_1, DL.sz_2, DL.sz_3, DL.sz_4, DL.sz_5, DL.sz_6, DL.sz_7, DL.sz_8, DL.sz_9, DL.sz_10, DL.sz_11, DL.sz_12, DL.sz_13, DL.sz_14, DL.sz_15, DL.sz_16, DL.sz_17, DL.sz_18, DL.sz_19, DL.sz_20, DL.sz_21, DL.sz_22, DL.sz_23, DL.sz_24, DL.sz_25, DL.sz_26, DL.sz_27, DL.sz_28, DL.sz_29, DL.sz_30, DL.nc_0, DL.nc_1, DL.nc_2, DL.nc_3, DL.nc_4, DL.nc_5, DL.nc_6, DL.nc_7, DL.nc_8, DL.nc_9, DL.nc_10, DL.nc_11, DL.nc_12, DL.nc_13, DL.nc_14, DL.nc_15, DL.nc_16, DL.nc_17, DL.nc_18, DL.nc_19, DL.nc_20, DL.nc_21, DL.nc_22, DL.nc_23, DL.nc_24, DL.nc_25, DL.nc_26, DL.nc_27, DL.nc_28, DL.nc_29, DL.nc_30, DL.addD_i, DL.addD_t, DL.addD_l, DL.subD_i, DL.modD_i, DL.fdivD_i, DL.mulD_i, DL.lenD_t, DL.lenD_l, DL.tupleD_t, DL.tupleD_l, DL.listD_t, DL.listD_l, DL.truD_i, DL.truD_b, DL.truD_n, DL.truD_l, DL.truD_t, DL.ixD_t, DL.ixD_l, DL.negD_i, DL.bD_a, DL.ltB_i, DL.leB_i, DL.eqB_i, DL.neB_i, DL.items_t, DL.items_l, DL.intD_b, DL.isNN, DL.slD_t, DL.slD_l, DL.p_ge0, DL.p_geS, DL.p_tk0, DL.p_tkS, DL.p_tkN, DL.p_dr0, DL.p_drS, DL.p_drN, DL.p_mpC, DL.p_mpN, DL.p_apC, DL.p_apN, DL.p_lnC, DL.p_lnN, DL.p_rpS, DL.p_rp0, DL.p_alC, DL.p_alN, DL.p_gdS, DL.p_gdN, DL.p_tlS, DL.p_tlN, DL.p_ieC, DL.p_ieN, DL.p_nt, DL.p_nf, DL.p_atb, DL.p_afb, DL.p_abt, DL.p_abf, DL.p_eqS, DL.p_dT, DL.p_dF, DL.p_TA, DL.p_AT, DL.p_TO, DL.p_OT, DL.p_startD, DL.p_startR, DL.forK_nx, DL.forK_ct, DL.forK_rt, DL.yesM_a, DL.it1_a, DL.compM_a, DL.wipeR_c, DL.wipeR_n, DL.restR_c, DL.restR_n, DL.gtD_i, DL.gtD_T, DL.ob_assoc, DL.om_bind, DL.ob_map, DL.om_map, DL.cnd_bind, DL.cnd_map, DL.guard_bind, DL.guard_map, DL.atI_c0, DL.atI_c1, DL.atI_c2, DL.atI_c3, DL.encN_0, DL.encN_1, DL.encN_2, DL.encN_u, DL.revD_t, DL.revD_l, DL.eq_TI, DL.ne_TI, DL.enumM_a, DL.exM_a, DL.seqK_ex, DL.finF_ex, DL.forK_ex, DL.tri_no, DL.trm_no, DL.atI_neg1, DL.wipO_nx, DL.wipO_ct, DL.wipO_bk, DL.wipO_rt, DL.wipO_ex, DL.wipM_a, DL.preM_a, DL.two_a, DL.finR_ex, DL.len_map, DL.len_app, DL.len_ir, DL.len_rev, DL.sz_c, DL.rng_c, DL.rngL_n, DL.forM_a', DL.rev_map, DL.seqK_bk, DL.forK_bk, DL.enum_m, DL.emp_map, PG.Sq_written_1_a, PG.Sq_tie_in_1_a, PG.Sq_read_1_a, PG.Sq_read_2_a, PG.Sq_read_3_a, PG.Sq_read_4_a, DL.eq_LI, DL.ne_LI, DL.eq_LI0, DL.ne_LI0, DL.eq_LT, DL.ne_LT, DL.eq_LR, DL.ne_LR, DL.eq_TR, DL.ne_TR, DL.eq_B, DL.ne_B, DL.wp_mapE, DL.sortDict_map, DL.map_id_int, DL.cut_f, DL.cut_t, DL.cut_f1, DL.map_drop', DL.map_take', DL.map_app', DL.len_zip, DL.dkOf_i, DL.keyOf_i, PG.allD_map', PG.enum_ir, PG.eq_BB, PG.ne_BB, Nat.reduceAdd, Nat.reduceSub, Nat.reduceMul, Int.reduceLT, Int.reduceLE, Int.reducePow, Int.reduceNeg, Int.reduceAdd, Int.reduceSub, Int.reduceMul, Int.reduceBEq, Int.reduceBNe, Int.reduceToNat, $xs,*])
namespace FA
open PySem L2 DL GT PG RX
end FA
local macro_rules | `(tactic| simp_arith [$xs,*]) => `(tactic| simp (maxSteps := 2000000) (disch := omega) only [DL.ob_some, DL.om_some, DL.dat_d, DL.lis_l, DL.dic_m, DL.gt_0, DL.gt_1, DL.gt_2, DL.gt_3, DL.gt_4, DL.gt_5, DL.gt_6, DL.gt_7, DL.gt_b, DL.st_0, DL.st_s, DL.plG_d, DL.plG_n, DL.plainAt_a, DL.varM_a, DL.ownM_a, DL.cM_a, DL.ofL_a, DL.opM_a, DL.unM_a, DL.truM_a, DL.tstM_a, DL.notM_a, DL.cnd_t, DL.cnd_f, DL.andM_a, DL.orM_a, DL.andVM_a, DL.notVM_a, DL.iteM_a, DL.chM_a, DL.nilM_a, DL.consM_a, DL.guard_tt, DL.tupM_a, DL.lstM_a, DL.noM_a, DL.intV_i, DL.someM_a, DL.slM_a, DL.rng1M_a, DL.rng2M_a, DL.zipV_t, DL.zipV_l, DL.zipM_a, DL.seqM_a, DL.callM_a, DL.hereM_a, DL.callRM_a, DL.appM_a, DL.lisV_l, DL.catOwnM_a, DL.newDM_a, DL.putM_a, DL.lenDM_a, DL.sortDM_a, DL.nameG_a, DL.nilG_a, DL.consG_a, DL.tupG_a, DL.seqS_a, DL.seqK_nx, DL.seqK_rt, DL.seqK_ct, DL.skipM_a, DL.asgM_a, DL.asgG_a, DL.newM_a, DL.asgLM_a, DL.retM_a, DL.exprM_a, DL.ifM_a, DL.forM_a, DL.runF_a, DL.finF_rt, DL.finF_nx, DL.runR_a, DL.finR_rt, DL.finR_nx, DL.sz_0, DL.sz_1, DL.sz_2, DL.sz_3, DL.sz_4, DL.sz_5, DL.sz_6, DL.sz_7, DL.sz_8, DL.sz_9, DL.sz_10, DL.sz_11, DL.sz_12, DL.sz_13, DL.sz_14, DL.sz_15, DL.sz_16, DL.sz_17, DL.sz_18, DL.sz_19, DL.sz_20, DL.sz_21, DL.sz_22, DL.sz_23, DL.sz_24, DL.sz_25, DL.sz_26, DL.sz_27, DL.sz_28, DL.sz_29, DL.sz_30, DL.nc_0, DL.nc_1, DL.nc_2, DL.nc_3, DL.nc_4, DL.nc_5, DL.nc_6, DL.nc_7, DL.nc_8, DL.nc_9, DL.nc_10, DL.nc_11, DL.nc_12, DL.nc_13, DL.nc_14, DL.nc_15, DL.nc_16, DL.nc_17, DL.nc_18, DL.nc_19, DL.nc_20, DL.nc_21, DL.nc_22, DL.nc_23, DL.nc_24, DL.nc_25, DL.nc_26, DL.nc_27, DL.nc_28, DL.nc_29, DL.nc_30, DL.addD_i, DL.addD_t, DL.addD_l, DL.subD_i, DL.modD_i, DL.fdivD_i, DL.mulD_i, DL.lenD_t, DL.lenD_l, DL.tupleD_t, DL.tupleD_l, DL.listD_t, DL.listD_l, DL.truD_i, DL.truD_b, DL.truD_n, DL.truD_l, DL.truD_t, DL.ixD_t, DL.ixD_l, DL.negD_i, DL.bD_a, DL.ltB_i, DL.leB_i, DL.eqB_i, DL.neB_i, DL.items_t, DL.items_l, DL.intD_b, DL.isNN, DL.slD_t, DL.slD_l, DL.p_ge0, DL.p_geS, DL.p_tk0, DL.p_tkS, DL.p_tkN, DL.p_dr0, DL.p_drS, DL.p_drN, DL.p_mpC, DL.p_mpN, DL.p_apC, DL.p_apN, DL.p_lnC, DL.p_lnN, DL.p_rpS, DL.p_rp0, DL.p_alC, DL.p_alN, DL.p_gdS, DL.p_gdN, DL.p_tlS, DL.p_tlN, DL.p_ieC, DL.p_ieN, DL.p_nt, DL.p_nf, DL.p_atb, DL.p_afb, DL.p_abt, DL.p_abf, DL.p_eqS, DL.p_dT, DL.p_dF, DL.p_TA, DL.p_AT, DL.p_TO, DL.p_OT, DL.p_startD, DL.p_startR, DL.forK_nx, DL.forK_ct, DL.forK_rt, DL.yesM_a, DL.it1_a, DL.compM_a, DL.wipeR_c, DL.wipeR_n, DL.restR_c, DL.restR_n, DL.gtD_i, DL.gtD_T, DL.ob_assoc, DL.om_bind, DL.ob_map, DL.om_map, DL.cnd_bind, DL.cnd_map, DL.guard_bind, DL.guard_map, DL.atI_c0, DL.atI_c1, DL.atI_c2, DL.atI_c3, DL.encN_0, DL.encN_1, DL.encN_2, DL.encN_u, DL.revD_t, DL.revD_l, DL.eq_TI, DL.ne_TI, DL.enumM_a, DL.exM_a, DL.seqK_ex, DL.finF_ex, DL.forK_ex, DL.tri_no, DL.trm_no, DL.atI_neg1, DL.wipO_nx, DL.wipO_ct, DL.wipO_bk, DL.wipO_rt, DL.wipO_ex, DL.wipM_a, DL.preM_a, DL.two_a, DL.finR_ex, DL.len_map, DL.len_app, DL.len_ir, DL.len_rev, DL.sz_c, DL.rng_c, DL.rngL_n, DL.forM_a', DL.rev_map, DL.seqK_bk, DL.forK_bk, DL.enum_m, DL.emp_map, PG.Sq_written_1_a, PG.Sq_tie_in_1_a, PG.Sq_read_1_a, PG.Sq_read_2_a, PG.Sq_read_3_a, PG.Sq_read_4_a, DL.eq_LI, DL.ne_LI, DL.eq_LI0, DL.ne_LI0, DL.eq_LT, DL.ne_LT, DL.eq_LR, DL.ne_LR, DL.eq_TR, DL.ne_TR, DL.eq_B, DL.ne_B, DL.wp_mapE, DL.sortDict_map, DL.map_id_int, DL.cut_f, DL.cut_t, DL.cut_f1, DL.map_drop', DL.map_take', DL.map_app', DL.len_zip, DL.dkOf_i, DL.keyOf_i, PG.allD_map', PG.enum_ir, PG.eq_BB, PG.ne_BB, Nat.reduceAdd, Nat.reduceSub, Nat.reduceMul, Int.reduceLT, Int.reduceLE, Int.reducePow, Int.reduceNeg, Int.reduceAdd, Int.reduceSub, Int.reduceMul, Int.reduceBEq, Int.reduceBNe, Int.reduceToNat, $xs,*])
namespace FA
open PySem L2 DL GT PG RX
end FA
local macro_rules | `(tactic| simp_arith [$xs,*]) => `(tactic| simp (maxSteps := 2000000) (disch := omega) only [DL.ob_some, DL.om_some, DL.dat_d, DL.lis_l, DL.dic_m, DL.gt_0, DL.gt_1, DL.gt_2, DL.gt_3, DL.gt_4, DL.gt_5, DL.gt_6, DL.gt_7, DL.gt_b, DL.st_0, DL.st_s, DL.plG_d, DL.plG_n, DL.plainAt_a, DL.varM_a, DL.ownM_a, DL.cM_a, DL.ofL_a, DL.opM_a, DL.unM_a, DL.truM_a, DL.tstM_a, DL.notM_a, DL.cnd_t, DL.cnd_f, DL.andM_a, DL.orM_a, DL.andVM_a, DL.notVM_a, DL.iteM_a, DL.chM_a, DL.nilM_a, DL.consM_a, DL.guard_tt, DL.tupM_a, DL.lstM_a, DL.noM_a, DL.intV_i, DL.someM_a, DL.slM_a, DL.rng1M_a, DL.rng2M_a, DL.zipV_t, DL.zipV_l, DL.zipM_a, DL.seqM_a, DL.callM_a, DL.hereM_a, DL.callRM_a, DL.appM_a, DL.lisV_l, DL.catOwnM_a, DL.newDM_a, DL.putM_a, DL.lenDM_a, DL.sortDM_a, DL.nameG_a, DL.nilG_a, DL.consG_a, DL.tupG_a, DL.seqS_a, DL.seqK_nx, DL.seqK_rt, DL.seqK_ct, DL.skipM_a, DL.asgM_a, DL.asgG_a, DL.newM_a, DL.asgLM_a, DL.retM_a, DL.exprM_a, DL.ifM_a, DL.forM_a, DL.runF_a, DL.finF_rt, DL.finF_nx, DL.runR_a, DL.finR_rt, DL.finR_nx, DL.sz_0, DL.sz_1, DL.sz_2, DL.sz_3, DL.sz_4, DL.sz_5, DL.sz_6, DL.sz_7, DL.sz_8, DL.sz_9, DL.sz_10, DL.sz_11, DL.sz_12, DL.sz_13, DL.sz_14, DL.sz_15, DL.sz_16, DL.sz_17, DL.sz_18, DL.sz_19, DL.sz_20, DL.sz_21, DL.sz_22, DL.sz_23, DL.sz_24, DL.sz_25, DL.sz_26, DL.sz_27, DL.sz_28, DL.sz_29, DL.sz_30, DL.nc_0, DL.nc_1, DL.nc_2, DL.nc_3, DL.nc_4, DL.nc_5, DL.nc_6, DL.nc_7, DL.nc_8, DL.nc_9, DL.nc_10, DL.nc_11, DL.nc_12, DL.nc_13, DL.nc_14, DL.nc_15, DL.nc_16, DL.nc_17, DL.nc_18, DL.nc_19, DL.nc_20, DL.nc_21, DL.nc_22, DL.nc_23, DL.nc_24, DL.nc_25, DL.nc_26, DL.nc_27, DL.nc_28, DL.nc_29, DL.nc_30, DL.addD_i, DL.addD_t, DL.addD_l, DL.subD_i, DL.modD_i, DL.fdivD_i, DL.mulD_i, DL.lenD_t, DL.lenD_l, DL.tupleD_t, DL.tupleD_l, DL.listD_t, DL.listD_l, DL.truD_i, DL.truD_b, DL.truD_n, DL.truD_l, DL.truD_t, DL.ixD_t, DL.ixD_l, DL.negD_i, DL.bD_a, DL.ltB_i, DL.leB_i, DL.eqB_i, DL.neB_i, DL.items_t, DL.items_l, DL.intD_b, DL.isNN, DL.slD_t, DL.slD_l, DL.p_ge0, DL.p_geS, DL.p_tk0, DL.p_tkS, DL.p_tkN, DL.p_dr0, DL.p_drS, DL.p_drN, DL.p_mpC, DL.p_mpN, DL.p_apC, DL.p_apN, DL.p_lnC, DL.p_lnN, DL.p_rpS, DL.p_rp0, DL.p_alC, DL.p_alN, DL.p_gdS, DL.p_gdN, DL.p_tlS, DL.p_tlN, DL.p_ieC, DL.p_ieN, DL.p_nt, DL.p_nf, DL.p_atb, DL.p_afb, DL.p_abt, DL.p_abf, DL.p_eqS, DL.p_dT, DL.p_dF, DL.p_TA, DL.p_AT, DL.p_TO, DL.p_OT, DL.p_startD, DL.p_startR, DL.forK_nx, DL.forK_ct, DL.forK_rt, DL.yesM_a, DL.it1_a, DL.compM_a, DL.wipeR_c, DL.wipeR_n, DL.restR_c, DL.restR_n, DL.gtD_i, DL.gtD_T, DL.ob_assoc, DL.om_bind, DL.ob_map, DL.om_map, DL.cnd_bind, DL.cnd_map, DL.guard_bind, DL.guard_map, DL.atI_c0, DL.atI_c1, DL.atI_c2, DL.atI_c3, DL.encN_0, DL.encN_1, DL.encN_2, DL.encN_u, DL.revD_t, DL.revD_l, DL.eq_TI, DL.ne_TI, DL.enumM_a, DL.exM_a, DL.seqK_ex, DL.finF_ex, DL.forK_ex, DL.tri_no, DL.trm_no, DL.atI_neg1, DL.wipO_nx, DL.wipO_ct, DL.wipO_bk, DL.wipO_rt, DL.wipO_ex, DL.wipM_a, DL.preM_a, DL.two_a, DL.finR_ex, DL.len_map, DL.len_app, DL.len_ir, DL.len_rev, DL.sz_c, DL.rng_c, DL.rngL_n, DL.forM_a', DL.rev_map, DL.seqK_bk, DL.forK_bk, DL.enum_m, DL.emp_map, PG.Sq_written_1_a, PG.Sq_tie_in_1_a, PG.Sq_read_1_a, PG.Sq_read_2_a, PG.Sq_read_3_a, PG.Sq_read_4_a, DL.eq_LI, DL.ne_LI, DL.eq_LI0, DL.ne_LI0, DL.eq_LT, DL.ne_LT, DL.eq_LR, DL.ne_LR, DL.eq_TR, DL.ne_TR, DL.eq_B, DL.ne_B, DL.wp_mapE, DL.sortDict_map, DL.map_id_int, DL.cut_f, DL.cut_t, DL.cut_f1, DL.map_drop', DL.map_take', DL.map_app', DL.len_zip, DL.dkOf_i, DL.keyOf_i, PG.allD_map', PG.enum_ir, PG.eq_BB, PG.ne_BB, DL.runX_a, DL.finX_rt, DL.finX_ex, DL.tryM_a, DL.tryK_ok, DL.tryK_er, DL.finX_nx, DL.isN_i, DL.rngL_g1, Nat.reduceAdd, Nat.reduceSub, Nat.reduceMul, Int.reduceLT, Int.reduceLE, Int.reducePow, Int.reduceNeg, Int.reduceAdd, Int.reduceSub, Int.reduceMul, Int.reduceBEq, Int.reduceBNe, Int.reduceToNat, $xs,*])
namespace PG
open PySem L2 DL GT RX
/-! the first choice that is right -/
/-! how many groups rows tell apart -/
def word (rows : List (List Int)) (t : Int) : List Bool := rows.map fun row => decide (t ∈ row)
def told (rows : List (List Int)) (m : Nat) : Int × Int := (((once ((ir m).map (word rows))).length : Nat), (((ir m).filter fun t => !(word rows t).any id).length : Nat))
/-! told_by and is_enough -/
/-! the fewest -/
end PG
namespace PG
open PySem L2 DL GT RX
/-! the fewest that see all -/
end PG
namespace PG
open PySem L2 DL GT RX
/-! needless, short -/
end PG
namespace DL
open PySem L2 GT PySem.W
/-! data that are ordered -/
end DL
namespace PG
open PySem L2 DL GT RX
/-! all choices, by their lengths, then rising -/
end PG
local macro_rules | `(tactic| simp_arith [$xs,*]) => `(tactic| simp (maxSteps := 2000000) (disch := omega) only [DL.ob_some, DL.om_some, DL.dat_d, DL.lis_l, DL.dic_m, DL.gt_0, DL.gt_1, DL.gt_2, DL.gt_3, DL.gt_4, DL.gt_5, DL.gt_6, DL.gt_7, DL.gt_b, DL.st_0, DL.st_s, DL.plG_d, DL.plG_n, DL.plainAt_a, DL.varM_a, DL.ownM_a, DL.cM_a, DL.ofL_a, DL.opM_a, DL.unM_a, DL.truM_a, DL.tstM_a, DL.notM_a, DL.cnd_t, DL.cnd_f, DL.andM_a, DL.orM_a, DL.andVM_a, DL.notVM_a, DL.iteM_a, DL.chM_a, DL.nilM_a, DL.consM_a, DL.guard_tt, DL.tupM_a, DL.lstM_a, DL.noM_a, DL.intV_i, DL.someM_a, DL.slM_a, DL.rng1M_a, DL.rng2M_a, DL.zipV_t, DL.zipV_l, DL.zipM_a, DL.seqM_a, DL.callM_a, DL.hereM_a, DL.callRM_a, DL.appM_a, DL.lisV_l, DL.catOwnM_a, DL.newDM_a, DL.putM_a, DL.lenDM_a, DL.sortDM_a, DL.nameG_a, DL.nilG_a, DL.consG_a, DL.tupG_a, DL.seqS_a, DL.seqK_nx, DL.seqK_rt, DL.seqK_ct, DL.skipM_a, DL.asgM_a, DL.asgG_a, DL.newM_a, DL.asgLM_a, DL.retM_a, DL.exprM_a, DL.ifM_a, DL.forM_a, DL.runF_a, DL.finF_rt, DL.finF_nx, DL.runR_a, DL.finR_rt, DL.finR_nx, DL.sz_0, DL.sz_1, DL.sz_2, DL.sz_3, DL.sz_4, DL.sz_5, DL.sz_6, DL.sz_7, DL.sz_8, DL.sz_9, DL.sz_10, DL.sz_11, DL.sz_12, DL.sz_13, DL.sz_14, DL.sz_15, DL.sz_16, DL.sz_17, DL.sz_18, DL.sz_19, DL.sz_20, DL.sz_21, DL.sz_22, DL.sz_23, DL.sz_24, DL.sz_25, DL.sz_26, DL.sz_27, DL.sz_28, DL.sz_29, DL.sz_30, DL.nc_0, DL.nc_1, DL.nc_2, DL.nc_3, DL.nc_4, DL.nc_5, DL.nc_6, DL.nc_7, DL.nc_8, DL.nc_9, DL.nc_10, DL.nc_11, DL.nc_12, DL.nc_13, DL.nc_14, DL.nc_15, DL.nc_16, DL.nc_17, DL.nc_18, DL.nc_19, DL.nc_20, DL.nc_21, DL.nc_22, DL.nc_23, DL.nc_24, DL.nc_25, DL.nc_26, DL.nc_27, DL.nc_28, DL.nc_29, DL.nc_30, DL.addD_i, DL.addD_t, DL.addD_l, DL.subD_i, DL.modD_i, DL.fdivD_i, DL.mulD_i, DL.lenD_t, DL.lenD_l, DL.tupleD_t, DL.tupleD_l, DL.listD_t, DL.listD_l, DL.truD_i, DL.truD_b, DL.truD_n, DL.truD_l, DL.truD_t, DL.ixD_t, DL.ixD_l, DL.negD_i, DL.bD_a, DL.ltB_i, DL.leB_i, DL.eqB_i, DL.neB_i, DL.items_t, DL.items_l, DL.intD_b, DL.isNN, DL.slD_t, DL.slD_l, DL.p_ge0, DL.p_geS, DL.p_tk0, DL.p_tkS, DL.p_tkN, DL.p_dr0, DL.p_drS, DL.p_drN, DL.p_mpC, DL.p_mpN, DL.p_apC, DL.p_apN, DL.p_lnC, DL.p_lnN, DL.p_rpS, DL.p_rp0, DL.p_alC, DL.p_alN, DL.p_gdS, DL.p_gdN, DL.p_tlS, DL.p_tlN, DL.p_ieC, DL.p_ieN, DL.p_nt, DL.p_nf, DL.p_atb, DL.p_afb, DL.p_abt, DL.p_abf, DL.p_eqS, DL.p_dT, DL.p_dF, DL.p_TA, DL.p_AT, DL.p_TO, DL.p_OT, DL.p_startD, DL.p_startR, DL.forK_nx, DL.forK_ct, DL.forK_rt, DL.yesM_a, DL.it1_a, DL.compM_a, DL.wipeR_c, DL.wipeR_n, DL.restR_c, DL.restR_n, DL.gtD_i, DL.gtD_T, DL.ob_assoc, DL.om_bind, DL.ob_map, DL.om_map, DL.cnd_bind, DL.cnd_map, DL.guard_bind, DL.guard_map, DL.atI_c0, DL.atI_c1, DL.atI_c2, DL.atI_c3, DL.encN_0, DL.encN_1, DL.encN_2, DL.encN_u, DL.revD_t, DL.revD_l, DL.eq_TI, DL.ne_TI, DL.enumM_a, DL.exM_a, DL.seqK_ex, DL.finF_ex, DL.forK_ex, DL.tri_no, DL.trm_no, DL.atI_neg1, DL.wipO_nx, DL.wipO_ct, DL.wipO_bk, DL.wipO_rt, DL.wipO_ex, DL.wipM_a, DL.preM_a, DL.two_a, DL.finR_ex, DL.len_map, DL.len_app, DL.len_ir, DL.len_rev, DL.sz_c, DL.rng_c, DL.rngL_n, DL.forM_a', DL.rev_map, DL.seqK_bk, DL.forK_bk, DL.enum_m, DL.emp_map, PG.Sq_written_1_a, PG.Sq_tie_in_1_a, PG.Sq_read_1_a, PG.Sq_read_2_a, PG.Sq_read_3_a, PG.Sq_read_4_a, DL.eq_LI, DL.ne_LI, DL.eq_LI0, DL.ne_LI0, DL.eq_LT, DL.ne_LT, DL.eq_LR, DL.ne_LR, DL.eq_TR, DL.ne_TR, DL.eq_B, DL.ne_B, DL.wp_mapE, DL.sortDict_map, DL.map_id_int, DL.cut_f, DL.cut_t, DL.cut_f1, DL.map_drop', DL.map_take', DL.map_app', DL.len_zip, DL.dkOf_i, DL.keyOf_i, PG.allD_map', PG.enum_ir, PG.eq_BB, PG.ne_BB, DL.runX_a, DL.finX_rt, DL.finX_ex, DL.tryM_a, DL.tryK_ok, DL.tryK_er, DL.finX_nx, DL.isN_i, DL.rngL_g1, Nat.reduceAdd, Nat.reduceSub, Nat.reduceMul, Int.reduceLT, Int.reduceLE, Int.reducePow, Int.reduceNeg, Int.reduceAdd, Int.reduceSub, Int.reduceMul, Int.reduceBEq, Int.reduceBNe, Int.reduceToNat, $xs,*])
namespace PG
open PySem L2 DL GT RX
/-! a net with one more tie -/
end PG
namespace PG
open PySem L2 DL GT RX
section
variable {N : Net} {t : Tie}
theorem canon_ties {xs ys : List Tie} (h : ys.Pairwise tlt) (e : ∀ x, x ∈ xs ↔ x ∈ ys) : canonP xs = ys :=
  up_ext (up_canonP xs) h fun x => by rw [mem_canonP, e x]
end
end PG
namespace PG
open PySem L2 DL GT RX
end PG
namespace DL
open PySem L2 GT
/-! sorted(dict([(tie, 0) ..])) -/
def ddT (ts ks : List Tie) : List Tie := ts.foldl (fun ks t => if t ∈ ks then ks else ks ++ [t]) ks
theorem ddT_spec : ∀ (ts ks : List Tie), ks.Nodup → (ddT ts ks).Nodup ∧ (∀ t, t ∈ ddT ts ks ↔ t ∈ ks ∨ t ∈ ts) ∧ (ddT ts ks).length ≤ ks.length + ts.length
  | [], ks, h => ⟨h, fun t => by simp [ddT], by simp [ddT]⟩
  | t :: ts, ks, h => by
    have e : ddT (t :: ts) ks = ddT ts (if t ∈ ks then ks else ks ++ [t]) := rfl
    rw [e]
    by_cases m : t ∈ ks
    · rw [if_pos m]
      obtain ⟨h1, h2, h3⟩ := ddT_spec ts ks h
      refine ⟨h1, fun u => ?_, by rw [List.length_cons]; omega⟩
      rw [h2, List.mem_cons]
      constructor
      · rintro (q | q)
        · exact .inl q
        · exact .inr (.inr q)
      · rintro (q | rfl | q)
        · exact .inl q
        · exact .inl m
        · exact .inr q
    · rw [if_neg m]
      have nd : (ks ++ [t]).Nodup := by
        rw [List.nodup_append]
        refine ⟨h, by simp, fun a ha b hb e => ?_⟩
        rw [List.mem_singleton] at hb
        exact m (hb ▸ e ▸ ha)
      obtain ⟨h1, h2, h3⟩ := ddT_spec ts _ nd
      refine ⟨h1, fun u => ?_, by rw [List.length_append, List.length_singleton] at h3; rw [List.length_cons]; omega⟩
      rw [h2, List.mem_cons, List.mem_append, List.mem_singleton]
      exact or_assoc
theorem headsT_T : ∀ ts : List Tie, headsT (ts.map fun t => .tuple [encT t, .int 0]) = some (ts.map fun t => ([.inl t.1, .inl t.2], .int 0))
  | [] => rfl
  | t :: ts => by
    rw [List.map_cons]
    simp only [headsT]
    rw [headsT_T ts]
    rfl
theorem dictTD_T (ts : List Tie) : ∀ ks : List Tie, (ts.map fun t => (([.inl t.1, .inl t.2] : List Key), PyData.int 0)).foldl (fun m p => putG m (.inr p.1) p.2) (dicT ks) = dicT (ddT ts ks) := by
  induction ts with
  | nil => intro ks; rfl
  | cons t ts ih =>
    intro ks
    rw [List.map_cons, List.foldl_cons]
    have : putG (dicT ks) (.inr [.inl t.1, .inl t.2]) (PyData.int 0) = dicT (if t ∈ ks then ks else ks ++ [t]) := dicT_put ks t
    rw [this, ih]
    rfl
theorem sortDictB_T {ts : List Tie} (few : ts.length ≤ 1000) : sortDictB (.list (ts.map fun t => .tuple [encT t, .int 0])) = some (.list ((canonP ts).map encT)) := by
  cases ts with
  | nil => simp [sortDictB, sortDictD, headsI, dedup, canonP]
  | cons t l =>
    have h0 : sortDictD (.list ((t :: l).map fun t => .tuple [encT t, .int 0])) = none := rfl
    unfold sortDictB
    rw [h0]
    simp only [sortDictT]
    rw [headsT_T]
    obtain ⟨h1, h2, h3⟩ := ddT_spec (t :: l) [] List.nodup_nil
    have e : dictTD ((t :: l).map fun t => (([.inl t.1, .inl t.2] : List Key), PyData.int 0)) = dicT (ddT (t :: l) []) := dictTD_T (t :: l) []
    simp only [Option.bind_some]
    rw [e, dicT_keys, sortOk_T (by simp at h3 few; omega), if_pos rfl, sortL_T]
    have : sortT (ddT (t :: l) []) = canonP (t :: l) := up_ext (sortT_lt h1) (up_canonP _) fun x => by
      rw [mem_sortT, h2, mem_canonP]; simp
    rw [this]
/-! nets compared -/
theorem shaped_net (N : Net) : SeqAt.shaped (encN N) = true := by
  refine sh_mk ?_ ?_
  · simp [encN, PyData.canLay0, PyData.canLayAll0, layAll encF_T, layAll encF_int]
  · have h1 := depAll encF_T N.ties
    have h2 := depAll encF_int N.rim
    simp only [encN, PyData.depth, PyData.depthAll]
    omega
def netEq (A B : Net) : Bool := decide (A.n = B.n) && decide (A.ties = B.ties) && decide (A.rim = B.rim)
theorem eqv_net (A B : Net) : PyData.eqv (encN A) (encN B) = netEq A B := by
  have h1 := eqvAll_map encF_T A.ties B.ties
  have h2 := eqvAll_map encF_int A.rim B.rim
  have h3 := encF_int.eqv (A.n : Int) (B.n : Int)
  simp only [encN, PyData.eqv, PyData.eqvAll] at h1 h2 h3 ⊢
  rw [h1, h2, h3, netEq, Bool.eq_iff_iff]
  simp [and_assoc]
  omega
theorem eq_NN (A B : Net) : eqB (encN A) (encN B) = some (netEq A B) := by
  unfold eqB; rw [shaped_net, shaped_net, eqv_net]; rfl
theorem ne_NN (A B : Net) : neB (encN A) (encN B) = some (!netEq A B) := by
  unfold neB; rw [shaped_net, shaped_net, eqv_net]; rfl
theorem encF_TT : EncF 3 (fun xs : List Tie => PyData.tuple (xs.map encT)) := encF_tup encF_T
theorem eq_TT (a b : List Tie) : eqB (.tuple (a.map encT)) (.tuple (b.map encT)) = some (decide (a = b)) := eq_one encF_TT (by omega) a b
theorem ne_TT (a b : List Tie) : neB (.tuple (a.map encT)) (.tuple (b.map encT)) = some (!decide (a = b)) := ne_one encF_TT (by omega) a b
theorem eq_TT0 (a : List Tie) : eqB (.tuple (a.map encT)) (.tuple []) = some (decide (a = [])) := eq_TT a []
theorem ne_TI0 (a : List Int) : neB (.tuple (a.map .int)) (.tuple []) = some (!decide (a = [])) := ne_TI a []
theorem eq_TI0 (a : List Int) : eqB (.tuple (a.map .int)) (.tuple []) = some (decide (a = [])) := eq_TI a []
end DL
namespace PG
open PySem L2 DL GT RX
end PG
local macro_rules | `(tactic| simp_arith [$xs,*]) => `(tactic| simp (maxSteps := 2000000) (disch := omega) only [DL.ob_some, DL.om_some, DL.dat_d, DL.lis_l, DL.dic_m, DL.gt_0, DL.gt_1, DL.gt_2, DL.gt_3, DL.gt_4, DL.gt_5, DL.gt_6, DL.gt_7, DL.gt_b, DL.st_0, DL.st_s, DL.plG_d, DL.plG_n, DL.plainAt_a, DL.varM_a, DL.ownM_a, DL.cM_a, DL.ofL_a, DL.opM_a, DL.unM_a, DL.truM_a, DL.tstM_a, DL.notM_a, DL.cnd_t, DL.cnd_f, DL.andM_a, DL.orM_a, DL.andVM_a, DL.notVM_a, DL.iteM_a, DL.chM_a, DL.nilM_a, DL.consM_a, DL.guard_tt, DL.tupM_a, DL.lstM_a, DL.noM_a, DL.intV_i, DL.someM_a, DL.slM_a, DL.rng1M_a, DL.rng2M_a, DL.zipV_t, DL.zipV_l, DL.zipM_a, DL.seqM_a, DL.callM_a, DL.hereM_a, DL.callRM_a, DL.appM_a, DL.lisV_l, DL.catOwnM_a, DL.newDM_a, DL.putM_a, DL.lenDM_a, DL.sortDM_a, DL.nameG_a, DL.nilG_a, DL.consG_a, DL.tupG_a, DL.seqS_a, DL.seqK_nx, DL.seqK_rt, DL.seqK_ct, DL.skipM_a, DL.asgM_a, DL.asgG_a, DL.newM_a, DL.asgLM_a, DL.retM_a, DL.exprM_a, DL.ifM_a, DL.forM_a, DL.runF_a, DL.finF_rt, DL.finF_nx, DL.runR_a, DL.finR_rt, DL.finR_nx, DL.sz_0, DL.sz_1, DL.sz_2, DL.sz_3, DL.sz_4, DL.sz_5, DL.sz_6, DL.sz_7, DL.sz_8, DL.sz_9, DL.sz_10, DL.sz_11, DL.sz_12, DL.sz_13, DL.sz_14, DL.sz_15, DL.sz_16, DL.sz_17, DL.sz_18, DL.sz_19, DL.sz_20, DL.sz_21, DL.sz_22, DL.sz_23, DL.sz_24, DL.sz_25, DL.sz_26, DL.sz_27, DL.sz_28, DL.sz_29, DL.sz_30, DL.nc_0, DL.nc_1, DL.nc_2, DL.nc_3, DL.nc_4, DL.nc_5, DL.nc_6, DL.nc_7, DL.nc_8, DL.nc_9, DL.nc_10, DL.nc_11, DL.nc_12, DL.nc_13, DL.nc_14, DL.nc_15, DL.nc_16, DL.nc_17, DL.nc_18, DL.nc_19, DL.nc_20, DL.nc_21, DL.nc_22, DL.nc_23, DL.nc_24, DL.nc_25, DL.nc_26, DL.nc_27, DL.nc_28, DL.nc_29, DL.nc_30, DL.addD_i, DL.addD_t, DL.addD_l, DL.subD_i, DL.modD_i, DL.fdivD_i, DL.mulD_i, DL.lenD_t, DL.lenD_l, DL.tupleD_t, DL.tupleD_l, DL.listD_t, DL.listD_l, DL.truD_i, DL.truD_b, DL.truD_n, DL.truD_l, DL.truD_t, DL.ixD_t, DL.ixD_l, DL.negD_i, DL.bD_a, DL.ltB_i, DL.leB_i, DL.eqB_i, DL.neB_i, DL.items_t, DL.items_l, DL.intD_b, DL.isNN, DL.slD_t, DL.slD_l, DL.p_ge0, DL.p_geS, DL.p_tk0, DL.p_tkS, DL.p_tkN, DL.p_dr0, DL.p_drS, DL.p_drN, DL.p_mpC, DL.p_mpN, DL.p_apC, DL.p_apN, DL.p_lnC, DL.p_lnN, DL.p_rpS, DL.p_rp0, DL.p_alC, DL.p_alN, DL.p_gdS, DL.p_gdN, DL.p_tlS, DL.p_tlN, DL.p_ieC, DL.p_ieN, DL.p_nt, DL.p_nf, DL.p_atb, DL.p_afb, DL.p_abt, DL.p_abf, DL.p_eqS, DL.p_dT, DL.p_dF, DL.p_TA, DL.p_AT, DL.p_TO, DL.p_OT, DL.p_startD, DL.p_startR, DL.forK_nx, DL.forK_ct, DL.forK_rt, DL.yesM_a, DL.it1_a, DL.compM_a, DL.wipeR_c, DL.wipeR_n, DL.restR_c, DL.restR_n, DL.gtD_i, DL.gtD_T, DL.ob_assoc, DL.om_bind, DL.ob_map, DL.om_map, DL.cnd_bind, DL.cnd_map, DL.guard_bind, DL.guard_map, DL.atI_c0, DL.atI_c1, DL.atI_c2, DL.atI_c3, DL.encN_0, DL.encN_1, DL.encN_2, DL.encN_u, DL.revD_t, DL.revD_l, DL.eq_TI, DL.ne_TI, DL.enumM_a, DL.exM_a, DL.seqK_ex, DL.finF_ex, DL.forK_ex, DL.tri_no, DL.trm_no, DL.atI_neg1, DL.wipO_nx, DL.wipO_ct, DL.wipO_bk, DL.wipO_rt, DL.wipO_ex, DL.wipM_a, DL.preM_a, DL.two_a, DL.finR_ex, DL.len_map, DL.len_app, DL.len_ir, DL.len_rev, DL.sz_c, DL.rng_c, DL.rngL_n, DL.forM_a', DL.rev_map, DL.seqK_bk, DL.forK_bk, DL.enum_m, DL.emp_map, PG.Sq_written_1_a, PG.Sq_tie_in_1_a, PG.Sq_read_1_a, PG.Sq_read_2_a, PG.Sq_read_3_a, PG.Sq_read_4_a, DL.eq_LI, DL.ne_LI, DL.eq_LI0, DL.ne_LI0, DL.eq_LT, DL.ne_LT, DL.eq_LR, DL.ne_LR, DL.eq_TR, DL.ne_TR, DL.eq_B, DL.ne_B, DL.wp_mapE, DL.sortDict_map, DL.map_id_int, DL.cut_f, DL.cut_t, DL.cut_f1, DL.map_drop', DL.map_take', DL.map_app', DL.len_zip, DL.dkOf_i, DL.keyOf_i, PG.allD_map', PG.enum_ir, PG.eq_BB, PG.ne_BB, DL.runX_a, DL.finX_rt, DL.finX_ex, DL.tryM_a, DL.tryK_ok, DL.tryK_er, DL.finX_nx, DL.isN_i, DL.rngL_g1, DL.eq_NN, DL.ne_NN, DL.eq_TT, DL.ne_TT, DL.eq_TT0, DL.ne_TI0, DL.eq_TI0, Nat.reduceAdd, Nat.reduceSub, Nat.reduceMul, Int.reduceLT, Int.reduceLE, Int.reducePow, Int.reduceNeg, Int.reduceAdd, Int.reduceSub, Int.reduceMul, Int.reduceBEq, Int.reduceBNe, Int.reduceToNat, $xs,*])
namespace PG
open PySem L2 DL GT RX
end PG
namespace PG
open PySem L2 DL GT RX
end PG
namespace PG
open PySem L2 DL GT RX
end PG
local macro_rules | `(tactic| simp_arith [$xs,*]) => `(tactic| simp (maxSteps := 2000000) (disch := omega) only [DL.ob_some, DL.om_some, DL.dat_d, DL.lis_l, DL.dic_m, DL.gt_0, DL.gt_1, DL.gt_2, DL.gt_3, DL.gt_4, DL.gt_5, DL.gt_6, DL.gt_7, DL.gt_b, DL.st_0, DL.st_s, DL.plG_d, DL.plG_n, DL.plainAt_a, DL.varM_a, DL.ownM_a, DL.cM_a, DL.ofL_a, DL.opM_a, DL.unM_a, DL.truM_a, DL.tstM_a, DL.notM_a, DL.cnd_t, DL.cnd_f, DL.andM_a, DL.orM_a, DL.andVM_a, DL.notVM_a, DL.iteM_a, DL.chM_a, DL.nilM_a, DL.consM_a, DL.guard_tt, DL.tupM_a, DL.lstM_a, DL.noM_a, DL.intV_i, DL.someM_a, DL.slM_a, DL.rng1M_a, DL.rng2M_a, DL.zipV_t, DL.zipV_l, DL.zipM_a, DL.seqM_a, DL.callM_a, DL.hereM_a, DL.callRM_a, DL.appM_a, DL.lisV_l, DL.catOwnM_a, DL.newDM_a, DL.putM_a, DL.lenDM_a, DL.sortDM_a, DL.nameG_a, DL.nilG_a, DL.consG_a, DL.tupG_a, DL.seqS_a, DL.seqK_nx, DL.seqK_rt, DL.seqK_ct, DL.skipM_a, DL.asgM_a, DL.asgG_a, DL.newM_a, DL.asgLM_a, DL.retM_a, DL.exprM_a, DL.ifM_a, DL.forM_a, DL.runF_a, DL.finF_rt, DL.finF_nx, DL.runR_a, DL.finR_rt, DL.finR_nx, DL.sz_0, DL.sz_1, DL.sz_2, DL.sz_3, DL.sz_4, DL.sz_5, DL.sz_6, DL.sz_7, DL.sz_8, DL.sz_9, DL.sz_10, DL.sz_11, DL.sz_12, DL.sz_13, DL.sz_14, DL.sz_15, DL.sz_16, DL.sz_17, DL.sz_18, DL.sz_19, DL.sz_20, DL.sz_21, DL.sz_22, DL.sz_23, DL.sz_24, DL.sz_25, DL.sz_26, DL.sz_27, DL.sz_28, DL.sz_29, DL.sz_30, DL.nc_0, DL.nc_1, DL.nc_2, DL.nc_3, DL.nc_4, DL.nc_5, DL.nc_6, DL.nc_7, DL.nc_8, DL.nc_9, DL.nc_10, DL.nc_11, DL.nc_12, DL.nc_13, DL.nc_14, DL.nc_15, DL.nc_16, DL.nc_17, DL.nc_18, DL.nc_19, DL.nc_20, DL.nc_21, DL.nc_22, DL.nc_23, DL.nc_24, DL.nc_25, DL.nc_26, DL.nc_27, DL.nc_28, DL.nc_29, DL.nc_30, DL.addD_i, DL.addD_t, DL.addD_l, DL.subD_i, DL.modD_i, DL.fdivD_i, DL.mulD_i, DL.lenD_t, DL.lenD_l, DL.tupleD_t, DL.tupleD_l, DL.listD_t, DL.listD_l, DL.truD_i, DL.truD_b, DL.truD_n, DL.truD_l, DL.truD_t, DL.ixD_t, DL.ixD_l, DL.negD_i, DL.bD_a, DL.ltB_i, DL.leB_i, DL.eqB_i, DL.neB_i, DL.items_t, DL.items_l, DL.intD_b, DL.isNN, DL.slD_t, DL.slD_l, DL.p_ge0, DL.p_geS, DL.p_tk0, DL.p_tkS, DL.p_tkN, DL.p_dr0, DL.p_drS, DL.p_drN, DL.p_mpC, DL.p_mpN, DL.p_apC, DL.p_apN, DL.p_lnC, DL.p_lnN, DL.p_rpS, DL.p_rp0, DL.p_alC, DL.p_alN, DL.p_gdS, DL.p_gdN, DL.p_tlS, DL.p_tlN, DL.p_ieC, DL.p_ieN, DL.p_nt, DL.p_nf, DL.p_atb, DL.p_afb, DL.p_abt, DL.p_abf, DL.p_eqS, DL.p_dT, DL.p_dF, DL.p_TA, DL.p_AT, DL.p_TO, DL.p_OT, DL.p_startD, DL.p_startR, DL.forK_nx, DL.forK_ct, DL.forK_rt, DL.yesM_a, DL.it1_a, DL.compM_a, DL.wipeR_c, DL.wipeR_n, DL.restR_c, DL.restR_n, DL.gtD_i, DL.gtD_T, DL.ob_assoc, DL.om_bind, DL.ob_map, DL.om_map, DL.cnd_bind, DL.cnd_map, DL.guard_bind, DL.guard_map, DL.atI_c0, DL.atI_c1, DL.atI_c2, DL.atI_c3, DL.encN_0, DL.encN_1, DL.encN_2, DL.encN_u, DL.revD_t, DL.revD_l, DL.eq_TI, DL.ne_TI, DL.enumM_a, DL.exM_a, DL.seqK_ex, DL.finF_ex, DL.forK_ex, DL.tri_no, DL.trm_no, DL.atI_neg1, DL.wipO_nx, DL.wipO_ct, DL.wipO_bk, DL.wipO_rt, DL.wipO_ex, DL.wipM_a, DL.preM_a, DL.two_a, DL.finR_ex, DL.len_map, DL.len_app, DL.len_ir, DL.len_rev, DL.sz_c, DL.rng_c, DL.rngL_n, DL.forM_a', DL.rev_map, DL.seqK_bk, DL.forK_bk, DL.enum_m, DL.emp_map, PG.Sq_written_1_a, PG.Sq_tie_in_1_a, PG.Sq_read_1_a, PG.Sq_read_2_a, PG.Sq_read_3_a, PG.Sq_read_4_a, DL.eq_LI, DL.ne_LI, DL.eq_LI0, DL.ne_LI0, DL.eq_LT, DL.ne_LT, DL.eq_LR, DL.ne_LR, DL.eq_TR, DL.ne_TR, DL.eq_B, DL.ne_B, DL.wp_mapE, DL.sortDict_map, DL.map_id_int, DL.cut_f, DL.cut_t, DL.cut_f1, DL.map_drop', DL.map_take', DL.map_app', DL.len_zip, DL.dkOf_i, DL.keyOf_i, PG.allD_map', PG.enum_ir, PG.eq_BB, PG.ne_BB, DL.runX_a, DL.finX_rt, DL.finX_ex, DL.tryM_a, DL.tryK_ok, DL.tryK_er, DL.finX_nx, DL.isN_i, DL.rngL_g1, DL.eq_NN, DL.ne_NN, DL.eq_TT, DL.ne_TT, DL.eq_TT0, DL.ne_TI0, DL.eq_TI0, Nat.reduceAdd, Nat.reduceSub, Nat.reduceMul, Int.reduceLT, Int.reduceLE, Int.reducePow, Int.reduceNeg, Int.reduceAdd, Int.reduceSub, Int.reduceMul, Int.reduceBEq, Int.reduceBNe, Int.reduceToNat, $xs,*])
namespace DL
open PySem L2 GT PySem.W
/-! the least of data that are ordered -/
end DL
namespace PG
open PySem L2 DL GT RX
/-! the routes that barring takes are the least of the most -/
end PG
namespace PG
open PySem L2 DL GT RX
/-! the shortest -/
end PG
namespace PG
open PySem L2 DL GT RX
/-! ways, knots perhaps more than once -/
structure Wk (N : Net) (a b : Int) (p : List Int) : Prop where
  hd : p.head? = some a
  la : p.getLast? = some b
  lk : linked N p = true
section
variable {N : Net} {a b : Int}
theorem Wk.cons {c : Int} {p : List Int} (e : adj N c a = true) (h : Wk N a b p) : Wk N c b (c :: p) := by
  cases p with
  | nil => have := h.hd; simp at this
  | cons x p =>
    have := h.hd
    simp at this
    subst this
    exact ⟨rfl, by rw [List.getLast?_cons_cons]; exact h.la, linked_cons.mpr ⟨e, h.lk⟩⟩
theorem Wk.snoc {c : Int} {p : List Int} (h : Wk N a b p) (e : adj N b c = true) : Wk N a c (p ++ [c]) := by
  refine ⟨?_, by simp, (linked_snoc h.la).mpr ⟨h.lk, e⟩⟩
  cases p with
  | nil => have := h.hd; simp at this
  | cons x p => simpa using h.hd
/-- the last step -/
theorem Wk.back {p : List Int} (h : Wk N a b p) (two : 2 ≤ p.length) : ∃ c q, Wk N a c q ∧ adj N c b = true ∧ p.length = q.length + 1 := by
  have la := h.la
  rcases List.eq_nil_or_concat p with rfl | ⟨q, x, rfl⟩
  · simp at la
  · rw [List.concat_eq_append] at la h two ⊢
    simp at la
    subst la
    have qn : q ≠ [] := by rintro rfl; simp at two
    have hl : q.getLast? = some (q.getLast qn) := List.getLast?_eq_some_getLast qn
    obtain ⟨h1, h2⟩ := (linked_snoc hl).mp h.lk
    refine ⟨q.getLast qn, q, ⟨?_, hl, h1⟩, h2, by simp⟩
    have := h.hd
    cases q with
    | nil => exact absurd rfl qn
    | cons y q => simpa using this
end
/-! knots with how far they are -/
/-! step by step -/
structure Lev (N : Net) (a : Int) (L : Nat) (fs : List (Int × Nat)) (ring : List Int) : Prop where
  pos : 1 ≤ L
  nd : (fs.map (·.1)).Nodup
  inn : ∀ k ∈ fs.map (·.1), k ∈ ir N.n
  way : ∀ k v, (k, v) ∈ fs → ∃ p, Wk N a k p ∧ p.length = v
  least : ∀ k p, Wk N a k p → p.length ≤ L → ∃ v, (k, v) ∈ fs ∧ v ≤ p.length
  top : ∀ k v, (k, v) ∈ fs → v ≤ L
  rg : ∀ k, k ∈ ring ↔ (k, L) ∈ fs
  rn : ring.Nodup
section
variable {N : Net} {a : Int} {L : Nat} {fs : List (Int × Nat)} {ring : List Int}
theorem Lev.one (ha : 0 ≤ a ∧ a < N.n) : Lev N a 1 [(a, 1)] [a] where
  pos := Nat.le_refl _
  nd := by simp
  inn := fun k m => by simp at m; subst m; exact mem_ir.mpr ha
  way := fun k v m => by simp at m; obtain ⟨rfl, rfl⟩ := m; exact ⟨[k], ⟨rfl, rfl, rfl⟩, rfl⟩
  least := fun k p h le => by
    have h1 := h.hd
    have h2 := h.la
    match p, h1, h2, le with
    | [], h1, _, _ => simp at h1
    | [u], h1, h2, _ => simp at h1 h2; subst h1 h2; exact ⟨1, by simp, by simp⟩
    | _ :: _ :: _, _, _, le => simp at le
  top := fun k v m => by simp at m; omega
  rg := fun k => by simp
  rn := by simp
end
end PG
namespace PG
open PySem L2 DL GT RX
section
variable {N : Net} {a b : Int} {L : Nat} {fs : List (Int × Nat)}
theorem Lev.done (h : Lev N a L fs []) : ∀ (n : Nat) (k : Int) (p : List Int), p.length ≤ n → Wk N a k p → ∃ v, (k, v) ∈ fs ∧ v ≤ p.length
  | 0, k, p, le, hp => by
    have := hp.hd
    cases p with
    | nil => simp at this
    | cons _ _ => simp at le
  | n + 1, k, p, le, hp => by
    have L1 := h.pos
    by_cases le2 : p.length ≤ L
    · exact h.least k p hp le2
    · obtain ⟨c, q, hq, e, ql⟩ := hp.back (by omega)
      obtain ⟨v, m, hv⟩ := Lev.done h n c q (by omega) hq
      have vL := h.top c v m
      have ne : v ≠ L := by
        rintro rfl
        have := (h.rg c).mpr m
        cases this
      obtain ⟨s, hs, sl⟩ := h.way c v m
      obtain ⟨u, mu, hu⟩ := h.least k (s ++ [k]) (hs.snoc e) (by simp [sl]; omega)
      exact ⟨u, mu, by simp [sl] at hu; omega⟩
end
end PG
local macro_rules | `(tactic| simp_arith [$xs,*]) => `(tactic| simp (maxSteps := 2000000) (disch := omega) only [DL.ob_some, DL.om_some, DL.dat_d, DL.lis_l, DL.dic_m, DL.gt_0, DL.gt_1, DL.gt_2, DL.gt_3, DL.gt_4, DL.gt_5, DL.gt_6, DL.gt_7, DL.gt_b, DL.st_0, DL.st_s, DL.plG_d, DL.plG_n, DL.plainAt_a, DL.varM_a, DL.ownM_a, DL.cM_a, DL.ofL_a, DL.opM_a, DL.unM_a, DL.truM_a, DL.tstM_a, DL.notM_a, DL.cnd_t, DL.cnd_f, DL.andM_a, DL.orM_a, DL.andVM_a, DL.notVM_a, DL.iteM_a, DL.chM_a, DL.nilM_a, DL.consM_a, DL.guard_tt, DL.tupM_a, DL.lstM_a, DL.noM_a, DL.intV_i, DL.someM_a, DL.slM_a, DL.rng1M_a, DL.rng2M_a, DL.zipV_t, DL.zipV_l, DL.zipM_a, DL.seqM_a, DL.callM_a, DL.hereM_a, DL.callRM_a, DL.appM_a, DL.lisV_l, DL.catOwnM_a, DL.newDM_a, DL.putM_a, DL.lenDM_a, DL.sortDM_a, DL.nameG_a, DL.nilG_a, DL.consG_a, DL.tupG_a, DL.seqS_a, DL.seqK_nx, DL.seqK_rt, DL.seqK_ct, DL.skipM_a, DL.asgM_a, DL.asgG_a, DL.newM_a, DL.asgLM_a, DL.retM_a, DL.exprM_a, DL.ifM_a, DL.forM_a, DL.runF_a, DL.finF_rt, DL.finF_nx, DL.runR_a, DL.finR_rt, DL.finR_nx, DL.sz_0, DL.sz_1, DL.sz_2, DL.sz_3, DL.sz_4, DL.sz_5, DL.sz_6, DL.sz_7, DL.sz_8, DL.sz_9, DL.sz_10, DL.sz_11, DL.sz_12, DL.sz_13, DL.sz_14, DL.sz_15, DL.sz_16, DL.sz_17, DL.sz_18, DL.sz_19, DL.sz_20, DL.sz_21, DL.sz_22, DL.sz_23, DL.sz_24, DL.sz_25, DL.sz_26, DL.sz_27, DL.sz_28, DL.sz_29, DL.sz_30, DL.nc_0, DL.nc_1, DL.nc_2, DL.nc_3, DL.nc_4, DL.nc_5, DL.nc_6, DL.nc_7, DL.nc_8, DL.nc_9, DL.nc_10, DL.nc_11, DL.nc_12, DL.nc_13, DL.nc_14, DL.nc_15, DL.nc_16, DL.nc_17, DL.nc_18, DL.nc_19, DL.nc_20, DL.nc_21, DL.nc_22, DL.nc_23, DL.nc_24, DL.nc_25, DL.nc_26, DL.nc_27, DL.nc_28, DL.nc_29, DL.nc_30, DL.addD_i, DL.addD_t, DL.addD_l, DL.subD_i, DL.modD_i, DL.fdivD_i, DL.mulD_i, DL.lenD_t, DL.lenD_l, DL.tupleD_t, DL.tupleD_l, DL.listD_t, DL.listD_l, DL.truD_i, DL.truD_b, DL.truD_n, DL.truD_l, DL.truD_t, DL.ixD_t, DL.ixD_l, DL.negD_i, DL.bD_a, DL.ltB_i, DL.leB_i, DL.eqB_i, DL.neB_i, DL.items_t, DL.items_l, DL.intD_b, DL.isNN, DL.slD_t, DL.slD_l, DL.p_ge0, DL.p_geS, DL.p_tk0, DL.p_tkS, DL.p_tkN, DL.p_dr0, DL.p_drS, DL.p_drN, DL.p_mpC, DL.p_mpN, DL.p_apC, DL.p_apN, DL.p_lnC, DL.p_lnN, DL.p_rpS, DL.p_rp0, DL.p_alC, DL.p_alN, DL.p_gdS, DL.p_gdN, DL.p_tlS, DL.p_tlN, DL.p_ieC, DL.p_ieN, DL.p_nt, DL.p_nf, DL.p_atb, DL.p_afb, DL.p_abt, DL.p_abf, DL.p_eqS, DL.p_dT, DL.p_dF, DL.p_TA, DL.p_AT, DL.p_TO, DL.p_OT, DL.p_startD, DL.p_startR, DL.forK_nx, DL.forK_ct, DL.forK_rt, DL.yesM_a, DL.it1_a, DL.compM_a, DL.wipeR_c, DL.wipeR_n, DL.restR_c, DL.restR_n, DL.gtD_i, DL.gtD_T, DL.ob_assoc, DL.om_bind, DL.ob_map, DL.om_map, DL.cnd_bind, DL.cnd_map, DL.guard_bind, DL.guard_map, DL.atI_c0, DL.atI_c1, DL.atI_c2, DL.atI_c3, DL.encN_0, DL.encN_1, DL.encN_2, DL.encN_u, DL.revD_t, DL.revD_l, DL.eq_TI, DL.ne_TI, DL.enumM_a, DL.exM_a, DL.seqK_ex, DL.finF_ex, DL.forK_ex, DL.tri_no, DL.trm_no, DL.atI_neg1, DL.wipO_nx, DL.wipO_ct, DL.wipO_bk, DL.wipO_rt, DL.wipO_ex, DL.wipM_a, DL.preM_a, DL.two_a, DL.finR_ex, DL.len_map, DL.len_app, DL.len_ir, DL.len_rev, DL.sz_c, DL.rng_c, DL.rngL_n, DL.forM_a', DL.rev_map, DL.seqK_bk, DL.forK_bk, DL.enum_m, DL.emp_map, PG.Sq_written_1_a, PG.Sq_tie_in_1_a, PG.Sq_read_1_a, PG.Sq_read_2_a, PG.Sq_read_3_a, PG.Sq_read_4_a, DL.eq_LI, DL.ne_LI, DL.eq_LI0, DL.ne_LI0, DL.eq_LT, DL.ne_LT, DL.eq_LR, DL.ne_LR, DL.eq_TR, DL.ne_TR, DL.eq_B, DL.ne_B, DL.wp_mapE, DL.sortDict_map, DL.map_id_int, DL.cut_f, DL.cut_t, DL.cut_f1, DL.map_drop', DL.map_take', DL.map_app', DL.len_zip, DL.dkOf_i, DL.keyOf_i, PG.allD_map', PG.enum_ir, PG.eq_BB, PG.ne_BB, DL.runX_a, DL.finX_rt, DL.finX_ex, DL.tryM_a, DL.tryK_ok, DL.tryK_er, DL.finX_nx, DL.isN_i, DL.rngL_g1, DL.eq_NN, DL.ne_NN, DL.eq_TT, DL.ne_TT, DL.eq_TT0, DL.ne_TI0, DL.eq_TI0, Nat.reduceAdd, Nat.reduceSub, Nat.reduceMul, Int.reduceLT, Int.reduceLE, Int.reducePow, Int.reduceNeg, Int.reduceAdd, Int.reduceSub, Int.reduceMul, Int.reduceBEq, Int.reduceBNe, Int.reduceToNat, $xs,*])
namespace DL
open PySem L2
/-! what is the same equals itself -/
/-- shaped, by depth -/
structure Shp (k : Nat) (d : D) : Prop where
  lay : d.canLay0 = true
  dep : d.depth ≤ k
theorem Shp.shaped {k : Nat} {d : D} (h : Shp k d) (hk : k ≤ 64 := by omega) : SeqAt.shaped d = true := sh_mk h.lay (Nat.le_trans h.dep hk)
theorem Shp.mono {j k : Nat} {d : D} (h : Shp j d) (hk : j ≤ k := by omega) : Shp k d := ⟨h.lay, Nat.le_trans h.dep hk⟩
theorem shpAll {k : Nat} : ∀ {ds : List D}, (∀ d ∈ ds, Shp k d) → PyData.canLayAll0 ds = true ∧ PyData.depthAll ds ≤ k
  | [], _ => by simp [PyData.canLayAll0, PyData.depthAll]
  | d :: ds, h => by
    obtain ⟨h1, h2⟩ := shpAll (ds := ds) fun x m => h x (List.mem_cons_of_mem _ m)
    have h3 := h d List.mem_cons_self
    simp only [PyData.canLayAll0, PyData.depthAll, h3.lay, h1, Bool.and_self, true_and]
    have := h3.dep
    omega
theorem Shp.tup {k : Nat} {ds : List D} (h : ∀ d ∈ ds, Shp k d) : Shp (k + 1) (.tuple ds) := by
  obtain ⟨h1, h2⟩ := shpAll h
  exact ⟨by simpa [PyData.canLay0] using h1, by simp only [PyData.depth]; omega⟩
theorem Shp.lst {k : Nat} {ds : List D} (h : ∀ d ∈ ds, Shp k d) : Shp (k + 1) (.list ds) := by
  obtain ⟨h1, h2⟩ := shpAll h
  exact ⟨by simpa [PyData.canLay0] using h1, by simp only [PyData.depth]; omega⟩
theorem Shp.int (i : Int) : Shp 1 (.int i) := ⟨by simp [PyData.canLay0], by simp [PyData.depth]⟩
theorem Shp.none : Shp 1 .none := ⟨by simp [PyData.canLay0], by simp [PyData.depth]⟩
theorem Shp.bool (b : Bool) : Shp 1 (.bool b) := ⟨by simp [PyData.canLay0], by simp [PyData.depth]⟩
/-! slices with a step -/
end DL
local macro_rules | `(tactic| simp_arith [$xs,*]) => `(tactic| simp (maxSteps := 2000000) (disch := omega) only [DL.ob_some, DL.om_some, DL.dat_d, DL.lis_l, DL.dic_m, DL.gt_0, DL.gt_1, DL.gt_2, DL.gt_3, DL.gt_4, DL.gt_5, DL.gt_6, DL.gt_7, DL.gt_b, DL.st_0, DL.st_s, DL.plG_d, DL.plG_n, DL.plainAt_a, DL.varM_a, DL.ownM_a, DL.cM_a, DL.ofL_a, DL.opM_a, DL.unM_a, DL.truM_a, DL.tstM_a, DL.notM_a, DL.cnd_t, DL.cnd_f, DL.andM_a, DL.orM_a, DL.andVM_a, DL.notVM_a, DL.iteM_a, DL.chM_a, DL.nilM_a, DL.consM_a, DL.guard_tt, DL.tupM_a, DL.lstM_a, DL.noM_a, DL.intV_i, DL.someM_a, DL.slM_a, DL.rng1M_a, DL.rng2M_a, DL.zipV_t, DL.zipV_l, DL.zipM_a, DL.seqM_a, DL.callM_a, DL.hereM_a, DL.callRM_a, DL.appM_a, DL.lisV_l, DL.catOwnM_a, DL.newDM_a, DL.putM_a, DL.lenDM_a, DL.sortDM_a, DL.nameG_a, DL.nilG_a, DL.consG_a, DL.tupG_a, DL.seqS_a, DL.seqK_nx, DL.seqK_rt, DL.seqK_ct, DL.skipM_a, DL.asgM_a, DL.asgG_a, DL.newM_a, DL.asgLM_a, DL.retM_a, DL.exprM_a, DL.ifM_a, DL.forM_a, DL.runF_a, DL.finF_rt, DL.finF_nx, DL.runR_a, DL.finR_rt, DL.finR_nx, DL.sz_0, DL.sz_1, DL.sz_2, DL.sz_3, DL.sz_4, DL.sz_5, DL.sz_6, DL.sz_7, DL.sz_8, DL.sz_9, DL.sz_10, DL.sz_11, DL.sz_12, DL.sz_13, DL.sz_14, DL.sz_15, DL.sz_16, DL.sz_17, DL.sz_18, DL.sz_19, DL.sz_20, DL.sz_21, DL.sz_22, DL.sz_23, DL.sz_24, DL.sz_25, DL.sz_26, DL.sz_27, DL.sz_28, DL.sz_29, DL.sz_30, DL.nc_0, DL.nc_1, DL.nc_2, DL.nc_3, DL.nc_4, DL.nc_5, DL.nc_6, DL.nc_7, DL.nc_8, DL.nc_9, DL.nc_10, DL.nc_11, DL.nc_12, DL.nc_13, DL.nc_14, DL.nc_15, DL.nc_16, DL.nc_17, DL.nc_18, DL.nc_19, DL.nc_20, DL.nc_21, DL.nc_22, DL.nc_23, DL.nc_24, DL.nc_25, DL.nc_26, DL.nc_27, DL.nc_28, DL.nc_29, DL.nc_30, DL.addD_i, DL.addD_t, DL.addD_l, DL.subD_i, DL.modD_i, DL.fdivD_i, DL.mulD_i, DL.lenD_t, DL.lenD_l, DL.tupleD_t, DL.tupleD_l, DL.listD_t, DL.listD_l, DL.truD_i, DL.truD_b, DL.truD_n, DL.truD_l, DL.truD_t, DL.ixD_t, DL.ixD_l, DL.negD_i, DL.bD_a, DL.ltB_i, DL.leB_i, DL.eqB_i, DL.neB_i, DL.items_t, DL.items_l, DL.intD_b, DL.isNN, DL.slD_t, DL.slD_l, DL.p_ge0, DL.p_geS, DL.p_tk0, DL.p_tkS, DL.p_tkN, DL.p_dr0, DL.p_drS, DL.p_drN, DL.p_mpC, DL.p_mpN, DL.p_apC, DL.p_apN, DL.p_lnC, DL.p_lnN, DL.p_rpS, DL.p_rp0, DL.p_alC, DL.p_alN, DL.p_gdS, DL.p_gdN, DL.p_tlS, DL.p_tlN, DL.p_ieC, DL.p_ieN, DL.p_nt, DL.p_nf, DL.p_atb, DL.p_afb, DL.p_abt, DL.p_abf, DL.p_eqS, DL.p_dT, DL.p_dF, DL.p_TA, DL.p_AT, DL.p_TO, DL.p_OT, DL.p_startD, DL.p_startR, DL.forK_nx, DL.forK_ct, DL.forK_rt, DL.yesM_a, DL.it1_a, DL.compM_a, DL.wipeR_c, DL.wipeR_n, DL.restR_c, DL.restR_n, DL.gtD_i, DL.gtD_T, DL.ob_assoc, DL.om_bind, DL.ob_map, DL.om_map, DL.cnd_bind, DL.cnd_map, DL.guard_bind, DL.guard_map, DL.atI_c0, DL.atI_c1, DL.atI_c2, DL.atI_c3, DL.encN_0, DL.encN_1, DL.encN_2, DL.encN_u, DL.revD_t, DL.revD_l, DL.eq_TI, DL.ne_TI, DL.enumM_a, DL.exM_a, DL.seqK_ex, DL.finF_ex, DL.forK_ex, DL.tri_no, DL.trm_no, DL.atI_neg1, DL.wipO_nx, DL.wipO_ct, DL.wipO_bk, DL.wipO_rt, DL.wipO_ex, DL.wipM_a, DL.preM_a, DL.two_a, DL.finR_ex, DL.len_map, DL.len_app, DL.len_ir, DL.len_rev, DL.sz_c, DL.rng_c, DL.rngL_n, DL.forM_a', DL.rev_map, DL.seqK_bk, DL.forK_bk, DL.enum_m, DL.emp_map, PG.Sq_written_1_a, PG.Sq_tie_in_1_a, PG.Sq_read_1_a, PG.Sq_read_2_a, PG.Sq_read_3_a, PG.Sq_read_4_a, DL.eq_LI, DL.ne_LI, DL.eq_LI0, DL.ne_LI0, DL.eq_LT, DL.ne_LT, DL.eq_LR, DL.ne_LR, DL.eq_TR, DL.ne_TR, DL.eq_B, DL.ne_B, DL.wp_mapE, DL.sortDict_map, DL.map_id_int, DL.cut_f, DL.cut_t, DL.cut_f1, DL.map_drop', DL.map_take', DL.map_app', DL.len_zip, DL.dkOf_i, DL.keyOf_i, PG.allD_map', PG.enum_ir, PG.eq_BB, PG.ne_BB, DL.runX_a, DL.finX_rt, DL.finX_ex, DL.tryM_a, DL.tryK_ok, DL.tryK_er, DL.finX_nx, DL.isN_i, DL.rngL_g1, DL.eq_NN, DL.ne_NN, DL.eq_TT, DL.ne_TT, DL.eq_TT0, DL.ne_TI0, DL.eq_TI0, Nat.reduceAdd, Nat.reduceSub, Nat.reduceMul, Int.reduceLT, Int.reduceLE, Int.reducePow, Int.reduceNeg, Int.reduceAdd, Int.reduceSub, Int.reduceMul, Int.reduceBEq, Int.reduceBNe, Int.reduceToNat, $xs,*])
namespace DL
open PySem L2
/-! statements that may raise; except .. as e -/
end DL
/-! texts as lists of signs -/
namespace DL
open PySem L2
abbrev mkS (l : List Nat) : Str := ⟨l.toArray⟩
abbrev tx (l : List Nat) : D := .str (mkS l)
theorem mkS_app (a b : List Nat) : mkS a ++ mkS b = mkS (a ++ b) := Str.mk.injEq .. ▸ (by show (a.toArray ++ b.toArray) = _; simp)
theorem mkS_len (l : List Nat) : (mkS l).length = l.length := by show l.toArray.size = _; simp
theorem mkS_list (l : List Nat) : (mkS l).cps.toList = l := by simp
theorem mkS_of (x : Str) : mkS x.cps.toList = x := by cases x; simp
theorem mkS_inj {a b : List Nat} (h : mkS a = mkS b) : a = b := by
  have := congrArg (fun x : Str => x.cps.toList) h
  simpa using this
/-- joined by signs -/
def joinN (s : List Nat) : List (List Nat) → List Nat
  | [] => []
  | [x] => x
  | x :: y :: r => x ++ s ++ joinN s (y :: r)
theorem join_mk (s : List Nat) : ∀ ls : List (List Nat), Txt.join (mkS s) (ls.map mkS) = mkS (joinN s ls) := by
  have key : ∀ ls : List (List Nat), Str.join (mkS s) (ls.map mkS) = mkS (joinN s ls) := fun ls => by
    induction ls with
    | nil => rfl
    | cons x r ih =>
      cases r with
      | nil => rfl
      | cons y r =>
        show mkS x ++ mkS s ++ Str.join (mkS s) ((y :: r).map mkS) = mkS (x ++ s ++ joinN s (y :: r))
        rw [ih, mkS_app, mkS_app]
  exact fun ls => (StrLaws.glued_eq_join (mkS s) _).trans (key ls)
/-- parted at a sign -/
def splitN (c : Nat) : List Nat → List (List Nat)
  | [] => [[]]
  | a :: l => if a = c then [] :: splitN c l else match splitN c l with
    | [] => [[a]]
    | p :: ps => (a :: p) :: ps
theorem splitN_cons (c a : Nat) (l : List Nat) : splitN c (a :: l) = if a = c then [] :: splitN c l else match splitN c l with
    | [] => [[a]]
    | p :: ps => (a :: p) :: ps := rfl
theorem splitN_ne (c : Nat) : ∀ l : List Nat, splitN c l ≠ []
  | [] => by simp [splitN]
  | a :: l => by
    unfold splitN
    split
    · simp
    · split <;> simp
theorem splitN_free {c : Nat} : ∀ {l : List Nat}, c ∉ l → splitN c l = [l]
  | [], _ => rfl
  | a :: l, h => by
    simp only [List.mem_cons, not_or] at h
    unfold splitN
    rw [if_neg (Ne.symm h.1), splitN_free h.2]
theorem splitN_app {c : Nat} : ∀ {p : List Nat} (l : List Nat), c ∉ p → splitN c (p ++ c :: l) = p :: splitN c l
  | [], l, _ => by simp [splitN]
  | a :: p, l, h => by
    simp only [List.mem_cons, not_or] at h
    rw [List.cons_append, splitN_cons, if_neg (Ne.symm h.1), splitN_app l h.2]
theorem splitN_join {c : Nat} : ∀ {ps : List (List Nat)}, ps ≠ [] → (∀ p ∈ ps, c ∉ p) → splitN c (joinN [c] ps) = ps
  | [], h, _ => absurd rfl h
  | [p], _, h => splitN_free (h p (by simp))
  | p :: q :: r, _, h => by
    show splitN c (p ++ [c] ++ joinN [c] (q :: r)) = _
    rw [List.append_assoc, List.singleton_append, splitN_app _ (h p (by simp)), splitN_join (by simp) fun x m => h x (List.mem_cons_of_mem _ m)]
theorem split_ne (x : Str) (c : Nat) : Txt.split x ⟨#[c]⟩ ≠ [] := by
  unfold Txt.split
  split
  · simp
  · split
    · simp
    · obtain ⟨p, r, e⟩ := StrLaws.partsFrom_ne x (⟨#[c]⟩ : Str).length 0 (Builtin.Str.occurrences x ⟨#[c]⟩ 0 x.length (x.length + 1))
      rw [StrLaws.partsBetween_eq, e]
      simp
theorem split_mk (c : Nat) (l : List Nat) : Txt.split (mkS l) ⟨#[c]⟩ = (splitN c l).map mkS := by
  have e1 := StrLaws.join_split (mkS l) ⟨#[c]⟩
  have e2 := StrLaws.split_free (mkS l) c
  have e3 := split_ne (mkS l) c
  revert e1 e2 e3
  generalize Txt.split (mkS l) ⟨#[c]⟩ = ps
  intro e1 e2 e3
  have em : ps = (ps.map fun p => p.cps.toList).map mkS := by
    rw [List.map_map]
    conv => lhs; rw [← List.map_id ps]
    exact List.map_congr_left fun p _ => (mkS_of p).symm
  have ej : joinN [c] (ps.map fun p => p.cps.toList) = l := by
    have := join_mk [c] (ps.map fun p => p.cps.toList)
    rw [← em] at this
    have t2 : Txt.join (mkS [c]) ps = mkS l := (StrLaws.glued_eq_join (mkS [c]) _).trans e1
    rw [t2] at this
    exact (mkS_inj this).symm
  have := splitN_join (c := c) (ps := ps.map fun p => p.cps.toList) (by simpa using e3) fun p m => by
    obtain ⟨q, mq, rfl⟩ := List.mem_map.mp m
    exact e2 q mq
  rw [ej] at this
  rw [this, ← em]
/-- a text may be compared -/
def okN (l : List Nat) : Bool := l.all (· < 0x110000)
theorem shp_tx {l : List Nat} (h : okN l = true) : Shp 1 (tx l) :=
  ⟨by
    show PyData.canLay0 (.str (mkS l)) = true
    simp only [PyData.canLay0, PyData.strOk]
    simpa [okN] using h, by simp [PyData.depth]⟩
theorem eqv_tx (a b : List Nat) : PyData.eqv (tx a) (tx b) = decide (a = b) := by
  simp only [PyData.eqv]
  rw [Bool.eq_iff_iff]
  simp only [beq_iff_eq, decide_eq_true_eq]
  exact ⟨mkS_inj, fun e => by rw [e]⟩
theorem ne_tx {a b : List Nat} (ha : okN a = true) (hb : okN b = true) : neB (tx a) (tx b) = some (!decide (a = b)) := by
  rw [PG.neB_sh (shp_tx ha).shaped (shp_tx hb).shaped, eqv_tx]
/-! evaluation -/
theorem fmtM_a (f : EM) (r : Rho) : fmtM f r = (f r).bind fun p => (fmtT p.1).map fun y => (.str y, p.2) := (rfl)
theorem jsM_a (fs : List EM) (r : Rho) : jsM fs r = (jsL fs Str.empty r).map fun p => (.str p.1, p.2) := (rfl)
theorem jsL_nil (acc : Str) (r : Rho) : jsL [] acc r = some (acc, r) := (rfl)
def strV : D → Option Str
  | .str y => some y
  | _ => none
theorem strV_s (y : Str) : strV (.str y) = some y := (rfl)
theorem jsL_cons (f : EM) (fs : List EM) (acc : Str) (r : Rho) : jsL (f :: fs) acc r = (f r).bind fun p => (strV p.1).bind fun y => guard' (szOk (acc ++ y).length) fun _ => jsL fs (acc ++ y) p.2 := by
  show (f r).bind _ = (f r).bind _
  congr 1; funext p
  obtain ⟨d, r1⟩ := p
  cases d with
  | str y =>
    cases h : szOk (acc ++ y).length <;> simp [strV, guard', h]
  | _ => rfl
theorem splitM_a (f g : EM) (r : Rho) : splitM f g r = (f r).bind fun p => (g p.2).bind fun q => (splitV p.1 q.1).map fun ds => (ds, q.2) := (rfl)
theorem splitV_tx (l : List Nat) (c : Nat) (h : l.length ≤ 1000000) : splitV (tx l) (tx [c]) = some ((splitN c l).map tx) := by
  have hz : szOk (mkS l).length = true := by rw [mkS_len]; exact szOk_of h
  show (if ((mkS [c]).length == 0) = false ∧ szOk (mkS l).length = true then _ else _) = _
  rw [if_pos ⟨rfl, hz⟩]
  congr 1
  rw [show (mkS [c]) = ⟨#[c]⟩ from rfl, split_mk, List.map_map]
  rfl
theorem strsOf_tx : ∀ ls : List (List Nat), strsOf (ls.map tx) = some (ls.map mkS)
  | [] => rfl
  | l :: ls => by
    show (strsOf (ls.map tx)).map _ = _
    rw [strsOf_tx ls]; rfl
theorem joinD_tx (s : List Nat) (ls : List (List Nat)) (h : (ls.map (·.length)).sum + ls.length * s.length ≤ 16777216) : joinD (tx s) (.list (ls.map tx)) = some (tx (joinN s ls)) := by
  show (strsOf (ls.map tx)).bind _ = _
  rw [strsOf_tx]
  have e : ((ls.map mkS).map (·.length)).sum + (ls.map mkS).length * (mkS s).length = (ls.map (·.length)).sum + ls.length * s.length := by
    rw [List.map_map, List.length_map, mkS_len]
    congr 2
  show (if ((ls.map mkS).map (·.length)).sum + (ls.map mkS).length * (mkS s).length ≤ 16777216 then _ else _) = _
  rw [e, if_pos h, join_mk]
theorem inSB_tx (c : Nat) (l : List Nat) : inSB (tx [c]) (tx l) = some (decide (c ∈ l)) := by
  show some (decide (c ∈ (mkS l).cps.toList)) = _
  rw [mkS_list]
theorem notInSB_tx (c : Nat) (l : List Nat) : notInSB (tx [c]) (tx l) = some (!decide (c ∈ l)) := by
  show (inSB (tx [c]) (tx l)).map _ = _
  rw [inSB_tx]; rfl
theorem seqSM_a (f : EM) (r : Rho) : seqSM f r = (f r).bind fun p => (signsOf p.1).map fun ds => (ds, p.2) := (rfl)
theorem signsOf_tx (l : List Nat) : signsOf (tx l) = some (l.map fun c => tx [c]) := by
  show some ((mkS l).cps.toList.map _) = _
  rw [mkS_list]
theorem lenD_tx (l : List Nat) : lenD (tx l) = guard' (szOk l.length) fun _ => some (.int (l.length : Nat)) := by
  show (if szOk (mkS l).length = true then _ else _) = _
  rw [mkS_len]
  cases szOk l.length <;> rfl
theorem ixD_tx (l : List Nat) (i : Int) : ixD (tx l) (.int i) = guard' (szOk l.length) fun _ => (atI l i).map fun c => tx [c] := by
  show (if szOk (mkS l).length = true then _ else _) = _
  rw [mkS_len, mkS_list]
  cases szOk l.length <;> rfl
theorem addD_tx (a b : List Nat) : addD (tx a) (tx b) = guard' (szOk (a.length + b.length)) fun _ => some (tx (a ++ b)) := by
  show (if szOk ((mkS a).length + (mkS b).length) = true then some (PyData.str (mkS a ++ mkS b)) else none) = _
  rw [mkS_len, mkS_len, mkS_app]
  cases szOk (a.length + b.length) <;> rfl
theorem mkS_app' (a b : List Nat) : mkS a ++ mkS b = mkS (a ++ b) := mkS_app a b
theorem empty_app (a : List Nat) : Str.empty ++ mkS a = mkS a := by
  rw [show Str.empty = mkS [] from rfl, mkS_app]; rfl
theorem mkS_length (l : List Nat) : (mkS l).length = l.length := mkS_len l
end DL
local macro_rules | `(tactic| simp_arith [$xs,*]) => `(tactic| simp (maxSteps := 2000000) (disch := omega) only [DL.ob_some, DL.om_some, DL.dat_d, DL.lis_l, DL.dic_m, DL.gt_0, DL.gt_1, DL.gt_2, DL.gt_3, DL.gt_4, DL.gt_5, DL.gt_6, DL.gt_7, DL.gt_b, DL.st_0, DL.st_s, DL.plG_d, DL.plG_n, DL.plainAt_a, DL.varM_a, DL.ownM_a, DL.cM_a, DL.ofL_a, DL.opM_a, DL.unM_a, DL.truM_a, DL.tstM_a, DL.notM_a, DL.cnd_t, DL.cnd_f, DL.andM_a, DL.orM_a, DL.andVM_a, DL.notVM_a, DL.iteM_a, DL.chM_a, DL.nilM_a, DL.consM_a, DL.guard_tt, DL.tupM_a, DL.lstM_a, DL.noM_a, DL.intV_i, DL.someM_a, DL.slM_a, DL.rng1M_a, DL.rng2M_a, DL.zipV_t, DL.zipV_l, DL.zipM_a, DL.seqM_a, DL.callM_a, DL.hereM_a, DL.callRM_a, DL.appM_a, DL.lisV_l, DL.catOwnM_a, DL.newDM_a, DL.putM_a, DL.lenDM_a, DL.sortDM_a, DL.nameG_a, DL.nilG_a, DL.consG_a, DL.tupG_a, DL.seqS_a, DL.seqK_nx, DL.seqK_rt, DL.seqK_ct, DL.skipM_a, DL.asgM_a, DL.asgG_a, DL.newM_a, DL.asgLM_a, DL.retM_a, DL.exprM_a, DL.ifM_a, DL.forM_a, DL.runF_a, DL.finF_rt, DL.finF_nx, DL.runR_a, DL.finR_rt, DL.finR_nx, DL.sz_0, DL.sz_1, DL.sz_2, DL.sz_3, DL.sz_4, DL.sz_5, DL.sz_6, DL.sz_7, DL.sz_8, DL.sz_9, DL.sz_10, DL.sz_11, DL.sz_12, DL.sz_13, DL.sz_14, DL.sz_15, DL.sz_16, DL.sz_17, DL.sz_18, DL.sz_19, DL.sz_20, DL.sz_21, DL.sz_22, DL.sz_23, DL.sz_24, DL.sz_25, DL.sz_26, DL.sz_27, DL.sz_28, DL.sz_29, DL.sz_30, DL.nc_0, DL.nc_1, DL.nc_2, DL.nc_3, DL.nc_4, DL.nc_5, DL.nc_6, DL.nc_7, DL.nc_8, DL.nc_9, DL.nc_10, DL.nc_11, DL.nc_12, DL.nc_13, DL.nc_14, DL.nc_15, DL.nc_16, DL.nc_17, DL.nc_18, DL.nc_19, DL.nc_20, DL.nc_21, DL.nc_22, DL.nc_23, DL.nc_24, DL.nc_25, DL.nc_26, DL.nc_27, DL.nc_28, DL.nc_29, DL.nc_30, DL.addD_i, DL.addD_t, DL.addD_l, DL.subD_i, DL.modD_i, DL.fdivD_i, DL.mulD_i, DL.lenD_t, DL.lenD_l, DL.tupleD_t, DL.tupleD_l, DL.listD_t, DL.listD_l, DL.truD_i, DL.truD_b, DL.truD_n, DL.truD_l, DL.truD_t, DL.ixD_t, DL.ixD_l, DL.negD_i, DL.bD_a, DL.ltB_i, DL.leB_i, DL.eqB_i, DL.neB_i, DL.items_t, DL.items_l, DL.intD_b, DL.isNN, DL.slD_t, DL.slD_l, DL.p_ge0, DL.p_geS, DL.p_tk0, DL.p_tkS, DL.p_tkN, DL.p_dr0, DL.p_drS, DL.p_drN, DL.p_mpC, DL.p_mpN, DL.p_apC, DL.p_apN, DL.p_lnC, DL.p_lnN, DL.p_rpS, DL.p_rp0, DL.p_alC, DL.p_alN, DL.p_gdS, DL.p_gdN, DL.p_tlS, DL.p_tlN, DL.p_ieC, DL.p_ieN, DL.p_nt, DL.p_nf, DL.p_atb, DL.p_afb, DL.p_abt, DL.p_abf, DL.p_eqS, DL.p_dT, DL.p_dF, DL.p_TA, DL.p_AT, DL.p_TO, DL.p_OT, DL.p_startD, DL.p_startR, DL.forK_nx, DL.forK_ct, DL.forK_rt, DL.yesM_a, DL.it1_a, DL.compM_a, DL.wipeR_c, DL.wipeR_n, DL.restR_c, DL.restR_n, DL.gtD_i, DL.gtD_T, DL.ob_assoc, DL.om_bind, DL.ob_map, DL.om_map, DL.cnd_bind, DL.cnd_map, DL.guard_bind, DL.guard_map, DL.atI_c0, DL.atI_c1, DL.atI_c2, DL.atI_c3, DL.encN_0, DL.encN_1, DL.encN_2, DL.encN_u, DL.revD_t, DL.revD_l, DL.eq_TI, DL.ne_TI, DL.enumM_a, DL.exM_a, DL.seqK_ex, DL.finF_ex, DL.forK_ex, DL.tri_no, DL.trm_no, DL.atI_neg1, DL.wipO_nx, DL.wipO_ct, DL.wipO_bk, DL.wipO_rt, DL.wipO_ex, DL.wipM_a, DL.preM_a, DL.two_a, DL.finR_ex, DL.len_map, DL.len_app, DL.len_ir, DL.len_rev, DL.sz_c, DL.rng_c, DL.rngL_n, DL.forM_a', DL.rev_map, DL.seqK_bk, DL.forK_bk, DL.enum_m, DL.emp_map, PG.Sq_written_1_a, PG.Sq_tie_in_1_a, PG.Sq_read_1_a, PG.Sq_read_2_a, PG.Sq_read_3_a, PG.Sq_read_4_a, DL.eq_LI, DL.ne_LI, DL.eq_LI0, DL.ne_LI0, DL.eq_LT, DL.ne_LT, DL.eq_LR, DL.ne_LR, DL.eq_TR, DL.ne_TR, DL.eq_B, DL.ne_B, DL.wp_mapE, DL.sortDict_map, DL.map_id_int, DL.cut_f, DL.cut_t, DL.cut_f1, DL.map_drop', DL.map_take', DL.map_app', DL.len_zip, DL.dkOf_i, DL.keyOf_i, PG.allD_map', PG.enum_ir, PG.eq_BB, PG.ne_BB, DL.runX_a, DL.finX_rt, DL.finX_ex, DL.tryM_a, DL.tryK_ok, DL.tryK_er, DL.finX_nx, DL.isN_i, DL.rngL_g1, DL.eq_NN, DL.ne_NN, DL.eq_TT, DL.ne_TT, DL.eq_TT0, DL.ne_TI0, DL.eq_TI0, DL.fmtM_a, DL.jsM_a, DL.jsL_nil, DL.strV_s, DL.jsL_cons, DL.splitM_a, DL.inSB_tx, DL.notInSB_tx, DL.seqSM_a, DL.signsOf_tx, DL.lenD_tx, DL.ixD_tx, DL.addD_tx, DL.mkS_app', DL.empty_app, DL.mkS_length, Nat.reduceAdd, Nat.reduceSub, Nat.reduceMul, Int.reduceLT, Int.reduceLE, Int.reducePow, Int.reduceNeg, Int.reduceAdd, Int.reduceSub, Int.reduceMul, Int.reduceBEq, Int.reduceBNe, Int.reduceToNat, $xs,*])
namespace PG
open PySem L2 DL GT RX
/-! nets as texts -/
def fig (i : Int) : List Nat := [48 + i.toNat]
def pieceT (t : Tie) : List Nat := fig t.1 ++ fig t.2
def writtenN (n : Int) (ties : List Tie) (rim : List Int) : List Nat := fig n ++ [59] ++ joinN [44] (ties.map pieceT) ++ [59] ++ joinN [] (rim.map fig)
theorem fig_str : ∀ {i : Int}, 0 ≤ i → i < 10 → Str.ofString (toString i) = mkS (fig i) := fun {i} h0 h1 => by
  have : i = 0 ∨ i = 1 ∨ i = 2 ∨ i = 3 ∨ i = 4 ∨ i = 5 ∨ i = 6 ∨ i = 7 ∨ i = 8 ∨ i = 9 := by omega
  rcases this with rfl | rfl | rfl | rfl | rfl | rfl | rfl | rfl | rfl | rfl <;> decide +kernel
theorem fig_log {i : Int} (h0 : 0 ≤ i) (h1 : i < 10) : i.natAbs.log2 < 1920 := by
  have : i.natAbs.log2 ≤ i.natAbs := Nat.log2_le_self _
  omega
theorem fig_strD {i : Int} (h0 : 0 ≤ i) (h1 : i < 10) : strD (.int i) = some (tx (fig i)) := by
  show (if i.natAbs.log2 < 1920 then _ else _) = _
  rw [if_pos (fig_log h0 h1), fig_str h0 h1]
theorem fig_fmt {i : Int} (h0 : 0 ≤ i) (h1 : i < 10) : fmtT (.int i) = some (mkS (fig i)) := by
  show (if i.natAbs.log2 < 1920 then _ else _) = _
  rw [if_pos (fig_log h0 h1), fig_str h0 h1]
theorem join_len (s : List Nat) : ∀ ls : List (List Nat), (joinN s ls).length ≤ (ls.map (·.length)).sum + ls.length * s.length
  | [] => by simp [joinN]
  | [x] => by simp [joinN]
  | x :: y :: r => by
    have := join_len s (y :: r)
    simp only [joinN, List.length_append, List.map_cons, List.sum_cons, List.length_cons] at this ⊢
    have e : (r.length + 1 + 1) * s.length = (r.length + 1) * s.length + s.length := by rw [Nat.add_mul (r.length + 1) 1, Nat.one_mul]
    omega
theorem sum_const {α : Type} (f : α → List Nat) (k : Nat) : ∀ xs : List α, (∀ x ∈ xs, (f x).length = k) → ((xs.map f).map (·.length)).sum = k * xs.length
  | [], _ => by simp
  | x :: xs, h => by
    have := sum_const f k xs fun y m => h y (List.mem_cons_of_mem _ m)
    have := h x (by simp)
    simp only [List.map_cons, List.sum_cons, List.length_cons, Nat.mul_add, Nat.mul_one]
    omega
theorem piece_len (t : Tie) : (pieceT t).length = 2 := rfl
theorem fig_len (i : Int) : (fig i).length = 1 := rfl
abbrev encW (n : Int) (ties : List Tie) (rim : List Int) : D := .tuple [.int n, .tuple (ties.map encT), TI rim]
theorem s_semi : PyData.str (Str.ofString ";") = tx [59] := congrArg PyData.str (by decide +kernel : Str.ofString ";" = mkS [59])
theorem s_comma : PyData.str (Str.ofString ",") = tx [44] := congrArg PyData.str (by decide +kernel : Str.ofString "," = mkS [44])
theorem s_empty : PyData.str (Str.ofString "") = tx [] := congrArg PyData.str (by decide +kernel : Str.ofString "" = mkS [])
theorem s_figures : PyData.str (Str.ofString "0123456789") = tx [48, 49, 50, 51, 52, 53, 54, 55, 56, 57] := congrArg PyData.str (by decide +kernel : Str.ofString "0123456789" = mkS [48, 49, 50, 51, 52, 53, 54, 55, 56, 57])
theorem written_len {n : Int} {ties : List Tie} {rim : List Int} : (writtenN n ties rim).length ≤ 3 + 3 * ties.length + rim.length := by
  unfold writtenN
  have h1 := join_len [44] (ties.map pieceT)
  have h2 := join_len [] (rim.map fig)
  rw [sum_const pieceT 2 ties fun t _ => piece_len t] at h1
  rw [sum_const fig 1 rim fun t _ => fig_len t] at h2
  simp only [List.length_append, List.length_map, List.length_singleton, List.length_nil, Nat.mul_one, Nat.mul_zero, fig_len] at h1 h2 ⊢
  omega
set_option maxHeartbeats 4000000 in
/-- written, of anything that has figures -/
theorem written_any {n : Int} {ties : List Tie} {rim : List Int} (hn : 0 ≤ n ∧ n < 10) (ht : ∀ t ∈ ties, (0 ≤ t.1 ∧ t.1 < 10) ∧ 0 ≤ t.2 ∧ t.2 < 10) (hr : ∀ k ∈ rim, 0 ≤ k ∧ k < 10) (lt : ties.length ≤ 1000) (lr : rim.length ≤ 1000) :
    g_written [encW n ties rim] = some (tx (writtenN n ties rim)) := by
  have fn := fig_fmt hn.1 hn.2
  have jt : joinD (tx [44]) (.list ((ties.map pieceT).map tx)) = some (tx (joinN [44] (ties.map pieceT))) := joinD_tx _ _ (by
    rw [sum_const pieceT 2 ties fun t _ => piece_len t]
    simp only [List.length_map, List.length_singleton]
    omega)
  have jr : joinD (tx []) (.list ((rim.map fig).map tx)) = some (tx (joinN [] (rim.map fig))) := joinD_tx _ _ (by
    rw [sum_const fig 1 rim fun t _ => fig_len t]
    simp only [List.length_map, List.length_nil]
    omega)
  have l1 : (joinN [44] (ties.map pieceT)).length ≤ 3 * ties.length := by
    have h1 := join_len [44] (ties.map pieceT)
    rw [sum_const pieceT 2 ties fun t _ => piece_len t] at h1
    simp only [List.length_map, List.length_singleton] at h1
    omega
  have l2 : (joinN [] (rim.map fig)).length ≤ rim.length := by
    have h2 := join_len [] (rim.map fig)
    rw [sum_const fig 1 rim fun t _ => fig_len t] at h2
    simpa using h2
  rw [List.map_map] at jt jr
  have jt : joinD (tx [44]) (.list (ties.map fun t => tx (pieceT t))) = some (tx (joinN [44] (ties.map pieceT))) := jt
  have jr : joinD (tx []) (.list (rim.map fun k => tx (fig k))) = some (tx (joinN [] (rim.map fig))) := jr
  have z1 : ∀ a b : List Nat, a.length ≤ 10000 → b.length ≤ 10000 → addD (tx a) (tx b) = some (tx (a ++ b)) := fun a b h1 h2 => by
    rw [addD_tx]
    show guard' (szOk (a.length + b.length)) _ = _
    rw [szOk_of (show a.length + b.length ≤ 1000000 by omega)]; rfl
  refine wp_val ?_
  unfold g_written b_written N_written
  have zf : szOk ((mkS (fig n)).length) = true := by rw [mkS_len]; exact szOk_of (by simp [fig])
  simp_arith [fn, s_semi, s_comma, fig_len]
  refine wp_cmap (fun t => tx (pieceT t)) (fun t mt => ?_) ?_
  · have h := ht t mt
    have f1 := fig_fmt h.1.1 h.1.2
    have f2 := fig_fmt h.2.1 h.2.2
    unfold Ce_written_1
    simp_arith [f1, f2, fig_len]
    exact wp_ok rfl
  simp_arith [jt, s_empty, fig_len]
  have a1 := z1 (fig n ++ [59]) (joinN [44] (ties.map pieceT)) (by simp [fig_len]) (by omega)
  have a2 := z1 (fig n ++ [59] ++ joinN [44] (ties.map pieceT)) [59] (by simp [fig_len]; omega) (by simp)
  refine wp_cmap (fun k => tx (fig k)) (fun k mk => ?_) ?_
  · have h := hr k mk
    have f1 := fig_strD h.1 h.2
    unfold Ce_written_2
    simp_arith [f1]
    exact wp_ok rfl
  have a3 := z1 (fig n ++ [59] ++ joinN [44] (ties.map pieceT) ++ [59]) (joinN [] (rim.map fig)) (by simp [fig_len]; omega) (by omega)
  simp_arith [s_empty, jr, fig_len]
  exact wp_ok rfl
theorem fig_int {i : Int} (h0 : 0 ≤ i) (h1 : i < 10) : intSD (tx (fig i)) = some (.int i) := by
  have : i = 0 ∨ i = 1 ∨ i = 2 ∨ i = 3 ∨ i = 4 ∨ i = 5 ∨ i = 6 ∨ i = 7 ∨ i = 8 ∨ i = 9 := by omega
  have key : PySem.intText? (mkS (fig i)) = some i := by
    rcases this with rfl | rfl | rfl | rfl | rfl | rfl | rfl | rfl | rfl | rfl <;> decide +kernel
  show (if (mkS (fig i)).length ≤ 640 then (PySem.intText? (mkS (fig i))).map PyData.int else none) = _
  rw [if_pos (by rw [mkS_len, fig_len]; omega), key]
  rfl
theorem mem_join {c : Nat} {s : List Nat} : ∀ {ls : List (List Nat)}, c ∈ joinN s ls → c ∈ s ∨ ∃ l ∈ ls, c ∈ l
  | [], h => by simp [joinN] at h
  | [x], h => .inr ⟨x, by simp, h⟩
  | x :: y :: r, h => by
    simp only [joinN, List.mem_append] at h
    rcases h with (h | h) | h
    · exact .inr ⟨x, by simp, h⟩
    · exact .inl h
    · rcases mem_join h with h | ⟨l, ml, hl⟩
      · exact .inl h
      · exact .inr ⟨l, List.mem_cons_of_mem _ ml, hl⟩
theorem fig_free {i : Int} (h1 : i < 10) {c : Nat} (hc : 57 < c) : c ∉ fig i := by
  unfold fig
  simp
  omega
theorem fig_free2 {i : Int} {c : Nat} (hc : c < 48) : c ∉ fig i := by
  unfold fig
  simp
  omega
/-- the parts of a text -/
theorem written_parts {n : Int} {ties : List Tie} {rim : List Int} (hn : n < 10) (ht : ∀ t ∈ ties, t.1 < 10 ∧ t.2 < 10) (hr : ∀ k ∈ rim, k < 10) : splitN 59 (writtenN n ties rim) = [fig n, joinN [44] (ties.map pieceT), joinN [] (rim.map fig)] := by
  have e : writtenN n ties rim = joinN [59] [fig n, joinN [44] (ties.map pieceT), joinN [] (rim.map fig)] := by
    unfold writtenN
    simp [joinN, List.append_assoc]
  rw [e]
  refine splitN_join (by simp) fun p m => ?_
  simp only [List.mem_cons, List.not_mem_nil, or_false] at m
  rcases m with rfl | rfl | rfl
  · exact fig_free hn (by omega)
  · intro c
    rcases mem_join c with q | ⟨l, ml, hl⟩
    · simp at q
    · obtain ⟨t, mt, rfl⟩ := List.mem_map.mp ml
      have := ht t mt
      rcases List.mem_append.mp hl with q | q
      · exact fig_free this.1 (by omega) q
      · exact fig_free this.2 (by omega) q
  · intro c
    rcases mem_join c with q | ⟨l, ml, hl⟩
    · simp at q
    · obtain ⟨k, mk, rfl⟩ := List.mem_map.mp ml
      exact fig_free (hr k mk) (by omega) hl
theorem joinN_nil : ∀ ls : List (List Nat), joinN [] ls = ls.flatten
  | [] => rfl
  | [x] => by simp [joinN]
  | x :: y :: r => by
    have := joinN_nil (y :: r)
    simp only [joinN, List.append_nil, this, List.flatten_cons]
theorem okN_of {l : List Nat} (h : ∀ c ∈ l, c < 128) : okN l = true := by
  unfold okN
  rw [List.all_eq_true]
  intro c m
  have := h c m
  exact decide_eq_true (by omega)
theorem fig_small {i : Int} (h1 : i < 10) : ∀ c ∈ fig i, c < 128 := fun c m => by
  unfold fig at m
  simp at m
  omega
theorem written_small {n : Int} {ties : List Tie} {rim : List Int} (hn : n < 10) (ht : ∀ t ∈ ties, t.1 < 10 ∧ t.2 < 10) (hr : ∀ k ∈ rim, k < 10) : ∀ c ∈ writtenN n ties rim, c < 128 := fun c m => by
  unfold writtenN at m
  simp only [List.mem_append, List.mem_singleton] at m
  rcases m with (((q | q) | q) | q) | q
  · exact fig_small hn c q
  · omega
  · rcases mem_join q with q | ⟨l, ml, hl⟩
    · simp at q; omega
    · obtain ⟨t, mt, rfl⟩ := List.mem_map.mp ml
      have := ht t mt
      rcases List.mem_append.mp hl with q | q
      · exact fig_small this.1 c q
      · exact fig_small this.2 c q
  · omega
  · rcases mem_join q with q | ⟨l, ml, hl⟩
    · simp at q
    · obtain ⟨k, mk, rfl⟩ := List.mem_map.mp ml
      exact fig_small (hr k mk) c hl
end PG
local macro_rules | `(tactic| simp_arith [$xs,*]) => `(tactic| simp (maxSteps := 2000000) (disch := omega) only [DL.ob_some, DL.om_some, DL.dat_d, DL.lis_l, DL.dic_m, DL.gt_0, DL.gt_1, DL.gt_2, DL.gt_3, DL.gt_4, DL.gt_5, DL.gt_6, DL.gt_7, DL.gt_b, DL.st_0, DL.st_s, DL.plG_d, DL.plG_n, DL.plainAt_a, DL.varM_a, DL.ownM_a, DL.cM_a, DL.ofL_a, DL.opM_a, DL.unM_a, DL.truM_a, DL.tstM_a, DL.notM_a, DL.cnd_t, DL.cnd_f, DL.andM_a, DL.orM_a, DL.andVM_a, DL.notVM_a, DL.iteM_a, DL.chM_a, DL.nilM_a, DL.consM_a, DL.guard_tt, DL.tupM_a, DL.lstM_a, DL.noM_a, DL.intV_i, DL.someM_a, DL.slM_a, DL.rng1M_a, DL.rng2M_a, DL.zipV_t, DL.zipV_l, DL.zipM_a, DL.seqM_a, DL.callM_a, DL.hereM_a, DL.callRM_a, DL.appM_a, DL.lisV_l, DL.catOwnM_a, DL.newDM_a, DL.putM_a, DL.lenDM_a, DL.sortDM_a, DL.nameG_a, DL.nilG_a, DL.consG_a, DL.tupG_a, DL.seqS_a, DL.seqK_nx, DL.seqK_rt, DL.seqK_ct, DL.skipM_a, DL.asgM_a, DL.asgG_a, DL.newM_a, DL.asgLM_a, DL.retM_a, DL.exprM_a, DL.ifM_a, DL.forM_a, DL.runF_a, DL.finF_rt, DL.finF_nx, DL.runR_a, DL.finR_rt, DL.finR_nx, DL.sz_0, DL.sz_1, DL.sz_2, DL.sz_3, DL.sz_4, DL.sz_5, DL.sz_6, DL.sz_7, DL.sz_8, DL.sz_9, DL.sz_10, DL.sz_11, DL.sz_12, DL.sz_13, DL.sz_14, DL.sz_15, DL.sz_16, DL.sz_17, DL.sz_18, DL.sz_19, DL.sz_20, DL.sz_21, DL.sz_22, DL.sz_23, DL.sz_24, DL.sz_25, DL.sz_26, DL.sz_27, DL.sz_28, DL.sz_29, DL.sz_30, DL.nc_0, DL.nc_1, DL.nc_2, DL.nc_3, DL.nc_4, DL.nc_5, DL.nc_6, DL.nc_7, DL.nc_8, DL.nc_9, DL.nc_10, DL.nc_11, DL.nc_12, DL.nc_13, DL.nc_14, DL.nc_15, DL.nc_16, DL.nc_17, DL.nc_18, DL.nc_19, DL.nc_20, DL.nc_21, DL.nc_22, DL.nc_23, DL.nc_24, DL.nc_25, DL.nc_26, DL.nc_27, DL.nc_28, DL.nc_29, DL.nc_30, DL.addD_i, DL.addD_t, DL.addD_l, DL.subD_i, DL.modD_i, DL.fdivD_i, DL.mulD_i, DL.lenD_t, DL.lenD_l, DL.tupleD_t, DL.tupleD_l, DL.listD_t, DL.listD_l, DL.truD_i, DL.truD_b, DL.truD_n, DL.truD_l, DL.truD_t, DL.ixD_t, DL.ixD_l, DL.negD_i, DL.bD_a, DL.ltB_i, DL.leB_i, DL.eqB_i, DL.neB_i, DL.items_t, DL.items_l, DL.intD_b, DL.isNN, DL.slD_t, DL.slD_l, DL.p_ge0, DL.p_geS, DL.p_tk0, DL.p_tkS, DL.p_tkN, DL.p_dr0, DL.p_drS, DL.p_drN, DL.p_mpC, DL.p_mpN, DL.p_apC, DL.p_apN, DL.p_lnC, DL.p_lnN, DL.p_rpS, DL.p_rp0, DL.p_alC, DL.p_alN, DL.p_gdS, DL.p_gdN, DL.p_tlS, DL.p_tlN, DL.p_ieC, DL.p_ieN, DL.p_nt, DL.p_nf, DL.p_atb, DL.p_afb, DL.p_abt, DL.p_abf, DL.p_eqS, DL.p_dT, DL.p_dF, DL.p_TA, DL.p_AT, DL.p_TO, DL.p_OT, DL.p_startD, DL.p_startR, DL.forK_nx, DL.forK_ct, DL.forK_rt, DL.yesM_a, DL.it1_a, DL.compM_a, DL.wipeR_c, DL.wipeR_n, DL.restR_c, DL.restR_n, DL.gtD_i, DL.gtD_T, DL.ob_assoc, DL.om_bind, DL.ob_map, DL.om_map, DL.cnd_bind, DL.cnd_map, DL.guard_bind, DL.guard_map, DL.atI_c0, DL.atI_c1, DL.atI_c2, DL.atI_c3, DL.encN_0, DL.encN_1, DL.encN_2, DL.encN_u, DL.revD_t, DL.revD_l, DL.eq_TI, DL.ne_TI, DL.enumM_a, DL.exM_a, DL.seqK_ex, DL.finF_ex, DL.forK_ex, DL.tri_no, DL.trm_no, DL.atI_neg1, DL.wipO_nx, DL.wipO_ct, DL.wipO_bk, DL.wipO_rt, DL.wipO_ex, DL.wipM_a, DL.preM_a, DL.two_a, DL.finR_ex, DL.len_map, DL.len_app, DL.len_ir, DL.len_rev, DL.sz_c, DL.rng_c, DL.rngL_n, DL.forM_a', DL.rev_map, DL.seqK_bk, DL.forK_bk, DL.enum_m, DL.emp_map, PG.Sq_written_1_a, PG.Sq_tie_in_1_a, PG.Sq_read_1_a, PG.Sq_read_2_a, PG.Sq_read_3_a, PG.Sq_read_4_a, DL.eq_LI, DL.ne_LI, DL.eq_LI0, DL.ne_LI0, DL.eq_LT, DL.ne_LT, DL.eq_LR, DL.ne_LR, DL.eq_TR, DL.ne_TR, DL.eq_B, DL.ne_B, DL.wp_mapE, DL.sortDict_map, DL.map_id_int, DL.cut_f, DL.cut_t, DL.cut_f1, DL.map_drop', DL.map_take', DL.map_app', DL.len_zip, DL.dkOf_i, DL.keyOf_i, PG.allD_map', PG.enum_ir, PG.eq_BB, PG.ne_BB, DL.runX_a, DL.finX_rt, DL.finX_ex, DL.tryM_a, DL.tryK_ok, DL.tryK_er, DL.finX_nx, DL.isN_i, DL.rngL_g1, DL.eq_NN, DL.ne_NN, DL.eq_TT, DL.ne_TT, DL.eq_TT0, DL.ne_TI0, DL.eq_TI0, PG.Sqx_tie_in_1_a, PG.Sqx_read_1_a, PG.Sqx_read_2_a, PG.Sqx_read_3_a, PG.Sqx_read_4_a, DL.fmtM_a, DL.jsM_a, DL.jsL_nil, DL.strV_s, DL.jsL_cons, DL.splitM_a, DL.inSB_tx, DL.notInSB_tx, DL.seqSM_a, DL.signsOf_tx, DL.lenD_tx, DL.ixD_tx, DL.addD_tx, DL.mkS_app', DL.empty_app, DL.mkS_length, Nat.reduceAdd, Nat.reduceSub, Nat.reduceMul, Int.reduceLT, Int.reduceLE, Int.reducePow, Int.reduceNeg, Int.reduceAdd, Int.reduceSub, Int.reduceMul, Int.reduceBEq, Int.reduceBNe, Int.reduceToNat, $xs,*])
namespace DL
open PySem L2
/-! expressions that may raise -/
def okK (p : D × Rho) : Option (Except String D × Rho) := some (.ok p.1, p.2)
theorem okx_a (f : EM) (r : Rho) : okx f r = (f r).bind okK := by unfold okx; cases f r <;> rfl
theorem okK_a (p : D × Rho) : okK p = some (.ok p.1, p.2) := (rfl)
theorem nilx_a (r : Rho) : nilx r = some (.ok [], r) := (rfl)
/-- goes on behind what was no exception -/
def thenX {α β : Type} (k : α → Rho → Option (Except String β × Rho)) : Except String α × Rho → Option (Except String β × Rho)
  | (.error c, r) => some (.error c, r)
  | (.ok a, r) => k a r
theorem thenX_err {α β : Type} (k : α → Rho → Option (Except String β × Rho)) (c : String) (r : Rho) : thenX k (.error c, r) = some (.error c, r) := (rfl)
theorem thenX_ok {α β : Type} (k : α → Rho → Option (Except String β × Rho)) (a : α) (r : Rho) : thenX k (.ok a, r) = k a r := (rfl)
theorem consx_a (f : EXM) (g : EXA) (r : Rho) : consx f g r = (f r).bind (thenX fun d r1 => (g r1).bind (thenX fun ds r2 => some (.ok (d :: ds), r2))) := by
  unfold consx
  congr 1; funext p
  obtain ⟨o, r1⟩ := p
  cases o with
  | error c => rfl
  | ok d =>
    show (g r1).map _ = (g r1).bind _
    cases g r1 with
    | none => rfl
    | some q => obtain ⟨o2, r2⟩ := q; cases o2 <;> rfl
theorem callx_a (g : List D → Option (Except String D)) (f : AM) (r : Rho) : callx g f r = (f r).bind fun p => (g p.1).map fun o => (o, p.2) := (rfl)
theorem tupx_a (f : EXA) (r : Rho) : tupx f r = (f r).bind (thenX fun ds r1 => guard' (szOk ds.length) fun _ => some (.ok (.tuple ds), r1)) := by
  unfold tupx
  congr 1; funext p
  obtain ⟨o, r1⟩ := p
  cases o with
  | error c => rfl
  | ok ds =>
    show (if szOk ds.length = true then some (Except.ok (PyData.tuple ds), r1) else none) = guard' (szOk ds.length) fun _ => some (Except.ok (PyData.tuple ds), r1)
    cases szOk ds.length <;> rfl
theorem ofx_a (f : EXA) (r : Rho) : ofx f r = (f r).bind (thenX fun ds r1 => some (.ok (.list ds), r1)) := by
  unfold ofx
  cases f r with
  | none => rfl
  | some p => obtain ⟨o, r1⟩ := p; cases o <;> rfl
theorem unx_a (h : D → Option D) (f : EXM) (r : Rho) : unx h f r = (f r).bind (thenX fun d r1 => (h d).map fun o => (.ok o, r1)) := by
  unfold unx
  congr 1; funext p
  obtain ⟨o, r1⟩ := p
  cases o <;> rfl
def putK (i : Nat) : Except String D × Rho → Option Out
  | (.error c, r) => some (.ex c r)
  | (.ok d, r) => some (.nx (r.set i (some (.d d))))
def retK : Except String D × Rho → Option Out
  | (.error c, r) => some (.ex c r)
  | (.ok d, r) => some (.rt d r)
theorem putK_err (i : Nat) (c : String) (r : Rho) : putK i (.error c, r) = some (.ex c r) := (rfl)
theorem putK_ok (i : Nat) (d : D) (r : Rho) : putK i (.ok d, r) = some (.nx (r.set i (some (.d d)))) := (rfl)
theorem retK_err (c : String) (r : Rho) : retK (.error c, r) = some (.ex c r) := (rfl)
theorem retK_ok (d : D) (r : Rho) : retK (.ok d, r) = some (.rt d r) := (rfl)
theorem asgx_a (i : Nat) (f : EXM) (r : Rho) : asgx i f r = (f r).bind (putK i) := by
  unfold asgx
  cases f r with
  | none => rfl
  | some p => obtain ⟨o, r1⟩ := p; cases o <;> rfl
theorem retx_a (f : EXM) (r : Rho) : retx f r = (f r).bind retK := by
  unfold retx
  cases f r with
  | none => rfl
  | some p => obtain ⟨o, r1⟩ := p; cases o <;> rfl
/-- each in turn, up to the first that raises -/
def mapX {α β : Type} (F : α → Except String β) : List α → Except String (List β)
  | [] => .ok []
  | x :: xs => match F x with
    | .error c => .error c
    | .ok y => match mapX F xs with
      | .error c => .error c
      | .ok ys => .ok (y :: ys)
theorem set_same {r : Rho} {i : Nat} (h : r[i]? = some none) : r.set i none = r := by
  apply List.ext_getElem?
  intro j
  by_cases e : i = j
  · subst e
    have := (List.getElem?_eq_some_iff.mp h).1
    rw [List.getElem?_set_self this, h]
  · rw [List.getElem?_set_ne e]
theorem compLx_eval {α : Type} {i : Nat} {el : EXM} {r : Rho} (enc : α → D) (F : α → Except String D) (pl : r[i]? = some none) : ∀ (xs : List α), (∀ x ∈ xs, el (r.set i (some (.d (enc x)))) = some (F x, r.set i (some (.d (enc x))))) →
    ∃ r2, compLx (nameG i) el [i] (xs.map enc) r = some (mapX F xs, r2) ∧ ∀ ys, mapX F xs = .ok ys → r2 = r
  | [], _ => ⟨r, rfl, fun _ _ => rfl⟩
  | x :: xs, h => by
    obtain ⟨r2, e1, e2⟩ := compLx_eval enc F pl xs fun y m => h y (List.mem_cons_of_mem _ m)
    have hx := h x (by simp)
    have wp : wipeR (r.set i (some (.d (enc x)))) [i] = r := by
      show (r.set i (some (.d (enc x)))).set i none = r
      rw [List.set_set, set_same pl]
    have step : compLx (nameG i) el [i] ((x :: xs).map enc) r = (match F x with
        | .error c => some (.error c, r.set i (some (.d (enc x))))
        | .ok y => (compLx (nameG i) el [i] (xs.map enc) r).map fun w => match w.1 with
          | .error c => (.error c, w.2)
          | .ok ys => (.ok (y :: ys), w.2)) := by
      show (nameG i r (enc x)).bind _ = _
      rw [show nameG i r (enc x) = some (r.set i (some (.d (enc x)))) from rfl, Option.bind_some, hx, Option.bind_some]
      cases F x with
      | error c => rfl
      | ok y =>
        show (compLx (nameG i) el [i] (xs.map enc) (wipeR (r.set i (some (.d (enc x)))) [i])).map _ = _
        rw [wp]
        first | done | rfl
    rw [step]
    unfold mapX
    cases F x with
    | error c => exact ⟨_, rfl, fun ys e => by cases e⟩
    | ok y =>
      simp only [e1, Option.map_some]
      cases q : mapX F xs with
      | error c => exact ⟨r2, rfl, fun ys e => by cases e⟩
      | ok ys => exact ⟨r2, rfl, fun _ _ => e2 ys q⟩
theorem compx_eval {α : Type} {i : Nat} {it : AM} {el : EXM} {r r1 : Rho} (enc : α → D) (F : α → Except String D) (xs : List α) (hit : it r = some (xs.map enc, r1)) (hl : xs.length ≤ 1000000) (pl : r1[i]? = some none)
    (he : ∀ x ∈ xs, el (r1.set i (some (.d (enc x)))) = some (F x, r1.set i (some (.d (enc x))))) : ∃ r2, compx [i] it (nameG i) el r = some (mapX F xs, r2) ∧ ∀ ys, mapX F xs = .ok ys → r2 = r1 := by
  have w0 : wipeR r1 [i] = r1 := set_same pl
  obtain ⟨r2, e1, e2⟩ := compLx_eval enc F pl xs he
  have pa : plainAt r1 [i] = true := by simp [plainAt, pl]
  have sz : szOk (xs.map enc).length = true := szOk_of (by simpa using hl)
  have step : compx [i] it (nameG i) el r = (compLx (nameG i) el [i] (xs.map enc) r1).map fun w => match w.1 with
      | .error c => (.error c, w.2)
      | .ok ys => (.ok ys, restR w.2 r1 [i]) := by
    unfold compx
    rw [hit, Option.bind_some]
    simp only [pa, sz, Bool.and_self, if_true, w0]
    first | done | rfl
  rw [step, e1, Option.map_some]
  cases q : mapX F xs with
  | error c => exact ⟨r2, rfl, fun ys e => by cases e⟩
  | ok ys =>
    refine ⟨r1, ?_, fun _ _ => rfl⟩
    have e3 := e2 ys q
    subst e3
    show some (Except.ok ys, r2.set i (r2[i]?.getD none)) = _
    rw [pl, Option.getD_some, set_same pl]
theorem mapX_err {α β : Type} {F : α → Except String β} {c0 : String} (only : ∀ x c, F x = .error c → c = c0) : ∀ {xs : List α} {c : String}, mapX F xs = .error c → c = c0
  | [], c, h => by cases h
  | x :: xs, c, h => by
    unfold mapX at h
    split at h
    · rename_i c' e
      cases h
      exact only x c e
    · split at h
      · rename_i c' e2
        cases h
        exact mapX_err only e2
      · cases h
end DL
local macro_rules | `(tactic| simp_arith [$xs,*]) => `(tactic| simp (maxSteps := 2000000) (disch := omega) only [DL.ob_some, DL.om_some, DL.dat_d, DL.lis_l, DL.dic_m, DL.gt_0, DL.gt_1, DL.gt_2, DL.gt_3, DL.gt_4, DL.gt_5, DL.gt_6, DL.gt_7, DL.gt_b, DL.st_0, DL.st_s, DL.plG_d, DL.plG_n, DL.plainAt_a, DL.varM_a, DL.ownM_a, DL.cM_a, DL.ofL_a, DL.opM_a, DL.unM_a, DL.truM_a, DL.tstM_a, DL.notM_a, DL.cnd_t, DL.cnd_f, DL.andM_a, DL.orM_a, DL.andVM_a, DL.notVM_a, DL.iteM_a, DL.chM_a, DL.nilM_a, DL.consM_a, DL.guard_tt, DL.tupM_a, DL.lstM_a, DL.noM_a, DL.intV_i, DL.someM_a, DL.slM_a, DL.rng1M_a, DL.rng2M_a, DL.zipV_t, DL.zipV_l, DL.zipM_a, DL.seqM_a, DL.callM_a, DL.hereM_a, DL.callRM_a, DL.appM_a, DL.lisV_l, DL.catOwnM_a, DL.newDM_a, DL.putM_a, DL.lenDM_a, DL.sortDM_a, DL.nameG_a, DL.nilG_a, DL.consG_a, DL.tupG_a, DL.seqS_a, DL.seqK_nx, DL.seqK_rt, DL.seqK_ct, DL.skipM_a, DL.asgM_a, DL.asgG_a, DL.newM_a, DL.asgLM_a, DL.retM_a, DL.exprM_a, DL.ifM_a, DL.forM_a, DL.runF_a, DL.finF_rt, DL.finF_nx, DL.runR_a, DL.finR_rt, DL.finR_nx, DL.sz_0, DL.sz_1, DL.sz_2, DL.sz_3, DL.sz_4, DL.sz_5, DL.sz_6, DL.sz_7, DL.sz_8, DL.sz_9, DL.sz_10, DL.sz_11, DL.sz_12, DL.sz_13, DL.sz_14, DL.sz_15, DL.sz_16, DL.sz_17, DL.sz_18, DL.sz_19, DL.sz_20, DL.sz_21, DL.sz_22, DL.sz_23, DL.sz_24, DL.sz_25, DL.sz_26, DL.sz_27, DL.sz_28, DL.sz_29, DL.sz_30, DL.nc_0, DL.nc_1, DL.nc_2, DL.nc_3, DL.nc_4, DL.nc_5, DL.nc_6, DL.nc_7, DL.nc_8, DL.nc_9, DL.nc_10, DL.nc_11, DL.nc_12, DL.nc_13, DL.nc_14, DL.nc_15, DL.nc_16, DL.nc_17, DL.nc_18, DL.nc_19, DL.nc_20, DL.nc_21, DL.nc_22, DL.nc_23, DL.nc_24, DL.nc_25, DL.nc_26, DL.nc_27, DL.nc_28, DL.nc_29, DL.nc_30, DL.addD_i, DL.addD_t, DL.addD_l, DL.subD_i, DL.modD_i, DL.fdivD_i, DL.mulD_i, DL.lenD_t, DL.lenD_l, DL.tupleD_t, DL.tupleD_l, DL.listD_t, DL.listD_l, DL.truD_i, DL.truD_b, DL.truD_n, DL.truD_l, DL.truD_t, DL.ixD_t, DL.ixD_l, DL.negD_i, DL.bD_a, DL.ltB_i, DL.leB_i, DL.eqB_i, DL.neB_i, DL.items_t, DL.items_l, DL.intD_b, DL.isNN, DL.slD_t, DL.slD_l, DL.p_ge0, DL.p_geS, DL.p_tk0, DL.p_tkS, DL.p_tkN, DL.p_dr0, DL.p_drS, DL.p_drN, DL.p_mpC, DL.p_mpN, DL.p_apC, DL.p_apN, DL.p_lnC, DL.p_lnN, DL.p_rpS, DL.p_rp0, DL.p_alC, DL.p_alN, DL.p_gdS, DL.p_gdN, DL.p_tlS, DL.p_tlN, DL.p_ieC, DL.p_ieN, DL.p_nt, DL.p_nf, DL.p_atb, DL.p_afb, DL.p_abt, DL.p_abf, DL.p_eqS, DL.p_dT, DL.p_dF, DL.p_TA, DL.p_AT, DL.p_TO, DL.p_OT, DL.p_startD, DL.p_startR, DL.forK_nx, DL.forK_ct, DL.forK_rt, DL.yesM_a, DL.it1_a, DL.compM_a, DL.wipeR_c, DL.wipeR_n, DL.restR_c, DL.restR_n, DL.gtD_i, DL.gtD_T, DL.ob_assoc, DL.om_bind, DL.ob_map, DL.om_map, DL.cnd_bind, DL.cnd_map, DL.guard_bind, DL.guard_map, DL.atI_c0, DL.atI_c1, DL.atI_c2, DL.atI_c3, DL.encN_0, DL.encN_1, DL.encN_2, DL.encN_u, DL.revD_t, DL.revD_l, DL.eq_TI, DL.ne_TI, DL.enumM_a, DL.exM_a, DL.seqK_ex, DL.finF_ex, DL.forK_ex, DL.tri_no, DL.trm_no, DL.atI_neg1, DL.wipO_nx, DL.wipO_ct, DL.wipO_bk, DL.wipO_rt, DL.wipO_ex, DL.wipM_a, DL.preM_a, DL.two_a, DL.finR_ex, DL.len_map, DL.len_app, DL.len_ir, DL.len_rev, DL.sz_c, DL.rng_c, DL.rngL_n, DL.forM_a', DL.rev_map, DL.seqK_bk, DL.forK_bk, DL.enum_m, DL.emp_map, PG.Sq_written_1_a, PG.Sq_tie_in_1_a, PG.Sq_read_1_a, PG.Sq_read_2_a, PG.Sq_read_3_a, PG.Sq_read_4_a, DL.eq_LI, DL.ne_LI, DL.eq_LI0, DL.ne_LI0, DL.eq_LT, DL.ne_LT, DL.eq_LR, DL.ne_LR, DL.eq_TR, DL.ne_TR, DL.eq_B, DL.ne_B, DL.wp_mapE, DL.sortDict_map, DL.map_id_int, DL.cut_f, DL.cut_t, DL.cut_f1, DL.map_drop', DL.map_take', DL.map_app', DL.len_zip, DL.dkOf_i, DL.keyOf_i, PG.allD_map', PG.enum_ir, PG.eq_BB, PG.ne_BB, DL.runX_a, DL.finX_rt, DL.finX_ex, DL.tryM_a, DL.tryK_ok, DL.tryK_er, DL.finX_nx, DL.isN_i, DL.rngL_g1, DL.eq_NN, DL.ne_NN, DL.eq_TT, DL.ne_TT, DL.eq_TT0, DL.ne_TI0, DL.eq_TI0, PG.Sqx_tie_in_1_a, PG.Sqx_read_1_a, PG.Sqx_read_2_a, PG.Sqx_read_3_a, PG.Sqx_read_4_a, DL.fmtM_a, DL.jsM_a, DL.jsL_nil, DL.strV_s, DL.jsL_cons, DL.splitM_a, DL.inSB_tx, DL.notInSB_tx, DL.seqSM_a, DL.signsOf_tx, DL.lenD_tx, DL.ixD_tx, DL.addD_tx, DL.mkS_app', DL.empty_app, DL.mkS_length, DL.okx_a, DL.okK_a, DL.nilx_a, DL.thenX_err, DL.thenX_ok, DL.consx_a, DL.callx_a, DL.tupx_a, DL.ofx_a, DL.unx_a, DL.putK_err, DL.putK_ok, DL.retK_err, DL.retK_ok, DL.asgx_a, DL.retx_a, Nat.reduceAdd, Nat.reduceSub, Nat.reduceMul, Int.reduceLT, Int.reduceLE, Int.reducePow, Int.reduceNeg, Int.reduceAdd, Int.reduceSub, Int.reduceMul, Int.reduceBEq, Int.reduceBNe, Int.reduceToNat, $xs,*])
namespace PG
open PySem L2 DL GT RX
/-! read, of any text -/
def figX : List Nat → Except String D
  | [c] => if 48 ≤ c ∧ c ≤ 57 then .ok (.int ((c - 48 : Nat) : Int)) else .error "NoText"
  | _ => .error "NoText"
theorem figX_err {l : List Nat} {c : String} (h : figX l = .error c) : c = "NoText" := by
  unfold figX at h
  split at h
  · split at h
    · cases h
    · cases h; rfl
  · cases h; rfl
theorem figX_ok {l : List Nat} {d : D} (h : figX l = .ok d) : ∃ i : Int, 0 ≤ i ∧ i < 10 ∧ l = fig i ∧ d = .int i := by
  unfold figX at h
  split at h
  · rename_i c
    split at h
    · rename_i b
      cases h
      refine ⟨((c - 48 : Nat) : Int), by omega, by omega, ?_, rfl⟩
      unfold fig
      congr 1
      omega
    · cases h
  · cases h
theorem figX_fig {i : Int} (h0 : 0 ≤ i) (h1 : i < 10) : figX (fig i) = .ok (.int i) := by
  unfold figX fig
  show (if 48 ≤ 48 + i.toNat ∧ 48 + i.toNat ≤ 57 then _ else _) = _
  rw [if_pos (by omega)]
  congr 2
  omega
theorem figure_in_X (l : List Nat) (hl : l.length ≤ 1000) : gX_figure_in [tx l] = some (figX l) := by
  unfold gX_figure_in b_figure_in N_figure_in
  match l with
  | [] => simp_arith [s_figures]; rfl
  | [c] =>
    by_cases h : 48 ≤ c ∧ c ≤ 57
    · have m : c ∈ [48, 49, 50, 51, 52, 53, 54, 55, 56, 57] := by simp; omega
      have e : figX [c] = .ok (.int ((c - 48 : Nat) : Int)) := if_pos h
      obtain ⟨i, h0, h1, e1, e2⟩ := figX_ok e
      have fi := fig_int h0 h1
      rw [← e1] at fi
      rw [e, e2]
      simp_arith [s_figures, decide_eq_true m, fi]
    · have m : c ∉ [48, 49, 50, 51, 52, 53, 54, 55, 56, 57] := by simp; omega
      have e : figX [c] = .error "NoText" := if_neg h
      rw [e]
      simp_arith [s_figures, decide_eq_false m]
  | a :: b :: r =>
    have c : (((r.length + 1 + 1 : Nat) : Int) == 1) = false := by rw [beq_eq_false_iff_ne]; omega
    have e : figX (a :: b :: r) = .error "NoText" := rfl
    simp only [List.length_cons] at hl
    rw [e]
    simp_arith [s_figures, c]
def tieX : List Nat → Except String D
  | [a, b] => match figX [a] with
    | .error c => .error c
    | .ok x => match figX [b] with
      | .error c => .error c
      | .ok y => .ok (.tuple [x, y])
  | _ => .error "NoText"
theorem tieX_err {l : List Nat} {c : String} (h : tieX l = .error c) : c = "NoText" := by
  unfold tieX at h
  split at h
  · split at h
    · rename_i e; cases h; exact figX_err e
    · split at h
      · rename_i e; cases h; exact figX_err e
      · cases h
  · cases h; rfl
theorem tieX_ok {l : List Nat} {d : D} (h : tieX l = .ok d) : ∃ t : Tie, ((0 ≤ t.1 ∧ t.1 < 10) ∧ 0 ≤ t.2 ∧ t.2 < 10) ∧ l = pieceT t ∧ d = encT t := by
  unfold tieX at h
  split at h
  · split at h
    · cases h
    · rename_i x e1
      split at h
      · cases h
      · rename_i y e2
        cases h
        obtain ⟨i, i0, i1, i2, rfl⟩ := figX_ok e1
        obtain ⟨j, j0, j1, j2, rfl⟩ := figX_ok e2
        refine ⟨(i, j), ⟨⟨i0, i1⟩, j0, j1⟩, ?_, rfl⟩
        unfold pieceT
        rw [← i2, ← j2]; rfl
  · cases h
theorem tieX_piece {t : Tie} (h : (0 ≤ t.1 ∧ t.1 < 10) ∧ 0 ≤ t.2 ∧ t.2 < 10) : tieX (pieceT t) = .ok (encT t) := by
  have e1 := figX_fig h.1.1 h.1.2
  have e2 := figX_fig h.2.1 h.2.2
  unfold fig at e1 e2
  show (match figX [48 + t.1.toNat] with
    | .error c => Except.error c
    | .ok x => match figX [48 + t.2.toNat] with
      | .error c => .error c
      | .ok y => .ok (PyData.tuple [x, y])) = _
  rw [e1, e2]
theorem tie_in_X (l : List Nat) (hl : l.length ≤ 1000) : gX_tie_in [tx l] = some (tieX l) := by
  unfold gX_tie_in bX_tie_in N_tie_in
  match l with
  | [] => simp_arith [DL.p_nt]; rfl
  | [c] => simp_arith [DL.p_nt]; rfl
  | [a, b] =>
    have f1 := figure_in_X [a] (by simp)
    have f2 := figure_in_X [b] (by simp)
    have a0 : atI [a, b] 0 = some a := rfl
    have a1 : atI [a, b] 1 = some b := rfl
    unfold tieX
    cases e1 : figX [a] with
    | error c =>
      rw [e1] at f1
      simp_arith [a0, a1, f1]
      rw [e1]
    | ok x =>
      rw [e1] at f1
      cases e2 : figX [b] with
      | error c =>
        rw [e2] at f2
        simp_arith [a0, a1, f1, f2]
        rw [e1, e2]
      | ok y =>
        rw [e2] at f2
        simp_arith [a0, a1, f1, f2]
        rw [e1, e2]
  | a :: b :: d :: r =>
    have c : (((r.length + 1 + 1 + 1 : Nat) : Int) == 2) = false := by rw [beq_eq_false_iff_ne]; omega
    have e : tieX (a :: b :: d :: r) = .error "NoText" := rfl
    simp only [List.length_cons] at hl
    rw [e]
    simp_arith [c]
end PG
namespace DL
theorem join_splitN (c : Nat) : ∀ l : List Nat, joinN [c] (splitN c l) = l
  | [] => rfl
  | a :: l => by
    have ih := join_splitN c l
    rw [splitN_cons]
    cases e : splitN c l with
    | nil => exact absurd e (splitN_ne c l)
    | cons p ps =>
      rw [e] at ih
      by_cases q : a = c
      · rw [if_pos q]
        show [] ++ [c] ++ joinN [c] (p :: ps) = _
        rw [ih, q]; rfl
      · rw [if_neg q]
        cases ps with
        | nil => simpa [joinN] using ih
        | cons p2 ps =>
          show (a :: p) ++ [c] ++ joinN [c] (p2 :: ps) = _
          have ih : p ++ [c] ++ joinN [c] (p2 :: ps) = l := ih
          rw [List.cons_append, List.cons_append, ih]
theorem splitN_len (c : Nat) : ∀ l : List Nat, (splitN c l).length ≤ l.length + 1
  | [] => by simp [splitN]
  | a :: l => by
    have ih := splitN_len c l
    rw [splitN_cons]
    cases e : splitN c l with
    | nil => exact absurd e (splitN_ne c l)
    | cons p ps =>
      rw [e] at ih
      simp only [List.length_cons] at ih ⊢
      split <;> simp only [List.length_cons] <;> omega
theorem splitN_mem_len (c : Nat) : ∀ (l p : List Nat), p ∈ splitN c l → p.length ≤ l.length
  | [], p, m => by simp [splitN] at m; simp [m]
  | a :: l, p, m => by
    have ih := splitN_mem_len c l
    rw [splitN_cons] at m
    cases e : splitN c l with
    | nil => exact absurd e (splitN_ne c l)
    | cons q ps =>
      rw [e] at m ih
      split at m
      · rcases List.mem_cons.mp m with rfl | m
        · simp
        · have := ih p m
          simp only [List.length_cons]; omega
      · have m : p ∈ (a :: q) :: ps := m
        rcases List.mem_cons.mp m with rfl | m
        · have := ih q (by simp)
          simp only [List.length_cons]; omega
        · have := ih p (List.mem_cons_of_mem _ m)
          simp only [List.length_cons]; omega
end DL
namespace PG
open PySem L2 DL GT RX
theorem lt_T {m : Int} {a b : Tie} (ha : tieD m (encT a) = true) (hb : tieD m (encT b) = true) (h : ltD (encT a) (encT b) = true) : tlt a b := by
  unfold ltD ltB at h
  simp only [encT, intsOf] at h
  have h : HT.lexLt [a.1, a.2] [b.1, b.2] = true := by simpa using h
  unfold tlt
  by_cases e : a.1 = b.1
  · by_cases e2 : a.2 = b.2
    · simp [HT.lexLt, e, e2] at h
    · simp [HT.lexLt, e, e2] at h
      exact .inr ⟨e, h⟩
  · simp [HT.lexLt, e] at h
    exact .inl h
theorem up_pw {α : Type} {lt : α → α → Bool} {R : α → α → Prop} (tr : ∀ a b c, R a b → R b c → R a c) : ∀ {xs : List α}, (∀ a ∈ xs, ∀ b ∈ xs, lt a b = true → R a b) → upB lt xs = true → xs.Pairwise R
  | [], _, _ => .nil
  | [_], _, _ => List.pairwise_singleton _ _
  | x :: y :: r, h, u => by
    simp only [upB, Bool.and_eq_true] at u
    have ih := up_pw tr (xs := y :: r) (fun a ma b mb => h a (List.mem_cons_of_mem _ ma) b (List.mem_cons_of_mem _ mb)) u.2
    refine List.pairwise_cons.mpr ⟨fun z mz => ?_, ih⟩
    have h1 := h x (by simp) y (by simp) u.1
    rcases List.mem_cons.mp mz with rfl | mz
    · exact h1
    · exact tr _ _ _ h1 ((List.pairwise_cons.mp ih).1 z mz)
theorem upB_on {α β : Type} (f : α → β) (lt : β → β → Bool) : ∀ xs : List α, upB lt (xs.map f) = upB (fun a b => lt (f a) (f b)) xs
  | [] => rfl
  | [_] => rfl
  | x :: y :: r => by
    have := upB_on f lt (y :: r)
    simp only [List.map_cons, upB] at this ⊢
    rw [this]
/-- what is_net says yes to is a net -/
theorem netD_wf {n : Int} {ties : List Tie} {rim : List Int} (h : netD (encW n ties rim) = true) : ∃ N : Net, N.WF ∧ N.ties.length ≤ 9 ∧ N.rim ≠ [] ∧ n = N.n ∧ ties = N.ties ∧ rim = N.rim := by
  have h : ((decide ((1 : Int) ≤ n) && decide (n ≤ 7)) && (decide ((ties.map encT).length ≤ 9) && ((ties.map encT).all (tieD n) && (!(rim.map PyData.int).isEmpty && ((rim.map PyData.int).all (wholeD · 0 (n - 1)) && (upB ltD (ties.map encT) && upB ltD (rim.map PyData.int))))))) = true := h
  simp only [Bool.and_eq_true, decide_eq_true_eq, List.length_map, List.all_map, List.all_eq_true, Function.comp, Bool.not_eq_true', List.isEmpty_eq_false_iff, ne_eq, List.map_eq_nil_iff] at h
  obtain ⟨⟨h1, h2⟩, h3, h4, h5, h6, h7, h8⟩ := h
  have hn : ((n.toNat : Nat) : Int) = n := Int.toNat_of_nonneg (by omega)
  refine ⟨⟨n.toNat, ties, rim⟩, ⟨?_, ?_, fun t m => ?_, ?_, fun k m => ?_, ?_⟩, h3, h5, hn.symm, rfl, rfl⟩
  · show 1 ≤ n.toNat; omega
  · show n.toNat ≤ 7; omega
  · have := h4 t m
    simp [tieD] at this
    show 0 ≤ t.1 ∧ t.1 < t.2 ∧ t.2 < ((n.toNat : Nat) : Int)
    omega
  · rw [upB_on] at h7
    exact up_pw tlt_tr (fun a ma b mb q => lt_T (h4 a ma) (h4 b mb) q) h7
  · have := h6 k m
    simp [wholeD] at this
    show 0 ≤ k ∧ k < ((n.toNat : Nat) : Int)
    omega
  · rw [upB_on] at h8
    refine up_pw (R := fun a b : Int => a < b) (fun a b c => Int.lt_trans) (fun a _ b _ q => ?_) h8
    simpa [ltD, ltB] using q
/-- the end of read -/
def endX (l : List Nat) (n : Int) (ties : List Tie) (rim : List Int) : Except String D := if netD (encW n ties rim) = true ∧ writtenN n ties rim = l then .ok (encW n ties rim) else .error "NoText"
theorem mapX_fig : ∀ {p : List Nat} {ds : List D}, mapX figX (p.map fun c => [c]) = .ok ds → ∃ rim : List Int, (∀ k ∈ rim, 0 ≤ k ∧ k < 10) ∧ p = joinN [] (rim.map fig) ∧ ds = rim.map .int ∧ rim.length = p.length
  | [], ds, h => by cases h; exact ⟨[], by simp, rfl, rfl, rfl⟩
  | c :: p, ds, h => by
    rw [List.map_cons] at h
    unfold mapX at h
    split at h
    · cases h
    · rename_i y e
      split at h
      · cases h
      · rename_i ys e2
        cases h
        obtain ⟨rim, b, h1, h2, h3⟩ := mapX_fig e2
        obtain ⟨i, i0, i1, e3, rfl⟩ := figX_ok e
        refine ⟨i :: rim, fun k m => ?_, ?_, by rw [h2]; rfl, by simp [h3]⟩
        · rcases List.mem_cons.mp m with rfl | m
          · exact ⟨i0, i1⟩
          · exact b k m
        · rw [joinN_nil] at h1 ⊢
          rw [List.map_cons, List.flatten_cons, ← e3, ← h1]; rfl
theorem mapX_tie : ∀ {ps : List (List Nat)} {ds : List D}, mapX tieX ps = .ok ds → ∃ ties : List Tie, (∀ t ∈ ties, (0 ≤ t.1 ∧ t.1 < 10) ∧ 0 ≤ t.2 ∧ t.2 < 10) ∧ ps = ties.map pieceT ∧ ds = ties.map encT
  | [], ds, h => by cases h; exact ⟨[], by simp, rfl, rfl⟩
  | p :: ps, ds, h => by
    unfold mapX at h
    split at h
    · cases h
    · rename_i y e
      split at h
      · cases h
      · rename_i ys e2
        cases h
        obtain ⟨ties, b, h1, h2⟩ := mapX_tie e2
        obtain ⟨t, tb, e3, rfl⟩ := tieX_ok e
        refine ⟨t :: ties, fun k m => ?_, by rw [e3, h1]; rfl, by rw [h2]; rfl⟩
        rcases List.mem_cons.mp m with rfl | m
        · exact tb
        · exact b k m
/-- the ties' texts -/
def tiesX (p : List Nat) : Except String (List D) := if p = [] then .ok [] else mapX tieX (splitN 44 p)
def restX (l p0 p2 : List Nat) (ties : List Tie) : Except String D := match figX p0 with
  | .error c => .error c
  | .ok (.int n) => match mapX figX (p2.map fun c => [c]) with
    | .error c => .error c
    | .ok ds => match intsOf ds with
      | some rim => endX l n ties rim
      | none => .error "NoText"
  | .ok _ => .error "NoText"
theorem intsOf_map : ∀ ks : List Int, intsOf (ks.map PyData.int) = some ks
  | [] => rfl
  | k :: ks => by
    show (intsOf (ks.map PyData.int)).map _ = _
    rw [intsOf_map ks]; rfl
set_option maxHeartbeats 4000000 in
theorem read_rest {l p0 p1 p2 : List Nat} {ties : List Tie} (hl : l.length ≤ 900) (okl : okN l = true) (h0 : p0.length ≤ 900) (h2 : p2.length ≤ 900) (hb : ∀ t ∈ ties, (0 ≤ t.1 ∧ t.1 < 10) ∧ 0 ≤ t.2 ∧ t.2 < 10) (ht : ties.length ≤ 901) :
    (Sqx_read_2 [some (.d (tx l)), some (.d (.list [tx p0, tx p1, tx p2])), some (.d (.tuple (ties.map encT))), none, none, none]).bind finX = some (restX l p0 p2 ties) := by
  have f0 := figure_in_X p0 (by omega)
  unfold restX
  cases e0 : figX p0 with
  | error c =>
    rw [e0] at f0
    simp_arith [-PG.Sqx_read_1_a, f0]
  | ok d0 =>
    obtain ⟨n, n0, n1, _, rfl⟩ := figX_ok e0
    rw [e0] at f0
    obtain ⟨r2, c1, c2⟩ := compx_eval (i := 5) (it := seqSM (opM ixD (varM 1) (cM (PyData.int 2)))) (el := Cex_read_2) (r := [some (.d (tx l)), some (.d (.list [tx p0, tx p1, tx p2])), some (.d (.tuple (ties.map encT))), none, none, none])
      (r1 := [some (.d (tx l)), some (.d (.list [tx p0, tx p1, tx p2])), some (.d (.tuple (ties.map encT))), none, none, none]) (fun c : List Nat => tx c) figX (p2.map fun c => [c]) (by simp_arith [DL.p_nt]; rw [List.map_map]; rfl) (by rw [List.length_map]; omega) rfl (fun x m => by
        obtain ⟨c, _, rfl⟩ := List.mem_map.mp m
        have fc := figure_in_X [c] (by simp)
        unfold Cex_read_2
        simp_arith [fc])
    cases e2 : mapX figX (p2.map fun c => [c]) with
    | error c =>
      rw [e2] at c1
      simp_arith [-PG.Sqx_read_1_a, f0, c1]
    | ok ds =>
      have er := c2 ds e2
      subst er
      rw [e2] at c1
      obtain ⟨rim, rb, _, rfl, rl⟩ := mapX_fig e2
      have zz : szOk (rim.map PyData.int).length = true := szOk_of (by rw [List.length_map]; omega)
      have ni : nice 20 (encW n ties rim) = true := by
        simp [nice, encW, List.all_eq_true]; omega
      have isn := net_eval _ ni
      have wr := written_any (n := n) (ties := ties) (rim := rim) ⟨n0, n1⟩ hb rb (by omega) (by omega)
      have sm := okN_of (written_small (n := n) (ties := ties) (rim := rim) n1 (fun t m => ⟨(hb t m).1.2, (hb t m).2.2⟩) fun k m => (rb k m).2)
      have nt := ne_tx sm okl
      simp only [intsOf_map]
      unfold endX
      have isn : g_is_net [.tuple [.int n, .tuple (ties.map encT), .tuple (rim.map .int)]] = some (.bool (netD (encW n ties rim))) := isn
      have wr : g_written [.tuple [.int n, .tuple (ties.map encT), .tuple (rim.map .int)]] = some (tx (writtenN n ties rim)) := wr
      cases q1 : netD (encW n ties rim) with
      | false =>
        rw [q1] at isn
        rw [if_neg (by simp)]
        simp_arith [f0, c1, isn]
      | true =>
        rw [q1] at isn
        by_cases q2 : writtenN n ties rim = l
        · rw [decide_eq_true q2] at nt
          rw [if_pos ⟨rfl, q2⟩]
          simp_arith [f0, c1, isn, wr, nt]
        · rw [decide_eq_false q2] at nt
          rw [if_neg fun z => q2 z.2]
          simp_arith [f0, c1, isn, wr, nt]
end PG
namespace PG
open PySem L2 DL GT RX
def readF (l p0 p1 p2 : List Nat) : Except String D := match tiesX p1 with
  | .error c => .error c
  | .ok ds => match mapTs ds with
    | some ties => restX l p0 p2 ties
    | none => .error "NoText"
where mapTs : List D → Option (List Tie)
  | [] => some []
  | .tuple [.int a, .int b] :: ds => (mapTs ds).map ((a, b) :: ·)
  | _ :: _ => none
theorem mapTs_enc : ∀ ts : List Tie, readF.mapTs (ts.map encT) = some ts
  | [] => rfl
  | t :: ts => by
    show (readF.mapTs (ts.map encT)).map _ = _
    rw [mapTs_enc ts]; rfl
theorem tiesX_ok {p : List Nat} {ds : List D} (h : tiesX p = .ok ds) : ∃ ties : List Tie, (∀ t ∈ ties, (0 ≤ t.1 ∧ t.1 < 10) ∧ 0 ≤ t.2 ∧ t.2 < 10) ∧ p = joinN [44] (ties.map pieceT) ∧ ds = ties.map encT ∧ ties.length ≤ p.length + 1 := by
  unfold tiesX at h
  split at h
  · rename_i e
    cases h
    exact ⟨[], by simp, e, rfl, by simp⟩
  · obtain ⟨ties, b, h1, h2⟩ := mapX_tie h
    have e := join_splitN 44 p
    have l := splitN_len 44 p
    rw [h1] at e l
    exact ⟨ties, b, e.symm, h2, by simpa using l⟩
set_option maxHeartbeats 4000000 in
theorem read_three {l p0 p1 p2 : List Nat} (hl : l.length ≤ 900) (okl : okN l = true) (sp : splitN 59 l = [p0, p1, p2]) : gX_read [tx l] = some (readF l p0 p1 p2) := by
  have hp : ∀ p ∈ [p0, p1, p2], p.length ≤ 900 := fun p m => Nat.le_trans (splitN_mem_len 59 l p (by rw [sp]; exact m)) hl
  have h0 := hp p0 (by simp)
  have h1 := hp p1 (by simp)
  have h2 := hp p2 (by simp)
  have okp : okN p1 = true := by
    have e := join_splitN 59 l
    rw [sp] at e
    unfold okN at okl ⊢
    rw [List.all_eq_true] at okl ⊢
    intro c m
    refine okl c ?_
    rw [← e]
    simp [joinN, m]
  have spV : splitV (tx l) (tx [59]) = some ([p0, p1, p2].map tx) := by rw [splitV_tx _ _ (by omega), sp]
  have ne0 := ne_tx okp (b := []) rfl
  unfold readF
  have goal : (Sqx_read_3 [some (.d (tx l)), some (.d (.list [tx p0, tx p1, tx p2])), some (.d (.tuple [])), none, none, none]).bind finX = some (match tiesX p1 with
      | .error c => .error c
      | .ok ds => match readF.mapTs ds with
        | some ties => restX l p0 p2 ties
        | none => .error "NoText") := by
    by_cases e1 : p1 = []
    · have rest := read_rest (ties := []) (p0 := p0) (p1 := p1) (p2 := p2) hl okl h0 h2 (by simp) (by simp)
      have tt : tiesX p1 = .ok [] := if_pos e1
      rw [tt]
      rw [decide_eq_true e1] at ne0
      simp_arith [-PG.Sqx_read_2_a, s_empty, ne0]
      exact rest
    · have tt : tiesX p1 = mapX tieX (splitN 44 p1) := if_neg e1
      rw [decide_eq_false e1] at ne0
      have sv : splitV (tx p1) (tx [44]) = some ((splitN 44 p1).map tx) := splitV_tx _ _ (by omega)
      have sl := splitN_len 44 p1
      obtain ⟨r2, c1, c2⟩ := compx_eval (i := 4) (it := seqM (ofL (splitM (opM ixD (varM 1) (cM (PyData.int 1))) (cM (PyData.str ","))))) (el := Cex_read_1) (r := [some (.d (tx l)), some (.d (.list [tx p0, tx p1, tx p2])), some (.d (.tuple [])), none, none, none])
        (r1 := [some (.d (tx l)), some (.d (.list [tx p0, tx p1, tx p2])), some (.d (.tuple [])), none, none, none]) (fun c : List Nat => tx c) tieX (splitN 44 p1) (by simp_arith [s_comma, sv]) (by omega) rfl (fun x m => by
          have fc := tie_in_X x (by have := splitN_mem_len 44 p1 x m; omega)
          unfold Cex_read_1
          simp_arith [fc])
      cases e2 : mapX tieX (splitN 44 p1) with
      | error c =>
        rw [tt, e2]
        rw [e2] at c1
        simp_arith [-PG.Sqx_read_2_a, s_empty, ne0, c1]
      | ok ds =>
        have er := c2 ds e2
        subst er
        rw [e2] at c1
        rw [e2] at tt
        obtain ⟨ties, tb, _, rfl, tl⟩ := tiesX_ok tt
        have rest := read_rest (ties := ties) (p0 := p0) (p1 := p1) (p2 := p2) hl okl h0 h2 tb (by omega)
        have mt := mapTs_enc ties
        rw [tt]
        simp only [mt]
        simp_arith [-PG.Sqx_read_2_a, s_empty, ne0, c1]
        exact rest
  unfold gX_read bX_read N_read
  simp_arith [-PG.Sqx_read_3_a, s_semi, spV]
  exact goal
set_option maxHeartbeats 4000000 in
theorem read_not {l : List Nat} (hl : l.length ≤ 900) (h : (splitN 59 l).length ≠ 3) : gX_read [tx l] = some (.error "NoText") := by
  have spV : splitV (tx l) (tx [59]) = some ((splitN 59 l).map tx) := splitV_tx _ _ (by omega)
  have sl := splitN_len 59 l
  have c : ((((splitN 59 l).length : Nat) : Int) == 3) = false := by rw [beq_eq_false_iff_ne]; omega
  unfold gX_read bX_read N_read
  simp_arith [-PG.Sqx_read_3_a, s_semi, spV, c]
/-- of any text: the net whose text it is, or refused -/
theorem read_X {l : List Nat} (hl : l.length ≤ 900) (okl : okN l = true) : (∃ N : Net, N.WF ∧ N.ties.length ≤ 9 ∧ N.rim ≠ [] ∧ l = writtenN N.n N.ties N.rim ∧ gX_read [tx l] = some (.ok (encN N))) ∨ gX_read [tx l] = some (.error "NoText") := by
  match q : splitN 59 l with
  | [p0, p1, p2] =>
    rw [read_three hl okl q]
    unfold readF
    cases e1 : tiesX p1 with
    | error c =>
      right
      have : c = "NoText" := by
        unfold tiesX at e1
        split at e1
        · cases e1
        · exact mapX_err (fun _ _ => tieX_err) e1
      subst this; rfl
    | ok ds =>
      obtain ⟨ties, tb, _, rfl, _⟩ := tiesX_ok e1
      simp only [mapTs_enc]
      unfold restX
      cases e0 : figX p0 with
      | error c => right; rw [figX_err e0]
      | ok d0 =>
        obtain ⟨n, n0, n1, _, rfl⟩ := figX_ok e0
        simp only
        cases e2 : mapX figX (p2.map fun c => [c]) with
        | error c => right; rw [mapX_err (fun _ _ => figX_err) e2]
        | ok ds =>
          obtain ⟨rim, rb, _, rfl, _⟩ := mapX_fig e2
          simp only [intsOf_map]
          unfold endX
          split
          · rename_i c
            obtain ⟨N, w, t9, rn, rfl, rfl, rfl⟩ := netD_wf c.1
            exact .inl ⟨N, w, t9, rn, c.2.symm, rfl⟩
          · exact .inr rfl
  | [] => exact .inr (read_not hl (by rw [q]; decide))
  | [a] => exact .inr (read_not hl (by rw [q]; simp))
  | [a, b] => exact .inr (read_not hl (by rw [q]; simp))
  | a :: b :: c :: d :: r => exact .inr (read_not hl (by rw [q]; simp))
theorem mapX_figs {rim : List Int} (h : ∀ k ∈ rim, 0 ≤ k ∧ k < 10) : mapX figX ((joinN [] (rim.map fig)).map fun c => [c]) = .ok (rim.map .int) := by
  have e : (joinN [] (rim.map fig)).map (fun c => [c]) = rim.map fig := by
    rw [joinN_nil]
    clear h
    induction rim with
    | nil => rfl
    | cons k ks ih => rw [List.map_cons, List.flatten_cons, List.map_append, ih]; rfl
  rw [e]
  clear e
  induction rim with
  | nil => rfl
  | cons k ks ih =>
    have hk := h k (by simp)
    rw [List.map_cons]
    unfold mapX
    rw [figX_fig hk.1 hk.2, ih fun x m => h x (List.mem_cons_of_mem _ m)]
    rfl
theorem mapX_ties {ties : List Tie} (h : ∀ t ∈ ties, (0 ≤ t.1 ∧ t.1 < 10) ∧ 0 ≤ t.2 ∧ t.2 < 10) : mapX tieX (ties.map pieceT) = .ok (ties.map encT) := by
  induction ties with
  | nil => rfl
  | cons t ts ih =>
    rw [List.map_cons]
    unfold mapX
    rw [tieX_piece (h t (by simp)), ih fun x m => h x (List.mem_cons_of_mem _ m)]
    rfl
theorem tiesX_ties {ties : List Tie} (h : ∀ t ∈ ties, (0 ≤ t.1 ∧ t.1 < 10) ∧ 0 ≤ t.2 ∧ t.2 < 10) : tiesX (joinN [44] (ties.map pieceT)) = .ok (ties.map encT) := by
  unfold tiesX
  cases e : ties with
  | nil => rfl
  | cons t ts =>
    have jn : joinN [44] (ties.map pieceT) ≠ [] := by
      rw [e]
      cases ts <;> simp [joinN, pieceT, fig]
    rw [← e, if_neg jn, splitN_join (by rw [e]; simp) fun p m => ?_]
    · exact mapX_ties h
    · obtain ⟨t, mt, rfl⟩ := List.mem_map.mp m
      intro c
      rcases List.mem_append.mp c with q | q
      · exact fig_free2 (by omega) q
      · exact fig_free2 (by omega) q
/-- what has the form of a text is read as it says -/
theorem read_form {n : Int} {ties : List Tie} {rim : List Int} (hn : 0 ≤ n ∧ n < 10) (ht : ∀ t ∈ ties, (0 ≤ t.1 ∧ t.1 < 10) ∧ 0 ≤ t.2 ∧ t.2 < 10) (hr : ∀ k ∈ rim, 0 ≤ k ∧ k < 10) (lt : ties.length ≤ 100) (lr : rim.length ≤ 100) :
    gX_read [tx (writtenN n ties rim)] = some (if netD (encW n ties rim) = true then .ok (encW n ties rim) else .error "NoText") := by
  have wl := written_len (n := n) (ties := ties) (rim := rim)
  have sm := okN_of (written_small (n := n) (ties := ties) (rim := rim) hn.2 (fun t m => ⟨(ht t m).1.2, (ht t m).2.2⟩) fun k m => (hr k m).2)
  have wp := written_parts (n := n) (ties := ties) (rim := rim) hn.2 (fun t m => ⟨(ht t m).1.2, (ht t m).2.2⟩) fun k m => (hr k m).2
  rw [read_three (by omega) sm wp]
  unfold readF
  rw [tiesX_ties ht]
  simp only [mapTs_enc]
  unfold restX
  rw [figX_fig hn.1 hn.2]
  simp only [mapX_figs hr, intsOf_map]
  unfold endX
  by_cases q : netD (encW n ties rim) = true
  · rw [if_pos ⟨q, rfl⟩, if_pos q]
  · rw [if_neg fun z => q z.1, if_neg q]
theorem read_net {N : Net} (w : N.WF) (ht : N.ties.length ≤ 9) (hr : N.rim ≠ []) : gX_read [tx (writtenN N.n N.ties N.rim)] = some (.ok (encN N)) := by
  have small := w.small
  have rl : N.rim.length ≤ 7 := by
    have := nodup_len_le N.rim (ir N.n) (nodup_of_lt (fun a => Int.lt_irrefl a) w.rimUp) fun x mx => mem_ir.mpr (w.rimIn x mx)
    rw [ir_len] at this
    omega
  have := read_form (n := N.n) (ties := N.ties) (rim := N.rim) (by omega) (fun t m => by have := w.tie t m; omega) (fun k m => by have := w.rimIn k m; omega) (by omega) (by omega)
  rw [this]
  have e : netD (encW N.n N.ties N.rim) = true := netD_enc w ht hr
  rw [if_pos e]; rfl
end PG
namespace DL
open PySem L2
/-! texts: sliced, counted, turned about -/
theorem cutS_tx (l : List Nat) (lo hi : Option Int) : cutS (mkS l) lo hi = mkS (cutD l lo hi) := by
  unfold cutS cutD
  rw [mkS_len, mkS_list]
theorem slD_tx (l : List Nat) (lo hi : Option Int) : slD (tx l) lo hi = guard' (szOk l.length) fun _ => some (tx (cutD l lo hi)) := by
  show (if szOk (mkS l).length = true then some (PyData.str (cutS (mkS l) lo hi)) else none) = _
  rw [mkS_len, cutS_tx]
  cases szOk l.length <;> rfl
theorem mulSD_0 (l : List Nat) : mulSD (tx l) (.int 0) = some (tx []) := by
  show (if (0 : Int) = 0 then some (PyData.str Str.empty) else (if (0 : Int) = 1 then some (PyData.str (mkS l)) else none)) = _
  rw [if_pos rfl]; first | done | rfl
theorem mulSD_1 (l : List Nat) : mulSD (tx l) (.int 1) = some (tx l) := by
  show (if (1 : Int) = 0 then some (PyData.str Str.empty) else (if (1 : Int) = 1 then some (PyData.str (mkS l)) else none)) = _
  rw [if_neg (by decide), if_pos rfl]
theorem countSD_tx (l : List Nat) (c : Nat) : countSD (tx l) (tx [c]) = some (.int ((l.count c : Nat) : Int)) := by
  show some (PyData.int (((mkS l).cps.toList.count c : Nat) : Int)) = _
  rw [mkS_list]
theorem indexSD_tx (l : List Nat) (c : Nat) : indexSD (tx l) (tx [c]) = (firstIx c l).map fun i => .int (i : Nat) := by
  show (firstIx c (mkS l).cps.toList).map _ = _
  rw [mkS_list]
theorem revSD_tx (l : List Nat) : revSD (tx l) = guard' (szOk l.length) fun _ => some (tx l.reverse) := by
  show (if szOk (mkS l).length = true then some (PyData.str ⟨(mkS l).cps.toList.reverse.toArray⟩) else none) = _
  rw [mkS_len, mkS_list]
  cases szOk l.length <;> rfl
theorem geSB_tx (a b : Nat) : geSB (tx [a]) (tx [b]) = some (decide (b ≤ a)) := by
  show some (!decide ((mkS [a]).cps.toList < (mkS [b]).cps.toList)) = _
  rw [mkS_list, mkS_list]
  congr 1
  have : ([a] < [b]) ↔ a < b := by
    constructor
    · intro h
      cases h with
      | rel h => exact h
      | cons h => cases h
    · exact fun h => .rel h
  by_cases q : a < b
  · rw [decide_eq_true (this.mpr q), decide_eq_false (by omega)]; rfl
  · rw [decide_eq_false (fun z => q (this.mp z)), decide_eq_true (by omega)]; rfl
theorem firstIx_app {c : Nat} : ∀ {p : List Nat} (q : List Nat), c ∉ p → firstIx c (p ++ c :: q) = some p.length
  | [], q, _ => by show (if c = c then some 0 else _) = _; rw [if_pos rfl]; rfl
  | a :: p, q, h => by
    simp only [List.mem_cons, not_or] at h
    show (if a = c then some 0 else (firstIx c (p ++ c :: q)).map (· + 1)) = _
    rw [if_neg (Ne.symm h.1), firstIx_app q h.2]; rfl
theorem count_split {c : Nat} : ∀ {l : List Nat}, l.count c = 1 → ∃ p q, l = p ++ c :: q ∧ c ∉ p ∧ c ∉ q
  | [], h => by simp at h
  | a :: l, h => by
    by_cases e : a = c
    · subst e
      rw [List.count_cons_self] at h
      exact ⟨[], l, rfl, by simp, List.count_eq_zero.mp (by omega)⟩
    · rw [List.count_cons_of_ne e] at h
      obtain ⟨p, q, e1, e2, e3⟩ := count_split h
      exact ⟨a :: p, q, by rw [e1]; rfl, by simp only [List.mem_cons, not_or]; exact ⟨fun z => e z.symm, e2⟩, e3⟩
theorem cut_len {α : Type} (l : List α) (lo hi : Option Int) : (cutD l lo hi).length ≤ l.length := by
  unfold cutD
  rw [List.length_take, List.length_drop]
  omega
theorem cut_mem {α : Type} {l : List α} {lo hi : Option Int} {x : α} (h : x ∈ cutD l lo hi) : x ∈ l := List.mem_of_mem_drop (List.mem_of_mem_take h)
/-- a loop that folds, and may end by return -/
theorem wp_fret {A S β : Type} {g : GM} {f : SM} {K : Out → Option β} {Q : β → Prop} {enc : A → D} (st : S → Rho) (up : S → A → S) (p : A → Bool) (d : D) : ∀ (as : List A) (s : S),
    (∀ pre a post, as = pre ++ a :: post → wp ((g (st (pre.foldl up s)) (enc a)).bind f) (fun o => if p a = true then ∃ r', o = .rt d r' else goesOn (· = st (up (pre.foldl up s) a)) o)) →
    (as.any p = true → ∀ r', wp (K (.rt d r')) Q) → (as.any p = false → wp (K (.nx (st (as.foldl up s)))) Q) → wp ((forL g f (as.map enc) (st s)).bind K) Q
  | [], s, _, _, k2 => k2 rfl
  | a :: as, s, step, k1, k2 => by
    rw [List.map_cons, forL_cons]
    obtain ⟨o, e, ho⟩ := step [] a as rfl
    have e : (g (st s) (enc a)).bind f = some o := e
    rw [e, ob_some]
    cases h : p a with
    | true =>
      rw [h, if_pos rfl] at ho
      obtain ⟨r', rfl⟩ := ho
      exact k1 (by simp [h]) r'
    | false =>
      rw [h, if_neg (by simp)] at ho
      have go := wp_fret (K := K) (Q := Q) (enc := enc) st up p d as (up s a) (fun pre b post q => step (a :: pre) b post (by rw [q]; rfl)) (fun q => k1 (by simp [q])) (fun q => k2 (by simp [h, q]))
      cases o with
      | nx r2 => cases ho; exact go
      | ct r2 => cases ho; exact go
      | _ => exact ho.elim
end DL
namespace PG
open PySem L2 DL GT RX
/-! what is no net's text -/
/-- a net, as is_net has it -/
structure Neat (N : Net) : Prop where
  w : N.WF
  t9 : N.ties.length ≤ 9
  rn : N.rim ≠ []
def wr (N : Net) : List Nat := writtenN N.n N.ties N.rim
theorem read_bad {l : List Nat} (hl : l.length ≤ 900) (okl : okN l = true) (no : ∀ N : Net, Neat N → l ≠ wr N) : gX_read [tx l] = some (.error "NoText") := by
  rcases read_X hl okl with ⟨N, w, t9, rn, e, _⟩ | e
  · exact (no N ⟨w, t9, rn⟩ e).elim
  · exact e
theorem neat_rim7 {N : Net} (q : Neat N) : N.rim.length ≤ 7 := by
  have := nodup_len_le N.rim (ir N.n) (nodup_of_lt (fun a => Int.lt_irrefl a) q.w.rimUp) fun x mx => mem_ir.mpr (q.w.rimIn x mx)
  have := q.w.small
  rw [ir_len] at *
  omega
theorem neat_fig {N : Net} (q : Neat N) : ((0 : Int) ≤ N.n ∧ (N.n : Int) < 10) ∧ (∀ t ∈ N.ties, (0 ≤ t.1 ∧ t.1 < 10) ∧ 0 ≤ t.2 ∧ t.2 < 10) ∧ ∀ k ∈ N.rim, 0 ≤ k ∧ k < 10 := by
  have := q.w.small
  exact ⟨by omega, fun t m => by have := q.w.tie t m; omega, fun k m => by have := q.w.rimIn k m; omega⟩
theorem wr_len {N : Net} (q : Neat N) : (wr N).length ≤ 40 := by
  have := written_len (n := N.n) (ties := N.ties) (rim := N.rim)
  have := neat_rim7 q
  have := q.t9
  unfold wr
  omega
/-- its three parts -/
def midT (ties : List Tie) : List Nat := joinN [44] (ties.map pieceT)
def endT (rim : List Int) : List Nat := rim.map fun k => 48 + k.toNat
theorem endT_join (rim : List Int) : joinN [] (rim.map fig) = endT rim := by
  rw [joinN_nil]
  unfold endT
  induction rim with
  | nil => rfl
  | cons k ks ih => simp only [List.map_cons, List.flatten_cons, ih]; rfl
theorem written_three (n : Int) (ties : List Tie) (rim : List Int) : writtenN n ties rim = (48 + n.toNat) :: 59 :: (midT ties ++ 59 :: endT rim) := by
  unfold writtenN
  rw [endT_join]
  simp [fig, midT]
theorem mid_chars {ties : List Tie} (h : ∀ t ∈ ties, (0 ≤ t.1 ∧ t.1 < 10) ∧ 0 ≤ t.2 ∧ t.2 < 10) : ∀ c ∈ midT ties, c = 44 ∨ (48 ≤ c ∧ c ≤ 57) := fun c m => by
  rcases mem_join m with q | ⟨l, ml, hl⟩
  · simp at q; exact .inl q
  · obtain ⟨t, mt, rfl⟩ := List.mem_map.mp ml
    have := h t mt
    rcases List.mem_append.mp hl with q | q <;> simp [fig] at q <;> exact .inr (by omega)
theorem end_chars {rim : List Int} (h : ∀ k ∈ rim, 0 ≤ k ∧ k < 10) : ∀ c ∈ endT rim, 48 ≤ c ∧ c ≤ 57 := fun c m => by
  obtain ⟨k, mk, rfl⟩ := List.mem_map.mp m
  have := h k mk
  omega
theorem wr_chars {N : Net} (q : Neat N) : ∀ c ∈ wr N, c = 44 ∨ c = 59 ∨ (48 ≤ c ∧ c ≤ 57) := fun c m => by
  obtain ⟨f1, f2, f3⟩ := neat_fig q
  unfold wr at m
  rw [written_three] at m
  simp only [List.mem_cons, List.mem_append] at m
  rcases m with rfl | rfl | m | rfl | m
  · exact .inr (.inr (by omega))
  · exact .inr (.inl rfl)
  · rcases mid_chars f2 c m with h | h
    · exact .inl h
    · exact .inr (.inr h)
  · exact .inr (.inl rfl)
  · exact .inr (.inr (end_chars f3 c m))
theorem wr_ok {N : Net} (q : Neat N) : okN (wr N) = true := okN_of fun c m => by rcases wr_chars q c m with h | h | h <;> omega
theorem wr_semis {N : Net} (q : Neat N) : (wr N).count 59 = 2 := by
  obtain ⟨f1, f2, f3⟩ := neat_fig q
  unfold wr
  rw [written_three]
  have h1 : (midT N.ties).count 59 = 0 := List.count_eq_zero.mpr fun m => by rcases mid_chars f2 59 m with h | h <;> omega
  have h2 : (endT N.rim).count 59 = 0 := List.count_eq_zero.mpr fun m => by have := end_chars f3 59 m; omega
  have h3 : 48 + (N.n : Int).toNat ≠ 59 := by omega
  simp [List.count_cons, List.count_append, h1, h2, h3]
  omega
/-- its first three signs -/
theorem wr_first {N : Net} (q : Neat N) : ∃ a c r, wr N = a :: 59 :: c :: r ∧ 49 ≤ a ∧ a ≤ 55 ∧ c ≠ 44 := by
  obtain ⟨f1, f2, f3⟩ := neat_fig q
  have p := q.w.pos
  have s := q.w.small
  unfold wr
  rw [written_three]
  cases e : N.ties with
  | nil => exact ⟨_, 59, endT N.rim, rfl, by omega, by omega, by decide⟩
  | cons t ts =>
    have ht := f2 t (by rw [e]; simp)
    have : ∃ r, midT (t :: ts) = (48 + t.1.toNat) :: r := by
      cases ts with
      | nil => exact ⟨[48 + t.2.toNat], rfl⟩
      | cons u us => exact ⟨(48 + t.2.toNat) :: 44 :: joinN [44] ((u :: us).map pieceT), rfl⟩
    obtain ⟨r, e2⟩ := this
    rw [e2]
    exact ⟨_, _, _, rfl, by omega, by omega, by omega⟩
theorem wr_three {N : Net} : wr N = (48 + (N.n : Int).toNat) :: 59 :: (midT N.ties ++ 59 :: endT N.rim) := written_three _ _ _
/-- whose text has these parts -/
theorem wr_parts {N : Net} (h : Neat N) {a : Nat} {p q : List Nat} (e : a :: 59 :: (p ++ 59 :: q) = wr N) (hp : 59 ∉ p) (hq : 59 ∉ q) : a = 48 + N.n ∧ p = midT N.ties ∧ q = endT N.rim := by
  obtain ⟨f1, f2, f3⟩ := neat_fig h
  rw [wr_three] at e
  injection e with e1 e2
  injection e2 with _ e3
  have m1 : 59 ∉ midT N.ties := fun m => by rcases mid_chars f2 59 m with h | h <;> omega
  have m2 : 59 ∉ endT N.rim := fun m => by have := end_chars f3 59 m; omega
  have s := congrArg (splitN 59) e3
  rw [splitN_app q hp, splitN_app _ m1, splitN_free hq, splitN_free m2] at s
  injection s with s1 s2
  injection s2 with s3
  exact ⟨by omega, s1, s3⟩
/-- the texts of the ties -/
def psOf (p : List Nat) : List (List Nat) := if p = [] then [] else splitN 44 p
theorem psOf_mid {ties : List Tie} (h : ∀ t ∈ ties, (0 ≤ t.1 ∧ t.1 < 10) ∧ 0 ≤ t.2 ∧ t.2 < 10) : psOf (midT ties) = ties.map pieceT := by
  unfold psOf
  cases e : ties with
  | nil => rfl
  | cons t ts =>
    have jn : midT ties ≠ [] := by
      rw [e]
      cases ts <;> simp [midT, joinN, pieceT, fig]
    rw [← e, if_neg jn]
    refine splitN_join (by rw [e]; simp) fun p m => ?_
    obtain ⟨t, mt, rfl⟩ := List.mem_map.mp m
    intro c
    rcases List.mem_append.mp c with q | q
    · exact fig_free2 (by omega) q
    · exact fig_free2 (by omega) q
theorem psOf_join (p : List Nat) : joinN [44] (psOf p) = p := by
  unfold psOf
  split
  · rename_i e; rw [e]; rfl
  · exact join_splitN 44 p
theorem psOf_len (p : List Nat) : (psOf p).length ≤ p.length + 1 := by
  unfold psOf
  split
  · simp
  · exact splitN_len 44 p
end PG
local macro_rules | `(tactic| simp_arith [$xs,*]) => `(tactic| simp (maxSteps := 2000000) (disch := omega) only [PG.Sq_written_1_a, PG.Sq_tie_in_1_a, PG.Sq_read_1_a, PG.Sq_read_2_a, PG.Sq_read_3_a, PG.Sq_read_4_a, PG.Sqx_tie_in_1_a, PG.Sqx_read_1_a, PG.Sqx_read_2_a, PG.Sqx_read_3_a, PG.Sqx_read_4_a, L_k15.Sq__law_told_1_a, L_k15.Sq__law_say_1_a, L_k15.Sq__law_say_2_a, L_k15.Sq__law_say_3_a, L_k15.Sq__law_read_1_a, L_k15.Sq__law_read_2_a, L_k15.Sq__law_read_3_a, L_k15.Sq__law_read_4_a, L_k15.Sq__law_read_5_a, L_k15.Sq__law_read_6_a, L_k15.Sq__law_read_7_a, L_k15.Sq__law_read_8_a, L_k15.Sq__law_read_9_a, L_k15.Sq__law_read_10_a, L_k15.Sq_law_1_a, L_k15.Sq_law_2_a, L_k15.Sq_law_3_a, L_k15.Sq_law_4_a, L_k15.Sq_law_5_a, L_k15.Sq_law_6_a, L_k15.Sq_law_7_a, L_k15.Sq_law_8_a, L_k15.Sq_law_9_a, L_k15.Sq_law_10_a, L_k15.Sq_law_11_a, L_k15.Sq_law_12_a, DL.ob_some, DL.om_some, DL.dat_d, DL.lis_l, DL.dic_m, DL.gt_0, DL.gt_1, DL.gt_2, DL.gt_3, DL.gt_4, DL.gt_5, DL.gt_6, DL.gt_7, DL.gt_b, DL.st_0, DL.st_s, DL.plG_d, DL.plG_n, DL.plainAt_a, DL.varM_a, DL.ownM_a, DL.cM_a, DL.ofL_a, DL.opM_a, DL.unM_a, DL.truM_a, DL.tstM_a, DL.notM_a, DL.cnd_t, DL.cnd_f, DL.andM_a, DL.orM_a, DL.andVM_a, DL.notVM_a, DL.iteM_a, DL.chM_a, DL.nilM_a, DL.consM_a, DL.guard_tt, DL.tupM_a, DL.lstM_a, DL.noM_a, DL.intV_i, DL.someM_a, DL.slM_a, DL.rng1M_a, DL.rng2M_a, DL.zipV_t, DL.zipV_l, DL.zipM_a, DL.seqM_a, DL.callM_a, DL.hereM_a, DL.callRM_a, DL.appM_a, DL.lisV_l, DL.catOwnM_a, DL.newDM_a, DL.putM_a, DL.lenDM_a, DL.sortDM_a, DL.nameG_a, DL.nilG_a, DL.consG_a, DL.tupG_a, DL.seqS_a, DL.seqK_nx, DL.seqK_rt, DL.seqK_ct, DL.skipM_a, DL.asgM_a, DL.asgG_a, DL.newM_a, DL.asgLM_a, DL.retM_a, DL.exprM_a, DL.ifM_a, DL.forM_a, DL.runF_a, DL.finF_rt, DL.finF_nx, DL.runR_a, DL.finR_rt, DL.finR_nx, DL.sz_0, DL.sz_1, DL.sz_2, DL.sz_3, DL.sz_4, DL.sz_5, DL.sz_6, DL.sz_7, DL.sz_8, DL.sz_9, DL.sz_10, DL.sz_11, DL.sz_12, DL.sz_13, DL.sz_14, DL.sz_15, DL.sz_16, DL.sz_17, DL.sz_18, DL.sz_19, DL.sz_20, DL.sz_21, DL.sz_22, DL.sz_23, DL.sz_24, DL.sz_25, DL.sz_26, DL.sz_27, DL.sz_28, DL.sz_29, DL.sz_30, DL.nc_0, DL.nc_1, DL.nc_2, DL.nc_3, DL.nc_4, DL.nc_5, DL.nc_6, DL.nc_7, DL.nc_8, DL.nc_9, DL.nc_10, DL.nc_11, DL.nc_12, DL.nc_13, DL.nc_14, DL.nc_15, DL.nc_16, DL.nc_17, DL.nc_18, DL.nc_19, DL.nc_20, DL.nc_21, DL.nc_22, DL.nc_23, DL.nc_24, DL.nc_25, DL.nc_26, DL.nc_27, DL.nc_28, DL.nc_29, DL.nc_30, DL.addD_i, DL.addD_t, DL.addD_l, DL.subD_i, DL.modD_i, DL.fdivD_i, DL.mulD_i, DL.lenD_t, DL.lenD_l, DL.tupleD_t, DL.tupleD_l, DL.listD_t, DL.listD_l, DL.truD_i, DL.truD_b, DL.truD_n, DL.truD_l, DL.truD_t, DL.ixD_t, DL.ixD_l, DL.negD_i, DL.bD_a, DL.ltB_i, DL.leB_i, DL.eqB_i, DL.neB_i, DL.items_t, DL.items_l, DL.intD_b, DL.isNN, DL.slD_t, DL.slD_l, DL.p_ge0, DL.p_geS, DL.p_tk0, DL.p_tkS, DL.p_tkN, DL.p_dr0, DL.p_drS, DL.p_drN, DL.p_mpC, DL.p_mpN, DL.p_apC, DL.p_apN, DL.p_lnC, DL.p_lnN, DL.p_rpS, DL.p_rp0, DL.p_alC, DL.p_alN, DL.p_gdS, DL.p_gdN, DL.p_tlS, DL.p_tlN, DL.p_ieC, DL.p_ieN, DL.p_nt, DL.p_nf, DL.p_atb, DL.p_afb, DL.p_abt, DL.p_abf, DL.p_eqS, DL.p_dT, DL.p_dF, DL.p_TA, DL.p_AT, DL.p_TO, DL.p_OT, DL.p_startD, DL.p_startR, DL.forK_nx, DL.forK_ct, DL.forK_rt, DL.yesM_a, DL.it1_a, DL.compM_a, DL.wipeR_c, DL.wipeR_n, DL.restR_c, DL.restR_n, DL.gtD_i, DL.gtD_T, DL.ob_assoc, DL.om_bind, DL.ob_map, DL.om_map, DL.cnd_bind, DL.cnd_map, DL.guard_bind, DL.guard_map, DL.atI_c0, DL.atI_c1, DL.atI_c2, DL.atI_c3, DL.encN_0, DL.encN_1, DL.encN_2, DL.encN_u, DL.revD_t, DL.revD_l, DL.eq_TI, DL.ne_TI, DL.enumM_a, DL.exM_a, DL.seqK_ex, DL.finF_ex, DL.forK_ex, DL.tri_no, DL.trm_no, DL.atI_neg1, DL.wipO_nx, DL.wipO_ct, DL.wipO_bk, DL.wipO_rt, DL.wipO_ex, DL.wipM_a, DL.preM_a, DL.two_a, DL.finR_ex, DL.len_map, DL.len_app, DL.len_ir, DL.len_rev, DL.sz_c, DL.rng_c, DL.rngL_n, DL.forM_a', DL.rev_map, DL.seqK_bk, DL.forK_bk, DL.enum_m, DL.emp_map, DL.eq_LI, DL.ne_LI, DL.eq_LI0, DL.ne_LI0, DL.eq_LT, DL.ne_LT, DL.eq_LR, DL.ne_LR, DL.eq_TR, DL.ne_TR, DL.eq_B, DL.ne_B, DL.wp_mapE, DL.sortDict_map, DL.map_id_int, DL.cut_f, DL.cut_t, DL.cut_f1, DL.map_drop', DL.map_take', DL.map_app', DL.len_zip, DL.dkOf_i, DL.keyOf_i, PG.allD_map', PG.enum_ir, PG.eq_BB, PG.ne_BB, DL.runX_a, DL.finX_rt, DL.finX_ex, DL.tryM_a, DL.tryK_ok, DL.tryK_er, DL.finX_nx, DL.isN_i, DL.rngL_g1, DL.eq_NN, DL.ne_NN, DL.eq_TT, DL.ne_TT, DL.eq_TT0, DL.ne_TI0, DL.eq_TI0, DL.fmtM_a, DL.jsM_a, DL.jsL_nil, DL.strV_s, DL.jsL_cons, DL.splitM_a, DL.inSB_tx, DL.notInSB_tx, DL.seqSM_a, DL.signsOf_tx, DL.lenD_tx, DL.ixD_tx, DL.addD_tx, DL.mkS_app', DL.empty_app, DL.mkS_length, DL.okx_a, DL.okK_a, DL.nilx_a, DL.thenX_err, DL.thenX_ok, DL.consx_a, DL.callx_a, DL.tupx_a, DL.ofx_a, DL.unx_a, DL.putK_err, DL.putK_ok, DL.retK_err, DL.retK_ok, DL.asgx_a, DL.retx_a, DL.slD_tx, DL.mulSD_0, DL.mulSD_1, DL.countSD_tx, DL.indexSD_tx, DL.revSD_tx, DL.geSB_tx, Nat.reduceAdd, Nat.reduceSub, Nat.reduceMul, Int.reduceLT, Int.reduceLE, Int.reducePow, Int.reduceNeg, Int.reduceAdd, Int.reduceSub, Int.reduceMul, Int.reduceBEq, Int.reduceBNe, Int.reduceToNat, $xs,*])
namespace L_k15
open PySem L2 DL GT PG FA RX
theorem told_ok {l : List Nat} {e : D} (h : gX_read [tx l] = some (.ok e)) : g__law_told [tx l] = some e := by
  unfold g__law_told b__law_told N__law_told
  simp_arith [h]
theorem told_no {l : List Nat} (h : gX_read [tx l] = some (.error "NoText")) : g__law_told [tx l] = some (.str "refused") := by
  unfold g__law_told b__law_told N__law_told
  simp_arith [h]
theorem or_none : g__law_or [.none] = some (.str "refused") := by
  have h1 : isB .none .none = some true := rfl
  unfold g__law_or b__law_or N__law_or
  simp_arith [h1]
theorem or_net (N : Net) : g__law_or [encN N] = some (encN N) := by
  have h1 : isB (encN N) .none = some false := rfl
  unfold g__law_or b__law_or N__law_or
  simp_arith [h1]
/-! written by hand -/
def upS (s : List Nat) (p : Tie × Nat) : List Nat := s ++ (if 0 < p.2 then [44] else []) ++ fig p.1.1 ++ fig p.1.2
theorem upS_len : ∀ (ps : List (Tie × Nat)) (s : List Nat), (ps.foldl upS s).length ≤ s.length + 3 * ps.length
  | [], s => by simp
  | p :: ps, s => by
    have := upS_len ps (upS s p)
    have h : (upS s p).length ≤ s.length + 3 := by
      unfold upS
      simp only [List.length_append, fig_len]
      split <;> simp
    rw [List.foldl_cons, List.length_cons]
    omega
theorem upS_rest : ∀ (ts : List Tie) (k : Nat) (s : List Nat), 0 < k → (ts.zipIdx k).foldl upS s = s ++ ts.flatMap fun t => 44 :: pieceT t
  | [], _, s, _ => by simp
  | t :: ts, k, s, h => by
    rw [List.zipIdx_cons, List.foldl_cons, upS_rest ts (k + 1) _ (by omega)]
    unfold upS
    simp [h, pieceT]
theorem mid_cons (t : Tie) : ∀ ts : List Tie, midT (t :: ts) = pieceT t ++ ts.flatMap fun t => 44 :: pieceT t
  | [] => by simp [midT, joinN]
  | u :: us => by
    have := mid_cons u us
    unfold midT at this ⊢
    simp only [List.map_cons, joinN] at this ⊢
    rw [this]
    simp
theorem upS_all (ts : List Tie) (s : List Nat) : ts.zipIdx.foldl upS s = s ++ midT ts := by
  cases ts with
  | nil => simp [midT, joinN]
  | cons t ts =>
    rw [List.zipIdx_cons, List.foldl_cons, upS_rest ts (0 + 1) _ (by omega), mid_cons]
    unfold upS
    simp [pieceT]
def upK (s : List Nat) (k : Int) : List Nat := s ++ fig k
theorem upK_all : ∀ (ks : List Int) (s : List Nat), ks.foldl upK s = s ++ endT ks
  | [], s => by simp [endT]
  | k :: ks, s => by
    rw [List.foldl_cons, upK_all ks]
    unfold upK
    simp [endT, fig]
set_option maxHeartbeats 4000000 in
theorem say_eval {N : Net} (q : Neat N) : g__law_say [encN N] = some (tx (wr N)) := by
  obtain ⟨f1, f2, f3⟩ := neat_fig q
  have fn := fig_strD f1.1 f1.2
  have t9 := q.t9
  have r7 := neat_rim7 q
  have e0 : encN N = .tuple [.int N.n, .tuple (N.ties.map encT), TI N.rim] := rfl
  refine wp_val ?_
  unfold g__law_say b__law_say N__law_say
  simp_arith [-L_k15.Sq__law_say_3_a, fn, s_semi, fig_len]
  simp_arith [-L_k15.Sq__law_say_2_a]
  refine wp_fold (fun s => [some (.d (encN N)), some (.d (tx s)), none, none, none]) upS (fig N.n ++ [59]) (fun pre p post h => ?_) ?_
  · obtain ⟨t, k⟩ := p
    have mt : t ∈ N.ties := by
      have : (t, k) ∈ N.ties.zipIdx := by rw [h]; simp
      exact List.mem_of_getElem? (List.mem_zipIdx_iff_getElem?.mp this)
    have s1 := fig_strD (f2 t mt).1.1 (f2 t mt).1.2
    have s2 := fig_strD (f2 t mt).2.1 (f2 t mt).2.2
    have hl := upS_len pre (fig N.n ++ [59])
    have hp : pre.length ≤ 9 := by
      have := congrArg List.length h
      simp at this
      omega
    revert hl
    generalize pre.foldl upS (fig N.n ++ [59]) = s
    intro hl
    simp only [List.length_append, fig_len, List.length_singleton] at hl
    unfold F__law_say_1
    by_cases hk : 0 < k
    · have d0 : mulSD (tx [44]) (.int (if decide ((0 : Int) < (k : Int)) = true then 1 else 0)) = some (tx [44]) := by rw [if_pos (decide_eq_true (by omega))]; exact mulSD_1 _
      have u : upS s (t, k) = s ++ [44] ++ fig t.1 ++ fig t.2 := by unfold upS; rw [if_pos hk]
      simp_arith [s_comma, d0, s1, s2, fig_len, u]
      exact wp_ok rfl
    · have d0 : mulSD (tx [44]) (.int (if decide ((0 : Int) < (k : Int)) = true then 1 else 0)) = some (tx []) := by rw [if_neg (by rw [decide_eq_true_eq]; omega)]; exact mulSD_0 _
      have u : upS s (t, k) = s ++ [] ++ fig t.1 ++ fig t.2 := by unfold upS; rw [if_neg hk]
      simp_arith [s_comma, d0, s1, s2, fig_len, u]
      exact wp_ok rfl
  · have ml : (midT N.ties).length ≤ 30 := by
      have h1 := join_len [44] (N.ties.map pieceT)
      rw [sum_const pieceT 2 N.ties fun t _ => piece_len t] at h1
      simp only [List.length_map, List.length_singleton] at h1
      unfold midT
      omega
    rw [upS_all]
    simp_arith [s_semi, fig_len]
    refine wp_fold (fun s => [some (.d (encN N)), some (.d (tx s)), none, none, none]) upK (fig N.n ++ [59] ++ midT N.ties ++ [59]) (fun pre k post h => ?_) ?_
    · have mk : k ∈ N.rim := by rw [h]; simp
      have s1 := fig_strD (f3 k mk).1 (f3 k mk).2
      have hp : pre.length ≤ 7 := by
        have := congrArg List.length h
        simp at this
        omega
      rw [upK_all]
      have el : (endT pre).length = pre.length := by simp [endT]
      unfold F__law_say_2 upK
      simp_arith [s1, fig_len]
      exact wp_ok rfl
    · rw [upK_all]
      simp_arith [DL.p_nt]
      refine wp_ok ?_
      rw [wr_three]
      simp [fig]
/-! what rises, by hand -/
theorem rise_I {ks : List Int} (m : Int) (long : ks.length ≤ 1000) (few : (dedup ks).length < 64) : g__law_rising [TI ks, .int m] = some (.bool (decide (ks = GT.sortI (dedup ks)) && decide ((ks.length : Int) ≤ m))) := by
  have d1 : decide ((dedup ks).length < 64) = true := decide_eq_true few
  refine wp_val ?_
  unfold g__law_rising b__law_rising N__law_rising
  simp_arith [DL.p_nt]
  refine wp_cmap (fun k => .tuple [.int k, .int 0]) (fun k _ => ?_) ?_
  · unfold Ce__law_rising_1
    simp_arith [DL.p_nt]
    exact wp_ok rfl
  cases h : decide (ks = GT.sortI (dedup ks)) with
  | true =>
    simp_arith [d1, h]
    exact wp_ok (by simp)
  | false =>
    simp_arith [d1, h]
    exact wp_ok rfl
theorem rise_T {ts : List Tie} (m : Int) (few : ts.length ≤ 1000) : g__law_rising [.tuple (ts.map encT), .int m] = some (.bool (decide (ts = canonP ts) && decide ((ts.length : Int) ≤ m))) := by
  have sd := sortDictB_T (ts := ts) few
  refine wp_val ?_
  unfold g__law_rising b__law_rising N__law_rising
  simp_arith [DL.p_nt]
  refine wp_cmap (fun t => .tuple [encT t, .int 0]) (fun k _ => ?_) ?_
  · unfold Ce__law_rising_1
    simp_arith [DL.p_nt]
    exact wp_ok rfl
  cases h : decide (ts = canonP ts) with
  | true =>
    simp_arith [sd, h]
    exact wp_ok (by simp)
  | false =>
    simp_arith [sd, h]
    exact wp_ok rfl
end L_k15
namespace L_k15
open PySem L2 DL GT PG FA RX
/-! read by hand -/
def figs (m : Nat) : List Nat := [48, 49, 50, 51, 52, 53, 54].take m
theorem mem_figs {m : Nat} (hm : m ≤ 7) {c : Nat} : c ∈ figs m ↔ 48 ≤ c ∧ c < 48 + m := by
  have : m = 0 ∨ m = 1 ∨ m = 2 ∨ m = 3 ∨ m = 4 ∨ m = 5 ∨ m = 6 ∨ m = 7 := by omega
  rcases this with rfl | rfl | rfl | rfl | rfl | rfl | rfl | rfl <;> simp [figs] <;> omega
def badP (m : Nat) : List Nat → Bool
  | [x, y] => !(decide (48 ≤ x ∧ x < 48 + m) && (decide (48 ≤ y ∧ y < 48 + m) && decide (x < y)))
  | _ => true
def tieO : List Nat → Tie
  | [x, y] => (((x - 48 : Nat) : Int), ((y - 48 : Nat) : Int))
  | _ => (0, 0)
def badK (m : Nat) (c : Nat) : Bool := !decide (48 ≤ c ∧ c < 48 + m)
def knO (c : Nat) : Int := ((c - 48 : Nat) : Int)
theorem int_one {x : Nat} (h : 48 ≤ x ∧ x < 58) : intSD (tx [x]) = some (.int ((x - 48 : Nat) : Int)) := by
  have := fig_int (i := ((x - 48 : Nat) : Int)) (by omega) (by omega)
  have e : fig ((x - 48 : Nat) : Int) = [x] := by
    unfold fig
    congr 1
    omega
  rwa [e] at this
abbrev stR (l : List Nat) (m : Nat) (mid : Int) (ts : List Tie) (ks : List Int) : Rho := [some (.d (tx l)), some (.d (.int m)), some (.d (tx (figs m))), some (.d (.int mid)), none, none, some (.d (.tuple (ts.map encT))), some (.d (TI ks))]
section
variable {l : List Nat} {m : Nat} {mid : Int} {ts : List Tie} {ks : List Int}
set_option maxHeartbeats 4000000 in
theorem piece_turn (hm : m ≤ 7) {p : List Nat} (hp : p.length ≤ 1000) (lt : ts.length ≤ 1000) : wp ((nameG 4 (stR l m mid ts ks) (tx p)).bind F__law_read_1) (fun o => if badP m p = true then ∃ r', o = .rt .none r' else goesOn (· = stR l m mid (ts ++ [tieO p]) ks) o) := by
  unfold F__law_read_1 stR
  match p with
  | [] =>
    simp_arith [DL.p_nt]
    exact wp_ok ⟨_, rfl⟩
  | [c] =>
    simp_arith [DL.p_nt]
    exact wp_ok ⟨_, rfl⟩
  | a :: b :: d :: r =>
    simp only [List.length_cons] at hp
    have c : (((r.length + 1 + 1 + 1 : Nat) : Int) == 2) = false := by rw [beq_eq_false_iff_ne]; omega
    have ln : (a :: b :: d :: r).length = r.length + 1 + 1 + 1 := by simp
    simp_arith [ln, c]
    exact wp_ok ⟨_, rfl⟩
  | [x, y] =>
    have a0 : atI [x, y] 0 = some x := rfl
    have a1 : atI [x, y] 1 = some y := rfl
    have ln : [x, y].length = 2 := rfl
    by_cases hx : x ∈ figs m
    · by_cases hy : y ∈ figs m
      · by_cases lt2 : x < y
        · have bx := (mem_figs hm).mp hx
          have bY := (mem_figs hm).mp hy
          have ix := int_one (x := x) (by omega)
          have iy := int_one (x := y) (by omega)
          have dx := decide_eq_true hx
          have dy := decide_eq_true hy
          have dg : decide (y ≤ x) = false := decide_eq_false (by omega)
          have bd : badP m [x, y] = false := by simp [badP, bx, bY, lt2]
          rw [bd]
          simp_arith [ln, a0, a1, dx, dy, dg, ix, iy]
          refine wp_ok ?_
          simp [goesOn, tieO, encT]
        · have dx := decide_eq_true hx
          have dy := decide_eq_true hy
          have dg : decide (y ≤ x) = true := decide_eq_true (by omega)
          have bd : badP m [x, y] = true := by simp [badP, lt2]
          rw [bd]
          simp_arith [ln, a0, a1, dx, dy, dg]
          exact wp_ok ⟨_, rfl⟩
      · have dx := decide_eq_true hx
        have dy := decide_eq_false hy
        have bd : badP m [x, y] = true := by
          rw [mem_figs hm] at hy
          simp only [badP, decide_eq_false hy]
          simp
        rw [bd]
        simp_arith [ln, a0, a1, dx, dy]
        exact wp_ok ⟨_, rfl⟩
    · have dx := decide_eq_false hx
      have bd : badP m [x, y] = true := by
        rw [mem_figs hm] at hx
        simp only [badP, decide_eq_false hx]
        simp
      rw [bd]
      simp_arith [ln, a0, a1, dx]
      exact wp_ok ⟨_, rfl⟩
theorem sign_turn (hm : m ≤ 7) {c : Nat} (lk : ks.length ≤ 1000) : wp ((nameG 5 (stR l m mid ts ks) (tx [c])).bind F__law_read_2) (fun o => if badK m c = true then ∃ r', o = .rt .none r' else goesOn (· = stR l m mid ts (ks ++ [knO c])) o) := by
  unfold F__law_read_2 stR
  by_cases hc : c ∈ figs m
  · have b := (mem_figs hm).mp hc
    have i := int_one (x := c) (by omega)
    have d := decide_eq_true hc
    have bd : badK m c = false := by simp [badK, b]
    rw [bd]
    simp_arith [d, i]
    refine wp_ok ?_
    simp [goesOn, knO]
  · have d := decide_eq_false hc
    have bd : badK m c = true := by
      rw [mem_figs hm] at hc
      simp only [badK, decide_eq_false hc]
      simp
    rw [bd]
    simp_arith [d]
    exact wp_ok ⟨_, rfl⟩
end
theorem foldl_snoc {α β : Type} (f : α → β) : ∀ (as : List α) (s : List β), as.foldl (fun s a => s ++ [f a]) s = s ++ as.map f
  | [], s => by simp
  | a :: as, s => by rw [List.foldl_cons, foldl_snoc f as]; simp
/-- what the law's hand reads -/
def okR (m : Nat) (p q : List Nat) : Bool := !(psOf p).any (badP m) && (!q.any (badK m) && (!decide (q.map knO = []) && ((decide ((psOf p).map tieO = canonP ((psOf p).map tieO)) && decide ((((psOf p).map tieO).length : Int) ≤ 9)) && (decide (q.map knO = GT.sortI (dedup (q.map knO))) && decide (((q.map knO).length : Int) ≤ 7)))))
def readR (m : Nat) (p q : List Nat) : D := if okR m p q = true then encW m ((psOf p).map tieO) (q.map knO) else .none
set_option maxHeartbeats 8000000 in
theorem read_C {l : List Nat} {m : Nat} {p q : List Nat} (hm : 1 ≤ m ∧ m ≤ 7) (hl : l.length = p.length + q.length + 3) (h4 : 1 ≤ p.length + q.length) (h3 : p.length + q.length ≤ 500) (okp : okN p = true)
    (a0 : atI l 0 = some (48 + m)) (a1 : atI l 1 = some 59) (ct : l.count 59 = 2) (c2 : cutD l (some 2) none = p ++ 59 :: q) (c3 : cutD l (some 2) (some ((p.length : Int) + 2)) = p) (c4 : cutD l (some ((p.length : Int) + 2 + 1)) none = q)
    (hp : 59 ∉ p) : g__law_read [tx l] = some (readR m p q) := by
  have s7 : PyData.str (Str.ofString "1234567") = tx [49, 50, 51, 52, 53, 54, 55] := congrArg PyData.str (by decide +kernel : Str.ofString "1234567" = mkS [49, 50, 51, 52, 53, 54, 55])
  have s0 : PyData.str (Str.ofString "0123456") = tx [48, 49, 50, 51, 52, 53, 54] := congrArg PyData.str (by decide +kernel : Str.ofString "0123456" = mkS [48, 49, 50, 51, 52, 53, 54])
  have k1 : decide ((l.length : Int) < 4) = false := decide_eq_false (by omega)
  have k2 : decide (48 + m ∈ [49, 50, 51, 52, 53, 54, 55]) = true := decide_eq_true (by simp; omega)
  have k3 := ne_tx (a := [59]) (b := [59]) rfl rfl
  have k4 : (((l.count 59 : Nat) : Int) == 2) = true := by rw [ct]; rfl
  have i0 : intSD (tx [48 + m]) = some (.int m) := by
    have := int_one (x := 48 + m) (by omega)
    rwa [show 48 + m - 48 = m by omega] at this
  have cf : cutD [48, 49, 50, 51, 52, 53, 54] none (some (m : Int)) = figs m := DL.cut_to _ m
  have fi := firstIx_app q hp
  refine wp_val ?_
  unfold g__law_read b__law_read N__law_read
  simp_arith [-L_k15.Sq__law_read_6_a, s7, s_semi, k1, a0, k2, a1, k3, k4]
  simp_arith [-L_k15.Sq__law_read_6_a, i0, s0, c2, cf, fi]
  have goal : ∀ (ds : List D), ds = (psOf p).map tx → wp ((forL (nameG 4) F__law_read_1 ds (stR l m ((p.length : Int) + 2) [] [])).bind fun o => (seqK Sq__law_read_5 o).bind finF) (· = readR m p q) := by
    intro ds e
    subst e
    have pl := psOf_len p
    refine wp_fret (fun ts => stR l m ((p.length : Int) + 2) ts []) (fun ts p => ts ++ [tieO p]) (badP m) .none (psOf p) [] (fun pre a post h => ?_) (fun h r' => ?_) (fun h => ?_)
    · rw [foldl_snoc, List.nil_append]
      have hp : pre.length ≤ 501 := by
        have := congrArg List.length h
        simp at this
        omega
      have ha : a.length ≤ p.length := by
        have ma : a ∈ psOf p := by rw [h]; simp
        unfold psOf at ma
        split at ma
        · simp at ma
        · exact splitN_mem_len 44 p a ma
      exact piece_turn hm.2 (by omega) (by rw [List.length_map]; omega)
    · have : readR m p q = .none := by
        unfold readR okR
        rw [h]; simp
      rw [this]
      simp_arith [DL.p_nt]
      exact wp_ok rfl
    · rw [foldl_snoc, List.nil_append]
      simp_arith [-L_k15.Sq__law_read_4_a, c4]
      refine wp_fret (fun ks => stR l m ((p.length : Int) + 2) ((psOf p).map tieO) ks) (fun ks c => ks ++ [knO c]) (badK m) .none q [] (fun pre a post h => ?_) (fun h2 r' => ?_) (fun h2 => ?_)
      · rw [foldl_snoc, List.nil_append]
        have hp : pre.length ≤ 501 := by
          have := congrArg List.length h
          simp at this
          omega
        exact sign_turn hm.2 (by rw [List.length_map]; omega)
      · have : readR m p q = .none := by
          unfold readR okR
          rw [h, h2]; simp
        rw [this]
        simp_arith [DL.p_nt]
        exact wp_ok rfl
      · rw [foldl_snoc, List.nil_append]
        have few : (dedup (q.map knO)).length ≤ 7 := by
          have := nodup_len_le (dedup (q.map knO)) (ir 7) (dedup_nodup _) fun x mx => by
            obtain ⟨c, mc, rfl⟩ := List.mem_map.mp (mem_dedup.mp mx)
            have hc : badK m c = false := by
              rw [List.any_eq_false] at h2
              simpa using h2 c mc
            simp only [badK, Bool.not_eq_false', decide_eq_true_eq] at hc
            refine mem_ir.mpr ?_
            unfold knO
            omega
          rw [ir_len] at this
          exact this
        have r1 := rise_T (ts := (psOf p).map tieO) 9 (by rw [List.length_map]; omega)
        have r2 := rise_I (ks := q.map knO) 7 (by rw [List.length_map]; omega) (by omega)
        have e : readR m p q = if (!decide (q.map knO = []) && ((decide ((psOf p).map tieO = canonP ((psOf p).map tieO)) && decide ((((psOf p).map tieO).length : Int) ≤ 9)) && (decide (q.map knO = GT.sortI (dedup (q.map knO))) && decide (((q.map knO).length : Int) ≤ 7)))) = true then encW m ((psOf p).map tieO) (q.map knO) else .none := by
          unfold readR okR
          rw [h, h2]
          simp
        rw [e]
        revert r1 r2
        generalize (decide ((psOf p).map tieO = canonP ((psOf p).map tieO)) && decide ((((psOf p).map tieO).length : Int) ≤ 9)) = b1
        generalize (decide (q.map knO = GT.sortI (dedup (q.map knO))) && decide (((q.map knO).length : Int) ≤ 7)) = b2
        intro r1 r2
        cases e0 : decide (q.map knO = []) with
        | true =>
          simp_arith [e0]
          exact wp_ok (by simp)
        | false =>
          cases b1 with
          | false =>
            simp_arith [e0, r1]
            exact wp_ok (by simp)
          | true =>
            cases b2 with
            | false =>
              simp_arith [e0, r1, r2]
              exact wp_ok (by simp)
            | true =>
              simp_arith [e0, r1, r2]
              exact wp_ok (by simp)
  by_cases e1 : p = []
  · have d : decide ((2 : Int) < (p.length : Int) + 2) = false := decide_eq_false (by rw [e1]; simp)
    have g := goal [] (by rw [e1]; rfl)
    simp_arith [-L_k15.Sq__law_read_5_a, d]
    exact g
  · have d : decide ((2 : Int) < (p.length : Int) + 2) = true := decide_eq_true (by have := List.length_pos_iff.mpr e1; omega)
    have sv : splitV (tx p) (tx [44]) = some ((splitN 44 p).map tx) := splitV_tx _ _ (by omega)
    have g := goal ((splitN 44 p).map tx) (by rw [psOf, if_neg e1])
    simp_arith [-L_k15.Sq__law_read_5_a, d, c3, s_comma, sv]
    exact g
end L_k15
namespace L_k15
open PySem L2 DL GT PG FA RX
theorem tieO_piece {t : Tie} (h : (0 ≤ t.1 ∧ t.1 < 10) ∧ 0 ≤ t.2 ∧ t.2 < 10) : tieO (pieceT t) = t := by
  show ((((48 + t.1.toNat) - 48 : Nat) : Int), (((48 + t.2.toNat) - 48 : Nat) : Int)) = t
  obtain ⟨a, b⟩ := t
  simp only at h ⊢
  congr 1 <;> omega
theorem good_piece {m : Nat} {p : List Nat} (h : badP m p = false) : pieceT (tieO p) = p ∧ 0 ≤ (tieO p).1 ∧ (tieO p).1 < (tieO p).2 ∧ (tieO p).2 < m := by
  unfold badP at h
  split at h
  · rename_i x y
    simp only [Bool.not_eq_false', Bool.and_eq_true, decide_eq_true_eq] at h
    refine ⟨?_, ?_⟩
    · show [48 + ((x - 48 : Nat) : Int).toNat, 48 + ((y - 48 : Nat) : Int).toNat] = [x, y]
      congr 1
      · omega
      · congr 1; omega
    · show 0 ≤ ((x - 48 : Nat) : Int) ∧ ((x - 48 : Nat) : Int) < ((y - 48 : Nat) : Int) ∧ ((y - 48 : Nat) : Int) < m
      omega
  · cases h
theorem okR_net {m : Nat} {p q : List Nat} (hm : 1 ≤ m ∧ m ≤ 7) (h : okR m p q = true) : ∃ N : Net, Neat N ∧ (48 + m) :: 59 :: (p ++ 59 :: q) = wr N ∧ readR m p q = encN N := by
  have hr : readR m p q = encW m ((psOf p).map tieO) (q.map knO) := if_pos h
  unfold okR at h
  simp only [Bool.and_eq_true, Bool.not_eq_true', decide_eq_true_eq, decide_eq_false_iff_not, List.any_eq_false] at h
  obtain ⟨h1, h2, h3, ⟨h4, h5⟩, h6, h7⟩ := h
  have g1 : ∀ x ∈ psOf p, badP m x = false := fun x mx => by simpa using h1 x mx
  have g2 : ∀ c ∈ q, 48 ≤ c ∧ c < 48 + m := fun c mc => by
    have := h2 c mc
    simpa [badK] using this
  have up : ((psOf p).map tieO).Pairwise tlt := by rw [h4]; exact up_canonP _
  have upk : (q.map knO).Pairwise (· < ·) := sort_dedup_iff.mp h6
  refine ⟨⟨m, (psOf p).map tieO, q.map knO⟩, ⟨⟨hm.1, hm.2, fun t mt => ?_, up, fun k mk => ?_, upk⟩, ?_, h3⟩, ?_, hr⟩
  · obtain ⟨x, mx, rfl⟩ := List.mem_map.mp mt
    exact (good_piece (g1 x mx)).2
  · obtain ⟨c, mc, rfl⟩ := List.mem_map.mp mk
    have := g2 c mc
    show 0 ≤ knO c ∧ knO c < (m : Int)
    unfold knO
    omega
  · show ((psOf p).map tieO).length ≤ 9
    omega
  · rw [wr_three]
    show _ = (48 + (m : Int).toNat) :: 59 :: (midT ((psOf p).map tieO) ++ 59 :: endT (q.map knO))
    have e1 : midT ((psOf p).map tieO) = p := by
      unfold midT
      rw [List.map_map, show (psOf p).map (pieceT ∘ tieO) = psOf p from ?_, psOf_join]
      conv => rhs; rw [← List.map_id (psOf p)]
      exact List.map_congr_left fun x mx => (good_piece (g1 x mx)).1
    have e2 : endT (q.map knO) = q := by
      unfold endT
      rw [List.map_map]
      conv => rhs; rw [← List.map_id q]
      refine List.map_congr_left fun c mc => ?_
      have := g2 c mc
      show 48 + (((c - 48 : Nat) : Int)).toNat = c
      omega
    rw [e1, e2]
    congr 1
theorem net_okR {N : Net} (h : Neat N) : okR N.n (midT N.ties) (endT N.rim) = true := by
  obtain ⟨f1, f2, f3⟩ := neat_fig h
  have r7 := neat_rim7 h
  have e1 : (psOf (midT N.ties)).map tieO = N.ties := by
    rw [psOf_mid f2, List.map_map]
    conv => rhs; rw [← List.map_id N.ties]
    exact List.map_congr_left fun t mt => tieO_piece (f2 t mt)
  have e2 : (endT N.rim).map knO = N.rim := by
    unfold endT
    rw [List.map_map]
    conv => rhs; rw [← List.map_id N.rim]
    refine List.map_congr_left fun k mk => ?_
    have := f3 k mk
    show (((48 + k.toNat) - 48 : Nat) : Int) = k
    omega
  unfold okR
  rw [e1, e2]
  simp only [Bool.and_eq_true, Bool.not_eq_true', decide_eq_true_eq, decide_eq_false_iff_not, List.any_eq_false]
  refine ⟨fun x mx => ?_, fun c mc => ?_, h.rn, ⟨(canon_ties h.w.up fun _ => Iff.rfl).symm, ?_⟩, sort_dedup_iff.mpr h.w.rimUp, ?_⟩
  · rw [psOf_mid f2] at mx
    obtain ⟨t, mt, rfl⟩ := List.mem_map.mp mx
    have w := h.w.tie t mt
    have : badP N.n (pieceT t) = false := by
      show (!(decide (48 ≤ 48 + t.1.toNat ∧ 48 + t.1.toNat < 48 + N.n) && (decide (48 ≤ 48 + t.2.toNat ∧ 48 + t.2.toNat < 48 + N.n) && decide (48 + t.1.toNat < 48 + t.2.toNat)))) = false
      rw [decide_eq_true (by omega), decide_eq_true (by omega), decide_eq_true (by omega)]
      rfl
    rw [this]; simp
  · obtain ⟨k, mk, rfl⟩ := List.mem_map.mp mc
    have w := h.w.rimIn k mk
    unfold badK
    rw [decide_eq_true (by omega)]
    simp
  · have := h.t9
    omega
  · omega
theorem wr_four {N : Net} (h : Neat N) : 4 ≤ (wr N).length := by
  rw [wr_three]
  have : 1 ≤ (endT N.rim).length := by
    rw [endT, List.length_map]
    exact List.length_pos_iff.mpr h.rn
  simp only [List.length_cons, List.length_append]
  omega
set_option maxHeartbeats 8000000 in
/-- of any text: the net whose text it is, or None -/
theorem lread_any {l : List Nat} (hl : l.length ≤ 400) (okl : okN l = true) : (∃ N : Net, Neat N ∧ l = wr N ∧ g__law_read [tx l] = some (encN N)) ∨ ((∀ N : Net, Neat N → l ≠ wr N) ∧ g__law_read [tx l] = some .none) := by
  have s7 : PyData.str (Str.ofString "1234567") = tx [49, 50, 51, 52, 53, 54, 55] := congrArg PyData.str (by decide +kernel : Str.ofString "1234567" = mkS [49, 50, 51, 52, 53, 54, 55])
  by_cases k1 : l.length < 4
  · refine .inr ⟨fun N h e => ?_, ?_⟩
    · have := wr_four h
      rw [← e] at this
      omega
    · have d1 : decide ((l.length : Int) < 4) = true := decide_eq_true (by omega)
      unfold g__law_read b__law_read N__law_read
      simp_arith [-L_k15.Sq__law_read_10_a, d1]
  · have d1 : decide ((l.length : Int) < 4) = false := decide_eq_false (by omega)
    obtain ⟨a, b, rest, e0⟩ : ∃ a b rest, l = a :: b :: rest := by
      match l, k1 with
      | [], h => simp at h
      | [_], h => simp at h
      | a :: b :: r, _ => exact ⟨a, b, r, rfl⟩
    have a0 : atI l 0 = some a := by rw [e0]; exact DL.atI_c0 ..
    have a1 : atI l 1 = some b := by rw [e0]; exact DL.atI_c1 ..
    by_cases k2 : a ∈ [49, 50, 51, 52, 53, 54, 55]
    · have d2 := decide_eq_true k2
      have ba : 49 ≤ a ∧ a ≤ 55 := by simp at k2; omega
      have d3 := ne_tx (a := [b]) (b := [59]) (by
        unfold okN at okl ⊢
        rw [List.all_eq_true] at okl ⊢
        intro c m
        rw [List.mem_singleton] at m
        subst m
        exact okl c (by rw [e0]; simp)) rfl
      by_cases k3 : b = 59
      · subst k3
        rw [decide_eq_true rfl] at d3
        by_cases k4 : l.count 59 = 2
        · have ct : rest.count 59 = 1 := by
            rw [e0, List.count_cons_of_ne (by omega), List.count_cons_self] at k4
            omega
          obtain ⟨p, q, e1, np, nq⟩ := count_split ct
          subst e1
          have okp : okN p = true := by
            unfold okN at okl ⊢
            rw [List.all_eq_true] at okl ⊢
            intro c m
            exact okl c (by rw [e0]; simp [m])
          have ln : l.length = p.length + q.length + 3 := by rw [e0]; simp; omega
          obtain ⟨m, rfl⟩ : ∃ m, a = 48 + m := ⟨a - 48, by omega⟩
          have hm : 1 ≤ m ∧ m ≤ 7 := by omega
          have c2 : cutD l (some 2) none = p ++ 59 :: q := by
            rw [show (2 : Int) = ((2 : Nat) : Int) from rfl, DL.cut_from, e0]; rfl
          have c4 : cutD l (some ((p.length : Int) + 2 + 1)) none = q := by
            rw [show ((p.length : Int) + 2 + 1) = ((p.length + 3 : Nat) : Int) by omega, DL.cut_from, e0]
            rw [show p.length + 3 = (p.length + 1) + 1 + 1 from rfl, List.drop_succ_cons, List.drop_succ_cons]
            rw [List.drop_append]
            simp
          have c3 : cutD l (some 2) (some ((p.length : Int) + 2)) = p := by
            unfold cutD
            rw [show (2 : Int) = ((2 : Nat) : Int) from rfl, show ((p.length : Int) + ((2 : Nat) : Int)) = ((p.length + 2 : Nat) : Int) by omega, HT.sIx_nat, HT.sIx_nat]
            rw [show min 2 l.length = 2 by omega, show min (p.length + 2) l.length = p.length + 2 by omega, e0]
            show ((p ++ 59 :: q).take (p.length + 2 - 2)) = p
            rw [show p.length + 2 - 2 = p.length by omega]
            simp
          have rd := read_C hm ln (by omega) (by omega) okp a0 a1 k4 c2 c3 c4 np
          cases ok : okR m p q with
          | true =>
            obtain ⟨N, nN, e2, e3⟩ := okR_net hm ok
            exact .inl ⟨N, nN, by rw [e0]; exact e2, by rw [rd, e3]⟩
          | false =>
            have e3 : readR m p q = .none := by unfold readR; rw [ok]; rfl
            refine .inr ⟨fun N nN e => ?_, by rw [rd, e3]⟩
            rw [e0] at e
            obtain ⟨h1, h2, h3⟩ := wr_parts nN e np nq
            have : okR m p q = true := by
              rw [h2, h3, show m = N.n by omega]
              exact net_okR nN
            rw [this] at ok
            cases ok
        · refine .inr ⟨fun N h e => k4 (by rw [e]; exact wr_semis h), ?_⟩
          have d4 : (((l.count 59 : Nat) : Int) == 2) = false := by rw [beq_eq_false_iff_ne]; omega
          unfold g__law_read b__law_read N__law_read
          simp_arith [-L_k15.Sq__law_read_10_a, s7, s_semi, d1, a0, d2, a1, d3, d4]
      · refine .inr ⟨fun N h e => ?_, ?_⟩
        · obtain ⟨x, c, r, e2, _⟩ := wr_first h
          rw [e0, e2] at e
          injection e with _ e
          injection e with e
          exact k3 e
        · have : decide ([b] = [59]) = false := decide_eq_false (by simpa using k3)
          rw [this] at d3
          unfold g__law_read b__law_read N__law_read
          simp_arith [-L_k15.Sq__law_read_10_a, s7, s_semi, d1, a0, d2, a1, d3]
    · refine .inr ⟨fun N h e => ?_, ?_⟩
      · obtain ⟨x, c, r, e2, b1, b2, _⟩ := wr_first h
        rw [e0, e2] at e
        injection e with e
        exact k2 (by simp; omega)
      · have d2 := decide_eq_false k2
        unfold g__law_read b__law_read N__law_read
        simp_arith [-L_k15.Sq__law_read_10_a, s7, s_semi, d1, a0, d2]
end L_k15
local macro_rules | `(tactic| simp_arith [$xs,*]) => `(tactic| simp (maxSteps := 2000000) (disch := omega) only [DL.ob_some, DL.om_some, DL.dat_d, DL.lis_l, DL.dic_m, DL.gt_0, DL.gt_1, DL.gt_2, DL.gt_3, DL.gt_4, DL.gt_5, DL.gt_6, DL.gt_7, DL.gt_b, DL.st_0, DL.st_s, DL.plG_d, DL.plG_n, DL.plainAt_a, DL.varM_a, DL.ownM_a, DL.cM_a, DL.ofL_a, DL.opM_a, DL.unM_a, DL.truM_a, DL.tstM_a, DL.notM_a, DL.cnd_t, DL.cnd_f, DL.andM_a, DL.orM_a, DL.andVM_a, DL.notVM_a, DL.iteM_a, DL.chM_a, DL.nilM_a, DL.consM_a, DL.guard_tt, DL.tupM_a, DL.lstM_a, DL.noM_a, DL.intV_i, DL.someM_a, DL.slM_a, DL.rng1M_a, DL.rng2M_a, DL.zipV_t, DL.zipV_l, DL.zipM_a, DL.seqM_a, DL.callM_a, DL.hereM_a, DL.callRM_a, DL.appM_a, DL.lisV_l, DL.catOwnM_a, DL.newDM_a, DL.putM_a, DL.lenDM_a, DL.sortDM_a, DL.nameG_a, DL.nilG_a, DL.consG_a, DL.tupG_a, DL.seqS_a, DL.seqK_nx, DL.seqK_rt, DL.seqK_ct, DL.skipM_a, DL.asgM_a, DL.asgG_a, DL.newM_a, DL.asgLM_a, DL.retM_a, DL.exprM_a, DL.ifM_a, DL.forM_a, DL.runF_a, DL.finF_rt, DL.finF_nx, DL.runR_a, DL.finR_rt, DL.finR_nx, DL.sz_0, DL.sz_1, DL.sz_2, DL.sz_3, DL.sz_4, DL.sz_5, DL.sz_6, DL.sz_7, DL.sz_8, DL.sz_9, DL.sz_10, DL.sz_11, DL.sz_12, DL.sz_13, DL.sz_14, DL.sz_15, DL.sz_16, DL.sz_17, DL.sz_18, DL.sz_19, DL.sz_20, DL.sz_21, DL.sz_22, DL.sz_23, DL.sz_24, DL.sz_25, DL.sz_26, DL.sz_27, DL.sz_28, DL.sz_29, DL.sz_30, DL.nc_0, DL.nc_1, DL.nc_2, DL.nc_3, DL.nc_4, DL.nc_5, DL.nc_6, DL.nc_7, DL.nc_8, DL.nc_9, DL.nc_10, DL.nc_11, DL.nc_12, DL.nc_13, DL.nc_14, DL.nc_15, DL.nc_16, DL.nc_17, DL.nc_18, DL.nc_19, DL.nc_20, DL.nc_21, DL.nc_22, DL.nc_23, DL.nc_24, DL.nc_25, DL.nc_26, DL.nc_27, DL.nc_28, DL.nc_29, DL.nc_30, DL.addD_i, DL.addD_t, DL.addD_l, DL.subD_i, DL.modD_i, DL.fdivD_i, DL.mulD_i, DL.lenD_t, DL.lenD_l, DL.tupleD_t, DL.tupleD_l, DL.listD_t, DL.listD_l, DL.truD_i, DL.truD_b, DL.truD_n, DL.truD_l, DL.truD_t, DL.ixD_t, DL.ixD_l, DL.negD_i, DL.bD_a, DL.ltB_i, DL.leB_i, DL.eqB_i, DL.neB_i, DL.items_t, DL.items_l, DL.intD_b, DL.isNN, DL.slD_t, DL.slD_l, DL.p_ge0, DL.p_geS, DL.p_tk0, DL.p_tkS, DL.p_tkN, DL.p_dr0, DL.p_drS, DL.p_drN, DL.p_mpC, DL.p_mpN, DL.p_apC, DL.p_apN, DL.p_lnC, DL.p_lnN, DL.p_rpS, DL.p_rp0, DL.p_alC, DL.p_alN, DL.p_gdS, DL.p_gdN, DL.p_tlS, DL.p_tlN, DL.p_ieC, DL.p_ieN, DL.p_nt, DL.p_nf, DL.p_atb, DL.p_afb, DL.p_abt, DL.p_abf, DL.p_eqS, DL.p_dT, DL.p_dF, DL.p_TA, DL.p_AT, DL.p_TO, DL.p_OT, DL.p_startD, DL.p_startR, DL.forK_nx, DL.forK_ct, DL.forK_rt, DL.yesM_a, DL.it1_a, DL.compM_a, DL.wipeR_c, DL.wipeR_n, DL.restR_c, DL.restR_n, DL.gtD_i, DL.gtD_T, DL.ob_assoc, DL.om_bind, DL.ob_map, DL.om_map, DL.cnd_bind, DL.cnd_map, DL.guard_bind, DL.guard_map, DL.atI_c0, DL.atI_c1, DL.atI_c2, DL.atI_c3, DL.encN_0, DL.encN_1, DL.encN_2, DL.encN_u, DL.revD_t, DL.revD_l, DL.eq_TI, DL.ne_TI, DL.enumM_a, DL.exM_a, DL.seqK_ex, DL.finF_ex, DL.forK_ex, DL.tri_no, DL.trm_no, DL.atI_neg1, DL.wipO_nx, DL.wipO_ct, DL.wipO_bk, DL.wipO_rt, DL.wipO_ex, DL.wipM_a, DL.preM_a, DL.two_a, DL.finR_ex, DL.len_map, DL.len_app, DL.len_ir, DL.len_rev, DL.sz_c, DL.rng_c, DL.rngL_n, DL.forM_a', DL.rev_map, DL.seqK_bk, DL.forK_bk, DL.enum_m, DL.emp_map, PG.Sq_written_1_a, PG.Sq_tie_in_1_a, PG.Sq_read_1_a, PG.Sq_read_2_a, PG.Sq_read_3_a, PG.Sq_read_4_a, DL.eq_LI, DL.ne_LI, DL.eq_LI0, DL.ne_LI0, DL.eq_LT, DL.ne_LT, DL.eq_LR, DL.ne_LR, DL.eq_TR, DL.ne_TR, DL.eq_B, DL.ne_B, DL.wp_mapE, DL.sortDict_map, DL.map_id_int, DL.cut_f, DL.cut_t, DL.cut_f1, DL.map_drop', DL.map_take', DL.map_app', DL.len_zip, DL.dkOf_i, DL.keyOf_i, PG.allD_map', PG.enum_ir, PG.eq_BB, PG.ne_BB, DL.runX_a, DL.finX_rt, DL.finX_ex, DL.tryM_a, DL.tryK_ok, DL.tryK_er, DL.finX_nx, DL.isN_i, DL.rngL_g1, Nat.reduceAdd, Nat.reduceSub, Nat.reduceMul, Int.reduceLT, Int.reduceLE, Int.reducePow, Int.reduceNeg, Int.reduceAdd, Int.reduceSub, Int.reduceMul, Int.reduceBEq, Int.reduceBNe, Int.reduceToNat, $xs,*])
namespace FA
open PySem L2 DL GT PG RX
theorem okD_2 {k : Nat} {a b : D} (h1 : okD k a = true) (h2 : okD k b = true) : okD (k + 1) (.tuple [a, b]) = true := by
  have := okD_map (f := id) (k := k) (xs := [a, b]) (by simp) (by
    intro x m
    simp at m
    rcases m with rfl | rfl
    · exact h1
    · exact h2)
  simpa using this
theorem okD_T {k : Nat} (ts : List Tie) (h : ts.length ≤ 100000) (hk : 2 ≤ k) : okD k (.tuple (ts.map encT)) = true := by
  obtain ⟨j, rfl⟩ : ∃ j, k = j + 1 := ⟨k - 1, by omega⟩
  exact okD_map h fun t _ => by
    obtain ⟨i, rfl⟩ : ∃ i, j = i + 1 := ⟨j - 1, by omega⟩
    exact okD_2 (okD_I i t.1) (okD_I i t.2)
end FA
local macro_rules | `(tactic| simp_arith [$xs,*]) => `(tactic| simp (maxSteps := 2000000) (disch := omega) only [PG.Sq_written_1_a, PG.Sq_tie_in_1_a, PG.Sq_read_1_a, PG.Sq_read_2_a, PG.Sq_read_3_a, PG.Sq_read_4_a, PG.Sqx_tie_in_1_a, PG.Sqx_read_1_a, PG.Sqx_read_2_a, PG.Sqx_read_3_a, PG.Sqx_read_4_a, L_k15.Sq__law_told_1_a, L_k15.Sq__law_say_1_a, L_k15.Sq__law_say_2_a, L_k15.Sq__law_say_3_a, L_k15.Sq__law_read_1_a, L_k15.Sq__law_read_2_a, L_k15.Sq__law_read_3_a, L_k15.Sq__law_read_4_a, L_k15.Sq__law_read_5_a, L_k15.Sq__law_read_6_a, L_k15.Sq__law_read_7_a, L_k15.Sq__law_read_8_a, L_k15.Sq__law_read_9_a, L_k15.Sq__law_read_10_a, L_k15.Sq_law_1_a, L_k15.Sq_law_2_a, L_k15.Sq_law_3_a, L_k15.Sq_law_4_a, L_k15.Sq_law_5_a, L_k15.Sq_law_6_a, L_k15.Sq_law_7_a, L_k15.Sq_law_8_a, L_k15.Sq_law_9_a, L_k15.Sq_law_10_a, L_k15.Sq_law_11_a, L_k15.Sq_law_12_a, DL.ob_some, DL.om_some, DL.dat_d, DL.lis_l, DL.dic_m, DL.gt_0, DL.gt_1, DL.gt_2, DL.gt_3, DL.gt_4, DL.gt_5, DL.gt_6, DL.gt_7, DL.gt_b, DL.st_0, DL.st_s, DL.plG_d, DL.plG_n, DL.plainAt_a, DL.varM_a, DL.ownM_a, DL.cM_a, DL.ofL_a, DL.opM_a, DL.unM_a, DL.truM_a, DL.tstM_a, DL.notM_a, DL.cnd_t, DL.cnd_f, DL.andM_a, DL.orM_a, DL.andVM_a, DL.notVM_a, DL.iteM_a, DL.chM_a, DL.nilM_a, DL.consM_a, DL.guard_tt, DL.tupM_a, DL.lstM_a, DL.noM_a, DL.intV_i, DL.someM_a, DL.slM_a, DL.rng1M_a, DL.rng2M_a, DL.zipV_t, DL.zipV_l, DL.zipM_a, DL.seqM_a, DL.callM_a, DL.hereM_a, DL.callRM_a, DL.appM_a, DL.lisV_l, DL.catOwnM_a, DL.newDM_a, DL.putM_a, DL.lenDM_a, DL.sortDM_a, DL.nameG_a, DL.nilG_a, DL.consG_a, DL.tupG_a, DL.seqS_a, DL.seqK_nx, DL.seqK_rt, DL.seqK_ct, DL.skipM_a, DL.asgM_a, DL.asgG_a, DL.newM_a, DL.asgLM_a, DL.retM_a, DL.exprM_a, DL.ifM_a, DL.forM_a, DL.runF_a, DL.finF_rt, DL.finF_nx, DL.runR_a, DL.finR_rt, DL.finR_nx, DL.sz_0, DL.sz_1, DL.sz_2, DL.sz_3, DL.sz_4, DL.sz_5, DL.sz_6, DL.sz_7, DL.sz_8, DL.sz_9, DL.sz_10, DL.sz_11, DL.sz_12, DL.sz_13, DL.sz_14, DL.sz_15, DL.sz_16, DL.sz_17, DL.sz_18, DL.sz_19, DL.sz_20, DL.sz_21, DL.sz_22, DL.sz_23, DL.sz_24, DL.sz_25, DL.sz_26, DL.sz_27, DL.sz_28, DL.sz_29, DL.sz_30, DL.nc_0, DL.nc_1, DL.nc_2, DL.nc_3, DL.nc_4, DL.nc_5, DL.nc_6, DL.nc_7, DL.nc_8, DL.nc_9, DL.nc_10, DL.nc_11, DL.nc_12, DL.nc_13, DL.nc_14, DL.nc_15, DL.nc_16, DL.nc_17, DL.nc_18, DL.nc_19, DL.nc_20, DL.nc_21, DL.nc_22, DL.nc_23, DL.nc_24, DL.nc_25, DL.nc_26, DL.nc_27, DL.nc_28, DL.nc_29, DL.nc_30, DL.addD_i, DL.addD_t, DL.addD_l, DL.subD_i, DL.modD_i, DL.fdivD_i, DL.mulD_i, DL.lenD_t, DL.lenD_l, DL.tupleD_t, DL.tupleD_l, DL.listD_t, DL.listD_l, DL.truD_i, DL.truD_b, DL.truD_n, DL.truD_l, DL.truD_t, DL.ixD_t, DL.ixD_l, DL.negD_i, DL.bD_a, DL.ltB_i, DL.leB_i, DL.eqB_i, DL.neB_i, DL.items_t, DL.items_l, DL.intD_b, DL.isNN, DL.slD_t, DL.slD_l, DL.p_ge0, DL.p_geS, DL.p_tk0, DL.p_tkS, DL.p_tkN, DL.p_dr0, DL.p_drS, DL.p_drN, DL.p_mpC, DL.p_mpN, DL.p_apC, DL.p_apN, DL.p_lnC, DL.p_lnN, DL.p_rpS, DL.p_rp0, DL.p_alC, DL.p_alN, DL.p_gdS, DL.p_gdN, DL.p_tlS, DL.p_tlN, DL.p_ieC, DL.p_ieN, DL.p_nt, DL.p_nf, DL.p_atb, DL.p_afb, DL.p_abt, DL.p_abf, DL.p_eqS, DL.p_dT, DL.p_dF, DL.p_TA, DL.p_AT, DL.p_TO, DL.p_OT, DL.p_startD, DL.p_startR, DL.forK_nx, DL.forK_ct, DL.forK_rt, DL.yesM_a, DL.it1_a, DL.compM_a, DL.wipeR_c, DL.wipeR_n, DL.restR_c, DL.restR_n, DL.gtD_i, DL.gtD_T, DL.ob_assoc, DL.om_bind, DL.ob_map, DL.om_map, DL.cnd_bind, DL.cnd_map, DL.guard_bind, DL.guard_map, DL.atI_c0, DL.atI_c1, DL.atI_c2, DL.atI_c3, DL.encN_0, DL.encN_1, DL.encN_2, DL.encN_u, DL.revD_t, DL.revD_l, DL.eq_TI, DL.ne_TI, DL.enumM_a, DL.exM_a, DL.seqK_ex, DL.finF_ex, DL.forK_ex, DL.tri_no, DL.trm_no, DL.atI_neg1, DL.wipO_nx, DL.wipO_ct, DL.wipO_bk, DL.wipO_rt, DL.wipO_ex, DL.wipM_a, DL.preM_a, DL.two_a, DL.finR_ex, DL.len_map, DL.len_app, DL.len_ir, DL.len_rev, DL.sz_c, DL.rng_c, DL.rngL_n, DL.forM_a', DL.rev_map, DL.seqK_bk, DL.forK_bk, DL.enum_m, DL.emp_map, DL.eq_LI, DL.ne_LI, DL.eq_LI0, DL.ne_LI0, DL.eq_LT, DL.ne_LT, DL.eq_LR, DL.ne_LR, DL.eq_TR, DL.ne_TR, DL.eq_B, DL.ne_B, DL.wp_mapE, DL.sortDict_map, DL.map_id_int, DL.cut_f, DL.cut_t, DL.cut_f1, DL.map_drop', DL.map_take', DL.map_app', DL.len_zip, DL.dkOf_i, DL.keyOf_i, PG.allD_map', PG.enum_ir, PG.eq_BB, PG.ne_BB, DL.runX_a, DL.finX_rt, DL.finX_ex, DL.tryM_a, DL.tryK_ok, DL.tryK_er, DL.finX_nx, DL.isN_i, DL.rngL_g1, DL.eq_NN, DL.ne_NN, DL.eq_TT, DL.ne_TT, DL.eq_TT0, DL.ne_TI0, DL.eq_TI0, DL.fmtM_a, DL.jsM_a, DL.jsL_nil, DL.strV_s, DL.jsL_cons, DL.splitM_a, DL.inSB_tx, DL.notInSB_tx, DL.seqSM_a, DL.signsOf_tx, DL.lenD_tx, DL.ixD_tx, DL.addD_tx, DL.mkS_app', DL.empty_app, DL.mkS_length, DL.okx_a, DL.okK_a, DL.nilx_a, DL.thenX_err, DL.thenX_ok, DL.consx_a, DL.callx_a, DL.tupx_a, DL.ofx_a, DL.unx_a, DL.putK_err, DL.putK_ok, DL.retK_err, DL.retK_ok, DL.asgx_a, DL.retx_a, DL.slD_tx, DL.mulSD_0, DL.mulSD_1, DL.countSD_tx, DL.indexSD_tx, DL.revSD_tx, DL.geSB_tx, Nat.reduceAdd, Nat.reduceSub, Nat.reduceMul, Int.reduceLT, Int.reduceLE, Int.reducePow, Int.reduceNeg, Int.reduceAdd, Int.reduceSub, Int.reduceMul, Int.reduceBEq, Int.reduceBNe, Int.reduceToNat, $xs,*])
namespace L_k15
open PySem L2 DL GT PG FA RX
theorem okD_net {k : Nat} (N : Net) (h1 : N.ties.length ≤ 1000) (h2 : N.rim.length ≤ 1000) : okD (k + 4) (encN N) = true := by
  have a1 := okD_T (k := k + 3) N.ties (by omega) (by omega)
  have a2 := okD_TI (k := k + 3) (by omega) N.rim (by omega)
  unfold encN
  simp only [okD, List.length_cons, List.length_nil, List.all_cons, List.all_nil] at a1 a2 ⊢
  rw [a1, a2]
  simp
theorem okD_tx {l : List Nat} (h : okN l = true) : okD 20 (tx l) = true := by
  show PyData.strOk (mkS l) = true
  have := (shp_tx h).1
  simpa only [PyData.canLay0] using this
/-- a text that may be asked for -/
def Okt (d : D) : Prop := ∃ l, d = tx l ∧ okN l = true ∧ l.length ≤ 300
theorem okN_app {a b : List Nat} (ha : okN a = true) (hb : okN b = true) : okN (a ++ b) = true := by
  unfold okN at *
  rw [List.all_append, ha, hb]; rfl
theorem okN_sub {a b : List Nat} (h : ∀ x ∈ a, x ∈ b) (hb : okN b = true) : okN a = true := by
  unfold okN at *
  rw [List.all_eq_true] at *
  exact fun x m => hb x (h x m)
theorem okN_cut {l : List Nat} (lo hi : Option Int) (h : okN l = true) : okN (cutD l lo hi) = true := okN_sub (fun _ m => cut_mem m) h
theorem okt_const (s : Str) (h : okN s.cps.toList = true) (h2 : s.cps.toList.length ≤ 300) : Okt (.str s) := ⟨s.cps.toList, (congrArg PyData.str (mkS_of s)).symm, h, h2⟩
theorem ask {d : D} (h : Okt d) : ∃ e r, g__law_told [d] = some e ∧ g__law_read [d] = some r ∧ g__law_or [r] = some e ∧ g__law_same [e, e] = some (.bool true) := by
  obtain ⟨l, rfl, ok, hl⟩ := h
  rcases lread_any (l := l) (by omega) ok with ⟨N, q, e, r⟩ | ⟨no, r⟩
  · subst e
    have r7 := neat_rim7 q
    have t9 := q.t9
    exact ⟨encN N, encN N, told_ok (read_net q.w q.t9 q.rn), r, or_net N, same_ok (okD_net (k := 16) N (by omega) (by omega))⟩
  · exact ⟨.str "refused", .none, told_no (read_bad (by omega) ok no), r, or_none, same_ok (by decide +kernel)⟩
theorem thing_turn {x0 x1 x2 x3 x4 x5 x6 x7 x8 x9 x11 x12 : Option SV} {d : D} (h : Okt d) : wp ((nameG 10 [x0, x1, x2, x3, x4, x5, x6, x7, x8, x9, none, x11, x12] d).bind F_law_3) (goesOn (· = [x0, x1, x2, x3, x4, x5, x6, x7, x8, x9, none, x11, x12])) := by
  obtain ⟨e, r, h1, h2, h3, h4⟩ := ask h
  unfold F_law_3
  simp_arith [h1, h2, h3, h4]
  exact wp_ok rfl
theorem pick_S (ns : List Int) (town : List D) (l : List Nat) (hd : l ≠ []) (h : l.length ≤ 1000) (hl : town.length < 900000) : ∃ c ∈ l, g__law_pick [SC ns, tx l] town = some (tx [c], town ++ [.int 0]) := by
  have hpos : (0 : Int) < (l.length : Nat) := by
    have := List.length_pos_iff.mpr hd; omega
  obtain ⟨v, h0, h1, e⟩ := draw_spec ns town l.length hpos hl
  obtain ⟨d, m, hc⟩ := atI_mem h0 h1
  refine ⟨d, m, ?_⟩
  unfold g__law_pick b__law_pick N__law_pick
  simp_arith [e, hc]
abbrev st15 (ns : List Int) (tw : List D) (x2 : Option SV) (N : Net) (L : List D) (x7 x8 : Option SV) : Rho := [some (.d (SC ns)), some (.l false tw), x2, some (.d (encN N)), some (.d (tx (wr N))), some (.l false L), none, x7, x8, none, none, none, none]
section
variable {ns : List Int} {tw : List D} {x2 : Option SV} {N : Net} {L : List D}
set_option maxHeartbeats 8000000 in
theorem text_turn (q : Neat N) (lt : tw.length < 500000) (lL : L.length ≤ 1000) (okL : ∀ d ∈ L, Okt d) (a : Int) : wp ((nameG 6 (st15 ns tw x2 N L none none) (.int a)).bind F_law_1) (goesOn fun r => ∃ (tw' : List D) (L' : List D), r = st15 ns tw' x2 N L' none none ∧ tw'.length = tw.length + 2 ∧ L'.length = L.length + 4 ∧ ∀ d ∈ L', Okt d) := by
  have wl := wr_len q
  have wo := wr_ok q
  revert wl wo
  unfold st15
  generalize wr N = W
  intro wl wo
  obtain ⟨v, v0, v1, e1⟩ := draw_spec ns tw ((W.length : Int) + 1) (by omega) (by omega)
  obtain ⟨c, mc, e2⟩ := pick_S ns (tw ++ [.int 0]) (Str.ofString "0123456789;, -+_.aZ~!").cps.toList (by decide +kernel) (by decide +kernel) (by simp; omega)
  rw [show tx (Str.ofString "0123456789;, -+_.aZ~!").cps.toList = .str (Str.ofString "0123456789;, -+_.aZ~!") from congrArg PyData.str (mkS_of _)] at e2
  have oc : okN [c] = true := okN_sub (b := (Str.ofString "0123456789;, -+_.aZ~!").cps.toList) (fun x m => by rw [List.mem_singleton] at m; subst m; exact mc) (by decide +kernel)
  have c1 := cut_len W none (some v)
  have c2 := cut_len W (some v) none
  have c3 := cut_len W (some (v + 1)) none
  have c4 := cut_len W (some v) (some (v + 2))
  have c5 := cut_len W (some (v + 2)) none
  have o1 := okN_cut none (some v) wo
  have o2 := okN_cut (some v) none wo
  have o3 := okN_cut (some (v + 1)) none wo
  have o4 := okN_cut (some v) (some (v + 2)) wo
  have o5 := okN_cut (some (v + 2)) none wo
  revert c1 c2 c3 c4 c5 o1 o2 o3 o4 o5
  have g1 : ∀ k : Option Int, cutD W none k = cutD W none k := fun _ => rfl
  generalize h1 : cutD W none (some v) = A1
  generalize h2 : cutD W (some v) none = A2
  generalize h3 : cutD W (some (v + 1)) none = A3
  generalize h4 : cutD W (some v) (some (v + 2)) = A4
  generalize h5 : cutD W (some (v + 2)) none = A5
  intro c1 c2 c3 c4 c5 o1 o2 o3 o4 o5
  unfold F_law_1
  simp_arith [e1, e2, h1, h2, h3, h4, h5]
  refine wp_ok ⟨_, _, rfl, by simp, by simp, fun d m => ?_⟩
  have or_ : okN A4.reverse = true := okN_sub (fun x m => by simpa using m) o4
  simp only [List.mem_append, List.mem_cons, List.not_mem_nil, or_false] at m
  rcases m with (m | rfl | rfl | rfl) | rfl
  · exact okL d m
  · exact ⟨_, rfl, okN_app (okN_app o1 oc) o2, by simp; omega⟩
  · exact ⟨_, rfl, okN_app o1 o3, by simp; omega⟩
  · exact ⟨_, rfl, okN_app (okN_app o1 oc) o3, by simp; omega⟩
  · exact ⟨_, rfl, okN_app (okN_app o1 or_) o5, by simp; omega⟩
end
end L_k15
namespace L_k15
open PySem L2 DL GT PG FA RX
theorem wp_allL {β : Type} {g : GM} {f : SM} {as : List D} {r : Rho} {K : Out → Option β} {Q : β → Prop} (step : ∀ a ∈ as, wp ((g r a).bind f) (goesOn (· = r))) (k : wp (K (.nx r)) Q) : wp ((forL g f as r).bind K) Q := by
  have h := wp_all (g := g) (f := f) (as := as) (r := r) (K := K) (Q := Q) (enc := id) step k
  rwa [List.map_id] at h
/-- a loop that draws, and fills a list -/
theorem wp_drawfill {A β : Type} {g : GM} {f : SM} {as : List A} {K : Out → Option β} {Q : β → Prop} {enc : A → D} (st : List D → List D → Rho) (P : D → Prop) (c e : Nat) (tw0 L0 : List D) (h0 : ∀ d ∈ L0, P d)
    (step : ∀ a ∈ as, ∀ tw L : List D, tw.length ≤ tw0.length + c * as.length → L.length ≤ L0.length + e * as.length → (∀ d ∈ L, P d) → wp ((g (st tw L) (enc a)).bind f) (goesOn fun r => ∃ tw' L' : List D, r = st tw' L' ∧ tw'.length = tw.length + c ∧ L'.length = L.length + e ∧ ∀ d ∈ L', P d))
    (k : ∀ tw L : List D, tw.length = tw0.length + c * as.length → L.length = L0.length + e * as.length → (∀ d ∈ L, P d) → wp (K (.nx (st tw L))) Q) : wp ((forL g f (as.map enc) (st tw0 L0)).bind K) Q := by
  refine wp_for enc (fun bs q => (∀ b ∈ bs, b ∈ as) ∧ ∃ tw L : List D, tw.length + c * bs.length = tw0.length + c * as.length ∧ L.length + e * bs.length = L0.length + e * as.length ∧ (∀ d ∈ L, P d) ∧ q = st tw L) ⟨fun _ h => h, tw0, L0, rfl, rfl, h0, rfl⟩ ?_ ?_
  · rintro a bs q ⟨h, tw, L, hl, hL, hp, rfl⟩
    simp only [List.length_cons, Nat.mul_add, Nat.mul_one] at hl hL
    refine wp_mono (step a (h a (by simp)) tw L (by omega) (by omega) hp) fun o ho => ?_
    cases o with
    | nx r2 => obtain ⟨tw', L', rfl, h1, h2, h3⟩ := ho; exact ⟨fun b m => h b (List.mem_cons_of_mem _ m), tw', L', by omega, by omega, h3, rfl⟩
    | ct r2 => obtain ⟨tw', L', rfl, h1, h2, h3⟩ := ho; exact ⟨fun b m => h b (List.mem_cons_of_mem _ m), tw', L', by omega, by omega, h3, rfl⟩
    | _ => exact ho.elim
  · rintro q ⟨_, tw, L, hl, hL, hp, rfl⟩
    simp only [List.length_nil, Nat.mul_zero, Nat.add_zero] at hl hL
    exact k tw L hl hL hp
theorem okN_join {s : List Nat} (hs : okN s = true) : ∀ {ls : List (List Nat)}, (∀ l ∈ ls, okN l = true) → okN (joinN s ls) = true := fun {ls} h => by
  unfold okN at *
  rw [List.all_eq_true] at *
  intro c m
  rcases mem_join m with q | ⟨l, ml, hl⟩
  · exact hs c q
  · exact List.all_eq_true.mp (h l ml) c hl
theorem sum_le {ls : List (List Nat)} {k : Nat} (h : ∀ l ∈ ls, l.length ≤ k) : (ls.map (·.length)).sum ≤ k * ls.length := by
  induction ls with
  | nil => simp
  | cons l ls ih =>
    have h1 := ih fun l m => h l (List.mem_cons_of_mem _ m)
    have h2 := h l (by simp)
    simp only [List.map_cons, List.sum_cons, List.length_cons, Nat.mul_add, Nat.mul_one]
    omega
theorem joinN_le {s : List Nat} {ls : List (List Nat)} {k : Nat} (h : ∀ l ∈ ls, l.length ≤ k) : (joinN s ls).length ≤ (k + s.length) * ls.length := by
  have h1 := join_len s ls
  have h2 := sum_le h
  rw [Nat.add_mul, Nat.mul_comm s.length]
  omega
/-- joined, and what may be said of it -/
theorem join_okt {c : Nat} (hc : okN [c] = true) {ls : List (List Nat)} {k : Nat} (ok : ∀ l ∈ ls, okN l = true) (le : ∀ l ∈ ls, l.length ≤ k) (few : (k + 1) * ls.length ≤ 300) : joinD (tx [c]) (.list (ls.map tx)) = some (tx (joinN [c] ls)) ∧ okN (joinN [c] ls) = true ∧ (joinN [c] ls).length ≤ (k + 1) * ls.length := by
  have h1 := sum_le le
  have h2 := joinN_le (s := [c]) le
  simp only [List.length_singleton] at h2
  refine ⟨joinD_tx _ _ ?_, okN_join hc ok, h2⟩
  rw [Nat.add_mul] at few
  simp only [List.length_singleton]
  omega
section
variable {ns : List Int} {tw : List D} {x2 : Option SV} {N : Net} {L : List D}
theorem one_turn {x6 x8 : Option SV} {a m b : List Nat} {r : List (List Nat)} (la : a.length ≤ 50) (lb : b.length ≤ 50) (oa : okN a = true) (ob : okN b = true) (okr : ∀ l ∈ r, okN l = true) (ler : ∀ l ∈ r, l.length ≤ 2) (few : r.length ≤ 12) (lL : L.length ≤ 1000) (x0 x1 x3 x4 x10 x11 x12 : Option SV) :
    wp ((nameG 9 [x0, x1, x2, x3, x4, some (.l false L), x6, some (.d (.list [tx a, tx m, tx b])), x8, none, x10, x11, x12] (.list (r.map tx))).bind F_law_2) (goesOn fun q => ∃ d, Okt d ∧ q = [x0, x1, x2, x3, x4, some (.l false (L ++ [d])), x6, some (.d (.list [tx a, tx m, tx b])), x8, none, x10, x11, x12]) := by
  obtain ⟨j1, o1, n1⟩ := join_okt (c := 44) (by decide) okr ler (by omega)
  have ok2 : ∀ l ∈ [a, joinN [44] r, b], okN l = true := fun l ml => by
    simp only [List.mem_cons, List.not_mem_nil, or_false] at ml
    rcases ml with rfl | rfl | rfl <;> assumption
  have le2 : ∀ l ∈ [a, joinN [44] r, b], l.length ≤ 60 := fun l ml => by
    simp only [List.mem_cons, List.not_mem_nil, or_false] at ml
    rcases ml with rfl | rfl | rfl <;> omega
  obtain ⟨j2, ok, n2⟩ := join_okt (c := 59) (by decide) ok2 le2 (by simp)
  have j2 : joinD (tx [59]) (.list [tx a, tx (joinN [44] r), tx b]) = some (tx (joinN [59] [a, joinN [44] r, b])) := j2
  unfold F_law_2
  simp_arith [s_semi, s_comma, j1, j2]
  exact wp_ok ⟨_, ⟨_, rfl, ok, by simp at n2; omega⟩, rfl⟩
theorem split_wr {N : Net} (q : Neat N) : splitN 59 (wr N) = [[48 + N.n], midT N.ties, endT N.rim] := by
  obtain ⟨f1, f2, f3⟩ := neat_fig q
  have m1 : 59 ∉ midT N.ties := fun m => by rcases mid_chars f2 59 m with h | h <;> omega
  have m2 : 59 ∉ endT N.rim := fun m => by have := end_chars f3 59 m; omega
  have m0 : 59 ∉ [48 + N.n] := fun m => by rw [List.mem_singleton] at m; have := f1.2; omega
  rw [wr_three, show (48 + (N.n : Int).toNat) = 48 + N.n by omega]
  have := splitN_app (c := 59) (p := [48 + N.n]) (midT N.ties ++ 59 :: endT N.rim) m0
  rw [show [48 + N.n] ++ 59 :: (midT N.ties ++ 59 :: endT N.rim) = (48 + N.n) :: 59 :: (midT N.ties ++ 59 :: endT N.rim) from rfl] at this
  rw [this, splitN_app _ m1, splitN_free m2]
theorem split_mid {N : Net} (q : Neat N) : (∀ l ∈ splitN 44 (midT N.ties), okN l = true ∧ l.length ≤ 2) ∧ (splitN 44 (midT N.ties)).length ≤ 9 := by
  obtain ⟨f1, f2, f3⟩ := neat_fig q
  have t9 := q.t9
  cases e : N.ties with
  | nil =>
    have : splitN 44 (midT []) = [[]] := rfl
    rw [this]
    exact ⟨fun l m => by rw [List.mem_singleton] at m; subst m; exact ⟨rfl, by simp⟩, by simp⟩
  | cons t ts =>
    have jn : midT N.ties ≠ [] := by rw [e, mid_cons]; simp [pieceT, fig]
    have h := psOf_mid f2
    unfold psOf at h
    rw [if_neg jn] at h
    rw [← e, h]
    refine ⟨fun l m => ?_, by rw [List.length_map]; exact t9⟩
    obtain ⟨t, mt, rfl⟩ := List.mem_map.mp m
    have := f2 t mt
    refine ⟨okN_of fun c mc => ?_, Nat.le_refl _⟩
    rcases List.mem_append.mp mc with q | q <;> simp [fig] at q <;> omega
theorem cuts_ok {r : List (List Nat)} (h : ∀ l ∈ r, okN l = true ∧ l.length ≤ 2) (few : r.length ≤ 9) : ∀ x ∈ [r.drop 1, r.reverse, r ++ r.take 1], (∀ l ∈ x, okN l = true ∧ l.length ≤ 2) ∧ x.length ≤ 12 := fun x m => by
  simp only [List.mem_cons, List.not_mem_nil, or_false] at m
  rcases m with rfl | rfl | rfl
  · exact ⟨fun l ml => h l (List.mem_of_mem_drop ml), by rw [List.length_drop]; omega⟩
  · exact ⟨fun l ml => h l (List.mem_reverse.mp ml), by rw [List.length_reverse]; omega⟩
  · refine ⟨fun l ml => ?_, by rw [List.length_append, List.length_take]; omega⟩
    rcases List.mem_append.mp ml with q | q
    · exact h l q
    · exact h l (List.mem_of_mem_take q)
set_option maxHeartbeats 16000000 in
theorem turn (tw : List D) (h : tw.length < 400000) (a : Int) :
    wp ((nameG 2 [some (.d (SC ns)), some (.l false tw), none, none, none, none, none, none, none, none, none, none, none] (.int a)).bind F_law_4) (goesOn fun r => ∃ tw' : List D, tw'.length ≤ tw.length + 150 ∧ r = [some (.d (SC ns)), some (.l false tw'), none, none, none, none, none, none, none, none, none, none, none]) := by
  obtain ⟨N, tw1, w, n2, n3, n4, n5, n6⟩ := net_spec ns tw 7 9 (by omega) (by omega) (by omega) (by omega)
  have n6' : g__law_net [SC ns, .int 7, .int 9] tw = some (encN N, tw1) := n6
  have q : Neat N := ⟨w, n3, n4⟩
  obtain ⟨f1, f2, f3⟩ := neat_fig q
  have r7 := neat_rim7 q
  have wl := wr_len q
  have wo := wr_ok q
  have wn : g_written [encN N] = some (tx (wr N)) := written_any (n := N.n) (ties := N.ties) (rim := N.rim) f1 f2 f3 (by omega) (by omega)
  have ls := say_eval q
  have lt : g__law_told [tx (wr N)] = some (encN N) := told_ok (read_net w n3 n4)
  have s1 : g__law_same [tx (wr N), tx (wr N)] = some (.bool true) := same_ok (okD_tx wo)
  have s2 : g__law_same [encN N, encN N] = some (.bool true) := same_ok (okD_net (k := 16) N (by omega) (by omega))
  unfold F_law_4
  simp_arith [-L_k15.Sq_law_10_a, n6', ls]
  simp_arith [-L_k15.Sq_law_9_a, wn, lt, s1, s2]
  have sp : PyData.str (Str.ofString " ") = tx [32] := congrArg PyData.str (by decide +kernel : Str.ofString " " = mkS [32])
  simp_arith [-L_k15.Sq_law_8_a, sp]
  have en : rngL 0 6 = (ir 6).map .int := rngL_ir 6
  simp_arith [-L_k15.Sq_law_7_a, en]
  refine wp_drawfill (fun tw L => st15 ns tw (some (.d (.int a))) N L none none) Okt 2 4 _ _ (fun d m => ?_) (fun k mk tw L h1 h2 h3 => ?_) (fun tw2 L h1 h2 h3 => ?_)
  · simp only [List.mem_cons, List.not_mem_nil, or_false] at m
    rcases m with rfl | rfl | rfl | rfl | rfl | rfl | rfl | rfl | rfl | rfl | rfl
    · exact ⟨_, rfl, okN_app wo wo, by simp; omega⟩
    · exact ⟨_, rfl, okN_app (a := [32]) rfl wo, by simp; omega⟩
    · exact ⟨_, rfl, okN_app wo rfl, by simp; omega⟩
    · exact ⟨_, rfl, okN_sub (fun x m => by simpa using m) wo, by simp; omega⟩
    all_goals exact okt_const _ (by decide +kernel) (by decide +kernel)
  · rw [ir_len] at h1 h2
    simp only [List.length_cons, List.length_nil] at h2
    exact text_turn q (by omega) (by omega) h3 k
  rw [ir_len] at h1 h2
  simp only [List.length_cons, List.length_nil] at h2
  have sw := split_wr q
  obtain ⟨sm1, sm2⟩ := split_mid q
  have v1 : splitV (tx (wr N)) (tx [59]) = some [tx [48 + N.n], tx (midT N.ties), tx (endT N.rim)] := by rw [splitV_tx _ _ (by omega), sw]; rfl
  have ml : (midT N.ties).length ≤ 40 := by have := wl; rw [wr_three] at this; simp at this; omega
  have el : (endT N.rim).length ≤ 40 := by have := wl; rw [wr_three] at this; simp at this; omega
  have v2 : splitV (tx (midT N.ties)) (tx [44]) = some ((splitN 44 (midT N.ties)).map tx) := splitV_tx _ _ (by omega)
  have ix1 : ixD (.list [tx [48 + N.n], tx (midT N.ties), tx (endT N.rim)]) (.int 1) = some (tx (midT N.ties)) := rfl
  have c59 : ∀ c ∈ wr N, c < 58 ∨ c = 59 := fun c m => by rcases wr_chars q c m with h | h | h <;> omega
  have ome : okN (endT N.rim) = true := okN_of fun c m => by have := end_chars f3 c m; omega
  have omm : okN (midT N.ties) = true := okN_of fun c m => by rcases mid_chars f2 c m with h | h <;> omega
  have on : okN [48 + N.n] = true := okN_of fun c m => by rw [List.mem_singleton] at m; have := f1.2; omega
  unfold st15
  simp_arith [-L_k15.Sq_law_5_a, s_semi, s_comma, v1, ix1, v2]
  revert sm1 sm2
  generalize splitN 44 (midT N.ties) = r
  intro sm1 sm2
  have ok3 := cuts_ok sm1 sm2
  have c1 : cutD (r.map tx) (some (1 : Int)) none = (r.drop 1).map tx := (DL.cut_from (r.map tx) 1).trans (List.map_drop ..).symm
  have c2 : cutD (r.map tx) none (some (1 : Int)) = (r.take 1).map tx := (DL.cut_to (r.map tx) 1).trans (List.map_take ..).symm
  have lt1 : (r.take 1).length ≤ 1 := by rw [List.length_take]; omega
  have e3 : [PyData.list ((r.drop 1).map tx), PyData.list (r.reverse.map tx), PyData.list ((r ++ r.take 1).map tx)] = [r.drop 1, r.reverse, r ++ r.take 1].map fun x => PyData.list (x.map tx) := rfl
  simp_arith [-L_k15.Sq_law_4_a, c1, c2]
  rw [e3]
  refine wp_drawfill (fun _ L => [some (.d (SC ns)), some (.l false tw2), some (.d (.int a)), some (.d (encN N)), some (.d (tx (wr N))), some (.l false L), none, some (.d (.list [tx [48 + N.n], tx (midT N.ties), tx (endT N.rim)])), some (.d (.list (r.map tx))), none, none, none, none]) Okt 0 1 [] _ h3 (fun x mx tw3 L3 g1 g2 g3 => ?_) (fun tw3 L3 g1 g2 g3 => ?_)
  · obtain ⟨q1, q2⟩ := ok3 x mx
    simp only [List.length_cons, List.length_nil] at g2
    refine wp_mono (one_turn (L := L3) (m := midT N.ties) (by simp) (by omega) on ome (fun l m => (q1 l m).1) (fun l m => (q1 l m).2) q2 (by omega) _ _ _ _ _ _ _) fun o ho => ?_
    have key : ∀ q : Rho, (∃ d, Okt d ∧ q = [some (.d (SC ns)), some (.l false tw2), some (.d (.int a)), some (.d (encN N)), some (.d (tx (wr N))), some (.l false (L3 ++ [d])), none, some (.d (.list [tx [48 + N.n], tx (midT N.ties), tx (endT N.rim)])), some (.d (.list (r.map tx))), none, none, none, none]) →
        ∃ tw' L' : List D, q = [some (.d (SC ns)), some (.l false tw2), some (.d (.int a)), some (.d (encN N)), some (.d (tx (wr N))), some (.l false L'), none, some (.d (.list [tx [48 + N.n], tx (midT N.ties), tx (endT N.rim)])), some (.d (.list (r.map tx))), none, none, none, none] ∧ tw'.length = tw3.length + 0 ∧ L'.length = L3.length + 1 ∧ ∀ d ∈ L', Okt d := fun q ⟨d, od, e⟩ =>
      ⟨tw3, L3 ++ [d], e, rfl, by simp, fun u m => by
        rcases List.mem_append.mp m with m | m
        · exact g3 u m
        · rw [List.mem_singleton] at m; subst m; exact od⟩
    cases o with
    | nx r2 => exact key r2 ho
    | ct r2 => exact key r2 ho
    | _ => exact ho.elim
  simp only [List.length_cons, List.length_nil] at g2
  have j1 : joinD (tx [59]) (.list [tx [48 + N.n], tx (midT N.ties)]) = some (tx (joinN [59] [[48 + N.n], midT N.ties])) := joinD_tx [59] [[48 + N.n], midT N.ties] (by simp; omega)
  have j2 : joinD (tx [59]) (.list [tx [48 + N.n], tx (midT N.ties), tx (endT N.rim), tx []]) = some (tx (joinN [59] [[48 + N.n], midT N.ties, endT N.rim, []])) := joinD_tx [59] [[48 + N.n], midT N.ties, endT N.rim, []] (by simp; omega)
  have j3 : joinD (tx [59]) (.list [tx [48 + N.n], tx (midT N.ties), tx (endT N.rim)].reverse) = some (tx (joinN [59] [endT N.rim, midT N.ties, [48 + N.n]])) := joinD_tx [59] [endT N.rim, midT N.ties, [48 + N.n]] (by simp; omega)
  have k2 : cutD [tx [48 + N.n], tx (midT N.ties), tx (endT N.rim)] none (some (2 : Int)) = [tx [48 + N.n], tx (midT N.ties)] := DL.cut_to _ 2
  simp_arith [s_semi, s_empty, j1, j2, j3, k2]
  refine wp_allL (fun d md => thing_turn ?_) ?_
  · rcases List.mem_append.mp md with m | m
    · exact g3 d m
    · have mk : ∀ ls : List (List Nat), (∀ l ∈ ls, okN l = true ∧ l.length ≤ 40) → ls.length ≤ 4 → Okt (tx (joinN [59] ls)) := fun ls h1 h2 => by
        have le := joinN_le (s := [59]) (k := 40) fun l m => (h1 l m).2
        simp only [List.length_singleton] at le
        exact ⟨joinN [59] ls, rfl, okN_join (s := [59]) (by decide) fun l m => (h1 l m).1, by omega⟩
      have p1 : okN [48 + N.n] = true ∧ [48 + N.n].length ≤ 40 := ⟨on, by simp⟩
      have p2 : okN (midT N.ties) = true ∧ (midT N.ties).length ≤ 40 := ⟨omm, ml⟩
      have p3 : okN (endT N.rim) = true ∧ (endT N.rim).length ≤ 40 := ⟨ome, el⟩
      have p4 : okN [] = true ∧ ([] : List Nat).length ≤ 40 := ⟨by decide, by simp⟩
      simp only [List.mem_cons, List.not_mem_nil, or_false] at m
      rcases m with rfl | rfl | rfl
      · refine mk _ (fun l ml => ?_) (by simp)
        simp only [List.mem_cons, List.not_mem_nil, or_false] at ml
        rcases ml with rfl | rfl
        · exact p1
        · exact p2
      · refine mk _ (fun l ml => ?_) (by simp)
        simp only [List.mem_cons, List.not_mem_nil, or_false] at ml
        rcases ml with rfl | rfl | rfl | rfl
        · exact p1
        · exact p2
        · exact p3
        · exact p4
      · refine mk _ (fun l ml => ?_) (by simp)
        simp only [List.mem_cons, List.not_mem_nil, or_false] at ml
        rcases ml with rfl | rfl | rfl
        · exact p3
        · exact p2
        · exact p1
  simp_arith [DL.p_nt]
  exact wp_ok ⟨tw2, by omega, rfl⟩
set_option maxHeartbeats 4000000 in
theorem law_true (ns : List Int) (hl : ns.length ≤ 63) : g_law [.list (ns.map .int)] = some (.bool true) := by
  refine wp_val ?_
  unfold g_law b_law N_law
  have e5 : rngL 0 10 = (ir 10).map .int := rngL_ir 10
  simp_arith [e5]
  refine wp_town (fun tw => [some (.d (SC ns)), some (.l false tw), none, none, none, none, none, none, none, none, none, none, none]) 150 [] (fun a _ tw h => ?_) (fun tw h => ?_)
  · simp [ir_len] at h
    exact turn tw (by omega) a
  · simp_arith [DL.p_nt]
    exact wp_ok rfl
end
end L_k15
namespace L_k15
open PySem L2 DL PyProof.Rows FA PG
def topS (i : Nat) : Stmt := PySem.Challenge.pw_probeties_k15_whole_nets_as_texts.main.body.getD i (.Pass ⟨0, 0, 0, 0⟩)
abbrev s_written : Stmt := topS 12
abbrev s__law_same : Stmt := topS 17
abbrev s__law_or : Stmt := topS 18
abbrev s__law_draw : Stmt := topS 19
abbrev s__law_pick : Stmt := topS 20
abbrev s__law_net : Stmt := topS 21
abbrev s_is_whole : Stmt := topS 6
abbrev s_are_rising : Stmt := topS 7
abbrev s_is_tie : Stmt := topS 8
abbrev s_is_net : Stmt := topS 9
abbrev s_figure_in : Stmt := topS 13
abbrev s_tie_in : Stmt := topS 14
abbrev s_read : Stmt := topS 15
abbrev s__law_told : Stmt := topS 25
abbrev s__law_say : Stmt := topS 26
abbrev s__law_rising : Stmt := topS 27
abbrev s__law_read : Stmt := topS 28
abbrev s_law : Stmt := topS 29
theorem sc_written : FnScope N_written ["net"] (defScope s_written) := ⟨rfl, rfl, rfl, by decide +kernel, rfl, by decide +kernel, by decide +kernel⟩
theorem sc__law_same : FnScope N__law_same ["_law_got", "_law_due"] (defScope s__law_same) := ⟨rfl, rfl, rfl, by decide +kernel, rfl, by decide +kernel, by decide +kernel⟩
theorem sc__law_or : FnScope N__law_or ["_law_due"] (defScope s__law_or) := ⟨rfl, rfl, rfl, by decide +kernel, rfl, by decide +kernel, by decide +kernel⟩
theorem sc__law_draw : FnScope N__law_draw ["_law_script", "_law_town", "_law_many"] (defScope s__law_draw) := ⟨rfl, rfl, rfl, by decide +kernel, rfl, by decide +kernel, by decide +kernel⟩
theorem sc__law_pick : FnScope N__law_pick ["_law_script", "_law_town", "_law_some"] (defScope s__law_pick) := ⟨rfl, rfl, rfl, by decide +kernel, rfl, by decide +kernel, by decide +kernel⟩
theorem sc__law_net : FnScope N__law_net ["_law_script", "_law_town", "_law_high", "_law_wide"] (defScope s__law_net) := ⟨rfl, rfl, rfl, by decide +kernel, rfl, by decide +kernel, by decide +kernel⟩
theorem sc_is_whole : FnScope N_is_whole ["thing", "low", "high"] (defScope s_is_whole) := ⟨rfl, rfl, rfl, by decide +kernel, rfl, by decide +kernel, by decide +kernel⟩
theorem sc_are_rising : FnScope N_are_rising ["row"] (defScope s_are_rising) := ⟨rfl, rfl, rfl, by decide +kernel, rfl, by decide +kernel, by decide +kernel⟩
theorem sc_is_tie : FnScope N_is_tie ["thing", "many"] (defScope s_is_tie) := ⟨rfl, rfl, rfl, by decide +kernel, rfl, by decide +kernel, by decide +kernel⟩
theorem sc_is_net : FnScope N_is_net ["thing"] (defScope s_is_net) := ⟨rfl, rfl, rfl, by decide +kernel, rfl, by decide +kernel, by decide +kernel⟩
theorem sc_figure_in : FnScope N_figure_in ["sign"] (defScope s_figure_in) := ⟨rfl, rfl, rfl, by decide +kernel, rfl, by decide +kernel, by decide +kernel⟩
theorem sc_tie_in : FnScope N_tie_in ["part"] (defScope s_tie_in) := ⟨rfl, rfl, rfl, by decide +kernel, rfl, by decide +kernel, by decide +kernel⟩
theorem sc_read : FnScope N_read ["text"] (defScope s_read) := ⟨rfl, rfl, rfl, by decide +kernel, rfl, by decide +kernel, by decide +kernel⟩
theorem sc__law_told : FnScope N__law_told ["_law_text"] (defScope s__law_told) := ⟨rfl, rfl, rfl, by decide +kernel, rfl, by decide +kernel, by decide +kernel⟩
theorem sc__law_say : FnScope N__law_say ["_law_net_here"] (defScope s__law_say) := ⟨rfl, rfl, rfl, by decide +kernel, rfl, by decide +kernel, by decide +kernel⟩
theorem sc__law_rising : FnScope N__law_rising ["_law_some", "_law_most"] (defScope s__law_rising) := ⟨rfl, rfl, rfl, by decide +kernel, rfl, by decide +kernel, by decide +kernel⟩
theorem sc__law_read : FnScope N__law_read ["_law_text"] (defScope s__law_read) := ⟨rfl, rfl, rfl, by decide +kernel, rfl, by decide +kernel, by decide +kernel⟩
theorem sc_law : FnScope N_law ["_law_script"] (defScope s_law) := ⟨rfl, rfl, rfl, by decide +kernel, rfl, by decide +kernel, by decide +kernel⟩
structure Tx (mg : Str → Option Value) : Prop where
  z_all : mg "all" = none
  z_bool : mg "bool" = none
  z_dict : mg "dict" = none
  z_enumerate : mg "enumerate" = none
  z_int : mg "int" = none
  z_isinstance : mg "isinstance" = none
  z_len : mg "len" = none
  z_list : mg "list" = none
  z_range : mg "range" = none
  z_sorted : mg "sorted" = none
  z_str : mg "str" = none
  z_tuple : mg "tuple" = none
  z_zip : mg "zip" = none
  m_FIGURES : ∃ t, mg "FIGURES" = some (.str "0123456789" t)
  m_KNOTS_MOST : ∃ t, mg "KNOTS_MOST" = some (.int 7 t)
  m_TIES_MOST : ∃ t, mg "TIES_MOST" = some (.int 9 t)
structure Ad where
  a_written : Addr
  d_written : FuncData
  a__law_same : Addr
  d__law_same : FuncData
  a__law_or : Addr
  d__law_or : FuncData
  a__law_draw : Addr
  d__law_draw : FuncData
  a__law_pick : Addr
  d__law_pick : FuncData
  a__law_net : Addr
  d__law_net : FuncData
  a_is_whole : Addr
  d_is_whole : FuncData
  a_are_rising : Addr
  d_are_rising : FuncData
  a_is_tie : Addr
  d_is_tie : FuncData
  a_is_net : Addr
  d_is_net : FuncData
  a_figure_in : Addr
  d_figure_in : FuncData
  a_tie_in : Addr
  d_tie_in : FuncData
  a_read : Addr
  d_read : FuncData
  a__law_told : Addr
  d__law_told : FuncData
  a__law_say : Addr
  d__law_say : FuncData
  a__law_rising : Addr
  d__law_rising : FuncData
  a__law_read : Addr
  d__law_read : FuncData
  a_law : Addr
  d_law : FuncData
  x_NoText : Addr
structure Cx1 (K : PySem.W.Frag) (mg : Str → Option Value) (Z : Ad) : Prop where
  f_written : Fun K "written" "written" s_written Z.a_written Z.d_written
  b_written : Binds K Z.d_written ["net"] []
  g_written : mg "written" = some (.ref Z.a_written)
  f__law_same : Fun K "_law_same" "_law_same" s__law_same Z.a__law_same Z.d__law_same
  b__law_same : Binds K Z.d__law_same ["_law_got", "_law_due"] []
  g__law_same : mg "_law_same" = some (.ref Z.a__law_same)
  f__law_or : Fun K "_law_or" "_law_or" s__law_or Z.a__law_or Z.d__law_or
  b__law_or : Binds K Z.d__law_or ["_law_due"] []
  g__law_or : mg "_law_or" = some (.ref Z.a__law_or)
  f__law_draw : Fun K "_law_draw" "_law_draw" s__law_draw Z.a__law_draw Z.d__law_draw
  b__law_draw : Binds K Z.d__law_draw ["_law_script", "_law_town", "_law_many"] []
  g__law_draw : mg "_law_draw" = some (.ref Z.a__law_draw)
  f__law_pick : Fun K "_law_pick" "_law_pick" s__law_pick Z.a__law_pick Z.d__law_pick
  b__law_pick : Binds K Z.d__law_pick ["_law_script", "_law_town", "_law_some"] []
  g__law_pick : mg "_law_pick" = some (.ref Z.a__law_pick)
  f__law_net : Fun K "_law_net" "_law_net" s__law_net Z.a__law_net Z.d__law_net
  b__law_net : Binds K Z.d__law_net ["_law_script", "_law_town", "_law_high", "_law_wide"] []
  g__law_net : mg "_law_net" = some (.ref Z.a__law_net)
  f_is_whole : Fun K "is_whole" "is_whole" s_is_whole Z.a_is_whole Z.d_is_whole
  b_is_whole : Binds K Z.d_is_whole ["thing", "low", "high"] []
  g_is_whole : mg "is_whole" = some (.ref Z.a_is_whole)
  f_are_rising : Fun K "are_rising" "are_rising" s_are_rising Z.a_are_rising Z.d_are_rising
  b_are_rising : Binds K Z.d_are_rising ["row"] []
  g_are_rising : mg "are_rising" = some (.ref Z.a_are_rising)
  f_is_tie : Fun K "is_tie" "is_tie" s_is_tie Z.a_is_tie Z.d_is_tie
  b_is_tie : Binds K Z.d_is_tie ["thing", "many"] []
  g_is_tie : mg "is_tie" = some (.ref Z.a_is_tie)
  f_is_net : Fun K "is_net" "is_net" s_is_net Z.a_is_net Z.d_is_net
  b_is_net : Binds K Z.d_is_net ["thing"] []
  g_is_net : mg "is_net" = some (.ref Z.a_is_net)
  f_figure_in : Fun K "figure_in" "figure_in" s_figure_in Z.a_figure_in Z.d_figure_in
  b_figure_in : Binds K Z.d_figure_in ["sign"] []
  g_figure_in : mg "figure_in" = some (.ref Z.a_figure_in)
  f_tie_in : Fun K "tie_in" "tie_in" s_tie_in Z.a_tie_in Z.d_tie_in
  b_tie_in : Binds K Z.d_tie_in ["part"] []
  g_tie_in : mg "tie_in" = some (.ref Z.a_tie_in)
  f_read : Fun K "read" "read" s_read Z.a_read Z.d_read
  b_read : Binds K Z.d_read ["text"] []
  g_read : mg "read" = some (.ref Z.a_read)
  f__law_told : Fun K "_law_told" "_law_told" s__law_told Z.a__law_told Z.d__law_told
  b__law_told : Binds K Z.d__law_told ["_law_text"] []
  g__law_told : mg "_law_told" = some (.ref Z.a__law_told)
  f__law_say : Fun K "_law_say" "_law_say" s__law_say Z.a__law_say Z.d__law_say
  b__law_say : Binds K Z.d__law_say ["_law_net_here"] []
  g__law_say : mg "_law_say" = some (.ref Z.a__law_say)
  f__law_rising : Fun K "_law_rising" "_law_rising" s__law_rising Z.a__law_rising Z.d__law_rising
  b__law_rising : Binds K Z.d__law_rising ["_law_some", "_law_most"] []
  g__law_rising : mg "_law_rising" = some (.ref Z.a__law_rising)
  f__law_read : Fun K "_law_read" "_law_read" s__law_read Z.a__law_read Z.d__law_read
  b__law_read : Binds K Z.d__law_read ["_law_text"] []
  g__law_read : mg "_law_read" = some (.ref Z.a__law_read)
  f_law : Fun K "law" "law" s_law Z.a_law Z.d_law
  b_law : Binds K Z.d_law ["_law_script"] []
  g_law : mg "law" = some (.ref Z.a_law)
  e_NoText : Err K mg "NoText" Z.x_NoText
section
variable {P : Program} {w : World} {K : PySem.W.Frag} {mg : Str → Option Value} {base : Heap} {Z : Ad}
set_option maxHeartbeats 4000000 in
theorem ok_written (C : Cx1 K mg Z) (T : Tx mg) : FnOk P w K mg base CX0 1 Z.a_written Z.d_written ["net"] (spF K 1 g_written) := by
  have sc := sc_written
  refine fn_run (k := 0) (N := N_written) C.f_written sc_written fun cdv A outer s H E hr => ?_
  have hU := un1 hr
  exact ((sss_cons (ss_asgG (is := [1, 2, 3]) (se_var 0) (sg_tup (by rfl) (sgs_cons (sg_name 1 sc.nd (by rfl) (by first | exact Or.inl rfl | exact Or.inr rfl) (by decide)) (sgs_cons (sg_name 2 sc.nd (by rfl) (by first | exact Or.inl rfl | exact Or.inr rfl) (by decide)) (sgs_cons (sg_name 3 sc.nd (by rfl) (by first | exact Or.inl rfl | exact Or.inr rfl) (by decide)) sgs_nil)))))
      (sss_one (ss_ret (se_op or_addD (se_op or_addD (se_op or_addD (se_js (.cons (se_fmt (se_var 1)) (.cons se_str .nil))) (SE.sw (se_join se_str (SL.se (sl_comp (own := [("one", 5), ("other", 6)]) (by rfl) sc.nd (si_seq (se_var 2)) (blkOk_by (own := [("one", 5), ("other", 6)]) (by rfl)) (fun _ _ _ _ _ => (sg_tup (by rfl) (sgs_cons (sg_name 5 sc.nd (by rfl) (by first | exact Or.inl rfl | exact Or.inr rfl) (by decide)) (sgs_cons (sg_name 6 sc.nd (by rfl) (by first | exact Or.inl rfl | exact Or.inr rfl) (by decide)) sgs_nil)))) (fun _ _ _ _ _ => sts_nil) (fun _ _ _ _ _ => (se_js (.cons (se_fmt (se_var 5)) (.cons (se_fmt (se_var 6)) .nil))))))))) (SE.sw se_str)) (SE.sw (se_join se_str (SL.se (sl_comp (own := [("knot", 4)]) (by rfl) sc.nd (si_seq (se_var 3)) (blkOk_by (own := [("knot", 4)]) (by rfl)) (fun _ _ _ _ _ => (sg_name 4 sc.nd (by rfl) (by first | exact Or.inl rfl | exact Or.inr rfl) (by decide))) (fun _ _ _ _ _ => sts_nil) (fun _ _ _ _ _ => (se_t1 cr_str (by rfl) T.z_str (by decide +kernel) (SE.sw (se_var 4)))))))))))))
set_option maxHeartbeats 4000000 in
theorem okr__law_same (C : Cx1 K mg Z) (T : Tx mg) : ∀ n, FnOk P w K mg base CX0 (0 + n) Z.a__law_same Z.d__law_same ["_law_got", "_law_due"] (spF K 2 (gr__law_same n))
  | 0 => spF_none
  | n + 1 => by
    have G := okr__law_same C T n
    have sc := sc__law_same
    refine fn_run (k := 0 + n) (N := N__law_same) C.f__law_same sc__law_same fun cdv A outer s H E hr => ?_
    have hU := un1 hr
    exact ((sss_cons (ss_if (st_cmp or_isB (se_var 1) (SE.sw se_non)) (sss_one (ss_ret (se_cmp or_isB (se_var 0) (SE.sw se_non)))) sss_nil)
      (sss_cons (ss_if (st_val (SE.sw (se_isi .bool (by rfl) T.z_isinstance (by rfl) T.z_bool (by decide +kernel) (SE.sw (se_var 1))))) (sss_one (ss_ret (se_and (se_isi .bool (by rfl) T.z_isinstance (by rfl) T.z_bool (by decide +kernel) (SE.sw (se_var 0))) (se_one (se_cmp (or_eqB hU.c64) (se_var 0) (SE.sw (se_var 1))))))) sss_nil)
      (sss_cons (ss_if (st_val (SE.sw (se_isi .tuple (by rfl) T.z_isinstance (by rfl) T.z_tuple (by decide +kernel) (SE.sw (se_var 1))))) (sss_cons (ss_if (SWt.st (sw_or (st_not (st_val (SE.sw (se_isi .tuple (by rfl) T.z_isinstance (by rfl) T.z_tuple (by decide +kernel) (SE.sw (se_var 0)))))) (sw_or1 (st_cmp (or_neB hU.c64) (se_b1 cr_len (by rfl) T.z_len (by decide +kernel) (SE.sw (se_var 0))) (SE.sw (se_b1 cr_len (by rfl) T.z_len (by decide +kernel) (SE.sw (se_var 1)))))))) (sss_one (ss_ret se_bl)) sss_nil)
      (sss_one (ss_ret (se_b1 (cr_allD (by rfl)) (by rfl) T.z_all (by decide +kernel) (SE.sw (SL.se (sl_comp (own := [("_law_one", 2), ("_law_other", 3)]) (by rfl) sc.nd (si_zip (by rfl) T.z_zip (se_var 0) (se_var 1)) (blkOk_by (own := [("_law_one", 2), ("_law_other", 3)]) (by rfl)) (fun _ _ _ _ _ => (sg_tup (by rfl) (sgs_cons (sg_name 2 sc.nd (by rfl) (by first | exact Or.inl rfl | exact Or.inr rfl) (by decide)) (sgs_cons (sg_name 3 sc.nd (by rfl) (by first | exact Or.inl rfl | exact Or.inr rfl) (by decide)) sgs_nil)))) (fun _ _ _ _ _ => sts_nil) (fun _ _ _ _ _ => (se_call G hr (by rfl) C.g__law_same C.f__law_same.kp C.b__law_same (sa_cons (se_var 2) (sa_cons (se_var 3) sa_nil)) (by rfl)))))))))) sss_nil)
      (sss_cons (ss_if (st_val (SE.sw (se_isi .str (by rfl) T.z_isinstance (by rfl) T.z_str (by decide +kernel) (SE.sw (se_var 1))))) (sss_one (ss_ret (se_and (se_isi .str (by rfl) T.z_isinstance (by rfl) T.z_str (by decide +kernel) (SE.sw (se_var 0))) (se_one (se_cmp (or_eqB hU.c64) (se_var 0) (SE.sw (se_var 1))))))) sss_nil)
      (sss_one (ss_ret (se_and (se_isi .int (by rfl) T.z_isinstance (by rfl) T.z_int (by decide +kernel) (SE.sw (se_var 0))) (se_and (se_not (SE.sw (se_isi .bool (by rfl) T.z_isinstance (by rfl) T.z_bool (by decide +kernel) (SE.sw (se_var 0))))) (se_one (se_cmp (or_eqB hU.c64) (se_var 0) (SE.sw (se_var 1)))))))))))))
theorem ok__law_same (C : Cx1 K mg Z) (T : Tx mg) : FnOk P w K mg base CX0 40 Z.a__law_same Z.d__law_same ["_law_got", "_law_due"] (spF K 2 g__law_same) := okr__law_same C T 40
set_option maxHeartbeats 4000000 in
theorem ok__law_or (C : Cx1 K mg Z) (T : Tx mg) : FnOk P w K mg base CX0 1 Z.a__law_or Z.d__law_or ["_law_due"] (spF K 1 g__law_or) := by
  have sc := sc__law_or
  refine fn_run (k := 0) (N := N__law_or) C.f__law_or sc__law_or fun cdv A outer s H E hr => ?_
  have hU := un1 hr
  exact ((sss_cons (ss_if (st_cmp or_isB (se_var 0) (SE.sw se_non)) (sss_one (ss_ret se_str)) sss_nil)
      (sss_one (ss_ret (se_var 0)))))
set_option maxHeartbeats 4000000 in
theorem ok__law_draw (C : Cx1 K mg Z) (T : Tx mg) : FnOk P w K mg base CX0 1 Z.a__law_draw Z.d__law_draw ["_law_script", "_law_town", "_law_many"] (spR K 3 1 g__law_draw) := by
  have sc := sc__law_draw
  refine fn_runR 1 (k := 0) (N := N__law_draw) C.f__law_draw sc__law_draw fun cdv A outer s H E hr => ?_
  have hU := un1 hr
  exact ((sss_cons (ss_expr (se_app 1 se_int))
      (sss_cons (ss_asg 3 sc.nd (se_b1 cr_len (by rfl) T.z_len (by decide +kernel) (sw_own 1)))
      (sss_cons (ss_asg 4 sc.nd se_int)
      (sss_cons (ss_if (st_val (SE.sw (se_var 0))) (sss_one (ss_asg 4 sc.nd (se_ix (se_var 0) (se_op or_modD (se_var 3) (SE.sw (se_b1 cr_len (by rfl) T.z_len (by decide +kernel) (SE.sw (se_var 0)))))))) sss_nil)
      (sss_cons (ss_asg 5 sc.nd (se_op or_modD (se_op or_addD (se_var 4) (SE.sw (se_op or_mulD se_int (SE.sw (se_var 3))))) (SE.sw se_int)))
      (sss_cons (ss_asg 5 sc.nd (se_op or_modD (se_op or_mulD (se_op or_modD (se_op or_mulD (se_var 5) (SE.sw (se_var 5))) (SE.sw se_int)) (SE.sw se_int)) (SE.sw se_int)))
      (sss_one (ss_ret (se_op or_modD (se_op or_fdivD (se_var 5) (SE.sw se_int)) (SE.sw (se_var 2))))))))))))
set_option maxHeartbeats 4000000 in
theorem ok__law_pick (C : Cx1 K mg Z) (T : Tx mg) : FnOk P w K mg base CX0 2 Z.a__law_pick Z.d__law_pick ["_law_script", "_law_town", "_law_some"] (spR K 3 1 g__law_pick) := by
  have sc := sc__law_pick
  refine fn_runR 1 (k := 1) (N := N__law_pick) C.f__law_pick sc__law_pick fun cdv A outer s H E hr => ?_
  have hU := un1 hr
  exact ((sss_one (ss_ret (se_ix (se_var 2) (se_callR (ok__law_draw C T) (hr.mono (by omega)) (by rfl) C.g__law_draw C.f__law_draw.kp C.b__law_draw (sar_there (se_var 0) (sar_here 1 (sa_cons (se_b1 cr_len (by rfl) T.z_len (by decide +kernel) (SE.sw (se_var 2))) sa_nil))) (by rfl))))))
set_option maxHeartbeats 4000000 in
theorem ok__law_net (C : Cx1 K mg Z) (T : Tx mg) : FnOk P w K mg base CX0 3 Z.a__law_net Z.d__law_net ["_law_script", "_law_town", "_law_high", "_law_wide"] (spR K 4 1 g__law_net) := by
  have sc := sc__law_net
  refine fn_runR 1 (k := 2) (N := N__law_net) C.f__law_net sc__law_net fun cdv A outer s H E hr => ?_
  have hU := un1 hr
  exact ((sss_cons (ss_asg 4 sc.nd (se_op or_addD se_int (SE.sw (se_callR (ok__law_draw C T) (hr.mono (by omega)) (by rfl) C.g__law_draw C.f__law_draw.kp C.b__law_draw (sar_there (se_var 0) (sar_here 1 (sa_cons (se_var 2) sa_nil))) (by rfl)))))
      (sss_cons (ss_asg 5 sc.nd (SL.se (sl_lst sa_nil)))
      (sss_cons (ss_for (is := [6]) PassesOwn.never (by rfl) (si_range1 (by rfl) T.z_range (se_var 4)) (sg_name 6 sc.nd (by rfl) (by first | exact Or.inl rfl | exact Or.inr rfl) (by decide)) (sss_one (ss_asg 5 sc.nd (se_op or_addD (se_var 5) (SE.sw (SL.se (sl_comp (own := [("_law_other", 11)]) (by rfl) sc.nd (si_range2 (by rfl) T.z_range (se_op or_addD (se_var 6) (SE.sw se_int)) (se_var 4)) (blkOk_by (own := [("_law_other", 11)]) (by rfl)) (fun _ _ _ _ _ => (sg_name 11 sc.nd (by rfl) (by first | exact Or.inl rfl | exact Or.inr rfl) (by decide))) (fun _ _ _ _ _ => sts_nil) (fun _ _ _ _ _ => (se_tup (sa_cons (se_var 6) (sa_cons (se_var 11) sa_nil)))))))))))
      (sss_cons (ss_newD 7 true sc.nd)
      (sss_cons (ss_if (st_cmp (or_gtD hU.c64) (se_callR (ok__law_draw C T) (hr.mono (by omega)) (by rfl) C.g__law_draw C.f__law_draw.kp C.b__law_draw (sar_there (se_var 0) (sar_here 1 (sa_cons se_int sa_nil))) (by rfl)) (SE.sw se_int)) (sss_one (ss_for (is := [10]) PassesOwn.never (by rfl) (si_range2 (by rfl) T.z_range se_int (se_var 4)) (sg_name 10 sc.nd (by rfl) (by first | exact Or.inl rfl | exact Or.inr rfl) (by decide)) (sss_cons (ss_asg 11 sc.nd (se_callR (ok__law_draw C T) (hr.mono (by omega)) (by rfl) C.g__law_draw C.f__law_draw.kp C.b__law_draw (sar_there (se_var 0) (sar_here 1 (sa_cons (se_var 10) sa_nil))) (by rfl)))
      (sss_one (ss_put 7 hU.c1 (se_tup (sa_cons (se_var 11) (sa_cons (se_var 10) sa_nil))) se_int))))) sss_nil)
      (sss_cons (ss_for (is := [8]) PassesOwn.never (by rfl) (si_range1 (by rfl) T.z_range (se_callR (ok__law_draw C T) (hr.mono (by omega)) (by rfl) C.g__law_draw C.f__law_draw.kp C.b__law_draw (sar_there (se_var 0) (sar_here 1 (sa_cons (se_op or_addD (se_var 3) (SE.sw se_int)) sa_nil))) (by rfl))) (sg_name 8 sc.nd (by rfl) (by first | exact Or.inl rfl | exact Or.inr rfl) (by decide)) (sss_one (ss_if (SWt.st (sw_and (st_val (SE.sw (se_var 5))) (sw_and1 (st_cmp (or_ltB hU.c0) (se_lenD 7 (by rfl) T.z_len) (SE.sw (se_var 3)))))) (sss_one (ss_put 7 hU.c1 (se_callR (ok__law_pick C T) (hr.mono (by omega)) (by rfl) C.g__law_pick C.f__law_pick.kp C.b__law_pick (sar_there (se_var 0) (sar_here 1 (sa_cons (se_var 5) sa_nil))) (by rfl)) se_int)) sss_nil)))
      (sss_cons (ss_compD 9 (own := [("_law_knot", 10)]) (by rfl) sc.nd (si_range1 (by rfl) T.z_range (se_var 4)) (blkOk_by (own := [("_law_knot", 10)]) (by rfl)) (fun _ _ _ _ _ => (sg_name 10 sc.nd (by rfl) (by first | exact Or.inl rfl | exact Or.inr rfl) (by decide))) (fun _ _ _ _ _ => (sts_one (st_cmp (or_eqB hU.c64) (se_callR (ok__law_draw C T) (hr.mono (by omega)) (by rfl) C.g__law_draw C.f__law_draw.kp C.b__law_draw (sar_there (se_var 0) (sar_here 1 (sa_cons se_int sa_nil))) (by rfl)) (SE.sw se_int)))) (fun _ _ _ _ _ => (se_var 10)) (sw_true (by rfl) (by rfl) (by rfl) (by decide +kernel)))
      (sss_cons (ss_if (st_not (st_val (SE.sw (se_var 9)))) (sss_one (ss_asg 9 sc.nd (SL.se (sl_lst (sa_cons (se_callR (ok__law_draw C T) (hr.mono (by omega)) (by rfl) C.g__law_draw C.f__law_draw.kp C.b__law_draw (sar_there (se_var 0) (sar_here 1 (sa_cons (se_var 4) sa_nil))) (by rfl)) sa_nil))))) sss_nil)
      (sss_one (ss_ret (se_tup (sa_cons (se_var 4) (sa_cons (se_sl (se_t1 cr_tuple (by rfl) T.z_tuple (by decide +kernel) (SE.sw (se_sortD 7 hU.c100 (by rfl) (by rfl) T.z_sorted))) sp_none (sp_some (se_var 3))) (sa_cons (se_t1 cr_tuple (by rfl) T.z_tuple (by decide +kernel) (SE.sw (se_var 9))) sa_nil)))))))))))))))
set_option maxHeartbeats 4000000 in
theorem ok_is_whole (C : Cx1 K mg Z) (T : Tx mg) : FnOk P w K mg base CX0 1 Z.a_is_whole Z.d_is_whole ["thing", "low", "high"] (spF K 3 g_is_whole) := by
  have sc := sc_is_whole
  refine fn_run (k := 0) (N := N_is_whole) C.f_is_whole sc_is_whole fun cdv A outer s H E hr => ?_
  have hU := un1 hr
  exact ((sss_one (ss_ret (se_and (se_isi .int (by rfl) T.z_isinstance (by rfl) T.z_int (by decide +kernel) (SE.sw (se_var 0))) (se_and (se_not (SE.sw (se_isi .bool (by rfl) T.z_isinstance (by rfl) T.z_bool (by decide +kernel) (SE.sw (se_var 0))))) (se_one (se_chain (or_leB hU.c0) (or_leB hU.c0) (se_var 1) (se_var 0) (SE.sw (se_var 2)))))))))
set_option maxHeartbeats 4000000 in
theorem ok_are_rising (C : Cx1 K mg Z) (T : Tx mg) : FnOk P w K mg base CX0 1 Z.a_are_rising Z.d_are_rising ["row"] (spF K 1 g_are_rising) := by
  have sc := sc_are_rising
  refine fn_run (k := 0) (N := N_are_rising) C.f_are_rising sc_are_rising fun cdv A outer s H E hr => ?_
  have hU := un1 hr
  exact ((sss_one (ss_ret (se_b1 (cr_allD (by rfl)) (by rfl) T.z_all (by decide +kernel) (SE.sw (SL.se (sl_comp (own := [("one", 1), ("two", 2)]) (by rfl) sc.nd (si_zip (by rfl) T.z_zip (se_sl (se_var 0) sp_none (sp_some (se_neg se_int))) (se_sl (se_var 0) (sp_some se_int) sp_none)) (blkOk_by (own := [("one", 1), ("two", 2)]) (by rfl)) (fun _ _ _ _ _ => (sg_tup (by rfl) (sgs_cons (sg_name 1 sc.nd (by rfl) (by first | exact Or.inl rfl | exact Or.inr rfl) (by decide)) (sgs_cons (sg_name 2 sc.nd (by rfl) (by first | exact Or.inl rfl | exact Or.inr rfl) (by decide)) sgs_nil)))) (fun _ _ _ _ _ => sts_nil) (fun _ _ _ _ _ => (se_cmp (or_ltB hU.c0) (se_var 1) (SE.sw (se_var 2)))))))))))
set_option maxHeartbeats 4000000 in
theorem ok_is_tie (C : Cx1 K mg Z) (T : Tx mg) : FnOk P w K mg base CX0 2 Z.a_is_tie Z.d_is_tie ["thing", "many"] (spF K 2 g_is_tie) := by
  have sc := sc_is_tie
  refine fn_run (k := 1) (N := N_is_tie) C.f_is_tie sc_is_tie fun cdv A outer s H E hr => ?_
  have hU := un1 hr
  exact ((sss_cons (ss_if (SWt.st (sw_or (st_not (st_val (SE.sw (se_isi .tuple (by rfl) T.z_isinstance (by rfl) T.z_tuple (by decide +kernel) (SE.sw (se_var 0)))))) (sw_or (st_cmp (or_neB hU.c64) (se_b1 cr_len (by rfl) T.z_len (by decide +kernel) (SE.sw (se_var 0))) (SE.sw se_int)) (sw_or1 (st_not (st_val (SE.sw (se_b1 (cr_allD (by rfl)) (by rfl) T.z_all (by decide +kernel) (SE.sw (SL.se (sl_comp (own := [("one", 2)]) (by rfl) sc.nd (si_seq (se_var 0)) (blkOk_by (own := [("one", 2)]) (by rfl)) (fun _ _ _ _ _ => (sg_name 2 sc.nd (by rfl) (by first | exact Or.inl rfl | exact Or.inr rfl) (by decide))) (fun _ _ _ _ _ => sts_nil) (fun _ _ _ _ _ => (se_call (ok_is_whole C T) (hr.mono (by omega)) (by rfl) C.g_is_whole C.f_is_whole.kp C.b_is_whole (sa_cons (se_var 2) (sa_cons se_int (sa_cons (se_op or_subD (se_var 1) (SE.sw se_int)) sa_nil))) (by rfl)))))))))))))) (sss_one (ss_ret se_bl)) sss_nil)
      (sss_one (ss_ret (se_cmp (or_ltB hU.c0) (se_ix (se_var 0) se_int) (SE.sw (se_ix (se_var 0) se_int)))))))
set_option maxHeartbeats 4000000 in
theorem ok_is_net (C : Cx1 K mg Z) (T : Tx mg) : FnOk P w K mg base CX0 3 Z.a_is_net Z.d_is_net ["thing"] (spF K 1 g_is_net) := by
  have sc := sc_is_net
  refine fn_run (k := 2) (N := N_is_net) C.f_is_net sc_is_net fun cdv A outer s H E hr => ?_
  have hU := un1 hr
  exact ((sss_cons (ss_if (SWt.st (sw_or (st_not (st_val (SE.sw (se_isi .tuple (by rfl) T.z_isinstance (by rfl) T.z_tuple (by decide +kernel) (SE.sw (se_var 0)))))) (sw_or (st_cmp (or_neB hU.c64) (se_b1 cr_len (by rfl) T.z_len (by decide +kernel) (SE.sw (se_var 0))) (SE.sw se_int)) (sw_or1 (st_not (st_val (SE.sw (se_call (ok_is_whole C T) (hr.mono (by omega)) (by rfl) C.g_is_whole C.f_is_whole.kp C.b_is_whole (sa_cons (se_ix (se_var 0) se_int) (sa_cons se_int (sa_cons (se_globI (by rfl) T.m_KNOTS_MOST) sa_nil))) (by rfl))))))))) (sss_one (ss_ret se_bl)) sss_nil)
      (sss_cons (ss_asgG (is := [1, 2, 3]) (se_var 0) (sg_tup (by rfl) (sgs_cons (sg_name 1 sc.nd (by rfl) (by first | exact Or.inl rfl | exact Or.inr rfl) (by decide)) (sgs_cons (sg_name 2 sc.nd (by rfl) (by first | exact Or.inl rfl | exact Or.inr rfl) (by decide)) (sgs_cons (sg_name 3 sc.nd (by rfl) (by first | exact Or.inl rfl | exact Or.inr rfl) (by decide)) sgs_nil)))))
      (sss_cons (ss_if (SWt.st (sw_or (st_not (st_val (SE.sw (se_isi .tuple (by rfl) T.z_isinstance (by rfl) T.z_tuple (by decide +kernel) (SE.sw (se_var 2)))))) (sw_or (st_cmp (or_gtD hU.c64) (se_b1 cr_len (by rfl) T.z_len (by decide +kernel) (SE.sw (se_var 2))) (SE.sw (se_globI (by rfl) T.m_TIES_MOST))) (sw_or1 (st_not (st_val (SE.sw (se_b1 (cr_allD (by rfl)) (by rfl) T.z_all (by decide +kernel) (SE.sw (SL.se (sl_comp (own := [("tie", 4)]) (by rfl) sc.nd (si_seq (se_var 2)) (blkOk_by (own := [("tie", 4)]) (by rfl)) (fun _ _ _ _ _ => (sg_name 4 sc.nd (by rfl) (by first | exact Or.inl rfl | exact Or.inr rfl) (by decide))) (fun _ _ _ _ _ => sts_nil) (fun _ _ _ _ _ => (se_call (ok_is_tie C T) (hr.mono (by omega)) (by rfl) C.g_is_tie C.f_is_tie.kp C.b_is_tie (sa_cons (se_var 4) (sa_cons (se_var 1) sa_nil)) (by rfl)))))))))))))) (sss_one (ss_ret se_bl)) sss_nil)
      (sss_cons (ss_if (SWt.st (sw_or (st_not (st_val (SE.sw (se_isi .tuple (by rfl) T.z_isinstance (by rfl) T.z_tuple (by decide +kernel) (SE.sw (se_var 3)))))) (sw_or (st_cmp (or_eqB hU.c64) (se_var 3) (SE.sw (se_tup sa_nil))) (sw_or1 (st_not (st_val (SE.sw (se_b1 (cr_allD (by rfl)) (by rfl) T.z_all (by decide +kernel) (SE.sw (SL.se (sl_comp (own := [("knot", 5)]) (by rfl) sc.nd (si_seq (se_var 3)) (blkOk_by (own := [("knot", 5)]) (by rfl)) (fun _ _ _ _ _ => (sg_name 5 sc.nd (by rfl) (by first | exact Or.inl rfl | exact Or.inr rfl) (by decide))) (fun _ _ _ _ _ => sts_nil) (fun _ _ _ _ _ => (se_call (ok_is_whole C T) (hr.mono (by omega)) (by rfl) C.g_is_whole C.f_is_whole.kp C.b_is_whole (sa_cons (se_var 5) (sa_cons se_int (sa_cons (se_op or_subD (se_var 1) (SE.sw se_int)) sa_nil))) (by rfl)))))))))))))) (sss_one (ss_ret se_bl)) sss_nil)
      (sss_one (ss_ret (se_and (se_call (ok_are_rising C T) (hr.mono (by omega)) (by rfl) C.g_are_rising C.f_are_rising.kp C.b_are_rising (sa_cons (se_var 2) sa_nil) (by rfl)) (se_one (se_call (ok_are_rising C T) (hr.mono (by omega)) (by rfl) C.g_are_rising C.f_are_rising.kp C.b_are_rising (sa_cons (se_var 3) sa_nil) (by rfl)))))))))))
set_option maxHeartbeats 4000000 in
theorem okX_figure_in (C : Cx1 K mg Z) (T : Tx mg) : FnOk P w K mg base (L2.CX P w) 1 Z.a_figure_in Z.d_figure_in ["sign"] (spX K mg 1 gX_figure_in) := by
  have sc := sc_figure_in
  refine fn_runX (k := 0) (N := N_figure_in) C.f_figure_in sc_figure_in fun cdv A outer s H E hr => ?_
  have hU := un1 hr
  exact ((sss_cons (ss_if (SWt.st (sw_or (st_cmp (or_neB hU.c64) (se_b1 cr_len (by rfl) T.z_len (by decide +kernel) (SE.sw (se_var 0))) (SE.sw se_int)) (sw_or1 (st_cmp or_notInSB (se_var 0) (SE.sw (se_globS (by rfl) T.m_FIGURES)))))) (sss_one (ss_raise (by rfl) (takes_of rfl rfl rfl rfl) C.e_NoText (by rfl) (by decide +kernel))) sss_nil)
      (sss_one (ss_ret (se_t1 cr_intS (by rfl) T.z_int (by decide +kernel) (SE.sw (se_var 0)))))))
set_option maxHeartbeats 4000000 in
theorem okX_tie_in (C : Cx1 K mg Z) (T : Tx mg) : FnOk P w K mg base (L2.CX P w) 2 Z.a_tie_in Z.d_tie_in ["part"] (spX K mg 1 gX_tie_in) := by
  have sc := sc_tie_in
  refine fn_runX (k := 1) (N := N_tie_in) C.f_tie_in sc_tie_in fun cdv A outer s H E hr => ?_
  have hU := un1 hr
  exact ((sss_cons (ss_if (st_cmp (or_neB hU.c64) (se_b1 cr_len (by rfl) T.z_len (by decide +kernel) (SE.sw (se_var 0))) (SE.sw se_int)) (sss_one (ss_raise (by rfl) (takes_of rfl rfl rfl rfl) C.e_NoText (by rfl) (by decide +kernel))) sss_nil)
      (sss_one (ss_retx (sex_tup (sax_cons (sex_call (okX_figure_in C T) (hr.mono (by omega)) (by rfl) C.g_figure_in C.f_figure_in.kp C.b_figure_in (sa_cons (se_ix (se_var 0) se_int) sa_nil) (by rfl) (passes_at (takes_of rfl rfl rfl rfl))) (sax_cons (sex_call (okX_figure_in C T) (hr.mono (by omega)) (by rfl) C.g_figure_in C.f_figure_in.kp C.b_figure_in (sa_cons (se_ix (se_var 0) se_int) sa_nil) (by rfl) (passes_at (takes_of rfl rfl rfl rfl))) sax_nil)))))))
set_option maxHeartbeats 4000000 in
theorem okX_read (C : Cx1 K mg Z) (T : Tx mg) : FnOk P w K mg base (L2.CX P w) 4 Z.a_read Z.d_read ["text"] (spX K mg 1 gX_read) := by
  have sc := sc_read
  refine fn_runX (k := 3) (N := N_read) C.f_read sc_read fun cdv A outer s H E hr => ?_
  have hU := un1 hr
  exact ((sss_cons (ss_asg 1 sc.nd (SL.se (sl_split (se_var 0) se_str)))
      (sss_cons (ss_if (st_cmp (or_neB hU.c64) (se_b1 cr_len (by rfl) T.z_len (by decide +kernel) (SE.sw (se_var 1))) (SE.sw se_int)) (sss_one (ss_raise (by rfl) (takes_of rfl rfl rfl rfl) C.e_NoText (by rfl) (by decide +kernel))) sss_nil)
      (sss_cons (ss_asg 2 sc.nd (se_tup sa_nil))
      (sss_cons (ss_wip [4] (ss_if (st_cmp (or_neB hU.c64) (se_ix (se_var 1) se_int) (SE.sw se_str)) (sss_one (ss_asgx 2 sc.nd (sex_t1 cr_tuple (by rfl) T.z_tuple (by decide +kernel) (SLx.se (slx_comp (own := [("part", 4)]) rfl rfl (takes_of rfl rfl rfl rfl) (by rfl) sc.nd (si_seq (SL.se (sl_split (se_ix (se_var 1) se_int) se_str))) (blkOk_by (own := [("part", 4)]) (by rfl)) (fun _ _ _ _ _ => (sg_name 4 sc.nd (by rfl) (by first | exact Or.inl rfl | exact Or.inr rfl) (by decide))) (fun _ _ _ _ _ => (sex_call (okX_tie_in C T) (hr.mono (by omega)) (by rfl) C.g_tie_in C.f_tie_in.kp C.b_tie_in (sa_cons (se_var 4) sa_nil) (by rfl) (passes_out rfl)))))))) sss_nil))
      (sss_cons (ss_asgx 3 sc.nd (sex_tup (sax_cons (sex_call (okX_figure_in C T) (hr.mono (by omega)) (by rfl) C.g_figure_in C.f_figure_in.kp C.b_figure_in (sa_cons (se_ix (se_var 1) se_int) sa_nil) (by rfl) (passes_at (takes_of rfl rfl rfl rfl))) (sax_cons (sex_of (se_var 2)) (sax_cons (sex_t1 cr_tuple (by rfl) T.z_tuple (by decide +kernel) (SLx.se (slx_comp (own := [("sign", 5)]) rfl rfl (takes_of rfl rfl rfl rfl) (by rfl) sc.nd (si_str (se_ix (se_var 1) se_int)) (blkOk_by (own := [("sign", 5)]) (by rfl)) (fun _ _ _ _ _ => (sg_name 5 sc.nd (by rfl) (by first | exact Or.inl rfl | exact Or.inr rfl) (by decide))) (fun _ _ _ _ _ => (sex_call (okX_figure_in C T) (hr.mono (by omega)) (by rfl) C.g_figure_in C.f_figure_in.kp C.b_figure_in (sa_cons (se_var 5) sa_nil) (by rfl) (passes_out rfl)))))) sax_nil)))))
      (sss_cons (ss_if (SWt.st (sw_or (st_not (st_val (SE.sw (se_call (ok_is_net C T) (hr.mono (by omega)) (by rfl) C.g_is_net C.f_is_net.kp C.b_is_net (sa_cons (se_var 3) sa_nil) (by rfl))))) (sw_or1 (st_cmp (or_neB hU.c64) (se_call (ok_written C T) (hr.mono (by omega)) (by rfl) C.g_written C.f_written.kp C.b_written (sa_cons (se_var 3) sa_nil) (by rfl)) (SE.sw (se_var 0)))))) (sss_one (ss_raise (by rfl) (takes_of rfl rfl rfl rfl) C.e_NoText (by rfl) (by decide +kernel))) sss_nil)
      (sss_one (ss_ret (se_var 3))))))))))
set_option maxHeartbeats 4000000 in
theorem ok__law_told (C : Cx1 K mg Z) (T : Tx mg) : FnOk P w K mg base CX0 5 Z.a__law_told Z.d__law_told ["_law_text"] (spF K 1 g__law_told) := by
  have sc := sc__law_told
  refine fn_run (k := 4) (N := N__law_told) C.f__law_told sc__law_told fun cdv A outer s H E hr => ?_
  have hU := un1 hr
  exact ((sss_cons (ss_asg 1 sc.nd se_non)
      (sss_cons (ss_try 1 sc.nd (okX_read C T) (hr.mono (by omega)) (by rfl) C.g_read C.f_read.kp C.b_read (fun _ _ => (sa_cons (se_var 0) sa_nil)) (by rfl) C.e_NoText (by rfl) (by decide +kernel) rfl rfl (fun _ _ => (sss_one (ss_asg 1 sc.nd se_str))))
      (sss_one (ss_ret (se_var 1))))))
set_option maxHeartbeats 4000000 in
theorem ok__law_say (C : Cx1 K mg Z) (T : Tx mg) : FnOk P w K mg base CX0 1 Z.a__law_say Z.d__law_say ["_law_net_here"] (spF K 1 g__law_say) := by
  have sc := sc__law_say
  refine fn_run (k := 0) (N := N__law_say) C.f__law_say sc__law_say fun cdv A outer s H E hr => ?_
  have hU := un1 hr
  exact ((sss_cons (ss_asg 1 sc.nd (se_op or_addD (se_t1 cr_str (by rfl) T.z_str (by decide +kernel) (SE.sw (se_ix (se_var 0) se_int))) (SE.sw se_str)))
      (sss_cons (ss_pre [3, 4] (ss_for (is := [3, 4]) PassesOwn.never (by rfl) (si_enum (by rfl) T.z_enumerate (se_ix (se_var 0) se_int)) (sg_tup (by rfl) (sgs_cons (sg_name 3 sc.nd (by rfl) (by first | exact Or.inl rfl | exact Or.inr rfl) (by decide)) (sgs_cons (sg_name 4 sc.nd (by rfl) (by first | exact Or.inl rfl | exact Or.inr rfl) (by decide)) sgs_nil))) (sss_wip [3, 4] (sss_one (ss_asg 1 sc.nd (se_op or_addD (se_op or_addD (se_op or_addD (se_var 1) (SE.sw (se_op or_mulS se_str (SE.sw (se_t1 cr_int (by rfl) T.z_int (by decide +kernel) (SE.sw (se_cmp (or_gtD hU.c64) (se_var 3) (SE.sw se_int)))))))) (SE.sw (se_t1 cr_str (by rfl) T.z_str (by decide +kernel) (SE.sw (se_ix (se_var 4) se_int))))) (SE.sw (se_t1 cr_str (by rfl) T.z_str (by decide +kernel) (SE.sw (se_ix (se_var 4) se_int))))))))))
      (sss_cons (ss_asg 1 sc.nd (se_op or_addD (se_var 1) (SE.sw se_str)))
      (sss_cons (ss_pre [2] (ss_for (is := [2]) PassesOwn.never (by rfl) (si_seq (se_ix (se_var 0) se_int)) (sg_name 2 sc.nd (by rfl) (by first | exact Or.inl rfl | exact Or.inr rfl) (by decide)) (sss_wip [2] (sss_one (ss_asg 1 sc.nd (se_op or_addD (se_var 1) (SE.sw (se_t1 cr_str (by rfl) T.z_str (by decide +kernel) (SE.sw (se_var 2))))))))))
      (sss_one (ss_ret (se_var 1))))))))
set_option maxHeartbeats 4000000 in
theorem ok__law_rising (C : Cx1 K mg Z) (T : Tx mg) : FnOk P w K mg base CX0 1 Z.a__law_rising Z.d__law_rising ["_law_some", "_law_most"] (spF K 2 g__law_rising) := by
  have sc := sc__law_rising
  refine fn_run (k := 0) (N := N__law_rising) C.f__law_rising sc__law_rising fun cdv A outer s H E hr => ?_
  have hU := un1 hr
  exact ((sss_one (ss_ret (se_and (se_cmp (or_eqB hU.c64) (se_t1 cr_list (by rfl) T.z_list (by decide +kernel) (SE.sw (se_var 0))) (SE.sw (se_either sortDictB_or (se_sortDict (by rfl) (by rfl) T.z_sorted (by rfl) T.z_dict (SL.se (sl_comp (own := [("_law_one", 2)]) (by rfl) sc.nd (si_seq (se_var 0)) (blkOk_by (own := [("_law_one", 2)]) (by rfl)) (fun _ _ _ _ _ => (sg_name 2 sc.nd (by rfl) (by first | exact Or.inl rfl | exact Or.inr rfl) (by decide))) (fun _ _ _ _ _ => sts_nil) (fun _ _ _ _ _ => (se_tup (sa_cons (se_var 2) (sa_cons se_int sa_nil))))))) (se_sortDictT (by rfl) hU.c100 (by rfl) T.z_sorted (by rfl) T.z_dict (SL.se (sl_comp (own := [("_law_one", 2)]) (by rfl) sc.nd (si_seq (se_var 0)) (blkOk_by (own := [("_law_one", 2)]) (by rfl)) (fun _ _ _ _ _ => (sg_name 2 sc.nd (by rfl) (by first | exact Or.inl rfl | exact Or.inr rfl) (by decide))) (fun _ _ _ _ _ => sts_nil) (fun _ _ _ _ _ => (se_tup (sa_cons (se_var 2) (sa_cons se_int sa_nil)))))))))) (se_one (se_cmp (or_leB hU.c0) (se_b1 cr_len (by rfl) T.z_len (by decide +kernel) (SE.sw (se_var 0))) (SE.sw (se_var 1))))))))
set_option maxHeartbeats 4000000 in
theorem ok__law_read (C : Cx1 K mg Z) (T : Tx mg) : FnOk P w K mg base CX0 2 Z.a__law_read Z.d__law_read ["_law_text"] (spF K 1 g__law_read) := by
  have sc := sc__law_read
  refine fn_run (k := 1) (N := N__law_read) C.f__law_read sc__law_read fun cdv A outer s H E hr => ?_
  have hU := un1 hr
  exact ((sss_cons (ss_if (SWt.st (sw_or (st_cmp (or_ltB hU.c0) (se_b1 cr_len (by rfl) T.z_len (by decide +kernel) (SE.sw (se_var 0))) (SE.sw se_int)) (sw_or (st_cmp or_notInSB (se_ix (se_var 0) se_int) (SE.sw se_str)) (sw_or (st_cmp (or_neB hU.c64) (se_ix (se_var 0) se_int) (SE.sw se_str)) (sw_or1 (st_cmp (or_neB hU.c64) (se_countS (se_var 0) se_str) (SE.sw se_int))))))) (sss_one (ss_ret se_non)) sss_nil)
      (sss_cons (ss_asg 1 sc.nd (se_t1 cr_intS (by rfl) T.z_int (by decide +kernel) (SE.sw (se_ix (se_var 0) se_int))))
      (sss_cons (ss_asg 2 sc.nd (se_sl se_str sp_none (sp_some (se_var 1))))
      (sss_cons (ss_asg 3 sc.nd (se_op or_addD (se_indexS (se_sl (se_var 0) (sp_some se_int) sp_none) se_str) (SE.sw se_int)))
      (sss_cons (ss_asgG (is := [6, 7]) (se_tup (sa_cons (se_tup sa_nil) (sa_cons (se_tup sa_nil) sa_nil))) (sg_tup (by rfl) (sgs_cons (sg_name 6 sc.nd (by rfl) (by first | exact Or.inl rfl | exact Or.inr rfl) (by decide)) (sgs_cons (sg_name 7 sc.nd (by rfl) (by first | exact Or.inl rfl | exact Or.inr rfl) (by decide)) sgs_nil))))
      (sss_cons (ss_pre [4] (ss_for (is := [4]) PassesOwn.never (by rfl) (si_seq (se_ite (st_cmp (or_gtD hU.c64) (se_var 3) (SE.sw se_int)) (SL.se (sl_split (se_sl (se_var 0) (sp_some se_int) (sp_some (se_var 3))) se_str)) (SL.se (sl_lst sa_nil)))) (sg_name 4 sc.nd (by rfl) (by first | exact Or.inl rfl | exact Or.inr rfl) (by decide)) (sss_wip [4] (sss_cons (ss_if (SWt.st (sw_or (st_cmp (or_neB hU.c64) (se_b1 cr_len (by rfl) T.z_len (by decide +kernel) (SE.sw (se_var 4))) (SE.sw se_int)) (sw_or (st_cmp or_notInSB (se_ix (se_var 4) se_int) (SE.sw (se_var 2))) (sw_or (st_cmp or_notInSB (se_ix (se_var 4) se_int) (SE.sw (se_var 2))) (sw_or1 (st_cmp or_geSB (se_ix (se_var 4) se_int) (SE.sw (se_ix (se_var 4) se_int)))))))) (sss_one (ss_ret se_non)) sss_nil)
      (sss_one (ss_asg 6 sc.nd (se_op or_addD (se_var 6) (SE.sw (se_tup (sa_cons (se_tup (sa_cons (se_t1 cr_intS (by rfl) T.z_int (by decide +kernel) (SE.sw (se_ix (se_var 4) se_int))) (sa_cons (se_t1 cr_intS (by rfl) T.z_int (by decide +kernel) (SE.sw (se_ix (se_var 4) se_int))) sa_nil))) sa_nil))))))))))
      (sss_cons (ss_pre [5] (ss_for (is := [5]) PassesOwn.never (by rfl) (si_str (se_sl (se_var 0) (sp_some (se_op or_addD (se_var 3) (SE.sw se_int))) sp_none)) (sg_name 5 sc.nd (by rfl) (by first | exact Or.inl rfl | exact Or.inr rfl) (by decide)) (sss_wip [5] (sss_cons (ss_if (st_cmp or_notInSB (se_var 5) (SE.sw (se_var 2))) (sss_one (ss_ret se_non)) sss_nil)
      (sss_one (ss_asg 7 sc.nd (se_op or_addD (se_var 7) (SE.sw (se_tup (sa_cons (se_t1 cr_intS (by rfl) T.z_int (by decide +kernel) (SE.sw (se_var 5))) sa_nil))))))))))
      (sss_cons (ss_if (SWt.st (sw_or (st_cmp (or_eqB hU.c64) (se_var 7) (SE.sw (se_tup sa_nil))) (sw_or (st_not (st_val (SE.sw (se_call (ok__law_rising C T) (hr.mono (by omega)) (by rfl) C.g__law_rising C.f__law_rising.kp C.b__law_rising (sa_cons (se_var 6) (sa_cons se_int sa_nil)) (by rfl))))) (sw_or1 (st_not (st_val (SE.sw (se_call (ok__law_rising C T) (hr.mono (by omega)) (by rfl) C.g__law_rising C.f__law_rising.kp C.b__law_rising (sa_cons (se_var 7) (sa_cons se_int sa_nil)) (by rfl))))))))) (sss_one (ss_ret se_non)) sss_nil)
      (sss_one (ss_ret (se_tup (sa_cons (se_var 1) (sa_cons (se_var 6) (sa_cons (se_var 7) sa_nil)))))))))))))))
set_option maxHeartbeats 4000000 in
theorem ok_law (C : Cx1 K mg Z) (T : Tx mg) : FnOk P w K mg base CX0 41 Z.a_law Z.d_law ["_law_script"] (spF K 1 g_law) := by
  have sc := sc_law
  refine fn_run (k := 40) (N := N_law) C.f_law sc_law fun cdv A outer s H E hr => ?_
  have hU := un1 hr
  exact ((sss_cons (ss_new 1 sc.nd (sl_lst sa_nil))
      (sss_cons (ss_pre [2, 3, 4, 5, 6, 7, 8, 9, 10, 11, 12] (ss_for (is := [2]) PassesOwn.never (by rfl) (si_range1 (by rfl) T.z_range se_int) (sg_name 2 sc.nd (by rfl) (by first | exact Or.inl rfl | exact Or.inr rfl) (by decide)) (sss_wip [2, 3, 4, 5, 6, 7, 8, 9, 10, 11, 12] (sss_cons (ss_asg 3 sc.nd (se_callR (ok__law_net C T) (hr.mono (by omega)) (by rfl) C.g__law_net C.f__law_net.kp C.b__law_net (sar_there (se_var 0) (sar_here 1 (sa_cons se_int (sa_cons se_int sa_nil)))) (by rfl)))
      (sss_cons (ss_asg 4 sc.nd (se_call (ok__law_say C T) (hr.mono (by omega)) (by rfl) C.g__law_say C.f__law_say.kp C.b__law_say (sa_cons (se_var 3) sa_nil) (by rfl)))
      (sss_cons (ss_if (SWt.st (sw_or (st_not (st_val (SE.sw (se_call (ok__law_same C T) (hr.mono (by omega)) (by rfl) C.g__law_same C.f__law_same.kp C.b__law_same (sa_cons (se_call (ok_written C T) (hr.mono (by omega)) (by rfl) C.g_written C.f_written.kp C.b_written (sa_cons (se_var 3) sa_nil) (by rfl)) (sa_cons (se_var 4) sa_nil)) (by rfl))))) (sw_or1 (st_not (st_val (SE.sw (se_call (ok__law_same C T) (hr.mono (by omega)) (by rfl) C.g__law_same C.f__law_same.kp C.b__law_same (sa_cons (se_call (ok__law_told C T) (hr.mono (by omega)) (by rfl) C.g__law_told C.f__law_told.kp C.b__law_told (sa_cons (se_var 4) sa_nil) (by rfl)) (sa_cons (se_var 3) sa_nil)) (by rfl)))))))) (sss_one (ss_ret se_bl)) sss_nil)
      (sss_cons (ss_new 5 sc.nd (sl_lst (sa_cons (se_op or_addD (se_var 4) (SE.sw (se_var 4))) (sa_cons (se_op or_addD se_str (SE.sw (se_var 4))) (sa_cons (se_op or_addD (se_var 4) (SE.sw se_str)) (sa_cons (se_revS (se_var 4)) (sa_cons se_str (sa_cons se_str (sa_cons se_str (sa_cons se_str (sa_cons se_str (sa_cons se_str (sa_cons se_str sa_nil)))))))))))))
      (sss_cons (ss_pre [6, 11, 12] (ss_for (is := [6]) PassesOwn.never (by rfl) (si_range1 (by rfl) T.z_range se_int) (sg_name 6 sc.nd (by rfl) (by first | exact Or.inl rfl | exact Or.inr rfl) (by decide)) (sss_wip [6, 11, 12] (sss_cons (ss_asg 11 sc.nd (se_callR (ok__law_draw C T) (hr.mono (by omega)) (by rfl) C.g__law_draw C.f__law_draw.kp C.b__law_draw (sar_there (se_var 0) (sar_here 1 (sa_cons (se_op or_addD (se_b1 cr_len (by rfl) T.z_len (by decide +kernel) (SE.sw (se_var 4))) (SE.sw se_int)) sa_nil))) (by rfl)))
      (sss_cons (ss_asg 12 sc.nd (se_callR (ok__law_pick C T) (hr.mono (by omega)) (by rfl) C.g__law_pick C.f__law_pick.kp C.b__law_pick (sar_there (se_var 0) (sar_here 1 (sa_cons se_str sa_nil))) (by rfl)))
      (sss_cons (ss_new 5 sc.nd (sl_catOwn 5 (SE.sw (SL.se (sl_lst (sa_cons (se_op or_addD (se_op or_addD (se_sl (se_var 4) sp_none (sp_some (se_var 11))) (SE.sw (se_var 12))) (SE.sw (se_sl (se_var 4) (sp_some (se_var 11)) sp_none))) (sa_cons (se_op or_addD (se_sl (se_var 4) sp_none (sp_some (se_var 11))) (SE.sw (se_sl (se_var 4) (sp_some (se_op or_addD (se_var 11) (SE.sw se_int))) sp_none))) (sa_cons (se_op or_addD (se_op or_addD (se_sl (se_var 4) sp_none (sp_some (se_var 11))) (SE.sw (se_var 12))) (SE.sw (se_sl (se_var 4) (sp_some (se_op or_addD (se_var 11) (SE.sw se_int))) sp_none))) sa_nil))))))))
      (sss_one (ss_expr (se_app 5 (se_op or_addD (se_op or_addD (se_sl (se_var 4) sp_none (sp_some (se_var 11))) (SE.sw (se_revS (se_sl (se_var 4) (sp_some (se_var 11)) (sp_some (se_op or_addD (se_var 11) (SE.sw se_int))))))) (SE.sw (se_sl (se_var 4) (sp_some (se_op or_addD (se_var 11) (SE.sw se_int))) sp_none))))))))))))
      (sss_cons (ss_asg 7 sc.nd (SL.se (sl_split (se_var 4) se_str)))
      (sss_cons (ss_asg 8 sc.nd (SL.se (sl_split (se_ix (se_var 7) se_int) se_str)))
      (sss_cons (ss_pre [9] (ss_for (is := [9]) PassesOwn.never (by rfl) (si_seq (se_tup (sa_cons (se_sl (se_var 8) (sp_some se_int) sp_none) (sa_cons (se_rev (se_var 8)) (sa_cons (se_op or_addD (se_var 8) (SE.sw (se_sl (se_var 8) sp_none (sp_some se_int)))) sa_nil))))) (sg_name 9 sc.nd (by rfl) (by first | exact Or.inl rfl | exact Or.inr rfl) (by decide)) (sss_wip [9] (sss_one (ss_expr (se_app 5 (se_join se_str (SL.se (sl_lst (sa_cons (se_ix (se_var 7) se_int) (sa_cons (se_join se_str (se_var 9)) (sa_cons (se_ix (se_var 7) se_int) sa_nil))))))))))))
      (sss_one (ss_pre [10] (ss_for (is := [10]) PassesOwn.never (by rfl) (si_seq (SL.se (sl_catOwn 5 (SE.sw (SL.se (sl_lst (sa_cons (se_join se_str (se_sl (se_var 7) sp_none (sp_some se_int))) (sa_cons (se_join se_str (se_op or_addD (se_var 7) (SE.sw (SL.se (sl_lst (sa_cons se_str sa_nil)))))) (sa_cons (se_join se_str (se_rev (se_var 7))) sa_nil))))))))) (sg_name 10 sc.nd (by rfl) (by first | exact Or.inl rfl | exact Or.inr rfl) (by decide)) (sss_wip [10] (sss_one (ss_if (st_not (st_val (SE.sw (se_call (ok__law_same C T) (hr.mono (by omega)) (by rfl) C.g__law_same C.f__law_same.kp C.b__law_same (sa_cons (se_call (ok__law_told C T) (hr.mono (by omega)) (by rfl) C.g__law_told C.f__law_told.kp C.b__law_told (sa_cons (se_var 10) sa_nil) (by rfl)) (sa_cons (se_call (ok__law_or C T) (hr.mono (by omega)) (by rfl) C.g__law_or C.f__law_or.kp C.b__law_or (sa_cons (se_call (ok__law_read C T) (hr.mono (by omega)) (by rfl) C.g__law_read C.f__law_read.kp C.b__law_read (sa_cons (se_var 10) sa_nil) (by rfl)) sa_nil) (by rfl)) sa_nil)) (by rfl))))) (sss_one (ss_ret se_bl)) sss_nil)))))))))))))))))
      (sss_one (ss_ret se_bl)))))
end
set_option maxHeartbeats 0 in
theorem all_mk {l : PySem.W.OpenLaw} {w : World} {K : PySem.W.Frag} {h : Heap} {mg : Str → Option Value} {fa : Addr} (X : K.In h) (G : h.Ns mainGlobals mg) (hfa : mg "law" = some (.ref fa))
    {f0 : Addr} {od0 an0 : Option Addr} {sl0 : Array (Option Value)} {oc0 kV0 dc0 pm0 cd0 ct0 : Value}
    {f1 : Addr} {od1 an1 : Option Addr} {sl1 : Array (Option Value)} {oc1 kV1 dc1 pm1 cd1 ct1 : Value}
    {f2 : Addr} {od2 an2 : Option Addr} {sl2 : Array (Option Value)} {oc2 kV2 dc2 pm2 cd2 ct2 : Value}
    {f3 : Addr} {od3 an3 : Option Addr} {sl3 : Array (Option Value)} {oc3 kV3 dc3 pm3 cd3 ct3 : Value}
    {f4 : Addr} {od4 an4 : Option Addr} {sl4 : Array (Option Value)} {oc4 kV4 dc4 pm4 cd4 ct4 : Value}
    {f5 : Addr} {od5 an5 : Option Addr} {sl5 : Array (Option Value)} {oc5 kV5 dc5 pm5 cd5 ct5 : Value}
    {f6 : Addr} {od6 an6 : Option Addr} {sl6 : Array (Option Value)} {oc6 kV6 dc6 pm6 cd6 ct6 : Value}
    {f7 : Addr} {od7 an7 : Option Addr} {sl7 : Array (Option Value)} {oc7 kV7 dc7 pm7 cd7 ct7 : Value}
    {f8 : Addr} {od8 an8 : Option Addr} {sl8 : Array (Option Value)} {oc8 kV8 dc8 pm8 cd8 ct8 : Value}
    {f9 : Addr} {od9 an9 : Option Addr} {sl9 : Array (Option Value)} {oc9 kV9 dc9 pm9 cd9 ct9 : Value}
    {f10 : Addr} {od10 an10 : Option Addr} {sl10 : Array (Option Value)} {oc10 kV10 dc10 pm10 cd10 ct10 : Value}
    {f11 : Addr} {od11 an11 : Option Addr} {sl11 : Array (Option Value)} {oc11 kV11 dc11 pm11 cd11 ct11 : Value}
    {f12 : Addr} {od12 an12 : Option Addr} {sl12 : Array (Option Value)} {oc12 kV12 dc12 pm12 cd12 ct12 : Value}
    {f13 : Addr} {od13 an13 : Option Addr} {sl13 : Array (Option Value)} {oc13 kV13 dc13 pm13 cd13 ct13 : Value}
    {f14 : Addr} {od14 an14 : Option Addr} {sl14 : Array (Option Value)} {oc14 kV14 dc14 pm14 cd14 ct14 : Value}
    {f15 : Addr} {od15 an15 : Option Addr} {sl15 : Array (Option Value)} {oc15 kV15 dc15 pm15 cd15 ct15 : Value}
    {f16 : Addr} {od16 an16 : Option Addr} {sl16 : Array (Option Value)} {oc16 kV16 dc16 pm16 cd16 ct16 : Value}
    {f17 : Addr} {od17 an17 : Option Addr} {sl17 : Array (Option Value)} {oc17 kV17 dc17 pm17 cd17 ct17 : Value}
    {tk0 : Tok}
    {tk1 : Tok}
    {tk2 : Tok}
    {e0 : Addr} {bm0 : List Value} {B0 ni0 ii0 : String}
    (ef0 : ExcBaseFacts B0 ni0 ii0 bm0)
    (a0 : PySem.W.nsIn K mainGlobals "written" = some (some (.ref f0))) (l0 : K.lookup f0 = some ⟨oc0, od0, .func (PySem.W.fnOf "written" "written" (defArgs s_written) (defBody s_written) (defScope s_written) .none kV0 dc0 pm0 an0 cd0 ct0), sl0⟩) (c0 : PySem.W.codeIn K cd0 "written" = true) (k0 : PySem.W.keepIn K (.ref f0) = true)
    (a1 : PySem.W.nsIn K mainGlobals "_law_same" = some (some (.ref f1))) (l1 : K.lookup f1 = some ⟨oc1, od1, .func (PySem.W.fnOf "_law_same" "_law_same" (defArgs s__law_same) (defBody s__law_same) (defScope s__law_same) .none kV1 dc1 pm1 an1 cd1 ct1), sl1⟩) (c1 : PySem.W.codeIn K cd1 "_law_same" = true) (k1 : PySem.W.keepIn K (.ref f1) = true)
    (a2 : PySem.W.nsIn K mainGlobals "_law_or" = some (some (.ref f2))) (l2 : K.lookup f2 = some ⟨oc2, od2, .func (PySem.W.fnOf "_law_or" "_law_or" (defArgs s__law_or) (defBody s__law_or) (defScope s__law_or) .none kV2 dc2 pm2 an2 cd2 ct2), sl2⟩) (c2 : PySem.W.codeIn K cd2 "_law_or" = true) (k2 : PySem.W.keepIn K (.ref f2) = true)
    (a3 : PySem.W.nsIn K mainGlobals "_law_draw" = some (some (.ref f3))) (l3 : K.lookup f3 = some ⟨oc3, od3, .func (PySem.W.fnOf "_law_draw" "_law_draw" (defArgs s__law_draw) (defBody s__law_draw) (defScope s__law_draw) .none kV3 dc3 pm3 an3 cd3 ct3), sl3⟩) (c3 : PySem.W.codeIn K cd3 "_law_draw" = true) (k3 : PySem.W.keepIn K (.ref f3) = true)
    (a4 : PySem.W.nsIn K mainGlobals "_law_pick" = some (some (.ref f4))) (l4 : K.lookup f4 = some ⟨oc4, od4, .func (PySem.W.fnOf "_law_pick" "_law_pick" (defArgs s__law_pick) (defBody s__law_pick) (defScope s__law_pick) .none kV4 dc4 pm4 an4 cd4 ct4), sl4⟩) (c4 : PySem.W.codeIn K cd4 "_law_pick" = true) (k4 : PySem.W.keepIn K (.ref f4) = true)
    (a5 : PySem.W.nsIn K mainGlobals "_law_net" = some (some (.ref f5))) (l5 : K.lookup f5 = some ⟨oc5, od5, .func (PySem.W.fnOf "_law_net" "_law_net" (defArgs s__law_net) (defBody s__law_net) (defScope s__law_net) .none kV5 dc5 pm5 an5 cd5 ct5), sl5⟩) (c5 : PySem.W.codeIn K cd5 "_law_net" = true) (k5 : PySem.W.keepIn K (.ref f5) = true)
    (a6 : PySem.W.nsIn K mainGlobals "is_whole" = some (some (.ref f6))) (l6 : K.lookup f6 = some ⟨oc6, od6, .func (PySem.W.fnOf "is_whole" "is_whole" (defArgs s_is_whole) (defBody s_is_whole) (defScope s_is_whole) .none kV6 dc6 pm6 an6 cd6 ct6), sl6⟩) (c6 : PySem.W.codeIn K cd6 "is_whole" = true) (k6 : PySem.W.keepIn K (.ref f6) = true)
    (a7 : PySem.W.nsIn K mainGlobals "are_rising" = some (some (.ref f7))) (l7 : K.lookup f7 = some ⟨oc7, od7, .func (PySem.W.fnOf "are_rising" "are_rising" (defArgs s_are_rising) (defBody s_are_rising) (defScope s_are_rising) .none kV7 dc7 pm7 an7 cd7 ct7), sl7⟩) (c7 : PySem.W.codeIn K cd7 "are_rising" = true) (k7 : PySem.W.keepIn K (.ref f7) = true)
    (a8 : PySem.W.nsIn K mainGlobals "is_tie" = some (some (.ref f8))) (l8 : K.lookup f8 = some ⟨oc8, od8, .func (PySem.W.fnOf "is_tie" "is_tie" (defArgs s_is_tie) (defBody s_is_tie) (defScope s_is_tie) .none kV8 dc8 pm8 an8 cd8 ct8), sl8⟩) (c8 : PySem.W.codeIn K cd8 "is_tie" = true) (k8 : PySem.W.keepIn K (.ref f8) = true)
    (a9 : PySem.W.nsIn K mainGlobals "is_net" = some (some (.ref f9))) (l9 : K.lookup f9 = some ⟨oc9, od9, .func (PySem.W.fnOf "is_net" "is_net" (defArgs s_is_net) (defBody s_is_net) (defScope s_is_net) .none kV9 dc9 pm9 an9 cd9 ct9), sl9⟩) (c9 : PySem.W.codeIn K cd9 "is_net" = true) (k9 : PySem.W.keepIn K (.ref f9) = true)
    (a10 : PySem.W.nsIn K mainGlobals "figure_in" = some (some (.ref f10))) (l10 : K.lookup f10 = some ⟨oc10, od10, .func (PySem.W.fnOf "figure_in" "figure_in" (defArgs s_figure_in) (defBody s_figure_in) (defScope s_figure_in) .none kV10 dc10 pm10 an10 cd10 ct10), sl10⟩) (c10 : PySem.W.codeIn K cd10 "figure_in" = true) (k10 : PySem.W.keepIn K (.ref f10) = true)
    (a11 : PySem.W.nsIn K mainGlobals "tie_in" = some (some (.ref f11))) (l11 : K.lookup f11 = some ⟨oc11, od11, .func (PySem.W.fnOf "tie_in" "tie_in" (defArgs s_tie_in) (defBody s_tie_in) (defScope s_tie_in) .none kV11 dc11 pm11 an11 cd11 ct11), sl11⟩) (c11 : PySem.W.codeIn K cd11 "tie_in" = true) (k11 : PySem.W.keepIn K (.ref f11) = true)
    (a12 : PySem.W.nsIn K mainGlobals "read" = some (some (.ref f12))) (l12 : K.lookup f12 = some ⟨oc12, od12, .func (PySem.W.fnOf "read" "read" (defArgs s_read) (defBody s_read) (defScope s_read) .none kV12 dc12 pm12 an12 cd12 ct12), sl12⟩) (c12 : PySem.W.codeIn K cd12 "read" = true) (k12 : PySem.W.keepIn K (.ref f12) = true)
    (a13 : PySem.W.nsIn K mainGlobals "_law_told" = some (some (.ref f13))) (l13 : K.lookup f13 = some ⟨oc13, od13, .func (PySem.W.fnOf "_law_told" "_law_told" (defArgs s__law_told) (defBody s__law_told) (defScope s__law_told) .none kV13 dc13 pm13 an13 cd13 ct13), sl13⟩) (c13 : PySem.W.codeIn K cd13 "_law_told" = true) (k13 : PySem.W.keepIn K (.ref f13) = true)
    (a14 : PySem.W.nsIn K mainGlobals "_law_say" = some (some (.ref f14))) (l14 : K.lookup f14 = some ⟨oc14, od14, .func (PySem.W.fnOf "_law_say" "_law_say" (defArgs s__law_say) (defBody s__law_say) (defScope s__law_say) .none kV14 dc14 pm14 an14 cd14 ct14), sl14⟩) (c14 : PySem.W.codeIn K cd14 "_law_say" = true) (k14 : PySem.W.keepIn K (.ref f14) = true)
    (a15 : PySem.W.nsIn K mainGlobals "_law_rising" = some (some (.ref f15))) (l15 : K.lookup f15 = some ⟨oc15, od15, .func (PySem.W.fnOf "_law_rising" "_law_rising" (defArgs s__law_rising) (defBody s__law_rising) (defScope s__law_rising) .none kV15 dc15 pm15 an15 cd15 ct15), sl15⟩) (c15 : PySem.W.codeIn K cd15 "_law_rising" = true) (k15 : PySem.W.keepIn K (.ref f15) = true)
    (a16 : PySem.W.nsIn K mainGlobals "_law_read" = some (some (.ref f16))) (l16 : K.lookup f16 = some ⟨oc16, od16, .func (PySem.W.fnOf "_law_read" "_law_read" (defArgs s__law_read) (defBody s__law_read) (defScope s__law_read) .none kV16 dc16 pm16 an16 cd16 ct16), sl16⟩) (c16 : PySem.W.codeIn K cd16 "_law_read" = true) (k16 : PySem.W.keepIn K (.ref f16) = true)
    (a17 : PySem.W.nsIn K mainGlobals "law" = some (some (.ref f17))) (l17 : K.lookup f17 = some ⟨oc17, od17, .func (PySem.W.fnOf "law" "law" (defArgs s_law) (defBody s_law) (defScope s_law) .none kV17 dc17 pm17 an17 cd17 ct17), sl17⟩) (c17 : PySem.W.codeIn K cd17 "law" = true) (k17 : PySem.W.keepIn K (.ref f17) = true)
    (z0 : PySem.W.nsIn K mainGlobals "all" = some none)
    (z1 : PySem.W.nsIn K mainGlobals "bool" = some none)
    (z2 : PySem.W.nsIn K mainGlobals "dict" = some none)
    (z3 : PySem.W.nsIn K mainGlobals "enumerate" = some none)
    (z4 : PySem.W.nsIn K mainGlobals "int" = some none)
    (z5 : PySem.W.nsIn K mainGlobals "isinstance" = some none)
    (z6 : PySem.W.nsIn K mainGlobals "len" = some none)
    (z7 : PySem.W.nsIn K mainGlobals "list" = some none)
    (z8 : PySem.W.nsIn K mainGlobals "range" = some none)
    (z9 : PySem.W.nsIn K mainGlobals "sorted" = some none)
    (z10 : PySem.W.nsIn K mainGlobals "str" = some none)
    (z11 : PySem.W.nsIn K mainGlobals "tuple" = some none)
    (z12 : PySem.W.nsIn K mainGlobals "zip" = some none)
    (m0 : PySem.W.nsIn K mainGlobals "FIGURES" = some (some (.str "0123456789" tk0)))
    (m1 : PySem.W.nsIn K mainGlobals "KNOTS_MOST" = some (some (.int 7 tk1)))
    (m2 : PySem.W.nsIn K mainGlobals "TIES_MOST" = some (some (.int 9 tk2)))
    (ea0 : PySem.W.nsIn K mainGlobals "NoText" = some (some (.ref e0))) (eq0 : PySem.W.excIn K e0 bm0 ni0 = true) (ek0 : PySem.W.keepIn K (.ref e0) = true) (eb0 : PySem.W.subIn K (.ref e0) (.type "BaseException") = some true) (et0 : PySem.W.typeIn K (.ref e0) = some (.type "type")) (eh0 : PySem.W.hasDictIn K e0 = true) (es0 : PySem.W.subIn K (.ref e0) (.ref e0) = some true)
    : ∃ fd : FuncData, (∀ (s : Shared) (v : Value), BindsTo s fd ⟨[v], []⟩ [("_law_script", v)]) ∧ ∀ base : Heap, K.In base → base.Ns mainGlobals mg → FnOk l.prog w K mg base CX0 41 fa fd ["_law_script"] (spF K 1 g_law) := by
  have e := hfa.symm.trans (PySem.W.mg_of X G a17)
  cases e
  have F0 := fun_mk (st := s_written) l0 c0 k0
  have b0 := F0.binds (ps := ["net"]) fun _ _ _ _ _ _ us hl => match us, hl with | [_], _ => rfl
  have F1 := fun_mk (st := s__law_same) l1 c1 k1
  have b1 := F1.binds (ps := ["_law_got", "_law_due"]) fun _ _ _ _ _ _ us hl => match us, hl with | [_, _], _ => rfl
  have F2 := fun_mk (st := s__law_or) l2 c2 k2
  have b2 := F2.binds (ps := ["_law_due"]) fun _ _ _ _ _ _ us hl => match us, hl with | [_], _ => rfl
  have F3 := fun_mk (st := s__law_draw) l3 c3 k3
  have b3 := F3.binds (ps := ["_law_script", "_law_town", "_law_many"]) fun _ _ _ _ _ _ us hl => match us, hl with | [_, _, _], _ => rfl
  have F4 := fun_mk (st := s__law_pick) l4 c4 k4
  have b4 := F4.binds (ps := ["_law_script", "_law_town", "_law_some"]) fun _ _ _ _ _ _ us hl => match us, hl with | [_, _, _], _ => rfl
  have F5 := fun_mk (st := s__law_net) l5 c5 k5
  have b5 := F5.binds (ps := ["_law_script", "_law_town", "_law_high", "_law_wide"]) fun _ _ _ _ _ _ us hl => match us, hl with | [_, _, _, _], _ => rfl
  have F6 := fun_mk (st := s_is_whole) l6 c6 k6
  have b6 := F6.binds (ps := ["thing", "low", "high"]) fun _ _ _ _ _ _ us hl => match us, hl with | [_, _, _], _ => rfl
  have F7 := fun_mk (st := s_are_rising) l7 c7 k7
  have b7 := F7.binds (ps := ["row"]) fun _ _ _ _ _ _ us hl => match us, hl with | [_], _ => rfl
  have F8 := fun_mk (st := s_is_tie) l8 c8 k8
  have b8 := F8.binds (ps := ["thing", "many"]) fun _ _ _ _ _ _ us hl => match us, hl with | [_, _], _ => rfl
  have F9 := fun_mk (st := s_is_net) l9 c9 k9
  have b9 := F9.binds (ps := ["thing"]) fun _ _ _ _ _ _ us hl => match us, hl with | [_], _ => rfl
  have F10 := fun_mk (st := s_figure_in) l10 c10 k10
  have b10 := F10.binds (ps := ["sign"]) fun _ _ _ _ _ _ us hl => match us, hl with | [_], _ => rfl
  have F11 := fun_mk (st := s_tie_in) l11 c11 k11
  have b11 := F11.binds (ps := ["part"]) fun _ _ _ _ _ _ us hl => match us, hl with | [_], _ => rfl
  have F12 := fun_mk (st := s_read) l12 c12 k12
  have b12 := F12.binds (ps := ["text"]) fun _ _ _ _ _ _ us hl => match us, hl with | [_], _ => rfl
  have F13 := fun_mk (st := s__law_told) l13 c13 k13
  have b13 := F13.binds (ps := ["_law_text"]) fun _ _ _ _ _ _ us hl => match us, hl with | [_], _ => rfl
  have F14 := fun_mk (st := s__law_say) l14 c14 k14
  have b14 := F14.binds (ps := ["_law_net_here"]) fun _ _ _ _ _ _ us hl => match us, hl with | [_], _ => rfl
  have F15 := fun_mk (st := s__law_rising) l15 c15 k15
  have b15 := F15.binds (ps := ["_law_some", "_law_most"]) fun _ _ _ _ _ _ us hl => match us, hl with | [_, _], _ => rfl
  have F16 := fun_mk (st := s__law_read) l16 c16 k16
  have b16 := F16.binds (ps := ["_law_text"]) fun _ _ _ _ _ _ us hl => match us, hl with | [_], _ => rfl
  have F17 := fun_mk (st := s_law) l17 c17 k17
  have b17 := F17.binds (ps := ["_law_script"]) fun _ _ _ _ _ _ us hl => match us, hl with | [_], _ => rfl
  have E0 : Err K mg "NoText" e0 := ⟨⟨_, _, _, _, ef0, eq0⟩, PySem.W.mg_of X G ea0, ek0, eb0, et0, PySem.W.exm_ref eb0 eh0 et0 es0⟩
  have C : Cx1 K mg ⟨f0, _, f1, _, f2, _, f3, _, f4, _, f5, _, f6, _, f7, _, f8, _, f9, _, f10, _, f11, _, f12, _, f13, _, f14, _, f15, _, f16, _, fa, _, e0⟩ := ⟨F0, b0, PySem.W.mg_of X G a0, F1, b1, PySem.W.mg_of X G a1, F2, b2, PySem.W.mg_of X G a2, F3, b3, PySem.W.mg_of X G a3, F4, b4, PySem.W.mg_of X G a4, F5, b5, PySem.W.mg_of X G a5, F6, b6, PySem.W.mg_of X G a6, F7, b7, PySem.W.mg_of X G a7, F8, b8, PySem.W.mg_of X G a8, F9, b9, PySem.W.mg_of X G a9, F10, b10, PySem.W.mg_of X G a10, F11, b11, PySem.W.mg_of X G a11, F12, b12, PySem.W.mg_of X G a12, F13, b13, PySem.W.mg_of X G a13, F14, b14, PySem.W.mg_of X G a14, F15, b15, PySem.W.mg_of X G a15, F16, b16, PySem.W.mg_of X G a16, F17, b17, PySem.W.mg_of X G a17, E0⟩
  have T : Tx mg := ⟨PySem.W.mg_none_of X G z0, PySem.W.mg_none_of X G z1, PySem.W.mg_none_of X G z2, PySem.W.mg_none_of X G z3, PySem.W.mg_none_of X G z4, PySem.W.mg_none_of X G z5, PySem.W.mg_none_of X G z6, PySem.W.mg_none_of X G z7, PySem.W.mg_none_of X G z8, PySem.W.mg_none_of X G z9, PySem.W.mg_none_of X G z10, PySem.W.mg_none_of X G z11, PySem.W.mg_none_of X G z12, ⟨_, PySem.W.mg_of X G m0⟩, ⟨_, PySem.W.mg_of X G m1⟩, ⟨_, PySem.W.mg_of X G m2⟩⟩
  exact ⟨_, fun s v => .of_eq rfl, fun base _ _ => ok_law C T⟩
end L_k15
open PySem PySem.W PyProof.Rows
set_option maxHeartbeats 0 in
theorem PySem.Challenge.cw_probeties_k15_whole_nets_as_texts_holds : PySem.Challenge.rw_probeties_k15_whole_nets_as_texts.Holds := by
  w_on; o_law; k_head; (case hw => w_witness2)
  k_fill
  refine L2.walk_of (l := PySem.Challenge.rw_probeties_k15_whole_nets_as_texts) (n := 63) (k := 41) (x := "_law_script") (CX := fun _ => L2.CX0) (sp := fun w => DL.spF _ 1 L_k15.g_law) rfl (by decide) rfl ⟨rfl, by decide, by decide⟩ (fun w h Y => PySem.W.kIn_of Y) ?F (fun _ _ a ns hl _ hS => DL.law_end (L_k15.law_true ns hl) hS) (fun _ _ _ _ _ h => h)
  case F =>
    intro w mg fa h KX G hmg
    refine' L_k15.all_mk KX G hmg PySem.F.excBase_ValueError ?a0 ?l0 ?c0 ?k0 ?a1 ?l1 ?c1 ?k1 ?a2 ?l2 ?c2 ?k2 ?a3 ?l3 ?c3 ?k3 ?a4 ?l4 ?c4 ?k4 ?a5 ?l5 ?c5 ?k5 ?a6 ?l6 ?c6 ?k6 ?a7 ?l7 ?c7 ?k7 ?a8 ?l8 ?c8 ?k8 ?a9 ?l9 ?c9 ?k9 ?a10 ?l10 ?c10 ?k10 ?a11 ?l11 ?c11 ?k11 ?a12 ?l12 ?c12 ?k12 ?a13 ?l13 ?c13 ?k13 ?a14 ?l14 ?c14 ?k14 ?a15 ?l15 ?c15 ?k15 ?a16 ?l16 ?c16 ?k16 ?a17 ?l17 ?c17 ?k17 ?z0 ?z1 ?z2 ?z3 ?z4 ?z5 ?z6 ?z7 ?z8 ?z9 ?z10 ?z11 ?z12 ?m0 ?m1 ?m2 ?ea0 ?eq0 ?ek0 ?eb0 ?et0 ?eh0 ?es0
    (case a0 => k_is)
    (case l0 => k_is)
    (case c0 => k_is)
    (case k0 => k_is)
    (case a1 => k_is)
    (case l1 => k_is)
    (case c1 => k_is)
    (case k1 => k_is)
    (case a2 => k_is)
    (case l2 => k_is)
    (case c2 => k_is)
    (case k2 => k_is)
    (case a3 => k_is)
    (case l3 => k_is)
    (case c3 => k_is)
    (case k3 => k_is)
    (case a4 => k_is)
    (case l4 => k_is)
    (case c4 => k_is)
    (case k4 => k_is)
    (case a5 => k_is)
    (case l5 => k_is)
    (case c5 => k_is)
    (case k5 => k_is)
    (case a6 => k_is)
    (case l6 => k_is)
    (case c6 => k_is)
    (case k6 => k_is)
    (case a7 => k_is)
    (case l7 => k_is)
    (case c7 => k_is)
    (case k7 => k_is)
    (case a8 => k_is)
    (case l8 => k_is)
    (case c8 => k_is)
    (case k8 => k_is)
    (case a9 => k_is)
    (case l9 => k_is)
    (case c9 => k_is)
    (case k9 => k_is)
    (case a10 => k_is)
    (case l10 => k_is)
    (case c10 => k_is)
    (case k10 => k_is)
    (case a11 => k_is)
    (case l11 => k_is)
    (case c11 => k_is)
    (case k11 => k_is)
    (case a12 => k_is)
    (case l12 => k_is)
    (case c12 => k_is)
    (case k12 => k_is)
    (case a13 => k_is)
    (case l13 => k_is)
    (case c13 => k_is)
    (case k13 => k_is)
    (case a14 => k_is)
    (case l14 => k_is)
    (case c14 => k_is)
    (case k14 => k_is)
    (case a15 => k_is)
    (case l15 => k_is)
    (case c15 => k_is)
    (case k15 => k_is)
    (case a16 => k_is)
    (case l16 => k_is)
    (case c16 => k_is)
    (case k16 => k_is)
    (case a17 => k_is)
    (case l17 => k_is)
    (case c17 => k_is)
    (case k17 => k_is)
    (case z0 => k_is)
    (case z1 => k_is)
    (case z2 => k_is)
    (case z3 => k_is)
    (case z4 => k_is)
    (case z5 => k_is)
    (case z6 => k_is)
    (case z7 => k_is)
    (case z8 => k_is)
    (case z9 => k_is)
    (case z10 => k_is)
    (case z11 => k_is)
    (case z12 => k_is)
    (case m0 => k_is)
    (case m1 => k_is)
    (case m2 => k_is)
    (case ea0 => k_is)
    (case eq0 => k_exc)
    (case ek0 => k_is)
    (case eb0 => k_is)
    (case et0 => k_is)
    (case eh0 => k_is)
    (case es0 => first | rfl | k_is)
