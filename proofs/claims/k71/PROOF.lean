import PyProof.Rows.All
import Wide.All
import OpenK.AllK
import Wide.FinOn
import HandS.ForMost
import HandS.ForExc
import HandS.Conv
import HandS.Zip
import HandS.ExcInit
import HandS.Wide
import HandS.TupAny
import HandS.SortInts
import KE.KTupSum
import KE.GoesNew
import HandS.More
import PyProof.ReprBulk
import KE.GoesMore
import KE.GoesEnum
import KE.DatumOrd
import HandS.IsInst
import HandS.Style
import HandS.TupMul
import HandS.Dict
import HandS.SortRule
import KE.KRevSl
import HandS.Deep
import KE.KExcIs
import HandS.Exc
import HandS.ExcOwn
import HandS.ExcIs
import HandS.ExcField
import HandS.RaiseMore
import PyProof.ReprRoads
import HandS.Sort
import HandS.TryOnly
import KE.KSortTupAny
import PyProof.FactsAll.dict_1
import PyProof.EqKinds
import KE.KEqDict
import HandS.Iter
import PyProof.Rows.IntBool
import PyProof.CallStr
import KE.DataCmp
import KE.SortData
import KE.KIndexOf
import HandS.ListItems
import HandS.Star
import HandS.Defaults
import HandS.ExcValue
import HandS.TryMany
import PyProof.StrBlock2
import HandS.Text
import HandS.Flow
import PySem.Challenge.RW_linkforests_k71_texts_written_and_parsed
set_option Elab.async false
set_option linter.all false
set_option maxRecDepth 100000
set_option maxHeartbeats 4000000
namespace LF
open PySem PySem.Spec PyProof.Rows L2

/-- data: a tuple is a value; a list, a dict is an address of the store; rol: a list that nobody changes (the script) -/
inductive D where
  | non | bl (b : Bool) | int (i : Int) | str (x : Str) | tup (xs : List D) | ref (a : Addr) | rol (a : Addr) (xs : List D) | tua (xs : List D) | exv (x : Str) (fl : List Str) (xs : List D)

inductive DO where
  | lst (xs : List D)
  | dct (kvs : List (Key × D))
  | ins (c : Str) (fl : List Str) (ds : List D)
  | dtt (kvs : List (List Key × D))

abbrev G := Addr → Option DO
def gset (g : G) (a : Addr) (o : DO) : G := fun b => if b = a then some o else g b
theorem gset_same {g : G} {a : Addr} {o : DO} : gset g a o a = some o := if_pos rfl
theorem gset_ne {g : G} {a b : Addr} {o : DO} (h : b ≠ a) : gset g a o b = g b := if_neg h

/-- a list that stands frozen, or in the written part -/
def Frz (K : PySem.W.Frag) (H : Hp) (a : Addr) (vs : List V) : Prop :=
  (∃ o, H a = some (.frz o (.lst vs))) ∨ (∀ H' : Hp, SqL K H' a vs)
theorem Frz.seq {K : PySem.W.Frag} {H : Hp} {a : Addr} {vs : List V} (h : Frz K H a vs) : SqL K H a vs := by
  rcases h with ⟨o, e⟩ | h
  · exact .inl (.inr ⟨o, e⟩)
  · exact h H
def Tpl (K : PySem.W.Frag) (H : Hp) (a : Addr) (vs : List V) : Prop :=
  H a = some (.tup vs) ∨ (∃ o, H a = some (.frz o (.tup vs))) ∨ (∀ H' : Hp, SqT K H' a vs)
theorem Tpl.seq {K : PySem.W.Frag} {H : Hp} {a : Addr} {vs : List V} (h : Tpl K H a vs) : SqT K H a vs := by
  rcases h with h | ⟨o, e⟩ | h
  · exact .of h
  · exact .inl (.inr ⟨o, e⟩)
  · exact h H

/-- a tuple that is known to have no dict -/
def Tua (H : Hp) (a : Addr) (vs : List V) : Prop := ∃ o, H a = some (.frz o (.tup vs)) ∧ o.dict = none
theorem Tua.tpl {K : PySem.W.Frag} {H : Hp} {a : Addr} {vs : List V} (h : Tua H a vs) : Tpl K H a vs := let ⟨o, e, _⟩ := h; .inr (.inl ⟨o, e⟩)
/-- an exception of the class named x: no dict, or a dict of these fields -/
def Exo (K : PySem.W.Frag) (H : Hp) (x : Str) (fl : List Str) (vs : List V) (a : Addr) : Prop := ∃ C : Addr, PySem.W.nsIn K mainGlobals x = some (some (.ref C)) ∧ ((fl = [] ∧ H a = some (exo a C none)) ∨ ∃ dx, H a = some (exo a C (some dx)) ∧ H dx = some (exd dx (fl.zip vs)) ∧ fl.length = vs.length)
mutual
inductive RV (K : PySem.W.Frag) (H : Hp) : D → V → Prop
  | non : RV K H .non .non
  | bl (b : Bool) : RV K H (.bl b) (.bl b)
  | int (i : Int) : RV K H (.int i) (.int i)
  | str (x : Str) : RV K H (.str x) (.str x)
  | tup {a : Addr} {vs : List V} {ds : List D} : Tpl K H a vs → RVs K H ds vs → RV K H (.tup ds) (.ref a)
  | ref (a : Addr) : RV K H (.ref a) (.ref a)
  | rol {a : Addr} {vs : List V} {ds : List D} : Frz K H a vs → RVs K H ds vs → RV K H (.rol a ds) (.ref a)
  | tua {a : Addr} {vs : List V} {ds : List D} : Tua H a vs → RVs K H ds vs → RV K H (.tua ds) (.ref a)
  | exv {a : Addr} {x : Str} {fl : List Str} {vs : List V} {ds : List D} : Exo K H x fl vs a → RVs K H ds vs → RV K H (.exv x fl ds) (.ref a)
inductive RVs (K : PySem.W.Frag) (H : Hp) : List D → List V → Prop
  | nil : RVs K H [] []
  | cons {d : D} {v : V} {ds : List D} {vs : List V} : RV K H d v → RVs K H ds vs → RVs K H (d :: ds) (v :: vs)
end

/-- pairs of a dict -/
inductive RKs (K : PySem.W.Frag) (H : Hp) : List (Key × D) → List (Key × V) → Prop
  | nil : RKs K H [] []
  | cons {k : Key} {d : D} {v : V} {ds : List (Key × D)} {vs : List (Key × V)} : RV K H d v → RKs K H ds vs → RKs K H ((k, d) :: ds) ((k, v) :: vs)

inductive RTs (K : PySem.W.Frag) (H : Hp) : List (List Key × D) → List (List Key × V) → Prop
  | nil : RTs K H [] []
  | cons {k : List Key} {d : D} {v : V} {ds : List (List Key × D)} {vs : List (List Key × V)} : RV K H d v → RTs K H ds vs → RTs K H ((k, d) :: ds) ((k, v) :: vs)
/-- an own class by its global name -/
structure CFact (K : PySem.W.Frag) (c : Str) (C : Addr) : Prop where
  ns : PySem.W.nsIn K mainGlobals c = some (some (.ref C))
  cl : Cls K C
  ha : PySem.W.findIn K (.ref C) "__class__" = some (some (.builtin "object.__class__"))
  hn : PySem.W.specialIn K (.builtin "object.__class__") "__get__" = some (some (.builtin "getset_descriptor.__get__"))
  htk : PySem.W.takesIn K (.builtin "object.__class__") = some true
  hm : PySem.W.mroIn K C (.type "object") = some true
  kt : PySem.W.kitOne K (.ref C) (.type "int") = some false ∧ PySem.W.kitOne K (.ref C) (.type "bool") = some false ∧ PySem.W.kitOne K (.ref C) (.type "str") = some false ∧ PySem.W.kitOne K (.ref C) (.type "tuple") = some false ∧ PySem.W.kitOne K (.ref C) (.type "list") = some false
theorem CFact.one {K : PySem.W.Frag} {c : Str} {C C' : Addr} (a : CFact K c C) (b : CFact K c C') : C = C' := by
  have h := a.ns.symm.trans b.ns
  injection h with h
  injection h with h
  injection h
def RO (K : PySem.W.Frag) (H : Hp) (a : Addr) : DO → Prop
  | .lst ds => ∃ vs, H a = some (.lst vs) ∧ RVs K H ds vs
  | .dct kvs => ∃ vs, H a = some (.dK vs) ∧ RKs K H kvs vs
  | .ins c fl ds => ∃ C dx vs, H a = some (.ins C dx (fl.zip vs)) ∧ CFact K c C ∧ ds.length ≤ fl.length ∧ RVs K H ds vs
  | .dtt kvs => ∃ vs, H a = some (.dT vs) ∧ RTs K H kvs vs
def RG0 (K : PySem.W.Frag) (g : G) (H : Hp) : Prop := ∀ a o, g a = some o → RO K H a o

/-- what is tracked outside of the store stands, and stays outside -/
def Keep (g : G) (H : Hp) (g' : G) (H' : Hp) : Prop := ∀ a o, H a = some o → g a = none → H' a = some o ∧ g' a = none
theorem Keep.refl (g : G) (H : Hp) : Keep g H g H := fun _ _ h n => ⟨h, n⟩
theorem Keep.trans {g g1 g2 : G} {H H1 H2 : Hp} (a : Keep g H g1 H1) (b : Keep g1 H1 g2 H2) : Keep g H g2 H2 := fun c o h n =>
  let ⟨h1, n1⟩ := a c o h n
  b c o h1 n1
/-- what stands along a def's whole run, whatever it does -/
class PP where
  P : PySem.W.Frag → G → Hp → Prop
  step : ∀ {K : PySem.W.Frag} {g g' : G} {H H' : Hp}, RG0 K g H → P K g H → Keep g H g' H' → P K g' H'
instance (priority := low) ppNone : PP := ⟨fun _ _ _ => True, fun _ _ _ => trivial⟩
structure RG [PP] (K : PySem.W.Frag) (g : G) (H : Hp) : Prop where
  st : RG0 K g H
  pp : PP.P K g H
variable [PP]
theorem RG.move {K : PySem.W.Frag} {g g' : G} {H H' : Hp} (r : RG K g H) (k : Keep g H g' H') (s : RG0 K g' H') : RG K g' H' := ⟨s, PP.step r.st r.pp k⟩

section
variable {K : PySem.W.Frag} {g g' : G} {H H' : Hp}
theorem RG.tupOut (r : RG K g H) {a : Addr} {vs : List V} (h : H a = some (.tup vs)) : g a = none := by
  cases e : g a with
  | none => rfl
  | some o =>
    have q := r.st a o e
    cases o with
    | lst ds => obtain ⟨_, q, _⟩ := q; rw [h] at q; cases q
    | dct ds => obtain ⟨_, q, _⟩ := q; rw [h] at q; cases q
    | ins c fl ds => obtain ⟨_, _, _, q, _⟩ := q; rw [h] at q; cases q
    | dtt ds => obtain ⟨_, q, _⟩ := q; rw [h] at q; cases q
theorem RG.frzOut (r : RG K g H) {a : Addr} {o : Obj} {u : HO} (h : H a = some (.frz o u)) : g a = none := by
  cases e : g a with
  | none => rfl
  | some o =>
    have q := r.st a o e
    cases o with
    | lst ds => obtain ⟨_, q, _⟩ := q; rw [h] at q; cases q
    | dct ds => obtain ⟨_, q, _⟩ := q; rw [h] at q; cases q
    | ins c fl ds => obtain ⟨_, _, _, q, _⟩ := q; rw [h] at q; cases q
    | dtt ds => obtain ⟨_, q, _⟩ := q; rw [h] at q; cases q
theorem Tpl.keep (r : RG K g H) (k : Keep g H g' H') {a : Addr} {vs : List V} (h : Tpl K H a vs) : Tpl K H' a vs := by
  rcases h with h | ⟨o, h⟩ | h
  · exact .inl (k _ _ h (r.tupOut h)).1
  · exact .inr (.inl ⟨o, (k _ _ h (r.frzOut h)).1⟩)
  · exact .inr (.inr h)
theorem Frz.keep (r : RG K g H) (k : Keep g H g' H') {a : Addr} {vs : List V} (h : Frz K H a vs) : Frz K H' a vs := by
  rcases h with ⟨o, h⟩ | h
  · exact .inl ⟨o, (k _ _ h (r.frzOut h)).1⟩
  · exact .inr h
theorem RG.extOut (r : RG K g H) {a : Addr} {φ : Heap → Prop} (h : H a = some (.ext φ)) : g a = none := by
  cases e : g a with
  | none => rfl
  | some o =>
    have q := r.st a o e
    cases o with
    | lst ds => obtain ⟨_, q, _⟩ := q; rw [h] at q; cases q
    | dct ds => obtain ⟨_, q, _⟩ := q; rw [h] at q; cases q
    | ins c fl ds => obtain ⟨_, _, _, q, _⟩ := q; rw [h] at q; cases q
    | dtt ds => obtain ⟨_, q, _⟩ := q; rw [h] at q; cases q
theorem Exo.at {H H' : Hp} {x : Str} {fl : List Str} {vs : List V} {a : Addr} (h : Exo K H x fl vs a) (k : ∀ b (φ : Heap → Prop), H b = some (.ext φ) → H' b = some (.ext φ)) : Exo K H' x fl vs a := by
  obtain ⟨C, e, h⟩ := h
  rcases h with ⟨e1, e2⟩ | ⟨dx, e1, e2, e3⟩
  · exact ⟨C, e, .inl ⟨e1, k _ _ e2⟩⟩
  · exact ⟨C, e, .inr ⟨dx, k _ _ e1, k _ _ e2, e3⟩⟩
theorem Exo.keep (r : RG K g H) (k : Keep g H g' H') {x : Str} {fl : List Str} {vs : List V} {a : Addr} (h : Exo K H x fl vs a) : Exo K H' x fl vs a := h.at fun b _ e => (k b _ e (r.extOut e)).1
theorem Tua.keep (r : RG K g H) (k : Keep g H g' H') {a : Addr} {vs : List V} (h : Tua H a vs) : Tua H' a vs := let ⟨o, e, z⟩ := h; ⟨o, (k _ _ e (r.frzOut e)).1, z⟩
mutual
theorem RV.keep (r : RG K g H) (k : Keep g H g' H') : ∀ {d : D} {v : V}, RV K H d v → RV K H' d v
  | _, _, .non => .non
  | _, _, .bl b => .bl b
  | _, _, .int i => .int i
  | _, _, .str x => .str x
  | _, _, .tup h hs => .tup (h.keep r k) (RVs.keep r k hs)
  | _, _, .ref a => .ref a
  | _, _, .rol h hs => .rol (h.keep r k) (RVs.keep r k hs)
  | _, _, .tua h hs => .tua (h.keep r k) (RVs.keep r k hs)
  | _, _, .exv h hs => .exv (h.keep r k) (RVs.keep r k hs)
theorem RVs.keep (r : RG K g H) (k : Keep g H g' H') : ∀ {ds : List D} {vs : List V}, RVs K H ds vs → RVs K H' ds vs
  | _, _, .nil => .nil
  | _, _, .cons h hs => .cons (RV.keep r k h) (RVs.keep r k hs)
end
theorem RTs.keep (r : RG K g H) (k : Keep g H g' H') : ∀ {ds : List (List Key × D)} {vs : List (List Key × V)}, RTs K H ds vs → RTs K H' ds vs
  | _, _, .nil => .nil
  | _, _, .cons h hs => .cons (h.keep r k) (RTs.keep r k hs)
theorem RKs.keep (r : RG K g H) (k : Keep g H g' H') : ∀ {ds : List (Key × D)} {vs : List (Key × V)}, RKs K H ds vs → RKs K H' ds vs
  | _, _, .nil => .nil
  | _, _, .cons h hs => .cons (h.keep r k) (RKs.keep r k hs)
end

section
variable {K : PySem.W.Frag} {H : Hp}
theorem RVs.length : ∀ {ds : List D} {vs : List V}, RVs K H ds vs → ds.length = vs.length
  | _, _, .nil => rfl
  | _, _, .cons _ h => congrArg (· + 1) h.length
theorem RVs.get : ∀ {ds : List D} {vs : List V} {i : Nat} {d : D}, RVs K H ds vs → ds[i]? = some d → ∃ v, vs[i]? = some v ∧ RV K H d v
  | _, _, _, _, .nil, e => by simp at e
  | _, _, 0, _, .cons r _, e => by simp at e; subst e; exact ⟨_, rfl, r⟩
  | _, _, i + 1, d, .cons _ t, e => by
    obtain ⟨v, h1, h2⟩ := RVs.get (i := i) (d := d) t (by simpa using e)
    exact ⟨v, by simpa using h1, h2⟩
theorem RVs.getV {ds : List D} {vs : List V} {i : Nat} {v : V} (r : RVs K H ds vs) (e : vs[i]? = some v) : ∃ d, ds[i]? = some d ∧ RV K H d v := by
  have hl := r.length
  have hi : i < vs.length := (List.getElem?_eq_some_iff.mp e).1
  obtain ⟨w, h1, h2⟩ := r.get (i := i) (d := ds[i]'(by omega)) (List.getElem?_eq_getElem (by omega))
  rw [e] at h1; cases h1
  exact ⟨_, List.getElem?_eq_getElem (by omega), h2⟩
theorem RVs.append : ∀ {ds es : List D} {vs ws : List V}, RVs K H ds vs → RVs K H es ws → RVs K H (ds ++ es) (vs ++ ws)
  | _, _, _, _, .nil, s => s
  | _, _, _, _, .cons r t, s => .cons r (RVs.append t s)
theorem RVs.take : ∀ {ds : List D} {vs : List V} (n : Nat), RVs K H ds vs → RVs K H (ds.take n) (vs.take n)
  | _, _, 0, _ => .nil
  | _, _, _ + 1, .nil => .nil
  | _, _, n + 1, .cons r t => .cons r (RVs.take n t)
theorem RVs.drop : ∀ {ds : List D} {vs : List V} (n : Nat), RVs K H ds vs → RVs K H (ds.drop n) (vs.drop n)
  | _, _, 0, r => r
  | _, _, _ + 1, .nil => .nil
  | _, _, n + 1, .cons _ t => RVs.drop n t
theorem RVs.set {d : D} {v : V} (r : RV K H d v) : ∀ {ds : List D} {vs : List V} (i : Nat), RVs K H ds vs → RVs K H (ds.set i d) (vs.set i v)
  | _, _, _, .nil => .nil
  | _, _, 0, .cons _ t => .cons r t
  | _, _, i + 1, .cons q t => .cons q (RVs.set r i t)
theorem RVs.eraseIdx : ∀ {ds : List D} {vs : List V} (i : Nat), RVs K H ds vs → RVs K H (ds.eraseIdx i) (vs.eraseIdx i)
  | _, _, _, .nil => .nil
  | _, _, 0, .cons _ t => t
  | _, _, i + 1, .cons q t => .cons q (RVs.eraseIdx i t)
theorem RVs.insertIdx {d : D} {v : V} (r : RV K H d v) : ∀ {ds : List D} {vs : List V} (i : Nat), RVs K H ds vs → RVs K H (ds.insertIdx i d) (vs.insertIdx i v)
  | _, _, 0, t => .cons r t
  | _, _, _ + 1, .nil => .nil
  | _, _, i + 1, .cons q t => .cons q (RVs.insertIdx r i t)
theorem RVs.reverse {ds : List D} {vs : List V} (h : RVs K H ds vs) : RVs K H ds.reverse vs.reverse := by
  induction h using RVs.rec (motive_1 := fun _ _ _ => True) with
  | nil => exact .nil
  | cons r _ _ ih => rw [List.reverse_cons, List.reverse_cons]; exact ih.append (.cons r .nil)
  | _ => trivial
theorem RVs.dropLast {ds : List D} {vs : List V} (h : RVs K H ds vs) : RVs K H ds.dropLast vs.dropLast := by
  rw [List.dropLast_eq_take, List.dropLast_eq_take, h.length]; exact h.take _
theorem RVs.flat (k : Nat) {ds : List D} {vs : List V} (h : RVs K H ds vs) : RVs K H (List.replicate k ds).flatten (List.replicate k vs).flatten := by
  induction k with
  | zero => exact .nil
  | succ k ih => rw [List.replicate_succ, List.replicate_succ, List.flatten_cons, List.flatten_cons]; exact h.append ih
/-- ints -/
theorem RVs.ints : ∀ {ns : List Int} {vs : List V}, RVs K H (ns.map D.int) vs → vs = ns.map V.int
  | [], _, .nil => rfl
  | n :: ns, _, .cons (.int _) t => by rw [List.map_cons, RVs.ints t]
theorem RVs.ofInts : ∀ (ns : List Int), RVs K H (ns.map D.int) (ns.map V.int)
  | [] => .nil
  | n :: ns => .cons (.int n) (RVs.ofInts ns)
theorem RVs.bls : ∀ {bs : List Bool} {vs : List V}, RVs K H (bs.map D.bl) vs → vs = bs.map V.bl
  | [], _, .nil => rfl
  | n :: ns, _, .cons (.bl _) t => by rw [List.map_cons, RVs.bls t]
theorem RVs.strs : ∀ {ns : List Str} {vs : List V}, RVs K H (ns.map D.str) vs → vs = ns.map V.str
  | [], _, .nil => rfl
  | n :: ns, _, .cons (.str _) t => by rw [List.map_cons, RVs.strs t]
end

abbrev En := List (Option D)
def RS (K : PySem.W.Frag) (H : Hp) (ε : En) (σ : L2.St) : Prop := ε.length = σ.length ∧ ∀ (i : Nat) (d : D), ε[i]? = some (some d) → ∃ v, σ[i]? = some (some v) ∧ RV K H d v
theorem RS.keep {K : PySem.W.Frag} {g g' : G} {H H' : Hp} {ε : En} {σ : L2.St} (r : RG K g H) (k : Keep g H g' H') (h : RS K H ε σ) : RS K H' ε σ :=
  ⟨h.1, fun i d e => let ⟨v, e1, q⟩ := h.2 i d e; ⟨v, e1, q.keep r k⟩⟩
theorem RS.set {K : PySem.W.Frag} {H : Hp} {ε : En} {σ : L2.St} {d : D} {v : V} (h : RS K H ε σ) (i : Nat) (r : RV K H d v) : RS K H (ε.set i (some d)) (σ.set i (some v)) := by
  refine ⟨by rw [List.length_set, List.length_set]; exact h.1, fun j e hj => ?_⟩
  by_cases hij : i = j
  · subst hij
    by_cases hl : i < ε.length
    · rw [List.getElem?_set_self hl] at hj
      cases hj
      exact ⟨v, List.getElem?_set_self (by rw [← h.1]; exact hl), r⟩
    · rw [List.getElem?_eq_none (by rw [List.length_set]; omega)] at hj; cases hj
  · rw [List.getElem?_set_ne hij] at hj
    obtain ⟨w, e1, q⟩ := h.2 j e hj
    exact ⟨w, by rw [List.getElem?_set_ne hij]; exact e1, q⟩
def ewipe (ε : En) : List Nat → En
  | [] => ε
  | v :: vs => (ewipe ε vs).set v none
theorem RS.wipe {K : PySem.W.Frag} {H : Hp} {ε : En} {σ : L2.St} (h : RS K H ε σ) : ∀ vs : List Nat, RS K H (ewipe ε vs) (L2.wipe σ vs)
  | [] => h
  | v :: vs => by
    have ih := h.wipe vs
    refine ⟨by show ((ewipe ε vs).set v none).length = ((L2.wipe σ vs).set v none).length; rw [List.length_set, List.length_set]; exact ih.1, fun j e hj => ?_⟩
    have hj' : ((ewipe ε vs).set v none)[j]? = some (some e) := hj
    by_cases hij : v = j
    · subst hij
      by_cases hl : v < (ewipe ε vs).length
      · rw [List.getElem?_set_self hl] at hj'; cases hj'
      · rw [List.getElem?_eq_none (by rw [List.length_set]; omega)] at hj'; cases hj'
    · rw [List.getElem?_set_ne hij] at hj'
      obtain ⟨w, e1, q⟩ := ih.2 j e hj'
      exact ⟨w, by show ((L2.wipe σ vs).set v none)[j]? = _; rw [List.getElem?_set_ne hij]; exact e1, q⟩
end LF
namespace LF
open PySem PySem.Spec PyProof.Rows L2
variable [PP]

theorem PE.imp {X : Cx} {e : Expr} {t t' : TE} (h : PE X e t) (w : ∀ σ H Q, t' σ H Q → t σ H Q) : PE X e t' := ⟨fun pins s σ H Q I q => h.run pins s σ H Q I (w σ H Q q)⟩
theorem PT.imp {X : Cx} {e : Expr} {t t' : TT} (h : PT X e t) (w : ∀ σ H Q, t' σ H Q → t σ H Q) : PT X e t' := ⟨fun pins s σ H Q I q => h.run pins s σ H Q I (w σ H Q q)⟩
theorem PW.imp {X : Cx} {e : Expr} {t t' : TT} (h : PW X e t) (w : ∀ σ H Q, t' σ H Q → t σ H Q) : PW X e t' := ⟨fun wh pins s σ H Q I q => h.run wh pins s σ H Q I (w σ H Q q)⟩
theorem PA.imp {X : Cx} {e : List Expr} {t t' : TA} (h : PA X e t) (w : ∀ σ H Q, t' σ H Q → t σ H Q) : PA X e t' := ⟨fun pos pins s σ H Q I q => h.run pos pins s σ H Q I (w σ H Q q)⟩
theorem PS.imp {X : Cx} {e : Stmt} {t t' : TS} (h : PS X e t) (w : ∀ D σ H, t' D σ H → t D σ H) : PS X e t' := ⟨fun pins s σ H D I q => h.run pins s σ H D I (w D σ H q)⟩
theorem PSs.imp {X : Cx} {e : List Stmt} {t t' : TS} (h : PSs X e t) (w : ∀ D σ H, t' D σ H → t D σ H) : PSs X e t' := ⟨fun pins s σ H D I q => h.run pins s σ H D I (w D σ H q)⟩
theorem PTs.imp {X : Cx} {e : List Expr} {t t' : TT} (h : PTs X e t) (w : ∀ σ H Q, t' σ H Q → t σ H Q) : PTs X e t' := ⟨fun pins s σ H Q I q => h.run pins s σ H Q I (w σ H Q q)⟩
theorem PG.imp {X : Cx} {e : Expr} {t t' : TG} (h : PG X e t) (w : ∀ v σ H Q, t' v σ H Q → t v σ H Q) : PG X e t' := ⟨fun pins s σ H v u Q I r q => h.run pins s σ H v u Q I r (w v σ H Q q)⟩

abbrev EV := En → G → (D → G → Prop) → Prop
abbrev BV := En → G → (Bool → G → Prop) → Prop
abbrev AV := En → G → (List D → G → Prop) → Prop
abbrev R1 := D → G → (D → G → Prop) → Prop
abbrev RR := D → D → G → (D → G → Prop) → Prop
abbrev RL := List D → G → (D → G → Prop) → Prop

section
variable (K : PySem.W.Frag)
def lE (t : EV) : TE := fun σ H Q => ∃ ε g Q0, RS K H ε σ ∧ RG K g H ∧ t ε g Q0 ∧ ∀ d g' v H', Q0 d g' → RV K H' d v → RG K g' H' → Keep g H g' H' → Q v H'
def lB (t : BV) : TT := fun σ H Q => ∃ ε g Q0, RS K H ε σ ∧ RG K g H ∧ t ε g Q0 ∧ ∀ b g' H', Q0 b g' → RG K g' H' → Keep g H g' H' → Q b H'
def lA (t : AV) : TA := fun σ H Q => ∃ ε g Q0, RS K H ε σ ∧ RG K g H ∧ t ε g Q0 ∧ ∀ ds g' vs H', Q0 ds g' → RVs K H' ds vs → RG K g' H' → Keep g H g' H' → Q vs H'
def lR1 (r : R1) : V → Hp → VK → Prop := fun x H Q => ∃ g dx Q0, RG K g H ∧ RV K H dx x ∧ r dx g Q0 ∧ ∀ d g' v H', Q0 d g' → RV K H' d v → RG K g' H' → Keep g H g' H' → Q v H'
def lRR (r : RR) : R2 := fun x y H Q => ∃ g dx dy Q0, RG K g H ∧ RV K H dx x ∧ RV K H dy y ∧ r dx dy g Q0 ∧ ∀ d g' v H', Q0 d g' → RV K H' d v → RG K g' H' → Keep g H g' H' → Q v H'
def lRL (r : RL) : List V → Hp → VK → Prop := fun xs H Q => ∃ g ds Q0, RG K g H ∧ RVs K H ds xs ∧ r ds g Q0 ∧ ∀ d g' v H', Q0 d g' → RV K H' d v → RG K g' H' → Keep g H g' H' → Q v H'
end
abbrev DE (X : Cx) (e : Expr) (t : EV) : Prop := PE X e (lE X.K t)
abbrev DB (X : Cx) (e : Expr) (t : BV) : Prop := PT X e (lB X.K t)
abbrev DW (X : Cx) (e : Expr) (t : BV) : Prop := PW X e (lB X.K t)
abbrev DA (X : Cx) (e : List Expr) (t : AV) : Prop := PA X e (lA X.K t)
abbrev OpD (X : Cx) (f : Value → Value → Sem Value) (r : RR) : Prop := OpR X f (lRR X.K r)
abbrev CallD (X : Cx) (f : Value) (r : RL) : Prop := CallR X f (lRL X.K r)

section
variable {K : PySem.W.Frag} {g : G} {H : Hp}
theorem RG.out (r : RG K g H) {p : Addr} (h : H p = none) : g p = none := by
  cases e : g p with
  | none => rfl
  | some o =>
    have q := r.st p o e
    cases o with
    | lst ds => obtain ⟨_, q, _⟩ := q; rw [h] at q; cases q
    | dct ds => obtain ⟨_, q, _⟩ := q; rw [h] at q; cases q
    | ins c fl ds => obtain ⟨_, _, _, q, _⟩ := q; rw [h] at q; cases q
    | dtt ds => obtain ⟨_, q, _⟩ := q; rw [h] at q; cases q
theorem keep_fresh {p : Addr} (h : H p = none) (o : DO) (u : HO) : Keep g H (gset g p o) (upd H p u) := fun a v e n => by
  have hn : a ≠ p := fun z => by subst z; rw [h] at e; cases e
  exact ⟨by rw [upd_ne hn]; exact e, by rw [gset_ne hn]; exact n⟩
theorem keep_new {p : Addr} (h : H p = none) (u : HO) : Keep g H g (upd H p u) := fun a v e n => by
  have hn : a ≠ p := fun z => by subst z; rw [h] at e; cases e
  exact ⟨by rw [upd_ne hn]; exact e, n⟩
theorem keep_put {p : Addr} {o : DO} (h : g p = some o) (o' : DO) (u : HO) : Keep g H (gset g p o') (upd H p u) := fun a v e n => by
  have hn : a ≠ p := fun z => by subst z; rw [h] at n; cases n
  exact ⟨by rw [upd_ne hn]; exact e, by rw [gset_ne hn]; exact n⟩
theorem RO.keep {g' : G} {H' : Hp} (r : RG K g H) (k : Keep g H g' H') {a : Addr} {o : DO} (hs : H' a = H a) (h : RO K H a o) : RO K H' a o := by
  cases o with
  | lst ds => obtain ⟨vs, e, q⟩ := h; exact ⟨vs, by rw [hs]; exact e, q.keep r k⟩
  | dct ds => obtain ⟨vs, e, q⟩ := h; exact ⟨vs, by rw [hs]; exact e, q.keep r k⟩
  | ins c fl ds => obtain ⟨C, dx, vs, e, cf, hl, q⟩ := h; exact ⟨C, dx, vs, by rw [hs]; exact e, cf, hl, q.keep r k⟩
  | dtt ds => obtain ⟨vs, e, q⟩ := h; exact ⟨vs, by rw [hs]; exact e, q.keep r k⟩
/-- a list is laid or written at p -/
theorem RG.lay (r : RG K g H) {p : Addr} {ds : List D} {vs : List V} (k : Keep g H (gset g p (.lst ds)) (upd H p (.lst vs))) (hv : RVs K H ds vs) : RG K (gset g p (.lst ds)) (upd H p (.lst vs)) := r.move k fun a o e => by
  by_cases ha : a = p
  · subst ha
    rw [gset_same] at e; cases e
    exact ⟨vs, upd_same, hv.keep r k⟩
  · rw [gset_ne ha] at e
    exact RO.keep r k (upd_ne ha) (r.st a o e)
/-- an object is laid or written at p -/
theorem RG.layO (r : RG K g H) {p : Addr} {o : DO} {u : HO} (k : Keep g H (gset g p o) (upd H p u)) (hv : RO K (upd H p u) p o) : RG K (gset g p o) (upd H p u) := r.move k fun a o' e => by
  by_cases ha : a = p
  · subst ha
    rw [gset_same] at e; cases e
    exact hv
  · rw [gset_ne ha] at e
    exact RO.keep r k (upd_ne ha) (r.st a o' e)
theorem RG.layD (r : RG K g H) {p : Addr} {ds : List (Key × D)} {vs : List (Key × V)} (k : Keep g H (gset g p (.dct ds)) (upd H p (.dK vs))) (hv : RKs K H ds vs) : RG K (gset g p (.dct ds)) (upd H p (.dK vs)) := r.move k fun a o e => by
  by_cases ha : a = p
  · subst ha
    rw [gset_same] at e; cases e
    exact ⟨vs, upd_same, hv.keep r k⟩
  · rw [gset_ne ha] at e
    exact RO.keep r k (upd_ne ha) (r.st a o e)
theorem RG.tupNew (r : RG K g H) {p : Addr} {u : HO} (h : H p = none) : RG K g (upd H p u) := r.move (keep_new h u) fun a o e => by
  have hn : a ≠ p := fun z => by subst z; rw [r.out h] at e; cases e
  exact RO.keep r (keep_new h u) (upd_ne hn) (r.st a o e)
end

def eVar (i : Nat) : EV := fun ε g Q => ∃ d, ε[i]? = some (some d) ∧ Q d g
def eC (d : D) : EV := fun _ g Q => Q d g
section
variable {X : Cx}
theorem d_var {i : Nat} {x : Str} {pos : Pos} (hN : X.N[i]? = some x) (hv : Vis X.env.scope x) (hd : (x == ("__debug__" : Str)) = false := by decide +kernel) (hcd : (x == ("__classdict__" : Str)) = false := by decide +kernel) : DE X (.Name x pos) (eVar i) :=
  PE.imp (pe_var hN hv hd hcd) fun σ H Q ⟨ε, g, Q0, hs, hg, ⟨d, e, q⟩, k⟩ => by
    obtain ⟨v, e1, r⟩ := hs.2 i d e
    exact ⟨v, e1, k d g v H q r hg (Keep.refl _ _)⟩
theorem d_int {i j pos} : DE X (.Constant (.int i) j pos) (eC (.int i)) := PE.imp pe_int fun σ H Q ⟨ε, g, Q0, hs, hg, q, k⟩ => k _ g _ H q (.int _) hg (Keep.refl _ _)
theorem d_bl {i j pos} : DE X (.Constant (.bool i) j pos) (eC (.bl i)) := PE.imp pe_bl fun σ H Q ⟨ε, g, Q0, hs, hg, q, k⟩ => k _ g _ H q (.bl _) hg (Keep.refl _ _)
theorem d_non {j pos} : DE X (.Constant .none j pos) (eC .non) := PE.imp pe_non fun σ H Q ⟨ε, g, Q0, hs, hg, q, k⟩ => k _ g _ H q .non hg (Keep.refl _ _)
theorem d_str {x j pos} : DE X (.Constant (.str x) j pos) (eC (.str x)) := PE.imp pe_str fun σ H Q ⟨ε, g, Q0, hs, hg, q, k⟩ => k _ g _ H q (.str _) hg (Keep.refl _ _)
/-- a module's constant -/
theorem d_gint {x : Str} {i : Int} {t : Tok} {pos : Pos} (hg : Gl X x) (hm : X.mg x = some (.int i t)) (hd : (x == ("__debug__" : Str)) = false := by decide +kernel) : DE X (.Name x pos) (eC (.int i)) :=
  PE.imp (pe_glob (v := .int i) hg hm ⟨t, rfl⟩ hd) fun σ H Q ⟨ε, g, Q0, hs, hg, q, k⟩ => k _ g _ H q (.int _) hg (Keep.refl _ _)
end

def eBin (r : RR) (ta tb : EV) : EV := fun ε g Q => ta ε g fun x g1 => tb ε g1 fun y g2 => r x y g2 Q
def eUn (r : R1) (ta : EV) : EV := fun ε g Q => ta ε g fun x g1 => r x g1 Q
def aNil : AV := fun _ g Q => Q [] g
def aCons (t : EV) (u : AV) : AV := fun ε g Q => t ε g fun x g1 => u ε g1 fun xs g2 => Q (x :: xs) g2
def eArg (r : RL) (t : AV) : EV := fun ε g Q => t ε g fun xs g1 => r xs g1 Q
section
variable {X : Cx} {a b : Expr} {ta tb : EV} {pos : Pos} {r : RR}
/-- the common step -/
theorem bin_lift {K : PySem.W.Frag} {σ : L2.St} {H : Hp} {Q : VK} (h : lE K (eBin r ta tb) σ H Q) : tOp (lRR K r) (lE K ta) (lE K tb) σ H Q := by
  obtain ⟨ε, g, Q0, hs, hg, ht, hq⟩ := h
  refine ⟨ε, g, _, hs, hg, ht, fun d1 g1 v1 H1 q1 rv1 rg1 k1 => ?_⟩
  refine ⟨ε, g1, _, hs.keep hg k1, rg1, q1, fun d2 g2 v2 H2 q2 rv2 rg2 k2 => ?_⟩
  exact ⟨g2, d1, d2, Q0, rg2, rv1.keep rg1 k2, rv2, q2, fun d g' v H' q rv rg k => hq _ _ _ _ q rv rg (k1.trans (k2.trans k))⟩
theorem d_bin {op : Operator} (ho : OpD X (binaryOp op) r) (ha : DE X a ta) (hb : DE X b tb) : DE X (.BinOp a op b pos) (eBin r ta tb) := PE.imp (pe_op ho ha hb) fun _ _ _ h => bin_lift h
theorem d_cmp {op : CmpOp} (ho : OpD X (compareOp op) r) (ha : DE X a ta) (hb : DE X b tb) (hm : behindInMarks op b = false) : DE X (.Compare a [op] [b] pos) (eBin r ta tb) := PE.imp (pe_cmpR ho ha hb hm) fun _ _ _ h => bin_lift h
theorem d_un {op : UnaryOp} {r : R1} (ho : UnR X (unaryOp op) (lR1 X.K r)) (ha : DE X a ta) : DE X (.UnaryOp op a pos) (eUn r ta) := PE.imp (pe_un ho ha) fun σ H Q ⟨ε, g, Q0, hs, hg, ht, hq⟩ =>
  ⟨ε, g, _, hs, hg, ht, fun d1 g1 v1 H1 q1 rv1 rg1 k1 => ⟨g1, d1, Q0, rg1, rv1, q1, fun d g' v H' q rv rg k => hq _ _ _ _ q rv rg (k1.trans k)⟩⟩
theorem da_nil : DA X [] aNil := PA.imp pa_nil fun σ H Q ⟨ε, g, Q0, hs, hg, ht, hq⟩ => hq _ g _ H ht .nil hg (Keep.refl _ _)
theorem da_cons {e : Expr} {es : List Expr} {t : EV} {u : AV} (ha : DE X e t) (hr : DA X es u) (hs : starEach (e :: es) X.env = (false, eval e X.env) :: starEach es X.env := by rfl) : DA X (e :: es) (aCons t u) :=
  PA.imp (pa_cons ha hr hs) fun σ H Q ⟨ε, g, Q0, hs, hg, ht, hq⟩ => by
    refine ⟨ε, g, _, hs, hg, ht, fun d1 g1 v1 H1 q1 rv1 rg1 k1 => ?_⟩
    refine ⟨ε, g1, _, hs.keep hg k1, rg1, q1, fun d2 g2 v2 H2 q2 rv2 rg2 k2 => ?_⟩
    exact hq _ _ _ _ q2 (.cons (rv1.keep rg1 k2) rv2) rg2 (k1.trans k2)
theorem arg_lift {K : PySem.W.Frag} {r : RL} {t : AV} {σ : L2.St} {H : Hp} {Q : VK} (h : lE K (eArg r t) σ H Q) : lA K t σ H (fun vs H1 => lRL K r vs H1 Q) := by
  obtain ⟨ε, g, Q0, hs, hg, ht, hq⟩ := h
  exact ⟨ε, g, _, hs, hg, ht, fun d1 g1 v1 H1 q1 rv1 rg1 k1 => ⟨g1, d1, Q0, rg1, rv1, q1, fun d g' v H' q rv rg k => hq _ _ _ _ q rv rg (k1.trans k)⟩⟩
/-- a built-in function by its name; a built-in class -/
theorem d_callB {x : Str} {id : String} {r : RL} {p : Pos} {e : Expr} {es : List Expr} {t : AV} (hc : CallD X (.builtin id) r) (hg : Gl X x) (hm : X.mg x = none) (hv : bootBuiltins x = some (.builtin id)) (ha : DA X (e :: es) t)
    (hn : x ≠ "__name__" := by decide +kernel) (hdb : (x == ("__debug__" : Str)) = false := by decide +kernel) (he : starEach (e :: es) X.env = (false, eval e X.env) :: starEach es X.env := by rfl) (hpl : (backTo pos (starEach es X.env)).any (·.1) = false := by rfl) :
    DE X (.Call (.Name x p) (e :: es) [] pos) (eArg r t) := PE.imp (pe_callB hc hg hm hv ha hn hdb he hpl) fun _ _ _ h => arg_lift h
theorem d_callT {x : Str} {T : String} {r : RL} {p : Pos} {e : Expr} {es : List Expr} {t : AV} (hc : CallD X (.type T) r) (hg : Gl X x) (hm : X.mg x = none) (hv : bootBuiltins x = some (.type T)) (ha : DA X (e :: es) t)
    (hn : x ≠ "__name__" := by decide +kernel) (hdb : (x == ("__debug__" : Str)) = false := by decide +kernel) (he : starEach (e :: es) X.env = (false, eval e X.env) :: starEach es X.env := by rfl) (hpl : (backTo pos (starEach es X.env)).any (·.1) = false := by rfl) :
    DE X (.Call (.Name x p) (e :: es) [] pos) (eArg r t) := PE.imp (pe_callTy hc hg hm hv ha hn hdb he hpl) fun _ _ _ h => arg_lift h
end

def rTup : RL := fun xs g Q => xs.length ≤ sizeLine ∧ Q (.tup xs) g
def rLst : RL := fun xs g Q => xs.length ≤ sizeLine ∧ ∀ p, g p = none → Q (.ref p) (gset g p (.lst xs))
/-- a new tuple, a new list: what follows -/
theorem fin_tup {K : PySem.W.Frag} {g : G} {H : Hp} {ds : List D} {vs : List V} {Q0 : D → G → Prop} {Q : VK} (rg : RG K g H) (rv : RVs K H ds vs) (q : Q0 (.tup ds) g) (hq : ∀ d g' v H', Q0 d g' → RV K H' d v → RG K g' H' → Keep g H g' H' → Q v H') (p : Addr) (hp : H p = none) :
    Q (.ref p) (upd H p (.tup vs)) := hq _ _ _ _ q (.tup (.inl upd_same) (rv.keep rg (keep_new hp _))) (rg.tupNew hp) (keep_new hp _)
theorem fin_lst {K : PySem.W.Frag} {g : G} {H : Hp} {ds : List D} {vs : List V} {Q0 : D → G → Prop} {Q : VK} (rg : RG K g H) (rv : RVs K H ds vs) (q : ∀ p, g p = none → Q0 (.ref p) (gset g p (.lst ds))) (hq : ∀ d g' v H', Q0 d g' → RV K H' d v → RG K g' H' → Keep g H g' H' → Q v H') (p : Addr) (hp : H p = none) :
    Q (.ref p) (upd H p (.lst vs)) := hq _ _ _ _ (q p (rg.out hp)) (.ref p) (rg.lay (keep_fresh hp _ _) rv) (keep_fresh hp _ _)
section
variable {X : Cx} {es : List Expr} {t : AV} {pos : Pos}
theorem d_tup {x1} (h : DA X es t) : DE X (.Tuple es x1 pos) (eArg rTup t) := PE.imp (pe_tup h) fun σ H Q h => by
  obtain ⟨ε, g, Q0, hs, hg, ht, hq⟩ := h
  refine ⟨ε, g, _, hs, hg, ht, fun ds g1 vs H1 q1 rv rg k => ⟨by rw [← rv.length]; exact q1.1, fun p hp => ?_⟩⟩
  exact fin_tup rg rv q1.2 (fun d g' v H' q rv rg k' => hq _ _ _ _ q rv rg (k.trans k')) p hp
theorem d_lst (h : DA X es t) : DE X (.List es pos) (eArg rLst t) := PE.imp (pe_lst h) fun σ H Q h => by
  obtain ⟨ε, g, Q0, hs, hg, ht, hq⟩ := h
  refine ⟨ε, g, _, hs, hg, ht, fun ds g1 vs H1 q1 rv rg k => ⟨by rw [← rv.length]; exact q1.1, fun p hp => ?_⟩⟩
  exact fin_lst rg rv q1.2 (fun d g' v H' q rv rg k' => hq _ _ _ _ q rv rg (k.trans k')) p hp
end

def bVal (t : EV) : BV := fun ε g Q => t ε g fun x g1 => ∃ b, x = .bl b ∧ Q b g1
def bAnd (t u : BV) : BV := fun ε g Q => t ε g fun c g1 => if c = true then u ε g1 Q else Q false g1
def bOr (t u : BV) : BV := fun ε g Q => t ε g fun c g1 => if c = true then Q true g1 else u ε g1 Q
def bNot (t : BV) : BV := fun ε g Q => t ε g fun c g1 => Q (!c) g1
/-- truth of any value -/
def rTru (x : D) (g : G) (k : Bool) : Prop := match x with
  | .non => k = false
  | .bl b => k = b
  | .int i => k = (i != 0)
  | .str y => y.length ≤ sizeLine ∧ k = ((y.length : Int) != 0)
  | .tup xs => k = !xs.isEmpty
  | .rol _ xs => k = !xs.isEmpty
  | .tua xs => k = !xs.isEmpty
  | .exv _ _ _ => False
  | .ref p => (∃ xs, g p = some (.lst xs) ∧ k = !xs.isEmpty) ∨ (∃ kvs, g p = some (.dct kvs) ∧ k = !kvs.isEmpty)
def bTru (t : EV) : BV := fun ε g Q => t ε g fun x g1 => ∃ k, rTru x g1 k ∧ Q k g1
section
variable {X : Cx} {a b : Expr} {tA tB' : BV} {ta tb : EV} {rest : List Expr} {pos : Pos}
theorem b_val {e : Expr} {t : EV} (h : DE X e t) (he : ∀ whole, isTrue e X.env whole = (do let v ← whole; standAt e.pos; holding [v] (truthy v)) := by intro _; rfl) : DB X e (bVal t) :=
  PT.imp (pt_val h he) fun σ H Q ⟨ε, g, Q0, hs, hg, ht, hq⟩ => ⟨ε, g, _, hs, hg, ht, fun d g' v H' ⟨k, e, q⟩ rv rg kp => by
    subst e
    cases rv
    exact ⟨k, rfl, hq _ _ _ q rg kp⟩⟩
theorem b_cmp {op : CmpOp} {r : RR} (ho : OpD X (compareOp op) r) (ha : DE X a ta) (hb : DE X b tb) (hm : behindInMarks op b = false) : DB X (.Compare a [op] [b] pos) (bVal (eBin r ta tb)) :=
  PT.imp (pt_cmpR ho ha hb hm) fun σ H Q ⟨ε, g, Q0, hs, hg, ht, hq⟩ => bin_lift ⟨ε, g, _, hs, hg, ht, fun d g' v H' ⟨k, e, q⟩ rv rg kp => by
    subst e
    cases rv
    exact ⟨k, rfl, hq _ _ _ q rg kp⟩⟩
theorem isEmpty_rv {K : PySem.W.Frag} {H : Hp} {ds : List D} {vs : List V} (r : RVs K H ds vs) : (!vs.isEmpty) = !ds.isEmpty := by cases r <;> rfl
theorem isEmpty_rk {K : PySem.W.Frag} {H : Hp} {ds : List (Key × D)} {vs : List (Key × V)} (r : RKs K H ds vs) : (!vs.isEmpty) = !ds.isEmpty := by cases r <;> rfl
theorem b_tru (ha : DE X a ta) (he : ∀ whole, isTrue a X.env whole = (do let v ← whole; standAt a.pos; holding [v] (truthy v)) := by intro _; rfl) : DB X a (bTru ta) :=
  PT.imp (pt_truth ha he) fun σ H Q ⟨ε, g, Q0, hs, hg, ht, hq⟩ => ⟨ε, g, _, hs, hg, ht, fun d g' v H' ⟨k, e, q⟩ rv rg kp => by
    refine ⟨k, ?_, hq _ _ _ q rg kp⟩
    cases rv with
    | non => exact e
    | bl b => exact e
    | int i => exact e
    | str x => exact e
    | tup h hs => exact .inr (.inl ⟨_, h.seq, by rw [isEmpty_rv hs]; exact e⟩)
    | rol h hs => exact .inl ⟨_, h.seq, by rw [isEmpty_rv hs]; exact e⟩
    | tua h hs => exact .inr (.inl ⟨_, h.tpl.seq, by rw [isEmpty_rv hs]; exact e⟩)
    | exv h hs => exact e.elim
    | ref a =>
      rcases e with ⟨xs, e, z⟩ | ⟨xs, e, z⟩
      · obtain ⟨vs, e1, r1⟩ := rg.st a _ e
        exact .inl ⟨vs, .of e1, by rw [isEmpty_rv r1]; exact z⟩
      · obtain ⟨vs, e1, r1⟩ := rg.st a _ e
        exact .inr (.inr ⟨vs, e1, by rw [isEmpty_rk r1]; exact z⟩)⟩
theorem w_and1 (ha : DB X a tA) : DW X (.BoolOp .And [a] pos) tA := pw_and1 ha
theorem w_or1 (ha : DB X a tA) : DW X (.BoolOp .Or [a] pos) tA := pw_or1 ha
theorem w_and (ha : DB X a tA) (hb : DW X (.BoolOp .And (b :: rest) pos) tB') : DW X (.BoolOp .And (a :: b :: rest) pos) (bAnd tA tB') :=
  PW.imp (pw_and ha hb) fun σ H Q ⟨ε, g, Q0, hs, hg, ht, hq⟩ => ⟨ε, g, _, hs, hg, ht, fun c g1 H1 q rg k => by
    cases c with
    | true => exact ⟨ε, g1, _, hs.keep hg k, rg, q, fun b g' H' q rg' k' => hq _ _ _ q rg' (k.trans k')⟩
    | false => exact hq _ _ _ q rg k⟩
theorem w_or (ha : DB X a tA) (hb : DW X (.BoolOp .Or (b :: rest) pos) tB') : DW X (.BoolOp .Or (a :: b :: rest) pos) (bOr tA tB') :=
  PW.imp (pw_or ha hb) fun σ H Q ⟨ε, g, Q0, hs, hg, ht, hq⟩ => ⟨ε, g, _, hs, hg, ht, fun c g1 H1 q rg k => by
    cases c with
    | true => exact hq _ _ _ q rg k
    | false => exact ⟨ε, g1, _, hs.keep hg k, rg, q, fun b g' H' q rg' k' => hq _ _ _ q rg' (k.trans k')⟩⟩
theorem b_w (h : DW X a tA) : DB X a tA := PW.pt h
theorem b_not (ha : DB X a tA) : DB X (.UnaryOp .Not a pos) (bNot tA) :=
  PT.imp (pt_not ha) fun σ H Q ⟨ε, g, Q0, hs, hg, ht, hq⟩ => ⟨ε, g, _, hs, hg, ht, fun c g1 H1 q rg k => hq _ _ _ q rg k⟩
/-- as values: bools -/
def eAnd (ta tb : EV) : EV := fun ε g Q => ta ε g fun x g1 => ∃ c, x = .bl c ∧ if c = true then tb ε g1 Q else Q (.bl false) g1
def eOr (ta tb : EV) : EV := fun ε g Q => ta ε g fun x g1 => ∃ c, x = .bl c ∧ if c = true then Q (.bl true) g1 else tb ε g1 Q
def eNot (ta : EV) : EV := fun ε g Q => ta ε g fun x g1 => ∃ c, x = .bl c ∧ Q (.bl (!c)) g1
def eIf (t : BV) (ta tb : EV) : EV := fun ε g Q => t ε g fun c g1 => if c = true then ta ε g1 Q else tb ε g1 Q
theorem d_one {op} {t : EV} (h : DE X a t) : DE X (.BoolOp op [a] pos) t := pe_one h
theorem d_and (ha : DE X a ta) (hb : DE X (.BoolOp .And (b :: rest) pos) tb) : DE X (.BoolOp .And (a :: b :: rest) pos) (eAnd ta tb) :=
  PE.imp (pe_and ha hb) fun σ H Q ⟨ε, g, Q0, hs, hg, ht, hq⟩ => ⟨ε, g, _, hs, hg, ht, fun d g1 v H1 ⟨c, e, q⟩ rv rg k => by
    subst e
    cases rv
    refine ⟨c, rfl, ?_⟩
    cases c with
    | true => exact ⟨ε, g1, _, hs.keep hg k, rg, q, fun d g' v H' q rv rg' k' => hq _ _ _ _ q rv rg' (k.trans k')⟩
    | false => exact hq _ _ _ _ q (.bl _) rg k⟩
theorem d_or (ha : DE X a ta) (hb : DE X (.BoolOp .Or (b :: rest) pos) tb) : DE X (.BoolOp .Or (a :: b :: rest) pos) (eOr ta tb) :=
  PE.imp (pe_or ha hb) fun σ H Q ⟨ε, g, Q0, hs, hg, ht, hq⟩ => ⟨ε, g, _, hs, hg, ht, fun d g1 v H1 ⟨c, e, q⟩ rv rg k => by
    subst e
    cases rv
    refine ⟨c, rfl, ?_⟩
    cases c with
    | true => exact hq _ _ _ _ q (.bl _) rg k
    | false => exact ⟨ε, g1, _, hs.keep hg k, rg, q, fun d g' v H' q rv rg' k' => hq _ _ _ _ q rv rg' (k.trans k')⟩⟩
theorem d_not (ha : DE X a ta) : DE X (.UnaryOp .Not a pos) (eNot ta) :=
  PE.imp (pe_not ha) fun σ H Q ⟨ε, g, Q0, hs, hg, ht, hq⟩ => ⟨ε, g, _, hs, hg, ht, fun d g1 v H1 ⟨c, e, q⟩ rv rg k => by
    subst e
    cases rv
    exact ⟨c, rfl, hq _ _ _ _ q (.bl _) rg k⟩⟩
theorem d_if {c : Expr} (hc : DB X c tA) (ha : DE X a ta) (hb : DE X b tb) : DE X (.IfExp c a b pos) (eIf tA ta tb) :=
  PE.imp (pe_ifExp hc ha hb) fun σ H Q ⟨ε, g, Q0, hs, hg, ht, hq⟩ => ⟨ε, g, _, hs, hg, ht, fun c g1 H1 q rg k => by
    cases c with
    | true => exact ⟨ε, g1, _, hs.keep hg k, rg, q, fun d g' v H' q rv rg' k' => hq _ _ _ _ q rv rg' (k.trans k')⟩
    | false => exact ⟨ε, g1, _, hs.keep hg k, rg, q, fun d g' v H' q rv rg' k' => hq _ _ _ _ q rv rg' (k.trans k')⟩⟩
end

def eChain (r r' : RR) (ta tb tc : EV) : EV := fun ε g Q => ta ε g fun x g1 => tb ε g1 fun y g2 => r x y g2 fun z g3 => ∃ k, z = .bl k ∧ if k = true then tc ε g3 fun w g4 => r' y w g4 Q else Q (.bl false) g3
end LF
namespace LF
open PySem PySem.Spec PyProof.Rows L2
variable [PP]

section
variable {X : Cx}
theorem OpD.orD {f : Value → Value → Sem Value} {r r' : RR} (h : OpD X f r) (h' : OpD X f r') : OpD X f (fun x y g Q => r x y g Q ∨ r' x y g Q) := by
  intro pins s σ H x y v u Q I rx ry ⟨g, dx, dy, Q0, rg, r1, r2, q, k⟩
  rcases q with q | q
  · exact h pins s σ H x y v u Q I rx ry ⟨g, dx, dy, Q0, rg, r1, r2, q, k⟩
  · exact h' pins s σ H x y v u Q I rx ry ⟨g, dx, dy, Q0, rg, r1, r2, q, k⟩
theorem CallD.orD {f : Value} {r r' : RL} (h : CallD X f r) (h' : CallD X f r') : CallD X f (fun xs g Q => r xs g Q ∨ r' xs g Q) := by
  intro pins s σ H x v Q I rx ⟨g, dx, Q0, rg, r1, q, k⟩
  rcases q with q | q
  · exact h pins s σ H x v Q I rx ⟨g, dx, Q0, rg, r1, q, k⟩
  · exact h' pins s σ H x v Q I rx ⟨g, dx, Q0, rg, r1, q, k⟩

def rII (C : Int → Int → Prop) (f : Int → Int → Int) : RR := fun x y g Q => match x, y with
  | .int i, .int j => C i j ∧ Q (.int (f i j)) g
  | _, _ => False
def rIB (f : Int → Int → Bool) : RR := fun x y g Q => match x, y with
  | .int i, .int j => Q (.bl (f i j)) g
  | _, _ => False
theorem od_int {f : Value → Value → Sem Value} {C : Int → Int → Prop} {v : Int → Int → Int} (h : OpR X f (rI C fun i j => .int (v i j))) : OpD X f (rII C v) := by
  intro pins s σ H x y u w Q I rx ry ⟨g, dx, dy, Q0, rg, r1, r2, q, k⟩
  cases r1 <;> first | exact q.elim | skip
  cases r2 <;> first | exact q.elim | skip
  rename_i i j
  exact h pins s σ H _ _ u w Q I rx ry ⟨i, j, rfl, rfl, q.1, k _ g _ H q.2 (.int _) rg (Keep.refl _ _)⟩
theorem od_int0 {f : Value → Value → Sem Value} {v : Int → Int → Int} (h : OpR X f (rI0 fun i j => .int (v i j))) : OpD X f (rII (fun _ _ => True) v) := by
  intro pins s σ H x y u w Q I rx ry ⟨g, dx, dy, Q0, rg, r1, r2, q, k⟩
  cases r1 <;> first | exact q.elim | skip
  cases r2 <;> first | exact q.elim | skip
  rename_i i j
  exact h pins s σ H _ _ u w Q I rx ry ⟨i, j, rfl, rfl, k _ g _ H q.2 (.int _) rg (Keep.refl _ _)⟩
theorem od_ib {f : Value → Value → Sem Value} {v : Int → Int → Bool} (h : OpR X f (rI0 fun i j => .bl (v i j))) : OpD X f (rIB v) := by
  intro pins s σ H x y u w Q I rx ry ⟨g, dx, dy, Q0, rg, r1, r2, q, k⟩
  cases r1 <;> first | exact q.elim | skip
  cases r2 <;> first | exact q.elim | skip
  rename_i i j
  exact h pins s σ H _ _ u w Q I rx ry ⟨i, j, rfl, rfl, k _ g _ H q (.bl _) rg (Keep.refl _ _)⟩
theorem od_sub : OpD X (binaryOp .Sub) (rII (fun _ _ => True) fun i j => i - j) := od_int0 op_sub
theorem od_fdiv : OpD X (binaryOp .FloorDiv) (rII CDivW fun i j => i / j) := od_int op_fdivW
theorem od_mod : OpD X (binaryOp .Mod) (rII (fun _ j => 0 < j) fun i j => i % j) := od_int op_mod
theorem od_pow : OpD X (binaryOp .Pow) (rII CPow fun i j => i ^ j.toNat) := od_int op_pow
theorem od_lt : OpD X (compareOp .Lt) (rIB fun i j => decide (i < j)) := od_ib op_lt
theorem od_le : OpD X (compareOp .LtE) (rIB fun i j => decide (i ≤ j)) := od_ib op_le
theorem od_gt : OpD X (compareOp .Gt) (rIB fun i j => decide (j < i)) := od_ib op_gt
theorem od_ge : OpD X (compareOp .GtE) (rIB fun i j => decide (j ≤ i)) := od_ib op_ge
def rNeg : R1 := fun x g Q => match x with | .int i => Q (.int (-i)) g | _ => False
theorem ud_neg : UnR X (unaryOp .USub) (lR1 X.K rNeg) := by
  intro pins s σ H x u Q I rx ⟨g, dx, Q0, rg, r1, q, k⟩
  cases r1 <;> first | exact q.elim | skip
  rename_i i
  exact un_neg pins s σ H _ u Q I rx ⟨i, rfl, k _ g _ H q (.int _) rg (Keep.refl _ _)⟩

/-- + of ints, texts, tuples, lists -/
def rAdd : RR := fun x y g Q => match x, y with
  | .int i, .int j => Q (.int (i + j)) g
  | .str a, .str b => a.length + b.length ≤ sizeLine ∧ Q (.str (a ++ b)) g
  | .tup xs, .tup ys => xs.length + ys.length ≤ sizeLine ∧ Q (.tup (xs ++ ys)) g
  | .ref a, .ref b => ∃ xs ys, g a = some (.lst xs) ∧ g b = some (.lst ys) ∧ xs.length + ys.length ≤ sizeLine ∧ ∀ p, g p = none → Q (.ref p) (gset g p (.lst (xs ++ ys)))
  | _, _ => False
theorem od_add : OpD X (binaryOp .Add) rAdd := by
  intro pins s σ H x y u w Q I rx ry ⟨g, dx, dy, Q0, rg, r1, r2, q, k⟩
  cases r1 with
  | int i => cases r2 <;> first | exact q.elim | exact op_add pins s σ H _ _ u w Q I rx ry ⟨_, _, rfl, rfl, k _ g _ H q (.int _) rg (Keep.refl _ _)⟩
  | str a => cases r2 <;> first | exact q.elim | exact op_add_str pins s σ H _ _ u w Q I rx ry ⟨_, _, rfl, rfl, q.1, k _ g _ H q.2 (.str _) rg (Keep.refl _ _)⟩
  | tup h1 hs1 =>
    cases r2 <;> first | exact q.elim | skip
    rename_i a vs ds b ws es h2 hs2
    refine op_catA pins s σ H _ _ u w Q I rx ry ⟨a, b, vs, ws, rfl, rfl, h1.seq, h2.seq, ?_, fun e => ?_, fun e e' => ?_, fun _ _ p hp => ?_⟩
    · rw [← hs1.length, ← hs2.length]; exact q.1
    · subst e
      cases hs1
      exact k _ g _ H q.2 (.tup h2 hs2) rg (Keep.refl _ _)
    · subst e'
      cases hs2
      have q2 := q.2
      rw [List.append_nil] at q2
      exact k _ g _ H q2 (.tup h1 hs1) rg (Keep.refl _ _)
    · exact fin_tup rg (hs1.append hs2) q.2 k p hp
  | ref a =>
    cases r2 <;> first | exact q.elim | skip
    rename_i b
    obtain ⟨xs, ys, e1, e2, hz, q⟩ := q
    obtain ⟨vs, h1, rv1⟩ := rg.st a _ e1
    obtain ⟨ws, h2, rv2⟩ := rg.st b _ e2
    exact op_cat pins s σ H _ _ u w Q I rx ry ⟨a, b, vs, ws, rfl, rfl, h1, h2, by rw [← rv1.length, ← rv2.length]; exact hz, fun p hp => fin_lst rg (rv1.append rv2) q k p hp⟩
  | _ => exact q.elim
/-- * of ints; of a list and an int -/
def rMul : RR := fun x y g Q => match x, y with
  | .int i, .int j => CMulW i j ∧ Q (.int (i * j)) g
  | .ref a, .int n => ∃ xs, g a = some (.lst xs) ∧ (-(2 ^ 63) ≤ n ∧ n < 2 ^ 63) ∧ xs.length * n.toNat ≤ sizeLine ∧ ∀ p, g p = none → Q (.ref p) (gset g p (.lst (List.replicate n.toNat xs).flatten))
  | _, _ => False
theorem od_mul : OpD X (binaryOp .Mult) rMul := by
  intro pins s σ H x y u w Q I rx ry ⟨g, dx, dy, Q0, rg, r1, r2, q, k⟩
  cases r1 with
  | int i => cases r2 <;> first | exact q.elim | exact op_mulW pins s σ H _ _ u w Q I rx ry ⟨_, _, rfl, rfl, q.1, k _ g _ H q.2 (.int _) rg (Keep.refl _ _)⟩
  | ref a =>
    cases r2 <;> first | exact q.elim | skip
    obtain ⟨xs, e1, hb, hz, q⟩ := q
    obtain ⟨vs, h1, rv1⟩ := rg.st a _ e1
    exact op_rep pins s σ H _ _ u w Q I rx ry ⟨a, _, vs, rfl, rfl, h1, hb.1, hb.2, by rw [← rv1.length]; exact hz, fun p hp => fin_lst rg (rv1.flat _) q k p hp⟩
  | _ => exact q.elim

mutual
inductive Dat (g : G) : D → PyData → Prop
  | non : Dat g .non .none
  | bl (b : Bool) : Dat g (.bl b) (.bool b)
  | int (i : Int) : Dat g (.int i) (.int i)
  | str (x : Str) : Dat g (.str x) (.str x)
  | tup {ds : List D} {ps : List PyData} : Dats g ds ps → Dat g (.tup ds) (.tuple ps)
  | lst {a : Addr} {ds : List D} {ps : List PyData} : g a = some (.lst ds) → Dats g ds ps → Dat g (.ref a) (.list ps)
inductive Dats (g : G) : List D → List PyData → Prop
  | nil : Dats g [] []
  | cons {d : D} {p : PyData} {ds : List D} {ps : List PyData} : Dat g d p → Dats g ds ps → Dats g (d :: ds) (p :: ps)
end
mutual
theorem Dat.dp {K : PySem.W.Frag} {g : G} {H : Hp} (rg : RG K g H) : ∀ {d : D} {p : PyData} {v : V}, Dat g d p → RV K H d v → Dp K H v p
  | _, _, _, .non, .non => .non
  | _, _, _, .bl b, .bl _ => .bl b
  | _, _, _, .int b, .int _ => .int b
  | _, _, _, .str b, .str _ => .str b
  | _, _, _, .tup hs, .tup h rs => .tup h.seq (Dats.dp rg hs rs)
  | _, _, _, .lst (a := a) e hs, r => by
    obtain ⟨vs, h1, rv1⟩ := rg.st a _ e
    have q := Dats.dp rg hs rv1
    cases r
    exact .lst (.of h1) q
theorem Dats.dp {K : PySem.W.Frag} {g : G} {H : Hp} (rg : RG K g H) : ∀ {d : List D} {p : List PyData} {v : List V}, Dats g d p → RVs K H d v → DpAll K H v p
  | _, _, _, .nil, .nil => .nil
  | _, _, _, .cons h hs, .cons r rs => .cons (Dat.dp rg h r) (Dats.dp rg hs rs)
end
def deepEq (f : Bool → Bool) : RR := fun x y g Q => ∃ p q, Dat g x p ∧ Dat g y q ∧ SeqAt.shaped p = true ∧ SeqAt.shaped q = true ∧ Q (.bl (f (PyData.eqv p q))) g
def rEq' (f : Bool → Bool) : RR := fun x y g Q => match x with
  | .int i => (match y with | .int j => Q (.bl (f (decide (i = j)))) g | _ => deepEq f x y g Q)
  | .str a => (match y with | .str b => Q (.bl (f (decide (a = b)))) g | _ => deepEq f x y g Q)
  | _ => deepEq f x y g Q
def rEqd : RR := rEq' fun b => b
def rNed : RR := rEq' fun b => !b
theorem od_eqDeep (hu : X.A.units + 64 < cLine) : OpD X (compareOp .Eq) (deepEq fun b => b) := by
  intro pins s σ H x y u w Q I rx ry ⟨g, dx, dy, Q0, rg, r1, r2, ⟨p, q, h1, h2, s1, s2, q0⟩, k⟩
  exact op_eqD hu pins s σ H _ _ u w Q I rx ry ⟨p, q, h1.dp rg r1, h2.dp rg r2, s1, s2, k _ g _ H q0 (.bl _) rg (Keep.refl _ _)⟩
theorem od_neDeep (hu : X.A.units + 64 < cLine) : OpD X (compareOp .NotEq) (deepEq fun b => !b) := by
  intro pins s σ H x y u w Q I rx ry ⟨g, dx, dy, Q0, rg, r1, r2, ⟨p, q, h1, h2, s1, s2, q0⟩, k⟩
  exact op_neD hu pins s σ H _ _ u w Q I rx ry ⟨p, q, h1.dp rg r1, h2.dp rg r2, s1, s2, k _ g _ H q0 (.bl _) rg (Keep.refl _ _)⟩
theorem v_int (i j : Int) : decide (V.int i = V.int j) = decide (i = j) := by rw [decide_eq_decide]; exact ⟨fun h => by injection h, fun h => by rw [h]⟩
theorem v_str (i j : Str) : decide (V.str i = V.str j) = decide (i = j) := by rw [decide_eq_decide]; exact ⟨fun h => by injection h, fun h => by rw [h]⟩
theorem od_eq (hu : X.A.units + 64 < cLine) : OpD X (compareOp .Eq) rEqd := by
  intro pins s σ H x y u w Q I rx ry ⟨g, dx, dy, Q0, rg, r1, r2, q, k⟩
  unfold rEqd rEq' at q
  split at q
  · split at q
    · cases r1; cases r2
      exact op_eq pins s σ H _ _ u w Q I rx ry ⟨rfl, by rw [v_int]; exact k _ g _ H q (.bl _) rg (Keep.refl _ _)⟩
    · exact od_eqDeep hu pins s σ H _ _ u w Q I rx ry ⟨g, _, _, Q0, rg, r1, r2, q, k⟩
  · split at q
    · cases r1; cases r2
      exact op_eq pins s σ H _ _ u w Q I rx ry ⟨rfl, by rw [v_str]; exact k _ g _ H q (.bl _) rg (Keep.refl _ _)⟩
    · exact od_eqDeep hu pins s σ H _ _ u w Q I rx ry ⟨g, _, _, Q0, rg, r1, r2, q, k⟩
  · exact od_eqDeep hu pins s σ H _ _ u w Q I rx ry ⟨g, _, _, Q0, rg, r1, r2, q, k⟩
theorem od_ne (hu : X.A.units + 64 < cLine) : OpD X (compareOp .NotEq) rNed := by
  intro pins s σ H x y u w Q I rx ry ⟨g, dx, dy, Q0, rg, r1, r2, q, k⟩
  unfold rNed rEq' at q
  split at q
  · split at q
    · cases r1; cases r2
      exact op_ne pins s σ H _ _ u w Q I rx ry ⟨rfl, by rw [v_int]; exact k _ g _ H q (.bl _) rg (Keep.refl _ _)⟩
    · exact od_neDeep hu pins s σ H _ _ u w Q I rx ry ⟨g, _, _, Q0, rg, r1, r2, q, k⟩
  · split at q
    · cases r1; cases r2
      exact op_ne pins s σ H _ _ u w Q I rx ry ⟨rfl, by rw [v_str]; exact k _ g _ H q (.bl _) rg (Keep.refl _ _)⟩
    · exact od_neDeep hu pins s σ H _ _ u w Q I rx ry ⟨g, _, _, Q0, rg, r1, r2, q, k⟩
  · exact od_neDeep hu pins s σ H _ _ u w Q I rx ry ⟨g, _, _, Q0, rg, r1, r2, q, k⟩
/-- is None -/
def isNon : D → Bool
  | .non => true
  | _ => false
def rIsN : RR := fun x y g Q => match y with | .non => Q (.bl (isNon x)) g | _ => False
def rNotN : RR := fun x y g Q => match y with | .non => Q (.bl (!isNon x)) g | _ => False
theorem isNon_rv {K : PySem.W.Frag} {H : Hp} {d : D} {v : V} (r : RV K H d v) : decide (v = .non) = isNon d := by cases r <;> simp [isNon]
theorem od_isN : OpD X (compareOp .Is) rIsN := by
  intro pins s σ H x y u w Q I rx ry ⟨g, dx, dy, Q0, rg, r1, r2, q, k⟩
  cases r2 <;> first | exact q.elim | skip
  exact op_isN pins s σ H _ _ u w Q I rx ry ⟨rfl, by rw [isNon_rv r1]; exact k _ g _ H q (.bl _) rg (Keep.refl _ _)⟩
theorem od_notN : OpD X (compareOp .IsNot) rNotN := by
  intro pins s σ H x y u w Q I rx ry ⟨g, dx, dy, Q0, rg, r1, r2, q, k⟩
  cases r2 <;> first | exact q.elim | skip
  exact op_notN pins s σ H _ _ u w Q I rx ry ⟨rfl, by rw [isNon_rv r1]; exact k _ g _ H q (.bl _) rg (Keep.refl _ _)⟩
def flatD : D → Bool
  | .non => true
  | .bl _ => true
  | .int _ => true
  | .str _ => true
  | _ => false
def eqD : D → D → Bool
  | .non, .non => true
  | .bl a, .bl b => a == b
  | .bl a, .int b => (if a then 1 else 0) == b
  | .int a, .bl b => a == (if b then 1 else 0)
  | .int a, .int b => a == b
  | .str a, .str b => a == b
  | _, _ => false
theorem flat_rv {K : PySem.W.Frag} {H : Hp} {d : D} {v : V} (r : RV K H d v) (h : flatD d = true) : flatV v = true := by cases r <;> first | rfl | cases h
theorem eqD_rv {K : PySem.W.Frag} {H : Hp} {d e : D} {v w : V} (r : RV K H d v) (q : RV K H e w) (h : flatD d = true) (h' : flatD e = true) : eqV v w = eqD d e := by
  cases r <;> cases q <;> first | rfl | cases h | cases h'
theorem flats_rv {K : PySem.W.Frag} {H : Hp} : ∀ {ds : List D} {vs : List V}, RVs K H ds vs → ds.all flatD = true → vs.all flatV = true
  | _, _, .nil, _ => rfl
  | _, _, .cons r t, h => by
    rw [List.all_cons, Bool.and_eq_true] at h ⊢
    exact ⟨flat_rv r h.1, flats_rv t h.2⟩
theorem inD_rv {K : PySem.W.Frag} {H : Hp} {x : D} {w : V} (rx : RV K H x w) (hx : flatD x = true) : ∀ {ds : List D} {vs : List V}, RVs K H ds vs → ds.all flatD = true → inV w vs = ds.any fun y => eqD y x
  | _, _, .nil, _ => rfl
  | _, _, .cons r t, h => by
    rw [List.all_cons, Bool.and_eq_true] at h
    have ih := inD_rv rx hx t h.2
    unfold inV at ih ⊢
    rw [List.any_cons, List.any_cons, ih, eqD_rv r rx h.1 hx]
/-- the items of a list or tuple -/
def itemsOf (x : D) (g : G) (xs : List D) : Prop := match x with
  | .tup ys => xs = ys
  | .rol _ ys => xs = ys
  | .ref a => g a = some (.lst xs)
  | _ => False
theorem itemsOf.rv {K : PySem.W.Frag} {g : G} {H : Hp} {x : D} {xs : List D} {v : V} (rg : RG K g H) (h : itemsOf x g xs) (r : RV K H x v) : ∃ p vs, v = .ref p ∧ (SqL K H p vs ∨ SqT K H p vs) ∧ RVs K H xs vs := by
  cases r <;> first | exact h.elim | skip
  · rename_i ht hs
    have e : xs = _ := h
    subst e
    exact ⟨_, _, rfl, .inr ht.seq, hs⟩
  · rename_i a
    obtain ⟨vs, e, rv⟩ := rg.st a _ h
    exact ⟨_, _, rfl, .inl (.of e), rv⟩
  · rename_i ht hs
    have e : xs = _ := h
    subst e
    exact ⟨_, _, rfl, .inl ht.seq, hs⟩
def rInF (neg : Bool) : RR := fun x y g Q => ∃ xs, itemsOf y g xs ∧ flatD x = true ∧ xs.all flatD = true ∧ Q (.bl (if neg then !xs.any (fun z => eqD z x) else xs.any fun z => eqD z x)) g
theorem od_in : OpD X (compareOp .In) (rInF false) := by
  intro pins s σ H x y u w Q I rx ry ⟨g, dx, dy, Q0, rg, r1, r2, ⟨xs, hi, f1, f2, q⟩, k⟩
  obtain ⟨p, vs, rfl, hs, rv⟩ := hi.rv rg r2
  exact op_in_seq pins s σ H _ _ u w Q I rx ry ⟨p, vs, rfl, hs, flat_rv r1 f1, flats_rv rv f2, by rw [inD_rv r1 f1 rv f2]; exact k _ g _ H q (.bl _) rg (Keep.refl _ _)⟩
theorem od_notin : OpD X (compareOp .NotIn) (rInF true) := by
  intro pins s σ H x y u w Q I rx ry ⟨g, dx, dy, Q0, rg, r1, r2, ⟨xs, hi, f1, f2, q⟩, k⟩
  obtain ⟨p, vs, rfl, hs, rv⟩ := hi.rv rg r2
  exact op_notIn_seq pins s σ H _ _ u w Q I rx ry ⟨p, vs, rfl, hs, flat_rv r1 f1, flats_rv rv f2, by rw [inD_rv r1 f1 rv f2]; exact k _ g _ H q (.bl _) rg (Keep.refl _ _)⟩

theorem chain_lift {K : PySem.W.Frag} {r r' : RR} {ta tb tc : EV} {σ : L2.St} {H : Hp} {Q : VK} (h : lE K (eChain r r' ta tb tc) σ H Q) : tChain (lRR K r) (lRR K r') (lE K ta) (lE K tb) (lE K tc) σ H Q := by
  obtain ⟨ε, g, Q0, hs, hg, ht, hq⟩ := h
  refine ⟨ε, g, _, hs, hg, ht, fun d1 g1 v1 H1 q1 rv1 rg1 k1 => ?_⟩
  refine ⟨ε, g1, _, hs.keep hg k1, rg1, q1, fun d2 g2 v2 H2 q2 rv2 rg2 k2 => ?_⟩
  refine ⟨g2, d1, d2, _, rg2, rv1.keep rg1 k2, rv2, q2, fun d3 g3 v3 H3 ⟨b, e, q3⟩ rv3 rg3 k3 => ?_⟩
  subst e
  cases rv3
  refine ⟨b, rfl, ?_⟩
  cases b with
  | false => exact hq _ _ _ _ q3 (.bl _) rg3 (k1.trans (k2.trans k3))
  | true =>
    refine ⟨ε, g3, _, ((hs.keep hg k1).keep rg1 k2).keep rg2 k3, rg3, q3, fun d4 g4 v4 H4 q4 rv4 rg4 k4 => ?_⟩
    exact ⟨g4, d2, d4, Q0, rg4, (rv2.keep rg2 k3).keep rg3 k4, rv4, q4, fun d g' v H' q rv rg k => hq _ _ _ _ q rv rg (k1.trans (k2.trans (k3.trans (k4.trans k))))⟩
theorem d_chain {a b c : Expr} {op op' : CmpOp} {r r' : RR} {ta tb tc : EV} {pos : Pos} (ho : OpD X (compareOp op) r) (ho' : OpD X (compareOp op') r') (ha : DE X a ta) (hb : DE X b tb) (hc : DE X c tc)
    (hm : lastMarks [op, op'] [b, c] = false := by with_unfolding_all rfl) : DE X (.Compare a [op, op'] [b, c] pos) (eChain r r' ta tb tc) := PE.imp (pe_chain ho ho' ha hb hc hm) fun _ _ _ h => chain_lift h
theorem b_chain {a b c : Expr} {op op' : CmpOp} {r r' : RR} {ta tb tc : EV} {pos : Pos} (ho : OpD X (compareOp op) r) (ho' : OpD X (compareOp op') r') (ha : DE X a ta) (hb : DE X b tb) (hc : DE X c tc)
    (hm : lastMarks [op, op'] [b, c] = false := by with_unfolding_all rfl) : DB X (.Compare a [op, op'] [b, c] pos) (bVal (eChain r r' ta tb tc)) :=
  PT.imp (pt_chain ho ho' ha hb hc hm) fun σ H Q ⟨ε, g, Q0, hs, hg, ht, hq⟩ => chain_lift ⟨ε, g, _, hs, hg, ht, fun d g' v H' ⟨k, e, q⟩ rv rg kp => by
    subst e
    cases rv
    exact ⟨k, rfl, hq _ _ _ q rg kp⟩⟩

def rIxd : RR := fun x y g Q => match y with
  | .int i => match x with
    | .str z => z.length ≤ sizeLine ∧ ∃ c, atI z.cps.toList i = some c ∧ Q (.str ⟨#[c]⟩) g
    | _ => ∃ xs d, itemsOf x g xs ∧ atI xs i = some d ∧ Q d g
  | _ => False
theorem atI_rv {K : PySem.W.Frag} {H : Hp} {ds : List D} {vs : List V} {i : Int} {d : D} (r : RVs K H ds vs) (h : atI ds i = some d) : ∃ v, atI vs i = some v ∧ RV K H d v := by
  unfold atI at h ⊢
  rw [← r.length]
  cases e : ixN ds.length i with
  | none => rw [e] at h; cases h
  | some j =>
    rw [e] at h
    exact r.get h
theorem xd_ix : IxR X (lRR X.K rIxd) := by
  intro value slice pins s σ H x y v u Q I rx ry ⟨g, dx, dy, Q0, rg, r1, r2, q, k⟩ hs
  cases r2 <;> first | exact q.elim | skip
  rename_i i
  cases r1 with
  | str z =>
    obtain ⟨hz, c, hc, q⟩ := q
    exact ix_str value slice pins s σ H _ _ v u Q I rx ry ⟨z, i, c, rfl, rfl, hz, hc, k _ g _ H q (.str _) rg (Keep.refl _ _)⟩ hs
  | tup h1 h2 =>
    obtain ⟨xs, d, hi, ha, q⟩ := q
    have e : xs = _ := hi
    subst e
    obtain ⟨w, hw, rw'⟩ := atI_rv h2 ha
    exact ix_tup value slice pins s σ H _ _ v u Q I rx ry ⟨_, _, i, w, rfl, rfl, h1.seq, hw, k _ g _ H q rw' rg (Keep.refl _ _)⟩ hs
  | tua h1 h2 =>
    obtain ⟨xs, d, hi, ha, q⟩ := q
    exact hi.elim
  | rol h1 h2 =>
    obtain ⟨xs, d, hi, ha, q⟩ := q
    have e : xs = _ := hi
    subst e
    obtain ⟨w, hw, rw'⟩ := atI_rv h2 ha
    exact ix_list value slice pins s σ H _ _ v u Q I rx ry ⟨_, _, i, w, rfl, rfl, h1.seq, hw, k _ g _ H q rw' rg (Keep.refl _ _)⟩ hs
  | ref a =>
    obtain ⟨xs, d, hi, ha, q⟩ := q
    obtain ⟨vs, h1, h2⟩ := rg.st a _ hi
    obtain ⟨w, hw, rw'⟩ := atI_rv h2 ha
    exact ix_list value slice pins s σ H _ _ v u Q I rx ry ⟨_, _, i, w, rfl, rfl, .of h1, hw, k _ g _ H q rw' rg (Keep.refl _ _)⟩ hs
  | _ => obtain ⟨xs, d, hi, _⟩ := q; exact hi.elim
theorem d_ix {a b : Expr} {ta tb : EV} {pos : Pos} (ha : DE X a ta) (hb : DE X b tb) (hs : PlainIx b := by exact fun _ _ => rfl) : DE X (.Subscript a b pos) (eBin rIxd ta tb) := PE.imp (pe_ix xd_ix ha hb hs) fun _ _ _ h => bin_lift h

/-- xs[lo:hi] -/
def cutD (xs : List D) (lo hi : Option Int) : List D := (xs.drop (HT.sIx xs.length 0 lo)).take (HT.sIx xs.length xs.length hi - HT.sIx xs.length 0 lo)
theorem cut_rv {K : PySem.W.Frag} {H : Hp} {ds : List D} {vs : List V} (r : RVs K H ds vs) (lo hi : Option Int) : RVs K H (cutD ds lo hi) (cutV vs lo hi) := by
  unfold cutD cutV
  rw [r.length]
  exact (r.drop _).take _
abbrev OV := En → G → (Option Int → G → Prop) → Prop
def oNo : OV := fun _ g Q => Q none g
def oSo (t : EV) : OV := fun ε g Q => t ε g fun x g1 => match x with | .int i => Q (some i) g1 | _ => False
def lO (K : PySem.W.Frag) (t : OV) : TO := fun σ H Q => ∃ ε g Q0, RS K H ε σ ∧ RG K g H ∧ t ε g Q0 ∧ ∀ b g' H', Q0 b g' → RG K g' H' → Keep g H g' H' → Q b H'
abbrev DO' (X : Cx) (e : Option Expr) (t : OV) : Prop := PO X e (lO X.K t)
theorem PO.imp {e : Option Expr} {t t' : TO} (h : PO X e t) (w : ∀ σ H Q, t' σ H Q → t σ H Q) : PO X e t' := ⟨fun pins s σ H Q I q => h.run pins s σ H Q I (w σ H Q q)⟩
theorem do_no : DO' X none oNo := PO.imp po_none fun σ H Q ⟨ε, g, Q0, hs, hg, q, k⟩ => k _ g H q hg (Keep.refl _ _)
theorem do_so {e : Expr} {t : EV} (h : DE X e t) : DO' X (some e) (oSo t) := PO.imp (po_some h) fun σ H Q ⟨ε, g, Q0, hs, hg, q, k⟩ => ⟨ε, g, _, hs, hg, q, fun d g' v H' q rv rg kp => by
  cases rv <;> first | exact q.elim | skip
  exact ⟨_, rfl, k _ _ _ q rg kp⟩⟩
def rSld (x : D) (lo hi : Option Int) (g : G) (Q : D → G → Prop) : Prop := match x with
  | .tup xs => Q (.tup (cutD xs lo hi)) g
  | .rol _ xs => ∀ p, g p = none → Q (.ref p) (gset g p (.lst (cutD xs lo hi)))
  | .ref a => ∃ xs, g a = some (.lst xs) ∧ ∀ p, g p = none → Q (.ref p) (gset g p (.lst (cutD xs lo hi)))
  | _ => False
theorem cut_all {α : Type} (xs : List α) (a b : Nat) (h1 : a = 0) (h2 : b = xs.length) : (xs.drop a).take (b - a) = xs := by
  subst h1
  rw [List.drop_zero, h2]
  exact List.take_of_length_le (by omega)
theorem sd_any : SlR X (fun x lo hi H Q => ∃ g dx Q0, RG X.K g H ∧ RV X.K H dx x ∧ rSld dx lo hi g Q0 ∧ ∀ d g' v H', Q0 d g' → RV X.K H' d v → RG X.K g' H' → Keep g H g' H' → Q v H') := by
  intro pins s σ H x v vl vu lo hi sl Q I rx hs pl pu ⟨g, dx, Q0, rg, r1, q, k⟩
  cases r1 with
  | tup h1 h2 =>
    refine sl_tupA pins s σ H _ v vl vu lo hi sl Q I rx hs pl pu ⟨_, _, rfl, h1.seq, fun e => ?_, fun _ p hp => fin_tup rg (cut_rv h2 lo hi) q k p hp⟩
    refine k _ g _ H q (.tup h1 ?_) rg (Keep.refl _ _)
    have z := cut_rv h2 lo hi
    unfold cutD cutV at z
    rw [← h2.length] at e
    rw [cut_all _ _ _ e.1 e.2] at z
    rw [show cutD _ lo hi = _ from cut_all _ _ _ e.1 e.2]
    exact h2
  | tua h1 h2 => exact q.elim
  | rol h1 h2 => exact sl_list pins s σ H _ v vl vu lo hi sl Q I rx hs pl pu ⟨_, _, rfl, h1.seq, fun p hp => fin_lst rg (cut_rv h2 lo hi) q k p hp⟩
  | ref a =>
    obtain ⟨xs, e, q⟩ := q
    obtain ⟨vs, h1, h2⟩ := rg.st a _ e
    exact sl_list pins s σ H _ v vl vu lo hi sl Q I rx hs pl pu ⟨_, _, rfl, .of h1, fun p hp => fin_lst rg (cut_rv h2 lo hi) q k p hp⟩
  | _ => exact q.elim
def eSl (te : EV) (tl th : OV) : EV := fun ε g Q => te ε g fun x g1 => tl ε g1 fun lo g2 => th ε g2 fun hi g3 => rSld x lo hi g3 Q
theorem d_sl {e : Expr} {lo hi : Option Expr} {te : EV} {tl th : OV} {p2 pos : Pos} (he : DE X e te) (hl : DO' X lo tl) (hh : DO' X hi th) : DE X (.Subscript e (.Slice lo hi none p2) pos) (eSl te tl th) :=
  PE.imp (pe_slice sd_any he hl hh) fun σ H Q ⟨ε, g, Q0, hs, hg, ht, hq⟩ => ⟨ε, g, _, hs, hg, ht, fun d1 g1 v1 H1 q1 rv1 rg1 k1 => ⟨ε, g1, _, hs.keep hg k1, rg1, q1, fun lo g2 H2 q2 rg2 k2 =>
    ⟨ε, g2, _, (hs.keep hg k1).keep rg1 k2, rg2, q2, fun hi g3 H3 q3 rg3 k3 => ⟨g3, d1, Q0, rg3, (rv1.keep rg1 k2).keep rg2 k3, q3, fun d g' v H' q rv rg k => hq _ _ _ _ q rv rg (k1.trans (k2.trans (k3.trans k)))⟩⟩⟩⟩
end
end LF
namespace LF
open PySem PySem.Spec PyProof.Rows L2
variable [PP]

structure Es where
  nx : En → G → Prop
  rt : D → G → Prop
  bk : En → G → Prop := fun _ _ => False
  ct : En → G → Prop := fun _ _ => False
abbrev SV := Es → En → G → Prop
structure EsOk (K : PySem.W.Frag) (g : G) (H : Hp) (D0 : Es) (D : Ends) : Prop where
  nx : ∀ ε' g' σ' H', D0.nx ε' g' → RS K H' ε' σ' → RG K g' H' → Keep g H g' H' → D.nx σ' H'
  rt : ∀ d g' v H', D0.rt d g' → RV K H' d v → RG K g' H' → Keep g H g' H' → D.rt v H'
  bk : ∀ ε' g' σ' H', D0.bk ε' g' → RS K H' ε' σ' → RG K g' H' → Keep g H g' H' → D.bk σ' H'
  ct : ∀ ε' g' σ' H', D0.ct ε' g' → RS K H' ε' σ' → RG K g' H' → Keep g H g' H' → D.ct σ' H'
theorem EsOk.from {K : PySem.W.Frag} {g g1 : G} {H H1 : Hp} {D0 : Es} {D : Ends} (o : EsOk K g H D0 D) (k : Keep g H g1 H1) : EsOk K g1 H1 D0 D :=
  ⟨fun _ _ _ _ q a b c => o.nx _ _ _ _ q a b (k.trans c), fun _ _ _ _ q a b c => o.rt _ _ _ _ q a b (k.trans c), fun _ _ _ _ q a b c => o.bk _ _ _ _ q a b (k.trans c), fun _ _ _ _ q a b c => o.ct _ _ _ _ q a b (k.trans c)⟩
def lS (K : PySem.W.Frag) (t : SV) : TS := fun D σ H => ∃ ε g D0, RS K H ε σ ∧ RG K g H ∧ t D0 ε g ∧ EsOk K g H D0 D
abbrev DS (X : Cx) (s : Stmt) (t : SV) : Prop := PS X s (lS X.K t)
abbrev DSs (X : Cx) (s : List Stmt) (t : SV) : Prop := PSs X s (lS X.K t)

def sNext : SV := fun D ε g => D.nx ε g
def sSeq (t u : SV) : SV := fun D ε g => t { D with nx := u D } ε g
def sBreak : SV := fun D ε g => D.bk ε g
def sCont : SV := fun D ε g => D.ct ε g
def sDrop (t : EV) : SV := fun D ε g => t ε g fun _ g' => D.nx ε g'
def sRet (t : EV) : SV := fun D ε g => t ε g D.rt
def sRetN : SV := fun D _ g => D.rt .non g
def sIf (c : BV) (t u : SV) : SV := fun D ε g => c ε g fun b g' => if b = true then t D ε g' else u D ε g'
def sNever : SV := fun _ _ _ => False
section
variable {X : Cx} {st : Stmt} {rest : List Stmt} {t u : SV} {e : Expr} {te : EV} {pos : Pos}
theorem s_nil : DSs X [] sNext := PSs.imp pss_nil fun D σ H ⟨ε, g, D0, rs, rg, q, o⟩ => o.nx _ _ _ _ q rs rg (Keep.refl _ _)
theorem s_cons (h1 : DS X st t) (h2 : DSs X rest u) : DSs X (st :: rest) (sSeq t u) := PSs.imp (pss_cons h1 h2) fun D σ H ⟨ε, g, D0, rs, rg, q, o⟩ =>
  ⟨ε, g, _, rs, rg, q, ⟨fun ε' g' σ' H' q rs' rg' k => ⟨ε', g', D0, rs', rg', q, o.from k⟩, o.rt, o.bk, o.ct⟩⟩
theorem s_one (h1 : DS X st t) : DSs X [st] t := pss_one h1
theorem s_pass : DS X (.Pass pos) sNext := PS.imp ps_pass fun D σ H ⟨ε, g, D0, rs, rg, q, o⟩ => o.nx _ _ _ _ q rs rg (Keep.refl _ _)
theorem s_break : DS X (.Break pos) sBreak := PS.imp ps_break fun D σ H ⟨ε, g, D0, rs, rg, q, o⟩ => o.bk _ _ _ _ q rs rg (Keep.refl _ _)
theorem s_continue : DS X (.Continue pos) sCont := PS.imp ps_continue fun D σ H ⟨ε, g, D0, rs, rg, q, o⟩ => o.ct _ _ _ _ q rs rg (Keep.refl _ _)
theorem s_expr (he : DE X e te) (hs : swapsWith e none pos.line X.env = pure false := by rfl) : DS X (.Expr e pos) (sDrop te) := PS.imp (ps_expr he hs) fun D σ H ⟨ε, g, D0, rs, rg, q, o⟩ =>
  ⟨ε, g, _, rs, rg, q, fun d g' v H' q rv rg' k => o.nx _ _ _ _ q (rs.keep rg k) rg' k⟩
theorem s_ret (he : DE X e te) : DS X (.Return (some e) pos) (sRet te) := PS.imp (ps_ret he) fun D σ H ⟨ε, g, D0, rs, rg, q, o⟩ =>
  ⟨ε, g, _, rs, rg, q, fun d g' v H' q rv rg' k => o.rt _ _ _ _ q rv rg' k⟩
theorem s_retN : DS X (.Return none pos) sRetN := PS.imp ps_retN fun D σ H ⟨ε, g, D0, rs, rg, q, o⟩ => o.rt _ _ _ _ q .non rg (Keep.refl _ _)
theorem s_if {c : Expr} {a b : List Stmt} {tc : BV} (hc : DB X c tc) (ha : DSs X a t) (hb : DSs X b u) : DS X (.If c a b pos) (sIf tc t u) := PS.imp (ps_if hc ha hb) fun D σ H ⟨ε, g, D0, rs, rg, q, o⟩ =>
  ⟨ε, g, _, rs, rg, q, fun b g' H' q rg' k => by
    cases b with
    | true => exact ⟨ε, g', D0, rs.keep rg k, rg', q, o.from k⟩
    | false => exact ⟨ε, g', D0, rs.keep rg k, rg', q, o.from k⟩⟩
theorem s_never : DS X st sNever := PS.imp ps_never fun D σ H ⟨ε, g, D0, rs, rg, q, o⟩ => q.elim
end

abbrev GV := D → En → G → (En → G → Prop) → Prop
abbrev GVs := List D → En → G → (En → G → Prop) → Prop
def lG (K : PySem.W.Frag) (t : GV) : TG := fun v σ H Q => ∃ d ε g Q0, RV K H d v ∧ RS K H ε σ ∧ RG K g H ∧ t d ε g Q0 ∧ ∀ ε' g' σ' H', Q0 ε' g' → RS K H' ε' σ' → RG K g' H' → Keep g H g' H' → Q σ' H'
def lGs (K : PySem.W.Frag) (t : GVs) : TGs := fun vs σ H Q => ∃ ds ε g Q0, RVs K H ds vs ∧ RS K H ε σ ∧ RG K g H ∧ t ds ε g Q0 ∧ ∀ ε' g' σ' H', Q0 ε' g' → RS K H' ε' σ' → RG K g' H' → Keep g H g' H' → Q σ' H'
abbrev DG (X : Cx) (e : Expr) (t : GV) : Prop := PG X e (lG X.K t)
abbrev DGs (X : Cx) (e : List Expr) (t : GVs) : Prop := PGs X e (lGs X.K t)
def gName (i : Nat) : GV := fun d ε g Q => Q (ε.set i (some d)) g
def gNil : GVs := fun ds ε g Q => ds = [] ∧ Q ε g
def gCons (t : GV) (u : GVs) : GVs := fun ds ε g Q => match ds with
  | [] => False
  | d :: r => t d ε g fun ε' g' => u r ε' g' Q
def gTup (n : Nat) (t : GVs) : GV := fun d ε g Q => match d with
  | .tup ds => ds.length = n ∧ t ds ε g Q
  | .ref a => ∃ ds, g a = some (.lst ds) ∧ ds.length = n ∧ t ds ε g Q
  | _ => False
section
variable {X : Cx} {pos : Pos}
theorem g_name {i : Nat} {x : Str} (hN : X.N.Nodup) (hi : X.N[i]? = some x) (hx : Loc X.env.scope x) (hf : X.fn x = true ∨ X.env.scope.names.lookup x = some .local := by first | exact .inl rfl | exact .inr rfl | assumption) : DG X (.Name x pos) (gName i) :=
  PG.imp (pg_name hN hi hx hf) fun v σ H Q ⟨d, ε, g, Q0, rv, rs, rg, q, k⟩ => k _ g _ H q (rs.set i rv) rg (Keep.refl _ _)
theorem gs_nil : DGs X [] gNil := ⟨fun pins s σ H vs us Q I r ⟨ds, ε, g, Q0, rv, rs, rg, ⟨e, q⟩, k⟩ => by
  subst e
  cases rv
  exact pgs_nil.run pins s σ H [] us Q I r ⟨rfl, k _ g _ H q rs rg (Keep.refl _ _)⟩⟩
theorem gs_cons {e : Expr} {es : List Expr} {t : GV} {u : GVs} (h1 : DG X e t) (h2 : DGs X es u)
    (hs : (assignEach (e :: es) X.env).map (·.2) = assign e X.env :: (assignEach es X.env).map (·.2) := by rfl) : DGs X (e :: es) (gCons t u) := ⟨fun pins s σ H vs us Q I r ⟨ds, ε, g, Q0, rv, rs, rg, q, k⟩ => by
  cases rv with
  | nil => exact q.elim
  | cons a b =>
    refine (pgs_cons h1 h2 hs).run pins s σ H _ us Q I r ⟨_, _, rfl, _, ε, g, _, a, rs, rg, q, fun ε' g' σ' H' q' rs' rg' k' => ?_⟩
    exact ⟨_, ε', g', Q0, b.keep rg k', rs', rg', q', fun ε2 g2 σ2 H2 q2 rs2 rg2 k2 => k _ _ _ _ q2 rs2 rg2 (k'.trans k2)⟩⟩
theorem g_tup {es : List Expr} {k : Nat} {t : GVs} {n : Nat} (hc : X.calm = true) (h : DGs X es t)
    (hn : (assignEach es X.env).length = n := by rfl) (hst : (assignEach es X.env).findIdx? (·.1) = none := by rfl) : DG X (.Tuple es k pos) (gTup n t) := ⟨fun pins s σ H v u Q I r ⟨d, ε, g, Q0, rv, rs, rg, q, kk⟩ => by
  cases rv with
  | tup h1 h2 => exact (pg_tup hc h hn hst).run pins s σ H _ u Q I r ⟨_, _, rfl, h1.seq, by rw [← h2.length]; exact q.1, _, ε, g, Q0, h2, rs, rg, q.2, kk⟩
  | ref a =>
    obtain ⟨ds, e, hl, q⟩ := q
    obtain ⟨vs, h1, h2⟩ := rg.st a _ e
    exact (pg_lst hc h hn hst).run pins s σ H _ u Q I r ⟨_, _, rfl, .of h1, by rw [← h2.length]; exact hl, _, ε, g, Q0, h2, rs, rg, q, kk⟩
  | _ => exact q.elim⟩
/-- o[i] = .. of a list -/
def rSetd (o i v : D) (g : G) (Q : G → Prop) : Prop := match o, i with
  | .ref p, .int k => ∃ xs j, g p = some (.lst xs) ∧ ixN xs.length k = some j ∧ Q (gset g p (.lst (xs.set j v)))
  | _, _ => False
def lSet (K : PySem.W.Frag) (r : D → D → D → G → (G → Prop) → Prop) : TSet := fun o i v H Q => ∃ g od id vd Q0, RG K g H ∧ RV K H od o ∧ RV K H id i ∧ RV K H vd v ∧ r od id vd g Q0 ∧ ∀ g' H', Q0 g' → RG K g' H' → Keep g H g' H' → Q H'
theorem set_d : PSet X (lSet X.K rSetd) := by
  intro pins s σ H o i v ov iv u Q I ro ri rv ⟨g, od, id, vd, Q0, rg, r1, r2, r3, q, k⟩
  cases r1 <;> first | exact q.elim | skip
  cases r2 <;> first | exact q.elim | skip
  rename_i p n
  obtain ⟨xs, j, e, hj, q⟩ := q
  obtain ⟨vs, h1, h2⟩ := rg.st p _ e
  have kp := keep_put (H := H) e (.lst (xs.set j vd)) (.lst (vs.set j v))
  exact set_list pins s σ H _ _ v ov iv u Q I ro ri rv ⟨p, vs, n, j, rfl, rfl, h1, by rw [← h2.length]; exact hj, k _ _ q (rg.lay kp (h2.set r3 j)) kp⟩
def gSub (r : D → D → D → G → (G → Prop) → Prop) (to ti : EV) : GV := fun v ε g Q => to ε g fun o g1 => ti ε g1 fun i g2 => r o i v g2 fun g3 => Q ε g3
theorem sub_lift {K : PySem.W.Frag} {r : D → D → D → G → (G → Prop) → Prop} {to ti : EV} {v : V} {σ : L2.St} {H : Hp} {Q : L2.St → Hp → Prop} (h : lG K (gSub r to ti) v σ H Q) : L2.gSub (lE K to) (lE K ti) (lSet K r) v σ H Q := by
  obtain ⟨d, ε, g, Q0, rv, rs, rg, q, k⟩ := h
  refine ⟨ε, g, _, rs, rg, q, fun od g1 o H1 q1 ro rg1 k1 => ⟨ε, g1, _, rs.keep rg k1, rg1, q1, fun id g2 i H2 q2 ri rg2 k2 => ?_⟩⟩
  exact ⟨g2, od, id, d, _, rg2, ro.keep rg1 k2, ri, (rv.keep rg k1).keep rg1 k2, q2, fun g3 H3 q3 rg3 k3 => k _ _ _ _ q3 (((rs.keep rg k1).keep rg1 k2).keep rg2 k3) rg3 (k1.trans (k2.trans k3))⟩
theorem g_sub {o i : Expr} {to ti : EV} (ho : DE X o to) (hi : DE X i ti)
    (ha : ∀ v, assign (.Subscript o i pos) X.env v = (do
      let ov ← holding [v] (eval o X.env)
      let iv ← holding [v, ov] (eval i X.env)
      standAt pos
      holding [v, ov, iv] (setItem ov iv v)
      release [v, ov, iv] []) := by intro _; rfl) : DG X (.Subscript o i pos) (gSub rSetd to ti) := PG.imp (pg_sub ho hi set_d ha) fun _ _ _ _ h => sub_lift h
/-- target = value -/
def sAsg (t : EV) (gt : GV) : SV := fun D ε g => t ε g fun x g1 => gt x ε g1 D.nx
theorem asg_lift {K : PySem.W.Frag} {t : EV} {gt : GV} {D : Ends} {σ : L2.St} {H : Hp} (h : lS K (sAsg t gt) D σ H) : tAsg (lE K t) (lG K gt) D σ H := by
  obtain ⟨ε, g, D0, rs, rg, q, o⟩ := h
  exact ⟨ε, g, _, rs, rg, q, fun d g1 v H1 q1 rv rg1 k1 => ⟨d, ε, g1, _, rv, rs.keep rg k1, rg1, q1, fun ε' g' σ' H' q rs' rg' k => o.nx _ _ _ _ q rs' rg' (k1.trans k)⟩⟩
theorem s_asg {tg e : Expr} {te : EV} {gt : GV} (he : DE X e te) (hg : DG X tg gt) (hs : swapsWithSole [tg] e pos.line X.env = pure false := by rfl) (hw : swappedStores [tg] e X.env = pure none := by rfl)
    (h1 : (assignEach [tg] X.env).map (·.2) = [assign tg X.env] := by rfl) : DS X (.Assign [tg] e pos) (sAsg te gt) := PS.imp (ps_asg he hg hs hw h1) fun _ _ _ h => asg_lift h
/-- name = value -/
def sSet (i : Nat) (t : EV) : SV := fun D ε g => t ε g fun x g1 => D.nx (ε.set i (some x)) g1
theorem s_set {i : Nat} {x : Str} {e : Expr} {te : EV} {pos' : Pos} (hN : X.N.Nodup) (hi : X.N[i]? = some x) (hx : Loc X.env.scope x) (he : DE X e te) (hs : swapsWith e (some (.Name x pos')) pos.line X.env = pure false := by rfl) (hf : X.fn x = true ∨ X.env.scope.names.lookup x = some .local := by first | exact .inl rfl | exact .inr rfl | assumption) :
    DS X (.Assign [.Name x pos'] e pos) (sSet i te) := PS.imp (ps_set hN hi hx he hs hf) fun D σ H ⟨ε, g, D0, rs, rg, q, o⟩ =>
  ⟨ε, g, _, rs, rg, q, fun d g1 v H1 q1 rv rg1 k1 => o.nx _ _ _ _ q1 ((rs.keep rg k1).set i rv) rg1 k1⟩
/-- a, b (, c) = x, y (, z) with plain local names: stored from the right -/
def setF : List Nat → List D → En → En
  | i :: is, d :: ds, ε => setF is ds (ε.set i (some d))
  | _, _, ε => ε
def sPar (is : List Nat) (t : AV) : SV := fun D ε g => t ε g fun ds g1 => ds.length = is.length ∧ D.nx (setF is.reverse ds.reverse ε) g1
/-- the names of a parallel assignment, with their slots -/
inductive ParN (X : Cx) : List Nat → List Str → Prop
  | nil : ParN X [] []
  | cons {i : Nat} {x : Str} {is : List Nat} {xs : List Str} : X.N[i]? = some x → X.env.scope.names.lookup x = some .local → ParN X is xs → ParN X (i :: is) (x :: xs)
theorem ParN.app : ∀ {is js : List Nat} {xs ys : List Str}, ParN X is xs → ParN X js ys → ParN X (is ++ js) (xs ++ ys)
  | _, _, _, _, .nil, h => h
  | _, _, _, _, .cons a b c, h => .cons a b (c.app h)
theorem ParN.rev : ∀ {is : List Nat} {xs : List Str}, ParN X is xs → ParN X is.reverse xs.reverse
  | _, _, .nil => .nil
  | _, _, .cons a b c => by rw [List.reverse_cons, List.reverse_cons]; exact c.rev.app (.cons a b .nil)
theorem ParN.length : ∀ {is : List Nat} {xs : List Str}, ParN X is xs → is.length = xs.length
  | _, _, .nil => rfl
  | _, _, .cons _ _ c => congrArg (· + 1) c.length
theorem par_stores {K : PySem.W.Frag} {g : G} {H : Hp} {pins : List (Addr × Obj)} (hN : X.N.Nodup) : ∀ {is : List Nat} {xs : List Str} (_ : ParN X is xs) {ds : List D} {vs : List V} {us : List Value} {ε : En} {σ : L2.St} {s : Shared} {Q : Unit → Shared → Prop},
    ds.length = is.length → RVs K H ds vs → Vals vs us → RS K H ε σ → Inv X pins σ H s → (∀ σ' s', RS K H (setF is ds ε) σ' → Inv X pins σ' H s' → Q () s') →
    wpAny (model X.prog X.w) X.A (assignInOrder (xs.map fun n => bindName X.env n) us) Q X.xe s := by
  intro is xs h
  induction h with
  | nil =>
    intro ds vs us ε σ s Q hl r1 r2 rs I k
    cases ds with
    | nil => exact assignInOrder_nil (k σ s rs I)
    | cons _ _ => cases hl
  | cons hi hx _ ih =>
    intro ds vs us ε σ s Q hl r1 r2 rs I k
    cases r1 with
    | nil => cases hl
    | cons a b =>
      cases r2 with
      | cons c d =>
        rw [List.map_cons]
        exact assignInOrder_cons (wpAny_bindName (store_ok I hN hi (.inl hx) c (fun s1 I1 => ih (by simpa using hl) b d (rs.set _ a) I1 k) (.inr hx)))
theorem RVs.rev2 {K : PySem.W.Frag} {H : Hp} {ds : List D} {vs : List V} {us : List Value} (r : RVs K H ds vs) (q : Vals vs us) : Vals vs.reverse us.reverse := q.reverse
theorem s_par {ts es : List Expr} {is : List Nat} {names : List Str} {ta : AV} {pt pt2 : Pos} {kt k2 : Nat} (hc : X.calm = true) (hN : X.N.Nodup) (hP : ParN X is names) (ha : DA X es ta)
    (hw : swappedStores [.Tuple ts kt pt] (.Tuple es k2 pt2) X.env = pure (some names))
    (hn : names.length ≤ 3 := by decide) (hs : swapsWithSole [.Tuple ts kt pt] (.Tuple es k2 pt2) pos.line X.env = pure false := by rfl) : DS X (.Assign [.Tuple ts kt pt] (.Tuple es k2 pt2) pos) (sPar is ta) := by
  refine ⟨fun pins s σ H D I ⟨ε, g, D0, rs, rg, q, o⟩ => ?_⟩
  rw [exec_Assign_arm]
  refine wpAny_bind (wpAny_standAt ?_)
  rw [hs]
  refine wpAny_bind (wpAny_pure ?_)
  rw [if_neg (by decide)]
  have hA : lA X.K ta σ H (fun vs H1 => ∃ ds g1, RVs X.K H1 ds vs ∧ RG X.K g1 H1 ∧ Keep g H g1 H1 ∧ ds.length = is.length ∧ D0.nx (setF is.reverse ds.reverse ε) g1) :=
    ⟨ε, g, _, rs, rg, q, fun ds g1 vs H1 q1 rv rg1 k1 => ⟨ds, g1, rv, rg1, k1, q1.1, q1.2⟩⟩
  refine wpAny_bind (Tuple_ (thn (ha.run _ pins s σ H _ I hA) fun us s1 ⟨vs, H1, I1, r1, ds, g1, rv, rg1, k1, hl, q1⟩ => ?_))
  have hlu : us.length = names.length := by rw [← r1.length, ← rv.length, hl, hP.length]
  refine wpAny_newObj_type ?_ ?_
  · rw [hw]
    refine wpAny_bind (wpAny_pure ?_)
    have I2 := I1.kept (h' := s1.heap.push { cls := .type "tuple", data := .seq us.toArray }) (t' := s1.toks) fun b o e => Heap.get?_push_of_some _ e
    unfold assignStores
    refine wpAny_bind (wpAny_rule (wpAny_bind ?_))
    rw [show names.length = us.toArray.size by rw [List.size_toArray]; exact hlu.symm]
    refine unpackItems_tuple (items := us.toArray) (I.ok.hd hc) (IsTup.new s1.heap _) fun h' hx' => ?_
    have I3 := I2.kept (h' := h') (t' := s1.toks) fun b o e => hx' b o (Nat.ne_of_lt (Heap.lt_size e)) e
    refine wpAny_bind ?_
    show wpAny _ _ (assignInOrder (names.reverse.map fun n => bindName X.env n) us.reverse) _ _ _
    refine par_stores (K := X.K) (g := g1) (H := H1) hN hP.rev (by rw [List.length_reverse, List.length_reverse, hl]) rv.reverse r1.reverse (rs.keep rg k1) I3 fun σ' s' rs' I' => ?_
    exact wpAny_pure ⟨σ', H1, I', o.nx _ _ _ _ q1 rs' rg1 k1⟩
  · show us.toArray.size ≤ sizeLine
    rw [List.size_toArray, hlu, sizeLine_eq]
    omega
end
end LF
namespace LF
open PySem PySem.Spec PyProof.Rows L2
variable [PP]

section
variable {X : Cx} {pos : Pos}
/-- x op= e by values -/
def lIp (K : PySem.W.Frag) (r : RR) : TIp := lRR K r
abbrev IpD (X : Cx) (op : Operator) (r : RR) : Prop := PIp X op (lRR X.K r)
theorem ip_of {op : Operator} {r : RR} (h : OpD X (inplaceOp op) r) : IpD X op r := fun pins s σ H x y v u Q I r1 r2 q => h pins s σ H x y v u Q I r1 r2 q
theorem id_add : IpD X .Add (rII (fun _ _ => True) fun i j => i + j) := ip_of (od_int0 iop_add)
theorem id_sub : IpD X .Sub (rII (fun _ _ => True) fun i j => i - j) := ip_of (od_int0 iop_sub)
theorem id_mul : IpD X .Mult (rII CMul fun i j => i * j) := ip_of (od_int iop_mul)
def sAug (i : Nat) (t : EV) (r : RR) : SV := fun D ε g => ∃ x, ε[i]? = some (some x) ∧ t ε g fun y g1 => r x y g1 fun z g2 => D.nx (ε.set i (some z)) g2
theorem s_aug {i : Nat} {x : Str} {e : Expr} {te : EV} {op : Operator} {r : RR} {pos' : Pos} (hN : X.N.Nodup) (hi : X.N[i]? = some x) (hx : Loc X.env.scope x) (he : DE X e te) (ho : IpD X op r) (hf : X.fn x = true ∨ X.env.scope.names.lookup x = some .local := by first | exact .inl rfl | exact .inr rfl | assumption) :
    DS X (.AugAssign (.Name x pos') op e pos) (sAug i te r) := PS.imp (ps_aug hN hi hx he ho hf) fun D σ H ⟨ε, g, D0, rs, rg, ⟨d, e1, q⟩, o⟩ => by
  obtain ⟨v, ev, rv⟩ := rs.2 i d e1
  refine ⟨v, ev, ε, g, _, rs, rg, q, fun d1 g1 v1 H1 q1 rv1 rg1 k1 => ⟨g1, d, d1, _, rg1, rv.keep rg k1, rv1, q1, fun d2 g2 v2 H2 q2 rv2 rg2 k2 => ?_⟩⟩
  exact o.nx _ _ _ _ q2 (((rs.keep rg k1).keep rg1 k2).set i rv2) rg2 (k1.trans k2)
/-- o[i] op= e of a list -/
def rIxl : RR := fun x y g Q => match x, y with
  | .ref a, .int i => ∃ xs d, g a = some (.lst xs) ∧ atI xs i = some d ∧ Q d g
  | _, _ => False
theorem get_d : PGet X (lRR X.K rIxl) := by
  intro pins s σ H o i ov iv Q I ro ri ⟨g, dx, dy, Q0, rg, r1, r2, q, k⟩
  cases r1 <;> first | exact q.elim | skip
  cases r2 <;> first | exact q.elim | skip
  rename_i a n
  obtain ⟨xs, d, e, ha, q⟩ := q
  obtain ⟨vs, h1, h2⟩ := rg.st a _ e
  obtain ⟨v, hv, rv⟩ := atI_rv h2 ha
  obtain ⟨j, c1, c2, c3, c4, c5⟩ := atI_get hv
  obtain ⟨its, r, pl, hz⟩ := I.list (.of h1)
  obtain ⟨u, eu, ru⟩ := r.get c2
  cases ro
  obtain ⟨t, rfl⟩ := ri
  have hl := r.length
  have line := line63
  have fin : EP X pins σ Q u s := ⟨v, H, I, ru, k _ _ _ _ q rv rg (Keep.refl _ _)⟩
  by_cases hn : 0 ≤ n
  · have hj : n.toNat = j := by
      rw [seqIndex_of hn c5] at c1
      exact Option.some.inj c1
    exact wpAny_getItem_list pl.isList hn (by omega) (by rw [hj]; simpa using eu) fin
  · have hj : (n + (its.toArray.size : Int)).toNat = j := by
      rw [PySem.seqIndex_neg (by omega) c4] at c1
      rw [List.size_toArray, ← hl]
      exact Option.some.inj c1
    exact wpAny_getItem_list_neg pl.isList (by omega) (by rw [List.size_toArray] <;> omega) (by omega) (by rw [hj]; simpa using eu) fin
def sAugS (to ti te : EV) (r : RR) : SV := fun D ε g => to ε g fun o g1 => ti ε g1 fun i g2 => rIxl o i g2 fun x g3 => te ε g3 fun y g4 => r x y g4 fun z g5 => rSetd o i z g5 fun g6 => D.nx ε g6
theorem s_augS {o i e : Expr} {to ti te : EV} {op : Operator} {r : RR} {tpos : Pos} (ho : DE X o to) (hi : DE X i ti) (he : DE X e te) (hp : IpD X op r)
    (ha : ∀ ov iv new, augStore i ov iv new = (do holding [new, ov, iv] (setItem ov iv new); release [new, ov, iv] []; pure .next) := by intros; rfl) : DS X (.AugAssign (.Subscript o i tpos) op e pos) (sAugS to ti te r) :=
  PS.imp (ps_augS ho hi get_d he hp set_d ha) fun D σ H ⟨ε, g, D0, rs, rg, q, ok⟩ => by
  refine ⟨ε, g, _, rs, rg, q, fun d1 g1 v1 H1 q1 rv1 rg1 k1 => ?_⟩
  have rs1 := rs.keep rg k1
  refine ⟨ε, g1, _, rs1, rg1, q1, fun d2 g2 v2 H2 q2 rv2 rg2 k2 => ?_⟩
  have rs2 := rs1.keep rg1 k2
  have a2 := rv1.keep rg1 k2
  refine ⟨g2, d1, d2, _, rg2, a2, rv2, q2, fun d3 g3 v3 H3 q3 rv3 rg3 k3 => ?_⟩
  have rs3 := rs2.keep rg2 k3
  have a3 := a2.keep rg2 k3
  have b3 := rv2.keep rg2 k3
  refine ⟨ε, g3, _, rs3, rg3, q3, fun d4 g4 v4 H4 q4 rv4 rg4 k4 => ?_⟩
  have rs4 := rs3.keep rg3 k4
  have a4 := a3.keep rg3 k4
  have b4 := b3.keep rg3 k4
  refine ⟨g4, d3, d4, _, rg4, rv3.keep rg3 k4, rv4, q4, fun d5 g5 v5 H5 q5 rv5 rg5 k5 => ?_⟩
  have rs5 := rs4.keep rg4 k5
  refine ⟨g5, d1, d2, d5, _, rg5, a4.keep rg4 k5, b4.keep rg4 k5, rv5, q5, fun g6 H6 q6 rg6 k6 => ?_⟩
  exact ok.nx _ _ _ _ q6 (rs5.keep rg5 k6) rg6 (k1.trans (k2.trans (k3.trans (k4.trans (k5.trans k6)))))

def sWh (c : BV) (t : SV) : Nat → SV
  | 0 => fun _ _ _ => False
  | n + 1 => fun D ε g => c ε g fun b g1 => if b = true then t { D with nx := sWh c t n D, ct := sWh c t n D, bk := D.nx } ε g1 else D.nx ε g1
def sWhile (c : BV) (t : SV) : SV := fun D ε g => ∃ n, sWh c t n D ε g
theorem s_while {c : Expr} {body : List Stmt} {tc : BV} {tb : SV} (hp : PassesOwn (model X.prog X.w) X.A X.env X.xe) (hc : DB X c tc) (hb : DSs X body tb) : DS X (.While c body [] pos) (sWhile tc tb) :=
  PS.imp (ps_while hp hc hb) fun D σ H ⟨ε, g, D0, rs, rg, ⟨n, q⟩, ok⟩ => by
  refine ⟨fun m σ' H' => ∃ ε' g', RS X.K H' ε' σ' ∧ RG X.K g' H' ∧ Keep g H g' H' ∧ sWh tc tb m D0 ε' g', ⟨n, ε, g, rs, rg, Keep.refl _ _, q⟩, ?_⟩
  rintro m σ' H' ⟨ε', g', rs', rg', k', q'⟩
  cases m with
  | zero => exact q'.elim
  | succ m =>
    refine ⟨ε', g', _, rs', rg', q', fun b g1 H1 q1 rg1 k1 => ?_⟩
    cases b with
    | true =>
      refine ⟨fun σ'' H'' => ∃ ε'' g'', RS X.K H'' ε'' σ'' ∧ RG X.K g'' H'' ∧ Keep g H g'' H'' ∧ sWh tc tb m D0 ε'' g'', fun σ'' H'' h => ⟨m, Nat.lt_succ_self m, h⟩, ?_⟩
      have kk := k'.trans k1
      exact ⟨ε', g1, _, rs'.keep rg' k1, rg1, q1, ⟨fun ε2 g2 σ2 H2 q2 a b c => ⟨ε2, g2, a, b, kk.trans c, q2⟩, fun d2 g2 v2 H2 q2 a b c => ok.rt _ _ _ _ q2 a b (kk.trans c),
        fun ε2 g2 σ2 H2 q2 a b c => ok.nx _ _ _ _ q2 a b (kk.trans c), fun ε2 g2 σ2 H2 q2 a b c => ⟨ε2, g2, a, b, kk.trans c, q2⟩⟩⟩
    | false => exact ok.nx _ _ _ _ q1 (rs'.keep rg' k1) rg1 (k'.trans k1)

abbrev IV := En → G → (List D → (G → Prop) → G → Prop) → Prop
def ItOk (K : PySem.W.Frag) (g0 : G) (H0 : Hp) (xs : List D) (chk : G → Prop) (J : It) : Prop :=
  ∀ g H, RG K g H → Keep g0 H0 g H → chk g → J.stop xs.length H ∧ ∀ i, i < xs.length → J.go i H ∧ ∀ x H', J.yld i H x H' → ∃ d, xs[i]? = some d ∧ RV K H' d x ∧ RG K g H' ∧ Keep g H g H'
def lI (K : PySem.W.Frag) (t : IV) : TI := fun σ H R => ∃ ε g R0, RS K H ε σ ∧ RG K g H ∧ t ε g R0 ∧ ∀ xs chk g' H' J, R0 xs chk g' → RG K g' H' → Keep g H g' H' → ItOk K g' H' xs chk J → R J H'
abbrev DI (X : Cx) (tg e : Expr) (t : IV) : Prop := PI X tg e (lI X.K t)
theorem PI.imp {tg e : Expr} {t t' : TI} (h : PI X tg e t) (w : ∀ σ H R, t' σ H R → t σ H R) : PI X tg e t' := ⟨fun pins s σ H R I q => h.run pins s σ H R I (w σ H R q)⟩
theorem itok_list {K : PySem.W.Frag} {g0 : G} {H0 : Hp} {a : Addr} {xs : List D} {chk : G → Prop} (h : ∀ g H, RG K g H → Keep g0 H0 g H → chk g → ∃ vs, SqL K H a vs ∧ RVs K H xs vs) : ItOk K g0 H0 xs chk (Itl K a) := fun g H rg k c => by
  obtain ⟨vs, h1, h2⟩ := h g H rg k c
  refine ⟨⟨vs, h1, Nat.le_of_eq h2.length.symm⟩, fun i hi => ?_⟩
  obtain ⟨v, e, rv⟩ := h2.get (List.getElem?_eq_getElem hi)
  refine ⟨⟨vs, v, h1, e⟩, fun x H' ⟨e1, e2⟩ => ?_⟩
  subst e1
  have e3 := e2 vs h1
  rw [e] at e3; cases e3
  exact ⟨_, List.getElem?_eq_getElem hi, rv, rg, Keep.refl _ _⟩
/-- the check of a walked thing: a list stays as it is -/
def stays (x : D) (xs : List D) (g : G) : Prop := match x with
  | .ref a => g a = some (.lst xs)
  | _ => True
def iSeq (t : EV) : IV := fun ε g R => t ε g fun x g1 => ∃ xs, itemsOf x g1 xs ∧ R xs (stays x xs) g1
theorem it_seq {tg : Expr} {pins : List (Addr × Obj)} {σ : L2.St} {s1 : Shared} {H1 : Hp} {g1 : G} {x : D} {v : V} {u : Value} {xs : List D} {R : It → Hp → Prop} (I1 : Inv X pins σ H1 s1) (rg1 : RG X.K g1 H1) (rv : RV X.K H1 x v) (ru : RelV v u) (hi : itemsOf x g1 xs)
    (k : ∀ J, ItOk X.K g1 H1 xs (stays x xs) J → R J H1) : wpAny (model X.prog X.w) X.A (pyIter u) (PIE X pins σ tg R) X.xe s1 := by
  have lst : ∀ a vs, u = .ref a → SqL X.K H1 a vs → R (Itl X.K a) H1 → wpAny (model X.prog X.w) X.A (pyIter u) (PIE X pins σ tg R) X.xe s1 := fun a vs eu hq q => by
    subst eu
    obtain ⟨its, r, pl, hz⟩ := I1.list hq
    refine wpAny_pyIter_list pl.isList ⟨_, [s1.heap.objs.size], _, _, H1, rfl, I1.kept (t' := s1.toks) fun b o e => Heap.get?_push_of_some _ e, turn_list a _, ⟨_, Heap.get?_push_size _ rfl, rfl, rfl⟩, fun b hb => ?_, q⟩
    rw [List.mem_singleton.mp hb]
    exact I1.fpOk (Nat.le_refl _) (I1.hok.fresh (Nat.le_refl _))
  cases rv <;> first | exact hi.elim | skip
  · rename_i a vs ds h1 h2
    have e : xs = ds := hi
    subst e
    cases ru
    obtain ⟨its, r, pl, hz⟩ := I1.tuple h1.seq
    refine wpAny_pyIter_tuple (show s1.heap.IsTuple a its.toArray from pl) ⟨_, [s1.heap.objs.size], _, _, H1, rfl, I1.kept (t' := s1.toks) fun b o e => Heap.get?_push_of_some _ e, turn_tuple a _, ⟨_, Heap.get?_push_size _ rfl, rfl, rfl⟩, fun b hb => ?_, k _ ?_⟩
    · rw [List.mem_singleton.mp hb]
      exact I1.fpOk (Nat.le_refl _) (I1.hok.fresh (Nat.le_refl _))
    · intro g H rg kp _
      have h1' := h1.keep rg1 kp
      have h2' := h2.keep rg1 kp
      refine ⟨⟨vs, h1'.seq, Nat.le_of_eq h2'.length.symm⟩, fun i hi => ?_⟩
      obtain ⟨w, ew, rw'⟩ := h2'.get (List.getElem?_eq_getElem hi)
      refine ⟨⟨vs, w, h1'.seq, ew⟩, fun y H' ⟨e1, e2⟩ => ?_⟩
      subst e1
      have e3 := e2 vs h1'.seq
      rw [ew] at e3; cases e3
      exact ⟨_, List.getElem?_eq_getElem hi, rw', rg, Keep.refl _ _⟩
  · rename_i a
    cases ru
    obtain ⟨vs, e1, r1⟩ := rg1.st a _ hi
    refine lst a vs rfl (.of e1) (k _ (itok_list fun g H rg kp c => ?_))
    obtain ⟨ws, e2, r2⟩ := rg.st a _ c
    exact ⟨ws, .of e2, r2⟩
  · rename_i a vs ds h1 h2
    have e : xs = ds := hi
    subst e
    cases ru
    refine lst a vs rfl h1.seq (k _ (itok_list fun g H rg kp c => ?_))
    exact ⟨vs, (h1.keep rg1 kp).seq, h2.keep rg1 kp⟩
theorem i_seq {tg l : Expr} {t : EV} (hl : DE X l t) : DI X tg l (iSeq t) := by
  refine ⟨fun pins s σ H R I ⟨ε, g, R0, rs, rg, q, k⟩ => ?_⟩
  have hq : lE X.K t σ H (fun v H1 => ∃ x g1 xs, RV X.K H1 x v ∧ RG X.K g1 H1 ∧ itemsOf x g1 xs ∧ ∀ J, ItOk X.K g1 H1 xs (stays x xs) J → R J H1) :=
    ⟨ε, g, _, rs, rg, q, fun d g1 v H1 ⟨xs, hi, q1⟩ rv rg1 k1 => ⟨d, g1, xs, rv, rg1, hi, fun J hJ => k _ _ _ _ J q1 rg1 k1 hJ⟩⟩
  refine thn (hl.run pins s σ H _ I hq) fun u s1 ⟨v, H1, I1, ru, x, g1, xs, rv, rg1, hi, kk⟩ => ?_
  exact it_seq I1 rg1 rv ru hi kk
/-- range(n), range(a, b) -/
def rangeD (lo : Int) (n : Nat) : List D := (List.range n).map fun i : Nat => D.int (lo + (i : Int))
theorem rangeD_length (lo : Int) (n : Nat) : (rangeD lo n).length = n := by unfold rangeD; rw [List.length_map, List.length_range]
theorem itok_range {K : PySem.W.Frag} {g0 : G} {H0 : Hp} (lo : Int) (n : Nat) : ItOk K g0 H0 (rangeD lo n) (fun _ => True) (Itr lo n) := fun g H rg k _ => by
  refine ⟨Nat.le_of_eq (rangeD_length lo n).symm, fun i hi => ?_⟩
  rw [rangeD_length] at hi
  refine ⟨hi, fun x H' ⟨e1, e2⟩ => ?_⟩
  subst e1; subst e2
  refine ⟨.int (lo + i), ?_, .int _, rg, Keep.refl _ _⟩
  unfold rangeD
  rw [List.getElem?_map, List.getElem?_range hi]; rfl
def iRng1 (t : AV) : IV := fun ε g R => t ε g fun ds g1 => match ds with
  | [.int j] => (-(2 ^ 62) ≤ j ∧ j < 2 ^ 62) ∧ R (rangeD 0 j.toNat) (fun _ => True) g1
  | _ => False
def iRng2 (t : AV) : IV := fun ε g R => t ε g fun ds g1 => match ds with
  | [.int i, .int j] => ((-(2 ^ 62) ≤ i ∧ i < 2 ^ 62) ∧ -(2 ^ 62) ≤ j ∧ j < 2 ^ 62) ∧ R (rangeD i (j - i).toNat) (fun _ => True) g1
  | _ => False
theorem i_rng1 {tg a : Expr} {ta : AV} {p : Pos} (hg : Gl X "range") (hm : X.mg "range" = none) (ha : DA X [a] ta) (hs : starEach [a] X.env = [(false, eval a X.env)] := by rfl) : DI X tg (.Call (.Name "range" p) [a] [] pos) (iRng1 ta) :=
  PI.imp (pi_range1 hg hm ha hs) fun σ H R ⟨ε, g, R0, rs, rg, q, k⟩ => ⟨ε, g, _, rs, rg, q, fun ds g1 vs H1 q1 rv rg1 k1 => by
    split at q1
    · cases rv with
      | cons r t =>
        cases r
        cases t
        exact ⟨_, rfl, q1.1.1, q1.1.2, k _ _ _ _ _ q1.2 rg1 k1 (itok_range _ _)⟩
    · exact q1.elim⟩
theorem i_rng2 {tg a b : Expr} {ta : AV} {p : Pos} (hg : Gl X "range") (hm : X.mg "range" = none) (ha : DA X [a, b] ta) (hs : starEach [a, b] X.env = [(false, eval a X.env), (false, eval b X.env)] := by rfl) (hs2 : starEach [b] X.env = [(false, eval b X.env)] := by rfl) :
    DI X tg (.Call (.Name "range" p) [a, b] [] pos) (iRng2 ta) :=
  PI.imp (pi_range2 hg hm ha hs hs2) fun σ H R ⟨ε, g, R0, rs, rg, q, k⟩ => ⟨ε, g, _, rs, rg, q, fun ds g1 vs H1 q1 rv rg1 k1 => by
    split at q1
    · cases rv with
      | cons r t =>
        cases r
        cases t with
        | cons r2 t =>
          cases r2
          cases t
          exact ⟨_, _, rfl, ⟨q1.1.1.1, q1.1.1.2, q1.1.2⟩, k _ _ _ _ _ q1.2 rg1 k1 (itok_range _ _)⟩
    · exact q1.elim⟩

def forL (chk : G → Prop) (gt : GV) (tb : SV) (D : Es) : List LF.D → En → G → Prop
  | [], ε, g => chk g ∧ D.nx ε g
  | x :: r, ε, g => chk g ∧ gt x ε g fun ε' g' => tb { D with nx := forL chk gt tb D r, ct := forL chk gt tb D r, bk := D.nx } ε' g'
def sFor (ti : IV) (gt : GV) (tb : SV) : SV := fun D ε g => ti ε g fun xs chk g1 => forL chk gt tb D xs ε g1
theorem s_for {tg iter : Expr} {body : List Stmt} {ti : IV} {gt : GV} {tb : SV} (hp : PassesOwn (model X.prog X.w) X.A X.env X.xe) (hc : X.calm = true) (hi : DI X tg iter ti) (hg : DG X tg gt) (hb : DSs X body tb)
    (hs : ∀ x, foldedSetIterable iter X.env x = pure x := by intro _; rfl) : DS X (.For tg iter body [] pos) (sFor ti gt tb) :=
  PS.imp (ps_for hp hc hi hg hb hs) fun D σ H ⟨ε, g, D0, rs, rg, q, ok⟩ => by
  refine ⟨ε, g, _, rs, rg, q, fun xs chk g1 H1 J q1 rg1 k1 hJ => ?_⟩
  refine ⟨fun i m σ' H' => ∃ ε' g', RS X.K H' ε' σ' ∧ RG X.K g' H' ∧ Keep g1 H1 g' H' ∧ m = xs.length - i ∧ i ≤ xs.length ∧ forL chk gt tb D0 (xs.drop i) ε' g', ⟨_, ε, g1, rs.keep rg k1, rg1, Keep.refl _ _, rfl, Nat.zero_le _, by rw [List.drop_zero]; exact q1⟩, ?_⟩
  rintro i m σ' H' ⟨ε', g', rs', rg', k', rfl, hi, q'⟩
  by_cases hlt : i < xs.length
  · rw [List.drop_eq_getElem_cons hlt] at q'
    obtain ⟨c, q'⟩ := q'
    obtain ⟨go, yl⟩ := (hJ g' H' rg' k' c).2 i hlt
    refine .inr ⟨go, fun σ'' H'' => ∃ ε'' g'', RS X.K H'' ε'' σ'' ∧ RG X.K g'' H'' ∧ Keep g1 H1 g'' H'' ∧ forL chk gt tb D0 (xs.drop (i + 1)) ε'' g'', fun σ'' H'' ⟨ε'', g'', a, b, c, d⟩ => ⟨xs.length - (i + 1), by omega, ε'', g'', a, b, c, rfl, hlt, d⟩, fun x H2 hy => ?_⟩
    obtain ⟨d, ed, rd, rg2, k2⟩ := yl x H2 hy
    rw [List.getElem?_eq_getElem hlt] at ed
    cases ed
    refine ⟨_, ε', g', _, rd, rs'.keep rg' k2, rg2, q', fun ε3 g3 σ3 H3 q3 rs3 rg3 k3 => ?_⟩
    have kk : Keep g1 H1 g3 H3 := k'.trans (k2.trans k3)
    have kg : Keep g H g3 H3 := k1.trans kk
    exact ⟨ε3, g3, _, rs3, rg3, q3, ⟨fun ε4 g4 σ4 H4 q4 a b c => ⟨ε4, g4, a, b, kk.trans c, q4⟩, fun d4 g4 v4 H4 q4 a b c => ok.rt _ _ _ _ q4 a b (kg.trans c),
      fun ε4 g4 σ4 H4 q4 a b c => ok.nx _ _ _ _ q4 a b (kg.trans c), fun ε4 g4 σ4 H4 q4 a b c => ⟨ε4, g4, a, b, kk.trans c, q4⟩⟩⟩
  · have e : i = xs.length := by omega
    subst e
    rw [List.drop_length] at q'
    exact .inl ⟨(hJ g' H' rg' k' q'.1).1, ok.nx _ _ _ _ q'.2 rs' rg' (k1.trans k')⟩

def bYes : BV := fun _ g Q => Q true g
/-- the items one after another: acc holds what is made so far -/
def lcL (chk : G → Prop) (gt : GV) (tt : BV) (te : EV) (ε0 : En) (Q : List LF.D → G → Prop) : List LF.D → List LF.D → G → Prop
  | [], acc, g => chk g ∧ Q acc g
  | x :: r, acc, g => chk g ∧ gt x ε0 g fun ε1 g1 => tt ε1 g1 fun b g2 => if b = true then te ε1 g2 fun y g3 => acc.length < sizeLine ∧ lcL chk gt tt te ε0 Q r (acc ++ [y]) g3 else lcL chk gt tt te ε0 Q r acc g2
def eLc (ti : IV) (gt : GV) (tt : BV) (te : EV) (own : List Nat) : EV := fun ε g Q => ti ε g fun xs chk g1 => lcL chk gt tt te (ewipe ε own) (fun acc g2 => ∀ p, g2 p = none → Q (.ref p) (gset g2 p (.lst acc))) xs [] g1
end
end LF
namespace LF
open PySem PySem.Spec PyProof.Rows L2
variable [PP]

/-- tuples and known things stand -/
structure Tame (H H' : Hp) : Prop where
  tup : ∀ a xs, H a = some (.tup xs) → H' a = some (.tup xs)
  frz : ∀ a o u, H a = some (.frz o u) → H' a = some (.frz o u)
  ext : ∀ a (φ : Heap → Prop), H a = some (.ext φ) → H' a = some (.ext φ)
section
variable {K : PySem.W.Frag} {H H' : Hp}
theorem Tpl.tame (t : Tame H H') {a : Addr} {vs : List V} (h : Tpl K H a vs) : Tpl K H' a vs := by
  rcases h with h | ⟨o, h⟩ | h
  · exact .inl (t.tup _ _ h)
  · exact .inr (.inl ⟨o, t.frz _ _ _ h⟩)
  · exact .inr (.inr h)
theorem Frz.tame (t : Tame H H') {a : Addr} {vs : List V} (h : Frz K H a vs) : Frz K H' a vs := by
  rcases h with ⟨o, h⟩ | h
  · exact .inl ⟨o, t.frz _ _ _ h⟩
  · exact .inr h
theorem Tua.tame (t : Tame H H') {a : Addr} {vs : List V} (h : Tua H a vs) : Tua H' a vs := let ⟨o, e, z⟩ := h; ⟨o, t.frz _ _ _ e, z⟩
mutual
theorem RV.tame (t : Tame H H') : ∀ {d : D} {v : V}, RV K H d v → RV K H' d v
  | _, _, .non => .non
  | _, _, .bl b => .bl b
  | _, _, .int i => .int i
  | _, _, .str x => .str x
  | _, _, .tup h hs => .tup (h.tame t) (RVs.tame t hs)
  | _, _, .ref a => .ref a
  | _, _, .rol h hs => .rol (h.tame t) (RVs.tame t hs)
  | _, _, .tua h hs => .tua (h.tame t) (RVs.tame t hs)
  | _, _, .exv h hs => .exv (h.at t.ext) (RVs.tame t hs)
theorem RVs.tame (t : Tame H H') : ∀ {ds : List D} {vs : List V}, RVs K H ds vs → RVs K H' ds vs
  | _, _, .nil => .nil
  | _, _, .cons h hs => .cons (RV.tame t h) (RVs.tame t hs)
end
theorem RKs.tame (t : Tame H H') : ∀ {ds : List (Key × D)} {vs : List (Key × V)}, RKs K H ds vs → RKs K H' ds vs
  | _, _, .nil => .nil
  | _, _, .cons h hs => .cons (h.tame t) (RKs.tame t hs)
theorem RTs.tame (t : Tame H H') : ∀ {ds : List (List Key × D)} {vs : List (List Key × V)}, RTs K H ds vs → RTs K H' ds vs
  | _, _, .nil => .nil
  | _, _, .cons h hs => .cons (h.tame t) (RTs.tame t hs)
theorem tame_lst {p : Addr} {xs : List V} (h : H p = some (.lst xs)) (u : HO) : Tame H (upd H p u) :=
  ⟨fun a ys e => by rw [upd_ne (fun z => by subst z; rw [h] at e; cases e)]; exact e, fun a o w e => by rw [upd_ne (fun z => by subst z; rw [h] at e; cases e)]; exact e, fun a φ e => by rw [upd_ne (fun z => by subst z; rw [h] at e; cases e)]; exact e⟩
end

theorem wipe_set (x : Option V) (i : Nat) : ∀ (vs : List Nat) (σ : L2.St), i ∈ vs → L2.wipe (σ.set i x) vs = L2.wipe σ vs
  | [], _, h => by cases h
  | v :: vs, σ, h => by
    show (L2.wipe (σ.set i x) vs).set v none = (L2.wipe σ vs).set v none
    by_cases hv : i ∈ vs
    · rw [wipe_set x i vs σ hv]
    · have e : i = v := by simpa [hv] using h
      subst e
      have : ∀ (ws : List Nat), i ∉ ws → L2.wipe (σ.set i x) ws = (L2.wipe σ ws).set i x := by
        intro ws
        induction ws with
        | nil => intro _; rfl
        | cons u us ih =>
          intro hn
          simp only [List.mem_cons, not_or] at hn
          show (L2.wipe (σ.set i x) us).set u none = ((L2.wipe σ us).set u none).set i x
          rw [ih hn.2, List.set_comm _ _ hn.1]
      rw [this vs hv, List.set_set]
theorem wipe_none (i : Nat) : ∀ (vs : List Nat) (σ : L2.St), i ∈ vs → i < σ.length → (L2.wipe σ vs)[i]? = some none
  | [], _, h, _ => by cases h
  | v :: vs, σ, h, hl => by
    show ((L2.wipe σ vs).set v none)[i]? = some none
    by_cases e : v = i
    · subst e
      exact List.getElem?_set_self (by rw [wipe_length]; exact hl)
    · rw [List.getElem?_set_ne e]
      refine wipe_none i vs σ ?_ hl
      rcases List.mem_cons.mp h with z | z
      · exact absurd z.symm e
      · exact z
theorem wipe_out (i : Nat) : ∀ (vs : List Nat) (σ : L2.St), i ∉ vs → (L2.wipe σ vs)[i]? = σ[i]?
  | [], _, _ => rfl
  | v :: vs, σ, h => by
    show ((L2.wipe σ vs).set v none)[i]? = _
    simp only [List.mem_cons, not_or] at h
    rw [List.getElem?_set_ne (fun z => h.1 z.symm), wipe_out i vs σ h.2]
theorem wipe_wipe (vs : List Nat) (σ : L2.St) : L2.wipe (L2.wipe σ vs) vs = L2.wipe σ vs := by
  apply List.ext_getElem?
  intro i
  by_cases h : i ∈ vs
  · by_cases hl : i < σ.length
    · rw [wipe_none i vs _ h (by rw [wipe_length]; exact hl), wipe_none i vs σ h hl]
    · rw [List.getElem?_eq_none (by rw [wipe_length, wipe_length]; omega), List.getElem?_eq_none (by rw [wipe_length]; omega)]
  · rw [wipe_out i vs _ h]
def lGw (K : PySem.W.Frag) (own : List Nat) (t : GV) : TG := fun v σ H Q => ∃ d ε g Q0, RV K H d v ∧ RS K H ε σ ∧ RG K g H ∧ t d ε g Q0 ∧ ∀ ε' g' σ' H', Q0 ε' g' → RS K H' ε' σ' → RG K g' H' → Keep g H g' H' → L2.wipe σ' own = L2.wipe σ own → Q σ' H'
def lGsw (K : PySem.W.Frag) (own : List Nat) (t : GVs) : TGs := fun vs σ H Q => ∃ ds ε g Q0, RVs K H ds vs ∧ RS K H ε σ ∧ RG K g H ∧ t ds ε g Q0 ∧ ∀ ε' g' σ' H', Q0 ε' g' → RS K H' ε' σ' → RG K g' H' → Keep g H g' H' → L2.wipe σ' own = L2.wipe σ own → Q σ' H'
section
variable {X : Cx} {pos : Pos} {own : List Nat}
theorem gw_name {i : Nat} {x : Str} (hN : X.N.Nodup) (hi : X.N[i]? = some x) (hx : Loc X.env.scope x) (hf : X.fn x = true ∨ X.env.scope.names.lookup x = some .local) (ho : i ∈ own := by decide) : PG X (.Name x pos) (lGw X.K own (gName i)) :=
  PG.imp (pg_name hN hi hx hf) fun v σ H Q ⟨d, ε, g, Q0, rv, rs, rg, q, k⟩ => k _ g _ H q (rs.set i rv) rg (Keep.refl _ _) (wipe_set _ i own σ ho)
theorem gsw_nil : PGs X [] (lGsw X.K own gNil) := ⟨fun pins s σ H vs us Q I r ⟨ds, ε, g, Q0, rv, rs, rg, ⟨e, q⟩, k⟩ => by
  subst e
  cases rv
  exact pgs_nil.run pins s σ H [] us Q I r ⟨rfl, k _ g _ H q rs rg (Keep.refl _ _) rfl⟩⟩
theorem gsw_cons {e : Expr} {es : List Expr} {t : GV} {u : GVs} (h1 : PG X e (lGw X.K own t)) (h2 : PGs X es (lGsw X.K own u))
    (hs : (assignEach (e :: es) X.env).map (·.2) = assign e X.env :: (assignEach es X.env).map (·.2) := by rfl) : PGs X (e :: es) (lGsw X.K own (gCons t u)) := ⟨fun pins s σ H vs us Q I r ⟨ds, ε, g, Q0, rv, rs, rg, q, k⟩ => by
  cases rv with
  | nil => exact q.elim
  | cons a b =>
    refine (pgs_cons h1 h2 hs).run pins s σ H _ us Q I r ⟨_, _, rfl, _, ε, g, _, a, rs, rg, q, fun ε' g' σ' H' q' rs' rg' k' w1 => ?_⟩
    exact ⟨_, ε', g', Q0, b.keep rg k', rs', rg', q', fun ε2 g2 σ2 H2 q2 rs2 rg2 k2 w2 => k _ _ _ _ q2 rs2 rg2 (k'.trans k2) (w2.trans w1)⟩⟩
theorem gw_tup {es : List Expr} {k : Nat} {t : GVs} {n : Nat} (hc : X.calm = true) (h : PGs X es (lGsw X.K own t))
    (hn : (assignEach es X.env).length = n := by rfl) (hst : (assignEach es X.env).findIdx? (·.1) = none := by rfl) : PG X (.Tuple es k pos) (lGw X.K own (gTup n t)) := ⟨fun pins s σ H v u Q I r ⟨d, ε, g, Q0, rv, rs, rg, q, kk⟩ => by
  cases rv with
  | tup h1 h2 => exact (pg_tup hc h hn hst).run pins s σ H _ u Q I r ⟨_, _, rfl, h1.seq, by rw [← h2.length]; exact q.1, _, ε, g, Q0, h2, rs, rg, q.2, kk⟩
  | ref a =>
    obtain ⟨ds, e, hl, q⟩ := q
    obtain ⟨vs, h1, h2⟩ := rg.st a _ e
    exact (pg_lst hc h hn hst).run pins s σ H _ u Q I r ⟨_, _, rfl, .of h1, by rw [← h2.length]; exact hl, _, ε, g, Q0, h2, rs, rg, q, kk⟩
  | _ => exact q.elim⟩
theorem t_nil : PTs X [] (lB X.K bYes) := PTs.imp pts_nil fun σ H Q ⟨ε, g, Q0, rs, rg, q, k⟩ => k _ g H q rg (Keep.refl _ _)
theorem t_one {c : Expr} {t : BV} (h : DB X c t) : PTs X [c] (lB X.K t) := pts_one h

/-- the comprehension's reading -/
theorem lc_lift {K : PySem.W.Frag} {ti : IV} {gt : GV} {tt : BV} {te : EV} {σ : L2.St} {H : Hp} {Q : VK} (h : lE K (eLc ti gt tt te own) σ H Q) : tLc (lI K ti) (lGw K own gt) (lB K tt) (lE K te) own σ H Q := by
  obtain ⟨ε, g, Q0, rs, rg, q, k⟩ := h
  refine ⟨ε, g, _, rs, rg, q, fun xs chk g1 H1 J q1 rg1 k1 hJ Dn hDn => ?_⟩
  have hg1 := rg1.out hDn
  refine ⟨fun i m H' => ∃ acc g' va, H' Dn = some (.lst va) ∧ RVs K H' acc va ∧ g' Dn = none ∧ RG K g' H' ∧ Keep g1 H1 g' H' ∧ m = xs.length - i ∧ i ≤ xs.length ∧
    lcL chk gt tt te (ewipe ε own) (fun acc g2 => ∀ p, g2 p = none → Q0 (.ref p) (gset g2 p (.lst acc))) (xs.drop i) acc g', ⟨_, [], g1, [], upd_same, .nil, hg1, rg1.tupNew hDn, keep_new hDn _, rfl, Nat.zero_le _, by rw [List.drop_zero]; exact q1⟩, ?_⟩
  rintro i m H' ⟨acc, g', va, hD, rva, hgD, rg', k', rfl, hi, q'⟩
  by_cases hlt : i < xs.length
  · rw [List.drop_eq_getElem_cons hlt] at q'
    obtain ⟨c, q'⟩ := q'
    obtain ⟨go, yl⟩ := (hJ g' H' rg' k' c).2 i hlt
    refine .inr ⟨go, fun H'' => ∃ acc g'' va, H'' Dn = some (.lst va) ∧ RVs K H'' acc va ∧ g'' Dn = none ∧ RG K g'' H'' ∧ Keep g1 H1 g'' H'' ∧
      lcL chk gt tt te (ewipe ε own) (fun acc g2 => ∀ p, g2 p = none → Q0 (.ref p) (gset g2 p (.lst acc))) (xs.drop (i + 1)) acc g'',
      fun H'' ⟨acc, g'', va, a, b, c, d, e, f⟩ => ⟨xs.length - (i + 1), by omega, acc, g'', va, a, b, c, d, e, rfl, hlt, f⟩, fun x H2 hy => ?_⟩
    obtain ⟨d, ed, rd, rg2, k2⟩ := yl x H2 hy
    rw [List.getElem?_eq_getElem hlt] at ed
    cases ed
    have rs2 : RS K H2 (ewipe ε own) (L2.wipe σ own) := (((rs.keep rg k1).keep rg1 k').keep rg' k2).wipe own
    have hD2 := (k2 Dn _ hD hgD).1
    refine ⟨_, _, g', _, rd, rs2, rg2, q', fun ε3 g3 σ3 H3 q3 rs3 rg3 k3 w3 => ⟨w3.trans (wipe_wipe own σ), ?_⟩⟩
    obtain ⟨hD3, hg3⟩ := k3 Dn _ hD2 hgD
    refine ⟨ε3, g3, _, rs3, rg3, q3, fun b g4 H4 q4 rg4 k4 => ?_⟩
    obtain ⟨hD4, hg4⟩ := k4 Dn _ hD3 hg3
    have rva4 := ((rva.keep rg' k2).keep rg2 k3).keep rg3 k4
    have kk4 := k'.trans (k2.trans (k3.trans k4))
    cases b with
    | false => exact ⟨acc, g4, va, hD4, rva4, hg4, rg4, kk4, q4⟩
    | true =>
      refine ⟨ε3, g4, _, rs3.keep rg3 k4, rg4, q4, fun y g5 vy H5 q5 ry rg5 k5 => ?_⟩
      obtain ⟨hD5, hg5⟩ := k5 Dn _ hD4 hg4
      have rva5 := rva4.keep rg4 k5
      have kD : Keep g1 H1 g5 (upd H5 Dn (.lst (va ++ [vy]))) := fun a o e n => by
        obtain ⟨e5, n5⟩ := (kk4.trans k5) a o e n
        exact ⟨by rw [upd_ne (fun z => by subst z; rw [hDn] at e; cases e)]; exact e5, n5⟩
      refine ⟨va, hD5, by rw [← rva5.length]; exact q5.1, acc ++ [y], g5, va ++ [vy], upd_same, ?_, hg5, rg1.move kD fun a o e => ?_, kD, q5.2⟩
      · exact (rva5.append (.cons ry .nil)).tame (tame_lst hD5 _)
      · have hn : a ≠ Dn := fun z => by subst z; rw [hg5] at e; cases e
        have ro := rg5.st a o e
        cases o with
        | lst ds => obtain ⟨vs, e1, r1⟩ := ro; exact ⟨vs, by rw [upd_ne hn]; exact e1, r1.tame (tame_lst hD5 _)⟩
        | dct ds => obtain ⟨vs, e1, r1⟩ := ro; exact ⟨vs, by rw [upd_ne hn]; exact e1, r1.tame (tame_lst hD5 _)⟩
        | ins c fl ds => obtain ⟨C, dx, vs, e1, cf, hl, r1⟩ := ro; exact ⟨C, dx, vs, by rw [upd_ne hn]; exact e1, cf, hl, r1.tame (tame_lst hD5 _)⟩
        | dtt ds => obtain ⟨vs, e1, r1⟩ := ro; exact ⟨vs, by rw [upd_ne hn]; exact e1, r1.tame (tame_lst hD5 _)⟩
  · have e : i = xs.length := by omega
    subst e
    rw [List.drop_length] at q'
    have kD : Keep g1 H1 (gset g' Dn (.lst acc)) H' := fun a o e n => by
      obtain ⟨e', n'⟩ := k' a o e n
      exact ⟨e', by rw [gset_ne (fun z => by subst z; rw [hDn] at e; cases e)]; exact n'⟩
    refine .inl ⟨(hJ g' H' rg' k' q'.1).1, k _ _ _ _ (q'.2 Dn hgD) (.ref Dn) (rg1.move kD fun a o e => ?_) (k1.trans kD)⟩
    by_cases ha : a = Dn
    · subst ha
      rw [gset_same] at e; cases e
      exact ⟨va, hD, rva⟩
    · rw [gset_ne ha] at e
      exact rg'.st a o e
theorem d_lc {elt tg iter : Expr} {ifs : List Expr} {scope : Scope} {own : List (Str × Nat)} {ti : IV} {gt : GV} {tt : BV} {te : EV} (hc : X.calm = true) (hN : X.N.Nodup) (hi : DI X tg iter ti) (ok : BlkOk X.N X.env.scope scope own)
    (hg : ∀ (s : Shared) (H : Hp) (C : Addr) (cl : List (Str × Addr)) (fp : List Addr), PG (X.blk s H scope (compEnvC scope cl C X.env) fp) tg (lGw X.K (own.map (·.2)) gt))
    (ht : ∀ (s : Shared) (H : Hp) (C : Addr) (cl : List (Str × Addr)) (fp : List Addr), PTs (X.blk s H scope (compEnvC scope cl C X.env) fp) ifs (lB X.K tt))
    (he : ∀ (s : Shared) (H : Hp) (C : Addr) (cl : List (Str × Addr)) (fp : List Addr), PE (X.blk s H scope (compEnvC scope cl C X.env) fp) elt (lE X.K te)) (hs : ∀ x, foldedSetIterable iter X.env x = pure x := by intro _; rfl) :
    DE X (.ListComp elt [⟨tg, iter, ifs, 0⟩] scope pos) (eLc ti gt tt te (own.map (·.2))) := PE.imp (pe_lc hc hN hi ok hg ht he hs) fun _ _ _ h => lc_lift h
theorem s_setLc {i : Nat} {y : Str} {py : Pos} {elt tg iter : Expr} {ifs : List Expr} {scope : Scope} {own : List (Str × Nat)} {spos : Pos} {ti : IV} {gt : GV} {tt : BV} {te : EV} (hc : X.calm = true) (hN : X.N.Nodup) (hy : X.N[i]? = some y)
    (hyl : X.env.scope.names.lookup y = some .local) (hsw : swapsWith (.ListComp elt [⟨tg, iter, ifs, 0⟩] scope pos) (some (.Name y py)) spos.line X.env = pure true) (hi : DI X tg iter ti) (ok : BlkOk X.N X.env.scope scope own)
    (hg : ∀ (s : Shared) (H : Hp) (C : Addr) (cl : List (Str × Addr)) (fp : List Addr), PG (X.blk s H scope (compEnvC scope cl C X.env) fp) tg (lGw X.K (own.map (·.2)) gt))
    (ht : ∀ (s : Shared) (H : Hp) (C : Addr) (cl : List (Str × Addr)) (fp : List Addr), PTs (X.blk s H scope (compEnvC scope cl C X.env) fp) ifs (lB X.K tt))
    (he : ∀ (s : Shared) (H : Hp) (C : Addr) (cl : List (Str × Addr)) (fp : List Addr), PE (X.blk s H scope (compEnvC scope cl C X.env) fp) elt (lE X.K te)) (hs : ∀ x, foldedSetIterable iter X.env x = pure x := by intro _; rfl) :
    DS X (.Assign [.Name y py] (.ListComp elt [⟨tg, iter, ifs, 0⟩] scope pos) spos) (sSet i (eLc ti gt tt te (own.map (·.2)))) := PS.imp (ps_setLc hc hN hy hyl hsw hi ok hg ht he hs) fun D σ H ⟨ε, g, D0, rs, rg, q, o⟩ =>
  lc_lift ⟨ε, g, _, rs, rg, q, fun d g1 v H1 q1 rv rg1 k1 => o.nx _ _ _ _ q1 ((rs.keep rg k1).set i rv) rg1 k1⟩
end

abbrev EX := Nat → List (Str × D) → G → Prop
/-- a def's meaning: arguments, store, what is wanted of the value, what is wanted of an error -/
abbrev FV := List D → G → (D → G → Prop) → EX → Prop
/-- how an error lies: its class by number, its fields -/
def ExR (K : PySem.W.Frag) (ct : Nat → Addr) (c : Nat) (fs : List (Str × D)) (cls : Value) (d : Option Addr) (H : Hp) : Prop :=
  cls = .ref (ct c) ∧ match d with
    | none => fs = []
    | some dx => ∃ vs, H dx = some (.xd vs) ∧ vs.map (·.1) = fs.map (·.1) ∧ RVs K H (fs.map (·.2)) (vs.map (·.2))
def lF (K : PySem.W.Frag) (ct : Nat → Addr) (φ : FV) : Sp := fun vs H Q E => ∃ ds g Q0 E0, RVs K H ds vs ∧ RG0 K g H ∧ φ ds g Q0 E0 ∧ (∀ d g' v H', Q0 d g' → RV K H' d v → RG0 K g' H' → Keep g H g' H' → Q v H') ∧
  ∀ c fs g' cls dx H', E0 c fs g' → ExR K ct c fs cls dx H' → RG0 K g' H' → Keep g H g' H' → E cls dx H'
/-- a def that keeps its promise, where nothing is being written out by repr -/
structure FnG (P : Program) (w : World) (K : PySem.W.Frag) (mg : Str → Option Value) (base : Heap) (k : Nat) (f : Addr) (fd : FuncData) (ps : List Str) (sp : Sp) : Prop where
  len : ∀ vs H Q E, sp vs H Q E → vs.length = ps.length
  run : ∀ (A : Around) (outer : List Env) (s : Shared) (H : Hp) (args : Args) (us : List Value) (vs : List V) (Q : VK) (E : XK), Room k A → A.guards = some [] → Env0 P w K mg base A outer s H → BindsTo s fd args (ps.zip us) →
    Vals vs us → sp vs H Q E → codeAny (model P w) A (.call (.ref f) args) (CR (L2.CX P w) outer P w H s Q E) s
section
variable {P : Program} {w : World} {K : PySem.W.Frag} {mg : Str → Option Value} {base : Heap}
theorem FnG.of {x qual : Str} {st : Stmt} {f : Addr} {fd : FuncData} {N ps : List Str} {k : Nat} {sp : Sp} (F : Fun K x qual st f fd) (S : FnScope N ps (defScope st)) (len : ∀ vs H Q E, sp vs H Q E → vs.length = ps.length)
    (body : ∀ (cdv : Value) (A : Around) (outer : List Env) (s : Shared) (H : Hp) (vs : List V) (Q : VK) (E : XK), Room k (A.deeper (envOfC qual (defScope st) s.heap.objs.size f cdv)) → A.guards = some [] → sp vs H Q E →
      ∃ t, PSs (cxOf (L2.CX P w) P w K mg base N qual (defScope st) f cdv A outer s H E) (defBody st) t ∧ t { nx := fun _ H' => Q .non H', rt := Q } (start N vs) H) : FnG P w K mg base (k + 1) f fd ps sp := by
  obtain ⟨oc, od, kV, doc, pm, an, cdv, ct, osl, rfl, lk, hcd⟩ := F.ex
  refine ⟨len, fun A outer s H args us vs Q E hr hg e0 hb r hsp => ?_⟩
  have old : ∀ b o, base.get? b = some o → s.heap.get? b = some o := fun b o e => (e0.bs b o e).1
  have KX := e0.mod.kin.keeps old
  have lim := e0.mod.nolimit.keeps old
  refine codeAny_call_function hr.depth (KX _ _ lk) rfl S.co S.gen rfl (PySem.W.codeRec_of KX hcd) (hb _ _ _ _ (wpAny_newFunctionEnv_cells S.kind ?_ ?_))
  · rintro ⟨n, v⟩ hy
    rcases S.par n (List.of_mem_zip hy).1 with q | q
    · exact .inl q
    · exact .inr ⟨q, PySem.W.cellsFrom_some _ _ _ (.inl q)⟩
  intro env he s1 xx
  subst he
  refine ⟨lim.keeps xx.toInCall.keep, codeAny_func ?_⟩
  obtain ⟨t, ht, hq⟩ := body cdv A outer s H vs Q E (hr.deeper _) hg hsp
  refine wpAny_mono (ht.run [] s1 (start N vs) H _ (inv_start S hr.hd e0 (len _ _ _ _ hsp) r xx) hq) (fun fl s' hs => ?_) fun e s' hs => hs
  cases fl with
  | ret u => obtain ⟨v, σ', H', J, rv, q⟩ := hs; exact ⟨v, H', J.os, J.bare, J.base, J.hok, rv, q⟩
  | next => obtain ⟨σ', H', J, q⟩ := hs; exact ⟨.non, H', J.os, J.bare, J.base, J.hok, rfl, q⟩
  | brk => obtain ⟨_, _, _, q⟩ := hs; exact q.elim
  | cont => obtain ⟨_, _, _, q⟩ := hs; exact q.elim
theorem FnG.mono {j k : Nat} {f : Addr} {fd : FuncData} {ps : List Str} {sp : Sp} (F : FnG P w K mg base j f fd ps sp) (h : j ≤ k) : FnG P w K mg base k f fd ps sp :=
  ⟨F.len, fun A outer s H args us vs Q E hr => F.run A outer s H args us vs Q E (hr.mono h)⟩
end
/-- what a call lets through -/
def PassG (X : Cx) (σ : L2.St) (E : XK) : Prop := ∀ (pins : List (Addr × Obj)) (H : Hp) (s : Shared) (e : Value) (s' : Shared), Inv X pins σ H s → L2.CX X.prog X.w X.stack H s E e s' → X.xe e s'
theorem passG0 {X : Cx} {σ : L2.St} : PassG X σ (fun _ _ _ => False) := fun _ _ _ _ _ _ h => by
  obtain ⟨_, _, _, _, _, _, _, _, _, _, _, _, z⟩ := h
  exact z.elim
section
variable {X : Cx} {k : Nat} {f : Addr} {fd : FuncData} {ps : List Str} {sp : Sp} {x : Str} {p pos : Pos} {e : Expr} {es : List Expr}
theorem run_g {E : L2.St → XK} {pins : List (Addr × Obj)} {σ : L2.St} {H : Hp} {s : Shared} {Q : VK} {us : List Value} {vs : List V} (F : FnG X.prog X.w X.K X.mg X.base k f fd ps sp) (hr : Room k X.A) (hg : X.A.guards = some []) (hb : Binds X.K fd ps []) (hx : PassG X σ (E σ))
    (I : Inv X pins σ H s) (r : Vals vs us) (h : sp vs H Q (E σ)) : wpAny (model X.prog X.w) X.A (call (.ref f) us) (EP X pins σ Q) X.xe s := by
  have hl : us.length = ps.length := r.length.symm.trans (F.len _ _ _ _ h)
  have hb' := hb s us I.kIn (by simpa using hl)
  rw [List.append_nil] at hb'
  refine wpAny_call (codeAny_mono (F.run X.A X.stack s H ⟨us, []⟩ us vs Q (E σ) hr hg I.env0 hb' r h) fun res s' hq => ?_)
  cases res with
  | error e => exact hx pins H s e s' I hq
  | ok fl =>
    cases fl with
    | ret u => exact I.after hq
    | _ => exact hq.elim
def tCallG (sp : Sp) (E : L2.St → XK) (t : TA) : TE := fun σ H Q => t σ H fun vs H1 => sp vs H1 Q (E σ)
theorem pe_callG {E : L2.St → XK} {t : TA} (F : FnG X.prog X.w X.K X.mg X.base k f fd ps sp) (hr : Room k X.A) (hgd : X.A.guards = some []) (hg : Gl X x) (hm : X.mg x = some (.ref f)) (hk : PySem.W.keepIn X.K (.ref f) = true) (hb : Binds X.K fd ps []) (hx : ∀ σ, PassG X σ (E σ))
    (ha : PA X (e :: es) t) (hdb : (x == ("__debug__" : Str)) = false := by decide +kernel) (he : starEach (e :: es) X.env = (false, eval e X.env) :: starEach es X.env := by rfl) (hpl : (backTo pos (starEach es X.env)).any (·.1) = false := by rfl) :
    PE X (.Call (.Name x p) (e :: es) [] pos) (tCallG sp E t) := ⟨fun pins s σ H Q I h => by
  refine wpAny_Call_Name_kw (ld_glob I hg hm ?_ hdb)
  exact PySem.W.callWith_K (h₀ := X.base) I.ok.mod.kin hk (thn (ha.run pos pins s σ H _ I h) fun us s1 ⟨vs, H1, I1, r, q⟩ => ⟨I1.kIn, run_g F hr hgd hb (hx σ) I1 r q⟩) he hpl⟩
/-- f(e, ..): no error leaves it -/
def eCall (φ : FV) (t : AV) : EV := fun ε g Q => t ε g fun ds g1 => φ ds g1 Q fun _ _ _ => False
theorem d_call {ct : Nat → Addr} {φ : FV} {t : AV} (F : FnG X.prog X.w X.K X.mg X.base k f fd ps (lF X.K ct φ)) (hr : Room k X.A) (hgd : X.A.guards = some []) (hg : Gl X x) (hm : X.mg x = some (.ref f)) (hk : PySem.W.keepIn X.K (.ref f) = true) (hb : Binds X.K fd ps [])
    (ha : DA X (e :: es) t) (hdb : (x == ("__debug__" : Str)) = false := by decide +kernel) (he : starEach (e :: es) X.env = (false, eval e X.env) :: starEach es X.env := by rfl) (hpl : (backTo pos (starEach es X.env)).any (·.1) = false := by rfl) :
    DE X (.Call (.Name x p) (e :: es) [] pos) (eCall φ t) := PE.imp (pe_callG F hr hgd hg hm hk hb (fun σ => passG0) ha hdb he hpl) fun σ H Q ⟨ε, g, Q0, rs, rg, q, kk⟩ =>
  ⟨ε, g, _, rs, rg, q, fun ds g1 vs H1 q1 rv rg1 k1 => ⟨ds, g1, Q0, _, rv, rg1.st, q1, fun d g' v H' q rv rg' k => kk _ _ _ _ q rv (rg1.move k rg') (k1.trans k), fun _ _ _ _ _ _ z => z.elim⟩⟩
end
end LF
namespace LF
open PySem PySem.Spec PyProof.Rows L2
variable [PP]

def rLen : RL := fun xs g Q => match xs with
  | [.str z] => z.length ≤ sizeLine ∧ Q (.int z.length) g
  | [x] => ∃ ys, itemsOf x g ys ∧ Q (.int ys.length) g
  | _ => False
def rTupOf : RL := fun xs g Q => match xs with
  | [x] => ∃ ys, itemsOf x g ys ∧ Q (.tup ys) g
  | _ => False
def rLstOf : RL := fun xs g Q => match xs with
  | [x] => ∃ ys, itemsOf x g ys ∧ ∀ p, g p = none → Q (.ref p) (gset g p (.lst ys))
  | _ => False
theorem one_rv {K : PySem.W.Frag} {H : Hp} {x : D} {vs : List V} (r : RVs K H [x] vs) : ∃ v, vs = [v] ∧ RV K H x v := by
  cases r with
  | cons a b => cases b; exact ⟨_, rfl, a⟩
theorem two_rv {K : PySem.W.Frag} {H : Hp} {x y : D} {vs : List V} (r : RVs K H [x, y] vs) : ∃ v u, vs = [v, u] ∧ RV K H x v ∧ RV K H y u := by
  cases r with
  | cons a b =>
    obtain ⟨u, rfl, c⟩ := one_rv b
    exact ⟨_, u, rfl, a, c⟩
section
variable {X : Cx}
theorem cd_len : CallD X (.builtin "len") rLen := by
  intro pins s σ H vs us Q I r ⟨g, ds, Q0, rg, rv, q, k⟩
  unfold rLen at q
  split at q
  · rename_i z
    obtain ⟨v, rfl, a⟩ := one_rv rv
    cases a
    exact call_len_str pins s σ H _ us Q I r ⟨z, rfl, q.1, k _ g _ H q.2 (.int _) rg (Keep.refl _ _)⟩
  · rename_i x hx
    obtain ⟨v, rfl, a⟩ := one_rv rv
    obtain ⟨ys, hi, q⟩ := q
    obtain ⟨p, ws, rfl, hs, rw'⟩ := hi.rv rg a
    exact call_len_seq pins s σ H _ us Q I r ⟨p, ws, rfl, hs, by rw [← rw'.length]; exact k _ g _ H q (.int _) rg (Keep.refl _ _)⟩
  · exact q.elim
theorem cd_tuple : CallD X (.type "tuple") rTupOf := by
  intro pins s σ H vs us Q I r ⟨g, ds, Q0, rg, rv, q, k⟩
  unfold rTupOf at q
  split at q
  · obtain ⟨v, rfl, a⟩ := one_rv rv
    obtain ⟨ys, hi, q⟩ := q
    cases a <;> first | exact hi.elim | skip
    · rename_i h1 h2
      have e : ys = _ := hi
      subst e
      exact call_tuple_of pins s σ H _ us Q I r ⟨_, _, rfl, .inr ⟨h1.seq, k _ g _ H q (.tup h1 h2) rg (Keep.refl _ _)⟩⟩
    · rename_i a
      obtain ⟨ws, h1, h2⟩ := rg.st a _ hi
      exact call_tuple_of pins s σ H _ us Q I r ⟨_, _, rfl, .inl ⟨.of h1, fun p hp => fin_tup rg h2 q k p hp⟩⟩
    · rename_i h1 h2
      have e : ys = _ := hi
      subst e
      exact call_tuple_of pins s σ H _ us Q I r ⟨_, _, rfl, .inl ⟨h1.seq, fun p hp => fin_tup rg h2 q k p hp⟩⟩
  · exact q.elim
theorem cd_list : CallD X (.type "list") rLstOf := by
  intro pins s σ H vs us Q I r ⟨g, ds, Q0, rg, rv, q, k⟩
  unfold rLstOf at q
  split at q
  · obtain ⟨v, rfl, a⟩ := one_rv rv
    obtain ⟨ys, hi, q⟩ := q
    obtain ⟨p, ws, rfl, hs, rw'⟩ := hi.rv rg a
    exact call_list_of pins s σ H _ us Q I r ⟨p, ws, rfl, hs, fun l hl => fin_lst rg rw' q k l hl⟩
  · exact q.elim

def rI1 (C : Int → Prop) (f : Int → Int) : RL := fun xs g Q => match xs with
  | [.int i] => C i ∧ Q (.int (f i)) g
  | _ => False
def rI2 (f : Int → Int → Int) : RL := fun xs g Q => match xs with
  | [.int i, .int j] => Q (.int (f i j)) g
  | _ => False
theorem cd_abs : CallD X (.builtin "abs") (rI1 (fun _ => True) fun i => if i < 0 then -i else i) := by
  intro pins s σ H vs us Q I r ⟨g, ds, Q0, rg, rv, q, k⟩
  unfold rI1 at q
  split at q
  · obtain ⟨v, rfl, a⟩ := one_rv rv
    cases a
    exact call_abs pins s σ H _ us Q I r ⟨_, rfl, k _ g _ H q.2 (.int _) rg (Keep.refl _ _)⟩
  · exact q.elim
theorem cd_max2 (hc : X.calm = true) : CallD X (.builtin "max") (rI2 fun i j => if j > i then j else i) := by
  intro pins s σ H vs us Q I r ⟨g, ds, Q0, rg, rv, q, k⟩
  unfold rI2 at q
  split at q
  · obtain ⟨v, u, rfl, a, b⟩ := two_rv rv
    cases a
    cases b
    exact call_max2 hc pins s σ H _ us Q I r ⟨_, _, rfl, k _ g _ H q (.int _) rg (Keep.refl _ _)⟩
  · exact q.elim
theorem cd_min2 (hc : X.calm = true) : CallD X (.builtin "min") (rI2 fun i j => if j < i then j else i) := by
  intro pins s σ H vs us Q I r ⟨g, ds, Q0, rg, rv, q, k⟩
  unfold rI2 at q
  split at q
  · obtain ⟨v, u, rfl, a, b⟩ := two_rv rv
    cases a
    cases b
    exact call_min2 hc pins s σ H _ us Q I r ⟨_, _, rfl, k _ g _ H q (.int _) rg (Keep.refl _ _)⟩
  · exact q.elim
/-- int(x) of an int, of a bool -/
def rInt : RL := fun xs g Q => match xs with
  | [.int i] => Q (.int i) g
  | [.bl b] => Q (.int (if b then 1 else 0)) g
  | _ => False
theorem cd_int : CallD X (.type "int") rInt := by
  intro pins s σ H vs us Q I r ⟨g, ds, Q0, rg, rv, q, k⟩
  unfold rInt at q
  split at q
  · obtain ⟨v, rfl, a⟩ := one_rv rv
    cases a
    exact call_int1 pins s σ H _ us Q I r (.inl ⟨_, rfl, k _ g _ H q (.int _) rg (Keep.refl _ _)⟩)
  · obtain ⟨v, rfl, a⟩ := one_rv rv
    cases a
    exact call_int1 pins s σ H _ us Q I r (.inr ⟨_, rfl, k _ g _ H q (.int _) rg (Keep.refl _ _)⟩)
  · exact q.elim
/-- sum, max, min of a list or tuple of ints -/
def rSumD : RL := fun xs g Q => match xs with
  | [x] => ∃ ns : List Int, itemsOf x g (ns.map D.int) ∧ Q (.int ns.sum) g
  | _ => False
theorem sum_tup {P : Program} {w : World} {A : Around} {E : Value → Shared → Prop} {s : Shared} {t : Addr} {its : List Value} {ns : List Int} {Q : Value → Shared → Prop} (hh : A.handled = none) (hl : IsTup s.heap t its.toArray) (hi : IntsAre its ns)
    (h : ∀ h' tk t', (∀ b o, s.heap.get? b = some o → h'.get? b = some o) → Q (.int ns.sum t') { s with heap := h', toks := tk }) : wpAny (model P w) A (call (.builtin "sum") [.ref t]) Q E s := by
  obtain ⟨xs, e⟩ := hi.allInts.items
  have hn : numsOf (intItems xs).toList = ns := by rw [← e]; exact hi.numsOf
  rw [nums_intItems] at hn
  rw [e] at hl
  refine PySem.W.ktm_sumG hh (show s.heap.IsTuple t (intItems xs) from hl) fun h' tk t' hk => ?_
  rw [preSum_eq, List.take_of_length_le (by simp), hn]
  exact h h' tk t' hk
theorem cd_sum (hc : X.calm = true) : CallD X (.builtin "sum") rSumD := by
  intro pins s σ H vs us Q I r ⟨g, ds, Q0, rg, rv, q, k⟩
  unfold rSumD at q
  split at q
  · obtain ⟨v, rfl, a⟩ := one_rv rv
    obtain ⟨ns, hi, q⟩ := q
    obtain ⟨p, ws, rfl, hs, rw'⟩ := hi.rv rg a
    have e := rw'.ints
    subst e
    have fin := k _ g _ H q (.int _) rg (Keep.refl _ _)
    rcases hs with hs | hs
    · exact cr_sum hc pins s σ H _ us Q I r ⟨p, ns, rfl, hs, fin⟩
    · obtain ⟨its, rr, pl, _⟩ := I.tuple hs
      rw [Vals.ref1 r]
      exact sum_tup (I.ok.hd hc) pl rr.ints fun h' tk t' hk => ⟨.int _, H, I.kept hk, ⟨_, rfl⟩, fin⟩
  · exact q.elim
def rMaxD : RL := fun xs g Q => match xs with
  | [x] => ∃ ns : List Int, itemsOf x g (ns.map D.int) ∧ (∃ a, x = .ref a) ∧ 0 < ns.length ∧ ∀ m, m ∈ ns → (∀ y, y ∈ ns → y ≤ m) → Q (.int m) g
  | _ => False
def rMinD : RL := fun xs g Q => match xs with
  | [x] => ∃ ns : List Int, itemsOf x g (ns.map D.int) ∧ (∃ a, x = .ref a) ∧ 0 < ns.length ∧ ∀ m, m ∈ ns → (∀ y, y ∈ ns → m ≤ y) → Q (.int m) g
  | _ => False
theorem list_of {K : PySem.W.Frag} {g : G} {H : Hp} {a : Addr} {ns : List Int} (rg : RG K g H) (h : g a = some (.lst (ns.map D.int))) : SqL K H a (ns.map V.int) := by
  obtain ⟨vs, e, r⟩ := rg.st a _ h
  have z := r.ints
  subst z
  exact .of e
theorem cd_max (hc : X.calm = true) : CallD X (.builtin "max") rMaxD := by
  intro pins s σ H vs us Q I r ⟨g, ds, Q0, rg, rv, q, k⟩
  unfold rMaxD at q
  split at q
  · obtain ⟨v, rfl, a⟩ := one_rv rv
    obtain ⟨ns, hi, ⟨p, rfl⟩, hl, q⟩ := q
    cases a
    exact cr_max hc pins s σ H _ us Q I r ⟨p, ns, rfl, list_of rg hi, hl, fun m h1 h2 => k _ g _ H (q m h1 h2) (.int _) rg (Keep.refl _ _)⟩
  · exact q.elim
theorem cd_min (hc : X.calm = true) : CallD X (.builtin "min") rMinD := by
  intro pins s σ H vs us Q I r ⟨g, ds, Q0, rg, rv, q, k⟩
  unfold rMinD at q
  split at q
  · obtain ⟨v, rfl, a⟩ := one_rv rv
    obtain ⟨ns, hi, ⟨p, rfl⟩, hl, q⟩ := q
    cases a
    exact cr_min hc pins s σ H _ us Q I r ⟨p, ns, rfl, list_of rg hi, hl, fun m h1 h2 => k _ g _ H (q m h1 h2) (.int _) rg (Keep.refl _ _)⟩
  · exact q.elim
/-- sorted(xs) of ints -/
def rSortI : RL := fun xs g Q => match xs with
  | [x] => ∃ ns : List Int, itemsOf x g (ns.map D.int) ∧ (∃ a, x = .ref a) ∧ ∀ (ms : List Int) p, ms.Perm ns → ms.Pairwise (· ≤ ·) → g p = none → Q (.ref p) (gset g p (.lst (ms.map D.int)))
  | _ => False
theorem cd_sortI : CallD X (.builtin "sorted") rSortI := by
  intro pins s σ H vs us Q I r ⟨g, ds, Q0, rg, rv, q, k⟩
  unfold rSortI at q
  split at q
  · obtain ⟨v, rfl, a⟩ := one_rv rv
    obtain ⟨ns, hi, ⟨p, rfl⟩, q⟩ := q
    cases a
    exact cr_sortedI pins s σ H _ us Q I r ⟨p, ns, rfl, list_of rg hi, fun ms l h1 h2 h3 => fin_lst rg (RVs.ofInts ms) (fun p' hp' => q ms p' h1 h2 hp') k l h3⟩
  · exact q.elim

variable {pos : Pos} {a b : Expr} {ta tb : EV}
def eRg1 (mk : RL) (t : EV) : EV := fun ε g Q => t ε g fun x g1 => match x with
  | .int n => RgOk 0 n ∧ mk (rangeD 0 n.toNat) g1 Q
  | _ => False
def eRg2 (mk : RL) (t u : EV) : EV := fun ε g Q => t ε g fun x g1 => u ε g1 fun y g2 => match x, y with
  | .int m, .int n => RgOk m n ∧ mk (rangeD m (n - m).toNat) g2 Q
  | _, _ => False
theorem rg_rv {K : PySem.W.Frag} {H : Hp} (a b : Int) : RVs K H (rangeD a (b - a).toNat) (rgV a b) := by
  have : ∀ l : List Nat, RVs K H (l.map fun i : Nat => D.int (a + (i : Int))) (l.map fun i : Nat => V.int (a + (i : Int))) := by
    intro l
    induction l with
    | nil => exact .nil
    | cons x l ih => exact .cons (.int _) ih
  exact this _
theorem d_lrg1 {p p2 pos2 : Pos} (hc : X.calm = true) (hg : Gl X "list") (hm : X.mg "list" = none) (hg2 : Gl X "range") (hm2 : X.mg "range" = none) (ha : DE X a ta) (na : starEach [a] X.env = (false, eval a X.env) :: starEach [] X.env := by rfl)
    (na2 : starEach [.Call (.Name "range" p2) [a] [] pos2] X.env = (false, eval (.Call (.Name "range" p2) [a] [] pos2) X.env) :: starEach [] X.env := by rfl) :
    DE X (.Call (.Name "list" p) [.Call (.Name "range" p2) [a] [] pos2] [] pos) (eRg1 (fun xs g Q => ∀ p, g p = none → Q (.ref p) (gset g p (.lst xs))) ta) :=
  PE.imp (pe_listRg hc hg hm (prg_1 hg2 hm2 ha na) na2) fun σ H Q ⟨ε, g, Q0, rs, rg, q, k⟩ => ⟨ε, g, _, rs, rg, q, fun d g1 v H1 q1 rv rg1 k1 => by
    cases rv <;> first | exact q1.elim | skip
    refine ⟨_, rfl, q1.1, fun l hl => ?_⟩
    have q2 := q1.2
    rw [show (_ : Int).toNat = (_ - (0 : Int)).toNat by rw [Int.sub_zero]] at q2
    exact fin_lst rg1 (rg_rv _ _) q2 (fun d g' v H' q rv rg k' => k _ _ _ _ q rv rg (k1.trans k')) l hl⟩
theorem d_lrg2 {p p2 pos2 : Pos} (hc : X.calm = true) (hg : Gl X "list") (hm : X.mg "list" = none) (hg2 : Gl X "range") (hm2 : X.mg "range" = none) (ha : DE X a ta) (hb : DE X b tb) (na : starEach [a, b] X.env = (false, eval a X.env) :: starEach [b] X.env := by rfl) (nb : starEach [b] X.env = (false, eval b X.env) :: starEach [] X.env := by rfl)
    (na2 : starEach [.Call (.Name "range" p2) [a, b] [] pos2] X.env = (false, eval (.Call (.Name "range" p2) [a, b] [] pos2) X.env) :: starEach [] X.env := by rfl) (np : (backTo pos2 (starEach [b] X.env)).any (·.1) = false := by rfl) :
    DE X (.Call (.Name "list" p) [.Call (.Name "range" p2) [a, b] [] pos2] [] pos) (eRg2 (fun xs g Q => ∀ p, g p = none → Q (.ref p) (gset g p (.lst xs))) ta tb) :=
  PE.imp (pe_listRg hc hg hm (prg_2 hg2 hm2 ha hb na nb np) na2) fun σ H Q ⟨ε, g, Q0, rs, rg, q, k⟩ => ⟨ε, g, _, rs, rg, q, fun d g1 v H1 q1 rv rg1 k1 => ⟨ε, g1, _, rs.keep rg k1, rg1, q1, fun d2 g2 v2 H2 q2 rv2 rg2 k2 => by
    cases rv <;> first | exact q2.elim | skip
    cases rv2 <;> first | exact q2.elim | skip
    exact ⟨_, _, rfl, rfl, q2.1, fun l hl => fin_lst rg2 (rg_rv _ _) q2.2 (fun d g' v H' q rv rg k' => k _ _ _ _ q rv rg (k1.trans (k2.trans k'))) l hl⟩⟩⟩
theorem d_trg1 {p p2 pos2 : Pos} (hc : X.calm = true) (hg : Gl X "tuple") (hm : X.mg "tuple" = none) (hg2 : Gl X "range") (hm2 : X.mg "range" = none) (ha : DE X a ta) (na : starEach [a] X.env = (false, eval a X.env) :: starEach [] X.env := by rfl)
    (na2 : starEach [.Call (.Name "range" p2) [a] [] pos2] X.env = (false, eval (.Call (.Name "range" p2) [a] [] pos2) X.env) :: starEach [] X.env := by rfl) :
    DE X (.Call (.Name "tuple" p) [.Call (.Name "range" p2) [a] [] pos2] [] pos) (eRg1 (fun xs g Q => Q (.tup xs) g) ta) :=
  PE.imp (pe_tupRg hc hg hm (prg_1 hg2 hm2 ha na) na2) fun σ H Q ⟨ε, g, Q0, rs, rg, q, k⟩ => ⟨ε, g, _, rs, rg, q, fun d g1 v H1 q1 rv rg1 k1 => by
    cases rv <;> first | exact q1.elim | skip
    refine ⟨_, rfl, q1.1, fun l hl => ?_⟩
    have q2 := q1.2
    rw [show (_ : Int).toNat = (_ - (0 : Int)).toNat by rw [Int.sub_zero]] at q2
    exact fin_tup rg1 (rg_rv _ _) q2 (fun d g' v H' q rv rg k' => k _ _ _ _ q rv rg (k1.trans k')) l hl⟩

abbrev RM := D → List D → G → (D → G → Prop) → Prop
def isLst (x : D) (g : G) : Prop := match x with
  | .ref a => ∃ xs, g a = some (.lst xs)
  | _ => False
def lRM (K : PySem.W.Frag) (r : RM) : V → List V → Hp → VK → Prop := fun x xs H Q => ∃ g dx ds Q0, RG K g H ∧ RV K H dx x ∧ RVs K H ds xs ∧ r dx ds g Q0 ∧ ∀ d g' v H', Q0 d g' → RV K H' d v → RG K g' H' → Keep g H g' H' → Q v H'
abbrev MtD (X : Cx) (id : String) (r : RM) : Prop := MtR X id (lRM X.K r)
def eM0 (r : RM) (to : EV) : EV := fun ε g Q => to ε g fun o g1 => isLst o g1 ∧ r o [] g1 Q
def eM (r : RM) (to : EV) (t : AV) : EV := fun ε g Q => to ε g fun o g1 => isLst o g1 ∧ t ε g1 fun xs g2 => r o xs g2 Q
theorem isLst.ty {K : PySem.W.Frag} {g : G} {H : Hp} {x : D} {v : V} (rg : RG K g H) (h : isLst x g) (r : RV K H x v) : tyV K "list" v H := by
  cases r <;> first | exact h.elim | skip
  obtain ⟨xs, h⟩ := h
  obtain ⟨vs, e, _⟩ := rg.st _ _ h
  exact .inl ⟨rfl, _, .of e⟩
variable {o e : Expr} {es : List Expr} {to : EV} {t : AV} {name : Str} {apos cpos : Pos} {id : String} {r : RM}
theorem d_m0 (slot : Slot "list" name id) (hty : typeOf (.builtin id) = pure (.type "method_descriptor")) (hm : MtD X id r) (ho : DE X o to)
    (hbase : attributeBase o name X.env (eval o X.env) = eval o X.env := by rfl) (hline : (apos.endLine == cpos.line) = true := by rfl) : DE X (.Call (.Attribute o name apos) [] [] cpos) (eM0 r to) :=
  PE.imp (pe_bm0 PySem.F.plainAttrs_list slot hty hm ho hbase hline) fun σ H Q ⟨ε, g, Q0, rs, rg, q, k⟩ => ⟨ε, g, _, rs, rg, q, fun d g1 v H1 q1 rv rg1 k1 =>
    ⟨q1.1.ty rg1 rv, g1, d, [], Q0, rg1, rv, .nil, q1.2, fun d g' v H' q rv rg k' => k _ _ _ _ q rv rg (k1.trans k')⟩⟩
theorem d_m (slot : Slot "list" name id) (hty : typeOf (.builtin id) = pure (.type "method_descriptor")) (hm : MtD X id r) (ho : DE X o to) (ha : DA X (e :: es) t)
    (hbase : attributeBase o name X.env (eval o X.env) = eval o X.env := by rfl)
    (hfew : ((backTo cpos (starEach (e :: es) X.env)).all (fun x => !x.1) && (backToKw cpos (keywordEach [] X.env)).all (fun x => x.1.isSome)
      && decide ((e :: es).length + ([] : List Keyword).length + (if ([] : List Keyword).isEmpty then 0 else 1) < 30)) = true := by rfl)
    (hline : (apos.endLine == cpos.line) = true := by rfl) (hs : starEach (e :: es) X.env = (false, eval e X.env) :: starEach es X.env := by rfl) (hplain : (backTo cpos (starEach es X.env)).any (·.1) = false := by rfl) :
    DE X (.Call (.Attribute o name apos) (e :: es) [] cpos) (eM r to t) :=
  PE.imp (pe_bm PySem.F.plainAttrs_list slot hty hm ho ha hbase hfew hline hs hplain) fun σ H Q ⟨ε, g, Q0, rs, rg, q, k⟩ => ⟨ε, g, _, rs, rg, q, fun d g1 v H1 q1 rv rg1 k1 =>
    ⟨q1.1.ty rg1 rv, ε, g1, _, rs.keep rg k1, rg1, q1.2, fun ds g2 vs H2 q2 rvs rg2 k2 => ⟨g2, d, ds, Q0, rg2, rv.keep rg1 k2, rvs, q2, fun d g' v H' q rv rg k' => k _ _ _ _ q rv rg (k1.trans (k2.trans k'))⟩⟩⟩
def rApp : RM := fun o xs g Q => match o, xs with
  | .ref a, [y] => ∃ ds, g a = some (.lst ds) ∧ ds.length < sizeLine ∧ Q .non (gset g a (.lst (ds ++ [y])))
  | _, _ => False
theorem md_append : MtD X "list.append" rApp := by
  intro pins s σ H x xs v us Q I rx r ⟨g, dx, ds, Q0, rg, rv, rvs, q, k⟩
  unfold rApp at q
  split at q
  · rename_i a y
    obtain ⟨w, rfl, ry⟩ := one_rv rvs
    cases rv
    obtain ⟨zs, e, hl, q⟩ := q
    obtain ⟨vs, e1, r1⟩ := rg.st a _ e
    have kp := keep_put (H := H) e (.lst (zs ++ [y])) (.lst (vs ++ [w]))
    exact mt_append pins s σ H _ _ v us Q I rx r ⟨a, vs, w, rfl, rfl, e1, by rw [← r1.length]; exact hl, k _ _ _ _ q .non (rg.lay kp (r1.append (.cons ry .nil))) kp⟩
  · exact q.elim
def rPop : RM := fun o xs g Q => match o, xs with
  | .ref a, [] => ∃ ds y, g a = some (.lst (ds ++ [y])) ∧ Q y (gset g a (.lst ds))
  | _, _ => False
theorem md_pop : MtD X "list.pop" rPop := by
  intro pins s σ H x xs v us Q I rx r ⟨g, dx, ds, Q0, rg, rv, rvs, q, k⟩
  unfold rPop at q
  split at q
  · rename_i a
    cases rvs
    cases rv
    obtain ⟨zs, y, e, q⟩ := q
    obtain ⟨vs, e1, r1⟩ := rg.st a _ e
    obtain ⟨w, ew, ry⟩ := r1.get (i := vs.length - 1) (d := y) (by rw [← r1.length, List.length_append]; simp)
    have r2 := r1.dropLast
    rw [List.dropLast_concat] at r2
    have kp := keep_put (H := H) e (.lst zs) (.lst vs.dropLast)
    exact mt_pop pins s σ H _ _ v us Q I rx r ⟨a, vs, w, rfl, rfl, e1, ew, k _ _ _ _ q (ry.keep rg kp) (rg.lay kp r2) kp⟩
  · exact q.elim
def rPopAt : RM := fun o xs g Q => match o, xs with
  | .ref a, [.int i] => ∃ ds y, g a = some (.lst ds) ∧ 0 ≤ i ∧ ds[i.toNat]? = some y ∧ Q y (gset g a (.lst (ds.eraseIdx i.toNat)))
  | _, _ => False
theorem md_popAt : MtD X "list.pop" rPopAt := by
  intro pins s σ H x xs v us Q I rx r ⟨g, dx, ds, Q0, rg, rv, rvs, q, k⟩
  unfold rPopAt at q
  split at q
  · rename_i a i
    obtain ⟨w, rfl, ri⟩ := one_rv rvs
    cases ri
    cases rv
    obtain ⟨zs, y, e, h0, hy, q⟩ := q
    obtain ⟨vs, e1, r1⟩ := rg.st a _ e
    obtain ⟨w, ew, ry⟩ := r1.get hy
    have hlt := (List.getElem?_eq_some_iff.mp hy).1
    obtain ⟨hz, _⟩ := I.lstM e1
    have line := line63
    have hl := r1.length
    have kp := keep_put (H := H) e (.lst (zs.eraseIdx i.toNat)) (.lst (vs.eraseIdx i.toNat))
    exact mt_popAt pins s σ H _ _ v us Q I rx r ⟨a, vs, i, i.toNat, w, rfl, rfl, e1, by omega, by omega, PySem.seqIndex_of h0 (by omega), ew, k _ _ _ _ q (ry.keep rg kp) (rg.lay kp (r1.eraseIdx _)) kp⟩
  · exact q.elim

def rRepr : RL := fun xs g Q => match xs with
  | [x] => ∃ p, Dat g x p ∧ p.showable = true ∧ p.hasDict = false ∧ p.depth ≤ 60 ∧ p.shown.length ≤ sizeLine ∧ Q (.str p.shown) g
  | _ => False
theorem cd_repr {kk : Nat} (hr : Room kk X.A) (hgd : X.A.guards = some []) : CallD X (.builtin "repr") rRepr := by
  intro pins s σ H vs us Q I r ⟨g, ds, Q0, rg, rv, q, k⟩
  unfold rRepr at q
  split at q
  · obtain ⟨v, rfl, a⟩ := one_rv rv
    obtain ⟨p, hd, hs, hn, hdp, hz, q⟩ := q
    obtain ⟨u, rfl, ru⟩ := Vals.one r
    have fin := k _ g _ H q (.str p.shown) rg (Keep.refl _ _)
    cases hd with
    | non => cases a; cases ru; exact PySem.P.repr_of_none ⟨.str _, H, I.tok _, ⟨_, rfl⟩, by simpa only [PyData.shown] using fin⟩
    | bl b => cases a; cases ru; exact PySem.P.repr_of_bool ⟨.str _, H, I.tok _, ⟨_, rfl⟩, by simpa only [PyData.shown] using fin⟩
    | int i =>
      cases a
      obtain ⟨t, rfl⟩ := ru
      exact PySem.P.repr_of_int (by simpa only [PyData.showable, decide_eq_true_eq] using hs) ⟨.str _, H, I.tok _, ⟨_, rfl⟩, by simpa only [PyData.shown] using fin⟩
    | str x =>
      cases a
      obtain ⟨t, rfl⟩ := ru
      exact PySem.P.repr_of_str ⟨.str _, H, I.tok _, ⟨_, rfl⟩, by simpa only [PyData.shown] using fin⟩ (by simpa only [PyData.shown] using hz)
    | _ =>
      have hp := (Dat.dp rg (by first | exact .tup (by assumption) | exact .lst (by assumption) (by assumption)) a)
      obtain ⟨as, hrd⟩ := Dp.reads I _ _ _ hp ru
      cases a
      cases ru
      exact repr_of_reads' hrd hs (fun z => by rw [hn] at z; cases z) hgd (by have := hr.un; omega) (fun _ _ e => e) (fun h' u tk hk => ⟨.str _, H, I.kept hk, ⟨_, rfl⟩, fin⟩) hz
  · exact q.elim

def enumD (n : Nat) : List LF.D → List LF.D
  | [] => []
  | x :: xs => .tup [.int n, x] :: enumD (n + 1) xs
theorem enumD_length : ∀ (n : Nat) (xs : List LF.D), (enumD n xs).length = xs.length
  | _, [] => rfl
  | n, x :: xs => congrArg (· + 1) (enumD_length (n + 1) xs)
theorem enumD_get : ∀ (n : Nat) (xs : List LF.D) (i : Nat) (d : LF.D), xs[i]? = some d → (enumD n xs)[i]? = some (.tup [.int ((n + i : Nat) : Int), d])
  | _, [], _, _, h => by simp at h
  | n, x :: xs, 0, d, h => by simp at h; subst h; rfl
  | n, x :: xs, i + 1, d, h => by
    have := enumD_get (n + 1) xs i d (by simpa using h)
    rw [show n + (i + 1) = n + 1 + i by omega]
    simpa [enumD] using this
def iEnumL (t : AV) : IV := fun ε g R => t ε g fun ds g1 => match ds with
  | [.ref a] => ∃ xs, g1 a = some (.lst xs) ∧ R (enumD 0 xs) (stays (.ref a) xs) g1
  | _ => False
theorem itok_enum {K : PySem.W.Frag} {g0 : G} {H0 : Hp} {a : Addr} {xs : List LF.D} : ItOk K g0 H0 (enumD 0 xs) (stays (.ref a) xs) (Ite K a) := fun g H rg k c => by
  obtain ⟨vs, h1, h2⟩ := rg.st a _ c
  rw [enumD_length]
  refine ⟨⟨vs, .of h1, Nat.le_of_eq h2.length.symm⟩, fun i hi => ?_⟩
  obtain ⟨v, e, rv⟩ := h2.get (List.getElem?_eq_getElem hi)
  refine ⟨⟨vs, v, .of h1, e⟩, fun x H' ⟨T, y, e1, e2, e3, e4⟩ => ?_⟩
  subst e1 e3
  have e5 := e4 vs (.of h1)
  rw [e] at e5; cases e5
  refine ⟨_, enumD_get 0 xs i _ (List.getElem?_eq_getElem hi), ?_, rg.tupNew e2, keep_new e2 _⟩
  refine .tup (.inl upd_same) ?_
  rw [Nat.zero_add]
  exact .cons (.int _) (.cons (rv.keep rg (keep_new e2 _)) .nil)
theorem i_enumL {el : Expr} {ta : AV} {p tpos : Pos} {elts : List Expr} {kk : Nat} (hg : Gl X "enumerate") (hm : X.mg "enumerate" = none) (ha : DA X [el] ta) (hs : starEach [el] X.env = [(false, eval el X.env)] := by rfl) :
    DI X (.Tuple elts kk tpos) (.Call (.Name "enumerate" p) [el] [] pos) (iEnumL ta) :=
  PI.imp (pi_enum hg hm ha hs) fun σ H R ⟨ε, g, R0, rs, rg, q, k⟩ => ⟨ε, g, _, rs, rg, q, fun ds g1 vs H1 q1 rv rg1 k1 => by
    split at q1
    · rename_i a
      obtain ⟨v, rfl, rw1⟩ := one_rv rv
      obtain ⟨xs, e, q1⟩ := q1
      cases rw1
      obtain ⟨ws, h1, h2⟩ := rg1.st a _ e
      exact ⟨_, ws, rfl, .of h1, k _ _ _ _ _ q1 rg1 k1 itok_enum⟩
    · exact q1.elim⟩
end
end LF
namespace LF
open PySem PySem.Spec PyProof.Rows L2
variable [PP]

theorem law_g {P : Program} {w : World} {K : PySem.W.Frag} {mg mb : Str → Option Value} {ct : Nat → Addr} {φ : FV} {k : Nat} {fa a : Addr} {fd : FuncData} {x : Str} {s₁ : Shared} {vs : List Value} {ns : List Int}
    (KX : K.In s₁.heap) (hns : s₁.heap.Ns mainGlobals mg) (hb : s₁.heap.Ns builtinsNs mb) (hbb : ∀ x : Str, x ≠ "__name__" → mb x = bootBuiltins x) (hlim : s₁.heap.NoLimit) (hg : s₁.gens = #[])
    (ha : s₁.heap.get? a = some { cls := .type "list", data := .seq vs.toArray }) (hi : IntsAre vs ns) (hl : ns.length ≤ sizeLine) (hr : Room k callerA)
    (F : ∀ base : Heap, K.In base → base.Ns mainGlobals mg → FnG P w K mg base k fa fd [x] (lF K ct φ)) (hbind : ∀ (s : Shared) (u : Value), BindsTo s fd ⟨[u], []⟩ [(x, u)])
    (hφ : φ [.rol a (ns.map D.int)] (fun _ => none) (fun d _ => d = .bl true) fun _ _ _ => False) :
    codeAny (model P w) callerA (.call (.ref fa) ⟨[.ref a], []⟩) (fun r s' => r = .ok (.ret (.bool true)) ∧ OldK s₁.heap s'.heap ∧ s'.os = s₁.os ∧ AllBare s'.gens) s₁ := by
  have rv : Vals (ns.map V.int) vs := vals_ints hi
  have lenV := hi.length
  -- one abstract heap: it tells of the script alone
  have main : ∀ H : Hp, (∀ b u, H b = some u → b = a ∧ K.lookup a = none ∧ u = .frz { cls := .type "list", data := .seq vs.toArray } (.lst (ns.map V.int))) → Frz K H a (ns.map V.int) →
      codeAny (model P w) callerA (.call (.ref fa) ⟨[.ref a], []⟩) (fun r s' => r = .ok (.ret (.bool true)) ∧ OldK s₁.heap s'.heap ∧ s'.os = s₁.os ∧ AllBare s'.gens) s₁ := by
    intro H hH hF
    have hok : HOk P w H s₁.heap := fun b u e => by
      obtain ⟨rfl, _, rfl⟩ := hH b u e
      exact ⟨ha, by rw [List.length_map]; exact hl, vs, _, rv, ha⟩
    have out : ∀ {b : Addr} {o : Obj}, s₁.heap.get? b = some o → (∀ n, o.data ≠ .seq vs.toArray n) → H b = none := fun {b o} e d => by
      cases q : H b with
      | none => rfl
      | some u =>
        obtain ⟨rfl, _, _⟩ := hH b u q
        rw [ha] at e
        cases e
        exact absurd rfl (d _)
    have ns1 : ∀ {b : Addr} {m : Str → Option Value}, s₁.heap.Ns b m → (hidT s₁.heap H).Ns b m := fun {b m} ⟨o, es, ep, e, d, rest⟩ =>
      ⟨o, es, ep, hidT_get e (out e fun n z => by rw [d] at z; cases z), d, rest⟩
    have KB : K.In (hidT s₁.heap H) := fun b o e => hidT_get (KX b o e) (by
      cases q : H b with
      | none => rfl
      | some u =>
        obtain ⟨rfl, h0, _⟩ := hH b u q
        rw [h0] at e
        cases e)
    obtain ⟨ml, l1, l2⟩ := hlim
    have e0 : Env0 P w K mg (hidT s₁.heap H) callerA [] s₁ H :=
      { frames := rfl
        mod := ⟨KB, ns1 hns, ⟨mb, ns1 hb, hbb⟩, ⟨ml, ns1 l1, l2⟩⟩
        bs := fun b o e => of_hidT e
        bsz := Nat.le_of_eq (hidT_size _ _)
        funs := trivial
        frf := fun b z => by simp [frs] at z
        hok := hok
        bare := .of_eq hg }
    have hsp : lF K ct φ [.ref a] H (fun v _ => v = .bl true) fun _ _ _ => False :=
      ⟨[.rol a (ns.map D.int)], fun _ => none, _, _, .cons (.rol hF (RVs.ofInts ns)) .nil, fun _ _ e => (by cases e), hφ, fun d g' v H' q r _ _ => (by subst q; cases r; rfl), fun _ _ _ _ _ _ z => z.elim⟩
    refine codeAny_mono ((F _ KB (ns1 hns)).run callerA [] s₁ H ⟨[.ref a], []⟩ [.ref a] [.ref a] _ _ hr rfl e0 (hbind s₁ (.ref a)) (.cons rfl .nil) hsp) fun r s' h => ?_
    cases r with
    | error e =>
      obtain ⟨_, _, _, _, _, _, _, _, _, _, _, _, z⟩ := h
      exact z.elim
    | ok fl =>
      cases fl with
      | ret u =>
        obtain ⟨v, H', os, bare, un, hok', r', rfl⟩ := h
        cases r'
        refine ⟨rfl, OldK.of_keep fun b o e => ?_, os, bare⟩
        cases q : H b with
        | none => exact un.keep b o e q (by simp [frs]) (by simp)
        | some u =>
          obtain ⟨rfl, _, rfl⟩ := hH b u q
          obtain ⟨e2, _⟩ := hok' b _ (un.frzs b _ _ q)
          rw [ha] at e
          cases e
          exact e2
      | _ => exact h.elim
  cases hk : K.lookup a with
  | some o =>
    have e := KX a o hk
    rw [ha] at e
    cases e
    exact main (fun _ => none) (fun b u e => by cases e) (.inr fun H' => .inr ⟨_, vs.toArray, _, hk, rfl, rfl, rfl, by rw [List.size_toArray, lenV]; exact hl, by simpa using rv⟩)
  | none =>
    refine main (fun b => if b = a then some (.frz { cls := .type "list", data := .seq vs.toArray } (.lst (ns.map V.int))) else none) (fun b u e => ?_) (.inl ⟨_, if_pos rfl⟩)
    by_cases hba : b = a
    · rw [if_pos hba] at e
      cases e
      exact ⟨hba, hk, rfl⟩
    · rw [if_neg hba] at e
      cases e

theorem walk_g {l : PySem.W.OpenLaw} {n k : Nat} {q : Program} {loose : List Str} {XP : (Str → Option Value) → Heap → Prop} {YP : World → Heap → Prop} {d : DefRec} {K : Params → PySem.W.Frag} {φ : FV} {x : Str}
    (hn : l.most = some n) (hn2 : n ≤ sizeLine) (hdf : d.params.defaults = []) (hr : Room k callerA) (hY : ∀ (w : World) (h : Heap), YP w h → (K w.params).In h)
    (F : ∀ (w : World) (mg : Str → Option Value) (fa : Addr) (h : Heap), (K w.params).In h → h.Ns mainGlobals mg → mg d.name = some (.ref fa) →
      ∃ (fd : FuncData) (ct : Nat → Addr), (∀ (s : Shared) (u : Value), BindsTo s fd ⟨[u], []⟩ [(x, u)]) ∧
        ∀ base : Heap, (K w.params).In base → base.Ns mainGlobals mg → FnG l.prog w (K w.params) mg base k fa fd [x] (lF (K w.params) ct φ))
    (hφ : ∀ (a : Addr) (ns : List Int), ns.length ≤ n → φ [.rol a (ns.map D.int)] (fun _ => none) (fun d _ => d = .bl true) fun _ _ _ => False) :
    PySem.W.WalkO q loose XP YP l.row.toRowW d [] (fun f vs => PySem.call f vs) := by
  refine Att.attach_call hn hdf fun w s₀ s₁ mg mb fa o pm cd doc a vs ns G Y ho hd hcd hmg hobj hints hlen hg => ?_
  obtain ⟨fd, ct, hb, hF⟩ := F w mg fa _ (hY w _ Y) G.T.g hmg
  exact law_g (hY w _ Y) G.T.g G.T.b G.T.builtins G.T.nolimit hg hobj hints (Nat.le_trans hlen hn2) hr hF hb (hφ a ns hlen)
end LF
namespace LF
open PySem PySem.Spec PyProof.Rows L2
variable [PP]

def startD (n : Nat) (ds : List D) : En := ds.map some ++ List.replicate (n - ds.length) none
/-- a def's meaning from its body's: np parameters, n names -/
def fv (np n : Nat) (t : SV) : FV := fun ds g Q _ => ds.length = np ∧ t { nx := fun _ g' => Q .non g', rt := Q } (startD n ds) g
theorem start_rs {K : PySem.W.Frag} {H : Hp} {N : List Str} {ds : List D} {vs : List V} (r : RVs K H ds vs) (hl : ds.length ≤ N.length) : RS K H (startD N.length ds) (L2.start N vs) := by
  have e := r.length
  refine ⟨?_, fun i d h => ?_⟩
  · unfold startD L2.start
    simp only [List.length_append, List.length_map, List.length_replicate]
    omega
  · unfold startD at h
    unfold L2.start
    by_cases hi : i < ds.length
    · rw [List.getElem?_append_left (by simpa using hi), List.getElem?_map] at h
      rw [List.getElem?_append_left (by simpa using (by omega : i < vs.length)), List.getElem?_map]
      cases q : ds[i]? with
      | none => rw [q] at h; cases h
      | some d' =>
        rw [q] at h
        cases h
        obtain ⟨v, e1, r1⟩ := r.get q
        exact ⟨v, by rw [e1]; rfl, r1⟩
    · rw [List.getElem?_append_right (by simpa using hi)] at h
      have := List.getElem?_eq_some_iff.mp h
      obtain ⟨_, z⟩ := this
      rw [List.getElem_replicate] at z
      cases z
/-- a def that stands at a global name -/
structure Cal (P : Program) (w : World) (K : PySem.W.Frag) (mg : Str → Option Value) (base : Heap) (ct : Nat → Addr) (x : Str) (k : Nat) (ps : List Str) (φ : FV) : Prop where
  ex : ∃ f fd, FnG P w K mg base k f fd ps (lF K ct φ) ∧ mg x = some (.ref f) ∧ PySem.W.keepIn K (.ref f) = true ∧ Binds K fd ps []
section
variable {P : Program} {w : World} {K : PySem.W.Frag} {mg : Str → Option Value} {base : Heap} {ct : Nat → Addr}
theorem ok_of {x qual : Str} {st : Stmt} {f : Addr} {fd : FuncData} {N ps : List Str} {k : Nat} {t : SV} (F : Fun K x qual st f fd) (S : FnScope N ps (defScope st)) (hl : ps.length ≤ N.length)
    (body : ∀ (cdv : Value) (A : Around) (outer : List Env) (s : Shared) (H : Hp) (E : XK) [PP], Room k (A.deeper (envOfC qual (defScope st) s.heap.objs.size f cdv)) → (A.deeper (envOfC qual (defScope st) s.heap.objs.size f cdv)).guards = some [] →
      DSs (cxOf (L2.CX P w) P w K mg base N qual (defScope st) f cdv A outer s H E) (defBody st) t) : FnG P w K mg base (k + 1) f fd ps (lF K ct (fv ps.length N.length t)) := by
  refine FnG.of F S (fun vs H Q E ⟨ds, g, Q0, E0, rv, rg, ⟨e, _⟩, _⟩ => by rw [← rv.length]; exact e) fun cdv A outer s H vs Q E hr hg ⟨ds, g, Q0, E0, rv, rg, ⟨e, q⟩, k1, k2⟩ => ?_
  letI : PP := ppNone
  refine ⟨_, body cdv A outer s H E hr hg, startD N.length ds, g, _, start_rs rv (by omega), ⟨rg, trivial⟩, q, ⟨fun _ g' _ H' q _ r k => k1 _ _ _ _ q .non r.st k, fun _ _ _ _ q a r k => k1 _ _ _ _ q a r.st k, fun _ _ _ _ z => z.elim, fun _ _ _ _ z => z.elim⟩⟩
theorem cal_of {x : Str} {st : Stmt} {f : Addr} {fd : FuncData} {ps : List Str} {k : Nat} {φ : FV} (F : Fun K x x st f fd) (G : FnG P w K mg base k f fd ps (lF K ct φ)) (hm : mg x = some (.ref f))
    (h : ∀ (kV doc pm : Value) (an : Option Addr) (cdv ct : Value) (us : List Value), us.length = ps.length → bindArgs (PySem.W.fnOf x x (defArgs st) (defBody st) (defScope st) .none kV doc pm an cdv ct) ⟨us, []⟩ = pure (ps.zip us)) : Cal P w K mg base ct x k ps φ := ⟨⟨f, fd, G, hm, F.kp, F.binds h⟩⟩
theorem Cal.mono {x : Str} {j k : Nat} {ps : List Str} {φ : FV} (C : Cal P w K mg base ct x j ps φ) (h : j ≤ k) : Cal P w K mg base ct x k ps φ := by
  obtain ⟨f, fd, a, b, c, d⟩ := C.ex
  exact ⟨⟨f, fd, a.mono h, b, c, d⟩⟩
end
section
variable {X : Cx} {pos : Pos}
theorem dv (i : Nat) {x : Str} {pos : Pos} (hN : X.N[i]? = some x := by rfl) (hv : Vis X.env.scope x := by first | exact Or.inl rfl | exact Or.inr (Or.inl rfl) | exact Or.inr (Or.inr rfl)) (hd : (x == ("__debug__" : Str)) = false := by decide +kernel)
    (hcd : (x == ("__classdict__" : Str)) = false := by decide +kernel) : DE X (.Name x pos) (eVar i) := d_var hN hv hd hcd
theorem d_cal {ct : Nat → Addr} {x : Str} {j k : Nat} {ps : List Str} {φ : FV} {t : AV} {p : Pos} {e : Expr} {es : List Expr} (C : Cal X.prog X.w X.K X.mg X.base ct x j ps φ) (hj : j ≤ k) (hr : Room k X.A) (hgd : X.A.guards = some []) (hg : Gl X x)
    (ha : DA X (e :: es) t) (hdb : (x == ("__debug__" : Str)) = false := by decide +kernel) (he : starEach (e :: es) X.env = (false, eval e X.env) :: starEach es X.env := by rfl) (hpl : (backTo pos (starEach es X.env)).any (·.1) = false := by rfl) :
    DE X (.Call (.Name x p) (e :: es) [] pos) (eCall φ t) := by
  obtain ⟨f, fd, a, b, c, d⟩ := C.ex
  exact d_call (a.mono hj) hr hgd hg b c d ha hdb he hpl
end
end LF
namespace LF
open PySem PySem.Spec PyProof.Rows L2
variable [PP]

/-- all that stands outside of S stands -/
def Fr (S : List Addr) (g g' : G) : Prop := ∀ c o, g c = some o → c ∉ S → g' c = some o
theorem Fr.refl (S : List Addr) (g : G) : Fr S g g := fun _ _ h _ => h
theorem Fr.trans {S : List Addr} {g g1 g2 : G} (a : Fr S g g1) (b : Fr S g1 g2) : Fr S g g2 := fun c o h n => b c o (a c o h n) n
theorem Fr.mono {S T : List Addr} {g g1 : G} (a : Fr S g g1) (h : ∀ x ∈ S, x ∈ T) : Fr T g g1 := fun c o e n => a c o e fun z => n (h c z)
theorem Fr.new {S : List Addr} {g : G} {p : Addr} {o : DO} (h : g p = none) : Fr S g (gset g p o) := fun c u e _ => by
  rw [gset_ne (fun z => by subst z; rw [h] at e; cases e)]; exact e
theorem Fr.put {S : List Addr} {g : G} {p : Addr} {o : DO} (h : p ∈ S) : Fr S g (gset g p o) := fun c u e n => by
  rw [gset_ne (fun z => n (by subst z; exact h))]; exact e
theorem Fr.own {S : List Addr} {g g1 : G} {p : Addr} {o : DO} (a : Fr S g g1) (h : g p = none) : Fr S g (gset g1 p o) := fun c u e n => by
  rw [gset_ne (fun z => by subst z; rw [h] at e; cases e)]; exact a c u e n
theorem Fr.at {S : List Addr} {g g' : G} (f : Fr S g g') {c : Addr} {o : DO} (h : g c = some o) (n : c ∉ S) : g' c = some o := f c o h n
theorem Fr.none {S : List Addr} {g g' : G} (f : Fr S g g') {p c : Addr} {o : DO} (h : g c = some o) (hp : g p = none) : p ≠ c := fun z => by subst z; rw [h] at hp; cases hp
theorem ne_g {g : G} {p c : Addr} {o : DO} (h : g c = some o) (hp : g p = none) : c ≠ p := fun z => by subst z; rw [h] at hp; cases hp
/-- a store's object at another place -/
theorem gset_at {g : G} {p c : Addr} {o u : DO} (h : g c = some o) (hp : g p = none) : gset g p u c = some o := by rw [gset_ne (ne_g h hp)]; exact h

theorem forL_inv {chk : G → Prop} {gt : GV} {tb : SV} {D : Es} {xs : List LF.D} {ε : En} {g : G} (P : Nat → En → G → Prop) (h0 : P 0 ε g) (hc : ∀ i ε g, i ≤ xs.length → P i ε g → chk g)
    (hs : ∀ i x ε g (N : En → G → Prop), xs[i]? = some x → P i ε g → (∀ ε' g', P (i + 1) ε' g' → N ε' g') → gt x ε g fun ε' g' => tb { nx := N, rt := D.rt, ct := N, bk := D.nx } ε' g')
    (hd : ∀ ε g, P xs.length ε g → D.nx ε g) : forL chk gt tb D xs ε g := by
  have key : ∀ (n i : Nat) (ε : En) (g : G), xs.length - i = n → i ≤ xs.length → P i ε g → forL chk gt tb D (xs.drop i) ε g := by
    intro n
    induction n with
    | zero =>
      intro i ε g hn hi p
      have e : i = xs.length := by omega
      subst e
      rw [List.drop_length]
      exact ⟨hc _ ε g (Nat.le_refl _) p, hd ε g p⟩
    | succ n ih =>
      intro i ε g hn hi p
      have hlt : i < xs.length := by omega
      rw [List.drop_eq_getElem_cons hlt]
      exact ⟨hc i ε g hi p, hs i _ ε g _ (List.getElem?_eq_getElem hlt) p fun ε' g' p' => ih (i + 1) ε' g' (by omega) hlt p'⟩
  have := key _ 0 ε g rfl (Nat.zero_le _) h0
  rwa [List.drop_zero] at this
theorem while_inv {c : BV} {t : SV} {D : Es} {ε : En} {g : G} (P : Nat → En → G → Prop) {m : Nat} (h0 : P m ε g)
    (hs : ∀ m ε g (N : En → G → Prop), P m ε g → (∀ m' ε' g', m' < m → P m' ε' g' → N ε' g') → c ε g fun b g1 => if b = true then t { nx := N, rt := D.rt, ct := N, bk := D.nx } ε g1 else D.nx ε g1) : sWhile c t D ε g := by
  have key : ∀ n m ε g, m < n → P m ε g → sWh c t n D ε g := by
    intro n
    induction n with
    | zero => intro m ε g h; omega
    | succ n ih =>
      intro m ε g hm p
      exact hs m ε g _ p fun m' ε' g' hlt p' => ih m' ε' g' (by omega) p'
  exact ⟨m + 1, key (m + 1) m ε g (Nat.lt_succ_self m) h0⟩
/-- a comprehension: P tells of what is made so far -/
theorem lcL_inv {chk : G → Prop} {gt : GV} {tt : BV} {te : EV} {ε0 : En} {Q : List LF.D → G → Prop} {xs : List LF.D} {g : G} (P : Nat → List LF.D → G → Prop) (h0 : P 0 [] g) (hc : ∀ i acc g, i ≤ xs.length → P i acc g → chk g)
    (hs : ∀ i x acc g (N : List LF.D → G → Prop), xs[i]? = some x → P i acc g → (∀ acc' g', P (i + 1) acc' g' → N acc' g') →
      gt x ε0 g fun ε1 g1 => tt ε1 g1 fun b g2 => if b = true then te ε1 g2 fun y g3 => acc.length < sizeLine ∧ N (acc ++ [y]) g3 else N acc g2)
    (hd : ∀ acc g, P xs.length acc g → Q acc g) : lcL chk gt tt te ε0 Q xs [] g := by
  have key : ∀ (n i : Nat) (acc : List LF.D) (g : G), xs.length - i = n → i ≤ xs.length → P i acc g → lcL chk gt tt te ε0 Q (xs.drop i) acc g := by
    intro n
    induction n with
    | zero =>
      intro i acc g hn hi p
      have e : i = xs.length := by omega
      subst e
      rw [List.drop_length]
      exact ⟨hc _ acc g (Nat.le_refl _) p, hd acc g p⟩
    | succ n ih =>
      intro i acc g hn hi p
      have hlt : i < xs.length := by omega
      rw [List.drop_eq_getElem_cons hlt]
      exact ⟨hc i acc g hi p, hs i _ acc g (fun acc' g' => lcL chk gt tt te ε0 Q (xs.drop (i + 1)) acc' g') (List.getElem?_eq_getElem hlt) p fun acc' g' p' => ih (i + 1) acc' g' (by omega) hlt p'⟩
  have := key _ 0 [] g rfl (Nat.zero_le _) h0
  rwa [List.drop_zero] at this

structure Sm (d b : Nat) (p : PyData) : Prop where
  show_ : p.showable = true
  nod : p.hasDict = false
  short : p.leavesShort 13 = true
  dep : p.depth ≤ d
  blk : p.bulk ≤ b
structure Sms (d b : Nat) (ps : List PyData) : Prop where
  show_ : PyData.showableAll ps = true
  nod : PyData.hasDictAll ps = false
  short : PyData.leavesShortAll 13 ps = true
  dep : PyData.depthAll ps ≤ d
  blk : PyData.bulkAll ps ≤ b
theorem Sms.nil {d b : Nat} : Sms d b [] := ⟨rfl, rfl, rfl, Nat.zero_le _, Nat.zero_le _⟩
theorem Sms.cons {d b c : Nat} {p : PyData} {ps : List PyData} (h : Sm d b p) (hs : Sms d c ps) : Sms d (b + 1 + c) (p :: ps) :=
  ⟨by simp only [PyData.showableAll, h.show_, hs.show_, Bool.and_self], by simp only [PyData.hasDictAll, h.nod, hs.nod, Bool.or_self], by simp only [PyData.leavesShortAll, h.short, hs.short, Bool.and_self],
    by simp only [PyData.depthAll]; exact Nat.max_le.mpr ⟨h.dep, hs.dep⟩, by simp only [PyData.bulkAll]; have := h.blk; have := hs.blk; omega⟩
theorem Sms.all {d b : Nat} : ∀ {ps : List PyData}, (∀ p ∈ ps, Sm d b p) → Sms d ((b + 1) * ps.length) ps
  | [], _ => ⟨rfl, rfl, rfl, Nat.zero_le _, Nat.zero_le _⟩
  | p :: ps, h => by
    have := Sms.cons (h p List.mem_cons_self) (Sms.all fun q hq => h q (List.mem_cons_of_mem _ hq))
    refine ⟨this.1, this.2, this.3, this.4, Nat.le_trans this.5 ?_⟩
    rw [List.length_cons, Nat.mul_add]
    omega
theorem Sm.tup {d b : Nat} {ps : List PyData} (h : Sms d b ps) : Sm (d + 1) b (.tuple ps) :=
  ⟨by simpa only [PyData.showable] using h.1, by simpa only [PyData.hasDict] using h.2, by simpa only [PyData.leavesShort] using h.3, by simp only [PyData.depth]; have := h.4; omega, by simpa only [PyData.bulk] using h.5⟩
theorem Sm.lst {d b : Nat} {ps : List PyData} (h : Sms d b ps) : Sm (d + 1) b (.list ps) :=
  ⟨by simpa only [PyData.showable] using h.1, by simpa only [PyData.hasDict] using h.2, by simpa only [PyData.leavesShort] using h.3, by simp only [PyData.depth]; have := h.4; omega, by simpa only [PyData.bulk] using h.5⟩
theorem Sm.int {d b : Nat} {i : Int} (h : i.natAbs < 10 ^ 12) : Sm d b (.int i) := by
  refine ⟨?_, rfl, ?_, by simp only [PyData.depth]; omega, by simp only [PyData.bulk]; omega⟩
  · simp only [PyData.showable, decide_eq_true_eq]
    by_cases h0 : i.natAbs = 0
    · rw [h0]; decide
    · exact (Nat.log2_lt h0).mpr (Nat.lt_of_lt_of_le h (Nat.le_trans (show 10 ^ 12 ≤ 2 ^ 40 by decide) (Nat.pow_le_pow_right (by decide) (by decide))))
  · simp only [PyData.leavesShort, decide_eq_true_eq]
    exact PyData.shown_int_le h
theorem Sm.bl {d b : Nat} (x : Bool) : Sm d b (.bool x) := ⟨rfl, rfl, rfl, by simp only [PyData.depth]; omega, by simp only [PyData.bulk]; omega⟩
theorem Sm.non {d b : Nat} : Sm d b .none := ⟨rfl, rfl, rfl, by simp only [PyData.depth]; omega, by simp only [PyData.bulk]; omega⟩
theorem Sm.mono {d b d' b' : Nat} {p : PyData} (h : Sm d b p) (hd : d ≤ d') (hb : b ≤ b') : Sm d' b' p := ⟨h.1, h.2, h.3, Nat.le_trans h.4 hd, Nat.le_trans h.5 hb⟩
theorem repr_of {x : D} {g : G} {Q : D → G → Prop} {p : PyData} {d b : Nat} (hd : Dat g x p) (h : Sm d b p) (q : Q (.str p.shown) g) (h1 : d ≤ 60 := by decide) (h2 : b ≤ 1000000 := by decide) : rRepr [x] g Q :=
  ⟨p, hd, h.1, h.2, Nat.le_trans h.4 h1, PyData.shown_fits_bulk (by decide) (by decide) h.3 (Nat.le_trans h.5 (Nat.le_trans h2 (by decide))), q⟩
/-- data of ints -/
theorem Dats.ints {g : G} : ∀ ns : List Int, Dats g (ns.map D.int) (ns.map PyData.int)
  | [] => .nil
  | n :: ns => .cons (.int n) (Dats.ints ns)
theorem Sms.ints {d : Nat} {ns : List Int} (h : ∀ n ∈ ns, n.natAbs < 10 ^ 12) : Sms d ns.length (ns.map PyData.int) := by
  have := Sms.all (d := d) (b := 0) (ps := ns.map PyData.int) (fun p hp => by
    obtain ⟨n, hn, rfl⟩ := List.mem_map.mp hp
    exact .int (h n hn))
  simpa using this
mutual
theorem eqv_self : ∀ p : PyData, p.hasDict = false → PyData.eqv p p = true
  | .none, _ => rfl
  | .bool b, _ => by simp [PyData.eqv]
  | .int b, _ => by simp [PyData.eqv]
  | .str b, _ => by simp [PyData.eqv]
  | .list xs, h => by simp only [PyData.eqv]; exact eqvAll_self xs (by simpa only [PyData.hasDict] using h)
  | .tuple xs, h => by simp only [PyData.eqv]; exact eqvAll_self xs (by simpa only [PyData.hasDict] using h)
  | .dict _, h => by simp only [PyData.hasDict] at h; cases h
theorem eqvAll_self : ∀ ps : List PyData, PyData.hasDictAll ps = false → PyData.eqvAll ps ps = true
  | [], _ => rfl
  | p :: ps, h => by
    simp only [PyData.hasDictAll, Bool.or_eq_false_iff] at h
    simp only [PyData.eqvAll, eqv_self p h.1, eqvAll_self ps h.2, Bool.and_self]
end
end LF
namespace LF
open PySem PySem.Spec PyProof.Rows L2
variable [PP]
theorem shaped_ints (ns : List Int) : SeqAt.shaped (.list (ns.map PyData.int)) = true := by
  unfold SeqAt.shaped
  have h1 : ∀ ns : List Int, PyData.canLayAll0 (ns.map PyData.int) = true := fun ns => by
    induction ns with
    | nil => rfl
    | cons n ns ih => simp only [List.map_cons, PyData.canLayAll0, PyData.canLay0, ih, Bool.and_self]
  have h2 : ∀ ns : List Int, PyData.depthAll (ns.map PyData.int) = 0 := fun ns => by
    induction ns with
    | nil => rfl
    | cons n ns ih => simp only [List.map_cons, PyData.depthAll, PyData.depth, ih, Nat.max_self]
  simp only [PyData.canLay0, h1, PyData.depth, h2, Bool.true_and, decide_eq_true_eq]
  decide
/-- a list of ints against [] -/
theorem deq_nil {g : G} {b p : Addr} {ds : List Int} {f : Bool → Bool} {Q : D → G → Prop} (hb : g b = some (.lst (ds.map D.int))) (hp : g p = some (.lst [])) (q : Q (.bl (f ds.isEmpty)) g) : deepEq f (.ref b) (.ref p) g Q := by
  refine ⟨_, _, .lst hb (Dats.ints ds), .lst hp .nil, shaped_ints ds, shaped_ints [], ?_⟩
  cases ds with
  | nil => exact q
  | cons d ds => exact q
theorem log2_lt {i : Int} {n : Nat} (hn : 0 < n) (h : i.natAbs < 2 ^ n) : i.natAbs.log2 < n := PySem.Flt.log2_lt_of hn h
theorem mulW_of {i j : Int} (hi : i.natAbs < 2 ^ 400000) (hj : j.natAbs < 2 ^ 64) : CMulW i j := wide_mul hi hj (by decide) (by decide) (by decide)
theorem mulW_64 {i j : Int} (hi : i.natAbs < 2 ^ 64) (hj : j.natAbs < 2 ^ 64) : CMulW i j := wide_mul hi hj (by decide) (by decide) (by decide)
theorem divW_64 {i j : Int} (h0 : 0 < j) (h : j.natAbs < 2 ^ 64) : CDivW i j := wide_div h0 h (by decide) (by decide)
end LF
namespace LF
theorem map_erase {α β : Type} (f : α → β) : ∀ (l : List α) (i : Nat), (l.map f).eraseIdx i = (l.eraseIdx i).map f
  | [], _ => rfl
  | _ :: _, 0 => rfl
  | x :: l, i + 1 => congrArg (f x :: ·) (map_erase f l i)
theorem erase_perm {α : Type} : ∀ (l : List α) (i : Nat) (h : i < l.length), (l[i] :: l.eraseIdx i).Perm l
  | x :: l, 0, _ => .refl _
  | x :: l, i + 1, h => (List.Perm.swap x _ _).trans ((erase_perm l i (by simpa using h)).cons x)
end LF
namespace LF
open PySem PySem.Spec PyProof.Rows L2
variable [PP]

theorem meets_enumB {v : Value} {o : Obj} {H : Heap → Prop} (B : Begins v o H) :
    Meets (Builtin.«enumerate.__new__» ⟨[.type "enumerate", v], []⟩) (fun _ R s => H s.heap ∧
      R (.ok (.ret (.ref (s.heap.push o).objs.size))) { s with heap := (s.heap.push o).push { cls := .type "enumerate", data := .fields #[.none, .bool false, .ref s.heap.objs.size, rawInt 0, .none, .none] } }) :=
  .of_wp fun prog w A R s h => by
    obtain ⟨hp, g, d, tk, os⟩ := s
    obtain ⟨h1, h⟩ := h
    have hsub := sub_enumerate
    have q1 : ∀ {A' : Around} {E : Value → Shared → Prop} {Q : Value → Shared → Prop}, Q (.ref hp.objs.size) ⟨hp.push o, g, d, tk, os⟩ → wpAny (model prog w) A' (pyIter v) Q E ⟨hp, g, d, tk, os⟩ :=
      fun q => B.iter prog w _ _ ⟨hp, g, d, tk, os⟩ _ h1 q
    wp_walk using q1
    refine wpAny_stack_any fun st => wpAny_pure ?_
    split
    · rename_i c _ _ _ _ _
      cases (c == Value.type "enumerate")
      all_goals
        wp_walk using q1
        exact ⟨_, rfl, h⟩
    · wp_walk using q1
      exact ⟨_, rfl, h⟩
theorem enum_made {prog : Program} {w : World} {A : Around} {E : Value → Shared → Prop} {s : Shared} {v : Value} {o : Obj} {H : Heap → Prop} {Q : Value → Shared → Prop} (B : Begins v o H) (h1 : H s.heap)
    (h : ∀ h', IsEnum h' (s.heap.objs.size + 1) s.heap.objs.size 0 .none → h'.get? s.heap.objs.size = some o → h'.objs.size = s.heap.objs.size + 2 →
      (∀ b o, s.heap.get? b = some o → h'.get? b = some o) → Q (.ref (s.heap.objs.size + 1)) { s with heap := h' }) :
    wpAny (model prog w) A (call (.type "enumerate") [v]) Q E s := by
  refine callType_new F.called_enumerate (by decide) (F.typeCall_enumerate_1 _) (F.newCall_enumerate_1 _) (fun obj => F.args_object_init_2 obj _) F.entry_enumerate_new (meets_enumB B) ⟨h1, ?_⟩
  have hz : (s.heap.push o).objs.size = s.heap.objs.size + 1 := Heap.size_push ..
  show _ ∧ _
  rw [hz]
  have he := Heap.get?_push_size (s.heap.push o) (o := { cls := .type "enumerate", data := .fields #[.none, .bool false, .ref s.heap.objs.size, rawInt 0, .none, .none] }) rfl
  rw [hz] at he
  exact ⟨⟨_, he, rfl⟩, h _ he (Heap.get?_push_of_some _ (Heap.get?_push_size _ B.free)) (by rw [Heap.size_push, hz]) fun b o x => Heap.get?_push_of_some _ (Heap.get?_push_of_some _ x)⟩
/-- the tuple at a, each item in a new pair -/
def IteT (K : PySem.W.Frag) (a : Addr) : It :=
  ⟨fun i H => ∃ (xs : List V) (x : V), SqT K H a xs ∧ xs[i]? = some x, fun i H v H' => ∃ T x, v = .ref T ∧ H T = none ∧ H' = upd H T (.tup [.int (i : Nat), x]) ∧ ∀ xs, SqT K H a xs → xs[i]? = some x, fun i H => ∃ xs : List V, SqT K H a xs ∧ xs.length ≤ i⟩
theorem it_ne {h : Heap} {it a : Addr} {i : Nat} {its : Array Value} (h1 : h.IsTupleIter it a i) (h2 : h.IsTuple a its) : a ≠ it := fun z => by
  obtain ⟨o, e, c, _⟩ := h1
  obtain ⟨o', e', c', _⟩ := h2
  subst z
  rw [e] at e'; cases e'
  rw [c] at c'
  exact absurd (Value.type.inj c') (by decide)
theorem turn_enumT {P : Program} {w : World} {K : PySem.W.Frag} {elts : List Expr} {kk : Nat} {tpos : Pos} (a e it : Addr) :
    Turn P w K (.Tuple elts kk tpos) (IteT K a) [e, it] e (fun i h => (∃ old, IsEnum h e it ((i : Nat) : Int) old) ∧ h.IsTupleIter it a i ∧ e ≠ it) where
  mem := by simp
  obj := fun i h st b hb => by
    obtain ⟨⟨old, he⟩, ⟨o, ho, hc, hd⟩, _⟩ := st
    rcases (show b = e ∨ b = it by simpa using hb) with z | z
    · rw [z]; exact ⟨_, he, fun v q => nomatch q⟩
    · rw [z]; exact ⟨o, ho, fun v q => by rw [hd] at q; cases q⟩
  keep := fun i h h' st k => let ⟨⟨old, he⟩, hi, hne⟩ := st; ⟨⟨old, k e (by simp) _ he⟩, hi.at fun o q => k it (by simp) o q, hne⟩
  item := by
    intro X hP hw hK hc i pins s σ H E I hf st hg
    subst hP hw hK
    obtain ⟨⟨old, he⟩, hit, hne⟩ := st
    obtain ⟨xs, x, hq, hx⟩ := hg
    obtain ⟨its, rv, p, hz⟩ := I.tuple hq
    have p' : s.heap.IsTuple a its.toArray := p
    obtain ⟨u, hu, ru⟩ := rv.get hx
    have hel : e < s.heap.objs.size := Heap.lt_size he
    have hai := it_ne hit p'
    have hea : e ≠ a := fun z => by
      obtain ⟨o', e', c', _⟩ := p'
      subst z
      have he' : s.heap.get? e = some _ := he
      rw [he'] at e'; cases e'
      exact absurd (Value.type.inj c') (by decide)
    have Dr := Draws.tuple (prog := X.prog) (w := X.w) (A := X.A.in1) (I.ok.hd hc) it a hai its.toArray
    refine wpAny_pyNext_enum_itemD Dr he ⟨hit, p'⟩ (by simpa using (List.getElem?_eq_some_iff.mp hu).1) hne (by simp [hne, hea]) fun y h' tk hy ho hst hT hsz hk => ?_
    have ey : u = y := by
      have : its.toArray[i]? = some y := hy
      rw [List.getElem?_toArray, hu] at this
      exact Option.some.inj this
    subst ey
    refine ⟨_, rfl, wpAny_letOwnedTupleGo_enum (s := { s with heap := h', toks := tk + 1 }) ho fun h'' he' sb => ?_⟩
    have hT2 : h''.get? s.heap.objs.size = some { cls := .type "tuple", data := .seq #[.int i tk, u] } := (sb.2 _ (Nat.ne_of_gt hel)).trans hT
    have new : ObjOk X.prog X.w (upd H s.heap.objs.size (.tup [.int (i : Nat), x])) h'' s.heap.objs.size (.tup [.int (i : Nat), x]) :=
      ⟨by show 2 ≤ sizeLine; decide, [.int i tk, u], .cons ⟨_, rfl⟩ (.cons ru .nil), ⟨_, hT2, rfl, _, rfl⟩⟩
    have I1 : Inv X pins σ (upd H s.heap.objs.size (.tup [.int (i : Nat), x])) { s with heap := h'', toks := tk + 1 } :=
      I.turnedNew (ch := [e, it]) (fun b ob hb q => (sb.2 b (fun z => hb (by simp [z]))).trans (hk b ob (fun z => hb (by simp [z])) (fun z => hb (by simp [z])) q)) hf (Nat.le_refl _) new
    refine ⟨.ref s.heap.objs.size, _, I1, rfl, ⟨_, x, rfl, I.hok.fresh (Nat.le_refl _), rfl, fun ys hy => by rw [I.tuple_inj hy hq]; exact hx⟩, ⟨⟨u, ?_⟩, hst.1.at fun o q => (sb.2 it (Ne.symm hne)).trans q, hne⟩, fun b hb => ?_⟩
    · rw [show ((i + 1 : Nat) : Int) = (i : Int) + 1 by omega]; exact he'
    · have hil : it < s.heap.objs.size := by obtain ⟨_, q, _⟩ := hit; exact Heap.lt_size q
      have hb' : b < s.heap.objs.size := by
        rcases (show b = e ∨ b = it by simpa using hb) with z | z
        · exact z ▸ hel
        · exact z ▸ hil
      rw [upd_ne (Nat.ne_of_lt hb')]
      exact (hf b hb).1
  done := by
    intro X hP hw hK hc i pins s σ H E I hf st hg
    subst hP hw hK
    obtain ⟨⟨old, he⟩, hit, hne⟩ := st
    obtain ⟨xs, hq, hx⟩ := hg
    obtain ⟨its, rv, p, hz⟩ := I.tuple hq
    have p' : s.heap.IsTuple a its.toArray := p
    obtain ⟨f0, f1, f2, f3, f4, f5⟩ := hf it (by simp)
    have hl := rv.length
    have hd : X.A.in1.handled = none := I.ok.hd hc
    have hT : s.TypeIs (.ref e) "enumerate" := ⟨_, he, rfl⟩
    unfold pyNext
    refine wpAny_bind (wpAny_attempt (wpAny_callSpecial?_slot (name := Str.ofString "__next__") hT F.slot_enumerate_next
      (wpAny_call_entry F.slot_enumerate_next hT F.entry_enumerate_next ?_ (F.args_enumerate_next_1 _))))
    show wpAny _ _ (field (.ref e) 2 >>= _) _ _ _
    refine wpAny_bind (wpAny_field he rfl (x := .ref it) rfl ?_)
    refine wpAny_bind (wpAny_nextOf_tuple_end hd hit p' (by simp; omega) fun h' x he' hx' => ?_)
    obtain ⟨o, ho, hcl⟩ := hx'
    refine wpAny_bind (wpAny_isInstance (T := "StopIteration") (b := true) ⟨o, ho, hcl⟩ isSubtype_stop ?_)
    exact wpAny_pure ⟨rfl, I.turned (t' := s.toks) (fun b o hb q => he' b o hb q) f0 f1 f3 f4 f5⟩
  self := fun A i s Q E st h => let ⟨⟨_, he⟩, _⟩ := st; wpAny_pyIter_enum he h
section
variable {X : Cx} {pos : Pos}
/-- enumerate of a list or a tuple -/
def iEnum (t : AV) : IV := fun ε g R => t ε g fun ds g1 => match ds with
  | [x] => ∃ xs, itemsOf x g1 xs ∧ R (enumD 0 xs) (stays x xs) g1
  | _ => False
theorem itok_enumF {K : PySem.W.Frag} {g0 : G} {H0 : Hp} {a : Addr} {xs : List LF.D} {chk : G → Prop} (h : ∀ g H, RG K g H → Keep g0 H0 g H → chk g → ∃ vs, SqL K H a vs ∧ RVs K H xs vs) : ItOk K g0 H0 (enumD 0 xs) chk (Ite K a) := fun g H rg k c => by
  obtain ⟨vs, h1, h2⟩ := h g H rg k c
  rw [enumD_length]
  refine ⟨⟨vs, h1, Nat.le_of_eq h2.length.symm⟩, fun i hi => ?_⟩
  obtain ⟨v, e, rv⟩ := h2.get (List.getElem?_eq_getElem hi)
  refine ⟨⟨vs, v, h1, e⟩, fun x H' ⟨T, y, e1, e2, e3, e4⟩ => ?_⟩
  subst e1 e3
  have e5 := e4 vs h1
  rw [e] at e5; cases e5
  refine ⟨_, enumD_get 0 xs i _ (List.getElem?_eq_getElem hi), ?_, rg.tupNew e2, keep_new e2 _⟩
  refine .tup (.inl upd_same) ?_
  rw [Nat.zero_add]
  exact .cons (.int _) (.cons (rv.keep rg (keep_new e2 _)) .nil)
theorem itok_enumT {K : PySem.W.Frag} {g0 : G} {H0 : Hp} {a : Addr} {xs : List LF.D} {chk : G → Prop} (h : ∀ g H, RG K g H → Keep g0 H0 g H → chk g → ∃ vs, SqT K H a vs ∧ RVs K H xs vs) : ItOk K g0 H0 (enumD 0 xs) chk (IteT K a) := fun g H rg k c => by
  obtain ⟨vs, h1, h2⟩ := h g H rg k c
  rw [enumD_length]
  refine ⟨⟨vs, h1, Nat.le_of_eq h2.length.symm⟩, fun i hi => ?_⟩
  obtain ⟨v, e, rv⟩ := h2.get (List.getElem?_eq_getElem hi)
  refine ⟨⟨vs, v, h1, e⟩, fun x H' ⟨T, y, e1, e2, e3, e4⟩ => ?_⟩
  subst e1 e3
  have e5 := e4 vs h1
  rw [e] at e5; cases e5
  refine ⟨_, enumD_get 0 xs i _ (List.getElem?_eq_getElem hi), ?_, rg.tupNew e2, keep_new e2 _⟩
  refine .tup (.inl upd_same) ?_
  rw [Nat.zero_add]
  exact .cons (.int _) (.cons (rv.keep rg (keep_new e2 _)) .nil)
theorem i_enum {el : Expr} {ta : AV} {p tpos : Pos} {elts : List Expr} {kt : Nat} (hg : Gl X "enumerate") (hm : X.mg "enumerate" = none) (ha : DA X [el] ta) (hs : starEach [el] X.env = [(false, eval el X.env)] := by rfl) :
    DI X (.Tuple elts kt tpos) (.Call (.Name "enumerate" p) [el] [] pos) (iEnum ta) := by
  refine ⟨fun pins s σ H R I ⟨ε, g, R0, rs, rg, q, k⟩ => ?_⟩
  have hq : lA X.K ta σ H (fun vs H1 => ∃ x v g1 xs, vs = [v] ∧ RV X.K H1 x v ∧ RG X.K g1 H1 ∧ itemsOf x g1 xs ∧ ∀ J, ItOk X.K g1 H1 (enumD 0 xs) (stays x xs) J → R J H1) :=
    ⟨ε, g, _, rs, rg, q, fun ds g1 vs H1 q1 rv rg1 k1 => by
      split at q1
      · obtain ⟨v, rfl, rw1⟩ := one_rv rv
        obtain ⟨xs, hi, q1⟩ := q1
        exact ⟨_, v, g1, xs, rfl, rw1, rg1, hi, fun J hJ => k _ _ _ _ J q1 rg1 k1 hJ⟩
      · exact q1.elim⟩
  refine Call_ (ld_blt I hg hm boot_enumerate (PyProof.Rows.callWith_type1 (thn (ha.run pos pins s σ H _ I hq) fun us s1 ⟨vs, H1, I1, r1, x, v, g1, xs, ev, rv, rg1, hi, kk⟩ => ?_) hs rfl))
  subst ev
  obtain ⟨u, rfl, ru⟩ := vals1 r1
  have fps : ∀ b, b ∈ [s1.heap.objs.size + 1, s1.heap.objs.size] → FpOk X pins H1 b := fun b hb => by
    have hle : s1.heap.objs.size ≤ b := by
      rcases (show b = s1.heap.objs.size + 1 ∨ b = s1.heap.objs.size by simpa using hb) with z | z
      · rw [z]; exact Nat.le_add_right _ _
      · rw [z]; exact Nat.le_refl _
    exact I1.fpOk hle (I1.hok.fresh hle)
  have lst : ∀ a ws, u = .ref a → SqL X.K H1 a ws → R (Ite X.K a) H1 → wpAny (model X.prog X.w) X.A (call (.type "enumerate") [u]) (fun v s1 => wpAny (model X.prog X.w) X.A (pyIter v) (PIE X pins σ (.Tuple elts kt tpos) R) X.xe s1) X.xe s1 := fun a ws eu hs' q => by
    subst eu
    obtain ⟨its, r, pl, hz⟩ := I1.list hs'
    refine enum_made (begins_list a its.toArray) pl.isList fun h' he ho hsz hk => wpAny_pyIter_enum he ?_
    exact ⟨s1.heap.objs.size + 1, [s1.heap.objs.size + 1, s1.heap.objs.size], _, _, H1, rfl, I1.kept (t' := s1.toks) hk, turn_enum a _ _, ⟨⟨.none, he⟩, ⟨_, ho, rfl, rfl⟩, Nat.succ_ne_self _⟩, fps, q⟩
  cases rv <;> first | exact hi.elim | skip
  · rename_i a vs ds h1 h2
    have e : xs = ds := hi
    subst e
    cases ru
    obtain ⟨its, r, pl, hz⟩ := I1.tuple h1.seq
    refine enum_made (begins_tuple a its.toArray) (show s1.heap.IsTuple a its.toArray from pl) fun h' he ho hsz hk => wpAny_pyIter_enum he ?_
    exact ⟨s1.heap.objs.size + 1, [s1.heap.objs.size + 1, s1.heap.objs.size], _, _, H1, rfl, I1.kept (t' := s1.toks) hk, turn_enumT a _ _, ⟨⟨.none, he⟩, ⟨_, ho, rfl, rfl⟩, Nat.succ_ne_self _⟩, fps, kk _ (itok_enumT fun g H rg kp _ => ⟨vs, (h1.keep rg1 kp).seq, h2.keep rg1 kp⟩)⟩
  · rename_i a
    cases ru
    obtain ⟨vs, e1, r1⟩ := rg1.st a _ hi
    refine lst a vs rfl (.of e1) (kk _ (itok_enumF fun g H rg kp c => ?_))
    obtain ⟨ws, e2, r2⟩ := rg.st a _ c
    exact ⟨ws, .of e2, r2⟩
  · rename_i a vs ds h1 h2
    have e : xs = ds := hi
    subst e
    cases ru
    exact lst a vs rfl h1.seq (kk _ (itok_enumF fun g H rg kp c => ⟨vs, (h1.keep rg1 kp).seq, h2.keep rg1 kp⟩))

def rIns : RM := fun o xs g Q => match o, xs with
  | .ref a, [.int i, y] => ∃ ds, g a = some (.lst ds) ∧ ds.length < sizeLine ∧ 0 ≤ i ∧ i < 2 ^ 63 ∧ Q .non (gset g a (.lst (ds.take i.toNat ++ [y] ++ ds.drop i.toNat)))
  | _, _ => False
theorem md_insert : MtD X "list.insert" rIns := by
  intro pins s σ H x xs v us Q I rx r ⟨g, dx, ds, Q0, rg, rv, rvs, q, k⟩
  unfold rIns at q
  split at q
  · rename_i a i y
    obtain ⟨w1, w2, rfl, ri, ry⟩ := two_rv rvs
    cases ri
    cases rv
    obtain ⟨zs, e, hl, h0, h1, q⟩ := q
    obtain ⟨vs, e1, r1⟩ := rg.st a _ e
    have kp := keep_put (H := H) e (.lst (zs.take i.toNat ++ [y] ++ zs.drop i.toNat)) (.lst (vs.take i.toNat ++ [w2] ++ vs.drop i.toNat))
    exact mt_insert pins s σ H _ _ v us Q I rx r ⟨a, vs, i, w2, rfl, rfl, e1, by rw [← r1.length]; exact hl, h0, h1, k _ _ _ _ q .non (rg.lay kp (((r1.take _).append (.cons ry .nil)).append (r1.drop _))) kp⟩
  · exact q.elim
def rExt : RM := fun o xs g Q => match o, xs with
  | .ref a, [.ref b] => ∃ ds es, g a = some (.lst ds) ∧ g b = some (.lst es) ∧ ds.length + es.length ≤ sizeLine ∧ Q .non (gset g a (.lst (ds ++ es)))
  | _, _ => False
theorem md_extend : MtD X "list.extend" rExt := by
  intro pins s σ H x xs v us Q I rx r ⟨g, dx, ds, Q0, rg, rv, rvs, q, k⟩
  unfold rExt at q
  split at q
  · rename_i a b
    obtain ⟨w, rfl, ry⟩ := one_rv rvs
    cases ry
    cases rv
    obtain ⟨zs, es, e, e', hl, q⟩ := q
    obtain ⟨vs, e1, r1⟩ := rg.st a _ e
    obtain ⟨ws, e2, r2⟩ := rg.st b _ e'
    have kp := keep_put (H := H) e (.lst (zs ++ es)) (.lst (vs ++ ws))
    exact mt_extend pins s σ H _ _ v us Q I rx r ⟨a, b, vs, ws, rfl, rfl, e1, e2, by rw [← r1.length, ← r2.length]; exact hl, k _ _ _ _ q .non (rg.lay kp (r1.append r2)) kp⟩
  · exact q.elim

inductive Ty where
  | int | bool | str | tup | lst
def Ty.nm : Ty → String
  | .int => "int" | .bool => "bool" | .str => "str" | .tup => "tuple" | .lst => "list"
def isiD : Ty → D → G → Bool
  | .int, .int _, _ => true
  | .int, .bl _, _ => true
  | .bool, .bl _, _ => true
  | .str, .str _, _ => true
  | .tup, .tup _, _ => true
  | .tup, .tua _, _ => true
  | .lst, .rol _ _, _ => true
  | .lst, .ref a, g => match g a with
    | some (.lst _) => true
    | _ => false
  | _, _, _ => false
def isiOk (x : D) (g : G) : Prop := match x with
  | .exv _ _ _ => False
  | .ref a => ∃ o, g a = some o
  | _ => True
def eIsi (T : Ty) (t : EV) : EV := fun ε g Q => t ε g fun x g1 => isiOk x g1 ∧ Q (.bl (isiD T x g1)) g1
theorem tyx_tup {K : PySem.W.Frag} {H : Hp} {a : Addr} {vs : List V} (h : Tpl K H a vs) : TyX K H (.ref a) (.type "tuple") := by
  rcases h with h | ⟨o, h⟩ | h
  · exact .base (.tup h)
  · exact .fTuple h
  · rcases h (fun _ => none) with h | ⟨o, its, n, e, c, _⟩
    · rcases h with h | ⟨o, h⟩ <;> cases h
    · exact .kTuple e c
theorem tyx_lst {K : PySem.W.Frag} {H : Hp} {a : Addr} {vs : List V} (h : Frz K H a vs) : TyX K H (.ref a) (.type "list") := by
  rcases h with ⟨o, h⟩ | h
  · exact .base (.frz h)
  · rcases h (fun _ => none) with h | ⟨o, its, n, e, c, _⟩
    · rcases h with h | ⟨o, h⟩ <;> cases h
    · exact .kList e c
theorem isi_rv {K : PySem.W.Frag} {g : G} {H : Hp} {x : D} {v : V} {T : Ty} (rg : RG K g H) (h : isiOk x g) (r : RV K H x v) : ∃ t, TyX K H v t ∧ PySem.W.kitOne K t (.type T.nm) = some (isiD T x g) := by
  have kt : ∀ (n : String) (b : Bool), kitB n T.nm = some b → isiD T x g = b → PySem.W.kitOne K (.type n) (.type T.nm) = some (isiD T x g) := fun n b h e => by rw [e]; exact kit_ty h
  have t1 : ∀ T : Ty, kitB "NoneType" T.nm = some false := fun T => by cases T <;> decide +kernel
  have t2 : ∀ T : Ty, kitB "bool" T.nm = some (match T with | .int => true | .bool => true | _ => false) := fun T => by cases T <;> decide +kernel
  have t3 : ∀ T : Ty, kitB "int" T.nm = some (match T with | .int => true | _ => false) := fun T => by cases T <;> decide +kernel
  have t4 : ∀ T : Ty, kitB "str" T.nm = some (match T with | .str => true | _ => false) := fun T => by cases T <;> decide +kernel
  have t5 : ∀ T : Ty, kitB "tuple" T.nm = some (match T with | .tup => true | _ => false) := fun T => by cases T <;> decide +kernel
  have t6 : ∀ T : Ty, kitB "list" T.nm = some (match T with | .lst => true | _ => false) := fun T => by cases T <;> decide +kernel
  cases r with
  | non => exact ⟨_, .base .non, kt _ _ (t1 T) (by cases T <;> rfl)⟩
  | bl b => exact ⟨_, .base (.bl b), kt _ _ (t2 T) (by cases T <;> rfl)⟩
  | int i => exact ⟨_, .base (.int i), kt _ _ (t3 T) (by cases T <;> rfl)⟩
  | str y => exact ⟨_, .base (.str y), kt _ _ (t4 T) (by cases T <;> rfl)⟩
  | tup h1 h2 => exact ⟨_, tyx_tup h1, kt _ _ (t5 T) (by cases T <;> rfl)⟩
  | rol h1 h2 => exact ⟨_, tyx_lst h1, kt _ _ (t6 T) (by cases T <;> rfl)⟩
  | tua h1 h2 => exact ⟨_, tyx_tup h1.tpl, kt _ _ (t5 T) (by cases T <;> rfl)⟩
  | exv h1 h2 => exact h.elim
  | ref a =>
    obtain ⟨o, e⟩ := h
    have ro := rg.st a o e
    cases o with
    | lst ds =>
      obtain ⟨vs, e1, _⟩ := ro
      refine ⟨_, .base (.lst e1), ?_⟩
      cases T
      case lst => exact kt _ true (by decide +kernel) (by show (match g a with | some (.lst _) => true | _ => false) = true; rw [e])
      all_goals exact kt _ false (by decide +kernel) rfl
    | dct ds =>
      obtain ⟨vs, e1, _⟩ := ro
      refine ⟨_, .base (.dK e1), ?_⟩
      cases T
      case lst => exact kt _ false (by decide +kernel) (by show (match g a with | some (.lst _) => true | _ => false) = false; rw [e])
      all_goals exact kt _ false (by decide +kernel) rfl
    | dtt ds =>
      obtain ⟨vs, e1, _⟩ := ro
      refine ⟨_, .base (.dT e1), ?_⟩
      cases T
      case lst => exact kt _ false (by decide +kernel) (by show (match g a with | some (.lst _) => true | _ => false) = false; rw [e])
      all_goals exact kt _ false (by decide +kernel) rfl
    | ins c fl ds =>
      obtain ⟨C, dx, vs, e1, cf, _, _⟩ := ro
      have kb : isiD T (.ref a) g = false := by
        cases T
        case lst => show (match g a with | some (.lst _) => true | _ => false) = false; rw [e]
        all_goals rfl
      refine ⟨_, .base (.ins e1 cf.cl cf.ha cf.hn cf.htk cf.hm), ?_⟩
      rw [kb]
      cases T
      · exact cf.kt.1
      · exact cf.kt.2.1
      · exact cf.kt.2.2.1
      · exact cf.kt.2.2.2.1
      · exact cf.kt.2.2.2.2
theorem d_isi {a : Expr} {t : EV} {T : Ty} {n : Str} {p p2 : Pos} (hg : Gl X "isinstance") (hm : X.mg "isinstance" = none) (hg2 : Gl X n) (hm2 : X.mg n = none) (hv : bootBuiltins n = some (.type T.nm)) (ha : DE X a t)
    (hn : n ≠ "__name__" := by decide +kernel) (hd : (n == ("__debug__" : Str)) = false := by decide +kernel)
    (he : starEach [a, .Name n p2] X.env = (false, eval a X.env) :: starEach [.Name n p2] X.env := by rfl) (he2 : starEach [.Name n p2] X.env = (false, eval (.Name n p2) X.env) :: starEach [] X.env := by rfl) (hpl : (backTo pos (starEach [.Name n p2] X.env)).any (·.1) = false := by rfl) :
    DE X (.Call (.Name "isinstance" p) [a, .Name n p2] [] pos) (eIsi T t) :=
  PE.imp (pe_callB call_isi hg hm (by decide +kernel) (pa_cons ha (pa_cons (pe_bltn (v := .ty T.nm) hg2 hm2 hv rfl hn hd) pa_nil he2) he) (by decide +kernel) (by decide +kernel) he hpl) fun σ H Q ⟨ε, g, Q0, rs, rg, q, k⟩ =>
    ⟨ε, g, _, rs, rg, q, fun d g1 v H1 q1 rv rg1 k1 => by
      obtain ⟨ty, h1, h2⟩ := isi_rv (T := T) rg1 q1.1 rv
      exact ⟨_, _, _, _, _, rfl, .ty _, h1, h2, k _ _ _ _ q1.2 (.bl _) rg1 k1⟩⟩


theorem fold_max : ∀ (xs : List Int) (x : Int), (PySem.W.DatumOrd.lt (α := Int) = fun a b => decide (a < b)) → PySem.W.maxOf x xs ∈ x :: xs ∧ ∀ y ∈ x :: xs, y ≤ PySem.W.maxOf x xs
  | [], x, _ => ⟨List.mem_singleton.mpr rfl, fun y hy => by rw [List.mem_singleton.mp hy]; exact Int.le_refl _⟩
  | z :: zs, x, e => by
    have ih := fold_max zs (if PySem.W.DatumOrd.lt x z = true then z else x) e
    have e2 : PySem.W.maxOf x (z :: zs) = PySem.W.maxOf (if PySem.W.DatumOrd.lt x z = true then z else x) zs := rfl
    rw [e2]
    refine ⟨?_, fun y hy => ?_⟩
    · rcases List.mem_cons.mp ih.1 with h | h
      · rw [h]; split
        · exact List.mem_cons_of_mem _ (List.mem_cons_self ..)
        · exact List.mem_cons_self ..
      · exact List.mem_cons_of_mem _ (List.mem_cons_of_mem _ h)
    · have h0 := ih.2 _ (List.mem_cons_self ..)
      have hz : x ≤ (if PySem.W.DatumOrd.lt x z = true then z else x) ∧ z ≤ (if PySem.W.DatumOrd.lt x z = true then z else x) := by
        rw [e]; simp only [decide_eq_true_eq]; split <;> omega
      rcases List.mem_cons.mp hy with h | h
      · subst h; omega
      · rcases List.mem_cons.mp h with h | h
        · subst h; omega
        · exact ih.2 y (List.mem_cons_of_mem _ h)
def rMaxA : RL := fun xs g Q => match xs with
  | [x] => ∃ ns : List Int, itemsOf x g (ns.map D.int) ∧ 0 < ns.length ∧ ∀ m, m ∈ ns → (∀ y, y ∈ ns → y ≤ m) → Q (.int m) g
  | _ => False
theorem cd_maxA (hc : X.calm = true) (hu : X.A.units + 64 < cLine) : CallD X (.builtin "max") rMaxA := by
  intro pins s σ H vs us Q I r ⟨g, ds, Q0, rg, rv, q, k⟩
  unfold rMaxA at q
  split at q
  · rename_i x
    obtain ⟨v, rfl, a⟩ := one_rv rv
    obtain ⟨ns, hi, hl, q⟩ := q
    obtain ⟨p, ws, rfl, hs, rw'⟩ := hi.rv rg a
    have e := rw'.ints
    subst e
    rcases hs with hs | hs
    · exact cr_max hc pins s σ H _ us Q I r ⟨p, ns, rfl, hs, hl, fun m h1 h2 => k _ g _ H (q m h1 h2) (.int _) rg (Keep.refl _ _)⟩
    · obtain ⟨its, rr, pl, _⟩ := I.tuple hs
      rw [Vals.ref1 r]
      cases ns with
      | nil => cases hl
      | cons n ns =>
        have hh := PySem.W.HoldAll.of_ints (h := s.heap) rr.ints
        have hd0 : PySem.W.Datum.depth Int ≤ 60 := by decide
        have hdp : X.A.units + 1 + PySem.W.Datum.depth Int < cLine := by omega
        refine PySem.W.max_tuple_datum (vs := its.toArray) (I.ok.hd hc) pl hh hdp fun i v h' tk _ hv kp => ?_
        obtain ⟨t, e⟩ : ∃ t, v = .int (PySem.W.maxOf n ns) t := by
          have := PySem.W.HoldAll.toInts (PySem.W.HoldAll.cons hv (PySem.W.HoldAll.nil (h := h')))
          cases this with
          | cons _ t _ => exact ⟨t, rfl⟩
        have fm := fold_max ns n rfl
        exact ⟨.int _, H, I.kept kp, ⟨t, e⟩, k _ g _ H (q _ fm.1 fm.2) (.int _) rg (Keep.refl _ _)⟩
  · exact q.elim
end
end LF
namespace LF
open PySem PySem.Spec PyProof.Rows L2
variable [PP]
/-- a module's constant, a text -/
theorem d_gstr {X : Cx} {x : Str} {i : Str} {t : Tok} {pos : Pos} (hg : Gl X x) (hm : X.mg x = some (.str i t)) (hd : (x == ("__debug__" : Str)) = false := by decide +kernel) : DE X (.Name x pos) (eC (.str i)) :=
  PE.imp (pe_glob (v := .str i) hg hm ⟨t, rfl⟩ hd) fun σ H Q ⟨ε, g, Q0, hs, hg, q, k⟩ => k _ g _ H q (.str _) hg (Keep.refl _ _)
end LF
namespace LF
open PySem PySem.Spec PyProof.Rows L2
variable [PP]

theorem tuple_mul1 (l : Addr) (items : Array Value) (n : Nat) (dd : Option Addr) (sl : Array (Option Value)) (x : Int) (u : Tok) (c0 : (decide (x < -(2 ^ 63)) || decide (x ≥ 2 ^ 63)) = false) (c1 : (items.isEmpty || x == 1) = true) :
    Meets (Builtin.«tuple.__mul__» ⟨[.ref l, .int x u], []⟩) (fun _ R s => s.heap.get? l = some { cls := .type "tuple", dict := dd, data := .seq items n, slots := sl } ∧
      R (.ok (.ret (Value.ref l))) s) :=
  .of_wp fun prog w A R s h => by
    obtain ⟨hp, g, d, tk, os⟩ := s
    obtain ⟨hl, h⟩ := h
    have f1 := AutoSeq1.idx_int
    wp_walk using wpAny_loadPart' hl
    repeat (first
      | (refine wpAny_ite_false (decide_eq_false (by rw [c0]; exact Bool.false_ne_true)) ?_; wp_walk using wpAny_loadPart' hl)
      | (refine wpAny_ite_true (decide_eq_true (by rw [c1])) ?_; wp_walk using wpAny_loadPart' hl))
    exact ⟨_, rfl, h⟩
theorem tuple_mul0 (l : Addr) (items : Array Value) (n : Nat) (dd : Option Addr) (sl : Array (Option Value)) (x : Int) (u : Tok) (c0 : (decide (x < -(2 ^ 63)) || decide (x ≥ 2 ^ 63)) = false) (c1 : (items.isEmpty || x == 1) = false) (c2 : (decide (x ≤ 0) || items.isEmpty) = true) :
    Meets (Builtin.«tuple.__mul__» ⟨[.ref l, .int x u], []⟩) (fun _ R s => s.heap.get? l = some { cls := .type "tuple", dict := dd, data := .seq items n, slots := sl } ∧
      R (.ok (.ret (Value.ref s.heap.objs.size))) { s with heap := s.heap.push { cls := Value.type "tuple", data := Data.seq #[] }, toks := s.toks }) :=
  .of_wp fun prog w A R s h => by
    obtain ⟨hp, g, d, tk, os⟩ := s
    obtain ⟨hl, h⟩ := h
    have f1 := AutoSeq1.idx_int
    wp_walk using wpAny_loadPart' hl
    repeat (first
      | (refine wpAny_ite_false (decide_eq_false (by rw [c0]; exact Bool.false_ne_true)) ?_; wp_walk using wpAny_loadPart' hl)
      | (refine wpAny_ite_false (decide_eq_false (by rw [c1]; exact Bool.false_ne_true)) ?_; wp_walk using wpAny_loadPart' hl)
      | (refine wpAny_ite_true (decide_eq_true (by rw [c2])) ?_; wp_walk using wpAny_loadPart' hl))
    exact ⟨_, rfl, h⟩

section
variable {X : Cx}
def rTupMul (K : PySem.W.Frag) : R2 := fun x y H Q => ∃ l k xs, x = .ref l ∧ y = .int k ∧ SqT K H l xs ∧ -1000 ≤ k ∧ k ≤ 1000 ∧ xs.length ≤ 1000 ∧ ((k = 1 ∨ xs = []) → Q (.ref l) H) ∧ (¬ (k = 1 ∨ xs = []) → ∀ p, H p = none → Q (.ref p) (upd H p (.tup (List.replicate k.toNat xs).flatten)))
theorem op_tupMul : OpR X (binaryOp .Mult) (rTupMul X.K) := by
  intro pins s σ H x y v u Q I rx ry h
  obtain ⟨l, k, xs, rfl, rfl, hT, h0, h2, hz, q1, q2⟩ := h
  by_cases e2 : 2 ≤ k ∧ xs ≠ []
  · exact op_repT pins s σ H _ _ v u Q I rx ry ⟨l, k, xs, rfl, rfl, hT, e2.2, e2.1, h2, hz, q2 (fun z => z.elim (fun y => by omega) e2.2)⟩
  cases rx
  obtain ⟨t, rfl⟩ := ry
  obtain ⟨its, r, ⟨⟨cls, dd, data, sl⟩, ho, hc, n, hd⟩, hs⟩ := I.tuple hT
  simp only at hc hd
  subst hc hd
  have hle : its.length = xs.length := r.length.symm
  have c0 : (decide (k < -(2 ^ 63)) || decide (k ≥ 2 ^ 63)) = false := by
    rw [decide_eq_false (by omega), decide_eq_false (by omega)] <;> rfl
  by_cases e1 : k = 1 ∨ xs = []
  · have c1 : (its.toArray.isEmpty || k == 1) = true := by
      rcases e1 with z | z
      · subst z; simp
      · have : its = [] := List.eq_nil_of_length_eq_zero (by rw [hle, z]; rfl)
        subst this; rfl
    refine wpAny_binaryOp_repeat_ref (T := "tuple") (U := "int") (by decide) ⟨_, ho, rfl⟩ (fun s' => typeIs_int s' k t) noFill_tuple_mul F.fills_int_mul F.slot_int_rmul repeat_tuple F.slot_int_index.lookup
      (call_meets F.slot_int_rmul (typeIs_int s k t) F.entry_int_rmul (F.args_int_rmul_2 _ _) (int_rmul_tuple k t l its.toArray n dd sl)
        ⟨ho, rfl, ⟨_, ho, rfl⟩, call_meets F.slot_tuple_mul ⟨_, ho, rfl⟩ F.entry_tuple_mul (F.args_tuple_mul_2 _ _) (tuple_mul1 l its.toArray n dd sl k t c0 c1) ⟨ho, ?_⟩⟩)
    exact ⟨.ref l, H, I, rfl, q1 e1⟩
  · have hk : k ≤ 0 := by
      by_cases z : k ≤ 0
      · exact z
      · exact absurd ⟨by have : k ≠ 1 := fun y => e1 (.inl y); omega, fun y => e1 (.inr y)⟩ e2
    have hn : its ≠ [] := fun e => e1 (.inr (by
      rw [e] at hle
      exact List.eq_nil_of_length_eq_zero hle.symm))
    have hi : its.toArray.isEmpty = false := by
      cases its with
      | nil => exact absurd rfl hn
      | cons a b => rfl
    have c1 : (its.toArray.isEmpty || k == 1) = false := by
      rw [hi, Bool.false_or]
      exact beq_eq_false_iff_ne.mpr (by omega)
    have c2 : (decide (k ≤ 0) || its.toArray.isEmpty) = true := by
      rw [decide_eq_true hk]; rfl
    refine wpAny_binaryOp_repeat_ref (T := "tuple") (U := "int") (by decide) ⟨_, ho, rfl⟩ (fun s' => typeIs_int s' k t) noFill_tuple_mul F.fills_int_mul F.slot_int_rmul repeat_tuple F.slot_int_index.lookup
      (call_meets F.slot_int_rmul (typeIs_int s k t) F.entry_int_rmul (F.args_int_rmul_2 _ _) (int_rmul_tuple k t l its.toArray n dd sl)
        ⟨ho, rfl, ⟨_, ho, rfl⟩, call_meets F.slot_tuple_mul ⟨_, ho, rfl⟩ F.entry_tuple_mul (F.args_tuple_mul_2 _ _) (tuple_mul0 l its.toArray n dd sl k t c0 c1 c2) ⟨ho, ?_⟩⟩)
    have ek : k.toNat = 0 := by omega
    have q3 := q2 e1
    rw [ek] at q3
    refine ⟨.ref s.heap.objs.size, _, I.laid (t' := s.toks) (o := .tup []) (fun b ob q => Heap.get?_push_of_some _ q) (Nat.le_refl _) ?_, rfl, q3 _ (I.hok.fresh (Nat.le_refl _))⟩
    exact ⟨Nat.zero_le _, [], .nil, IsTup.new _ _⟩
/-- * of ints, one of them short; of a list, of a tuple and an int -/
def rMulB : RR := fun x y g Q => match x, y with
  | .int i, .int j => (i.natAbs < 2 ^ 63 ∨ j.natAbs < 2 ^ 63) ∧ Q (.int (i * j)) g
  | .ref a, .int n => ∃ xs, g a = some (.lst xs) ∧ (-(2 ^ 63) ≤ n ∧ n < 2 ^ 63) ∧ xs.length * n.toNat ≤ sizeLine ∧ ∀ p, g p = none → Q (.ref p) (gset g p (.lst (List.replicate n.toNat xs).flatten))
  | .tup xs, .int k => (-1000 ≤ k ∧ k ≤ 1000) ∧ xs.length ≤ 1000 ∧ Q (.tup (List.replicate k.toNat xs).flatten) g
  | _, _ => False
theorem short_bits {i : Int} (h : i.natAbs < 2 ^ 63) : Builtin.Int.intBits i ≤ 64 := by
  have := log2_lt (i := i) (by decide) h
  unfold Builtin.Int.intBits
  split <;> omega
theorem op_mulS : OpR X (binaryOp .Mult) (rI (fun i j => i.natAbs < 2 ^ 63 ∨ j.natAbs < 2 ^ 63) fun i j => .int (i * j)) := opI fun _ _ _ _ _ _ _ hc q => mul_int q (by
  rcases hc with h | h
  · exact .of_left (short_bits h)
  · exact .of_right (short_bits h))
theorem flat_rv1 {K : PySem.W.Frag} {H : Hp} {ds : List D} {vs : List V} (r : RVs K H ds vs) : RVs K H (List.replicate 1 ds).flatten vs := by
  have e : (List.replicate 1 ds).flatten = ds := by simp
  rw [e]; exact r
theorem od_mulB : OpD X (binaryOp .Mult) rMulB := by
  intro pins s σ H x y u w Q I rx ry ⟨g, dx, dy, Q0, rg, r1, r2, q, k⟩
  cases r1 with
  | int i => cases r2 <;> first | exact q.elim | exact op_mulS pins s σ H _ _ u w Q I rx ry ⟨_, _, rfl, rfl, q.1, k _ g _ H q.2 (.int _) rg (Keep.refl _ _)⟩
  | ref a =>
    cases r2 <;> first | exact q.elim | skip
    obtain ⟨xs, e1, hb, hz, q⟩ := q
    obtain ⟨vs, h1, rv1⟩ := rg.st a _ e1
    exact op_rep pins s σ H _ _ u w Q I rx ry ⟨a, _, vs, rfl, rfl, h1, hb.1, hb.2, by rw [← rv1.length]; exact hz, fun p hp => fin_lst rg (rv1.flat _) q k p hp⟩
  | tup h1 hs1 =>
    cases r2 <;> first | exact q.elim | skip
    rename_i a vs ds j
    obtain ⟨hb, hz, q⟩ := q
    refine op_tupMul pins s σ H _ _ u w Q I rx ry ⟨a, j, vs, rfl, rfl, h1.seq, hb.1, hb.2, by rw [← hs1.length]; exact hz, fun e => ?_, fun _ p hp => fin_tup rg (hs1.flat _) q k p hp⟩
    refine k _ g _ H q (.tup h1 ?_) rg (Keep.refl _ _)
    rcases e with e | e
    · subst e
      have e2 : (List.replicate (1 : Int).toNat ds).flatten = ds := by simp
      rw [e2]; exact hs1
    · subst e
      cases hs1
      have e2 : (List.replicate j.toNat ([] : List D)).flatten = [] := by simp
      rw [e2]; exact .nil
  | _ => exact q.elim

def eDnil : EV := fun _ g Q => ∀ p, g p = none → Q (.ref p) (gset g p (.dct []))
theorem d_dnil {pos : Pos} : DE X (.Dict [] [] pos) eDnil := PE.imp pe_dnewK fun σ H Q ⟨ε, g, Q0, hs, hg, q, k⟩ => fun p hp =>
  k _ _ _ _ (q p (hg.out hp)) (.ref p) (hg.layD (keep_fresh hp _ _) .nil) (keep_fresh hp _ _)
end

mutual
inductive DatT (g : G) : D → PyData → Prop
  | non : DatT g .non .none
  | bl (b : Bool) : DatT g (.bl b) (.bool b)
  | int (i : Int) : DatT g (.int i) (.int i)
  | str (x : Str) : DatT g (.str x) (.str x)
  | tup {ds : List D} {ps : List PyData} : DatTs g ds ps → DatT g (.tup ds) (.tuple ps)
  | dct {a : Addr} : g a = some (.dct []) → DatT g (.ref a) (.dict [])
inductive DatTs (g : G) : List D → List PyData → Prop
  | nil : DatTs g [] []
  | cons {d : D} {p : PyData} {ds : List D} {ps : List PyData} : DatT g d p → DatTs g ds ps → DatTs g (d :: ds) (p :: ps)
end
section
variable {X : Cx} {pins : List (Addr × Obj)} {σ : L2.St} {H : Hp} {s : Shared} {g : G}
mutual
theorem DatT.reads (I : Inv X pins σ H s) (rg : RG X.K g H) : ∀ {d : D} {p : PyData} {v : V} {u : Value}, DatT g d p → RV X.K H d v → RelV v u → ∃ as, Reads s.heap u p as ∧ sysModules ∉ as
  | _, _, _, _, .non, r, ru => by cases r; cases ru; exact ⟨_, Reads.none, by simp⟩
  | _, _, _, _, .bl b, r, ru => by cases r; cases ru; exact ⟨_, Reads.bool b, by simp⟩
  | _, _, _, _, .int i, r, ru => by cases r; obtain ⟨t, rfl⟩ := ru; exact ⟨_, Reads.int i t, by simp⟩
  | _, _, _, _, .str x, r, ru => by cases r; obtain ⟨t, rfl⟩ := ru; exact ⟨_, Reads.str x t, by simp⟩
  | _, _, _, _, .tup hs, r, ru => by
    cases r with
    | tup h1 h2 =>
      cases ru
      obtain ⟨its, rv, ⟨o, ho, hc, n, hd⟩, _⟩ := I.tuple h1.seq
      obtain ⟨as, hr, hn⟩ := DatTs.reads I rg hs h2 rv
      exact ⟨_, Reads.tuple ho hc hd hr, hn⟩
  | _, _, _, _, .dct e, r, ru => by
    cases r
    cases ru
    obtain ⟨vs, e1, rk⟩ := rg.st _ _ e
    cases rk
    obtain ⟨z, hd, vs, r0, dd⟩ := dk_of I.hok e1
    cases r0
    obtain ⟨o, es, n, ho, hb, hd2, _, hp, _⟩ := dd
    have hes : es.toList = [] := by
      cases h : es.toList with
      | nil => rfl
      | cons x l => rw [h] at hp; cases hp
    refine ⟨_, Reads.dict (kvs := []) ho hb.1 hd2 (by rw [hes]; exact .nil) (by rw [hes]; exact .nil), ?_⟩
    have := beq_eq_false_iff_ne.mp hd
    simp
    exact fun z => this z.symm
theorem DatTs.reads (I : Inv X pins σ H s) (rg : RG X.K g H) : ∀ {ds : List D} {ps : List PyData} {vs : List V} {us : List Value}, DatTs g ds ps → RVs X.K H ds vs → Vals vs us → ∃ as, ReadsAll s.heap us ps as ∧ sysModules ∉ as
  | _, _, _, _, .nil, r, ru => by cases r; cases ru; exact ⟨_, ReadsAll.nil, by simp⟩
  | _, _, _, _, .cons h hs, r, ru => by
    cases r with
    | cons r1 r2 =>
      cases ru with
      | cons u1 u2 =>
        obtain ⟨as, q1, n1⟩ := DatT.reads I rg h r1 u1
        obtain ⟨bs, q2, n2⟩ := DatTs.reads I rg hs r2 u2
        exact ⟨_, ReadsAll.cons q1 q2, by simp [n1, n2]⟩
end
end

def rRep2 : RL := fun xs g Q => match xs with
  | [x] => rRepr [x] g Q ∨ ∃ p, DatT g x p ∧ p.showable = true ∧ p.depth ≤ 60 ∧ p.shown.length ≤ sizeLine ∧ Q (.str p.shown) g
  | _ => False
section
variable {X : Cx}
theorem cd_rep2 {kk : Nat} (hr : Room kk X.A) (hgd : X.A.guards = some []) : CallD X (.builtin "repr") rRep2 := by
  intro pins s σ H vs us Q I r ⟨g, ds, Q0, rg, rv, q, k⟩
  unfold rRep2 at q
  split at q
  · rename_i x
    rcases q with q | ⟨p, hd, hs, hdp, hz, q⟩
    · exact cd_repr hr hgd pins s σ H vs us Q I r ⟨g, [x], Q0, rg, rv, q, k⟩
    · by_cases atm : ∃ p', Dat g x p' ∧ p'.hasDict = false ∧ p' = p
      · obtain ⟨p', h1, h2, rfl⟩ := atm
        exact cd_repr hr hgd pins s σ H vs us Q I r ⟨g, [x], Q0, rg, rv, ⟨_, h1, hs, h2, hdp, hz, q⟩, k⟩
      · obtain ⟨v, rfl, a⟩ := one_rv rv
        obtain ⟨u, rfl, ru⟩ := Vals.one r
        have fin := k _ g _ H q (.str p.shown) rg (Keep.refl _ _)
        obtain ⟨as, hrd, hn⟩ := DatT.reads I rg hd a ru
        cases hd with
        | non => exact absurd ⟨_, .non, rfl, rfl⟩ atm
        | bl b => exact absurd ⟨_, .bl b, rfl, rfl⟩ atm
        | int i => exact absurd ⟨_, .int i, rfl, rfl⟩ atm
        | str y => exact absurd ⟨_, .str y, rfl, rfl⟩ atm
        | _ =>
          cases a
          cases ru
          exact repr_of_reads' hrd hs (fun _ => hn) hgd (by have := hr.un; omega) (fun _ _ e => e) (fun h' u tk hk => ⟨.str _, H, I.kept hk, ⟨_, rfl⟩, fin⟩) hz
  · exact q.elim
end
mutual
theorem Dat.mono {g g' : G} (f : Fr [] g g') : ∀ {d : D} {p : PyData}, Dat g d p → Dat g' d p
  | _, _, .non => .non
  | _, _, .bl b => .bl b
  | _, _, .int i => .int i
  | _, _, .str x => .str x
  | _, _, .tup h => .tup (Dats.mono f h)
  | _, _, .lst e h => .lst (f.at e (by simp)) (Dats.mono f h)
theorem Dats.mono {g g' : G} (f : Fr [] g g') : ∀ {d : List D} {p : List PyData}, Dats g d p → Dats g' d p
  | _, _, .nil => .nil
  | _, _, .cons h hs => .cons (Dat.mono f h) (Dats.mono f hs)
end
mutual
theorem DatT.mono {g g' : G} (f : Fr [] g g') : ∀ {d : D} {p : PyData}, DatT g d p → DatT g' d p
  | _, _, .non => .non
  | _, _, .bl b => .bl b
  | _, _, .int i => .int i
  | _, _, .str x => .str x
  | _, _, .tup h => .tup (DatTs.mono f h)
  | _, _, .dct e => .dct (f.at e (by simp))
theorem DatTs.mono {g g' : G} (f : Fr [] g g') : ∀ {d : List D} {p : List PyData}, DatTs g d p → DatTs g' d p
  | _, _, .nil => .nil
  | _, _, .cons h hs => .cons (DatT.mono f h) (DatTs.mono f hs)
end
/-- a value that can be shown -/
structure Val (g : G) (d : D) (p : PyData) : Prop where
  dat : (Dat g d p ∧ p.hasDict = false) ∨ DatT g d p
  show_ : p.showable = true
  dep : p.depth ≤ 60
  len : p.shown.length ≤ sizeLine
theorem Val.mono {g g' : G} {d : D} {p : PyData} (f : Fr [] g g') (h : Val g d p) : Val g' d p :=
  ⟨h.dat.elim (fun a => .inl ⟨a.1.mono f, a.2⟩) fun a => .inr (a.mono f), h.show_, h.dep, h.len⟩
theorem Val.rep {g : G} {d : D} {p : PyData} {Q : D → G → Prop} (h : Val g d p) (q : Q (.str p.shown) g) : rRep2 [d] g Q := by
  rcases h.dat with a | a
  · exact .inl ⟨p, a.1, h.show_, a.2, h.dep, h.len, q⟩
  · exact .inr ⟨p, a, h.show_, h.dep, h.len, q⟩
theorem Val.isi {g : G} {d : D} {p : PyData} (h : Val g d p) : isiOk d g := by
  rcases h.dat with a | a
  · cases a.1 with
    | lst e _ => exact ⟨_, e⟩
    | _ => exact True.intro
  · cases a with
    | dct e => exact ⟨_, e⟩
    | _ => exact True.intro
theorem rep_of {x : D} {g : G} {Q : D → G → Prop} {p : PyData} {d b : Nat} (hd : Dat g x p) (h : Sm d b p) (q : Q (.str p.shown) g) (h1 : d ≤ 60 := by decide) (h2 : b ≤ 1000000 := by decide) : rRep2 [x] g Q := .inl (repr_of hd h q h1 h2)
section
variable {X : Cx}
theorem fold_min : ∀ (xs : List Int) (x : Int), (PySem.W.DatumOrd.lt (α := Int) = fun a b => decide (a < b)) → PySem.W.minOf x xs ∈ x :: xs ∧ ∀ y ∈ x :: xs, PySem.W.minOf x xs ≤ y
  | [], x, _ => ⟨List.mem_singleton.mpr rfl, fun y hy => by rw [List.mem_singleton.mp hy]; exact Int.le_refl _⟩
  | z :: zs, x, e => by
    have ih := fold_min zs (if PySem.W.DatumOrd.lt z x = true then z else x) e
    have e2 : PySem.W.minOf x (z :: zs) = PySem.W.minOf (if PySem.W.DatumOrd.lt z x = true then z else x) zs := rfl
    rw [e2]
    refine ⟨?_, fun y hy => ?_⟩
    · rcases List.mem_cons.mp ih.1 with h | h
      · rw [h]; split
        · exact List.mem_cons_of_mem _ (List.mem_cons_self ..)
        · exact List.mem_cons_self ..
      · exact List.mem_cons_of_mem _ (List.mem_cons_of_mem _ h)
    · have h0 := ih.2 _ (List.mem_cons_self ..)
      have hz : (if PySem.W.DatumOrd.lt z x = true then z else x) ≤ x ∧ (if PySem.W.DatumOrd.lt z x = true then z else x) ≤ z := by
        rw [e]; simp only [decide_eq_true_eq]; split <;> omega
      rcases List.mem_cons.mp hy with h | h
      · subst h; omega
      · rcases List.mem_cons.mp h with h | h
        · subst h; omega
        · exact ih.2 y (List.mem_cons_of_mem _ h)
def rMinA : RL := fun xs g Q => match xs with
  | [x] => ∃ ns : List Int, itemsOf x g (ns.map D.int) ∧ 0 < ns.length ∧ ∀ m, m ∈ ns → (∀ y, y ∈ ns → m ≤ y) → Q (.int m) g
  | _ => False
theorem cd_minA (hc : X.calm = true) (hu : X.A.units + 64 < cLine) : CallD X (.builtin "min") rMinA := by
  intro pins s σ H vs us Q I r ⟨g, ds, Q0, rg, rv, q, k⟩
  unfold rMinA at q
  split at q
  · rename_i x
    obtain ⟨v, rfl, a⟩ := one_rv rv
    obtain ⟨ns, hi, hl, q⟩ := q
    obtain ⟨p, ws, rfl, hs, rw'⟩ := hi.rv rg a
    have e := rw'.ints
    subst e
    rcases hs with hs | hs
    · exact cr_min hc pins s σ H _ us Q I r ⟨p, ns, rfl, hs, hl, fun m h1 h2 => k _ g _ H (q m h1 h2) (.int _) rg (Keep.refl _ _)⟩
    · obtain ⟨its, rr, pl, _⟩ := I.tuple hs
      rw [Vals.ref1 r]
      cases ns with
      | nil => cases hl
      | cons n ns =>
        have hh := PySem.W.HoldAll.of_ints (h := s.heap) rr.ints
        have hd0 : PySem.W.Datum.depth Int ≤ 60 := by decide
        have hdp : X.A.units + 1 + PySem.W.Datum.depth Int < cLine := by omega
        refine PySem.W.min_tuple_datum (vs := its.toArray) (I.ok.hd hc) pl hh hdp fun i v h' tk _ hv kp => ?_
        obtain ⟨t, e⟩ : ∃ t, v = .int (PySem.W.minOf n ns) t := by
          have := PySem.W.HoldAll.toInts (PySem.W.HoldAll.cons hv (PySem.W.HoldAll.nil (h := h')))
          cases this with
          | cons _ t _ => exact ⟨t, rfl⟩
        have fm := fold_min ns n rfl
        exact ⟨.int _, H, I.kept kp, ⟨t, e⟩, k _ g _ H (q _ fm.1 fm.2) (.int _) rg (Keep.refl _ _)⟩
  · exact q.elim
end
end LF
namespace LF
open PySem PySem.Spec PyProof.Rows L2
variable [PP]

def rSrtP (K : PySem.W.Frag) : List V → Hp → VK → Prop := fun vs H Q => ∃ (a : Addr) (xs : List V) (k : V → Int × Int), vs = [V.ref a] ∧ SqL K H a xs ∧ (∀ x ∈ xs, ∃ t, x = V.ref t ∧ SqT K H t [.int (k x).1, .int (k x).2]) ∧
  ∀ ys p, SrtO.Srtd (ltP k) ys → SrtO.Stb (ltP k) ys xs → H p = none → Q (.ref p) (upd H p (.lst ys))
section
variable {X : Cx}
theorem cr_srtP : CallR X (.builtin "sorted") (rSrtP X.K) := by
  intro pins s σ H vs us Q I r h
  obtain ⟨a, xs, k, rfl, hs, hx, q⟩ := h
  obtain ⟨its, rv, hl, hz⟩ := I.list hs
  obtain ⟨u, rfl, ru⟩ := vals1 r
  obtain rfl : u = Value.ref a := ru
  obtain ⟨e1, e2⟩ := refs_back rv fun x m => by
    obtain ⟨t, e, _⟩ := hx x m
    exact ⟨t, e⟩
  refine SrtO.sorted_pairsO (k := fun u => k (backV u)) hl.isList (by rw [← rv.length]; exact hz) (fun v hv => ?_) fun h' d out h1 h2 kp hd hn => ?_
  · obtain ⟨t, rfl⟩ := e2 v hv
    have hm : V.ref t ∈ xs := by rw [e1]; exact List.mem_map.mpr ⟨_, hv, rfl⟩
    obtain ⟨t', e, ht⟩ := hx _ hm
    cases e
    obtain ⟨its2, r2, ⟨o, ho, hc, n, hd⟩, _⟩ := I.tuple ht
    obtain ⟨u1, u2, rfl, ri, rj⟩ := vals2 r2
    obtain ⟨t1, rfl⟩ := ri
    obtain ⟨t2, rfl⟩ := rj
    exact ⟨t, o, t1, t2, n, rfl, ho, hc, hd⟩
  · have h3 : ∀ u ∈ out, ∃ a, u = Value.ref a := fun u hu => e2 u (h2.perm.mem_iff.mp hu)
    obtain ⟨n, hn⟩ := hn
    have hb : SrtO.Stb (ltP k) (out.map backV) xs := by
      rw [e1]
      exact SrtO.Stb.map (ltP_swo k) backV h2
    refine ⟨.ref d, upd H d (.lst (out.map backV)), I.laid (t' := s.toks) kp hd ⟨?_, out, n, vals_back h3, hn⟩, rfl, q _ d (SrtO.srtd_map h1) hb (I.hok.fresh hd)⟩
    rw [hb.len]
    exact hz
def dP (p : Int × Int) : D := .tup [.int p.1, .int p.2]
/-- a comes not behind b -/
def leP (a b : Int × Int) : Prop := a.1 < b.1 ∨ (a.1 = b.1 ∧ a.2 ≤ b.2)
def rSortP : RL := fun xs g Q => match xs with
  | [x] => ∃ ps : List (Int × Int), itemsOf x g (ps.map dP) ∧ (∃ a, x = .ref a) ∧ ∀ (qs : List (Int × Int)) p, qs.Perm ps → qs.Pairwise leP → g p = none → Q (.ref p) (gset g p (.lst (qs.map dP)))
  | _ => False
theorem pairs_rv {K : PySem.W.Frag} {H : Hp} : ∀ {ps : List (Int × Int)} {xs : List V}, RVs K H (ps.map dP) xs → ∀ x ∈ xs, ∃ t a b, x = V.ref t ∧ SqT K H t [.int a, .int b]
  | [], _, r, x, h => by cases r; cases h
  | p :: ps, _, r, x, h => by
    cases r with
    | cons r1 r2 =>
      rcases List.mem_cons.mp h with e | e
      · subst e
        cases r1 with
        | tup h1 h2 =>
          cases h2 with
          | cons a1 a2 =>
            cases a1
            cases a2 with
            | cons b1 b2 =>
              cases b1; cases b2
              exact ⟨_, _, _, rfl, h1.seq⟩
      · exact pairs_rv r2 x e
open Classical in
noncomputable def keyP (K : PySem.W.Frag) (H : Hp) (x : V) : Int × Int := if h : ∃ (t : Addr) (p : Int × Int), x = V.ref t ∧ SqT K H t [.int p.1, .int p.2] then h.choose_spec.choose else (0, 0)
theorem keyP_spec {K : PySem.W.Frag} {H : Hp} {x : V} (h : ∃ t a b, x = V.ref t ∧ SqT K H t [.int a, .int b]) : ∃ t, x = V.ref t ∧ SqT K H t [.int (keyP K H x).1, .int (keyP K H x).2] := by
  have h' : ∃ (t : Addr) (p : Int × Int), x = V.ref t ∧ SqT K H t [.int p.1, .int p.2] := let ⟨t, a, b, e, q⟩ := h; ⟨t, (a, b), e, q⟩
  unfold keyP
  rw [dif_pos h']
  exact ⟨_, h'.choose_spec.choose_spec⟩
theorem keys_rv {pins : List (Addr × Obj)} {σ : L2.St} {H : Hp} {s : Shared} (I : Inv X pins σ H s) : ∀ {ps : List (Int × Int)} {xs : List V}, RVs X.K H (ps.map dP) xs → xs.map (keyP X.K H) = ps
  | [], _, r => by cases r; rfl
  | p :: ps, _, r => by
    cases r with
    | @cons _ v _ vs r1 r2 =>
      have e1 := keys_rv I r2
      have hx := pairs_rv (ps := [p]) (.cons r1 .nil) v (List.mem_singleton.mpr rfl)
      obtain ⟨t, et, q⟩ := keyP_spec hx
      rw [List.map_cons, e1]
      congr 1
      cases r1 with
      | tup h1 h2 =>
        cases et
        cases h2 with
        | cons a1 a2 =>
          cases a1
          cases a2 with
          | cons b1 b2 =>
            cases b1; cases b2
            have := I.tuple_inj q h1.seq
            injection this with c1 c2
            injection c1 with c1
            injection c2 with c2 _
            injection c2 with c2
            exact Prod.ext c1 c2
theorem back_rv {K : PySem.W.Frag} {H : Hp} {k : V → Int × Int} : ∀ {ys : List V}, (∀ x ∈ ys, ∃ d, RV K H d x ∧ d = dP (k x)) → RVs K H ((ys.map k).map dP) ys
  | [], _ => .nil
  | y :: ys, h => by
    obtain ⟨d, r, e⟩ := h y List.mem_cons_self
    subst e
    exact .cons r (back_rv fun x hx => h x (List.mem_cons_of_mem _ hx))
theorem each_rv {K : PySem.W.Frag} {H : Hp} {k : V → Int × Int} : ∀ {ps : List (Int × Int)} {xs : List V}, RVs K H (ps.map dP) xs → xs.map k = ps → ∀ x ∈ xs, ∃ d, RV K H d x ∧ d = dP (k x)
  | [], _, r, _, x, h => by cases r; cases h
  | p :: ps, _, r, e, x, h => by
    cases r with
    | cons r1 r2 =>
      rw [List.map_cons] at e
      injection e with e1 e2
      rcases List.mem_cons.mp h with z | z
      · subst z; exact ⟨_, r1, by rw [e1]⟩
      · exact each_rv r2 e2 x z
theorem cd_sortP : CallD X (.builtin "sorted") rSortP := by
  intro pins s σ H vs us Q I r ⟨g, ds, Q0, rg, rv, q, k⟩
  unfold rSortP at q
  split at q
  · obtain ⟨v, rfl, a⟩ := one_rv rv
    obtain ⟨ps, hi, ⟨p, rfl⟩, q⟩ := q
    cases a
    obtain ⟨vs, e1, r1⟩ := rg.st p _ hi
    have ek := keys_rv I r1
    refine cr_srtP pins s σ H _ us Q I r ⟨p, vs, keyP X.K H, rfl, .of e1, fun x hx => keyP_spec (pairs_rv r1 x hx), fun ys l h1 h2 h3 => ?_⟩
    have hev := each_rv r1 ek
    have rys : RVs X.K H ((ys.map (keyP X.K H)).map dP) ys := back_rv fun x hx => hev x (h2.perm.mem_iff.mp hx)
    refine fin_lst rg rys (fun p' hp' => q (ys.map (keyP X.K H)) p' (by rw [← ek]; exact h2.perm.map _) ?_ hp') k l h3
    refine List.pairwise_map.mpr (List.Pairwise.imp ?_ h1)
    intro x y h
    have := SrtO.lexB_no.mp h
    unfold leP
    omega
  · exact q.elim
end

theorem pick_one (items : Array Value) : slicePick items none none (some 1) = items := by
  have e : slicePick items none none (some 1) = slicePick items none none none := rfl
  rw [e]
  have := slicePick_cut items.toList none none
  rw [HT.sIx_none, HT.sIx_none, List.drop_zero, Nat.sub_zero, List.take_length] at this
  simpa using this
def tStp (K : PySem.W.Frag) (te : TE) (to : TO) : TE := fun σ H Q => te σ H fun x H1 => to σ H1 fun o H2 => ∃ a xs k, x = .ref a ∧ o = some k ∧ SqL K H2 a xs ∧ (k = 1 ∨ k = -1) ∧ ∀ p, H2 p = none → Q (.ref p) (upd H2 p (.lst (if k = 1 then xs else xs.reverse)))
section
variable {X : Cx}
theorem pe_stp {e st : Expr} {te : TE} {to : TO} {p3 pos : Pos} (he : PE X e te) (hst : PO X (some st) to) : PE X (.Subscript e (.Slice none none (some st) p3) pos) (tStp X.K te to) := by
  refine ⟨fun pins s σ H Q I h => ?_⟩
  refine Subscript_ (thn (he.run pins s σ H _ I h) fun v s1 ⟨x, H1, I1, r1, q1⟩ => ?_)
  refine wpAny_Slice (thn (po_none.run pins s1 σ H1 (fun o H2 => o = none ∧ H2 = H1) I1 ⟨rfl, rfl⟩) fun vl s2 ⟨l, H2, I2, pl, el, e2⟩ => ?_)
  subst el e2
  refine thn (po_none.run pins s2 σ H2 (fun o H3 => o = none ∧ H3 = H2) I2 ⟨rfl, rfl⟩) fun vu s3 ⟨u, H3, I3, pu, eu, e3⟩ => ?_
  subst eu e3
  refine thn (hst.run pins s3 σ H3 _ I3 q1) fun vs s4 ⟨o, H4, I4, ps, a, xs, k, ex, eo, hx, hk, q⟩ => ?_
  subst eo ex
  cases r1
  have I5 : Inv X pins σ H4 { s4 with heap := s4.heap.push { cls := .type "slice", data := .fields #[vl, vu, vs] } } := I4.kept (t' := s4.toks) fun b ob q => Heap.get?_push_of_some _ q
  obtain ⟨its, r, ht, hz⟩ := I5.list hx
  have hlen := r.length
  show wpAny (model X.prog X.w) X.A (subscriptTail e (.Slice none none (some st) p3) (.ref a) (.ref s4.heap.objs.size)) (EP X pins σ Q) X.xe { s4 with heap := s4.heap.push { cls := .type "slice", data := .fields #[vl, vu, vs] } }
  refine tail_any (ops := [.ref a, .ref s4.heap.objs.size]) ht.isList.typeIs (PySem.slot_list_getitem.lookup) ?_ (by with_unfolding_all rfl)
  refine wpAny_getItem_list_slice ht.isList (Heap.IsSliceOf.new _ vl vu vs) pl pu ps (by rcases hk with rfl | rfl <;> decide) ?_ (by rw [List.size_toArray]; omega)
  rcases hk with rfl | rfl
  · rw [pick_one]
    refine ⟨.ref _, _, I5.laid (t' := s4.toks) (o := .lst xs) (fun b ob q => Heap.get?_push_of_some _ q) (Nat.le_refl _) ?_, rfl, q _ (I5.hok.fresh (Nat.le_refl _))⟩
    exact ⟨hz, _, 0, r, Heap.get?_push_size _ rfl⟩
  · rw [PySem.W.krv_pick]
    refine ⟨.ref _, _, I5.laid (t' := s4.toks) (o := .lst xs.reverse) (fun b ob q => Heap.get?_push_of_some _ q) (Nat.le_refl _) ?_, rfl, q _ (I5.hok.fresh (Nat.le_refl _))⟩
    exact ⟨by rw [List.length_reverse]; exact hz, _, 0, r.reverse, Heap.get?_push_size _ rfl⟩

def rStp (x : D) (o : Option Int) (g : G) (Q : D → G → Prop) : Prop := match x, o with
  | .ref a, some k => ∃ xs, g a = some (.lst xs) ∧ (k = 1 ∨ k = -1) ∧ ∀ p, g p = none → Q (.ref p) (gset g p (.lst (if k = 1 then xs else xs.reverse)))
  | _, _ => False
def eStp (te : EV) (to : OV) : EV := fun ε g Q => te ε g fun x g1 => to ε g1 fun o g2 => rStp x o g2 Q
theorem rev_rv {K : PySem.W.Frag} {H : Hp} : ∀ {ds : List D} {vs : List V}, RVs K H ds vs → RVs K H ds.reverse vs.reverse
  | _, _, .nil => .nil
  | _, _, .cons h hs => by
    rw [List.reverse_cons, List.reverse_cons]
    exact (rev_rv hs).append (.cons h .nil)
theorem d_stp {e st : Expr} {te : EV} {to : OV} {p3 pos : Pos} (he : DE X e te) (ho : DO' X (some st) to) : DE X (.Subscript e (.Slice none none (some st) p3) pos) (eStp te to) :=
  PE.imp (pe_stp he ho) fun σ H Q ⟨ε, g, Q0, hs, hg, ht, hq⟩ => ⟨ε, g, _, hs, hg, ht, fun d1 g1 v1 H1 q1 rv1 rg1 k1 => ⟨ε, g1, _, hs.keep hg k1, rg1, q1, fun o g2 H2 q2 rg2 k2 => by
    have r1 := rv1.keep rg1 k2
    unfold rStp at q2
    split at q2
    · cases r1
      obtain ⟨xs, e1, hk, q⟩ := q2
      obtain ⟨vs, e2, r2⟩ := rg2.st _ _ e1
      refine ⟨_, vs, _, rfl, rfl, .of e2, hk, fun p hp => ?_⟩
      refine fin_lst rg2 ?_ q (fun d g' v H' q rv rg k => hq _ _ _ _ q rv rg (k1.trans (k2.trans k))) p hp
      split
      · exact r2
      · exact rev_rv r2
    · exact q2.elim⟩⟩
end
end LF
namespace LF
open PySem PySem.Spec PyProof.Rows L2
variable [PP]
section
variable {X : Cx}
def rInX (neg : Bool) : RR := fun x y g Q => ∃ d ds, Dat g x d ∧ Dat g y (.list ds) ∧ SeqAt.shaped d = true ∧ SeqAt.shaped (.list ds) = true ∧ Q (.bl (if neg then !(ds.any fun z => PyData.eqv z d) else ds.any fun z => PyData.eqv z d)) g
theorem od_inX {kk : Nat} (hr : Room kk X.A) : OpD X (compareOp .In) (rInX false) := by
  intro pins s σ H x y u w Q I rx ry ⟨g, dx, dy, Q0, rg, r1, r2, ⟨p, q, h1, h2, s1, s2, q0⟩, k⟩
  exact op_inD (by have := hr.un; omega) pins s σ H _ _ u w Q I rx ry ⟨p, q, h1.dp rg r1, h2.dp rg r2, s1, s2, k _ g _ H q0 (.bl _) rg (Keep.refl _ _)⟩
theorem od_ninX {kk : Nat} (hr : Room kk X.A) : OpD X (compareOp .NotIn) (rInX true) := by
  intro pins s σ H x y u w Q I rx ry ⟨g, dx, dy, Q0, rg, r1, r2, ⟨p, q, h1, h2, s1, s2, q0⟩, k⟩
  exact op_notInD (by have := hr.un; omega) pins s σ H _ _ u w Q I rx ry ⟨p, q, h1.dp rg r1, h2.dp rg r2, s1, s2, k _ g _ H q0 (.bl _) rg (Keep.refl _ _)⟩
end
end LF
namespace LF
open PySem PySem.Spec PyProof.Rows L2
variable [PP]

/-- what is wanted of an error inside a def: class number, fields, slots, store -/
abbrev EY := Nat → List (Str × D) → En → G → Prop
def lW (K : PySem.W.Frag) (ct : Nat → Addr) (E : EY) : WX := fun cls d σ H =>
  ∃ c fs ε g, E c fs ε g ∧ ExR K ct c fs cls d H ∧ RS K H ε σ ∧ RG K g H
def eCallX (φ : FV) (E : EY) (t : AV) : EV := fun ε g Q => t ε g fun ds g1 => φ ds g1 Q fun c fs g2 => E c fs ε g2
/-- a def that may raise -/
def fvx (np n : Nat) (t : EY → SV) : FV := fun ds g Q E => ds.length = np ∧ t (fun c fs _ g' => E c fs g') { nx := fun _ g' => Q .non g', rt := Q } (startD n ds) g
section
variable {X : Cx} {pos : Pos}
theorem d_calX {ct : Nat → Addr} {x : Str} {j k : Nat} {ps : List Str} {φ : FV} {E : EY} {t : AV} {p : Pos} {e : Expr} {es : List Expr} (tk : L2.Takes X (lW X.K ct E)) (C : Cal X.prog X.w X.K X.mg X.base ct x j ps φ) (hj : j ≤ k)
    (hr : Room k X.A) (hgd : X.A.guards = some []) (hg : Gl X x) (ha : DA X (e :: es) t)
    (hdb : (x == ("__debug__" : Str)) = false := by decide +kernel) (he : starEach (e :: es) X.env = (false, eval e X.env) :: starEach es X.env := by rfl) (hpl : (backTo pos (starEach es X.env)).any (·.1) = false := by rfl) :
    DE X (.Call (.Name x p) (e :: es) [] pos) (eCallX φ E t) := by
  obtain ⟨f, fd, a, b, c, d⟩ := C.ex
  refine PE.imp (pe_callG (E := fun σ cls d H => lW X.K ct E cls d σ H) (a.mono hj) hr hgd hg b c d (fun σ pins H s e s' I z => tk e s' (XE.of_call I (fun _ _ _ h => h) z)) ha hdb he hpl) ?_
  intro σ H Q ⟨ε, g, Q0, rs, rg, q, kk⟩
  exact ⟨ε, g, _, rs, rg, q, fun ds g1 vs H1 q1 rv rg1 k1 => ⟨ds, g1, Q0, _, rv, rg1.st, q1, fun d g' v H' q rv rg' k => kk _ _ _ _ q rv (rg1.move k rg') (k1.trans k),
    fun c fs g' cls dx H' z xr rg' k => ⟨c, fs, ε, g', z, xr, (rs.keep rg k1).keep rg1 k, rg1.move k rg'⟩⟩⟩
end
section
variable {P : Program} {w : World} {K : PySem.W.Frag} {mg : Str → Option Value} {base : Heap} {ct : Nat → Addr}
theorem ok_ofX {x qual : Str} {st : Stmt} {f : Addr} {fd : FuncData} {N ps : List Str} {k : Nat} {t : EY → SV} (F : Fun K x qual st f fd) (S : FnScope N ps (defScope st)) (hl : ps.length ≤ N.length)
    (body : ∀ (cdv : Value) (A : Around) (outer : List Env) (s : Shared) (H : Hp) (E : XK) [PP] (Y : EY), L2.Takes (cxOf (L2.CX P w) P w K mg base N qual (defScope st) f cdv A outer s H E) (lW K ct Y) →
      Room k (A.deeper (envOfC qual (defScope st) s.heap.objs.size f cdv)) → (A.deeper (envOfC qual (defScope st) s.heap.objs.size f cdv)).guards = some [] →
      DSs (cxOf (L2.CX P w) P w K mg base N qual (defScope st) f cdv A outer s H E) (defBody st) (t Y)) : FnG P w K mg base (k + 1) f fd ps (lF K ct (fvx ps.length N.length t)) := by
  refine FnG.of F S (fun vs H Q E ⟨ds, g, Q0, E0, rv, rg, ⟨e, _⟩, _⟩ => by rw [← rv.length]; exact e) fun cdv A outer s H vs Q E hr hg ⟨ds, g, Q0, E0, rv, rg, ⟨e, q⟩, k1, k2⟩ => ?_
  letI : PP := ⟨fun _ g' H' => Keep g H g' H', fun _ a b => a.trans b⟩
  have tk := (L2.takes_of (X := cxOf (L2.CX P w) P w K mg base N qual (defScope st) f cdv A outer s H E) rfl rfl rfl rfl).imp (W' := lW K ct fun c fs _ g' => E0 c fs g')
    fun cls d σ H' ⟨c, fs, ε, g', z, xr, _, rg'⟩ => k2 c fs g' cls d H' z xr rg'.st rg'.pp
  exact ⟨_, body cdv A outer s H E _ tk hr hg, startD N.length ds, g, _, start_rs rv (by omega), ⟨rg, Keep.refl _ _⟩, q,
    ⟨fun _ g' _ H' q _ r k => k1 _ _ _ _ q .non r.st k, fun _ _ _ _ q a r k => k1 _ _ _ _ q a r.st k, fun _ _ _ _ z => z.elim, fun _ _ _ _ z => z.elim⟩⟩
end

/-- a class of errors without own __init__ -/
structure Ex0 (K : PySem.W.Frag) (mg : Str → Option Value) (x : Str) (C : Addr) : Prop where
  gl : mg x = some (.ref C)
  kp : PySem.W.keepIn K (.ref C) = true
  sb : PySem.W.subIn K (.ref C) (.type "BaseException") = some true
  ty : PySem.W.typeIn K (.ref C) = some (.type "type")
  nw : PySem.W.excIn K C PySem.HandSPX.veTail "ValueError.__new__" = true
def sRaise0 (c : Nat) (E : EY) : SV := fun _ ε g => E c [] ε g
section
variable {X : Cx} {pos : Pos}
theorem pmk0 {x : Str} {C : Addr} {p : Pos} (T : Ex0 X.K X.mg x C) (hg : Gl X x) (hdb : (x == ("__debug__" : Str)) = false) : PMk X (.Call (.Name x p) [] [] pos) (fun _ H Q => Q (.ref C) none H) := by
  intro pins s σ H Q I q
  refine wpAny_Call_Name_kw (ld_glob I hg T.gl ?_ hdb)
  refine PySem.W.callWith_K0 (first := []) I.kIn T.kp ?_
  show wpAny _ _ (call (.ref C) []) _ _ _
  obtain ⟨bm, N, nm, qn, bs, dct, sn, sb, ab, cl, dd, k0, k1, k2, k3, k5, mN, h1, h2, h3, h4⟩ := exc_obj I.kIn T.nw
  exact wpAny_call_exc_subT PySem.F.excBase_ValueError h4 h1 h2 h3 (fun _ _ hm => mk_of I hm (raises_own T.sb T.ty) q (I.hok.gone hm.new)) (Nat.zero_le _)
theorem s_raise0 {ct : Nat → Addr} {c : Nat} {E : EY} {x : Str} {p pos2 : Pos} (tk : L2.Takes X (lW X.K ct E)) (hc : X.calm = true) (T : Ex0 X.K X.mg x (ct c)) (hg : Gl X x) (hdb : (x == ("__debug__" : Str)) = false := by decide +kernel) :
    DS X (.Raise (some (.Call (.Name x p) [] [] pos)) none pos2) (sRaise0 c E) :=
  PS.imp (L2.ps_raise hc tk (pmk0 T hg hdb)) fun D σ H ⟨ε, g, D0, rs, rg, q, o⟩ => ⟨c, [], ε, g, q, ⟨rfl, rfl⟩, rs, rg⟩
end

def sTryAs (i : Nat) (cat : Nat → Option Bool) (ts : Nat → List (Str × D) → Addr → SV) (tb : EY → SV) (E : EY) : SV := fun D ε g =>
  tb (fun c fs ε' g' => match cat c with
    | some true => ∀ a, g' a = none → ts c fs a { nx := fun ε g => D.nx (ε.set i none) g, rt := D.rt, bk := fun ε g => D.bk (ε.set i none) g, ct := fun ε g => D.ct (ε.set i none) g } (ε'.set i (some (.ref a))) g'
    | some false => E c fs ε' g'
    | none => False) D ε g
/-- try: .. except X: .. -/
def sTryOnly (cat : Nat → Option Bool) (ts : SV) (tb : EY → SV) (E : EY) : SV := fun D ε g =>
  tb (fun c fs ε' g' => match cat c with
    | some true => ts D ε' g'
    | some false => E c fs ε' g'
    | none => False) D ε g
/-- how the fields of a caught error lie -/
def XF (K : PySem.W.Frag) (d : Option Addr) (fs : List (Str × D)) (g : G) (H : Hp) : Prop := match d with
  | none => fs = []
  | some dx => ∃ vs, H dx = some (.xd vs) ∧ g dx = none ∧ vs.map (·.1) = fs.map (·.1) ∧ RVs K H (fs.map (·.2)) (vs.map (·.2))
theorem XF.step {K : PySem.W.Frag} {d : Option Addr} {fs : List (Str × D)} {g g' : G} {H H' : Hp} (r : RG0 K g H) (x : XF K d fs g H) (k : Keep g H g' H') : XF K d fs g' H' := by
  cases d with
  | none => exact x
  | some dx =>
    obtain ⟨vs, h1, h2, h3, h4⟩ := x
    obtain ⟨k1, k2⟩ := k _ _ h1 h2
    exact ⟨vs, k1, k2, h3, @RVs.keep ppNone _ _ _ _ _ (@RG.mk ppNone _ _ _ r trivial) k _ _ h4⟩
theorem XF.of {K : PySem.W.Frag} {ct : Nat → Addr} {c : Nat} {d : Option Addr} {fs : List (Str × D)} {g : G} {H : Hp} {cls : Value} (r : RG0 K g H) (x : ExR K ct c fs cls d H) : XF K d fs g H := by
  cases d with
  | none => exact x.2
  | some dx =>
    obtain ⟨_, vs, h1, h2, h3⟩ := x
    refine ⟨vs, h1, ?_, h2, h3⟩
    cases e : g dx with
    | none => rfl
    | some o =>
      have q := r dx o e
      cases o with
      | lst ds => obtain ⟨_, q, _⟩ := q; rw [h1] at q; cases q
      | dct ds => obtain ⟨_, q, _⟩ := q; rw [h1] at q; cases q
      | ins c fl ds => obtain ⟨_, _, _, q, _⟩ := q; rw [h1] at q; cases q
      | dtt ds => obtain ⟨_, q, _⟩ := q; rw [h1] at q; cases q
/-- inside a try: what stood at its start is kept -/
def ppB (p0 : PP) (g : G) (H : Hp) : PP := ⟨fun K' g' H' => p0.P K' g' H' ∧ Keep g H g' H', fun r a b => ⟨p0.step r a.1 b, a.2.trans b⟩⟩
theorem rgB {p0 : PP} {g0 g : G} {H0 H : Hp} {K : PySem.W.Frag} (r : @RG (ppB p0 g0 H0) K g H) : @RG p0 K g H ∧ Keep g0 H0 g H := by
  obtain ⟨a, b⟩ := r
  exact ⟨@RG.mk p0 _ _ _ a b.1, b.2⟩
/-- inside a suite: the error's fields stand -/
def ppS (p0 : PP) (K : PySem.W.Frag) (d : Option Addr) (fs : List (Str × D)) : PP := ⟨fun K' g' H' => p0.P K' g' H' ∧ (K' = K → XF K d fs g' H'), fun r a b => ⟨p0.step r a.1 b, fun e => by subst e; exact (a.2 rfl).step r b⟩⟩
theorem rgS {p0 : PP} {g : G} {H : Hp} {K K' : PySem.W.Frag} {d : Option Addr} {fs : List (Str × D)} (r : @RG (ppS p0 K d fs) K' g H) : @RG p0 K' g H := by
  obtain ⟨a, b⟩ := r
  exact @RG.mk p0 _ _ _ a b.1
theorem RS.unset {K : PySem.W.Frag} {H : Hp} {ε : En} {σ : L2.St} (h : RS K H ε σ) (i : Nat) : RS K H (ε.set i none) (σ.set i none) := RS.wipe h [i]
section
variable [p0 : PP] {X : Cx} {x n : Str} {C : Addr} {i : Nat} {body suite : List Stmt} {b₀ : Stmt} {np pos pos' : Pos} {ct : Nat → Addr} {cat : Nat → Option Bool} {ts : Nat → List (Str × D) → Addr → SV} {tb : EY → SV} {E : EY}
theorem s_tryAs (hs : X.stack = X.env :: X.outer) (hf : X.env.frame = some X.env.locals) (hN : X.N.Nodup) (hi : X.N[i]? = some n) (hln : X.env.kindOf n = some .local) (hc : L2.Names X x (.ref C)) (tk : L2.Takes X (lW X.K ct E))
    (hcat : ∀ c b, cat c = some b → PySem.W.exmOne X.K (.ref (ct c)) (.ref C) = some b)
    (hb : ∀ (E' : EY) (pn : List (Addr × Obj)) (xe : Value → Shared → Prop) [PP], L2.Takes (X.tr pn xe) (lW X.K ct E') → PassesOwn (model X.prog X.w) X.A X.env xe → DSs (X.tr pn xe) body (tb E'))
    (hsu : ∀ (c : Nat) (fs : List (Str × D)) (a : Addr) (oe : Obj) (d : Option Addr) (pn : List (Addr × Obj)) [PP], cat c = some true → Zc (.ref (ct c)) d oe → (∃ vs, oe.data = .fields vs) → (∀ g H, PP.P X.K g H → XF X.K d fs g H) →
      DSs (X.suite a ((a, oe) :: pn)) (b₀ :: suite) (ts c fs a)) :
    DS X (.Try body [.ExceptHandler (some (.Name x np)) (some n) (b₀ :: suite) pos'] [] [] pos) (sTryAs i cat ts tb E) := by
  -- the suite, whatever is caught
  let tS : Addr → Value → Option Addr → TS := fun a cls d Dn σ H => ∃ (c : Nat) (fs : List (Str × LF.D)) (pp : PP), cls = .ref (ct c) ∧ cat c = some true ∧ (∀ g H, pp.P X.K g H → XF X.K d fs g H) ∧ @lS pp X.K (ts c fs a) Dn σ H
  let tB : WX → TS := fun W Dn σ H => ∃ (pp : PP) (E' : EY), (∀ cls d σ H, @lW pp X.K ct E' cls d σ H → W cls d σ H) ∧ @lS pp X.K (tb E') Dn σ H
  have h1 : ∀ (a : Addr) (oe : Obj) (cls : Value) (d : Option Addr) (pn : List (Addr × Obj)), Zc cls d oe → (∃ vs, oe.data = .fields vs) → PSs (X.suite a ((a, oe) :: pn)) (b₀ :: suite) (tS a cls d) := by
    intro a oe cls d pn hz hv
    refine ⟨fun pins s σ H Dn I h => ?_⟩
    obtain ⟨c, fs, pp, e1, e2, e3, h⟩ := h
    subst e1
    exact (@hsu c fs a oe d pn pp e2 hz hv e3).run pins s σ H Dn I h
  have h2 : ∀ (W : WX) (pn : List (Addr × Obj)) (xe : Value → Shared → Prop), L2.Takes (X.tr pn xe) W → PassesOwn (model X.prog X.w) X.A X.env xe → PSs (X.tr pn xe) body (tB W) := by
    intro W pn xe tkW hp
    refine ⟨fun pins s σ H Dn I h => ?_⟩
    obtain ⟨pp, E', hw, h⟩ := h
    exact (@hb E' pn xe pp (tkW.imp hw) hp).run pins s σ H Dn I h
  refine PS.imp (L2.ps_try_as hs hf hN hi hln hc tk h2 h1) ?_
  intro Dn σ H ⟨ε, g, D0, rs, rg, q, o⟩
  refine ⟨ppB p0 g H, _, fun cls d σ' H' hw => ?_, ε, g, D0, rs, @RG.mk (ppB p0 g H) _ _ _ rg.st ⟨rg.pp, Keep.refl _ _⟩, q, @EsOk.mk (ppB p0 g H) _ _ _ _ _ (fun _ _ _ _ z a r k => o.nx _ _ _ _ z a (rgB r).1 k) (fun _ _ _ _ z a r k => o.rt _ _ _ _ z a (rgB r).1 k)
    (fun _ _ _ _ z a r k => o.bk _ _ _ _ z a (rgB r).1 k) (fun _ _ _ _ z a r k => o.ct _ _ _ _ z a (rgB r).1 k)⟩
  obtain ⟨c, fs, ε', g', z, xr, rs', rg'⟩ := hw
  obtain ⟨hst, hpp, hkeep⟩ := rg'
  have xf := XF.of hst xr
  cases hcc : cat c with
  | none => rw [hcc] at z; exact z.elim
  | some b =>
    rw [hcc] at z
    have ex := hcat c b hcc
    rw [← xr.1] at ex
    cases b with
    | false => exact ⟨false, ex, fun y => Bool.noConfusion y, fun _ => ⟨c, fs, ε', g', z, xr, rs', ⟨hst, hpp⟩⟩⟩
    | true =>
      refine ⟨true, ex, fun _ a na => ?_, fun y => Bool.noConfusion y⟩
      refine ⟨c, fs, ppS p0 X.K d fs, xr.1, hcc, fun g2 H2 y => y.2 rfl, _, g', _, rs'.set i (.ref a), @RG.mk (ppS p0 X.K d fs) _ _ _ hst ⟨hpp, fun _ => xf⟩, z a ((@RG.mk p0 _ _ _ hst hpp).out na), ?_⟩
      exact @EsOk.mk (ppS p0 X.K d fs) _ _ _ _ _ (fun ε2 g2 σ2 H2 y a r k => o.nx _ _ _ _ y (a.unset i) (rgS r) (hkeep.trans k)) (fun _ _ _ _ y a r k => o.rt _ _ _ _ y a (rgS r) (hkeep.trans k))
        (fun ε2 g2 σ2 H2 y a r k => o.bk _ _ _ _ y (a.unset i) (rgS r) (hkeep.trans k)) (fun ε2 g2 σ2 H2 y a r k => o.ct _ _ _ _ y (a.unset i) (rgS r) (hkeep.trans k))
end
end LF
set_option maxHeartbeats 1000000
namespace LF
open PySem PySem.Spec PyProof.Rows L2
variable [PP]

/-- L tells of each class number whether its errors belong to the class cv -/
def IsF (K : PySem.W.Frag) (ct : Nat → Addr) (cv : Value) (L : List Bool) : Prop := ∀ c b, L[c]? = some b → PySem.W.kitOne K (.ref (ct c)) cv = some b
def AnF (K : PySem.W.Frag) (ct : Nat → Addr) (cvs : List Value) (L : List Bool) : Prop := ∀ c b, L[c]? = some b → PySem.W.kitAny K (.ref (ct c)) cvs = some b
theorem AnF.nil {K : PySem.W.Frag} {ct : Nat → Addr} (n : Nat) : AnF K ct [] (List.replicate n false) := fun c b h => by
  rw [List.getElem?_replicate] at h
  split at h
  · cases h; rfl
  · cases h
theorem AnF.cons {K : PySem.W.Frag} {ct : Nat → Addr} {cv : Value} {cvs : List Value} {L M : List Bool} (h1 : IsF K ct cv L) (h2 : AnF K ct cvs M) (hl : L.length = M.length) : AnF K ct (cv :: cvs) (List.zipWith (· || ·) L M) := fun c b h => by
  rw [List.getElem?_zipWith] at h
  cases e1 : L[c]? with
  | none => rw [e1] at h; cases h
  | some x =>
    cases e2 : M[c]? with
    | none => rw [e1, e2] at h; cases h
    | some y =>
      rw [e1, e2] at h
      cases h
      refine kitAny_cons (h1 c x e1) (fun z => ?_) (fun z => ?_)
      · subst z; exact h2 c y e2
      · subst z; rfl
/-- error isinstance: slot, address, answers, class number -/
def eIsE (i : Nat) (a : Addr) (L : List Bool) (c : Nat) : EV := fun ε g Q => ε[i]? = some (some (.ref a)) ∧ ∃ b, L[c]? = some b ∧ Q (.bl b) g
def eFld (i : Nat) (a : Addr) (fs : List (Str × D)) (f : Str) : EV := fun ε g Q => ε[i]? = some (some (.ref a)) ∧ ∃ d, fs.lookup f = some d ∧ Q d g
def rIsX (K : PySem.W.Frag) (D a : Addr) : List V → Hp → VK → Prop := fun xs H Q => ∃ (cv : V) (u : Value) (b : Bool) (g : G), RG K g H ∧ xs = [.ref a, cv] ∧ ClsV cv u ∧ PySem.W.kitOne K (.ref D) u = some b ∧ Q (.bl b) H
def rIsXT (K : PySem.W.Frag) (D a : Addr) : List V → Hp → VK → Prop := fun xs H Q => ∃ (tp : Addr) (cs : List V) (us : List Value) (b : Bool) (g : G), RG K g H ∧ xs = [.ref a, .ref tp] ∧ H tp = some (.tup cs) ∧ Paired ClsV cs us ∧
  PySem.W.kitAny K (.ref D) us = some b ∧ Q (.bl b) H
section
variable {X : Cx} {a D : Addr} {oe : Obj} {pn : List (Addr × Obj)} {d : Option Addr} {fs : List (Str × LF.D)}
theorem held_inst {pins : List (Addr × Obj)} {s : Shared} {σ : L2.St} {H : Hp} {g : G} (hz : Zc (.ref D) d oe) (hf : ∃ vs, oe.data = .fields vs) (hx : ∀ g H, PP.P X.K g H → XF X.K d fs g H)
    (I : Inv (X.suite a ((a, oe) :: pn)) pins σ H s) (rg : RG X.K g H) : ∃ od, PySem.W.InstAt s.heap a oe D od := by
  obtain ⟨hget, _⟩ := I.pin (a, oe) (List.mem_append_left _ List.mem_cons_self)
  obtain ⟨vs, hv⟩ := hf
  have xf := hx g H rg.pp
  obtain ⟨oc, od, oda, osl⟩ := oe
  obtain ⟨h1, h2⟩ := hz
  dsimp only at h1 h2 hv
  subst h1 h2 hv
  cases od with
  | none => exact ⟨none, hget, rfl, rfl, trivial⟩
  | some dx =>
    obtain ⟨ws, e, _⟩ := xf
    obtain ⟨mA, hns, _⟩ := (show ObjOk X.prog X.w H s.heap dx (.xd ws) from I.hok dx _ e)
    obtain ⟨ob, ho, _⟩ := lookIn_ns hns
    exact ⟨some ob, hget, rfl, rfl, ho⟩
theorem kitX_of {od : Option Obj} (C : ExcC X.K D) : PySem.W.KitX X.K (.ref a) (.ref D) (fun h => PySem.W.InstAt h a oe D od) := by
  have hcl : (PySem.W.clsIn X.K D).isSome = true := by
    obtain ⟨cd, hc, _⟩ := PySem.W.any_some C.hd
    rw [hc]; rfl
  exact PySem.W.kitx_exc hcl C.hg C.hk C.hs C.ha C.hn C.ht C.hm
theorem call_isX (C : ExcC X.K D) (hz : Zc (.ref D) d oe) (hf : ∃ vs, oe.data = .fields vs) (hx : ∀ g H, PP.P X.K g H → XF X.K d fs g H) : CallR (X.suite a ((a, oe) :: pn)) (.builtin "isinstance") (rIsX X.K D a) := by
  intro pins s σ H xs us Q I r h
  obtain ⟨cv, u, b, g, rg, rfl, k, e, q⟩ := h
  obtain ⟨u1, u2, rfl, r1, r2⟩ := vals2 r
  cases (show u1 = Value.ref a from r1)
  have e2 := k.eq r2
  subst e2
  obtain ⟨od, J⟩ := held_inst hz hf hx I rg
  exact PySem.W.kia_one (kitX_of C) I.kIn J e (fun z => nomatch z) fun tk => ⟨.bl b, H, I.tok tk, rfl, q⟩
theorem call_isXT (C : ExcC X.K D) (hz : Zc (.ref D) d oe) (hf : ∃ vs, oe.data = .fields vs) (hx : ∀ g H, PP.P X.K g H → XF X.K d fs g H) : CallR (X.suite a ((a, oe) :: pn)) (.builtin "isinstance") (rIsXT X.K D a) := by
  intro pins s σ H xs us Q I r h
  obtain ⟨tp, cs, ws, b, g, rg, rfl, hT, k, e, q⟩ := h
  obtain ⟨u1, u2, rfl, r1, r2⟩ := vals2 r
  cases (show u1 = Value.ref a from r1)
  cases (show u2 = Value.ref tp from r2)
  obtain ⟨od, J⟩ := held_inst hz hf hx I rg
  obtain ⟨_, its, rv, o, h1, h2, n, h3⟩ := (show ObjOk X.prog X.w H s.heap tp (.tup cs) from I.hok tp _ hT)
  have e3 := ClsV.all k rv
  subst e3
  obtain ⟨oc, oo, dt, sl⟩ := o
  simp only at h2 h3
  subst h2 h3
  exact PySem.W.kia_tup (kitX_of C) I.kIn J h1 e (fun z => nomatch z) fun tk => ⟨.bl b, H, I.tok tk, rfl, q⟩
end
section
variable {X : Cx} {a : Addr} {oe : Obj} {pn : List (Addr × Obj)} {d : Option Addr} {fs : List (Str × LF.D)} {ct : Nat → Addr} {c i : Nat} {pos : Pos}
/-- isinstance(error, C) -/
theorem d_isE {L : List Bool} {v : V} {cv : Value} {e ce : Expr} {p : Pos} (C : ExcC X.K (ct c)) (hz : Zc (.ref (ct c)) d oe) (hf : ∃ vs, oe.data = .fields vs) (hx : ∀ g H, PP.P X.K g H → XF X.K d fs g H) (F : IsF X.K ct cv L) (hv : ClsV v cv)
    (hg : Gl (X.suite a ((a, oe) :: pn)) "isinstance") (hm : X.mg "isinstance" = none) (he : DE (X.suite a ((a, oe) :: pn)) e (eVar i)) (hc : PE (X.suite a ((a, oe) :: pn)) ce (tC v))
    (s1 : starEach [e, ce] (X.suite a ((a, oe) :: pn)).env = (false, eval e X.env) :: starEach [ce] X.env := by rfl) (s2 : starEach [ce] (X.suite a ((a, oe) :: pn)).env = (false, eval ce X.env) :: starEach [] X.env := by rfl) (hpl : (backTo pos (starEach [ce] (X.suite a ((a, oe) :: pn)).env)).any (·.1) = false := by rfl) :
    DE (X.suite a ((a, oe) :: pn)) (.Call (.Name "isinstance" p) [e, ce] [] pos) (eIsE i a L c) :=
  PE.imp (pe_callB (call_isX C hz hf hx) hg hm (by decide +kernel) (pa_cons he (pa_cons hc pa_nil s2) s1) (by decide +kernel) (by decide +kernel) s1 hpl) fun σ H Q ⟨ε, g, Q0, rs, rg, ⟨ei, b, eb, q⟩, k⟩ =>
    ⟨ε, g, fun d' g' => d' = .ref a ∧ g' = g, rs, rg, ⟨_, ei, rfl, rfl⟩, fun d' g1 w H1 q1 rv rg1 k1 => by
      obtain ⟨rfl, rfl⟩ := q1
      cases rv
      exact ⟨v, cv, b, _, rg1, rfl, hv, F c b eb, k _ _ _ _ q (.bl _) rg1 k1⟩⟩
/-- isinstance(error, (C, ..)) -/
theorem d_isT {L : List Bool} {vs : List V} {cvs : List Value} {e : Expr} {ces : List Expr} {k1 : Nat} {p tp : Pos} (C : ExcC X.K (ct c)) (hz : Zc (.ref (ct c)) d oe) (hf : ∃ vs, oe.data = .fields vs) (hx : ∀ g H, PP.P X.K g H → XF X.K d fs g H)
    (F : AnF X.K ct cvs L) (hv : Paired ClsV vs cvs) (hl : vs.length ≤ 100)
    (hg : Gl (X.suite a ((a, oe) :: pn)) "isinstance") (hm : X.mg "isinstance" = none) (he : DE (X.suite a ((a, oe) :: pn)) e (eVar i)) (hc : PA (X.suite a ((a, oe) :: pn)) ces (fun _ H Q => Q vs H))
    (s1 : starEach [e, .Tuple ces k1 tp] (X.suite a ((a, oe) :: pn)).env = (false, eval e X.env) :: starEach [.Tuple ces k1 tp] X.env := by rfl) (s2 : starEach [.Tuple ces k1 tp] (X.suite a ((a, oe) :: pn)).env = (false, eval (.Tuple ces k1 tp) X.env) :: starEach [] X.env := by rfl)
    (hpl : (backTo pos (starEach [.Tuple ces k1 tp] (X.suite a ((a, oe) :: pn)).env)).any (·.1) = false := by rfl) :
    DE (X.suite a ((a, oe) :: pn)) (.Call (.Name "isinstance" p) [e, .Tuple ces k1 tp] [] pos) (eIsE i a L c) :=
  PE.imp (pe_callB (call_isXT C hz hf hx) hg hm (by decide +kernel) (pa_cons he (pa_cons (pe_tup hc) pa_nil s2) s1) (by decide +kernel) (by decide +kernel) s1 hpl) fun σ H Q ⟨ε, g, Q0, rs, rg, ⟨ei, b, eb, q⟩, k⟩ =>
    ⟨ε, g, fun d' g' => d' = .ref a ∧ g' = g, rs, rg, ⟨_, ei, rfl, rfl⟩, fun d' g1 w H1 q1 rv rg1 k1 => by
      obtain ⟨rfl, rfl⟩ := q1
      cases rv
      exact ⟨Nat.le_trans hl (by decide), fun tq hq => ⟨tq, vs, cvs, b, _, rg1.tupNew hq, rfl, upd_same, hv, F c b eb, k _ _ _ _ q (.bl _) (rg1.tupNew hq) (k1.trans (keep_new hq _))⟩⟩⟩
/-- a class named in a suite -/
theorem p_cls {Y : Cx} {x : Str} {C : Addr} {p : Pos} (hg : Gl Y x) (hm : Y.mg x = some (.ref C)) (hd : (x == ("__debug__" : Str)) = false := by decide +kernel) : PE Y (.Name x p) (tC (.ref C)) := pe_glob hg hm rfl hd
theorem p_ve {Y : Cx} {p : Pos} (hg : Gl Y "ValueError") (hm : Y.mg "ValueError" = none) : PE Y (.Name "ValueError" p) (tC (.ty "ValueError")) := pe_bltn hg hm (by decide +kernel) rfl (by decide +kernel) (by decide +kernel)
theorem pc_nil {Y : Cx} : PA Y [] (fun _ H Q => Q [] H) := pa_nil
theorem pc_cons {Y : Cx} {e : Expr} {es : List Expr} {v : V} {vs : List V} (h : PE Y e (tC v)) (t : PA Y es (fun _ H Q => Q vs H)) (hs : starEach (e :: es) Y.env = (false, eval e Y.env) :: starEach es Y.env := by rfl) : PA Y (e :: es) (fun _ H Q => Q (v :: vs) H) := pa_cons h t hs
end
end LF
namespace LF
open PySem PySem.Spec PyProof.Rows L2
variable [PP]
theorem takesN {X : Cx} {ct : Nat → Addr} : L2.Takes X (lW X.K ct fun _ _ _ _ => False) := fun u s' x => by
  obtain ⟨_, _, _, _, _, _, _, _, _, _, _, _, _, _, _, _, _, _, _, _, z, _⟩ := x
  exact z.elim
end LF
set_option maxHeartbeats 1000000
namespace LF
open PySem PySem.Spec PyProof.Rows L2
variable [PP]
section
variable {X : Cx}
/-- all(bools), bools in a list -/
def rAll : RL := fun xs g Q => match xs with
  | [.ref a] => ∃ bs : List Bool, g a = some (.lst (bs.map D.bl)) ∧ Q (.bl (bs.all id)) g
  | _ => False
theorem cd_all (hc : X.calm = true) : CallD X (.builtin "all") rAll := by
  intro pins s σ H vs us Q I r ⟨g, ds, Q0, rg, rv, q, k⟩
  unfold rAll at q
  split at q
  · obtain ⟨v, rfl, a⟩ := one_rv rv
    obtain ⟨bs, e, q⟩ := q
    cases a
    obtain ⟨ws, e1, r1⟩ := rg.st _ _ e
    have e2 := r1.bls
    subst e2
    exact cr_all hc pins s σ H _ us Q I r ⟨_, bs, rfl, .of e1, k _ g _ H q (.bl _) rg (Keep.refl _ _)⟩
  · exact q.elim
/-- {x: n} -/
def eDct1 (x : Str) (n : Int) : EV := fun _ g Q => ∀ p, g p = none → Q (.ref p) (gset g p (.dct [(.inr x, .int n)]))
theorem d_dct1 {x : Str} {n : Int} {j j2 : Nat} {p p2 pos : Pos} : DE X (.Dict [some (.Constant (.str x) j p)] [.Constant (.int n) j2 p2] pos) (eDct1 x n) := by
  refine PE.imp (pe_disp (pps_cons pe_str pe_int pps_nil) rfl rfl (by simp) (by simp)) fun σ H Q ⟨ε, g, Q0, hs, hg, q, k⟩ => fun p hp => ?_
  refine ⟨upd_same, [(.inr x, .int n)], rfl, by simp, ?_⟩
  have eu : upd (upd H p (.dK [])) p (.dK (mergeK [] [(.inr x, .int n)])) = upd H p (.dK [(.inr x, .int n)]) := by
    funext b
    by_cases hb : b = p
    · rw [hb, upd_same, upd_same]; rfl
    · rw [upd_ne hb, upd_ne hb, upd_ne hb]
  rw [eu]
  exact k _ _ _ _ (q p (hg.out hp)) (.ref p) (hg.layD (keep_fresh hp _ _) (.cons (.int n) .nil)) (keep_fresh hp _ _)
/-- in a tuple of data -/
def rInT (neg : Bool) : RR := fun x y g Q => ∃ d ds, Dat g x d ∧ Dat g y (.tuple ds) ∧ SeqAt.shaped d = true ∧ SeqAt.shaped (.tuple ds) = true ∧ Q (.bl (if neg then !(ds.any fun z => PyData.eqv z d) else ds.any fun z => PyData.eqv z d)) g
theorem od_inT {kk : Nat} (hr : Room kk X.A) : OpD X (compareOp .In) (rInT false) := by
  intro pins s σ H x y u w Q I rx ry ⟨g, dx, dy, Q0, rg, r1, r2, ⟨d, ds, h1, h2, s1, s2, q0⟩, k⟩
  obtain ⟨as, c1⟩ := Dp.reads I d x u (h1.dp rg r1) rx
  obtain ⟨bs, c2⟩ := Dp.reads I (.tuple ds) y w (h2.dp rg r2) ry
  exact SeqAt.in_tuple_reads c2 c1 (SeqAt.canLay_of_shaped s2) (SeqAt.canLay_of_shaped s1) (room_in_shaped s1 (by have := hr.un; omega)) ⟨.bl _, H, I, rfl, k _ g _ H q0 (.bl _) rg (Keep.refl _ _)⟩
end

/-- a class of errors whose own __init__ sets one field from its one argument -/
structure Ex1 (P : Program) (w : World) (K : PySem.W.Frag) (mg : Str → Option Value) (base : Heap) (x f : Str) (C : Addr) : Prop where
  gl : mg x = some (.ref C)
  ok : OexC K C
  fd : PySem.W.findIn K (.ref C) f = some none
  xf : XfC K C
  ini : ∃ (fI : Addr) (fnd : FuncData), PySem.W.findIn K (.ref C) "__init__" = some (some (.ref fI)) ∧ PySem.W.typeIn K (.ref fI) = some (.type "function") ∧ Binds K fnd ["self", f] [] ∧
    FnOk P w K mg base CX0 1 fI fnd ["self", f] fun vs H Q _ => ∃ a y, vs = [.ref a, y] ∧ H a = some (exo a C none) ∧ ∀ dx, H dx = none → dx ≠ a → Q .non (upd (upd H dx (exd dx [(f, y)])) a (exo a C (some dx)))
section
variable {P : Program} {w : World} {K : PySem.W.Frag} {mg : Str → Option Value} {base : Heap} {C fI : Addr} {f : Str}
theorem ini_ok {qual : Str} {st : Stmt} {fnd : FuncData} {p0 p1 p2 pf : Pos} (T : OexC K C) (hno : PySem.W.findIn K (.ref C) f = some none) (F : Fun K "__init__" qual st fI fnd) (S : FnScope ["self", f] ["self", f] (defScope st))
    (l0 : (defScope st).names.lookup ("self" : Str) = some .local) (l1 : (defScope st).names.lookup f = some .local) (hd : (f == ("__debug__" : Str)) = false) (hcd : (f == ("__classdict__" : Str)) = false)
    (hb : defBody st = [.Assign [.Attribute (.Name "self" p0) f p1] (.Name f p2) pf]) :
    FnOk P w K mg base CX0 1 fI fnd ["self", f] fun vs H Q _ => ∃ a y, vs = [.ref a, y] ∧ H a = some (exo a C none) ∧ ∀ dx, H dx = none → dx ≠ a → Q .non (upd (upd H dx (exd dx [(f, y)])) a (exo a C (some dx))) := by
  refine Fun.ok (N := ["self", f]) F S (fun vs H Q E ⟨a, y, e, _⟩ => by rw [e]; rfl) fun cdv A outer s H vs Q E hr ⟨a, y, e, ha, q⟩ => ?_
  subst e
  rw [hb]
  refine ⟨_, pss_one (ps_ost (pe_var (i := 0) (x := "self") rfl (Or.inl l0) (by decide +kernel) (by decide +kernel)) (pe_var (i := 1) (x := f) rfl (Or.inl l1) hd hcd)), ?_⟩
  exact ⟨y, rfl, .ref a, rfl, a, C, rfl, T, hno, .inl ⟨ha, q⟩⟩
end
def sRaise1 (c : Nat) (f : Str) (E : EY) (t : EV) : SV := fun _ ε g => t ε g fun d g' => E c [(f, d)] ε g'
theorem RG.xdNew {K : PySem.W.Frag} {g : G} {H : Hp} (r : RG K g H) {p : Addr} (hp : H p = none) (vs : List (Str × V)) : RG K g (upd H p (.xd vs)) := r.move (keep_new hp _) fun a o e => by
  have hn : a ≠ p := fun z => by subst z; rw [r.out hp] at e; cases e
  exact RO.keep r (keep_new hp _) (upd_ne hn) (r.st a o e)
theorem look_rv {K : PySem.W.Frag} {H : Hp} {f : Str} {d : D} : ∀ {fs : List (Str × D)} {vs : List (Str × V)}, vs.map (·.1) = fs.map (·.1) → RVs K H (fs.map (·.2)) (vs.map (·.2)) → fs.lookup f = some d → ∃ v, vs.lookup f = some v ∧ RV K H d v
  | [], _, _, _, h => by cases h
  | (a, b) :: fs, [], e, _, _ => by cases e
  | (a, b) :: fs, (a', b') :: vs, e, r, h => by
    rw [List.map_cons, List.map_cons] at e r
    injection e with e1 e2
    dsimp only at e1
    subst e1
    cases r with
    | cons r1 r2 =>
      rw [lookup_put] 
      rw [List.lookup_cons] at h
      by_cases z : f = a'
      · subst z
        rw [beq_self_eq_true] at h
        cases h
        exact ⟨_, if_pos rfl, r1⟩
      · rw [if_neg z]
        rw [beq_eq_false_iff_ne.mpr z] at h
        exact look_rv e2 r2 h
section
variable {X : Cx} {pos : Pos}
theorem s_raise1 {ct : Nat → Addr} {c k : Nat} {E : EY} {x f : Str} {e : Expr} {t : EV} {p pos2 : Pos} (tk : L2.Takes X (lW X.K ct E)) (hc : X.calm = true) (T : Ex1 X.prog X.w X.K X.mg X.base x f (ct c)) (hr : Room k X.A) (hg : Gl X x) (he : DE X e t) (hk : 2 ≤ k := by omega)
    (hdb : (x == ("__debug__" : Str)) = false := by decide +kernel) (hs : starEach [e] X.env = (false, eval e X.env) :: starEach [] X.env := by rfl) :
    DS X (.Raise (some (.Call (.Name x p) [e] [] pos)) none pos2) (sRaise1 c f E t) := by
  obtain ⟨fI, fnd, i1, i2, i3, i4⟩ := T.ini
  have hr2 : Room (1 + 1) X.A := hr.mono hk
  refine PS.imp (L2.ps_raise hc tk (pmk_oex T.ok i1 i2 i4 hr2 i3 .nil pass0 hg T.gl (pa_cons he pa_nil hs) hdb hs (by rfl))) fun D σ H ⟨ε, g, D0, rs, rg, q, o⟩ => ?_
  refine ⟨ε, g, _, rs, rg, q, fun d g1 y H1 q1 rv rg1 k1 => ⟨Nat.le_of_ble_eq_true rfl, fun a ha => ?_⟩⟩
  refine ⟨a, y, rfl, upd_same, fun dx hdx hne => ?_⟩
  rw [upd_ne hne] at hdx
  refine ⟨rfl, dx, [(f, y)], upd_same, by rw [upd_ne hne, upd_same], hdx, ?_⟩
  have eu : upd (del (upd (upd (upd H1 a (exo a (ct c) none)) dx (exd dx [(f, y)])) a (exo a (ct c) (some dx))) a) dx (.xd [(f, y)]) = upd H1 dx (.xd [(f, y)]) := by
    funext b
    by_cases hb : b = dx
    · rw [hb, upd_same, upd_same]
    · rw [upd_ne hb, upd_ne hb]
      by_cases hba : b = a
      · rw [hba, del_same, ha]
      · rw [del_ne hba, upd_ne hba, upd_ne hb, upd_ne hba]
  rw [eu]
  have kx : Keep g1 H1 g1 (upd H1 dx (.xd [(f, y)])) := keep_new hdx _
  exact ⟨c, [(f, d)], ε, g1, q1, ⟨rfl, _, upd_same, rfl, .cons (rv.keep rg1 kx) .nil⟩, (rs.keep rg k1).keep rg1 kx, rg1.xdNew hdx _⟩
end
section
variable {X : Cx} {a : Addr} {oe : Obj} {pn : List (Addr × Obj)} {d : Option Addr} {fs : List (Str × LF.D)} {ct : Nat → Addr} {c i : Nat} {pos : Pos}
/-- error.f in the suite that holds it -/
theorem d_fld {e : Expr} {n : Str} (T : XfC X.K (ct c)) (hno : PySem.W.findIn X.K (.ref (ct c)) n = some none) (hz : Zc (.ref (ct c)) d oe) (hf : ∃ vs, oe.data = .fields vs) (hx : ∀ g H, PP.P X.K g H → XF X.K d fs g H) (he : DE (X.suite a ((a, oe) :: pn)) e (eVar i))
    (hb : attributeBase e n X.env (eval e X.env) = eval e X.env := by rfl) :
    DE (X.suite a ((a, oe) :: pn)) (.Attribute e n pos) (eFld i a fs n) :=
  PE.imp (pe_xf T hno hz hf he hb) fun σ H Q ⟨ε, g, Q0, rs, rg, ⟨ei, dd, el, q⟩, k⟩ =>
    ⟨ε, g, fun d' g' => d' = .ref a ∧ g' = g, rs, rg, ⟨_, ei, rfl, rfl⟩, fun d' g1 w H1 q1 rv rg1 k1 => by
      obtain ⟨rfl, rfl⟩ := q1
      cases rv
      refine ⟨rfl, rfl, ?_⟩
      have xf := hx _ _ rg1.pp
      cases d with
      | none =>
        rw [show fs = [] from xf] at el
        cases el
      | some dx =>
        obtain ⟨vs, h1, h2, h3, h4⟩ := xf
        obtain ⟨v, e2, r2⟩ := look_rv h3 h4 el
        exact ⟨dx, vs, v, rfl, h1, e2, k _ _ _ _ q r2 rg1 k1⟩⟩
end
end LF
set_option maxHeartbeats 1000000
namespace LF
open PySem PySem.Spec PyProof.Rows L2
variable [PP]
def keyU : Key → PyData
  | .inl i => .int i
  | .inr x => .str x
mutual
/-- data of any kind -/
inductive DatU (g : G) : D → PyData → Prop
  | non : DatU g .non .none
  | bl (b : Bool) : DatU g (.bl b) (.bool b)
  | int (i : Int) : DatU g (.int i) (.int i)
  | str (x : Str) : DatU g (.str x) (.str x)
  | tup {ds : List D} {ps : List PyData} : DatUs g ds ps → DatU g (.tup ds) (.tuple ps)
  | lst {a : Addr} {ds : List D} {ps : List PyData} : g a = some (.lst ds) → DatUs g ds ps → DatU g (.ref a) (.list ps)
  | dct {a : Addr} {kvs : List (Key × D)} {ps : List PyData} : g a = some (.dct kvs) → DatUs g (kvs.map (·.2)) ps → DatU g (.ref a) (.dict ((kvs.map fun kv => keyU kv.1).zip ps))
inductive DatUs (g : G) : List D → List PyData → Prop
  | nil : DatUs g [] []
  | cons {d : D} {p : PyData} {ds : List D} {ps : List PyData} : DatU g d p → DatUs g ds ps → DatUs g (d :: ds) (p :: ps)
end
theorem DatUs.length {g : G} : ∀ {ds : List D} {ps : List PyData}, DatUs g ds ps → ds.length = ps.length
  | _, _, .nil => rfl
  | _, _, .cons _ t => congrArg (· + 1) (DatUs.length t)
mutual
theorem DatU.mono {g g' : G} (f : Fr [] g g') : ∀ {d : D} {p : PyData}, DatU g d p → DatU g' d p
  | _, _, .non => .non
  | _, _, .bl b => .bl b
  | _, _, .int i => .int i
  | _, _, .str x => .str x
  | _, _, .tup h => .tup (DatUs.mono f h)
  | _, _, .lst e h => .lst (f.at e (by simp)) (DatUs.mono f h)
  | _, _, .dct e h => .dct (f.at e (by simp)) (DatUs.mono f h)
theorem DatUs.mono {g g' : G} (f : Fr [] g g') : ∀ {d : List D} {p : List PyData}, DatUs g d p → DatUs g' d p
  | _, _, .nil => .nil
  | _, _, .cons h hs => .cons (DatU.mono f h) (DatUs.mono f hs)
end
mutual
theorem Dat.toU {g : G} : ∀ {d : D} {p : PyData}, Dat g d p → DatU g d p
  | _, _, .non => .non
  | _, _, .bl b => .bl b
  | _, _, .int i => .int i
  | _, _, .str x => .str x
  | _, _, .tup h => .tup (Dats.toU h)
  | _, _, .lst e h => .lst e (Dats.toU h)
theorem Dats.toU {g : G} : ∀ {d : List D} {p : List PyData}, Dats g d p → DatUs g d p
  | _, _, .nil => .nil
  | _, _, .cons h hs => .cons (Dat.toU h) (Dats.toU hs)
end

def Shw (P : Program) (w : World) (h : Heap) (u : Value) (p : PyData) : Prop :=
  ∃ as bs, Reads h u p as ∧ ReadAtMost h p.depth bs ∧ ReprK P w bs h p.depth u p.shown
def Shws (P : Program) (w : World) (h : Heap) (us : List Value) (ps : List PyData) : Prop :=
  ∃ as bs, ReadsAll h us ps as ∧ ReadAtMost h (PyData.depthAll ps) bs ∧ ReprAllK P w bs h (PyData.depthAll ps) us (PyData.shownAll ps)
section
variable {P : Program} {w : World} {h : Heap} {u : Value} {us : List Value} {p : PyData} {ps : List PyData} {a : Addr} {o : Obj} {vs : Array Value} {n : Nat}
theorem Shw.leaf {t : Str} (r : Reads h u p []) (e : p.shown = t) (k : ReprIs P w u t) : Shw P w h u p := ⟨[], [], r, (fun _ z => nomatch z), by rw [e]; exact .of_is k _ _ _⟩
theorem Shws.nil : Shws P w h [] [] := ⟨[], [], .nil, (fun _ z => nomatch z), by simp only [PyData.shownAll]; exact .nil⟩
theorem Shws.cons (x : Shw P w h u p) (y : Shws P w h us ps) : Shws P w h (u :: us) (p :: ps) := by
  obtain ⟨a1, b1, r1, m1, k1⟩ := x
  obtain ⟨a2, b2, r2, m2, k2⟩ := y
  have d1 : p.depth ≤ PyData.depthAll (p :: ps) := by simp only [PyData.depthAll]; exact Nat.le_max_left ..
  have d2 : PyData.depthAll ps ≤ PyData.depthAll (p :: ps) := by simp only [PyData.depthAll]; exact Nat.le_max_right ..
  refine ⟨_, b1 ++ b2, .cons r1 r2, (m1.mono d1).append (m2.mono d2), ?_⟩
  simp only [PyData.shownAll]
  exact .cons ((k1.more fun _ z => List.mem_append.mpr (.inl z)).level_le d1) (k2.more_le (fun _ z => List.mem_append.mpr (.inr z)) d2)
theorem Shw.list (ho : h.get? a = some o) (hc : o.cls = .type "list") (hd : o.data = .seq vs n) (S : Shws P w h vs.toList ps) : Shw P w h (.ref a) (.list ps) := by
  obtain ⟨as, bs, rs, m, k⟩ := S
  have r := Reads.list ho hc hd rs
  have na : a ∉ bs := not_mem_of_deeper r (by simp only [PyData.depth]; omega) m
  refine ⟨_, a :: bs, r, ReadAtMost.cons r (by simp only [PyData.depth]; omega) m, ?_⟩
  simp only [PyData.shown, PyData.depth]
  obtain ⟨l⟩ := vs
  cases l with
  | cons x l => exact .list ho hc hd na (by simpa using k.length_eq) fun i y z => k.item i y (by simpa using z)
  | nil =>
    cases (show ReadsAll h [] ps as from rs)
    rw [PyData.shownAll, listText_nil]
    exact .listEmpty ho hc hd
theorem Shw.tuple (ho : h.get? a = some o) (hc : o.cls = .type "tuple") (hd : o.data = .seq vs n) (S : Shws P w h vs.toList ps) : Shw P w h (.ref a) (.tuple ps) := by
  obtain ⟨as, bs, rs, m, k⟩ := S
  have r := Reads.tuple ho hc hd rs
  have na : a ∉ bs := not_mem_of_deeper r (by simp only [PyData.depth]; omega) m
  refine ⟨_, a :: bs, r, ReadAtMost.cons r (by simp only [PyData.depth]; omega) m, ?_⟩
  simp only [PyData.shown, PyData.depth]
  exact .tuple ho hc hd na k
theorem shws_two {es : List DictEntry} {kvs : List (PyData × PyData)} (K : Shws P w h (es.map (·.key)) (kvs.map (·.1))) (V : Shws P w h (es.map (·.val)) (kvs.map (·.2))) :
    ∃ as bs cs, ReadsAll h (es.map (·.key)) (kvs.map (·.1)) as ∧ ReadsAll h (es.map (·.val)) (kvs.map (·.2)) bs ∧ ReadAtMost h (PyData.depthKv kvs) cs ∧ ReprEntriesK P w cs h (PyData.depthKv kvs) es (PyData.shownKv kvs) := by
  obtain ⟨a1, b1, r1, m1, k1⟩ := K
  obtain ⟨a2, b2, r2, m2, k2⟩ := V
  have d1 := PyData.depthAll_keys_le kvs
  have d2 := PyData.depthAll_vals_le kvs
  refine ⟨_, _, b1 ++ b2, r1, r2, (m1.mono d1).append (m2.mono d2), ?_⟩
  rw [PyData.shownKv_eq]
  exact ReprEntriesK.of_two es _ _ (k1.more_le (fun _ z => List.mem_append.mpr (.inl z)) d1) (k2.more_le (fun _ z => List.mem_append.mpr (.inr z)) d2)
theorem Shw.dict {es : Array DictEntry} {kvs : List (PyData × PyData)} (ho : h.get? a = some o) (hc : o.cls = .type "dict") (hd : o.data = .dict es n) (hs : (a == sysModules) = false)
    (K : Shws P w h (es.toList.map (·.key)) (kvs.map (·.1))) (V : Shws P w h (es.toList.map (·.val)) (kvs.map (·.2))) : Shw P w h (.ref a) (.dict kvs) := by
  obtain ⟨as, bs, cs, r1, r2, m, k⟩ := shws_two K V
  have r := Reads.dict ho hc hd r1 r2
  have na : a ∉ cs := not_mem_of_deeper r (by simp only [PyData.depth]; omega) m
  refine ⟨_, a :: cs, r, ReadAtMost.cons r (by simp only [PyData.depth]; omega) m, ?_⟩
  simp only [PyData.shown, PyData.depth]
  exact .dict ho hc hd hs na k
end
theorem keys_shw {P : Program} {w : World} {h : Heap} : ∀ {es : List DictEntry} {kvs : List (Key × Value)}, Pairs (mixKind P w) es kvs → (∀ kv ∈ kvs, (keyU kv.1).showable = true ∧ (keyU kv.1).shown.length ≤ sizeLine) → Shws P w h (es.map (·.key)) (kvs.map fun kv => keyU kv.1) ∧ es.map (·.val) = kvs.map (·.2)
  | _, _, .nil, _ => ⟨.nil, rfl⟩
  | _, _, .cons (e := e) (kv := kv) h1 h2 h3, hk => by
    obtain ⟨i1, i2⟩ := keys_shw h3 fun kv z => hk kv (List.mem_cons_of_mem _ z)
    obtain ⟨q1, q2⟩ := hk kv List.mem_cons_self
    refine ⟨.cons ?_ i1, by rw [List.map_cons, List.map_cons, i2, h2]⟩
    rcases keyIs_shape (show keyIs kv.1 e.key = true from h1) with ⟨i, t, e1, e2⟩ | ⟨x, t, e1, e2⟩
    · show Shw P w h e.key (keyU kv.1)
      rw [e2, e1]
      rw [e1] at q1
      exact .leaf (.int i t) rfl (ReprIs.int t (by simpa only [keyU, PyData.showable, decide_eq_true_eq] using q1))
    · show Shw P w h e.key (keyU kv.1)
      rw [e2, e1]
      rw [e1] at q2
      exact .leaf (.str x t) rfl (ReprIs.str x t (by simpa only [keyU, PyData.shown] using q2))
section
variable {P : Program} {w : World} {h : Heap} {p : PyData} {ps : List PyData} {a : Addr} {o : Obj} {vs : Array Value} {n : Nat}
theorem shb_list (ho : h.get? a = some o) (hc : o.cls = .type "list") (hd : o.data = .seq vs n) (S : Shws P w h vs.toList ps) (hz : (PyData.list ps).shown.length ≤ sizeLine) : ShowsBy P w h a (.list ps) "list" "list.__repr__" := by
  obtain ⟨as, bs, rs, m, k⟩ := S
  have na : a ∉ bs := not_mem_of_deeper (Reads.list ho hc hd rs) (by simp only [PyData.depth]; omega) m
  refine ⟨F.slot_list_repr.toG, F.slot_list_str, F.slot_list_format, fun s k0 => ⟨o, k0 _ _ ho, hc⟩, fun A E s Q hg hu k0 hQ => ?_⟩
  simp only [PyData.depth] at hu
  simp only [PyData.shown] at hQ hz
  obtain ⟨l⟩ := vs
  cases l with
  | cons x l => exact call_list_reprK ho hc hd na (by simpa using k.length_eq) (fun i y z => k.item i y (by simpa using z)) hg (fun c _ => Clear.nil c) hu k0 hQ hz
  | nil =>
    cases (show ReadsAll h [] ps as from rs)
    rw [PyData.shownAll, listText_nil] at hQ
    exact call_list_repr_empty ⟨o, k0 _ _ ho, hc⟩ (k0 _ _ ho) hd (hQ s.heap _ _ fun _ _ z => z)
theorem shb_tuple (ho : h.get? a = some o) (hc : o.cls = .type "tuple") (hd : o.data = .seq vs n) (S : Shws P w h vs.toList ps) (hz : (PyData.tuple ps).shown.length ≤ sizeLine) : ShowsBy P w h a (.tuple ps) "tuple" "tuple.__repr__" := by
  obtain ⟨as, bs, rs, m, k⟩ := S
  have na : a ∉ bs := not_mem_of_deeper (Reads.tuple ho hc hd rs) (by simp only [PyData.depth]; omega) m
  refine ⟨F.slot_tuple_repr, F.slot_tuple_str, F.slot_tuple_format, fun s k0 => ⟨o, k0 _ _ ho, hc⟩, fun A E s Q hg hu k0 hQ => ?_⟩
  simp only [PyData.depth] at hu
  simp only [PyData.shown] at hQ hz
  exact call_tuple_reprK ho hc hd na k hg (fun c _ => Clear.nil c) hu k0 hQ hz
theorem shb_dict {es : Array DictEntry} {kvs : List (PyData × PyData)} (ho : h.get? a = some o) (hc : o.cls = .type "dict") (hd : o.data = .dict es n) (hs : (a == sysModules) = false)
    (K : Shws P w h (es.toList.map (·.key)) (kvs.map (·.1))) (V : Shws P w h (es.toList.map (·.val)) (kvs.map (·.2))) (hz : (PyData.dict kvs).shown.length ≤ sizeLine) : ShowsBy P w h a (.dict kvs) "dict" "dict.__repr__" := by
  obtain ⟨as, bs, cs, r1, r2, m, k⟩ := shws_two K V
  have na : a ∉ cs := not_mem_of_deeper (Reads.dict ho hc hd r1 r2) (by simp only [PyData.depth]; omega) m
  refine ⟨F.slot_dict_repr, F.slot_dict_str, F.slot_dict_format, fun s k0 => ⟨o, k0 _ _ ho, hc⟩, fun A E s Q hg hu k0 hQ => ?_⟩
  simp only [PyData.depth] at hu
  simp only [PyData.shown] at hQ hz
  exact call_dict_reprK ho hc hd hs na k hg (fun c _ => Clear.nil c) hu k0 hQ hz
end
theorem kv_split {K : PySem.W.Frag} {H : Hp} : ∀ {kvs : List (Key × D)} {kvv : List (Key × V)} {kvu : List (Key × Value)}, RKs K H kvs kvv → KV kvv kvu → RVs K H (kvs.map (·.2)) (kvv.map (·.2)) ∧ Vals (kvv.map (·.2)) (kvu.map (·.2)) ∧ kvu.map (·.1) = kvs.map (·.1)
  | _, _, _, .nil, .nil => ⟨.nil, .nil, rfl⟩
  | _, _, _, .cons r t, .cons q s => by
    obtain ⟨i1, i2, i3⟩ := kv_split t s
    refine ⟨.cons r i1, .cons q.2 i2, ?_⟩
    rw [List.map_cons, List.map_cons, i3, ← q.1]
theorem zip_l {α β : Type} : ∀ {l : List α} {m : List β}, l.length = m.length → (l.zip m).map (·.1) = l
  | [], _, _ => rfl
  | _ :: _, [], h => by cases h
  | a :: l, b :: m, h => by rw [List.zip_cons_cons, List.map_cons, zip_l (by simpa using h)]
theorem zip_r {α β : Type} : ∀ {l : List α} {m : List β}, l.length = m.length → (l.zip m).map (·.2) = m
  | [], [], _ => rfl
  | [], _ :: _, h => by cases h
  | _ :: _, [], h => by cases h
  | a :: l, b :: m, h => by rw [List.zip_cons_cons, List.map_cons, zip_r (by simpa using h)]
section
variable {X : Cx} {pins : List (Addr × Obj)} {σ : L2.St} {H : Hp} {s : Shared} {g : G}
/-- what a dict of the store shows, its values shown -/
theorem dict_shw (I : Inv X pins σ H s) (rg : RG X.K g H) {a : Addr} {kvs : List (Key × D)} {ps : List PyData} (e : g a = some (.dct kvs)) (hl : kvs.length = ps.length) (hs : (PyData.dict ((kvs.map fun kv => keyU kv.1).zip ps)).showable = true)
    (hz : (PyData.dict ((kvs.map fun kv => keyU kv.1).zip ps)).shown.length ≤ sizeLine)
    (hv : ∀ {vs : List V} {us : List Value}, RVs X.K H (kvs.map (·.2)) vs → Vals vs us → PyData.showableAll ps = true → (∀ t ∈ PyData.shownAll ps, t.length ≤ sizeLine) → Shws X.prog X.w s.heap us ps) :
    ∃ (o : Obj) (es : Array DictEntry) (n : Nat), s.heap.get? a = some o ∧ o.cls = .type "dict" ∧ o.data = .dict es n ∧ (a == sysModules) = false ∧ Shws X.prog X.w s.heap (es.toList.map (·.key)) (((kvs.map fun kv => keyU kv.1).zip ps).map (·.1)) ∧
      Shws X.prog X.w s.heap (es.toList.map (·.val)) (((kvs.map fun kv => keyU kv.1).zip ps).map (·.2)) := by
  obtain ⟨vs, e1, rk⟩ := rg.st _ _ e
  obtain ⟨_, hd, us, r0, o, es, n, ho, hb, hdt, _, hp, _⟩ := dk_of I.hok e1
  obtain ⟨i1, i2, i3⟩ := kv_split rk r0
  have hl2 : (kvs.map fun kv => keyU kv.1).length = ps.length := by rw [List.length_map]; exact hl
  obtain ⟨s1, s2⟩ := PyData.showableKv_split _ (show PyData.showableKv ((kvs.map fun kv => keyU kv.1).zip ps) = true by simpa only [PyData.showable] using hs)
  rw [zip_l hl2] at s1
  rw [zip_r hl2] at s2
  have hz' : (dictText (PyData.shownKv ((kvs.map fun kv => keyU kv.1).zip ps))).length ≤ sizeLine := by simpa only [PyData.shown] using hz
  have z1 : ∀ t ∈ PyData.shownAll (kvs.map fun kv => keyU kv.1), t.length ≤ sizeLine := fun t ht => by
    obtain ⟨q, hq, hle⟩ := PyData.shownKv_key_le ((kvs.map fun kv => keyU kv.1).zip ps) t (by rw [zip_l hl2]; exact ht)
    exact Nat.le_trans (Nat.le_trans hle (dictText_mem_le hq)) hz'
  have z2 : ∀ t ∈ PyData.shownAll ps, t.length ≤ sizeLine := fun t ht => by
    obtain ⟨q, hq, hle⟩ := PyData.shownKv_val_le ((kvs.map fun kv => keyU kv.1).zip ps) t (by rw [zip_r hl2]; exact ht)
    exact Nat.le_trans (Nat.le_trans hle (dictText_mem_le hq)) hz'
  have ek : (us.map fun kv => keyU kv.1) = kvs.map fun kv => keyU kv.1 := by
    have := congrArg (List.map keyU) i3
    rwa [List.map_map, List.map_map] at this
  have mem : ∀ {qs : List PyData} {q : PyData}, q ∈ qs → PyData.showableAll qs = true → q.showable = true ∧ q.shown ∈ PyData.shownAll qs := by
    intro qs
    induction qs with
    | nil => intro q z; cases z
    | cons r qs ih =>
      intro q z w
      have w' : r.showable = true ∧ PyData.showableAll qs = true := by simpa [PyData.showableAll] using w
      rw [PyData.shownAll]
      rcases List.mem_cons.mp z with z | z
      · subst z; exact ⟨w'.1, List.mem_cons_self⟩
      · exact ⟨(ih z w'.2).1, List.mem_cons_of_mem _ (ih z w'.2).2⟩
  obtain ⟨k1, k2⟩ := keys_shw (h := s.heap) hp fun kv hkv => by
    have hm : keyU kv.1 ∈ kvs.map fun kv => keyU kv.1 := by rw [← ek]; exact List.mem_map.mpr ⟨kv, hkv, rfl⟩
    have := mem hm s1
    exact ⟨this.1, z1 _ this.2⟩
  refine ⟨o, es, n, ho, hb.1, hdt, hd, ?_, ?_⟩
  · rw [zip_l hl2, ← ek]; exact k1
  · rw [zip_r hl2, k2]
    exact hv i1 i2 s2 z2
mutual
theorem DatU.shw (I : Inv X pins σ H s) (rg : RG X.K g H) : ∀ {d : D} {p : PyData} {v : V} {u : Value}, DatU g d p → RV X.K H d v → RelV v u → p.showable = true → p.shown.length ≤ sizeLine → Shw X.prog X.w s.heap u p
  | _, _, _, _, .non, r, ru, _, _ => by cases r; cases ru; exact .leaf .none (by simp only [PyData.shown]) ReprIs.none
  | _, _, _, _, .bl b, r, ru, _, _ => by cases r; cases ru; exact .leaf (.bool b) (by simp only [PyData.shown]) (ReprIs.bool b)
  | _, _, _, _, .int i, r, ru, hs, _ => by cases r; obtain ⟨t, rfl⟩ := ru; exact .leaf (.int i t) (by simp only [PyData.shown]) (ReprIs.int t (by simpa only [PyData.showable, decide_eq_true_eq] using hs))
  | _, _, _, _, .str x, r, ru, _, hz => by cases r; obtain ⟨t, rfl⟩ := ru; exact .leaf (.str x t) (by simp only [PyData.shown]) (ReprIs.str x t (by simpa only [PyData.shown] using hz))
  | _, _, _, _, .tup (ps := ps) hh, r, ru, hs, hz => by
    cases r with
    | tup h1 h2 =>
      cases ru
      obtain ⟨its, rv, ⟨o, ho, hc, n, hd⟩, _⟩ := I.tuple h1.seq
      have hz' : (tupleText (PyData.shownAll ps)).length ≤ sizeLine := by simpa only [PyData.shown] using hz
      exact .tuple ho hc hd (DatUs.shw I rg hh h2 rv (by simpa only [PyData.showable] using hs) fun t ht => Nat.le_trans (tupleText_mem_le ht) hz')
  | _, _, _, _, .lst (ps := ps) e hh, r, ru, hs, hz => by
    cases r
    cases ru
    obtain ⟨vs, e1, rl⟩ := rg.st _ _ e
    obtain ⟨its, rv, pl, _⟩ := I.list (.of e1)
    obtain ⟨o, ho, hc, n, hd⟩ := pl.isList
    have hz' : (listText (PyData.shownAll ps)).length ≤ sizeLine := by simpa only [PyData.shown] using hz
    exact .list ho hc hd (DatUs.shw I rg hh rl rv (by simpa only [PyData.showable] using hs) fun t ht => Nat.le_trans (listText_mem_le ht) hz')
  | _, _, _, _, .dct e hh, r, ru, hs, hz => by
    cases r
    cases ru
    obtain ⟨o, es, n, ho, hc, hd, hy, k1, k2⟩ := dict_shw I rg e (by have := hh.length; rwa [List.length_map] at this) hs hz fun rv rr a b => DatUs.shw I rg hh rv rr a b
    exact .dict ho hc hd hy k1 k2
theorem DatUs.shw (I : Inv X pins σ H s) (rg : RG X.K g H) : ∀ {ds : List D} {ps : List PyData} {vs : List V} {us : List Value}, DatUs g ds ps → RVs X.K H ds vs → Vals vs us → PyData.showableAll ps = true → (∀ t ∈ PyData.shownAll ps, t.length ≤ sizeLine) → Shws X.prog X.w s.heap us ps
  | _, _, _, _, .nil, r, ru, _, _ => by cases r; cases ru; exact .nil
  | _, _, _, _, .cons hh hs, r, ru, h1, h2 => by
    cases r with
    | cons r1 r2 =>
      cases ru with
      | cons u1 u2 =>
        rw [PyData.showableAll, Bool.and_eq_true] at h1
        rw [PyData.shownAll] at h2
        exact .cons (DatU.shw I rg hh r1 u1 h1.1 (h2 _ List.mem_cons_self)) (DatUs.shw I rg hs r2 u2 h1.2 fun t ht => h2 t (List.mem_cons_of_mem _ ht))
end
end
def rRep3 : RL := fun xs g Q => match xs with
  | [x] => ∃ p, DatU g x p ∧ p.showable = true ∧ p.depth ≤ 60 ∧ p.shown.length ≤ sizeLine ∧ Q (.str p.shown) g
  | _ => False
section
variable {X : Cx}
theorem cd_rep3 {kk : Nat} (hr : Room kk X.A) (hgd : X.A.guards = some []) : CallD X (.builtin "repr") rRep3 := by
  intro pins s σ H vs us Q I r ⟨g, ds, Q0, rg, rv, q, k⟩
  unfold rRep3 at q
  split at q
  · rename_i x
    obtain ⟨p, hd, hs, hdp, hz, q⟩ := q
    have flat : Dat g x p → p.hasDict = false → wpAny (model X.prog X.w) X.A (call (.builtin "repr") us) (EP X pins σ Q) X.xe s := fun h1 h2 =>
      cd_repr hr hgd pins s σ H vs us Q I r ⟨g, [x], Q0, rg, rv, ⟨_, h1, hs, h2, hdp, hz, q⟩, k⟩
    have fin := k _ g _ H q (.str p.shown) rg (Keep.refl _ _)
    have sh : ∀ {a : Addr} {T idr : String}, us = [.ref a] → ShowsBy X.prog X.w s.heap a p T idr → wpAny (model X.prog X.w) X.A (call (.builtin "repr") us) (EP X pins σ Q) X.xe s := fun e S => by
      have hu := hr.un
      rw [e]
      exact call_repr_slot (by omega) (S.typeIs s fun _ _ z => z) S.slotRepr (S.call X.A.in1 _ s _ hgd (by show X.A.units + 1 + p.depth < cLine; omega) (fun _ _ z => z) fun h' u tk hk => ⟨_, _, rfl, ⟨.str _, H, I.kept hk, ⟨_, rfl⟩, fin⟩⟩)
    obtain ⟨v, rfl, a⟩ := one_rv rv
    obtain ⟨u, rfl, ru⟩ := Vals.one r
    cases hd with
    | non => exact flat .non rfl
    | bl b => exact flat (.bl b) rfl
    | int i => exact flat (.int i) rfl
    | str y => exact flat (.str y) rfl
    | @tup ds ps hh =>
      cases a with
      | tup h1 h2 =>
        cases ru
        obtain ⟨its, rw', ⟨o, ho, hc, n, hdt⟩, _⟩ := I.tuple h1.seq
        have hz' : (tupleText (PyData.shownAll ps)).length ≤ sizeLine := by simpa only [PyData.shown] using hz
        exact sh rfl (shb_tuple ho hc hdt (DatUs.shw I rg hh h2 rw' (by simpa only [PyData.showable] using hs) fun t ht => Nat.le_trans (tupleText_mem_le ht) hz') hz)
    | @lst b ds ps e hh =>
      cases a
      cases ru
      obtain ⟨ws, e1, rl⟩ := rg.st _ _ e
      obtain ⟨its, rw', pl, _⟩ := I.list (.of e1)
      obtain ⟨o, ho, hc, n, hdt⟩ := pl.isList
      have hz' : (listText (PyData.shownAll ps)).length ≤ sizeLine := by simpa only [PyData.shown] using hz
      exact sh rfl (shb_list ho hc hdt (DatUs.shw I rg hh rl rw' (by simpa only [PyData.showable] using hs) fun t ht => Nat.le_trans (listText_mem_le ht) hz') hz)
    | dct e hh =>
      cases a
      cases ru
      obtain ⟨o, es, n, ho, hc, hdt, hy, k1, k2⟩ := dict_shw I rg e (by have := hh.length; rwa [List.length_map] at this) hs hz fun rw' rr a b => DatUs.shw I rg hh rw' rr a b
      exact sh rfl (shb_dict ho hc hdt hy k1 k2 hz)
  · exact q.elim
end
mutual
theorem short_up {B C : Nat} (hBC : B ≤ C) : ∀ p : PyData, p.leavesShort B = true → p.leavesShort C = true
  | .none, _ => rfl
  | .bool _, _ => rfl
  | .int i, h => by
    simp only [PyData.leavesShort, decide_eq_true_eq] at h ⊢
    exact Nat.le_trans h hBC
  | .str x, h => by simpa only [PyData.leavesShort] using h
  | .list xs, h => by
    simp only [PyData.leavesShort] at h ⊢
    exact short_ups hBC xs h
  | .tuple xs, h => by
    simp only [PyData.leavesShort] at h ⊢
    exact short_ups hBC xs h
  | .dict kvs, h => by
    simp only [PyData.leavesShort] at h ⊢
    exact short_upk hBC kvs h
theorem short_ups {B C : Nat} (hBC : B ≤ C) : ∀ ps : List PyData, PyData.leavesShortAll B ps = true → PyData.leavesShortAll C ps = true
  | [], _ => rfl
  | p :: ps, h => by
    rw [PyData.leavesShortAll, Bool.and_eq_true] at h ⊢
    exact ⟨short_up hBC p h.1, short_ups hBC ps h.2⟩
theorem short_upk {B C : Nat} (hBC : B ≤ C) : ∀ ps : List (PyData × PyData), PyData.leavesShortKv B ps = true → PyData.leavesShortKv C ps = true
  | [], _ => rfl
  | (k, v) :: ps, h => by
    rw [PyData.leavesShortKv, Bool.and_eq_true, Bool.and_eq_true] at h ⊢
    exact ⟨⟨short_up hBC k h.1.1, short_up hBC v h.1.2⟩, short_upk hBC ps h.2⟩
end
structure Sn (d b : Nat) (p : PyData) : Prop where
  shw : p.showable = true
  srt : p.leavesShort 60 = true
  dp : p.depth ≤ d
  bk : p.bulk ≤ b
structure Sns (d b : Nat) (ps : List PyData) : Prop where
  shw : PyData.showableAll ps = true
  srt : PyData.leavesShortAll 60 ps = true
  dp : PyData.depthAll ps ≤ d
  bk : PyData.bulkAll ps ≤ b
theorem Sns.nil {d b : Nat} : Sns d b [] := ⟨rfl, rfl, Nat.zero_le _, Nat.zero_le _⟩
theorem Sns.cons {d b c : Nat} {p : PyData} {ps : List PyData} (h : Sn d b p) (hs : Sns d c ps) : Sns d (b + 1 + c) (p :: ps) :=
  ⟨by rw [PyData.showableAll, h.shw, hs.shw]; rfl, by rw [PyData.leavesShortAll, h.srt, hs.srt]; rfl, by rw [PyData.depthAll]; exact Nat.max_le.mpr ⟨h.dp, hs.dp⟩, by rw [PyData.bulkAll]; have := h.bk; have := hs.bk; omega⟩
theorem Sns.app {d b c : Nat} {ps qs : List PyData} (h : Sns d b ps) (hs : Sns d c qs) : Sns d (b + c) (ps ++ qs) := by
  induction ps generalizing b with
  | nil => exact ⟨hs.shw, hs.srt, hs.dp, Nat.le_trans hs.bk (Nat.le_add_left _ _)⟩
  | cons p ps ih =>
    obtain ⟨h1, h2, h3, h4⟩ := h
    rw [PyData.showableAll, Bool.and_eq_true] at h1
    rw [PyData.leavesShortAll, Bool.and_eq_true] at h2
    rw [PyData.depthAll] at h3
    rw [PyData.bulkAll] at h4
    have i := ih (b := PyData.bulkAll ps) ⟨h1.2, h2.2, Nat.le_trans (Nat.le_max_right ..) h3, Nat.le_refl _⟩
    refine ⟨by rw [List.cons_append, PyData.showableAll, h1.1, i.shw]; rfl, by rw [List.cons_append, PyData.leavesShortAll, h2.1, i.srt]; rfl, ?_, ?_⟩
    · rw [List.cons_append, PyData.depthAll]
      exact Nat.max_le.mpr ⟨Nat.le_trans (Nat.le_max_left ..) h3, i.dp⟩
    · rw [List.cons_append, PyData.bulkAll]
      have := i.bk
      omega
theorem Sns.all {d b : Nat} : ∀ {ps : List PyData}, (∀ p ∈ ps, Sn d b p) → Sns d ((b + 1) * ps.length) ps
  | [], _ => ⟨rfl, rfl, Nat.zero_le _, Nat.zero_le _⟩
  | p :: ps, h => by
    have := Sns.cons (h p List.mem_cons_self) (Sns.all fun q hq => h q (List.mem_cons_of_mem _ hq))
    refine ⟨this.1, this.2, this.3, Nat.le_trans this.4 ?_⟩
    rw [List.length_cons, Nat.mul_add]
    omega
theorem Sn.tup {d b : Nat} {ps : List PyData} (h : Sns d b ps) : Sn (d + 1) b (.tuple ps) :=
  ⟨by rw [PyData.showable]; exact h.1, by rw [PyData.leavesShort]; exact h.2, by rw [PyData.depth]; have := h.3; omega, by rw [PyData.bulk]; exact h.4⟩
theorem Sn.lst {d b : Nat} {ps : List PyData} (h : Sns d b ps) : Sn (d + 1) b (.list ps) :=
  ⟨by rw [PyData.showable]; exact h.1, by rw [PyData.leavesShort]; exact h.2, by rw [PyData.depth]; have := h.3; omega, by rw [PyData.bulk]; exact h.4⟩
theorem Sn.mono {d b d' b' : Nat} {p : PyData} (h : Sn d b p) (hd : d ≤ d') (hb : b ≤ b') : Sn d' b' p := ⟨h.1, h.2, Nat.le_trans h.3 hd, Nat.le_trans h.4 hb⟩
theorem Sm.toN {d b : Nat} {p : PyData} (h : Sm d b p) : Sn d b p := ⟨h.show_, short_up (by decide) p h.short, h.dep, h.blk⟩
theorem Sn.fits {d b : Nat} {p : PyData} (h : Sn d b p) (hb : b ≤ 200000) : p.shown.length ≤ sizeLine := by
  have h1 := PyData.shown_le_bulk 60 (by decide) p h.srt
  have h2 := h.bk
  have h3 : (60 + 2) * p.bulk ≤ 62 * 200000 := Nat.mul_le_mul_left _ (by omega)
  rw [sizeLine_eq]
  omega
theorem rep3_of {x : D} {g : G} {Q : D → G → Prop} {p : PyData} {d b : Nat} (hd : DatU g x p) (h : Sn d b p) (q : Q (.str p.shown) g) (h1 : d ≤ 60 := by decide) (h2 : b ≤ 200000 := by decide) : rRep3 [x] g Q :=
  ⟨p, hd, h.shw, Nat.le_trans h.dp h1, h.fits h2, q⟩
end LF
set_option maxHeartbeats 1000000
namespace LF
open PySem PySem.Spec PyProof.Rows L2
variable [PP]
def rStrU : RL := fun xs g Q => match xs with
  | [.int i] => i.natAbs.log2 < 1920 ∧ Q (.str (toString i)) g
  | [.tup ds] => ∃ p d b, Dat g (.tup ds) p ∧ Sm d b p ∧ d ≤ 50 ∧ b ≤ 1000000 ∧ Q (.str p.shown) g
  | _ => False
section
variable {X : Cx}
theorem cd_str {kk : Nat} (hr : Room kk X.A) (hgd : X.A.guards = some []) : CallD X (.type "str") rStrU := by
  intro pins s σ H vs us Q I r ⟨g, ds, Q0, rg, rv, q, k⟩
  unfold rStrU at q
  split at q
  · obtain ⟨v, rfl, a⟩ := one_rv rv
    cases a
    exact call_str_int pins s σ H _ us Q I r ⟨_, rfl, q.1, k _ g _ H q.2 (.str _) rg (Keep.refl _ _)⟩
  · obtain ⟨v, rfl, a⟩ := one_rv rv
    obtain ⟨p, d, b, hd, hs, h1, h2, q⟩ := q
    have hu := hr.un
    have hdp := hs.dep
    have fin := k _ g _ H q (.str p.shown) rg (Keep.refl _ _)
    obtain ⟨u, rfl, ru⟩ := Vals.one r
    obtain ⟨as, rr⟩ := Dp.reads I _ _ _ (hd.dp rg a) ru
    cases a
    cases ru
    exact PySem.str_of_reads rr hs.show_ (fun z => by rw [hs.nod] at z; cases z) hgd (by omega) (fun _ _ z => z) (fun h' u tk hk => ⟨.str _, H, I.kept hk, ⟨_, rfl⟩, fin⟩) (PyData.shown_fits_bulk (by decide) (by decide) hs.short (Nat.le_trans hs.blk (Nat.le_trans h2 (by decide))))
  · exact q.elim
end
end LF
set_option maxHeartbeats 1000000
namespace LF
open PySem PySem.Spec PyProof.Rows L2 HT
section
variable {prog : Program} {w : World} {A : Around} {E : Value → Shared → Prop} {s : Shared}
theorem back_adjust (n : Nat) : Builtin.Slice.sliceAdjust none none (-1) (n : Int) = ((n : Int) - 1, -1) := by
  unfold Builtin.Slice.sliceAdjust
  rfl
theorem back_places (n : Nat) : Builtin.Slice.slicePlaces ((n : Int) - 1) (-1) (-1) = n := by
  unfold Builtin.Slice.slicePlaces
  rw [if_neg (by decide)]
  by_cases h : (n : Int) - 1 > -1
  · rw [if_pos h]
    have e : ((n : Int) - 1 - -1 - 1) / (- -1) = (n : Int) - 1 := by
      rw [show (- -1 : Int) = 1 from rfl, Int.ediv_one]; omega
    rw [e]; omega
  · rw [if_neg h]; omega
theorem back_applied {sl : Addr} {vl vu vs : Value} {n : Nat} {Q : Int × Int × Nat → Shared → Prop} (hs : s.heap.IsSliceOf sl vl vu vs) (pl : IsPart vl none) (pu : IsPart vu none) (ps : IsPart vs (some (-1)))
    (h : Q ((n : Int) - 1, -1, n) s) : wpAny (model prog w) A (Builtin.Slice.sliceApplied (.ref sl) (pure (n : Int))) Q E s := by
  obtain ⟨os, hos, hcs, hds⟩ := id hs
  unfold Builtin.Slice.sliceApplied Builtin.Slice.sliceFields
  refine wpAny_bind (wpAny_bind (wpAny_field hos hds (x := vl) rfl (wpAny_bind (wpAny_field hos hds (x := vu) rfl (wpAny_bind (wpAny_field hos hds (x := vs) rfl (wpAny_pure ?_)))))))
  refine wpAny_bind (slicePart_ ps ?_)
  show wpAny _ _ (if ((-1 : Int) == 0) = true then _ else _) _ _ s
  rw [if_neg (by decide)]
  refine wpAny_bind (slicePart_ pl (wpAny_bind (slicePart_ pu (wpAny_bind (wpAny_pure ?_)))))
  show wpAny _ _ (match Builtin.Slice.sliceAdjust none none (-1) (n : Int) with | (lo, hi) => pure (lo, (-1 : Int), Builtin.Slice.slicePlaces lo hi (-1))) _ _ s
  rw [back_adjust n]
  show wpAny _ _ (pure ((n : Int) - 1, (-1 : Int), Builtin.Slice.slicePlaces ((n : Int) - 1) (-1) (-1))) _ _ s
  rw [back_places]
  exact wpAny_pure h
theorem fm_congr {α β : Type} {f g : α → Option β} : ∀ {l : List α}, (∀ k ∈ l, f k = g k) → l.filterMap f = l.filterMap g
  | [], _ => rfl
  | x :: l, h => by
    rw [List.filterMap_cons, List.filterMap_cons, h x List.mem_cons_self, fm_congr fun k hk => h k (List.mem_cons_of_mem _ hk)]
theorem back_pick (xs : Array Value) : ((List.range xs.size).filterMap fun (k : Nat) => xs[((xs.size : Int) - 1 + (k : Int) * (-1)).toNat]?).toArray = xs.toList.reverse.toArray := by
  congr 1
  obtain ⟨l⟩ := xs
  show ((List.range l.length).filterMap fun (k : Nat) => l.toArray[((l.length : Int) - 1 + (k : Int) * (-1)).toNat]?) = l.reverse
  have h : ((List.range l.length).filterMap fun (k : Nat) => l.toArray[((l.length : Int) - 1 + (k : Int) * (-1)).toNat]?) = (List.range l.length).filterMap fun k => l.reverse[k]? := by
    refine fm_congr fun k hk => ?_
    have hk' := List.mem_range.mp hk
    rw [show ((l.length : Int) - 1 + (k : Int) * (-1)).toNat = l.length - 1 - k by omega, List.getElem?_toArray, List.getElem?_reverse hk']
  rw [h]
  have := PySem.W.krv_all l.reverse.toArray
  simpa using this
theorem getItem_tup_back {t sl : Addr} {items : Array Value} {vl vu vs : Value} {Q : Value → Shared → Prop} (ht : IsTup s.heap t items) (hs : s.heap.IsSliceOf sl vl vu vs) (pl : IsPart vl none) (pu : IsPart vu none) (ps : IsPart vs (some (-1)))
    (h : Q (.ref s.heap.objs.size) { s with heap := s.heap.push { cls := .type "tuple", data := .seq items.toList.reverse.toArray } }) (hsz : items.size ≤ sizeLine) : wpAny (model prog w) A (getItem (.ref t) (.ref sl)) Q E s := by
  have hok : sizeOk (.seq items.toList.reverse.toArray) := by
    show items.toList.reverse.toArray.size ≤ sizeLine
    rw [List.size_toArray, List.length_reverse, Array.length_toList]
    exact hsz
  obtain ⟨os, hos, hcs, hds⟩ := id hs
  have hTs : s.TypeIs (.ref sl) "slice" := ⟨os, hos, hcs⟩
  unfold getItem
  try with_reducible refine wpAny_holding ?_
  first | refine wpAny_bind (wpAny_pure ?_) | skip
  refine wpAny_bind (wpAny_sequenceKey ht.typeIs (by decide) ?_)
  refine wpAny_bind (wpAny_callSpecial?_slot (name := Str.ofString "__getitem__") ht.typeIs PyProof.Rows.slot_tuple_getitem (wpAny_call_entry PyProof.Rows.slot_tuple_getitem ht.typeIs entry_tuple_getitem ?_ (args_tuple_getitem _ _)))
  show wpAny _ _ (Builtin.Tuple.tupleItemsOf (.ref t) >>= _) _ _ s
  refine wpAny_bind (tupleItemsOf_ ht (wpAny_bind (wpAny_typeOf hTs ?_)))
  rw [if_pos (by decide)]
  refine wpAny_bind (back_applied hs pl pu ps ?_)
  show wpAny _ _ (if (((items.size : Int) - 1) == 0 && (-1 : Int) == 1 && items.size == items.size) = true then _ else _) _ _ s
  have hno : ¬ ((((items.size : Int) - 1) == 0 && (-1 : Int) == 1 && items.size == items.size) = true) := by
    rw [show ((-1 : Int) == 1) = false from rfl, Bool.and_false, Bool.false_and]
    decide
  rw [if_neg hno, back_pick]
  first
    | exact wpAny_bind (m := Builtin.Tuple.tupleExact _) (wpAny_newObj_type (wpAny_pure ⟨_, rfl, wpAny_pure h⟩) hok)
    | exact wpAny_bind (m := Builtin.Tuple.tupleExact _) (wpAny_newObj_type (wpAny_bind (wpAny_pure (wpAny_pure ⟨_, rfl, wpAny_pure h⟩))) hok)
end
variable [PP]
section
variable {X : Cx}
def tBck (K : PySem.W.Frag) (te : TE) (to : TO) : TE := fun σ H Q => te σ H fun x H1 => to σ H1 fun o H2 =>
  (∃ a xs k, x = .ref a ∧ o = some k ∧ SqL K H2 a xs ∧ (k = 1 ∨ k = -1) ∧ ∀ p, H2 p = none → Q (.ref p) (upd H2 p (.lst (if k = 1 then xs else xs.reverse)))) ∨
  ∃ a xs, x = .ref a ∧ o = some (-1) ∧ SqT K H2 a xs ∧ ∀ p, H2 p = none → Q (.ref p) (upd H2 p (.tup xs.reverse))
theorem pe_bck {e st : Expr} {te : TE} {to : TO} {p3 pos : Pos} (he : PE X e te) (hst : PO X (some st) to) : PE X (.Subscript e (.Slice none none (some st) p3) pos) (tBck X.K te to) := by
  refine ⟨fun pins s σ H Q I h => ?_⟩
  refine Subscript_ (thn (he.run pins s σ H _ I h) fun v s1 ⟨x, H1, I1, r1, q1⟩ => ?_)
  refine wpAny_Slice (thn (po_none.run pins s1 σ H1 (fun o H2 => o = none ∧ H2 = H1) I1 ⟨rfl, rfl⟩) fun vl s2 ⟨l, H2, I2, pl, el, e2⟩ => ?_)
  subst el e2
  refine thn (po_none.run pins s2 σ H2 (fun o H3 => o = none ∧ H3 = H2) I2 ⟨rfl, rfl⟩) fun vu s3 ⟨u, H3, I3, pu, eu, e3⟩ => ?_
  subst eu e3
  refine thn (hst.run pins s3 σ H3 _ I3 q1) fun vs s4 ⟨o, H4, I4, ps, q2⟩ => ?_
  have I5 : Inv X pins σ H4 { s4 with heap := s4.heap.push { cls := .type "slice", data := .fields #[vl, vu, vs] } } := I4.kept (t' := s4.toks) fun b ob q => Heap.get?_push_of_some _ q
  rcases q2 with ⟨a, xs, k, ex, eo, hx, hk, q⟩ | ⟨a, xs, ex, eo, hx, q⟩
  all_goals
    subst eo ex
    cases r1
  · obtain ⟨its, r, ht, hz⟩ := I5.list hx
    have hlen := r.length
    show wpAny (model X.prog X.w) X.A (subscriptTail e (.Slice none none (some st) p3) (.ref a) (.ref s4.heap.objs.size)) (EP X pins σ Q) X.xe { s4 with heap := s4.heap.push { cls := .type "slice", data := .fields #[vl, vu, vs] } }
    refine tail_any (ops := [.ref a, .ref s4.heap.objs.size]) ht.isList.typeIs (PySem.slot_list_getitem.lookup) ?_ (by with_unfolding_all rfl)
    refine wpAny_getItem_list_slice ht.isList (Heap.IsSliceOf.new _ vl vu vs) pl pu ps (by rcases hk with rfl | rfl <;> decide) ?_ (by rw [List.size_toArray]; omega)
    rcases hk with rfl | rfl
    · rw [pick_one]
      refine ⟨.ref _, _, I5.laid (t' := s4.toks) (o := .lst xs) (fun b ob q => Heap.get?_push_of_some _ q) (Nat.le_refl _) ?_, rfl, q _ (I5.hok.fresh (Nat.le_refl _))⟩
      exact ⟨hz, _, 0, r, Heap.get?_push_size _ rfl⟩
    · rw [PySem.W.krv_pick]
      refine ⟨.ref _, _, I5.laid (t' := s4.toks) (o := .lst xs.reverse) (fun b ob q => Heap.get?_push_of_some _ q) (Nat.le_refl _) ?_, rfl, q _ (I5.hok.fresh (Nat.le_refl _))⟩
      exact ⟨by rw [List.length_reverse]; exact hz, _, 0, r.reverse, Heap.get?_push_size _ rfl⟩
  · obtain ⟨its, r, ht, hz⟩ := I5.tuple hx
    have hlen := r.length
    show wpAny (model X.prog X.w) X.A (subscriptTail e (.Slice none none (some st) p3) (.ref a) (.ref s4.heap.objs.size)) (EP X pins σ Q) X.xe { s4 with heap := s4.heap.push { cls := .type "slice", data := .fields #[vl, vu, vs] } }
    refine tail_any (ops := [.ref a, .ref s4.heap.objs.size]) ht.typeIs (PyProof.Rows.slot_tuple_getitem.lookup) ?_ (by with_unfolding_all rfl)
    refine getItem_tup_back ht (Heap.IsSliceOf.new _ vl vu vs) pl pu ps ?_ (by rw [List.size_toArray]; omega)
    refine ⟨.ref _, _, I5.laid (t' := s4.toks) (o := .tup xs.reverse) (fun b ob q => Heap.get?_push_of_some _ q) (Nat.le_refl _) ?_, rfl, q _ (I5.hok.fresh (Nat.le_refl _))⟩
    exact ⟨by rw [List.length_reverse]; exact hz, its.reverse, r.reverse, IsTup.new _ _⟩
end
def rBck (x : D) (o : Option Int) (g : G) (Q : D → G → Prop) : Prop := match x, o with
  | .ref a, some k => ∃ xs, g a = some (.lst xs) ∧ (k = 1 ∨ k = -1) ∧ ∀ p, g p = none → Q (.ref p) (gset g p (.lst (if k = 1 then xs else xs.reverse)))
  | .tup xs, some k => k = -1 ∧ Q (.tup xs.reverse) g
  | _, _ => False
def eBck (te : EV) (to : OV) : EV := fun ε g Q => te ε g fun x g1 => to ε g1 fun o g2 => rBck x o g2 Q
theorem d_bck {X : Cx} {e st : Expr} {te : EV} {to : OV} {p3 pos : Pos} (he : DE X e te) (ho : DO' X (some st) to) : DE X (.Subscript e (.Slice none none (some st) p3) pos) (eBck te to) :=
  PE.imp (pe_bck he ho) fun σ H Q ⟨ε, g, Q0, hs, hg, ht, hq⟩ => ⟨ε, g, _, hs, hg, ht, fun d1 g1 v1 H1 q1 rv1 rg1 k1 => ⟨ε, g1, _, hs.keep hg k1, rg1, q1, fun o g2 H2 q2 rg2 k2 => by
    have r1 := rv1.keep rg1 k2
    unfold rBck at q2
    split at q2
    · cases r1
      obtain ⟨xs, e1, hk, q⟩ := q2
      obtain ⟨vs, e2, r2⟩ := rg2.st _ _ e1
      refine .inl ⟨_, vs, _, rfl, rfl, .of e2, hk, fun p hp => ?_⟩
      refine fin_lst rg2 ?_ q (fun d g' v H' q rv rg k => hq _ _ _ _ q rv rg (k1.trans (k2.trans k))) p hp
      split
      · exact r2
      · exact rev_rv r2
    · obtain ⟨rfl, q⟩ := q2
      cases r1 with
      | tup h1 h2 =>
        exact .inr ⟨_, _, rfl, rfl, h1.seq, fun p hp => fin_tup rg2 (rev_rv h2) q (fun d g' v H' q rv rg k => hq _ _ _ _ q rv rg (k1.trans (k2.trans k))) p hp⟩
    · exact q2.elim⟩⟩
theorem addt {xs ys : List D} {g : G} {Q : D → G → Prop} (h : xs.length + ys.length ≤ sizeLine) (q : Q (.tup (xs ++ ys)) g) : rAdd (.tup xs) (.tup ys) g Q := ⟨h, q⟩
theorem sldt {xs : List D} {lo hi : Option Int} {g : G} {Q : D → G → Prop} (q : Q (.tup (cutD xs lo hi)) g) : rSld (.tup xs) lo hi g Q := q
theorem addl {a b : Addr} {xs ys : List D} {g : G} {Q : D → G → Prop} (e1 : g a = some (.lst xs)) (e2 : g b = some (.lst ys)) (h : xs.length + ys.length ≤ sizeLine) (q : ∀ p, g p = none → Q (.ref p) (gset g p (.lst (xs ++ ys)))) : rAdd (.ref a) (.ref b) g Q := ⟨_, _, e1, e2, h, q⟩
theorem addi {i j : Int} {g : G} {Q : D → G → Prop} (q : Q (.int (i + j)) g) : rAdd (.int i) (.int j) g Q := q
theorem seq_set {i : Nat} {t : EV} {R : SV} {D0 : Es} {ε : En} {g : G} (h : t ε g fun x g1 => R D0 (ε.set i (some x)) g1) : (sSeq (sSet i t) R) D0 ε g := h
end LF
set_option maxHeartbeats 1000000
namespace LF
theorem len_app {α : Type} {xs ys : List α} {n m : Nat} (h1 : xs.length ≤ n) (h2 : ys.length ≤ m) : (xs ++ ys).length ≤ n + m := by rw [List.length_append]; omega
theorem len_rev {α : Type} {xs : List α} {n : Nat} (h1 : xs.length ≤ n) : xs.reverse.length ≤ n := by rw [List.length_reverse]; exact h1
theorem len_nil {α : Type} : ([] : List α).length ≤ 0 := Nat.le_refl _
theorem len_one {α : Type} {x : α} : [x].length ≤ 1 := Nat.le_refl _
theorem len_two {α : Type} {x y : α} : [x, y].length ≤ 2 := Nat.le_refl _
theorem len_three {α : Type} {x y z : α} : [x, y, z].length ≤ 3 := Nat.le_refl _
theorem len_cut {xs : List D} {lo hi : Option Int} {n : Nat} (h : xs.length ≤ n) : (cutD xs lo hi).length ≤ n := by
  unfold cutD
  rw [List.length_take, List.length_drop]
  omega
/-- how long at most -/
class Len (xs : List D) (n : outParam Nat) : Prop where
  le : xs.length ≤ n
instance {xs ys : List D} {n m : Nat} [a : Len xs n] [b : Len ys m] : Len (xs ++ ys) (n + m) := ⟨len_app a.le b.le⟩
instance {xs : List D} {n : Nat} [a : Len xs n] : Len xs.reverse n := ⟨len_rev a.le⟩
instance {xs : List D} {lo hi : Option Int} {n : Nat} [a : Len xs n] : Len (cutD xs lo hi) n := ⟨len_cut a.le⟩
instance : Len [] 0 := ⟨len_nil⟩
instance {x : D} : Len [x] 1 := ⟨len_one⟩
instance {x y : D} : Len [x, y] 2 := ⟨len_two⟩
theorem addt3 {xs ys : List D} {n m : Nat} {g : G} {Q : D → G → Prop} [a : Len xs n] [b : Len ys m] (q : Q (.tup (xs ++ ys)) g) (h3 : n + m ≤ 100000 := by decide) : rAdd (.tup xs) (.tup ys) g Q :=
  ⟨by have := a.le; have := b.le; rw [PySem.sizeLine_eq]; omega, q⟩
theorem bckt {xs : List D} {g : G} {Q : D → G → Prop} (q : Q (.tup xs.reverse) g) : rBck (.tup xs) (some (-1)) g Q := ⟨rfl, q⟩
end LF
set_option maxHeartbeats 1000000
namespace LF
open PySem PySem.Spec PyProof.Rows L2 HT PySem.SeqAt
variable [PP]
variable {X : L2.Cx}
def rEq0 (f : Bool → Bool) : RR := fun x y g Q => match x, y with
  | .tup ds, .tup [] => Q (.bl (f (decide (ds = [])))) g
  | _, _ => False
theorem od_eq0 (hu : X.A.units + 64 < cLine) : OpD X (compareOp .Eq) (rEq0 fun b => b) := by
  intro pins s σ H x y u w Q I rx ry ⟨g, dx, dy, Q0, rg, r1, r2, q, k⟩
  cases r1 <;> first | exact q.elim | skip
  cases r2 <;> first | exact q.elim | skip
  rename_i a vs ds h1 rv1 b ws es h2 rv2
  cases es with
  | cons _ _ => exact q.elim
  | nil =>
    cases rx; cases ry
    obtain ⟨i1, e1, t1, _⟩ := I.tuple h1.seq
    obtain ⟨i2, e2, t2, _⟩ := I.tuple h2.seq
    cases rv2
    have n1 := e1.length
    have n2 := e2.length
    have n3 := rv1.length
    have z : i2.length = 0 := by rw [← n2]; rfl
    refine eq_tupleAt (e := fun _ => true) t1 t2 (by omega) (fun j _ hj => absurd hj (by simp [z])) ?_
    have hb : ((List.range (min i1.toArray.size i2.toArray.size)).all (fun _ => true) && i1.toArray.size == i2.toArray.size) = decide (ds = []) := by
      simp only [List.size_toArray, z]
      cases ds with
      | nil => rw [← n1, ← n3]; rfl
      | cons d ds => rw [← n1, ← n3]; simp
    rw [hb]
    exact ⟨.bl _, H, I, rfl, k _ g _ H q (.bl _) rg (Keep.refl _ _)⟩
end LF
set_option maxHeartbeats 1000000
namespace LF
open PySem PySem.Spec PyProof.Rows L2 HT
variable [PP]
section
variable {X : Cx}
theorem cr_range1 : CallR X (.type "range") (fun vs H Q => ∃ j, vs = [V.int j] ∧ ∀ p, H p = none → Q (.ref p) (upd H p (.rng 0 j))) := by
  intro pins s σ H vs us Q I r h
  obtain ⟨j, rfl, q⟩ := h
  obtain ⟨u1, rfl, rj⟩ := Vals.one r
  obtain ⟨u, rfl⟩ := rj
  refine call_range_1 ⟨.ref s.heap.objs.size, upd H s.heap.objs.size (.rng 0 j), I.laid (t' := s.toks + 1 + 1) (fun b o e => Heap.get?_push_of_some _ e) (Nat.le_refl _) ?_, rfl, q _ (I.hok.fresh (Nat.le_refl _))⟩
  exact ⟨s.toks, u, s.toks + 1, Heap.get?_push_size _ rfl⟩
theorem op_nin_rng : OpR X (compareOp .NotIn) (fun x y H Q => ∃ i a lo hi, x = V.int i ∧ y = V.ref a ∧ H a = some (.rng lo hi) ∧ Q (.bl (!decide (lo ≤ i ∧ i < hi))) H) := by
  intro pins s σ H x y v u Q I rx ry h
  obtain ⟨i, a, lo, hi, rfl, rfl, ha, q⟩ := h
  obtain ⟨k, rfl⟩ := rx
  obtain rfl : u = Value.ref a := ry
  obtain ⟨t1, t2, t3, ho⟩ := I.hok a _ ha
  show wpAny _ _ (do return Value.bool (!(← contains (Value.ref a) (Value.int i k)))) _ _ s
  refine wpAny_bind (wpAny_contains_slot (T := "range") ⟨_, ho, rfl⟩ F.slot_range_contains (call_meets F.slot_range_contains ⟨_, ho, rfl⟩ F.entry_range_contains (F.args_range_contains_2 _ _) (q_contains a lo hi i t1 t2 t3 k)
    ⟨ho, wpAny_truthy_bool (wpAny_pure ⟨.bl _, H, I, rfl, ?_⟩)⟩))
  rw [place1]
  exact q
def rInRg (neg : Bool) : RR := fun x y g Q => match x, y with
  | .int i, .int n => Q (.bl (if neg = true then !decide (0 ≤ i ∧ i < n) else decide (0 ≤ i ∧ i < n))) g
  | _, _ => False
variable {a e : Expr} {ta te : EV} {p pos2 pos : Pos}
theorem d_ninRg (hg : Gl X "range") (hm : X.mg "range" = none) (hv : bootBuiltins "range" = some (.type "range")) (ha : DE X a ta) (he : DE X e te)
    (hs : starEach [e] X.env = (false, eval e X.env) :: starEach [] X.env := by rfl) (hpl : (backTo pos2 (starEach [] X.env)).any (·.1) = false := by rfl)
    (hk : behindInMarks .NotIn (.Call (.Name "range" p) [e] [] pos2) = false := by rfl) :
    DE X (.Compare a [.NotIn] [.Call (.Name "range" p) [e] [] pos2] pos) (eBin (rInRg true) ta te) :=
  PE.imp (pe_cmpR op_nin_rng ha (pe_callTy cr_range1 hg hm hv (da_cons he da_nil hs) (by decide +kernel) (by decide +kernel) hs hpl) hk) fun σ H Q ⟨ε, g, Q0, rs, rg, q, k⟩ =>
    ⟨ε, g, _, rs, rg, q, fun d g1 v H1 q1 rv rg1 k1 => ⟨ε, g1, fun ds g2 => match ds with | [y] => rInRg true d y g2 Q0 | _ => False, rs.keep rg k1, rg1, q1, fun ds g2 vs H2 q2 rvs rg2 k2 => by
      cases rvs with
      | nil => exact q2.elim
      | cons r1 r2 =>
        cases r2 with
        | cons _ _ => exact q2.elim
        | nil =>
          unfold rInRg at q2
          cases rv <;> first | exact q2.elim | skip
          cases r1 <;> first | exact q2.elim | skip
          exact ⟨_, rfl, fun p hp => ⟨_, _, _, _, rfl, rfl, upd_same, k _ g2 _ _ q2 (.bl _) (rg2.tupNew hp) (k1.trans (k2.trans (keep_new hp _)))⟩⟩⟩⟩
theorem d_inRg (hg : Gl X "range") (hm : X.mg "range" = none) (hv : bootBuiltins "range" = some (.type "range")) (ha : DE X a ta) (he : DE X e te)
    (hs : starEach [e] X.env = (false, eval e X.env) :: starEach [] X.env := by rfl) (hpl : (backTo pos2 (starEach [] X.env)).any (·.1) = false := by rfl)
    (hk : behindInMarks .In (.Call (.Name "range" p) [e] [] pos2) = false := by rfl) :
    DE X (.Compare a [.In] [.Call (.Name "range" p) [e] [] pos2] pos) (eBin (rInRg false) ta te) :=
  PE.imp (pe_cmpR op_in_rng ha (pe_callTy cr_range1 hg hm hv (da_cons he da_nil hs) (by decide +kernel) (by decide +kernel) hs hpl) hk) fun σ H Q ⟨ε, g, Q0, rs, rg, q, k⟩ =>
    ⟨ε, g, _, rs, rg, q, fun d g1 v H1 q1 rv rg1 k1 => ⟨ε, g1, fun ds g2 => match ds with | [y] => rInRg false d y g2 Q0 | _ => False, rs.keep rg k1, rg1, q1, fun ds g2 vs H2 q2 rvs rg2 k2 => by
      cases rvs with
      | nil => exact q2.elim
      | cons r1 r2 =>
        cases r2 with
        | cons _ _ => exact q2.elim
        | nil =>
          unfold rInRg at q2
          cases rv <;> first | exact q2.elim | skip
          cases r1 <;> first | exact q2.elim | skip
          exact ⟨_, rfl, fun p hp => ⟨_, _, _, _, rfl, rfl, upd_same, k _ g2 _ _ q2 (.bl _) (rg2.tupNew hp) (k1.trans (k2.trans (keep_new hp _)))⟩⟩⟩⟩
theorem b_ninRg (hg : Gl X "range") (hm : X.mg "range" = none) (hv : bootBuiltins "range" = some (.type "range")) (ha : DE X a ta) (he : DE X e te)
    (hs : starEach [e] X.env = (false, eval e X.env) :: starEach [] X.env := by rfl) (hpl : (backTo pos2 (starEach [] X.env)).any (·.1) = false := by rfl)
    (hk : behindInMarks .NotIn (.Call (.Name "range" p) [e] [] pos2) = false := by rfl) :
    DB X (.Compare a [.NotIn] [.Call (.Name "range" p) [e] [] pos2] pos) (bVal (eBin (rInRg true) ta te)) :=
  PT.imp (pt_cmpR op_nin_rng ha (pe_callTy cr_range1 hg hm hv (da_cons he da_nil hs) (by decide +kernel) (by decide +kernel) hs hpl) hk) fun σ H Q ⟨ε, g, Q0, rs, rg, q, k⟩ =>
    ⟨ε, g, _, rs, rg, q, fun d g1 v H1 q1 rv rg1 k1 => ⟨ε, g1, fun ds g2 => match ds with | [y] => rInRg true d y g2 (fun x g1 => ∃ b, x = .bl b ∧ Q0 b g1) | _ => False, rs.keep rg k1, rg1, q1, fun ds g2 vs H2 q2 rvs rg2 k2 => by
      cases rvs with
      | nil => exact q2.elim
      | cons r1 r2 =>
        cases r2 with
        | cons _ _ => exact q2.elim
        | nil =>
          unfold rInRg at q2
          cases rv <;> first | exact q2.elim | skip
          cases r1 <;> first | exact q2.elim | skip
          obtain ⟨b, eb, q3⟩ := q2
          cases eb
          exact ⟨_, rfl, fun p hp => ⟨_, _, _, _, rfl, rfl, upd_same, _, rfl, k _ g2 _ q3 (rg2.tupNew hp) (k1.trans (k2.trans (keep_new hp _)))⟩⟩⟩⟩
theorem b_inRg (hg : Gl X "range") (hm : X.mg "range" = none) (hv : bootBuiltins "range" = some (.type "range")) (ha : DE X a ta) (he : DE X e te)
    (hs : starEach [e] X.env = (false, eval e X.env) :: starEach [] X.env := by rfl) (hpl : (backTo pos2 (starEach [] X.env)).any (·.1) = false := by rfl)
    (hk : behindInMarks .In (.Call (.Name "range" p) [e] [] pos2) = false := by rfl) :
    DB X (.Compare a [.In] [.Call (.Name "range" p) [e] [] pos2] pos) (bVal (eBin (rInRg false) ta te)) :=
  PT.imp (pt_cmpR op_in_rng ha (pe_callTy cr_range1 hg hm hv (da_cons he da_nil hs) (by decide +kernel) (by decide +kernel) hs hpl) hk) fun σ H Q ⟨ε, g, Q0, rs, rg, q, k⟩ =>
    ⟨ε, g, _, rs, rg, q, fun d g1 v H1 q1 rv rg1 k1 => ⟨ε, g1, fun ds g2 => match ds with | [y] => rInRg false d y g2 (fun x g1 => ∃ b, x = .bl b ∧ Q0 b g1) | _ => False, rs.keep rg k1, rg1, q1, fun ds g2 vs H2 q2 rvs rg2 k2 => by
      cases rvs with
      | nil => exact q2.elim
      | cons r1 r2 =>
        cases r2 with
        | cons _ _ => exact q2.elim
        | nil =>
          unfold rInRg at q2
          cases rv <;> first | exact q2.elim | skip
          cases r1 <;> first | exact q2.elim | skip
          obtain ⟨b, eb, q3⟩ := q2
          cases eb
          exact ⟨_, rfl, fun p hp => ⟨_, _, _, _, rfl, rfl, upd_same, _, rfl, k _ g2 _ q3 (rg2.tupNew hp) (k1.trans (k2.trans (keep_new hp _)))⟩⟩⟩⟩
end
section
variable {prog : Program} {w : World} {A : Around} {E : Value → Shared → Prop} {s : Shared}
open SrtO
theorem collect_tup {a : Addr} {us : List Value} {R : List Value → Shared → Prop} (hT : s.heap.IsTuple a us.toArray) (hz : us.length ≤ sizeLine)
    (k : R us { s with heap := (s.heap.push (seqObj "list" #[] 0)).update s.heap.objs.size (Obj.mapSeq (· ++ us.toArray)) }) : wpAny (model prog w) A (collect (.ref a)) R E s := by
  obtain ⟨ob, e0, c0, m, d0⟩ := id hT
  unfold collect
  refine wpAny_bind (wpAny_runValue (codeAny_builtin entry_proto_collect' ?_)); show wpAny _ _ (do again (.builtin "list.__iadd__" ⟨[← newList [], .ref a], []⟩)) _ _ s
  refine wpAny_bind (wpAny_newList (wpAny_pure (And.intro (Code.quiet_builtin _ (by decide +kernel)) (codeAny_builtin entry_list_iadd' ?_))))
  show wpAny _ _ (Builtin.List.listExtendWith (.ref s.heap.objs.size) (.ref a) (.ref s.heap.objs.size)) _ _ { s with heap := s.heap.push (seqObj "list" #[] 0) }
  unfold Builtin.List.listExtendWith; have e1 : (s.heap.push (seqObj "list" #[] 0)).get? a = some ob := Heap.get?_push_of_some _ e0
  refine wpAny_bind (wpAny_typeOf (T := "tuple") ⟨ob, e1, c0⟩ ?_)
  have tt : (Value.type "tuple" == Value.type "tuple") = true := rfl
  rw [if_pos (show _ = true by rw [tt]; simp)]
  refine wpAny_bind (listItems_at e1 d0 ?_)
  refine wpAny_bind (listItems_at (n := 0) (xs := #[]) (Heap.get?_push_size _ rfl) rfl ?_); rw [if_neg (by simp)]
  refine wpAny_bind (listUpdate_at (n := 0) (xs := #[]) (Heap.get?_push_size _ rfl) rfl ?_ (Nat.zero_le _) (show (#[] ++ us.toArray).size ≤ sizeLine + 1 by simp only [Array.size_append, List.size_toArray, List.length_nil]; omega))
  refine wpAny_pure ?_; show wpAny (model prog w) A (do
    let o ← load s.heap.objs.size
    match o.data with
    | .seq xs _ => pure xs.toList
    | _ => unsupported "internal:collect") R E { s with heap := (s.heap.push (seqObj "list" #[] 0)).update s.heap.objs.size (Obj.mapSeq (· ++ us.toArray)) }
  refine wpAny_bind (wpAny_load (get?_update_seq (Heap.get?_push_size _ rfl) _) ?_); show wpAny _ _ (pure ((#[] : Array Value) ++ us.toArray).toList) R E _
  rw [show ((#[] : Array Value) ++ us.toArray).toList = us by simp]; exact wpAny_pure k
theorem sort_tup {a : Addr} {us : List Value} {lt : Value → Value → Bool} {R : Value → Shared → Prop} (O : Swo lt) (hT : s.heap.IsTuple a us.toArray) (hz : us.length ≤ sizeLine)
    (hS : 2 ≤ us.length → ∀ (h' : Heap) (b : Addr), SortableO prog w A.in1.in1 { s with heap := h' } b us lt)
    (k : ∀ out : List Value, Srtd lt out → Stb lt out us → R (.ref (s.heap.objs.size + 1)) { s with heap := sortedAll s.heap us out.toArray }) :
    wpAny (model prog w) A (call (.builtin "sorted") [.ref a]) R E s := by
  refine Calls.call_function_entry kind_sorted plain_sorted entry_sorted (args_sorted1 _) (Eq.mpr rfl ?_)
  unfold Builtin.«sorted»
  refine wpAny_bind (m := checkCount "sorted" 1 1 _) (wpAny_pure (wpAny_bind (collect_tup hT hz (wpAny_bind (wpAny_newList ?_ hz)))))
  have n1 : ((s.heap.push (seqObj "list" #[] 0)).update s.heap.objs.size (Obj.mapSeq (· ++ us.toArray))).objs.size = s.heap.objs.size + 1 := by rw [Heap.size_update, size_push']
  have n2 : (((s.heap.push (seqObj "list" #[] 0)).update s.heap.objs.size (Obj.mapSeq (· ++ us.toArray))).push (seqObj "list" us.toArray 0)).get? (s.heap.objs.size + 1) = some (seqObj "list" us.toArray 0) := by rw [← n1]; exact Heap.get?_push_size _ rfl
  show wpAny _ _ _ _ _ { s with heap := ((s.heap.push (seqObj "list" #[] 0)).update s.heap.objs.size (Obj.mapSeq (· ++ us.toArray))).push (seqObj "list" us.toArray 0) }
  rw [n1]
  refine wpAny_bind (wpAny_holding (wpAny_call_entry slot_list_sort ⟨_, n2, rfl⟩ entry_list_sort (list_sort_ord O n2 hz (fun h2 => hS h2 _ _) fun out p1 p2 => ⟨_, rfl, ?_⟩) (args_list_sort _)))
  exact wpAny_pure ⟨_, rfl, k out p1 p2⟩
end
section
variable {X : Cx}
open SrtO
/-- sorted(t), a tuple of ints -/
def rSortT : RL := fun xs g Q => match xs with
  | [.tup ds] => ∃ ns : List Int, ds = ns.map D.int ∧ ∀ (ms : List Int) p, ms.Perm ns → ms.Pairwise (· ≤ ·) → g p = none → Q (.ref p) (gset g p (.lst (ms.map D.int)))
  | _ => False
theorem cd_sortT : CallD X (.builtin "sorted") rSortT := by
  intro pins s σ H vs us Q I r ⟨g, ds, Q0, rg, rv, q, k⟩
  unfold rSortT at q
  split at q
  · rename_i es
    obtain ⟨v, rfl, av⟩ := one_rv rv
    obtain ⟨ns, rfl, q⟩ := q
    cases av
    rename_i p ws h1 rvs
    have ew : ws = ns.map V.int := rvs.ints
    subst ew
    obtain ⟨its, e1, t1, hz⟩ := I.tuple h1.seq
    rw [Vals.ref1 r]
    have hi := e1.ints
    refine sort_tup swo_int t1 (by rw [← e1.length]; exact hz) (fun h2 h' b => ints_sortable hi h2) fun out p1 p2 => ?_
    obtain ⟨k1, k2, k3⟩ := ints_out hi p1 p2
    obtain ⟨ep, he⟩ := PyProof.Rows.sortedAll_at s.heap its out.toArray
    have hl : ((out.map iv).map V.int).length ≤ sizeLine := by
      rw [List.length_map] at hz
      rw [List.length_map, k2.length_eq]; exact hz
    exact ⟨.ref _, upd H (s.heap.objs.size + 1) (.lst ((out.map iv).map V.int)), I.laid (t' := s.toks) (fun _ _ => PyProof.Rows.sortedAll_old) (Nat.le_succ _) ⟨hl, out, ep, vals_of_ints k1, he⟩, rfl,
      fin_lst rg (RVs.ofInts _) (fun p' hp' => q _ p' k2 k3 hp') k _ (I.hok.fresh (Nat.le_succ _))⟩
  · exact q.elim
end
end LF
set_option maxHeartbeats 1000000
namespace LF
open PySem PySem.Spec PyProof.Rows L2 HT PySem.SeqAt
variable [PP]
variable {X : L2.Cx}
def rNe0 : RR := fun x y g Q => match x, y with
  | .ref a, .ref b => ∃ ds, g a = some (.lst ds) ∧ g b = some (.lst []) ∧ Q (.bl (decide (ds ≠ []))) g
  | _, _ => False
theorem od_ne0 (hu : X.A.units + 64 < cLine) : OpD X (compareOp .NotEq) rNe0 := by
  intro pins s σ H x y u w Q I rx ry ⟨g, dx, dy, Q0, rg, r1, r2, q, k⟩
  cases r1 <;> first | exact q.elim | skip
  cases r2 <;> first | exact q.elim | skip
  obtain ⟨ds, e1, e2, q⟩ := q
  cases rx; cases ry
  obtain ⟨vs, h1, rv1⟩ := rg.st _ _ e1
  obtain ⟨ws, h2, rv2⟩ := rg.st _ _ e2
  obtain ⟨i1, t1, pl1, _⟩ := I.list (.of h1)
  obtain ⟨i2, t2, pl2, _⟩ := I.list (.of h2)
  have n1 := t1.length
  have n2 := t2.length
  have n3 := rv1.length
  have n4 := rv2.length
  have z : i2.length = 0 := by rw [← n2, ← n4]; rfl
  cases ds with
  | nil =>
    have z1 : i1.length = 0 := by rw [← n1, ← n3]; rfl
    refine RcNeAt.lists (e := fun _ => true) pl1.isList pl2.isList (by simp only [List.size_toArray]; omega) (by omega) (fun j _ hj => absurd hj (by simp [z])) _ _ _ _ ?_
    have hb : (!(List.range i1.toArray.size).all (fun _ => true)) = decide (([] : List D) ≠ []) := by
      simp only [List.size_toArray, z1]; rfl
    rw [hb]
    exact ⟨.bl _, H, I, rfl, k _ g _ H q (.bl _) rg (Keep.refl _ _)⟩
  | cons d ds =>
    refine RcNeAt.lists_lengths pl1.isList pl2.isList (by simp only [List.size_toArray, z, ← n1, ← n3]; simp) (by omega) _ _ _ _ ?_
    exact ⟨.bl _, H, I, rfl, k _ g _ H q (.bl _) rg (Keep.refl _ _)⟩
end LF
set_option maxHeartbeats 1000000
namespace LF
open PySem PySem.Spec PyProof.Rows L2 HT
section
variable [p0 : PP] {X : Cx} {x : Str} {C : Addr} {body suite : List Stmt} {b₀ : Stmt} {np pos pos' : Pos} {ct : Nat → Addr} {cat : Nat → Option Bool} {ts : SV} {tb : EY → SV} {E : EY}
theorem s_tryOnly (hs : X.stack = X.env :: X.outer) (hf : X.env.frame = some X.env.locals) (hc : L2.Names X x (.ref C)) (tk : L2.Takes X (lW X.K ct E))
    (hcat : ∀ c b, cat c = some b → PySem.W.exmOne X.K (.ref (ct c)) (.ref C) = some b)
    (hb : ∀ (E' : EY) (pn : List (Addr × Obj)) (xe : Value → Shared → Prop) [PP], L2.Takes (X.tr pn xe) (lW X.K ct E') → PassesOwn (model X.prog X.w) X.A X.env xe → DSs (X.tr pn xe) body (tb E'))
    (hsu : ∀ (a : Addr) (oe : Obj) (cls : Value) (d : Option Addr) (pn : List (Addr × Obj)) [PP], Zc cls d oe → (∃ vs, oe.data = .fields vs) → DSs (X.suite a ((a, oe) :: pn)) (b₀ :: suite) ts) :
    DS X (.Try body [.ExceptHandler (some (.Name x np)) none (b₀ :: suite) pos'] [] [] pos) (sTryOnly cat ts tb E) := by
  let tS : Addr → Value → Option Addr → TS := fun a cls d Dn σ H => ∃ (pp : PP), @lS pp X.K ts Dn σ H
  let tB : WX → TS := fun W Dn σ H => ∃ (pp : PP) (E' : EY), (∀ cls d σ H, @lW pp X.K ct E' cls d σ H → W cls d σ H) ∧ @lS pp X.K (tb E') Dn σ H
  have h1 : ∀ (a : Addr) (oe : Obj) (cls : Value) (d : Option Addr) (pn : List (Addr × Obj)), Zc cls d oe → (∃ vs, oe.data = .fields vs) → PSs (X.suite a ((a, oe) :: pn)) (b₀ :: suite) (tS a cls d) := by
    intro a oe cls d pn hz hv
    refine ⟨fun pins s σ H Dn I h => ?_⟩
    obtain ⟨pp, h⟩ := h
    exact (@hsu a oe cls d pn pp hz hv).run pins s σ H Dn I h
  have h2 : ∀ (W : WX) (pn : List (Addr × Obj)) (xe : Value → Shared → Prop), L2.Takes (X.tr pn xe) W → PassesOwn (model X.prog X.w) X.A X.env xe → PSs (X.tr pn xe) body (tB W) := by
    intro W pn xe tkW hp
    refine ⟨fun pins s σ H Dn I h => ?_⟩
    obtain ⟨pp, E', hw, h⟩ := h
    exact (@hb E' pn xe pp (tkW.imp hw) hp).run pins s σ H Dn I h
  refine PS.imp (L2.ps_try_only hs hf hc tk h2 h1) ?_
  intro Dn σ H ⟨ε, g, D0, rs, rg, q, o⟩
  refine ⟨ppB p0 g H, _, fun cls d σ' H' hw => ?_, ε, g, D0, rs, @RG.mk (ppB p0 g H) _ _ _ rg.st ⟨rg.pp, Keep.refl _ _⟩, q, @EsOk.mk (ppB p0 g H) _ _ _ _ _ (fun _ _ _ _ z a r k => o.nx _ _ _ _ z a (rgB r).1 k) (fun _ _ _ _ z a r k => o.rt _ _ _ _ z a (rgB r).1 k)
    (fun _ _ _ _ z a r k => o.bk _ _ _ _ z a (rgB r).1 k) (fun _ _ _ _ z a r k => o.ct _ _ _ _ z a (rgB r).1 k)⟩
  obtain ⟨c, fs, ε', g', z, xr, rs', rg'⟩ := hw
  obtain ⟨hst, hpp, hkeep⟩ := rg'
  cases hcc : cat c with
  | none => rw [hcc] at z; exact z.elim
  | some b =>
    rw [hcc] at z
    have ex := hcat c b hcc
    rw [← xr.1] at ex
    cases b with
    | false => exact ⟨false, ex, fun y => Bool.noConfusion y, fun _ => ⟨c, fs, ε', g', z, xr, rs', ⟨hst, hpp⟩⟩⟩
    | true =>
      refine ⟨true, ex, fun _ a na => ?_, fun y => Bool.noConfusion y⟩
      refine ⟨p0, ε', g', _, rs', @RG.mk p0 _ _ _ hst hpp, z, ?_⟩
      exact @EsOk.mk p0 _ _ _ _ _ (fun _ _ _ _ y a r k => o.nx _ _ _ _ y a r (hkeep.trans k)) (fun _ _ _ _ y a r k => o.rt _ _ _ _ y a r (hkeep.trans k))
        (fun _ _ _ _ y a r k => o.bk _ _ _ _ y a r (hkeep.trans k)) (fun _ _ _ _ y a r k => o.ct _ _ _ _ y a r (hkeep.trans k))
end
end LF
set_option maxHeartbeats 1000000
namespace LF
open PySem PySem.Spec PyProof.Rows L2
abbrev Ky := Int ⊕ Str
def dK : Ky → D
  | .inl i => .int i
  | .inr x => .str x
def vK : Ky → V
  | .inl i => .int i
  | .inr x => .str x
def cK : Ky → Int ⊕ List Nat
  | .inl i => .inl i
  | .inr x => .inr x.cps.toList
def dL (l : List Ky) : D := .tup (l.map dK)
def okS (sh : Nat → Bool) : Nat → List Ky → Prop
  | _, [] => True
  | i, .inl _ :: r => sh i = false ∧ okS sh (i + 1) r
  | i, .inr _ :: r => sh i = true ∧ okS sh (i + 1) r
def ltL (a b : List Ky) : Bool := lexLt itemOrd (a.map cK) (b.map cK)
theorem cK_inj {a b : Ky} (h : cK a = cK b) : a = b := by
  cases a with
  | inl i => cases b with
    | inl j => exact congrArg Sum.inl (Sum.inl.inj h)
    | inr y => cases h
  | inr x => cases b with
    | inl j => cases h
    | inr y =>
      have e : x.cps = y.cps := Array.toList_inj.mp (Sum.inr.inj h)
      cases x; cases y
      simp only at e
      rw [e]
theorem cKs_inj : ∀ {a b : List Ky}, a.map cK = b.map cK → a = b
  | [], [], _ => rfl
  | [], _ :: _, h => by cases h
  | _ :: _, [], h => by cases h
  | x :: a, y :: b, h => by
    rw [List.map_cons, List.map_cons] at h
    injection h with h1 h2
    rw [cK_inj h1, cKs_inj h2]
theorem vK_inj {a b : Ky} (h : vK a = vK b) : a = b := by
  cases a <;> cases b <;> first | (cases h; rfl) | cases h
theorem vKs_inj : ∀ {a b : List Ky}, a.map vK = b.map vK → a = b
  | [], [], _ => rfl
  | [], _ :: _, h => by cases h
  | _ :: _, [], h => by cases h
  | x :: a, y :: b, h => by
    rw [List.map_cons, List.map_cons] at h
    injection h with h1 h2
    rw [vK_inj h1, vKs_inj h2]
theorem ltL_asym {a b : List Ky} (h : ltL a b = true) : ltL b a = false := by
  cases e : ltL b a with
  | false => rfl
  | true =>
    have h1 := (listOrd itemOrd).trans _ _ _ h e
    have h2 := (listOrd itemOrd).irrefl (a.map cK)
    exact absurd (h1.symm.trans h2) (by decide)
theorem ltL_tr {a b c : List Ky} (h1 : ltL b a = false) (h2 : ltL c b = false) : ltL c a = false := by
  cases e : ltL c a with
  | false => rfl
  | true =>
    rcases (listOrd itemOrd).negTrans _ (b.map cK) _ e with z | z
    · exact absurd (z.symm.trans h2) (by decide)
    · exact absurd (z.symm.trans h1) (by decide)
/-- two that come not behind one another are one -/
theorem ltL_eq {a b : List Ky} (h1 : ltL a b = false) (h2 : ltL b a = false) : a = b := cKs_inj ((listOrd itemOrd).total _ _ h1 h2)
theorem swo_ltL {α : Type} (k : α → List Ky) : SrtO.Swo fun v u => ltL (k v) (k u) := ⟨fun _ _ h => ltL_asym h, fun _ _ _ h1 h2 => ltL_tr h1 h2⟩
/-- a tuple of the heap, by its items -/
def IsTp (h : Heap) (sh : Nat → Bool) (v : Value) (l : List Ky) : Prop := ∃ a o xs n, v = .ref a ∧ h.get? a = some o ∧ o.cls = .type "tuple" ∧ o.data = .seq xs n ∧ tupItems sh 0 xs.toList = some (l.map cK)
theorem IsTp.keeps {h h' : Heap} {sh : Nat → Bool} {v : Value} {l : List Ky} (t : IsTp h sh v l) (k : ∀ b o, h.get? b = some o → o.cls = .type "tuple" → h'.get? b = some o) : IsTp h' sh v l :=
  let ⟨a, o, xs, n, e, ho, hc, hd, hi⟩ := t; ⟨a, o, xs, n, e, k _ _ ho hc, hc, hd, hi⟩
theorem IsTp.first {h : Heap} {sh : Nat → Bool} {v : Value} {l : List Ky} (t : IsTp h sh v l) (hne : l ≠ []) : ∃ f, TupOf h sh v f := by
  obtain ⟨a, o, xs, n, e, ho, hc, hd, hi⟩ := t
  obtain ⟨ys⟩ := xs
  simp only at hi
  cases l with
  | nil => exact absurd rfl hne
  | cons y l =>
    cases ys with
    | nil => simp [tupItems] at hi
    | cons f ys =>
      refine ⟨f, a, o, _, n, e, ho, hc, hd, rfl, fun hs => ?_, fun hs => ?_⟩
      · obtain ⟨i, t, _, rfl, _⟩ := tupItems_int hs hi
        exact ⟨i, t, rfl⟩
      · obtain ⟨x, t, _, rfl, _⟩ := tupItems_str hs hi
        exact ⟨x, t, rfl⟩
theorem firstsS {h : Heap} {sh : Nat → Bool} {k : Value → List Ky} : ∀ {vs : List Value}, (∀ v ∈ vs, IsTp h sh v (k v) ∧ k v ≠ []) → ∃ fs, TupsOf h sh vs fs ∧ fs.length = vs.length
  | [], _ => ⟨[], .nil, rfl⟩
  | v :: vs, hp => by
    obtain ⟨fs, h1, h2⟩ := firstsS fun u hu => hp u (List.mem_cons_of_mem _ hu)
    obtain ⟨f, h3⟩ := (hp v List.mem_cons_self).1.first (hp v List.mem_cons_self).2
    exact ⟨f :: fs, .cons h3 h1, by rw [List.length_cons, List.length_cons, h2]⟩
section
variable {prog : Program} {w : World} {A : Around} {E : Value → Shared → Prop} {s : Shared}
theorem tups_sortableO {a : Addr} {vs : List Value} {sh : Nat → Bool} {k : Value → List Ky} (h0 : 0 < vs.length) (hp : ∀ v ∈ vs, IsTp s.heap sh v (k v) ∧ k v ≠ []) (ha : ∀ o, s.heap.get? a = some o → o.cls ≠ .type "tuple") : SrtO.SortableO prog w A s a vs fun v u => ltL (k v) (k u) := by
  intro h' keep
  have hp' : ∀ v ∈ vs, IsTp h' sh v (k v) ∧ k v ≠ [] := fun v hm => ⟨(hp v hm).1.keeps fun b o e c => keep b o (fun z => by subst z; exact ha o e c) e, (hp v hm).2⟩
  obtain ⟨fs, h1, h2⟩ := firstsS hp'
  refine ⟨tuples' true, fun Q E hq => tup_kind (s := { s with heap := h' }) (by omega) h1 hq, ?_⟩
  intro p q hm hm'
  obtain ⟨a1, o1, xs, n1, e1, g1, c1, d1, i1⟩ := (hp' _ hm).1
  obtain ⟨a2, o2, ys, n2, e2, g2, c2, d2, i2⟩ := (hp' _ hm').1
  show wpAny (model prog w) A (keyLt' (tuples' true) p.1 q.1) (fun r s' => s' = { s with heap := h' } ∧ r = ltL (k p.1) (k q.1)) (fun _ _ => False) { s with heap := h' }
  rw [e1, e2]
  exact PySem.W.kat_lt (s := { s with heap := h' }) g1 d1 g2 d2 (tup_lex xs.toList ys.toList 0 _ _ i1 i2 (by rw [Array.length_toList, Array.length_toList]) ⟨rfl, by rw [← e1, ← e2]; rfl⟩)
theorem sorted_tupsO {l : Addr} {vs : List Value} {sh : Nat → Bool} {k : Value → List Ky} {Q : Value → Shared → Prop} (hl : s.heap.IsList l vs.toArray) (hz : vs.length ≤ sizeLine) (hp : ∀ v ∈ vs, IsTp s.heap sh v (k v)) (hne : 2 ≤ vs.length → ∀ v ∈ vs, k v ≠ [])
    (h : ∀ (h' : Heap) (d : Addr) (out : List Value), SrtO.Srtd (fun v u => ltL (k v) (k u)) out → SrtO.Stb (fun v u => ltL (k v) (k u)) out vs → (∀ b o, s.heap.get? b = some o → h'.get? b = some o) → s.heap.objs.size ≤ d → (∃ n, h'.get? d = some (seqObj "list" out.toArray n)) → Q (.ref d) { s with heap := h' }) :
    wpAny (model prog w) A (call (.builtin "sorted") [.ref l]) Q E s := by
  refine SrtO.sorted_ord (swo_ltL k) hl hz (fun h2 h₁ a ha kk => ?_) fun out hs hb => ?_
  · refine tups_sortableO (s := { s with heap := h₁ }) (sh := sh) (by omega) (fun v hm => ⟨(hp v hm).keeps fun b o e _ => (kk b o e).2, hne h2 v hm⟩) fun o e => ?_
    have e' : some o = some (seqObj "list" vs.toArray 0) := e.symm.trans ha
    cases e'
    intro c
    exact absurd (Value.type.inj c) (by decide)
  · exact h _ _ out hs hb (fun b o e => sortedAll_old e) (Nat.le_succ _) (sortedAll_at s.heap vs out.toArray)
end
section
variable [PP] {X : L2.Cx} {sh : Nat → Bool}
def rSrtS (sh : Nat → Bool) (K : PySem.W.Frag) : List V → Hp → VK → Prop := fun vs H Q => ∃ (a : Addr) (xs : List V) (k : V → List Ky), vs = [V.ref a] ∧ SqL K H a xs ∧ (∀ x ∈ xs, ∃ t, x = V.ref t ∧ SqT K H t ((k x).map vK) ∧ okS sh 0 (k x) ∧ (2 ≤ xs.length → k x ≠ [])) ∧
  ∀ ys p, SrtO.Srtd (fun v u => ltL (k v) (k u)) ys → SrtO.Stb (fun v u => ltL (k v) (k u)) ys xs → H p = none → Q (.ref p) (upd H p (.lst ys))
theorem items_ok {sh : Nat → Bool} : ∀ {l : List Ky} {i : Nat} {us : List Value}, okS sh i l → Vals (l.map vK) us → tupItems sh i us = some (l.map cK)
  | [], i, us, _, r => by cases r; rfl
  | .inl n :: l, i, us, h, r => by
    cases r with
    | cons r1 r2 =>
      obtain ⟨t, rfl⟩ := r1
      rw [tupItems, if_neg (by rw [h.1]; decide), items_ok h.2 r2]
      rfl
  | .inr x :: l, i, us, h, r => by
    cases r with
    | cons r1 r2 =>
      obtain ⟨t, rfl⟩ := r1
      rw [tupItems, if_pos h.1, items_ok h.2 r2]
      rfl
theorem cr_srtS : CallR X (.builtin "sorted") (rSrtS sh X.K) := by
  intro pins s σ H vs us Q I r h
  obtain ⟨a, xs, k, rfl, hs, hx, q⟩ := h
  obtain ⟨its, rv, hl, hz⟩ := I.list hs
  obtain ⟨u, rfl, ru⟩ := vals1 r
  obtain rfl : u = Value.ref a := ru
  obtain ⟨e1, e2⟩ := refs_back rv fun x m => by
    obtain ⟨t, e, _⟩ := hx x m
    exact ⟨t, e⟩
  have mem : ∀ v ∈ its, ∃ t, v = Value.ref t ∧ V.ref t ∈ xs := fun v hv => by
    obtain ⟨t, rfl⟩ := e2 v hv
    exact ⟨t, rfl, by rw [e1]; exact List.mem_map.mpr ⟨_, hv, rfl⟩⟩
  have hlen : xs.length = its.length := rv.length
  refine sorted_tupsO (sh := sh) (k := fun u => k (backV u)) hl.isList (by rw [← rv.length]; exact hz) (fun v hv => ?_) (fun h2 v hv => ?_) fun h' d out h1 h2 kp hd hn => ?_
  · obtain ⟨t, rfl, hm⟩ := mem v hv
    obtain ⟨t', e, ht, hok, _⟩ := hx _ hm
    cases e
    obtain ⟨its2, r2, ⟨o, ho, hc, n, hd⟩, _⟩ := I.tuple ht
    exact ⟨t, o, _, n, rfl, ho, hc, hd, items_ok hok r2⟩
  · obtain ⟨t, rfl, hm⟩ := mem v hv
    obtain ⟨t', e, ht, hok, hne⟩ := hx _ hm
    exact hne (by omega)
  · have h3 : ∀ u ∈ out, ∃ a, u = Value.ref a := fun u hu => e2 u (h2.perm.mem_iff.mp hu)
    obtain ⟨n, hn⟩ := hn
    have hb : SrtO.Stb (fun v u => ltL (k v) (k u)) (out.map backV) xs := by
      rw [e1]
      exact SrtO.Stb.map (swo_ltL k) backV h2
    refine ⟨.ref d, upd H d (.lst (out.map backV)), I.laid (t' := s.toks) kp hd ⟨?_, out, n, vals_back h3, hn⟩, rfl, q _ d (SrtO.srtd_map h1) hb (I.hok.fresh hd)⟩
    rw [hb.len]
    exact hz
def rSortS (sh : Nat → Bool) : RL := fun xs g Q => match xs with
  | [x] => ∃ ps : List (List Ky), itemsOf x g (ps.map dL) ∧ (∃ a, x = .ref a) ∧ (∀ p ∈ ps, okS sh 0 p ∧ (2 ≤ ps.length → p ≠ [])) ∧ ∀ (qs : List (List Ky)) p, qs.Perm ps → qs.Pairwise (fun a b => ltL b a = false) → g p = none → Q (.ref p) (gset g p (.lst (qs.map dL)))
  | _ => False
theorem kys_rv {K : PySem.W.Frag} {H : Hp} : ∀ {l : List Ky} {vs : List V}, RVs K H (l.map dK) vs → vs = l.map vK
  | [], _, r => by cases r; rfl
  | .inl i :: l, _, r => by
    cases r with
    | cons a t => cases a; rw [kys_rv t]; rfl
  | .inr x :: l, _, r => by
    cases r with
    | cons a t => cases a; rw [kys_rv t]; rfl
theorem tups_rv {K : PySem.W.Frag} {H : Hp} : ∀ {ps : List (List Ky)} {xs : List V}, RVs K H (ps.map dL) xs → ∀ x ∈ xs, ∃ (t : Addr) (l : List Ky), x = V.ref t ∧ SqT K H t (l.map vK)
  | [], _, r, x, h => by cases r; cases h
  | p :: ps, _, r, x, h => by
    cases r with
    | cons r1 r2 =>
      rcases List.mem_cons.mp h with e | e
      · subst e
        cases r1 with
        | tup h1 h2 =>
          have := kys_rv h2
          subst this
          exact ⟨_, _, rfl, h1.seq⟩
      · exact tups_rv r2 x e
open Classical in
noncomputable def keyS (K : PySem.W.Frag) (H : Hp) (x : V) : List Ky := if h : ∃ (t : Addr) (l : List Ky), x = V.ref t ∧ SqT K H t (l.map vK) then h.choose_spec.choose else []
theorem keyS_spec {K : PySem.W.Frag} {H : Hp} {x : V} (h : ∃ (t : Addr) (l : List Ky), x = V.ref t ∧ SqT K H t (l.map vK)) : ∃ t, x = V.ref t ∧ SqT K H t ((keyS K H x).map vK) := by
  unfold keyS
  rw [dif_pos h]
  exact ⟨_, h.choose_spec.choose_spec⟩
theorem keysS_rv {pins : List (Addr × Obj)} {σ : L2.St} {H : Hp} {s : Shared} (I : Inv X pins σ H s) : ∀ {ps : List (List Ky)} {xs : List V}, RVs X.K H (ps.map dL) xs → xs.map (keyS X.K H) = ps
  | [], _, r => by cases r; rfl
  | p :: ps, _, r => by
    cases r with
    | @cons _ v _ vs r1 r2 =>
      have e1 := keysS_rv I r2
      have hx := tups_rv (ps := [p]) (.cons r1 .nil) v (List.mem_singleton.mpr rfl)
      obtain ⟨t, et, q⟩ := keyS_spec hx
      rw [List.map_cons, e1]
      congr 1
      cases r1 with
      | tup h1 h2 =>
        cases et
        have := kys_rv h2
        subst this
        exact vKs_inj (I.tuple_inj q h1.seq)
theorem backS_rv {K : PySem.W.Frag} {H : Hp} {k : V → List Ky} : ∀ {ys : List V}, (∀ x ∈ ys, ∃ d, RV K H d x ∧ d = dL (k x)) → RVs K H ((ys.map k).map dL) ys
  | [], _ => .nil
  | y :: ys, h => by
    obtain ⟨d, r, e⟩ := h y List.mem_cons_self
    subst e
    exact .cons r (backS_rv fun x hx => h x (List.mem_cons_of_mem _ hx))
theorem eachS_rv {K : PySem.W.Frag} {H : Hp} {k : V → List Ky} : ∀ {ps : List (List Ky)} {xs : List V}, RVs K H (ps.map dL) xs → xs.map k = ps → ∀ x ∈ xs, ∃ d, RV K H d x ∧ d = dL (k x)
  | [], _, r, _, x, h => by cases r; cases h
  | p :: ps, _, r, e, x, h => by
    cases r with
    | cons r1 r2 =>
      rw [List.map_cons] at e
      injection e with e1 e2
      rcases List.mem_cons.mp h with z | z
      · subst z; exact ⟨_, r1, by rw [e1]⟩
      · exact eachS_rv r2 e2 x z
theorem cd_sortS : CallD X (.builtin "sorted") (rSortS sh) := by
  intro pins s σ H vs us Q I r ⟨g, ds, Q0, rg, rv, q, k⟩
  unfold rSortS at q
  split at q
  · obtain ⟨v, rfl, a⟩ := one_rv rv
    obtain ⟨ps, hi, ⟨p, rfl⟩, hok, q⟩ := q
    cases a
    obtain ⟨vs, e1, r1⟩ := rg.st p _ hi
    have ek := keysS_rv I r1
    have el : vs.length = ps.length := by rw [← ek, List.length_map]
    refine cr_srtS (sh := sh) pins s σ H _ us Q I r ⟨p, vs, keyS X.K H, rfl, .of e1, fun x hx => ?_, fun ys l h1 h2 h3 => ?_⟩
    · obtain ⟨t, et, ht⟩ := keyS_spec (tups_rv r1 x hx)
      have hm : keyS X.K H x ∈ ps := by rw [← ek]; exact List.mem_map.mpr ⟨x, hx, rfl⟩
      exact ⟨t, et, ht, (hok _ hm).1, fun h2 => (hok _ hm).2 (by omega)⟩
    · have hev := eachS_rv r1 ek
      have rys : RVs X.K H ((ys.map (keyS X.K H)).map dL) ys := backS_rv fun x hx => hev x (h2.perm.mem_iff.mp hx)
      refine fin_lst rg rys (fun p' hp' => q (ys.map (keyS X.K H)) p' (by rw [← ek]; exact h2.perm.map _) ?_ hp') k l h3
      exact List.pairwise_map.mpr h1
  · exact q.elim
end
end LF
set_option maxHeartbeats 1000000
namespace LF
open PySem PySem.Spec PyProof.Rows L2
variable [PP]

theorem zip_lookup {fl : List Str} : ∀ {vs : List V} {i : Nat} {f : Str} {v : V}, fl.Nodup → fl[i]? = some f → vs[i]? = some v → (fl.zip vs).lookup f = some v := by
  induction fl with
  | nil => intro vs i f v _ h; simp at h
  | cons x fl ih =>
    intro vs i f v hn h hv
    cases vs with
    | nil => simp at hv
    | cons w vs =>
      cases i with
      | zero =>
        simp at h hv
        subst h hv
        rw [List.zip_cons_cons]
        show List.lookup x ((x, w) :: _) = _
        rw [List.lookup_cons_self]
      | succ i =>
        have h' : fl[i]? = some f := by simpa using h
        have hne : f ≠ x := fun z => (List.nodup_cons.mp hn).1 (by rw [← z]; exact List.mem_of_getElem? h')
        rw [List.zip_cons_cons, List.lookup_cons, show (f == x) = false by simpa using hne]
        exact ih (List.nodup_cons.mp hn).2 h' (by simpa using hv)
theorem zip_none {fl : List Str} {vs : List V} {m : Str} (h : m ∉ fl) : (fl.zip vs).lookup m = none := by
  induction fl generalizing vs with
  | nil => rfl
  | cons x fl ih =>
    cases vs with
    | nil => rfl
    | cons w vs =>
      simp only [List.mem_cons, not_or] at h
      rw [List.zip_cons_cons, List.lookup_cons, show (m == x) = false by simpa using h.1]
      exact ih h.2
/-- a field is stored: the next one, or one that is there -/
def putD {α : Type} (ds : List α) (i : Nat) (x : α) : List α := if i < ds.length then ds.set i x else ds ++ [x]
theorem putF_zip {fl : List Str} : ∀ {vs : List V} {i : Nat} {f : Str} {y : V}, fl.Nodup → fl[i]? = some f → i ≤ vs.length → putF f y (fl.zip vs) = fl.zip (putD vs i y) := by
  induction fl with
  | nil => intro vs i f y _ h; simp at h
  | cons x fl ih =>
    intro vs i f y hn h hi
    cases vs with
    | nil =>
      have e : i = 0 := by simpa using hi
      subst e
      simp at h
      subst h
      cases fl <;> rfl
    | cons w vs =>
      cases i with
      | zero =>
        simp at h
        subst h
        rw [List.zip_cons_cons]
        show (if x = x then _ else _) = _
        rw [if_pos rfl]
        unfold putD
        rw [if_pos (by simp)]
        rfl
      | succ i =>
        have h' : fl[i]? = some f := by simpa using h
        have hne : x ≠ f := fun z => (List.nodup_cons.mp hn).1 (by rw [z]; exact List.mem_of_getElem? h')
        rw [List.zip_cons_cons]
        show (if x = f then _ else (x, w) :: putF f y (fl.zip vs)) = _
        rw [if_neg hne, ih (List.nodup_cons.mp hn).2 h' (by simpa using hi)]
        unfold putD
        by_cases q : i < vs.length
        · rw [if_pos q, if_pos (by simpa using q)]; rfl
        · rw [if_neg q, if_neg (by simpa using q)]; rfl
theorem putD_rv {K : PySem.W.Frag} {H : Hp} {ds : List D} {vs : List V} {d : D} {v : V} {i : Nat} (r : RVs K H ds vs) (q : RV K H d v) : RVs K H (putD ds i d) (putD vs i v) := by
  unfold putD
  rw [r.length]
  split
  · exact r.set q i
  · exact r.append (.cons q .nil)
theorem putD_len {α : Type} {ds : List α} {i : Nat} {x : α} : (putD ds i x).length = if i < ds.length then ds.length else ds.length + 1 := by
  unfold putD
  split
  · rw [List.length_set]
  · rw [List.length_append]; rfl

/-- an instance is made or written at p -/
theorem tame_ins {p : Addr} {H : Hp} {C dx : Addr} {fs : List (Str × V)} (h : H p = some (.ins C dx fs)) (u : HO) : Tame H (upd H p u) :=
  ⟨fun a ys e => by rw [upd_ne (fun z => by subst z; rw [h] at e; cases e)]; exact e, fun a o w e => by rw [upd_ne (fun z => by subst z; rw [h] at e; cases e)]; exact e, fun a φ e => by rw [upd_ne (fun z => by subst z; rw [h] at e; cases e)]; exact e⟩

/-- e.f, the field at place i of an instance of the class c -/
def eGet (c : Str) (fl : List Str) (i : Nat) (te : EV) : EV := fun ε g Q => te ε g fun x g1 => match x with
  | .ref a => ∃ ds v, g1 a = some (.ins c fl ds) ∧ ds[i]? = some v ∧ Q v g1
  | _ => False
/-- e.f = value -/
def sPut (c : Str) (fl : List Str) (i : Nat) (te tv : EV) : SV := fun D0 ε g => tv ε g fun y g1 => te ε g1 fun x g2 => match x with
  | .ref a => ∃ ds, g2 a = some (.ins c fl ds) ∧ i ≤ ds.length ∧ D0.nx ε (gset g2 a (.ins c fl (putD ds i y)))
  | _ => False
/-- o.m(..), o.m() -/
def eMeth (c : Str) (fl : List Str) (φ : FV) (to : EV) (t : AV) : EV := fun ε g Q => to ε g fun x g1 => match x with
  | .ref a => ∃ ds, g1 a = some (.ins c fl ds) ∧ t ε g1 fun xs g2 => φ (x :: xs) g2 Q fun _ _ _ => False
  | _ => False
/-- C(..) -/
def eMake (c : Str) (fl : List Str) (φ : FV) (t : AV) : EV := fun ε g Q => t ε g fun xs g1 => ∀ a, g1 a = none → φ (.ref a :: xs) (gset g1 a (.ins c fl [])) (fun v g2 => v = .non ∧ Q (.ref a) g2) fun _ _ _ => False

section
variable {X : Cx} {c f : Str} {fl : List Str} {i : Nat} {C : Addr} {te tv to : EV} {t : AV} {e o value : Expr} {es : List Expr} {pos pos' apos : Pos}
theorem d_get (cf : CFact X.K c C) (hn : fl.Nodup) (hf : fl[i]? = some f) (na : NoAttr X.K C f) (he : DE X e te) (hb : attributeBase e f X.env (eval e X.env) = eval e X.env := by rfl) : DE X (.Attribute e f pos) (eGet c fl i te) :=
  PE.imp (pe_fld he hb) fun σ H Q ⟨ε, g, Q0, rs, rg, q, k⟩ => ⟨ε, g, _, rs, rg, q, fun d g1 v1 H1 q1 rv rg1 k1 => by
    cases rv <;> first | exact q1.elim | skip
    rename_i a
    obtain ⟨ds, v, e1, e2, q1⟩ := q1
    obtain ⟨C', dx, vs, h1, cf', hl, hr⟩ := rg1.st a _ e1
    cases cf.one cf'
    obtain ⟨w, hw, rw'⟩ := hr.get e2
    exact ⟨a, C, dx, _, w, rfl, h1, cf.cl, na, zip_lookup hn hf hw, k _ _ _ _ q1 rw' rg1 k1⟩⟩
theorem s_put (cf : CFact X.K c C) (hn : fl.Nodup) (hf : fl[i]? = some f) (hll : fl.length < 1000) (na : NoAttr X.K C f) (he : DE X o te) (hv : DE X value tv) (hs : swapsWith value (some (.Attribute o f pos')) pos.line X.env = pure false := by rfl) :
    DS X (.Assign [.Attribute o f pos'] value pos) (sPut c fl i te tv) := PS.imp (ps_fld he hv hs) fun D σ H ⟨ε, g, D0, rs, rg, q, ok⟩ =>
  ⟨ε, g, _, rs, rg, q, fun y g1 vy H1 q1 ry rg1 k1 => ⟨ε, g1, _, rs.keep rg k1, rg1, q1, fun x g2 vx H2 q2 rx rg2 k2 => by
    cases rx <;> first | exact q2.elim | skip
    rename_i a
    obtain ⟨ds, e1, hi, q2⟩ := q2
    obtain ⟨C', dx, vs, h1, cf', hl, hr⟩ := rg2.st a _ e1
    cases cf.one cf'
    have hvl := hr.length
    have hil : i < fl.length := (List.getElem?_eq_some_iff.mp hf).1
    have hz : (fl.zip vs).length < 1000 := by rw [List.length_zip]; omega
    refine ⟨a, C, dx, _, rfl, h1, cf.cl, na, hz, ?_⟩
    rw [putF_zip hn hf (by omega)]
    have kp := keep_put (H := H2) e1 (.ins c fl (putD ds i y)) (.ins C dx (fl.zip (putD vs i vy)))
    have ry2 := ry.keep rg1 k2
    refine ok.nx _ _ _ _ q2 ?_ (rg2.layO kp ⟨C, dx, putD vs i vy, upd_same, cf, by rw [putD_len]; split <;> omega, (putD_rv hr ry2).keep rg2 kp⟩) (k1.trans (k2.trans kp))
    exact ((rs.keep rg k1).keep rg1 k2).keep rg2 kp⟩⟩
end
theorem de_run {X : Cx} {e : Expr} {t : EV} (h : DE X e t) {pins : List (Addr × Obj)} {s : Shared} {σ : L2.St} {H : Hp} {ε : En} {g : G} {Q0 : D → G → Prop} (I : Inv X pins σ H s) (rs : RS X.K H ε σ) (rg : RG X.K g H) (q : t ε g Q0) :
    wpAny (model X.prog X.w) X.A (eval e X.env) (EP X pins σ fun v H' => ∃ d g', Q0 d g' ∧ RV X.K H' d v ∧ RG X.K g' H' ∧ Keep g H g' H') X.xe s :=
  h.run pins s σ H _ I ⟨ε, g, Q0, rs, rg, q, fun d g' v H' a b c e => ⟨d, g', a, b, c, e⟩⟩
theorem da_run {X : Cx} {es : List Expr} {t : AV} (h : DA X es t) {pos : Pos} {pins : List (Addr × Obj)} {s : Shared} {σ : L2.St} {H : Hp} {ε : En} {g : G} {Q0 : List D → G → Prop} (I : Inv X pins σ H s) (rs : RS X.K H ε σ) (rg : RG X.K g H) (q : t ε g Q0) :
    wpAny (model X.prog X.w) X.A (spliced (backTo pos (starEach es X.env))) (AP X pins σ fun vs H' => ∃ ds g', Q0 ds g' ∧ RVs X.K H' ds vs ∧ RG X.K g' H' ∧ Keep g H g' H') X.xe s :=
  h.run pos pins s σ H _ I ⟨ε, g, Q0, rs, rg, q, fun d g' v H' a b c e => ⟨d, g', a, b, c, e⟩⟩
/-- a method of the class c -/
structure Met (P : Program) (w : World) (K : PySem.W.Frag) (mg : Str → Option Value) (base : Heap) (ct : Nat → Addr) (c m : Str) (k : Nat) (ps : List Str) (φ : FV) : Prop where
  ex : ∃ C f fd, CFact K c C ∧ FnG P w K mg base k f fd ps (lF K ct φ) ∧ Meth K C m f ∧ Binds K fd ps []
/-- the class c can be made by its __init__ -/
structure Mak (P : Program) (w : World) (K : PySem.W.Frag) (mg : Str → Option Value) (base : Heap) (ct : Nat → Addr) (c : Str) (k : Nat) (ps : List Str) (φ : FV) : Prop where
  ex : ∃ C f fd, CFact K c C ∧ mg c = some (.ref C) ∧ FnG P w K mg base k f fd ps (lF K ct φ) ∧ Mk K C f ∧ Binds K fd ps []
section
variable {X : Cx} {c m : Str} {fl : List Str} {to : EV} {t : AV} {e o : Expr} {es : List Expr} {p pos apos : Pos} {ct : Nat → Addr} {j k : Nat} {ps : List Str} {φ : FV}
theorem d_meth {pl : Sem Bool} (M : Met X.prog X.w X.K X.mg X.base ct c m j ps φ) (hj : j ≤ k) (hr : Room k X.A) (hgd : X.A.guards = some []) (hn : m ∉ fl) (ho : DE X o to) (ha : DA X (e :: es) t)
    (hst : starEach (e :: es) X.env = (false, eval e X.env) :: starEach es X.env := by rfl) (hpl : (backTo pos (starEach es X.env)).any (·.1) = false := by rfl)
    (ht : eval (.Call (.Attribute o m apos) (e :: es) [] pos) X.env = (do
      let ov ← eval o X.env
      standAt apos.atName
      let (f, first) ← holding [ov] (getMethod ov m pl)
      callWith pos f first (backTo pos (starEach (e :: es) X.env)) (backToKw pos (keywordEach [] X.env))) := by rfl) :
    DE X (.Call (.Attribute o m apos) (e :: es) [] pos) (eMeth c fl φ to t) := ⟨fun pins s σ H Q I ⟨ε, g, Q0, rs, rg, q, kk⟩ => by
  obtain ⟨C, f, fd, cf, F, hm, hb⟩ := M.ex
  refine PySem.W.methodCall_KW (pl := pl) (thn (de_run ho I rs rg q) fun u s1 ⟨x, H1, I1, rx, d, g1, q1, rv, rg1, k1⟩ => ?_) ht
  cases rv <;> first | exact q1.elim | skip
  rename_i a
  obtain ⟨ds, e1, q1⟩ := q1
  obtain ⟨C', dx, vs, h1, cf', hl, hr'⟩ := rg1.st a _ e1
  cases cf.one cf'
  obtain rfl : u = Value.ref a := rx
  refine getmeth_ok I1 h1 cf.cl hm (zip_none hn) ?_
  refine PySem.W.callWith_K (first := [.ref a]) (h₀ := X.base) I.ok.mod.kin hm.kp (thn (da_run ha I1 (rs.keep rg k1) rg1 q1) fun us s2 ⟨vs2, H2, I2, r2, es', g2, q2, rvs, rg2, k2⟩ => ⟨I2.kIn, ?_⟩) hst hpl
  exact run_g (us := .ref a :: us) (vs := .ref a :: vs2) (E := fun _ _ _ _ => False) (F.mono hj) hr hgd hb passG0 I2 (.cons rfl r2) ⟨.ref a :: es', g2, Q0, _, .cons (.ref a) rvs, rg2.st, q2, fun d g' v H' q rv rg' k' => kk _ _ _ _ q rv (rg2.move k' rg') (k1.trans (k2.trans k')), fun _ _ _ _ _ _ z => z.elim⟩⟩
theorem d_meth0 {pl : Sem Bool} (M : Met X.prog X.w X.K X.mg X.base ct c m j ps φ) (hj : j ≤ k) (hr : Room k X.A) (hgd : X.A.guards = some []) (hn : m ∉ fl) (ho : DE X o to)
    (ht : eval (.Call (.Attribute o m apos) [] [] pos) X.env = (do
      let ov ← eval o X.env
      standAt apos.atName
      let (f, first) ← holding [ov] (getMethod ov m pl)
      callWith pos f first (backTo pos (starEach [] X.env)) (backToKw pos (keywordEach [] X.env))) := by rfl) :
    DE X (.Call (.Attribute o m apos) [] [] pos) (eMeth c fl φ to aNil) := ⟨fun pins s σ H Q I ⟨ε, g, Q0, rs, rg, q, kk⟩ => by
  obtain ⟨C, f, fd, cf, F, hm, hb⟩ := M.ex
  refine PySem.W.methodCall_KW (pl := pl) (thn (de_run ho I rs rg q) fun u s1 ⟨x, H1, I1, rx, d, g1, q1, rv, rg1, k1⟩ => ?_) ht
  cases rv <;> first | exact q1.elim | skip
  rename_i a
  obtain ⟨ds, e1, q1⟩ := q1
  obtain ⟨C', dx, vs, h1, cf', hl, hr'⟩ := rg1.st a _ e1
  cases cf.one cf'
  obtain rfl : u = Value.ref a := rx
  refine getmeth_ok I1 h1 cf.cl hm (zip_none hn) ?_
  exact PySem.W.callWith_K0 (first := [.ref a]) I1.kIn hm.kp (run_g (us := [.ref a]) (vs := [.ref a]) (E := fun _ _ _ _ => False) (F.mono hj) hr hgd hb passG0 I1 (.cons rfl .nil) ⟨[.ref a], g1, Q0, _, .cons (.ref a) .nil, rg1.st, q1, fun d g' v H' q rv rg' k' => kk _ _ _ _ q rv (rg1.move k' rg') (k1.trans k'), fun _ _ _ _ _ _ z => z.elim⟩)⟩
theorem make_guards {A : Around} {C : Addr} {us : List Value} {kw : List (Str × Value)} (h : A.guards = some []) : (A.under (.builtin "type.__call__" ⟨.ref C :: us, kw⟩)).guards = some [] := by
  first | exact h | simpa [Around.under, Code.weight, Code.isCreation, Code.isGuard, Code.isCaller, Code.frames, Code.isFrame, guardIds] using h
theorem run_mk {C f : Addr} {fd : FuncData} {sp : Sp} {pins : List (Addr × Obj)} {σ : L2.St} {H : Hp} {s : Shared} {Q : VK} {us : List Value} {vs : List V} (M : Mk X.K C f) (F : FnG X.prog X.w X.K X.mg X.base k f fd ps sp) (hr : Room (k + 1) X.A) (hg : X.A.guards = some []) (hb : Binds X.K fd ps [])
    (I : Inv X pins σ H s) (r : Vals vs us)
    (h : ∀ x dx, H x = none → H dx = none → dx ≠ x → sp (.ref x :: vs) (upd (upd H dx (.own x)) x (.ins C dx [])) (fun v H2 => v = .non ∧ Q (.ref x) H2) fun _ _ _ => False) :
    wpAny (model X.prog X.w) X.A (call (.ref C) us) (EP X pins σ Q) X.xe s := by
  have hq := h (s.heap.objs.size + 1) s.heap.objs.size (I.hok.fresh (Nat.le_succ _)) (I.hok.fresh (Nat.le_refl _)) (Nat.ne_of_lt (Nat.lt_succ_self _))
  have I2 := Inv.made (C := C) I
  have r2 : Vals (V.ref (s.heap.objs.size + 1) :: vs) (Value.ref (s.heap.objs.size + 1) :: us) := .cons rfl r
  have hl : (Value.ref (s.heap.objs.size + 1) :: us).length = ps.length := by
    have e := r2.length
    rw [F.len _ _ _ _ hq] at e
    exact e.symm
  have hb' := hb _ (Value.ref (s.heap.objs.size + 1) :: us) I2.kIn (by rw [List.append_nil]; exact hl)
  rw [List.append_nil] at hb'
  refine wpAny_call (make_map (f := f) I.kIn M.makes M.init (beq_iff_eq.mp M.fn) (codeAny_mono (F.run _ X.stack _ _ ⟨Value.ref (s.heap.objs.size + 1) :: us, []⟩ (Value.ref (s.heap.objs.size + 1) :: us) _ _ _ (hr.make C us []) (make_guards hg)
    (I2.env0.make C us []) hb' r2 hq) fun r s' hq' => ?_))
  cases r with
  | error e =>
    obtain ⟨_, _, _, _, _, _, _, _, _, _, _, _, z⟩ := hq'
    exact z.elim
  | ok fl =>
    cases fl with
    | ret u =>
      obtain ⟨v, H', I3, rv, ev, q3⟩ := I2.after hq'
      subst ev
      exact ⟨rv, ⟨V.ref (s.heap.objs.size + 1), H', I3, rfl, q3⟩⟩
    | next => exact False.elim hq'
    | brk => exact False.elim hq'
    | cont => exact False.elim hq'
theorem d_make (M : Mak X.prog X.w X.K X.mg X.base ct c j ps φ) (hj : j + 1 ≤ k) (hr : Room k X.A) (hgd : X.A.guards = some []) (hg : Gl X c) (ha : DA X (e :: es) t)
    (hdb : (c == ("__debug__" : Str)) = false := by decide +kernel) (he : starEach (e :: es) X.env = (false, eval e X.env) :: starEach es X.env := by rfl) (hpl : (backTo pos (starEach es X.env)).any (·.1) = false := by rfl) :
    DE X (.Call (.Name c p) (e :: es) [] pos) (eMake c fl φ t) := ⟨fun pins s σ H Q I ⟨ε, g, Q0, rs, rg, q, kk⟩ => by
  obtain ⟨C, f, fd, cf, hm, F, M', hb⟩ := M.ex
  refine wpAny_Call_Name_kw (ld_glob I hg hm ?_ hdb)
  refine PySem.W.callWith_K (h₀ := X.base) I.ok.mod.kin M'.kp (thn (da_run ha I rs rg q) fun us s1 ⟨vs, H1, I1, r, es', g1, q1, rvs, rg1, k1⟩ => ⟨I1.kIn, ?_⟩) he hpl
  refine run_mk M' F (hr.mono hj) hgd hb I1 r fun x dx hx hdx ne => ?_
  have hx' : upd H1 dx (.own x) x = none := by rw [upd_ne (Ne.symm ne)]; exact hx
  have gx := rg1.out hx
  have kd := keep_new (g := g1) hdx (.own x)
  have rgd := rg1.tupNew (u := .own x) hdx
  have kx := keep_fresh (g := g1) hx' (.ins c fl []) (.ins C dx [])
  have k2 := kd.trans kx
  have rgx : RG X.K (gset g1 x (.ins c fl [])) (upd (upd H1 dx (.own x)) x (.ins C dx [])) := rgd.layO kx ⟨C, dx, [], by rw [upd_same, List.zip_nil_right], cf, Nat.zero_le _, .nil⟩
  refine ⟨.ref x :: es', _, _, _, .cons (.ref x) (rvs.keep rg1 k2), rgx.st, q1 x gx, fun d g' v H' ⟨ev, q⟩ rv rg' k' => ?_, fun _ _ _ _ _ _ z => z.elim⟩
  subst ev
  cases rv
  exact ⟨rfl, kk _ _ _ _ q (.ref x) (rgx.move k' rg') (k1.trans (k2.trans k'))⟩⟩
end
section
variable {P : Program} {w : World} {K : PySem.W.Frag} {mg : Str → Option Value} {base : Heap} {ct : Nat → Addr}
theorem Met.of {c m qual : Str} {C : Addr} {st : Stmt} {f : Addr} {fd : FuncData} {ps : List Str} {k : Nat} {φ : FV} (cf : CFact K c C) (F : Fun K m qual st f fd) (G : FnG P w K mg base k f fd ps (lF K ct φ)) (hm : Meth K C m f)
    (h : ∀ (kV doc pm : Value) (an : Option Addr) (cdv ct : Value) (us : List Value), us.length = ps.length → bindArgs (PySem.W.fnOf m qual (defArgs st) (defBody st) (defScope st) .none kV doc pm an cdv ct) ⟨us, []⟩ = pure (ps.zip us)) : Met P w K mg base ct c m k ps φ := ⟨⟨C, f, fd, cf, G, hm, F.binds h⟩⟩
theorem Mak.of {c qual : Str} {C : Addr} {st : Stmt} {f : Addr} {fd : FuncData} {ps : List Str} {k : Nat} {φ : FV} (cf : CFact K c C) (hmg : mg c = some (.ref C)) (F : Fun K "__init__" qual st f fd) (G : FnG P w K mg base k f fd ps (lF K ct φ)) (hm : Mk K C f)
    (h : ∀ (kV doc pm : Value) (an : Option Addr) (cdv ct : Value) (us : List Value), us.length = ps.length → bindArgs (PySem.W.fnOf "__init__" qual (defArgs st) (defBody st) (defScope st) .none kV doc pm an cdv ct) ⟨us, []⟩ = pure (ps.zip us)) : Mak P w K mg base ct c k ps φ := ⟨⟨C, f, fd, cf, hmg, G, hm, F.binds h⟩⟩
theorem ok_ofM {x qual : Str} {st : Stmt} {f : Addr} {fd : FuncData} {N ps : List Str} {k : Nat} {t : SV} (F : Fun K x qual st f fd) (S : FnScope N ps (defScope st)) (hl : ps.length ≤ N.length)
    (body : ∀ (cdv : Value) (A : Around) (outer : List Env) (s : Shared) (H : Hp) (E : XK) [PP], Room k (A.deeper (envOfC qual (defScope st) s.heap.objs.size f cdv)) → (A.deeper (envOfC qual (defScope st) s.heap.objs.size f cdv)).guards = some [] →
      DSs (cxOf (L2.CX P w) P w K mg base N qual (defScope st) f cdv A outer s H E) (defBody st) t) : FnG P w K mg base (k + 1) f fd ps (lF K ct (fv ps.length N.length t)) := ok_of F S hl body
end
end LF
set_option maxHeartbeats 1000000
namespace LF
open PySem PySem.Spec PyProof.Rows L2 HT
variable [PP]
variable {X : L2.Cx}

def keyD : D → Option Key
  | .int i => some (.inl i)
  | .str z => some (.inr z)
  | _ => none
theorem keyD_rv {K : PySem.W.Frag} {H : Hp} {d : D} {v : V} {k : Key} (r : RV K H d v) (h : keyD d = some k) : v = kV k := by
  cases r <;> first | (cases h; rfl) | cases h
def valD {κ : Type} [DecidableEq κ] (kvs : List (κ × D)) (k : κ) : Option D := (kvs.find? fun kv => decide (kv.1 = k)).map (·.2)
def putKD {κ : Type} [DecidableEq κ] (kvs : List (κ × D)) (k : κ) (v : D) : List (κ × D) :=
  if (kvs.any fun kv => decide (kv.1 = k)) = true then kvs.map (fun kv => if kv.1 = k then (kv.1, v) else kv) else kvs ++ [(k, v)]
section
variable {K : PySem.W.Frag} {H : Hp}
theorem valD_rv {k : Key} : ∀ {kvs : List (Key × D)} {kvv : List (Key × V)}, RKs K H kvs kvv → (∀ d, valD kvs k = some d → ∃ v, L2.valV kvv k = some v ∧ RV K H d v) ∧ (valD kvs k = none → L2.valV kvv k = none)
  | _, _, .nil => ⟨fun d h => by simp [valD] at h, fun _ => rfl⟩
  | _, _, .cons (k := k') (d := d') (v := v') (ds := ds) (vs := vs) r t => by
    obtain ⟨h1, h2⟩ := valD_rv (k := k) t
    by_cases e : k' = k
    · have e1 : valD ((k', d') :: ds) k = some d' := by simp [valD, e]
      have e2 : L2.valV ((k', v') :: vs) k = some v' := L2.valV_pos e
      rw [e1, e2]
      exact ⟨fun d h => by cases h; exact ⟨_, rfl, r⟩, fun h => by cases h⟩
    · have e1 : valD ((k', d') :: ds) k = valD ds k := by simp [valD, List.find?_cons, e]
      have e2 : L2.valV ((k', v') :: vs) k = L2.valV vs k := L2.valV_neg e
      rw [e1, e2]
      exact ⟨h1, h2⟩
theorem rks_any {k : Key} : ∀ {kvs : List (Key × D)} {kvv : List (Key × V)}, RKs K H kvs kvv → (kvs.any fun kv => decide (kv.1 = k)) = (kvv.any fun kv => decide (kv.1 = k))
  | _, _, .nil => rfl
  | _, _, .cons _ t => by rw [List.any_cons, List.any_cons, rks_any t]
theorem rks_map {k : Key} {d : D} {v : V} (q : RV K H d v) : ∀ {kvs : List (Key × D)} {kvv : List (Key × V)}, RKs K H kvs kvv → RKs K H (kvs.map fun kv => if kv.1 = k then (kv.1, d) else kv) (kvv.map fun kv => if kv.1 = k then (kv.1, v) else kv)
  | _, _, .nil => .nil
  | _, _, .cons (k := k') r t => by
    rw [List.map_cons, List.map_cons]
    by_cases e : k' = k
    · simp only [e, if_true]; exact .cons q (rks_map q t)
    · simp only [e, if_false]; exact .cons r (rks_map q t)
theorem rks_app : ∀ {kvs kvs' : List (Key × D)} {kvv kvv' : List (Key × V)}, RKs K H kvs kvv → RKs K H kvs' kvv' → RKs K H (kvs ++ kvs') (kvv ++ kvv')
  | _, _, _, _, .nil, s => s
  | _, _, _, _, .cons r t, s => .cons r (rks_app t s)
theorem rks_len : ∀ {kvs : List (Key × D)} {kvv : List (Key × V)}, RKs K H kvs kvv → kvs.length = kvv.length
  | _, _, .nil => rfl
  | _, _, .cons _ t => congrArg (· + 1) (rks_len t)
theorem putKD_rv {k : Key} {d : D} {v : V} {kvs : List (Key × D)} {kvv : List (Key × V)} (r : RKs K H kvs kvv) (q : RV K H d v) : RKs K H (putKD kvs k d) (L2.putK kvv k v) := by
  unfold putKD L2.putK
  rw [rks_any r]
  split
  · exact rks_map q r
  · exact rks_app r (.cons q .nil)
end
/-- d[k] -/
def rDix : RR := fun x y g Q => match x with
  | .ref a => ∃ kvs k v, g a = some (.dct kvs) ∧ keyD y = some k ∧ valD kvs k = some v ∧ Q v g
  | _ => False
def rDin (neg : Bool) : RR := fun y x g Q => match x with
  | .ref a => ∃ kvs k, g a = some (.dct kvs) ∧ keyD y = some k ∧ Q (.bl (if neg then !(valD kvs k).isSome else (valD kvs k).isSome)) g
  | _ => False
def rDput (o i v : D) (g : G) (Q : G → Prop) : Prop := match o with
  | .ref p => ∃ kvs k, g p = some (.dct kvs) ∧ keyD i = some k ∧ kvs.length < sizeLine ∧ Q (gset g p (.dct (putKD kvs k v)))
  | _ => False
theorem d_dix {a b : Expr} {ta tb : EV} {pos : Pos} (hu : X.A.units + 64 < cLine) (ha : DE X a ta) (hb : DE X b tb) (hs : NoSl b := by exact fun _ _ => rfl) : DE X (.Subscript a b pos) (eBin rDix ta tb) :=
  PE.imp (pe_dget (by omega) ha hb hs) fun σ H Q ⟨ε, g, Q0, rs, rg, q, k⟩ => ⟨ε, g, _, rs, rg, q, fun d1 g1 v1 H1 q1 rv1 rg1 k1 => ⟨ε, g1, _, rs.keep rg k1, rg1, q1, fun d2 g2 v2 H2 q2 rv2 rg2 k2 => by
    have rv1' := rv1.keep rg1 k2
    cases rv1' <;> first | exact q2.elim | skip
    rename_i p
    obtain ⟨kvs, key, v, e1, e2, e3, q⟩ := q2
    obtain ⟨kvv, h1, h2⟩ := rg2.st p _ e1
    obtain ⟨w, hw, rw'⟩ := (valD_rv h2).1 v e3
    have ek := keyD_rv rv2 e2
    subst ek
    exact ⟨p, w, rfl, by rw [← hw]; exact DGet.k h1, k _ _ _ _ q rw' rg2 (k1.trans k2)⟩⟩⟩
theorem od_din (hu : X.A.units + 64 < cLine) : OpD X (compareOp .In) (rDin false) := by
  intro pins s σ H x y u w Q I rx ry ⟨g, dx, dy, Q0, rg, r1, r2, q, k⟩
  cases r2 <;> first | exact q.elim | skip
  rename_i p
  obtain ⟨kvs, key, e1, e2, q⟩ := q
  obtain ⟨kvv, h1, h2⟩ := rg.st p _ e1
  obtain rfl := keyD_rv r1 e2
  obtain rfl : w = Value.ref p := ry
  refine d_in (by omega) I (DGet.k (k := key) h1) rx fun s3 I3 => ⟨.bl _, H, I3, rfl, k _ g _ H ?_ (.bl _) rg (Keep.refl _ _)⟩
  have : (L2.valV kvv key).isSome = (valD kvs key).isSome := by
    cases e : valD kvs key with
    | none => rw [(valD_rv h2).2 e]; rfl
    | some d => obtain ⟨v, hv, _⟩ := (valD_rv h2).1 d e; rw [hv]; rfl
  rw [this]
  exact q
theorem od_dnin (hu : X.A.units + 64 < cLine) : OpD X (compareOp .NotIn) (rDin true) := by
  intro pins s σ H x y u w Q I rx ry ⟨g, dx, dy, Q0, rg, r1, r2, q, k⟩
  cases r2 <;> first | exact q.elim | skip
  rename_i p
  obtain ⟨kvs, key, e1, e2, q⟩ := q
  obtain ⟨kvv, h1, h2⟩ := rg.st p _ e1
  obtain rfl := keyD_rv r1 e2
  obtain rfl : w = Value.ref p := ry
  refine d_notIn (by omega) I (DGet.k (k := key) h1) rx fun s3 I3 => ⟨.bl _, H, I3, rfl, k _ g _ H ?_ (.bl _) rg (Keep.refl _ _)⟩
  have : (L2.valV kvv key).isSome = (valD kvs key).isSome := by
    cases e : valD kvs key with
    | none => rw [(valD_rv h2).2 e]; rfl
    | some d => obtain ⟨v, hv, _⟩ := (valD_rv h2).1 d e; rw [hv]; rfl
  rw [this]
  exact q
theorem set_dd (hu : X.A.units + 64 < cLine) : PSet X (lSet X.K rDput) := by
  intro pins s σ H o i v ov iv u Q I ro ri rv ⟨g, od, id, vd, Q0, rg, r1, r2, r3, q, k⟩
  cases r1 <;> first | exact q.elim | skip
  rename_i p
  obtain ⟨kvs, key, e1, e2, hl, q⟩ := q
  obtain ⟨kvv, h1, h2⟩ := rg.st p _ e1
  obtain rfl := keyD_rv r2 e2
  obtain rfl : ov = Value.ref p := ro
  have kp := keep_put (H := H) e1 (.dct (putKD kvs key vd)) (.dK (L2.putK kvv key v))
  exact d_setItem (by omega) I (DPut.k h1 (by rw [← rks_len h2]; exact hl)) ri rv fun s4 I4 => ⟨_, I4, k _ _ q (rg.layD kp (putKD_rv h2 r3)) kp⟩

theorem g_subD {o i : Expr} {to ti : EV} {pos : Pos} (hu : X.A.units + 64 < cLine) (ho : DE X o to) (hi : DE X i ti)
    (ha : ∀ v, assign (.Subscript o i pos) X.env v = (do
      let ov ← holding [v] (eval o X.env)
      let iv ← holding [v, ov] (eval i X.env)
      standAt pos
      holding [v, ov, iv] (setItem ov iv v)
      release [v, ov, iv] []) := by intro _; rfl) : DG X (.Subscript o i pos) (gSub rDput to ti) := PG.imp (pg_sub ho hi (set_dd hu) ha) fun _ _ _ _ h => sub_lift h
def rIsB (neg : Bool) : RR := fun x y g Q => match x, y with
  | .bl a, .bl b => Q (.bl (if neg then !decide (a = b) else decide (a = b))) g
  | _, _ => False
theorem od_isB : OpD X (compareOp .Is) (rIsB false) := by
  intro pins s σ H x y u w Q I rx ry ⟨g, dx, dy, Q0, rg, r1, r2, q, k⟩
  cases r1 <;> first | exact q.elim | skip
  cases r2 <;> first | exact q.elim | skip
  exact op_isBl pins s σ H _ _ u w Q I rx ry ⟨_, _, rfl, rfl, k _ g _ H q (.bl _) rg (Keep.refl _ _)⟩
theorem od_notB : OpD X (compareOp .IsNot) (rIsB true) := by
  intro pins s σ H x y u w Q I rx ry ⟨g, dx, dy, Q0, rg, r1, r2, q, k⟩
  cases r1 <;> first | exact q.elim | skip
  cases r2 <;> first | exact q.elim | skip
  exact op_notBl pins s σ H _ _ u w Q I rx ry ⟨_, _, rfl, rfl, k _ g _ H q (.bl _) rg (Keep.refl _ _)⟩
end LF
set_option maxHeartbeats 1000000
namespace LF
open PySem PySem.Spec PyProof.Rows L2 HT PySem.SeqAt
variable [PP]
theorem dict_declines_int {prog : Program} {w : World} {A : Around} {E : Value → Shared → Prop} {s : Shared} {Q : Value → Shared → Prop} {d : Addr} {b : Int} {u : Tok} (hd : s.TypeIs (.ref d) "dict") (h : Q .notImplemented s) :
    wpAny (model prog w) A (call (.builtin "dict.__eq__") [.ref d, .int b u]) Q E s := by
  refine wpAny_call_entry PySem.F.slot_dict_eq hd PySem.F.entry_dict_eq ?_ (PySem.F.args_dict_eq_2 _ _)
  show wpAny _ _ (Builtin.Dict.dictSlotArgs "__eq__" ⟨[.ref d, .int b u], []⟩ >>= _) _ _ s
  refine wpAny_bind ?_
  unfold Builtin.Dict.dictSlotArgs
  refine wpAny_bind (wpAny_notOrdered_dict hd ?_)
  show wpAny _ _ (pure (Value.ref d, Value.int b u)) _ _ s
  refine wpAny_pure ?_
  have sub : isSubtype (.type "int") (.type "dict") = pure false := by rw [isSubtype_type]; kernel_rfl
  refine wpAny_bind (wpAny_isInstance (T := "int") (typeIs_int s b u) sub ?_)
  simp only [Bool.not_false, if_true]
  exact wpAny_bind (wpAny_rule (wpAny_pure ⟨_, rfl, h⟩))
theorem int_declines_dict {prog : Program} {w : World} {A : Around} {E : Value → Shared → Prop} {s : Shared} {Q : Value → Shared → Prop} {d : Addr} {o : Obj} {es : Array DictEntry} {n : Nat} {b : Int} {u : Tok} (hd : s.heap.get? d = some o) (hdt : o.data = .dict es n) (h : Q .notImplemented s) :
    wpAny (model prog w) A (call (.builtin "int.__eq__") [.int b u, .ref d]) Q E s := by
  obtain ⟨cls, dx, dt, sl⟩ := o
  simp only at hdt
  subst hdt
  have m : Meets (Builtin.«int.__eq__» ⟨[.int b u, .ref d], []⟩) (fun _ R s => s.heap.get? d = some { cls := cls, dict := dx, data := .dict es n, slots := sl } ∧ R (.ok (.ret .notImplemented)) s) :=
    .of_wp fun prog w A R s h => by obtain ⟨hp, g, dd, tk, os⟩ := s; obtain ⟨hl, h⟩ := h; wp_walk using AutoSeq1.wpAny_loadPart' hl, wpAny_load hl; exact ⟨_, rfl, h⟩
  exact call_meets PySem.F.slot_int_eq_refl (typeIs_int s b u) PySem.F.entry_int_eq (PySem.F.args_int_eq_2 _ _) m ⟨hd, h⟩
theorem rcAt_dict_int {A : Around} {s : Shared} {d : Addr} {o : Obj} (b : Int) (u : Tok) (hd : s.heap.get? d = some o) (hc : o.cls = .type "dict") {es : Array DictEntry} {n : Nat} (hdt : o.data = .dict es n) (hu : A.units < cLine) : RcAt A s (.ref d) (.int b u) false := fun prog w E Q h => by
  have sub : isSubtype (.type "int") (.type "dict") = pure false := by rw [isSubtype_type]; kernel_rfl
  exact rc_eq_decline_or (k := false) (Ta := "dict") (Tb := "int") ⟨_, hd, hc⟩ (typeIs_int s b u) (by decide) sub PySem.F.slot_dict_eq PySem.F.slot_int_eq_refl
    (fun _ hq => dict_declines_int ⟨_, hd, hc⟩ hq)
    (fun _ hq => int_declines_dict hd hdt hq)
    (fun _ hq => wpAny_of_eq (rfl : isSame (.ref d) (.int b u) = pure false) hq) (.inr hu) h
def eqI (x : D) (j : Int) : Bool := match x with
  | .int i => decide (i = j)
  | .bl b => decide ((if b then (1 : Int) else 0) = j)
  | _ => false
def datOk (x : D) (g : G) : Prop := match x with
  | .exv _ _ _ => False
  | .ref a => (∃ ds, g a = some (.lst ds)) ∨ ∃ kvs, g a = some (.dct kvs)
  | _ => True
def rEqI : RR := fun x y g Q => match y with
  | .int j => datOk x g ∧ Q (.bl (eqI x j)) g
  | _ => False
theorem od_eqI {X : L2.Cx} (hu : X.A.units + 64 < cLine) : OpD X (compareOp .Eq) rEqI := by
  intro pins s σ H x y u w Q I rx ry ⟨g, dx, dy, Q0, rg, r1, r2, q, k⟩
  cases r2 <;> first | exact q.elim | skip
  rename_i j
  obtain ⟨ok, q⟩ := q
  obtain ⟨t, rfl⟩ := (show ∃ t, w = Value.int j t from ry)
  have fin : ∀ b : Bool, Q0 (.bl b) g → EP X pins σ Q (.bool b) s := fun b q => ⟨.bl b, H, I, rfl, k _ g _ H q (.bl b) rg (Keep.refl _ _)⟩
  cases r1 with
  | non => cases (show u = Value.none from rx); exact RcAt.none_int j t _ _ _ _ (fin _ q)
  | bl b =>
    cases (show u = Value.bool b from rx)
    refine RcAt.bool_int b j t _ _ _ _ (fin _ ?_)
    have e : ((if b then (1 : Int) else 0) == j) = eqI (.bl b) j := by unfold eqI; rfl
    rw [e]; exact q
  | int i =>
    obtain ⟨t', rfl⟩ := (show ∃ t, u = Value.int i t from rx)
    refine RcAt.int_int i t' j t _ _ _ _ (fin _ ?_)
    have e : (i == j) = eqI (.int i) j := by unfold eqI; rfl
    rw [e]; exact q
  | str z => obtain ⟨t', rfl⟩ := (show ∃ t, u = Value.str z t from rx); exact RcAt.str_int z t' j t _ _ _ _ (fin _ q)
  | tup h1 h2 =>
    cases rx
    obtain ⟨its, _, pl, _⟩ := I.tuple h1.seq
    exact RcAt.tuple_int j t pl (by omega) _ _ _ _ (fin _ q)
  | exv h1 h2 => exact ok.elim
  | tua h1 h2 =>
    cases rx
    obtain ⟨its, _, pl, _⟩ := I.tuple h1.tpl.seq
    exact RcAt.tuple_int j t pl (by omega) _ _ _ _ (fin _ q)
  | rol h1 h2 =>
    cases rx
    obtain ⟨its, _, pl, _⟩ := I.list h1.seq
    exact RcAt.list_int j t pl.isList (by omega) _ _ _ _ (fin _ q)
  | ref a =>
    cases rx
    rcases ok with ⟨ds, e⟩ | ⟨kvs, e⟩
    · obtain ⟨vs, e1, _⟩ := rg.st a _ e
      obtain ⟨its, _, pl, _⟩ := I.list (.of e1)
      exact RcAt.list_int j t pl.isList (by omega) _ _ _ _ (fin _ q)
    · obtain ⟨vs, e1, _⟩ := rg.st a _ e
      obtain ⟨_, _, vs2, _, ob, _, _, h1, h2, h3, _⟩ := dk_of I.hok e1
      exact rcAt_dict_int j t h1 h2.1 h3 (by omega) _ _ _ _ (fin _ q)
end LF
namespace LF
open PySem PySem.Spec PyProof.Rows L2
variable [PP]
theorem nth_rel {K : PySem.W.Frag} {H : Hp} : ∀ {ds : List D} {ws : List V} {us : List Value} {i : Nat} {v : Value}, RVs K H ds ws → Vals ws us → us[i]? = some v → ∃ d w, d ∈ ds ∧ RV K H d w ∧ RelV w v
  | _, _, _, i, v, .nil, r, e => by cases r; simp at e
  | _, _, _, i, v, .cons a as, r, e => by
    cases r with
    | cons u us =>
      cases i with
      | zero => cases e; exact ⟨_, _, List.mem_cons_self, a, u⟩
      | succ i =>
        rw [List.getElem?_cons_succ] at e
        obtain ⟨d, w, h1, h2⟩ := nth_rel as us e
        exact ⟨d, w, List.mem_cons_of_mem _ h1, h2⟩
theorem datT_pairs (g : G) : ∀ (ps : List (Int × Int)), DatTs g (ps.map dP) (ps.map PySem.W.Datum.toD)
  | [] => .nil
  | p :: ps => .cons (.tup (.cons (.int _) (.cons (.int _) .nil))) (datT_pairs g ps)
def rMaxP : RL := fun xs g Q => match xs with
  | [x] => ∃ ps : List (Int × Int), itemsOf x g (ps.map dP) ∧ (∃ a, x = .ref a) ∧ 0 < ps.length ∧ ∀ p, p ∈ ps → Q (dP p) g
  | _ => False
section
variable {X : Cx}
theorem cd_maxP (hc : X.calm = true) (hu : X.A.units + 64 < cLine) : CallD X (.builtin "max") rMaxP := by
  intro pins s σ H vs us Q I r ⟨g, ds, Q0, rg, rv, q, k⟩
  unfold rMaxP at q
  split at q
  · obtain ⟨v, rfl, a⟩ := one_rv rv
    obtain ⟨ps, hi, ⟨p, rfl⟩, hl, q⟩ := q
    cases a
    obtain ⟨ws, e1, r1⟩ := rg.st p _ hi
    obtain ⟨its, rr, pl, hz⟩ := I.list (.of e1)
    rw [Vals.ref1 r]
    cases ps with
    | nil => cases hl
    | cons n ns =>
      obtain ⟨as, hr, _⟩ := DatTs.reads I rg (datT_pairs g (n :: ns)) r1 rr
      have hd0 : PySem.W.Datum.depth (Int × Int) ≤ 60 := by decide
      refine PySem.W.max_list_data (vs := its.toArray) (I.ok.hd hc) pl.isList (x := PySem.W.Datum.toD n) (xs := ns.map PySem.W.Datum.toD) hr (PySem.W.alikeAll_datum (n :: ns)) ?_ fun i v h' tk bs hiv _ kp => ?_
      · have := PySem.W.depthAll_map (n :: ns)
        simp only [List.map_cons] at this
        omega
      · have hiv' : its[i]? = some v := by simpa using hiv
        obtain ⟨d, w, hm, hw, hv⟩ := nth_rel r1 rr hiv'
        obtain ⟨p', hp', e⟩ := List.mem_map.mp hm
        subst e
        exact ⟨w, H, I.kept kp, hv, k _ g _ H (q p' hp') hw rg (Keep.refl _ _)⟩
  · exact q.elim
theorem cd_minP (hc : X.calm = true) (hu : X.A.units + 64 < cLine) : CallD X (.builtin "min") rMaxP := by
  intro pins s σ H vs us Q I r ⟨g, ds, Q0, rg, rv, q, k⟩
  unfold rMaxP at q
  split at q
  · obtain ⟨v, rfl, a⟩ := one_rv rv
    obtain ⟨ps, hi, ⟨p, rfl⟩, hl, q⟩ := q
    cases a
    obtain ⟨ws, e1, r1⟩ := rg.st p _ hi
    obtain ⟨its, rr, pl, hz⟩ := I.list (.of e1)
    rw [Vals.ref1 r]
    cases ps with
    | nil => cases hl
    | cons n ns =>
      obtain ⟨as, hr, _⟩ := DatTs.reads I rg (datT_pairs g (n :: ns)) r1 rr
      have hd0 : PySem.W.Datum.depth (Int × Int) ≤ 60 := by decide
      refine PySem.W.min_list_data (vs := its.toArray) (I.ok.hd hc) pl.isList (x := PySem.W.Datum.toD n) (xs := ns.map PySem.W.Datum.toD) hr (PySem.W.alikeAll_datum (n :: ns)) ?_ fun i v h' tk bs hiv _ kp => ?_
      · have := PySem.W.depthAll_map (n :: ns)
        simp only [List.map_cons] at this
        omega
      · have hiv' : its[i]? = some v := by simpa using hiv
        obtain ⟨d, w, hm, hw, hv⟩ := nth_rel r1 rr hiv'
        obtain ⟨p', hp', e⟩ := List.mem_map.mp hm
        subst e
        exact ⟨w, H, I.kept kp, hv, k _ g _ H (q p' hp') hw rg (Keep.refl _ _)⟩
  · exact q.elim
end
end LF
namespace LF
open PySem PySem.Spec PyProof.Rows L2
variable [PP]
theorem isi_all {K : PySem.W.Frag} {g : G} {H : Hp} {x : D} {v : V} (rg : RG K g H) (h : isiOk x g) (r : RV K H x v) : ∃ t, TyX K H v t ∧ ∀ T : Ty, PySem.W.kitOne K t (.type T.nm) = some (isiD T x g) := by
  have kt : ∀ (T : Ty) (n : String) (b : Bool), kitB n T.nm = some b → isiD T x g = b → PySem.W.kitOne K (.type n) (.type T.nm) = some (isiD T x g) := fun T n b h e => by rw [e]; exact kit_ty h
  have t1 : ∀ T : Ty, kitB "NoneType" T.nm = some false := fun T => by cases T <;> decide +kernel
  have t2 : ∀ T : Ty, kitB "bool" T.nm = some (match T with | .int => true | .bool => true | _ => false) := fun T => by cases T <;> decide +kernel
  have t3 : ∀ T : Ty, kitB "int" T.nm = some (match T with | .int => true | _ => false) := fun T => by cases T <;> decide +kernel
  have t4 : ∀ T : Ty, kitB "str" T.nm = some (match T with | .str => true | _ => false) := fun T => by cases T <;> decide +kernel
  have t5 : ∀ T : Ty, kitB "tuple" T.nm = some (match T with | .tup => true | _ => false) := fun T => by cases T <;> decide +kernel
  have t6 : ∀ T : Ty, kitB "list" T.nm = some (match T with | .lst => true | _ => false) := fun T => by cases T <;> decide +kernel
  cases r with
  | non => exact ⟨_, .base .non, fun T => kt T _ _ (t1 T) (by cases T <;> rfl)⟩
  | bl b => exact ⟨_, .base (.bl b), fun T => kt T _ _ (t2 T) (by cases T <;> rfl)⟩
  | int i => exact ⟨_, .base (.int i), fun T => kt T _ _ (t3 T) (by cases T <;> rfl)⟩
  | str y => exact ⟨_, .base (.str y), fun T => kt T _ _ (t4 T) (by cases T <;> rfl)⟩
  | tup h1 h2 => exact ⟨_, tyx_tup h1, fun T => kt T _ _ (t5 T) (by cases T <;> rfl)⟩
  | rol h1 h2 => exact ⟨_, tyx_lst h1, fun T => kt T _ _ (t6 T) (by cases T <;> rfl)⟩
  | tua h1 h2 => exact ⟨_, tyx_tup h1.tpl, fun T => kt T _ _ (t5 T) (by cases T <;> rfl)⟩
  | exv h1 h2 => exact h.elim
  | ref a =>
    obtain ⟨o, e⟩ := h
    have ro := rg.st a o e
    cases o with
    | lst ds =>
      obtain ⟨vs, e1, _⟩ := ro
      refine ⟨_, .base (.lst e1), fun T => ?_⟩
      cases T
      case lst => exact kt _ _ true (by decide +kernel) (by show (match g a with | some (.lst _) => true | _ => false) = true; rw [e])
      all_goals exact kt _ _ false (by decide +kernel) rfl
    | dct ds =>
      obtain ⟨vs, e1, _⟩ := ro
      refine ⟨_, .base (.dK e1), fun T => ?_⟩
      cases T
      case lst => exact kt _ _ false (by decide +kernel) (by show (match g a with | some (.lst _) => true | _ => false) = false; rw [e])
      all_goals exact kt _ _ false (by decide +kernel) rfl
    | dtt ds =>
      obtain ⟨vs, e1, _⟩ := ro
      refine ⟨_, .base (.dT e1), fun T => ?_⟩
      cases T
      case lst => exact kt _ _ false (by decide +kernel) (by show (match g a with | some (.lst _) => true | _ => false) = false; rw [e])
      all_goals exact kt _ _ false (by decide +kernel) rfl
    | ins c fl ds =>
      obtain ⟨C, dx, vs, e1, cf, _, _⟩ := ro
      have kb : ∀ T : Ty, isiD T (.ref a) g = false := fun T => by
        cases T
        case lst => show (match g a with | some (.lst _) => true | _ => false) = false; rw [e]
        all_goals rfl
      refine ⟨_, .base (.ins e1 cf.cl cf.ha cf.hn cf.htk cf.hm), fun T => ?_⟩
      rw [kb]
      cases T
      · exact cf.kt.1
      · exact cf.kt.2.1
      · exact cf.kt.2.2.1
      · exact cf.kt.2.2.2.1
      · exact cf.kt.2.2.2.2

section
variable {X : Cx}
def eIsi2 (T U : Ty) (t : EV) : EV := fun ε g Q => t ε g fun x g1 => isiOk x g1 ∧ Q (.bl (isiD T x g1 || isiD U x g1)) g1
theorem d_isi2 {a : Expr} {t : EV} {T U : Ty} {n m : Str} {p p2 p3 p4 pos : Pos} {k1 : Nat} (hg : Gl X "isinstance") (hm : X.mg "isinstance" = none) (hg2 : Gl X n) (hm2 : X.mg n = none) (hg3 : Gl X m) (hm3 : X.mg m = none)
    (hv : bootBuiltins n = some (.type T.nm)) (hv3 : bootBuiltins m = some (.type U.nm)) (ha : DE X a t)
    (hn : n ≠ "__name__" := by decide +kernel) (hd : (n == ("__debug__" : Str)) = false := by decide +kernel) (hn3 : m ≠ "__name__" := by decide +kernel) (hd3 : (m == ("__debug__" : Str)) = false := by decide +kernel)
    (h1 : starEach [.Name n p2, .Name m p3] X.env = (false, eval (.Name n p2) X.env) :: starEach [.Name m p3] X.env := by rfl) (h2 : starEach [.Name m p3] X.env = (false, eval (.Name m p3) X.env) :: starEach [] X.env := by rfl)
    (s1 : starEach [a, .Tuple [.Name n p2, .Name m p3] k1 p4] X.env = (false, eval a X.env) :: starEach [.Tuple [.Name n p2, .Name m p3] k1 p4] X.env := by rfl) (s2 : starEach [.Tuple [.Name n p2, .Name m p3] k1 p4] X.env = (false, eval (.Tuple [.Name n p2, .Name m p3] k1 p4) X.env) :: starEach [] X.env := by rfl)
    (hpl : (backTo pos (starEach [.Tuple [.Name n p2, .Name m p3] k1 p4] X.env)).any (·.1) = false := by rfl) :
    DE X (.Call (.Name "isinstance" p) [a, .Tuple [.Name n p2, .Name m p3] k1 p4] [] pos) (eIsi2 T U t) :=
  PE.imp (pe_callB call_isiT hg hm (by decide +kernel) (pa_cons ha (pa_cons (pe_tup (pa_cons (pe_bltn (v := .ty T.nm) hg2 hm2 hv rfl hn hd) (pa_cons (pe_bltn (v := .ty U.nm) hg3 hm3 hv3 rfl hn3 hd3) pa_nil h2) h1)) pa_nil s2) s1) (by decide +kernel) (by decide +kernel) s1 hpl) fun σ H Q ⟨ε, g, Q0, rs, rg, q, k⟩ =>
    ⟨ε, g, _, rs, rg, q, fun d g1 w H1 q1 rv rg1 k1 => by
      refine ⟨Nat.le_of_ble_eq_true rfl, fun tq hq => ?_⟩
      have rg2 := rg1.tupNew (u := .tup [.ty T.nm, .ty U.nm]) hq
      have rv2 := rv.keep rg1 (keep_new hq (.tup [.ty T.nm, .ty U.nm]))
      obtain ⟨ty, c1, c2⟩ := isi_all rg2 q1.1 rv2
      refine ⟨w, tq, [.ty T.nm, .ty U.nm], ty, [.type T.nm, .type U.nm], isiD T d g1 || isiD U d g1, rfl, upd_same, .cons (.ty _) (.cons (.ty _) .nil), c1, ?_, k _ _ _ _ q1.2 (.bl _) rg2 (k1.trans (keep_new hq _))⟩
      refine kitAny_cons (c2 T) (fun e => ?_) (fun e => by rw [e]; rfl)
      rw [e, Bool.false_or]
      exact kitAny_cons (c2 U) (fun e => by rw [e]; exact kitAny_nil) (fun e => e)⟩
def rangeC (lo c : Int) (n : Nat) : List D := (List.range n).map fun i : Nat => D.int (lo + (i : Int) * c)
theorem rangeC_length (lo c : Int) (n : Nat) : (rangeC lo c n).length = n := by unfold rangeC; rw [List.length_map, List.length_range]
theorem itok_rangeC {K : PySem.W.Frag} {g0 : G} {H0 : Hp} (lo c : Int) (n : Nat) : ItOk K g0 H0 (rangeC lo c n) (fun _ => True) (Itc lo c n) := fun g H rg k _ => by
  refine ⟨Nat.le_of_eq (rangeC_length lo c n).symm, fun i hi => ?_⟩
  rw [rangeC_length] at hi
  refine ⟨hi, fun x H' ⟨e1, e2⟩ => ?_⟩
  subst e1; subst e2
  refine ⟨.int (lo + i * c), ?_, .int _, rg, Keep.refl _ _⟩
  unfold rangeC
  rw [List.getElem?_map, List.getElem?_range hi]; rfl
def iRng3 (t : AV) : IV := fun ε g R => t ε g fun ds g1 => match ds with
  | [.int i, .int j, .int c] => ∃ n, RgC i j c n ∧ R (rangeC i c n) (fun _ => True) g1
  | _ => False
theorem i_rng3 {tg a b e : Expr} {ta : AV} {p : Pos} (hg : Gl X "range") (hm : X.mg "range" = none) (ha : DA X [a, b, e] ta)
    (hs : starEach [a, b, e] X.env = (false, eval a X.env) :: starEach [b, e] X.env := by rfl) (hpl : (backTo pos (starEach [b, e] X.env)).any (·.1) = false := by rfl) : DI X tg (.Call (.Name "range" p) [a, b, e] [] pos) (LF.iRng3 ta) :=
  PI.imp (pi_range3 hg hm ha hs hpl) fun σ H R ⟨ε, g, R0, rs, rg, q, k⟩ => ⟨ε, g, _, rs, rg, q, fun ds g1 vs H1 q1 rv rg1 k1 => by
    split at q1
    · cases rv with
      | cons r t =>
        cases r
        cases t with
        | cons r2 t =>
          cases r2
          cases t with
          | cons r3 t =>
            cases r3
            cases t
            obtain ⟨n, hc, q1⟩ := q1
            exact ⟨_, _, _, n, rfl, hc, k _ _ _ _ _ q1 rg1 k1 (itok_rangeC _ _ _)⟩
    · exact q1.elim⟩
end
end LF
set_option maxHeartbeats 1000000
namespace LF
open PySem PySem.Spec PyProof.Rows L2 HT PySem.SeqAt
variable [PP]
variable {X : L2.Cx}
def rNe0T : RR := fun x y g Q => match x, y with
  | .tup ds, .tup [] => Q (.bl (decide (ds ≠ []))) g
  | _, _ => False
theorem od_ne0T (hu : X.A.units + 64 < cLine) : OpD X (compareOp .NotEq) rNe0T := by
  intro pins s σ H x y u w Q I rx ry ⟨g, dx, dy, Q0, rg, r1, r2, q, k⟩
  cases r1 <;> first | exact q.elim | skip
  cases r2 <;> first | exact q.elim | skip
  rename_i a vs ds h1 rv1 b ws es h2 rv2
  cases es with
  | cons _ _ => exact q.elim
  | nil =>
    cases rx; cases ry
    obtain ⟨i1, e1, t1, _⟩ := I.tuple h1.seq
    obtain ⟨i2, e2, t2, _⟩ := I.tuple h2.seq
    cases rv2
    have n1 := e1.length
    have n2 := e2.length
    have n3 := rv1.length
    have z : i2.length = 0 := by rw [← n2]; rfl
    refine RcNeAt.tuples (e := fun _ => true) t1 t2 (by omega) (fun j _ hj => absurd hj (by simp [z])) _ _ _ _ ?_
    have hb : (!((List.range (min i1.toArray.size i2.toArray.size)).all (fun _ => true) && i1.toArray.size == i2.toArray.size)) = decide (ds ≠ []) := by
      simp only [List.size_toArray, z]
      cases ds with
      | nil => rw [← n1, ← n3]; rfl
      | cons d ds => rw [← n1, ← n3]; simp
    rw [hb]
    exact ⟨.bl _, H, I, rfl, k _ g _ H q (.bl _) rg (Keep.refl _ _)⟩
/-- xs.pop(i), i from either end -/
def rPopX : RM := fun o xs g Q => match o, xs with
  | .ref a, [.int i] => ∃ ds j y, g a = some (.lst ds) ∧ ixN ds.length i = some j ∧ ds[j]? = some y ∧ Q y (gset g a (.lst (ds.eraseIdx j)))
  | _, _ => False
theorem md_popX : MtD X "list.pop" rPopX := by
  intro pins s σ H x xs v us Q I rx r ⟨g, dx, ds, Q0, rg, rv, rvs, q, k⟩
  unfold rPopX at q
  split at q
  · rename_i a i
    obtain ⟨w, rfl, ri⟩ := one_rv rvs
    cases ri
    cases rv
    obtain ⟨zs, j, y, e, h0, hy, q⟩ := q
    obtain ⟨vs, e1, r1⟩ := rg.st a _ e
    obtain ⟨w, ew, ry⟩ := r1.get hy
    have hlt := (List.getElem?_eq_some_iff.mp hy).1
    obtain ⟨hz, _⟩ := I.lstM e1
    have line := line63
    have hl := r1.length
    rw [hl] at h0
    obtain ⟨s1, s2, s3, s4⟩ := ixN_seq h0
    have kp := keep_put (H := H) e (.lst (zs.eraseIdx j)) (.lst (vs.eraseIdx j))
    exact mt_popAt pins s σ H _ _ v us Q I rx r ⟨a, vs, i, j, w, rfl, rfl, e1, by omega, by omega, s1, ew, k _ _ _ _ q (ry.keep rg kp) (rg.lay kp (r1.eraseIdx _)) kp⟩
  · exact q.elim
end LF
set_option maxHeartbeats 1000000
namespace LF
open PySem PySem.Spec PyProof.Rows L2 HT PySem.SeqAt
variable [PP]
variable {X : L2.Cx}
def rAddX : RR := fun x y g Q => match x, y with
  | .bl a, .int j => Q (.int ((if a = true then (1 : Int) else 0) + j)) g
  | _, _ => rAdd x y g Q
theorem od_addX : OpD X (binaryOp .Add) rAddX := by
  intro pins s σ H x y u w Q I rx ry ⟨g, dx, dy, Q0, rg, r1, r2, q, k⟩
  unfold rAddX at q
  split at q
  · cases r1
    cases r2
    cases rx
    obtain ⟨t, rfl⟩ := ry
    refine PySem.IntBool.add_bool_int ?_
    exact ⟨.int _, H, I.tok _, ⟨_, rfl⟩, k _ g _ H q (.int _) rg (Keep.refl _ _)⟩
  · exact od_add pins s σ H x y u w Q I rx ry ⟨g, dx, dy, Q0, rg, r1, r2, q, k⟩
def rSubX : RR := fun x y g Q => match x, y with
  | .bl a, .int j => Q (.int ((if a = true then (1 : Int) else 0) - j)) g
  | .int i, .int j => Q (.int (i - j)) g
  | _, _ => False
theorem od_subX : OpD X (binaryOp .Sub) rSubX := by
  intro pins s σ H x y u w Q I rx ry ⟨g, dx, dy, Q0, rg, r1, r2, q, k⟩
  unfold rSubX at q
  split at q
  · cases r1
    cases r2
    cases rx
    obtain ⟨t, rfl⟩ := ry
    refine PySem.IntBool.sub_bool_int ?_
    exact ⟨.int _, H, I.tok _, ⟨_, rfl⟩, k _ g _ H q (.int _) rg (Keep.refl _ _)⟩
  · exact od_sub pins s σ H x y u w Q I rx ry ⟨g, _, _, Q0, rg, r1, r2, ⟨trivial, q⟩, k⟩
  · exact q.elim
def rStrX : RL := fun xs g Q => match xs with
  | [.bl b] => Q (.str (if b then "True" else "False")) g
  | _ => rStrU xs g Q
theorem cd_strX {kk : Nat} (hr : Room kk X.A) (hgd : X.A.guards = some []) : CallD X (.type "str") rStrX := by
  intro pins s σ H vs us Q I r ⟨g, ds, Q0, rg, rv, q, k⟩
  unfold rStrX at q
  split at q
  · obtain ⟨v, rfl, a⟩ := one_rv rv
    obtain ⟨u, rfl, ru⟩ := Vals.one r
    cases a
    cases ru
    refine PySem.P.str_of_bool ?_
    exact ⟨.str _, H, I.tok _, ⟨_, rfl⟩, k _ g _ H q (.str _) rg (Keep.refl _ _)⟩
  · exact cd_str hr hgd pins s σ H vs us Q I r ⟨g, ds, Q0, rg, rv, q, k⟩
end LF
set_option maxHeartbeats 1000000
namespace LF
open PySem PySem.Spec PyProof.Rows L2 HT PySem.SeqAt
variable [PP]
variable {X : L2.Cx}
def rEq0L : RR := fun x y g Q => match x, y with
  | .ref a, .ref b => ∃ ds, g a = some (.lst ds) ∧ g b = some (.lst []) ∧ Q (.bl (decide (ds = []))) g
  | _, _ => False
theorem od_eq0L (hu : X.A.units + 64 < cLine) : OpD X (compareOp .Eq) rEq0L := by
  intro pins s σ H x y u w Q I rx ry ⟨g, dx, dy, Q0, rg, r1, r2, q, k⟩
  cases r1 <;> first | exact q.elim | skip
  cases r2 <;> first | exact q.elim | skip
  obtain ⟨ds, e1, e2, q⟩ := q
  cases rx; cases ry
  obtain ⟨vs, h1, rv1⟩ := rg.st _ _ e1
  obtain ⟨ws, h2, rv2⟩ := rg.st _ _ e2
  obtain ⟨i1, t1, pl1, _⟩ := I.list (.of h1)
  obtain ⟨i2, t2, pl2, _⟩ := I.list (.of h2)
  have n1 := t1.length
  have n2 := t2.length
  have n3 := rv1.length
  have n4 := rv2.length
  have z : i2.length = 0 := by rw [← n2, ← n4]; rfl
  cases ds with
  | nil =>
    have z1 : i1.length = 0 := by rw [← n1, ← n3]; rfl
    refine eq_listAt (e := fun _ => true) pl1.isList pl2.isList (by simp only [List.size_toArray]; omega) (by omega) (fun j _ hj => absurd hj (by simp [z])) ?_
    have hb : ((List.range i1.toArray.size).all (fun _ => true)) = decide (([] : List D) = []) := by
      simp only [List.size_toArray, z1]; rfl
    rw [hb]
    exact ⟨.bl _, H, I, rfl, k _ g _ H q (.bl _) rg (Keep.refl _ _)⟩
  | cons d ds =>
    refine eq_list_lengthsAt pl1.isList pl2.isList (by simp only [List.size_toArray, z, ← n1, ← n3]; simp) (by omega) ?_
    exact ⟨.bl _, H, I, rfl, k _ g _ H q (.bl _) rg (Keep.refl _ _)⟩
/-- the order of nested data -/
def rCmp (f : PyData → PyData → Bool) : RR := fun x y g Q => ∃ p q, Dat g x p ∧ Dat g y q ∧ PySem.W.alike p q = true ∧ p ≠ .none ∧ min p.depth q.depth ≤ 60 ∧ Q (.bl (f p q)) g
theorem od_gtD (hu : X.A.units + 64 < cLine) : OpD X (compareOp .Gt) (rCmp fun p q => PySem.W.dataLt q p) := by
  intro pins s σ H x y u w Q I rx ry ⟨g, dx, dy, Q0, rg, r1, r2, ⟨p, q, h1, h2, al, hn, hd, q0⟩, k⟩
  obtain ⟨as, ra⟩ := Dp.reads I _ _ _ (h1.dp rg r1) rx
  obtain ⟨bs, rb⟩ := Dp.reads I _ _ _ (h2.dp rg r2) ry
  exact PySem.W.gt_data ra rb al hn (by omega) ⟨.bl _, H, I, rfl, k _ g _ H q0 (.bl _) rg (Keep.refl _ _)⟩
theorem od_leD (hu : X.A.units + 64 < cLine) : OpD X (compareOp .LtE) (rCmp fun p q => !PySem.W.dataLt q p) := by
  intro pins s σ H x y u w Q I rx ry ⟨g, dx, dy, Q0, rg, r1, r2, ⟨p, q, h1, h2, al, hn, hd, q0⟩, k⟩
  obtain ⟨as, ra⟩ := Dp.reads I _ _ _ (h1.dp rg r1) rx
  obtain ⟨bs, rb⟩ := Dp.reads I _ _ _ (h2.dp rg r2) ry
  exact PySem.W.le_data ra rb al hn (by omega) ⟨.bl _, H, I, rfl, k _ g _ H q0 (.bl _) rg (Keep.refl _ _)⟩
/-- a datum, its value, what it tells -/
abbrev Tri := D × V × PyData
inductive Tri3 (K : PySem.W.Frag) (g : G) (H : Hp) : List D → List V → List PyData → List Tri → Prop
  | nil : Tri3 K g H [] [] [] []
  | cons {d : D} {v : V} {p : PyData} {ds : List D} {vs : List V} {ps : List PyData} {ts : List Tri} : RV K H d v → Dat g d p → Tri3 K g H ds vs ps ts → Tri3 K g H (d :: ds) (v :: vs) (p :: ps) ((d, v, p) :: ts)
theorem tri_of {K : PySem.W.Frag} {g : G} {H : Hp} : ∀ {ds : List D} {vs : List V} {ps : List PyData}, RVs K H ds vs → Dats g ds ps → ∃ ts, Tri3 K g H ds vs ps ts
  | _, _, _, .nil, .nil => ⟨[], .nil⟩
  | _, _, _, .cons r rs, .cons d dd => let ⟨ts, h⟩ := tri_of rs dd; ⟨_, .cons r d h⟩
theorem Tri3.maps {K : PySem.W.Frag} {g : G} {H : Hp} {ds : List D} {vs : List V} {ps : List PyData} {ts : List Tri} (h : Tri3 K g H ds vs ps ts) : ts.map (·.1) = ds ∧ ts.map (·.2.1) = vs ∧ ts.map (·.2.2) = ps := by
  induction h with
  | nil => exact ⟨rfl, rfl, rfl⟩
  | cons _ _ _ ih => exact ⟨by rw [List.map_cons, ih.1], by rw [List.map_cons, ih.2.1], by rw [List.map_cons, ih.2.2]⟩
theorem Tri3.mem {K : PySem.W.Frag} {g : G} {H : Hp} {ds : List D} {vs : List V} {ps : List PyData} {ts : List Tri} (h : Tri3 K g H ds vs ps ts) : ∀ t ∈ ts, RV K H t.1 t.2.1 ∧ Dat g t.1 t.2.2 := by
  induction h with
  | nil => intro t ht; cases ht
  | cons r d _ ih =>
    intro t ht
    rcases List.mem_cons.mp ht with e | e
    · subst e; exact ⟨r, d⟩
    · exact ih t e
theorem tri_each : ∀ {ts : List Tri} {us : List Value}, Vals (ts.map (·.2.1)) us → PySem.W.EachIs (fun u (t : Tri) => RelV t.2.1 u) us ts
  | [], _, r => by cases r; exact .nil
  | t :: ts, _, r => by
    cases r with
    | cons a b => exact .cons a (tri_each b)
theorem each_tri : ∀ {ts : List Tri} {us : List Value}, PySem.W.EachIs (fun u (t : Tri) => RelV t.2.1 u) us ts → Vals (ts.map (·.2.1)) us
  | _, _, .nil => .nil
  | _, _, .cons a b => .cons a (each_tri b)
theorem each_imp {α β : Type} {R S : α → β → Prop} : ∀ {xs : List α} {ys : List β}, PySem.W.EachIs R xs ys → (∀ x y, y ∈ ys → R x y → S x y) → PySem.W.EachIs S xs ys
  | _, _, .nil, _ => .nil
  | _, _, .cons a b, h => .cons (h _ _ List.mem_cons_self a) (each_imp b fun x y hy => h x y (List.mem_cons_of_mem _ hy))
theorem rvs_of {K : PySem.W.Frag} {H : Hp} : ∀ {ts : List Tri}, (∀ t ∈ ts, RV K H t.1 t.2.1) → RVs K H (ts.map (·.1)) (ts.map (·.2.1))
  | [], _ => .nil
  | t :: ts, h => .cons (h t List.mem_cons_self) (rvs_of fun u hu => h u (List.mem_cons_of_mem _ hu))
def rSortD : RL := fun xs g Q => match xs with
  | [.ref a] => ∃ ds ps, g a = some (.lst ds) ∧ Dats g ds ps ∧ PySem.W.AllAlike ps ∧ (∀ p ∈ ps, ∃ x r, p = .tuple (x :: r)) ∧ (∀ p ∈ ps, p.depth ≤ 60) ∧ ∀ es p, es.Perm ds → g p = none → Q (.ref p) (gset g p (.lst es))
  | _ => False
theorem cd_sortD (hu : X.A.units + 64 < cLine) : CallD X (.builtin "sorted") rSortD := by
  intro pins s σ H vs us Q I r ⟨g, ds, Q0, rg, rv, q, k⟩
  unfold rSortD at q
  split at q
  · obtain ⟨v, rfl, a⟩ := one_rv rv
    obtain ⟨es, ps, e, hd, al, ht, hdp, q⟩ := q
    cases a
    obtain ⟨u, rfl, ru⟩ := Vals.one r
    cases ru
    obtain ⟨xs, hx, rx⟩ := rg.st _ _ e
    obtain ⟨its, rv2, hl, hz⟩ := I.list (.of hx)
    obtain ⟨ts, T⟩ := tri_of rx hd
    obtain ⟨m1, m2, m3⟩ := T.maps
    have hmem := T.mem
    subst m1; subst m2; subst m3
    have ee := tri_each rv2
    have hlen := ee.length
    have hz' : ts.length ≤ sizeLine := by rw [List.length_map] at hz; exact hz
    refine PySem.W.sorted_data (enc := fun t : Tri => t.2.2) hl.isList ee (each_imp ee fun u t htm hr => ?_) al (.inl ht) hz' (fun t htm => ?_) fun out hlo ho => ?_
    · obtain ⟨h1, h2⟩ := hmem t htm
      exact Dp.reads I _ _ _ (h2.dp rg h1) hr
    · have := hdp _ (List.mem_map.mpr ⟨t, htm, rfl⟩)
      omega
    · have hp : (ts.mergeSort (PySem.W.dataLe false fun t : Tri => t.2.2)).Perm ts := List.mergeSort_perm _ _
      have rvs := rvs_of (K := X.K) (H := H) fun t htm => (hmem t (hp.mem_iff.mp htm)).1
      have nz : H (s.heap.objs.size + 1) = none := I.hok.fresh (Nat.le_succ _)
      refine fin_lst rg rvs (fun p' hp' => q _ p' (hp.map _) hp') k _ nz |> fun f => ?_
      obtain ⟨n, hn⟩ := sortedAll_at s.heap its out.toArray
      refine ⟨.ref _, upd H (s.heap.objs.size + 1) (.lst ((ts.mergeSort (PySem.W.dataLe false fun t : Tri => t.2.2)).map (·.2.1))), I.laid (t' := s.toks) (fun b o e => sortedAll_old e) (Nat.le_succ _) ⟨?_, out, n, each_tri ho, hn⟩, rfl, f⟩
      rw [List.length_map, hp.length_eq]; exact hz'
  · exact q.elim
end LF
set_option maxHeartbeats 1000000
namespace LF
open PySem PySem.Spec PyProof.Rows L2
variable [PP]
def zipD (xs ys : List D) : List D := (xs.zip ys).map fun p => D.tup [p.1, p.2]
theorem zipD_len (xs ys : List D) : (zipD xs ys).length = min xs.length ys.length := by unfold zipD; rw [List.length_map, List.length_zip]
theorem zipD_get {xs ys : List D} {i : Nat} {x y : D} (h : xs[i]? = some x) (k : ys[i]? = some y) : (zipD xs ys)[i]? = some (.tup [x, y]) := by
  unfold zipD
  rw [List.getElem?_map, List.getElem?_zip_eq_some (z := (x, y)) |>.mpr ⟨h, k⟩]
  rfl
section
variable {X : Cx}
def iZp (t : AV) : IV := fun ε g R => t ε g fun ds g1 => match ds with
  | [.tup xs, .tup ys] => R (zipD xs ys) (fun _ => True) g1
  | _ => False
theorem itok_zipT {K : PySem.W.Frag} {g0 : G} {H0 : Hp} {a b : Addr} {xs ys : List D} {vs ws : List V} (rg0 : RG K g0 H0) (ha : Tpl K H0 a vs) (hb : Tpl K H0 b ws) (r1 : RVs K H0 xs vs) (r2 : RVs K H0 ys ws) : ItOk K g0 H0 (zipD xs ys) (fun _ => True) (RZ.ItzT K a b) := fun g H rg k _ => by
  have a' := (ha.keep rg0 k).seq
  have b' := (hb.keep rg0 k).seq
  have s1 := r1.keep rg0 k
  have s2 := r2.keep rg0 k
  have l1 := s1.length
  have l2 := s2.length
  rw [zipD_len]
  refine ⟨⟨vs, ws, a', b', by omega⟩, fun i hi => ?_⟩
  have e1 : xs[i]? = some (xs[i]'(by omega)) := List.getElem?_eq_getElem (by omega)
  have e2 : ys[i]? = some (ys[i]'(by omega)) := List.getElem?_eq_getElem (by omega)
  obtain ⟨v, ev, rv⟩ := s1.get e1
  obtain ⟨w, ew, rw'⟩ := s2.get e2
  refine ⟨⟨vs, ws, v, w, a', b', ev, ew⟩, fun x H' ⟨T, v', w', q1, q2, q3, q4, q5⟩ => ?_⟩
  subst q1 q3
  have z1 := q4 vs a'
  rw [ev] at z1; cases z1
  have z2 := q5 ws b'
  rw [ew] at z2; cases z2
  have kp := keep_new (g := g) q2 (.tup [v, w])
  exact ⟨_, zipD_get e1 e2, .tup (.inl upd_same) (.cons (rv.keep rg kp) (.cons (rw'.keep rg kp) .nil)), rg.tupNew q2, kp⟩
theorem i_zp {e e2 : Expr} {ta : AV} {p pos tpos : Pos} {elts : List Expr} {kk : Nat} (hg : Gl X "zip") (hm : X.mg "zip" = none) (ha : DA X [e, e2] ta)
    (hs : starEach [e, e2] X.env = (false, eval e X.env) :: starEach [e2] X.env := by rfl) (hpl : (backTo pos (starEach [e2] X.env)).any (·.1) = false := by rfl) :
    DI X (.Tuple elts kk tpos) (.Call (.Name "zip" p) [e, e2] [] pos) (iZp ta) :=
  PI.imp (RZ.pi_zipA hg hm ha hs hpl) fun σ H R ⟨ε, g, R0, rs, rg, q, k⟩ => ⟨ε, g, _, rs, rg, q, fun ds g1 vs H1 q1 rv rg1 k1 => by
    split at q1
    · cases rv with
      | cons r t =>
        cases t with
        | cons r' t =>
          cases t
          cases r with
          | tup h1 h2 =>
            cases r' with
            | tup h3 h4 => exact ⟨_, _, _, _, rfl, .inr ⟨h1.seq, h3.seq, k _ _ _ _ _ q1 rg1 k1 (itok_zipT rg1 h1 h3 h2 h4)⟩⟩
    · exact q1.elim⟩
end
end LF
set_option maxHeartbeats 1000000
namespace LF
open PySem PySem.Spec PyProof.Rows L2
variable [PP]
def eVw (t : EV) : EV := fun ε g Q => t ε g fun d g1 => match d with
  | .tua xs => Q (.tup xs) g1
  | d => Q d g1
theorem eVw_var (i : Nat) (ε : En) (g : G) (Q : D → G → Prop) {xs : List D} (h : ε[i]? = some (some (.tua xs))) (q : Q (.tup xs) g) : eVw (eVar i) ε g Q := ⟨_, h, q⟩
section
variable {X : Cx} {e : Expr} {t : EV}
theorem d_vw (h : DE X e t) : DE X e (eVw t) := PE.imp h fun σ H Q ⟨ε, g, Q0, rs, rg, q, k⟩ => ⟨ε, g, _, rs, rg, q, fun d g1 v H1 q1 rv rg1 k1 => by
  cases rv with
  | tua h1 h2 => exact k _ _ _ _ q1 (.tup h1.tpl h2) rg1 k1
  | exv h1 h2 => exact k _ _ _ _ q1 (.exv h1 h2) rg1 k1
  | non => exact k _ _ _ _ q1 .non rg1 k1
  | bl b => exact k _ _ _ _ q1 (.bl b) rg1 k1
  | int b => exact k _ _ _ _ q1 (.int b) rg1 k1
  | str b => exact k _ _ _ _ q1 (.str b) rg1 k1
  | tup h1 h2 => exact k _ _ _ _ q1 (.tup h1 h2) rg1 k1
  | ref b => exact k _ _ _ _ q1 (.ref b) rg1 k1
  | rol h1 h2 => exact k _ _ _ _ q1 (.rol h1 h2) rg1 k1⟩
/-- a new tuple without a dict -/
theorem fin_tua {K : PySem.W.Frag} {g : G} {H : Hp} {ds : List D} {vs : List V} {Q0 : D → G → Prop} {Q : VK} (rg : RG K g H) (rv : RVs K H ds vs) (q : Q0 (.tua ds) g) (hq : ∀ d g' v H', Q0 d g' → RV K H' d v → RG K g' H' → Keep g H g' H' → Q v H') (o : Obj) (ho : o.dict = none) (p : Addr) (hp : H p = none) :
    Q (.ref p) (upd H p (.frz o (.tup vs))) := hq _ _ _ _ q (.tua ⟨o, upd_same, ho⟩ (rv.keep rg (keep_new hp _))) (rg.tupNew hp) (keep_new hp _)
theorem callN : CallR X (.type "tuple") (fun xs H Q => ∃ p ys, xs = [.ref p] ∧ SqL X.K H p ys ∧ ∀ l o, H l = none → o.dict = none → Q (.ref l) (upd H l (.frz o (.tup ys)))) := by
  intro pins s σ H xs us Q I r h
  obtain ⟨p, ys, rfl, hq, q⟩ := h
  obtain ⟨u, rfl, rx⟩ := vals1 r
  cases rx
  obtain ⟨its, r', pl, hz⟩ := I.list hq
  have hlen := r'.length
  have hl63 := line63
  refine call_tuple_list pl.isList (fun h' kp => ?_) (by simp only [List.size_toArray] <;> omega)
  have I1 : Inv X pins σ H { s with heap := h' } := I.kept (t' := s.toks) kp
  have ob : ({ cls := .type "tuple", data := .seq its.toArray } : Obj).dict = none := rfl
  have I2 := I1.laid (a := h'.objs.size) (h' := h'.push { cls := .type "tuple", data := .seq its.toArray }) (t' := s.toks) (o := .frz { cls := .type "tuple", data := .seq its.toArray } (.tup ys))
    (fun b o e => Heap.get?_push_of_some _ e) (Nat.le_refl _) ⟨Heap.get?_push_size _ rfl, hz, its, r', IsTup.new _ _⟩
  exact ⟨.ref h'.objs.size, _, I2, rfl, q _ _ (I1.hok.fresh (Nat.le_refl _)) ob⟩
def rTupN : RL := fun xs g Q => match xs with
  | [.ref a] => ∃ ys, g a = some (.lst ys) ∧ Q (.tua ys) g
  | _ => False
theorem cd_tupleN : CallD X (.type "tuple") rTupN := by
  intro pins s σ H vs us Q I r ⟨g, ds, Q0, rg, rv, q, k⟩
  unfold rTupN at q
  split at q
  · obtain ⟨v, rfl, a⟩ := one_rv rv
    obtain ⟨ys, hi, q⟩ := q
    cases a
    obtain ⟨ws, h1, h2⟩ := rg.st _ _ hi
    exact callN pins s σ H _ us Q I r ⟨_, _, rfl, .of h1, fun p o hp ho => fin_tua rg h2 q k o ho p hp⟩
  · exact q.elim
def qIx (ds : List D) : List D → G → (D → G → Prop) → Prop := fun ks g Q => match ks with
  | [.int k] => ∃ ns : List Int, ds = ns.map D.int ∧ k ∈ ns ∧ Q (.int (ns.idxOf k : Nat)) g
  | _ => False
def eIx (to : EV) (t : AV) : EV := fun ε g Q => to ε g fun o g1 => match o with
  | .tua ds => t ε g1 fun ks g2 => qIx ds ks g2 Q
  | _ => False
theorem rvs_ints {K : PySem.W.Frag} {H : Hp} : ∀ {ns : List Int} {vs : List V}, RVs K H (ns.map D.int) vs → vs = ns.map V.int
  | [], _, .nil => rfl
  | n :: ns, _, .cons a b => by
    cases a
    rw [rvs_ints b]
    rfl
theorem d_index {o e : Expr} {to : EV} {t : AV} {apos cpos : Pos} (ho : DE X o to) (ha : DA X [e] t)
    (hbase : attributeBase o "index" X.env (eval o X.env) = eval o X.env := by rfl)
    (hfew : ((backTo cpos (starEach [e] X.env)).all (fun x => !x.1) && (backToKw cpos (keywordEach [] X.env)).all (fun x => x.1.isSome)
      && decide ([e].length + ([] : List Keyword).length + (if ([] : List Keyword).isEmpty then 0 else 1) < 30)) = true := by rfl)
    (hline : (apos.endLine == cpos.line) = true := by rfl) (hs : starEach [e] X.env = (false, eval e X.env) :: starEach [] X.env := by rfl) (hplain : (backTo cpos (starEach [] X.env)).any (·.1) = false := by rfl) :
    DE X (.Call (.Attribute o "index" apos) [e] [] cpos) (eIx to t) := by
  refine ⟨fun pins s σ H Q I h => ?_⟩
  obtain ⟨ε, g, Q0, rs, rg, q, k⟩ := h
  refine wpAny_Call_method_late hbase hfew hline rfl (thn (ho.run pins s σ H (fun v H' => ∃ d g', (match d with | .tua ds => t ε g' fun ks g2 => qIx ds ks g2 Q0 | _ => False) ∧ RV X.K H' d v ∧ RG X.K g' H' ∧ Keep g H g' H') I
    ⟨ε, g, _, rs, rg, q, fun d g' v H' q rv rg' k' => ⟨d, g', q, rv, rg', k'⟩⟩) fun v s1 ⟨x, H1, I1, r1, d, g1, q1, rv1, rg1, k1⟩ => ?_)
  cases rv1 <;> first | exact q1.elim | skip
  rename_i a vs ds tu rvs
  obtain ⟨ob, e0, z⟩ := tu
  cases r1
  have hf := I1.hok _ _ e0
  obtain ⟨ho1, hz1, its1, rv1', pl1⟩ := hf
  refine ⟨"tuple", "tuple.index", PySem.F.plainAttrs_tuple, PySem.F.slot_tuple_index, PySem.F.type_tuple_index, let ⟨o, ho, hc, _⟩ := pl1; ⟨o, ho, hc⟩, fun a e => by cases e; exact ⟨ob, ho1, z⟩, ?_⟩
  have hA := ha.run cpos pins s1 σ H1 (fun us H' => ∃ ks g', qIx ds ks g' Q0 ∧ RVs X.K H' ks us ∧ RG X.K g' H' ∧ Keep g1 H1 g' H') I1
    ⟨ε, g1, _, rs.keep rg k1, rg1, q1, fun ds' g' vs' H' q rv rg' k' => ⟨ds', g', q, rv, rg', k'⟩⟩
  rw [hs] at hA ⊢
  refine Calls.callWith_builtin (by show (false || (backTo cpos (starEach [] X.env)).any (·.1)) = false; rw [hplain] <;> rfl) (Calls.evalArgs_plain ?_)
  refine thn hA fun us s2 ⟨xs, H2, I2, r2, ks, g2, q2, rk, rg2, k2⟩ => ?_
  unfold qIx at q2
  split at q2
  · rename_i kk
    obtain ⟨ns, e3, hk, q2⟩ := q2
    obtain ⟨v, e4, rk1⟩ := one_rv rk
    subst e4
    cases rk1
    obtain ⟨u, e5, tk, e6⟩ := vals1 r2
    subst e5 e6
    subst e3
    have e7 := (k2 _ _ e0 (rg1.frzOut e0)).1
    obtain ⟨ho2, hz2, its2, rv2, pl2⟩ := I2.hok _ _ e7
    rw [rvs_ints rvs] at rv2
    exact PySem.SeqAt.tuple_index_ints pl2 (intsAre_of rv2) hk ⟨.int (ns.idxOf kk : Nat), H2, I2.tok _, ⟨_, rfl⟩, k _ _ _ _ q2 (.int _) rg2 (k1.trans k2)⟩
  · exact q2.elim
end
end LF
set_option maxHeartbeats 1000000
namespace LF
open PySem PySem.Spec PyProof.Rows L2
variable [PP]
section
variable {X : Cx} {es : List Expr} {t : AV} {pos : Pos}
theorem pe_tupN {x1} {t : TA} (h : PA X es t) : PE X (.Tuple es x1 pos) (fun σ H Q => t σ H fun xs H1 => xs.length ≤ sizeLine ∧ ∀ p o, H1 p = none → o.dict = none → Q (.ref p) (upd H1 p (.frz o (.tup xs)))) := by
  refine ⟨fun pins s σ H Q I hq => ?_⟩
  refine wpAny_Tuple_spliced (thn (h.run pos pins s σ H _ I hq) fun us s1 ⟨xs, H1, I1, r, z, q⟩ => ⟨by rw [← r.length]; exact z, ?_⟩)
  have fresh : H1 s1.heap.objs.size = none := I1.hok.fresh (Nat.le_refl _)
  have ob : ({ cls := .type "tuple", data := .seq us.toArray } : Obj).dict = none := rfl
  refine ⟨.ref s1.heap.objs.size, _, I1.laid (t' := s1.toks) (o := .frz { cls := .type "tuple", data := .seq us.toArray } (.tup xs)) (fun b u e => Heap.get?_push_of_some _ e) (Nat.le_refl _) ?_, rfl, q _ _ fresh ob⟩
  exact ⟨Heap.get?_push_size _ rfl, z, us, r, ⟨_, Heap.get?_push_size _ rfl, rfl, _, rfl⟩⟩
def rTupD : RL := fun xs g Q => xs.length ≤ sizeLine ∧ Q (.tua xs) g
theorem d_tupN {x1} (h : DA X es t) : DE X (.Tuple es x1 pos) (eArg rTupD t) := PE.imp (pe_tupN h) fun σ H Q h => by
  obtain ⟨ε, g, Q0, hs, hg, ht, hq⟩ := h
  refine ⟨ε, g, _, hs, hg, ht, fun ds g1 vs H1 q1 rv rg k => ⟨by rw [← rv.length]; exact q1.1, fun p o hp ho => ?_⟩⟩
  exact fin_tua rg rv q1.2 (fun d g' v H' q rv rg k' => hq _ _ _ _ q rv rg (k.trans k')) o ho p hp
def rCatN (K : PySem.W.Frag) : R2 := fun x y H Q => ∃ a b xs ys, x = .ref a ∧ y = .ref b ∧ SqT K H a xs ∧ SqT K H b ys ∧ xs.length + ys.length ≤ sizeLine ∧
  (xs = [] → Q (.ref b) H) ∧ (xs ≠ [] → ys ≠ [] ∧ ∀ p o, H p = none → o.dict = none → Q (.ref p) (upd H p (.frz o (.tup (xs ++ ys)))))
theorem op_catN : OpR X (binaryOp .Add) (rCatN X.K) := by
  intro pins s σ H x y v u Q I rx ry h
  obtain ⟨a, b, xs, ys, rfl, rfl, ha, hb, hz, q0, q2⟩ := h
  cases rx
  cases ry
  obtain ⟨its, r1, p1, _⟩ := I.tuple ha
  obtain ⟨its2, r2, p2, _⟩ := I.tuple hb
  by_cases hx : xs = []
  · subst hx
    cases r1
    exact L2.cat_tup0 p1 p2 ⟨.ref b, H, I, rfl, q0 rfl⟩
  · obtain ⟨hy, q2⟩ := q2 hx
    refine HT.cat_tup p1 p2 (fun z => hx (r1.nil_iff.mp z)) (fun z => absurd (r2.nil_iff.mp z) hy) (fun z => ?_) (by rw [← r1.length, ← r2.length]; exact hz)
    have ob : ({ cls := .type "tuple", data := .seq (its ++ its2).toArray } : Obj).dict = none := rfl
    refine ⟨.ref s.heap.objs.size, _, I.laid (t' := s.toks) (o := .frz { cls := .type "tuple", data := .seq (its ++ its2).toArray } (.tup (xs ++ ys))) (fun b ob q => Heap.get?_push_of_some _ q) (Nat.le_refl _) ?_, rfl, q2 _ _ (I.hok.fresh (Nat.le_refl _)) ob⟩
    exact ⟨Heap.get?_push_size _ rfl, by rw [List.length_append]; exact hz, _, r1.append r2, IsTup.new _ _⟩
def rAddN : RR := fun x y g Q => match x, y with
  | .tup [], .tua ys => Q (.tua ys) g
  | .tua xs, .tua ys => xs ≠ [] ∧ ys ≠ [] ∧ xs.length + ys.length ≤ sizeLine ∧ Q (.tua (xs ++ ys)) g
  | _, _ => False
theorem od_addN : OpD X (binaryOp .Add) rAddN := by
  intro pins s σ H x y v u Q I rx ry ⟨g, dx, dy, Q0, rg, r1, r2, q, k⟩
  unfold rAddN at q
  split at q
  · cases r1 with
    | tup h1 h2 =>
      cases h2
      cases r2 with
      | tua h3 h4 =>
        obtain ⟨z1, _⟩ := I.tuple h3.tpl.seq
        have hz := (I.tuple h3.tpl.seq).choose_spec.2.2
        refine op_catN pins s σ H _ _ v u Q I rx ry ⟨_, _, _, _, rfl, rfl, h1.seq, h3.tpl.seq, by rw [List.length_nil, Nat.zero_add]; exact hz, fun _ => k _ _ _ _ q (.tua h3 h4) rg (Keep.refl _ _), fun z => absurd rfl z⟩
  · cases r1 with
    | tua h1 h2 =>
      cases r2 with
      | tua h3 h4 =>
        obtain ⟨q1, q2, q3, q⟩ := q
        have e1 := h2.length
        have e2 := h4.length
        refine op_catN pins s σ H _ _ v u Q I rx ry ⟨_, _, _, _, rfl, rfl, h1.tpl.seq, h3.tpl.seq, by omega, fun z => ?_, fun z => ⟨fun w => ?_, fun p o hp ho => fin_tua rg (h2.append h4) q k o ho p hp⟩⟩
        · rw [z] at e1; exact absurd (List.eq_nil_of_length_eq_zero e1) q1
        · rw [w] at e2; exact absurd (List.eq_nil_of_length_eq_zero e2) q2
  · exact q.elim
end
end LF
set_option maxHeartbeats 1000000
namespace LF
open PySem PySem.Spec PyProof.Rows L2
variable [PP]
def keyV : Key → D
  | .inl i => .int i
  | .inr z => .str z
theorem keyV_rv {K : PySem.W.Frag} {H : Hp} : ∀ k : Key, RV K H (keyV k) (kV k)
  | .inl _ => .int _
  | .inr _ => .str _
theorem keyD_V : ∀ k : Key, keyD (keyV k) = some k
  | .inl _ => rfl
  | .inr _ => rfl
def itemsK (kvs : List (Key × D)) : List D := kvs.map fun kv => .tup [keyV kv.1, kv.2]
theorem RO.here {K : PySem.W.Frag} {H : Hp} {a : Addr} {o : DO} (h : RO K H a o) : ∃ u, H a = some u := by
  cases o with
  | lst ds => obtain ⟨vs, e, _⟩ := h; exact ⟨_, e⟩
  | dct ds => obtain ⟨vs, e, _⟩ := h; exact ⟨_, e⟩
  | ins c fl ds => obtain ⟨_, _, _, e, _⟩ := h; exact ⟨_, e⟩
  | dtt ds => obtain ⟨vs, e, _⟩ := h; exact ⟨_, e⟩
theorem rvs_items {K : PySem.W.Frag} {H H' : Hp} {g g' : G} (rg : RG K g H) (k : Keep g H g' H') : ∀ {kvs : List (Key × D)} {ws : List (Key × V)} {ts : List Addr}, RKs K H kvs ws → Paired (fun (t : Addr) (q : Key × V) => H' t = some (.tup [kV q.1, q.2])) ts ws → RVs K H' (itemsK kvs) (ts.map V.ref)
  | _, _, _, .nil, .nil => .nil
  | _, _, _, .cons (k := key) r t, .cons h u => .cons (.tup (.inl h) (.cons (keyV_rv key) (.cons (r.keep rg k) .nil))) (rvs_items rg k t u)
section
variable {X : Cx} {e : Expr} {t : EV}
def eItems (t : EV) : EV := fun ε g Q => t ε g fun x g1 => match x with
  | .ref a => ∃ kvs, g1 a = some (.dct kvs) ∧ ∀ p, g1 p = none → Q (.ref p) (gset g1 p (.lst (itemsK kvs)))
  | _ => False
theorem d_listItems {p apos cpos pos : Pos} (hc : X.calm = true) (he : DE X e t) (hg : Gl X "list") (hm : X.mg "list" = none) (hbase : attributeBase e "items" X.env (eval e X.env) = eval e X.env := by rfl) (hline : (apos.endLine == cpos.line) = true := by rfl)
    (hs : starEach [.Call (.Attribute e "items" apos) [] [] cpos] X.env = (false, eval (.Call (.Attribute e "items" apos) [] [] cpos) X.env) :: starEach [] X.env := by rfl) :
    DE X (.Call (.Name "list" p) [.Call (.Attribute e "items" apos) [] [] cpos] [] pos) (eItems t) :=
  PE.imp (LiI.pe_listItems hc he hg hm rfl hbase hline hs) fun σ H Q ⟨ε, g, Q0, rs, rg, q, k⟩ => ⟨ε, g, _, rs, rg, q, fun d g1 v H1 q1 rv rg1 k1 => by
    cases rv <;> first | exact q1.elim | skip
    rename_i a
    obtain ⟨kvs, e1, q1⟩ := q1
    obtain ⟨ws, e2, rk⟩ := rg1.st a _ e1
    refine ⟨a, ws, rfl, e2, fun H' p ts hk hp hts hpt hl hP => ?_⟩
    have kp : Keep g1 H1 (gset g1 p (.lst (itemsK kvs))) H' := fun b o h n => ⟨hk b o h, by rw [gset_ne (fun z => by subst z; rw [hp] at h; cases h)]; exact n⟩
    have rv' := rvs_items rg1 kp rk hP
    refine k _ _ _ _ (q1 p (rg1.out hp)) (.ref p) (rg1.move kp fun b o h => ?_) (k1.trans kp)
    by_cases hb : b = p
    · subst hb
      rw [gset_same] at h; cases h
      exact ⟨_, hl, rv'⟩
    · rw [gset_ne hb] at h
      have r := rg1.st b o h
      obtain ⟨u, hu⟩ := r.here
      exact RO.keep rg1 kp (by rw [hu]; exact hk b u hu) r⟩
/-- {n: ()} -/
def eDctE (n : Int) : EV := fun _ g Q => ∀ p, g p = none → Q (.ref p) (gset g p (.dct [(.inl n, .tup [])]))
theorem d_dctE {n : Int} {x1 : Nat} {j : Nat} {p p2 pos : Pos} : DE X (.Dict [some (.Constant (.int n) j p)] [.Tuple [] x1 p2] pos) (eDctE n) := by
  refine PE.imp (pe_disp (pps_cons pe_int (pe_tup pa_nil) pps_nil) rfl rfl (by simp) (by simp)) fun σ H Q ⟨ε, g, Q0, hs, hg, q, k⟩ => fun p hp => ?_
  refine ⟨by decide, fun t ht => ?_⟩
  have htp : t ≠ p := fun z => by subst z; rw [upd_same] at ht; cases ht
  have ht0 : H t = none := by rw [upd_ne htp] at ht; exact ht
  refine ⟨by rw [upd_ne (Ne.symm htp), upd_same], [(.inl n, .ref t)], rfl, by simp, ?_⟩
  have eu : upd (upd (upd H p (.dK [])) t (.tup [])) p (.dK (mergeK [] [(.inl n, .ref t)])) = upd (upd H t (.tup [])) p (.dK [(.inl n, .ref t)]) := by
    funext b
    by_cases hb : b = p
    · rw [hb, upd_same, upd_same]; rfl
    · by_cases hb2 : b = t
      · rw [hb2, upd_ne htp, upd_same, upd_ne htp, upd_same]
      · rw [upd_ne hb, upd_ne hb2, upd_ne hb, upd_ne hb, upd_ne hb2]
  rw [eu]
  have r1 := hg.tupNew (u := .tup []) ht0
  have k1 := keep_new (g := g) ht0 (.tup [])
  have hp1 : upd H t (.tup []) p = none := by rw [upd_ne (Ne.symm htp)]; exact hp
  have k2 := keep_fresh (g := g) hp1 (.dct [(.inl n, .tup [])]) (.dK [(.inl n, .ref t)])
  exact k _ _ _ _ (q p (hg.out hp)) (.ref p) (r1.layD k2 (.cons (.tup (.inl upd_same) .nil) .nil)) (k1.trans k2)
end
section
variable {K : PySem.W.Frag} {H H' : Hp} {d : Addr} {o : Obj} {ws : List (Key × V)}
mutual
theorem RV.swap (hd : H d = some (.frz o (.dK ws))) (h : ∀ a, a ≠ d → H' a = H a) : ∀ {x : D} {v : V}, RV K H x v → RV K H' x v
  | _, _, .non => .non
  | _, _, .bl b => .bl b
  | _, _, .int i => .int i
  | _, _, .str x => .str x
  | _, _, .tup (a := a) q hs => .tup (by
      rcases q with q | ⟨o', q⟩ | q
      · exact .inl (by rw [h a (fun z => by rw [z, hd] at q; cases q)]; exact q)
      · exact .inr (.inl ⟨o', by rw [h a (fun z => by rw [z, hd] at q; cases q)]; exact q⟩)
      · exact .inr (.inr q)) (RVs.swap hd h hs)
  | _, _, .ref a => .ref a
  | _, _, .rol (a := a) q hs => .rol (by
      rcases q with ⟨o', q⟩ | q
      · exact .inl ⟨o', by rw [h a (fun z => by rw [z, hd] at q; cases q)]; exact q⟩
      · exact .inr q) (RVs.swap hd h hs)
  | _, _, .tua (a := a) q hs => .tua (by
      obtain ⟨o', q, z⟩ := q
      exact ⟨o', by rw [h a (fun z => by rw [z, hd] at q; cases q)]; exact q, z⟩) (RVs.swap hd h hs)
  | _, _, .exv q hs => .exv (q.at fun b φ e => by rw [h b (fun z => by rw [z, hd] at e; cases e)]; exact e) (RVs.swap hd h hs)
theorem RVs.swap (hd : H d = some (.frz o (.dK ws))) (h : ∀ a, a ≠ d → H' a = H a) : ∀ {xs : List D} {vs : List V}, RVs K H xs vs → RVs K H' xs vs
  | _, _, .nil => .nil
  | _, _, .cons q hs => .cons (RV.swap hd h q) (RVs.swap hd h hs)
end
theorem RKs.swap (hd : H d = some (.frz o (.dK ws))) (h : ∀ a, a ≠ d → H' a = H a) : ∀ {xs : List (Key × D)} {vs : List (Key × V)}, RKs K H xs vs → RKs K H' xs vs
  | _, _, .nil => .nil
  | _, _, .cons q hs => .cons (RV.swap hd h q) (RKs.swap hd h hs)
theorem RTs.swap (hd : H d = some (.frz o (.dK ws))) (h : ∀ a, a ≠ d → H' a = H a) : ∀ {xs : List (List Key × D)} {vs : List (List Key × V)}, RTs K H xs vs → RTs K H' xs vs
  | _, _, .nil => .nil
  | _, _, .cons q hs => .cons (RV.swap hd h q) (RTs.swap hd h hs)
theorem RO.swap (hd : H d = some (.frz o (.dK ws))) (h : ∀ a, a ≠ d → H' a = H a) {a : Addr} (ha : a ≠ d) {x : DO} (r : RO K H a x) : RO K H' a x := by
  cases x with
  | lst ds => obtain ⟨vs, e, q⟩ := r; exact ⟨vs, by rw [h a ha]; exact e, q.swap hd h⟩
  | dct ds => obtain ⟨vs, e, q⟩ := r; exact ⟨vs, by rw [h a ha]; exact e, q.swap hd h⟩
  | ins c fl ds => obtain ⟨C, dx, vs, e, cf, hl, q⟩ := r; exact ⟨C, dx, vs, by rw [h a ha]; exact e, cf, hl, q.swap hd h⟩
  | dtt ds => obtain ⟨vs, e, q⟩ := r; exact ⟨vs, by rw [h a ha]; exact e, q.swap hd h⟩
end
/-- the dict at d is locked -/
def PPd (d : Addr) (o : Obj) (ws : List (Key × V)) (kvs : List (Key × D)) : PP :=
  ⟨fun K g H => PP.P K g H ∧ H d = some (.frz o (.dK ws)) ∧ g d = none ∧ RKs K H kvs ws, fun {K g g' H H'} r0 p k => ⟨PP.step r0 p.1 k, (k d _ p.2.1 p.2.2.1).1, (k d _ p.2.1 p.2.2.1).2, RKs.keep (⟨r0, p.1⟩ : RG K g H) k p.2.2.2⟩⟩
def gdel (g : G) (d : Addr) : G := fun b => if b = d then none else g b
theorem gdel_same {g : G} {d : Addr} : gdel g d d = none := if_pos rfl
theorem gdel_ne {g : G} {d b : Addr} (h : b ≠ d) : gdel g d b = g b := if_neg h
def iFix (i : Nat) (d : Addr) (xs : List D) : IV := fun ε g R => ε[i]? = some (some (.ref d)) ∧ R xs (fun _ => True) g
theorem i_fix {X : Cx} {tg : Expr} {i : Nat} {x : Str} {px : Pos} {d : Addr} {o : Obj} {ws : List (Key × V)} {kvs : List (Key × D)} (hX : X.N[i]? = some x) (hv : Vis X.env.scope x) (hd : (x == ("__debug__" : Str)) = false) (hcd : (x == ("__classdict__" : Str)) = false) :
    @DI (PPd d o ws kvs) X tg (.Name x px) (iFix i d (kvs.map fun kv => keyV kv.1)) := by
  letI P2 : PP := PPd d o ws kvs
  refine PI.imp (pi_keys (pe_var hX hv hd hcd)) fun σ H R ⟨ε, g, R0, rs, rg, ⟨e1, q⟩, k⟩ => ?_
  obtain ⟨v, e2, rv⟩ := rs.2 i _ e1
  cases rv
  have hd1 : H d = some (.frz o (.dK ws)) := rg.pp.2.1
  refine ⟨_, e2, d, o, rfl, .inl ⟨ws, hd1, k _ _ _ _ _ q rg (Keep.refl _ _) fun g1 H1 rg1 k1 _ => ?_⟩⟩
  have hd2 : H1 d = some (.frz o (.dK ws)) := rg1.pp.2.1
  have rk : RKs X.K H1 kvs ws := rg1.pp.2.2.2
  have hl := rks_len rk
  refine ⟨⟨hd2, by rw [List.length_map]; omega⟩, fun j hj => ?_⟩
  rw [List.length_map] at hj
  refine ⟨⟨hd2, by omega⟩, fun y H' ⟨e3, key, v, e4, e5⟩ => ?_⟩
  subst e3 e5
  have e6 : ∀ {kvs : List (Key × D)} {ws : List (Key × V)} {j : Nat}, RKs X.K H' kvs ws → ws[j]? = some (key, v) → ∃ dd, kvs[j]? = some (key, dd) := by
    intro kvs ws j r
    induction r generalizing j with
    | nil => intro h; cases h
    | cons q t ih =>
      cases j with
      | zero => intro h; cases h; exact ⟨_, rfl⟩
      | succ j => intro h; exact ih h
  obtain ⟨dd, e7⟩ := e6 rk e4
  exact ⟨keyV key, by rw [List.getElem?_map, e7]; rfl, keyV_rv key, rg1, Keep.refl _ _⟩
section
variable {X : Cx}
def QV (Q : D → G → Prop) (d : Addr) (kvs : List (Key × D)) : D → G → Prop := fun y g' => ∃ p acc, y = .ref p ∧ g' p = some (.lst acc) ∧ (p ≠ d → Q (.ref p) (gset g' d (.dct kvs)))
/-- [elt for tg in d if ..], d a dict -/
def eLcV (i : Nat) (gt : GV) (tt : BV) (te : EV) (own : List Nat) : EV := fun ε g Q => ∃ d kvs, ε[i]? = some (some (.ref d)) ∧ g d = some (.dct kvs) ∧
  lcL (fun _ => True) gt tt te (ewipe ε own) (fun acc g2 => ∀ p, g2 p = none → QV Q d kvs (.ref p) (gset g2 p (.lst acc))) (kvs.map fun kv => keyV kv.1) [] (gdel g d)
theorem d_lcV {elt tg : Expr} {ifs : List Expr} {scope : Scope} {own : List (Str × Nat)} {gt : GV} {tt : BV} {te : EV} {i : Nat} {x : Str} {px pos : Pos} (hc : X.calm = true) (hN : X.N.Nodup) (hX : X.N[i]? = some x) (hv : Vis X.env.scope x) (ok : BlkOk X.N X.env.scope scope own)
    (hg : ∀ [PP] (s : Shared) (H : Hp) (C : Addr) (cl : List (Str × Addr)) (fp : List Addr), PG (X.blk s H scope (compEnvC scope cl C X.env) fp) tg (lGw X.K (own.map (·.2)) gt))
    (ht : ∀ [PP] (s : Shared) (H : Hp) (C : Addr) (cl : List (Str × Addr)) (fp : List Addr), PTs (X.blk s H scope (compEnvC scope cl C X.env) fp) ifs (lB X.K tt))
    (he : ∀ [PP] (s : Shared) (H : Hp) (C : Addr) (cl : List (Str × Addr)) (fp : List Addr), PE (X.blk s H scope (compEnvC scope cl C X.env) fp) elt (lE X.K te)) (hs : ∀ y, foldedSetIterable (.Name x px) X.env y = pure y := by intro _; rfl)
    (hd : (x == ("__debug__" : Str)) = false := by decide +kernel) (hcd : (x == ("__classdict__" : Str)) = false := by decide +kernel) :
    DE X (.ListComp elt [⟨tg, .Name x px, ifs, 0⟩] scope pos) (eLcV i gt tt te (own.map (·.2))) := by
  refine ⟨fun pins s σ H Q I ⟨ε, g, Q0, rs, rg, ⟨d, kvs, e1, e2, q⟩, k⟩ => ?_⟩
  obtain ⟨ws, h1, rk⟩ := rg.st d _ e2
  have mu : Mut (some (HO.dK ws)) := by trivial
  obtain ⟨od, I1⟩ := I.lock h1 mu
  have kp : Keep g H (gdel g d) (upd H d (.frz od (.dK ws))) := fun b o h n => by
    have hb : b ≠ d := fun z => by subst z; rw [e2] at n; cases n
    exact ⟨by rw [upd_ne hb]; exact h, by rw [gdel_ne hb]; exact n⟩
  have L : @DE (PPd d od ws kvs) X (.ListComp elt [⟨tg, .Name x px, ifs, 0⟩] scope pos) (eLc (iFix i d (kvs.map fun kv => keyV kv.1)) gt tt te (own.map (·.2))) :=
    @d_lc (PPd d od ws kvs) X pos elt tg (.Name x px) ifs scope own _ gt tt te hc hN (i_fix hX hv hd hcd) ok (@hg (PPd d od ws kvs)) (@ht (PPd d od ws kvs)) (@he (PPd d od ws kvs)) hs
  have rg2 : @RG (PPd d od ws kvs) X.K (gdel g d) (upd H d (.frz od (.dK ws))) := by
    refine @RG.mk (PPd d od ws kvs) _ _ _ (fun b o h => ?_) ⟨PP.step rg.st rg.pp kp, upd_same, gdel_same, rk.keep rg kp⟩
    have hb : b ≠ d := fun z => by subst z; rw [gdel_same] at h; cases h
    rw [gdel_ne hb] at h
    exact RO.keep rg kp (upd_ne hb) (rg.st b o h)
  refine thn (L.run pins s σ _ (fun v H' => H' d = some (.frz od (.dK ws)) ∧ Q v (upd H' d (.dK ws))) I1 ⟨ε, gdel g d, QV Q0 d kvs, rs.keep rg kp, rg2, ⟨e1, q⟩, ?_⟩) fun v s1 ⟨y, H1, I2, r, e2, q⟩ => ⟨y, _, I2.unlock e2 (I.nofrz h1 mu), r, q⟩
  · rintro y g' v H' ⟨p, acc, rfl, hp, q0⟩ rv rg' k'
    have hd' : H' d = some (.frz od (.dK ws)) := (@RG.pp (PPd d od ws kvs) _ _ _ rg').2.1
    have gd' : g' d = none := (@RG.pp (PPd d od ws kvs) _ _ _ rg').2.2.1
    have rk' : RKs X.K H' kvs ws := (@RG.pp (PPd d od ws kvs) _ _ _ rg').2.2.2
    have hpd : p ≠ d := fun z => by subst z; rw [gd'] at hp; cases hp
    have sw : ∀ a, a ≠ d → upd H' d (.dK ws) a = H' a := fun a ha => upd_ne ha
    cases rv
    have kq : Keep g H (gset g' d (.dct kvs)) (upd H' d (.dK ws)) := fun b o h n => by
      have hb : b ≠ d := fun z => by subst z; rw [e2] at n; cases n
      have z := (kp.trans k') b o h n
      exact ⟨by rw [upd_ne hb]; exact z.1, by rw [gset_ne hb]; exact z.2⟩
    refine ⟨hd', k _ _ _ _ (q0 hpd) (.ref p) ⟨fun b o h => ?_, PP.step rg.st rg.pp kq⟩ kq⟩
    by_cases hb : b = d
    · subst hb
      rw [gset_same] at h; cases h
      exact ⟨ws, upd_same, rk'.swap hd' sw⟩
    · rw [gset_ne hb] at h
      exact RO.swap hd' sw hb (@RG.st (PPd d od ws kvs) _ _ _ rg' b o h)
end
end LF
set_option maxHeartbeats 1000000
namespace LF
open PySem PySem.Spec PyProof.Rows L2
variable [PP]
section
variable {X : Cx}
def rInTL (neg : Bool) : RR := fun x y g Q => match x, y with
  | .tua xs, .ref b => ∃ (l : List Int) (L : List (List Int)), xs = l.map D.int ∧ g b = some (.lst (L.map fun m => D.tua (m.map D.int))) ∧ SeqAt.shaped (.tuple (l.map PyData.int)) = true ∧ SeqAt.shaped (.list (L.map fun m => PyData.tuple (m.map PyData.int))) = true ∧
      Q (.bl (if neg then !((L.map fun m => PyData.tuple (m.map PyData.int)).any fun z => PyData.eqv z (.tuple (l.map PyData.int))) else ((L.map fun m => PyData.tuple (m.map PyData.int)).any fun z => PyData.eqv z (.tuple (l.map PyData.int))))) g
  | _, _ => False
theorem dps_ints {K : PySem.W.Frag} {H : Hp} : ∀ {l : List Int} {vs : List V}, RVs K H (l.map D.int) vs → DpAll K H vs (l.map PyData.int)
  | [], _, .nil => .nil
  | i :: l, _, .cons a b => by
    cases a
    exact .cons (.int i) (dps_ints b)
theorem dp_tua {K : PySem.W.Frag} {H : Hp} {l : List Int} {v : V} (r : RV K H (.tua (l.map D.int)) v) : Dp K H v (.tuple (l.map PyData.int)) := by
  cases r with
  | tua h1 h2 => exact .tup h1.tpl.seq (dps_ints h2)
theorem dps_tuas {K : PySem.W.Frag} {H : Hp} : ∀ {L : List (List Int)} {vs : List V}, RVs K H (L.map fun m => D.tua (m.map D.int)) vs → DpAll K H vs (L.map fun m => PyData.tuple (m.map PyData.int))
  | [], _, .nil => .nil
  | m :: L, _, .cons a b => .cons (dp_tua a) (dps_tuas b)
theorem od_inTL {kk : Nat} (hr : Room kk X.A) : OpD X (compareOp .In) (rInTL false) := by
  intro pins s σ H x y u w Q I rx ry ⟨g, dx, dy, Q0, rg, r1, r2, q, k⟩
  unfold rInTL at q
  split at q
  · obtain ⟨l, L, rfl, e, s1, s2, q0⟩ := q
    cases r2
    obtain ⟨vs, e1, rv⟩ := rg.st _ _ e
    exact op_inD (by have := hr.un; omega) pins s σ H _ _ u w Q I rx ry ⟨_, _, dp_tua r1, .lst (.of e1) (dps_tuas rv), s1, s2, k _ g _ H q0 (.bl _) rg (Keep.refl _ _)⟩
  · exact q.elim
theorem od_ninTL {kk : Nat} (hr : Room kk X.A) : OpD X (compareOp .NotIn) (rInTL true) := by
  intro pins s σ H x y u w Q I rx ry ⟨g, dx, dy, Q0, rg, r1, r2, q, k⟩
  unfold rInTL at q
  split at q
  · obtain ⟨l, L, rfl, e, s1, s2, q0⟩ := q
    cases r2
    obtain ⟨vs, e1, rv⟩ := rg.st _ _ e
    exact op_notInD (by have := hr.un; omega) pins s σ H _ _ u w Q I rx ry ⟨_, _, dp_tua r1, .lst (.of e1) (dps_tuas rv), s1, s2, k _ g _ H q0 (.bl _) rg (Keep.refl _ _)⟩
  · exact q.elim
/-- zip of two lists -/
def iZl (t : AV) : IV := fun ε g R => t ε g fun ds g1 => match ds with
  | [.ref a, .ref b] => ∃ xs ys, g1 a = some (.lst xs) ∧ g1 b = some (.lst ys) ∧ R (zipD xs ys) (fun g => g a = some (.lst xs) ∧ g b = some (.lst ys)) g1
  | _ => False
theorem itok_zipL {K : PySem.W.Frag} {g0 : G} {H0 : Hp} {a b : Addr} {xs ys : List D} : ItOk K g0 H0 (zipD xs ys) (fun g => g a = some (.lst xs) ∧ g b = some (.lst ys)) (Itz K a b) := fun g H rg k c => by
  obtain ⟨vs, e1, s1⟩ := rg.st _ _ c.1
  obtain ⟨ws, e2, s2⟩ := rg.st _ _ c.2
  have l1 := s1.length
  have l2 := s2.length
  rw [zipD_len]
  refine ⟨⟨vs, ws, .of e1, .of e2, by omega⟩, fun i hi => ?_⟩
  have g1 : xs[i]? = some (xs[i]'(by omega)) := List.getElem?_eq_getElem (by omega)
  have g2 : ys[i]? = some (ys[i]'(by omega)) := List.getElem?_eq_getElem (by omega)
  obtain ⟨v, ev, rv⟩ := s1.get g1
  obtain ⟨w, ew, rw'⟩ := s2.get g2
  refine ⟨⟨vs, ws, v, w, .of e1, .of e2, ev, ew⟩, fun x H' ⟨T, v', w', q1, q2, q3, q4, q5⟩ => ?_⟩
  subst q1 q3
  have z1 := q4 vs (.of e1)
  rw [ev] at z1; cases z1
  have z2 := q5 ws (.of e2)
  rw [ew] at z2; cases z2
  have kp := keep_new (g := g) q2 (.tup [v, w])
  exact ⟨_, zipD_get g1 g2, .tup (.inl upd_same) (.cons (rv.keep rg kp) (.cons (rw'.keep rg kp) .nil)), rg.tupNew q2, kp⟩
theorem i_zl {e e2 : Expr} {ta : AV} {p pos tpos : Pos} {elts : List Expr} {kk : Nat} (hg : Gl X "zip") (hm : X.mg "zip" = none) (ha : DA X [e, e2] ta)
    (hs : starEach [e, e2] X.env = (false, eval e X.env) :: starEach [e2] X.env := by rfl) (hpl : (backTo pos (starEach [e2] X.env)).any (·.1) = false := by rfl) :
    DI X (.Tuple elts kk tpos) (.Call (.Name "zip" p) [e, e2] [] pos) (iZl ta) :=
  PI.imp (pi_zip hg hm ha hs hpl) fun σ H R ⟨ε, g, R0, rs, rg, q, k⟩ => ⟨ε, g, _, rs, rg, q, fun ds g1 vs H1 q1 rv rg1 k1 => by
    split at q1
    · obtain ⟨xs, ys, e1, e2, q1⟩ := q1
      cases rv with
      | cons r t =>
        cases t with
        | cons r' t =>
          cases t
          cases r
          cases r'
          obtain ⟨vs, h1, _⟩ := rg1.st _ _ e1
          obtain ⟨ws, h2, _⟩ := rg1.st _ _ e2
          exact ⟨_, _, _, _, rfl, .of h1, .of h2, k _ _ _ _ _ q1 rg1 k1 itok_zipL⟩
    · exact q1.elim⟩
end
end LF
namespace LF
open PySem PySem.Spec PyProof.Rows L2

/-- what a call binds: n values ahead, the keywords ks, du from the defaults; what is left over is a new tuple -/
def BndS (K : PySem.W.Frag) (fd : FuncData) (n : Nat) (ks qs : List Str) (pv : Str) (du : List Value) : Prop :=
  ∀ (P : Program) (w : World) (A : Around) (s : Shared) (us rest ws : List Value) (Q : List (Str × Value) → Shared → Prop) (Ex : Value → Shared → Prop), K.In s.heap → us.length = n → ws.length = ks.length → rest.length ≤ sizeLine →
    Q (qs.zip (us ++ (ws ++ du)) ++ [(pv, .ref s.heap.objs.size)]) { s with heap := s.heap.push { cls := .type "tuple", data := .seq rest.toArray } } → wpAny (model P w) A (bindArgs fd ⟨us ++ rest, ks.zip ws⟩) Q Ex s
section
variable {K : PySem.W.Frag} {fd : FuncData} {n : Nat} {ks qs : List Str} {pv : Str}
theorem BndS.plain (h : ∀ us rest ws : List Value, us.length = n → ws.length = ks.length → bindArgs fd ⟨us ++ rest, ks.zip ws⟩ = (newTuple rest >>= fun t => pure (qs.zip (us ++ (ws ++ [])) ++ [(pv, t)]))) : BndS K fd n ks qs pv [] := by
  intro P w A s us rest ws Q Ex _ h1 h2 hz q
  rw [h us rest ws h1 h2]
  exact wpAny_bind (wpAny_newTuple (wpAny_pure q) hz)
theorem BndS.dflt {D : Addr} {c : Str} {v : Value} (hq : PySem.W.nsIn K D c = some (some v)) (h : ∀ us rest : List Value, us.length = n → ∃ (β γ : Type) (k1 : Option Value → Sem β) (k2 : β → Sem γ) (k3 : γ → Sem (List (Str × Value))) (a : β),
    bindArgs fd ⟨us ++ rest, []⟩ = ((nsGet D c >>= k1) >>= k2) >>= k3 ∧ k1 (some v) = pure a ∧ (k2 a >>= k3) = (newTuple rest >>= fun t => pure (qs.zip (us ++ [v]) ++ [(pv, t)]))) : BndS K fd n [] qs pv [v] := by
  intro P w A s us rest ws Q Ex X h1 h2 hz q
  obtain rfl : ws = [] := List.eq_nil_of_length_eq_zero h2
  obtain ⟨β, γ, k1, k2, k3, a, e1, e2, e3⟩ := h us rest h1
  have l1 : PySem.W.Looks (model P w) s.heap (nsGet D c >>= k1) a := (PySem.W.looks_nsIn X hq).andThen (PySem.W.Looks.of_pure e2)
  rw [show ([] : List Str).zip ([] : List Value) = [] from rfl, e1, bind_assoc]
  refine wpAny_bind (l1.here ?_)
  show wpAny _ _ (k2 a >>= k3) _ _ _
  rw [e3]
  exact wpAny_bind (wpAny_newTuple (wpAny_pure q) hz)
end
/-- a def with a star parameter keeps its promise -/
structure FnS (P : Program) (w : World) (K : PySem.W.Frag) (mg : Str → Option Value) (base : Heap) (k : Nat) (f : Addr) (n : Nat) (ks : List Str) (dz : List V) (sp : Sp) : Prop where
  run : ∀ (A : Around) (outer : List Env) (s : Shared) (H : Hp) (us rest ws : List Value) (vs rv zs : List V) (Q : VK) (E : XK), Room k A → A.guards = some [] → Env0 P w K mg base A outer s H → us.length = n → ws.length = ks.length → Vals vs us → Vals rv rest → Vals zs ws → rest.length ≤ sizeLine →
    (∀ p, H p = none → sp (vs ++ (zs ++ dz) ++ [V.ref p]) (upd H p (.tup rv)) Q E) → codeAny (model P w) A (.call (.ref f) ⟨us ++ rest, ks.zip ws⟩) (CR (L2.CX P w) outer P w H s Q E) s
section
variable {P : Program} {w : World} {K : PySem.W.Frag} {mg : Str → Option Value} {base : Heap}
theorem FnS.of {x qual : Str} {st : Stmt} {f : Addr} {fd : FuncData} {N qs ks : List Str} {pv : Str} {n k : Nat} {dz : List V} {du : List Value} {sp : Sp} (F : Fun K x qual st f fd) (S : FnScope N (qs ++ [pv]) (defScope st)) (hb : BndS K fd n ks qs pv du) (hdz : Vals dz du) (hl : qs.length = n + (ks.length + du.length))
    (body : ∀ (cdv : Value) (A : Around) (outer : List Env) (s : Shared) (H : Hp) (vs : List V) (Q : VK) (E : XK), Room k (A.deeper (envOfC qual (defScope st) s.heap.objs.size f cdv)) → A.guards = some [] → vs.length = (qs ++ [pv]).length → sp vs H Q E →
      ∃ t, PSs (cxOf (L2.CX P w) P w K mg base N qual (defScope st) f cdv A outer s H E) (defBody st) t ∧ t { nx := fun _ H' => Q .non H', rt := Q } (start N vs) H) : FnS P w K mg base (k + 1) f n ks dz sp := by
  obtain ⟨oc, od, kV, doc, pm, an, cdv, ct, osl, rfl, lk, hcd⟩ := F.ex
  refine ⟨fun A outer s H us rest ws vs rv zs Q E hr hg e0 h1 h2 r1 r2 r3 hz hsp => ?_⟩
  have KX : K.In s.heap := e0.mod.kin.keeps fun b o e => (e0.bs b o e).1
  refine codeAny_call_function hr.depth (KX _ _ lk) rfl S.co S.gen rfl (PySem.W.codeRec_of KX hcd) ?_
  refine hb _ _ _ s us rest ws _ _ KX h1 h2 hz ?_
  have hn : H s.heap.objs.size = none := e0.hok.fresh (Nat.le_refl _)
  have new : ObjOk P w (upd H s.heap.objs.size (.tup rv)) (s.heap.push ({ cls := .type "tuple", data := .seq rest.toArray } : Obj)) s.heap.objs.size (.tup rv) := ⟨by rw [r2.length]; exact hz, rest, r2, ⟨_, Heap.get?_push_size _ rfl, rfl, _, rfl⟩⟩
  have un := StX.un_laid (fs := frs outer) (s := s) (o := ({ cls := .type "tuple", data := .seq rest.toArray } : Obj)) (u := .tup rv) hn
  have e2 := StX.env0_laid e0 new
  have hx : ∀ e s', L2.CX P w outer (upd H s.heap.objs.size (.tup rv)) { s with heap := s.heap.push { cls := .type "tuple", data := .seq rest.toArray } } E e s' → L2.CX P w outer H s E e s' := fun e s' => StX.cxUp outer s H _ _ E e s' un (fun b o q => Heap.get?_push_of_some _ q) rfl
  have r : Vals (vs ++ (zs ++ dz) ++ [V.ref s.heap.objs.size]) (us ++ (ws ++ du) ++ [Value.ref s.heap.objs.size]) := (r1.append (r3.append hdz)).append (.cons rfl .nil)
  have hln : (vs ++ (zs ++ dz) ++ [V.ref s.heap.objs.size]).length = (qs ++ [pv]).length := by
    rw [r.length]
    simp only [List.length_append, h1, h2, hl, List.length_cons, List.length_nil]
  have ez : qs.zip (us ++ (ws ++ du)) ++ [(pv, Value.ref s.heap.objs.size)] = (qs ++ [pv]).zip (us ++ (ws ++ du) ++ [Value.ref s.heap.objs.size]) := by
    rw [List.zip_append (by simp only [List.length_append, h1, h2, hl])]
    rfl
  rw [ez]
  have hsp := hsp _ hn
  generalize upd H s.heap.objs.size (.tup rv) = H2 at e2 un hx hsp
  generalize hs2 : ({ s with heap := s.heap.push { cls := .type "tuple", data := .seq rest.toArray } } : Shared) = s2 at e2 hx un
  have ho : s2.os = s.os := by rw [← hs2]
  have un : Un (frs outer) [] H H2 s.heap s2.heap := by rw [← hs2]; exact un
  generalize vs ++ (zs ++ dz) ++ [V.ref s.heap.objs.size] = vs2 at r hln hsp
  generalize us ++ (ws ++ du) ++ [Value.ref s.heap.objs.size] = us2 at r
  have lim : s2.heap.NoLimit := e0.mod.nolimit.keeps fun b o e => (e2.bs b o e).1
  have hkind : ∀ y ∈ (qs ++ [pv]).zip us2, (defScope st).names.lookup y.1 = some .local ∨ ((defScope st).names.lookup y.1 = some .cell ∧ ((cellsFrom (s2.heap.objs.size + 1) (defScope st).names []).lookup y.1).isSome = true) := fun y hy => by
    rcases S.par y.1 (List.of_mem_zip hy).1 with q | q
    · exact .inl q
    · exact .inr ⟨q, PySem.W.cellsFrom_some _ _ _ (.inl q)⟩
  refine wpAny_newFunctionEnv_cells (s := s2) S.kind hkind fun env he s1 xx => ?_
  subst he
  refine ⟨lim.keeps xx.toInCall.keep, codeAny_func ?_⟩
  obtain ⟨t, ht, hq⟩ := body cdv A outer s2 H2 vs2 Q E (hr.deeper _) hg hln hsp
  have I : Inv (cxOf (L2.CX P w) P w K mg base N qual (defScope st) f cdv A outer s2 H2 E) [] (start N vs2) H2 s1 := inv_start S hr.hd e2 hln r xx
  refine wpAny_mono (ht.run [] s1 _ _ _ I hq) (fun fl s' hs => ?_) fun e s' hs => wpAny_mono hs (fun _ s'' z => hx e s'' z) fun e' s'' z => hx e' s'' z
  have fin : ∀ {σ' : L2.St} {H' : Hp} {v' : V} {u' : Value}, Inv (cxOf (L2.CX P w) P w K mg base N qual (defScope st) f cdv A outer s2 H2 E) [] σ' H' s' → RelV v' u' → Q v' H' → CE outer P w H s Q u' s' :=
    fun {σ' H' v' u'} J rv' q => ⟨v', H', J.os.trans ho, J.bare, un.trans J.base, J.hok, rv', q⟩
  cases fl with
  | ret u => obtain ⟨v, σ', H', J, rv', q⟩ := hs; exact fin J rv' q
  | next => obtain ⟨σ', H', J, q⟩ := hs; exact fin (v' := V.non) (u' := Value.none) J rfl q
  | brk => obtain ⟨_, _, _, q⟩ := hs; exact q.elim
  | cont => obtain ⟨_, _, _, q⟩ := hs; exact q.elim
theorem FnS.mono {j k : Nat} {f : Addr} {n : Nat} {ks : List Str} {dz : List V} {sp : Sp} (F : FnS P w K mg base j f n ks dz sp) (h : j ≤ k) : FnS P w K mg base k f n ks dz sp :=
  ⟨fun A outer s H us rest ws vs rv zs Q E hr => F.run A outer s H us rest ws vs rv zs Q E (hr.mono h)⟩
theorem okS_of {ct : Nat → Addr} {x qual : Str} {st : Stmt} {f : Addr} {fd : FuncData} {N qs ks : List Str} {pv : Str} {n k : Nat} {t : SV} {dz : List V} {du : List Value} (F : Fun K x qual st f fd) (S : FnScope N (qs ++ [pv]) (defScope st)) (hN : (qs ++ [pv]).length ≤ N.length) (hb : BndS K fd n ks qs pv du) (hdz : Vals dz du) (hl : qs.length = n + (ks.length + du.length))
    (body : ∀ (cdv : Value) (A : Around) (outer : List Env) (s : Shared) (H : Hp) (E : XK) [PP], Room k (A.deeper (envOfC qual (defScope st) s.heap.objs.size f cdv)) → (A.deeper (envOfC qual (defScope st) s.heap.objs.size f cdv)).guards = some [] →
      DSs (cxOf (L2.CX P w) P w K mg base N qual (defScope st) f cdv A outer s H E) (defBody st) t) : FnS P w K mg base (k + 1) f n ks dz (lF K ct (fv (qs ++ [pv]).length N.length t)) := by
  refine FnS.of F S hb hdz hl fun cdv A outer s H vs Q E hr hg hln ⟨ds, g, Q0, E0, rv, rg, ⟨e, q⟩, k1, k2⟩ => ?_
  letI : PP := ppNone
  refine ⟨_, body cdv A outer s H E hr hg, startD N.length ds, g, _, start_rs rv (by omega), ⟨rg, trivial⟩, q, ⟨fun _ g' _ H' q _ r k => k1 _ _ _ _ q .non r.st k, fun _ _ _ _ q a r k => k1 _ _ _ _ q a r.st k, fun _ _ _ _ z => z.elim, fun _ _ _ _ z => z.elim⟩⟩
/-- such a def at a global name; dd: the defaults that fill up -/
structure CalS (P : Program) (w : World) (K : PySem.W.Frag) (mg : Str → Option Value) (base : Heap) (ct : Nat → Addr) (x : Str) (k n : Nat) (ks : List Str) (dd : List D) (φ : FV) : Prop where
  ex : ∃ f dz, FnS P w K mg base k f n ks dz (lF K ct φ) ∧ mg x = some (.ref f) ∧ PySem.W.keepIn K (.ref f) = true ∧ ∀ H, RVs K H dd dz
end
def eCallS (φ : FV) (n m : Nat) (dd : List D) (t u : AV) : EV := fun ε g Q => t ε g fun ds g1 => u ε g1 fun zs g2 => zs.length = m ∧ n ≤ ds.length ∧ ds.length ≤ sizeLine ∧ φ (ds.take n ++ (zs ++ dd) ++ [.tup (ds.drop n)]) g2 Q fun _ _ _ => False
def tCallS (sp : Sp) (n m : Nat) (dz : List V) (E : XK) (t tk : TA) : TE := fun σ H Q => t σ H fun vs H1 => tk σ H1 fun zs H2 => zs.length = m ∧ n ≤ vs.length ∧ vs.length ≤ sizeLine ∧ ∀ p, H2 p = none → sp (vs.take n ++ (zs ++ dz) ++ [.ref p]) (upd H2 p (.tup (vs.drop n))) Q E
section
variable {X : Cx} {k n : Nat} {f : Addr} {ks : List Str} {dz : List V} {sp : Sp} {E : XK} {x : Str} {p pos : Pos} {e : Expr} {es : List Expr} {kws : List Keyword} {t tk : TA}
theorem run_S {pins : List (Addr × Obj)} {σ : L2.St} {H : Hp} {s : Shared} {Q : VK} {us ws : List Value} {vs zs : List V} (F : FnS X.prog X.w X.K X.mg X.base k f n ks dz sp) (hr : Room k X.A) (hg : X.A.guards = some []) (hx : PassG X σ E) (I : Inv X pins σ H s) (r : Vals vs us) (rz : Vals zs ws) (hl : zs.length = ks.length)
    (h0 : n ≤ vs.length) (h1 : vs.length ≤ sizeLine) (h : ∀ p, H p = none → sp (vs.take n ++ (zs ++ dz) ++ [.ref p]) (upd H p (.tup (vs.drop n))) Q E) : wpAny (model X.prog X.w) X.A (call (.ref f) us (ks.zip ws)) (EP X pins σ Q) X.xe s := by
  have e : us = us.take n ++ us.drop n := (List.take_append_drop n us).symm
  have hlu := r.length
  rw [e]
  refine wpAny_call (codeAny_mono (F.run X.A X.stack s H (us.take n) (us.drop n) ws (vs.take n) (vs.drop n) zs Q E hr hg I.env0 (by rw [List.length_take]; omega) (by rw [← rz.length]; exact hl) (r.take n) (r.drop n) rz (by rw [List.length_drop]; omega) h) fun res s' hq => ?_)
  cases res with
  | error e => exact hx pins H s e s' I hq
  | ok fl =>
    cases fl with
    | ret u => exact I.after hq
    | _ => exact hq.elim
/-- f(e, .., k = v) -/
theorem pe_callSK (F : FnS X.prog X.w X.K X.mg X.base k f n ks dz sp) (hr : Room k X.A) (hgd : X.A.guards = some []) (hg : Gl X x) (hm : X.mg x = some (.ref f)) (hk : PySem.W.keepIn X.K (.ref f) = true) (hx : ∀ σ, PassG X σ E)
    (ha : PA X (e :: es) t) (hkw : PK X kws tk) (hall : (backToKw pos (keywordEach kws X.env)).all (·.1.isSome) = true := by rfl) (hks : (backToKw pos (keywordEach kws X.env)).filterMap (·.1) = ks := by rfl)
    (hdb : (x == ("__debug__" : Str)) = false := by decide +kernel) (he : starEach (e :: es) X.env = (false, eval e X.env) :: starEach es X.env := by rfl)
    (hpl : ((backTo pos (starEach (e :: es) X.env)).any (·.1) || (backToKw pos (keywordEach kws X.env)).any (·.1.isNone)) = false := by rfl) :
    PE X (.Call (.Name x p) (e :: es) kws pos) (tCallS sp n ks.length dz E t tk) := by
  refine ⟨fun pins s σ H Q I h => ?_⟩
  refine wpAny_Call_Name_kw (ld_glob I hg hm ?_ hdb)
  refine PySem.W.callWith_KW (h₀ := X.base) I.ok.mod.kin hk hall (thn (ha.run pos pins s σ H _ I h) fun us s1 ⟨vs, H1, I1, r, q⟩ => ?_) hpl he
  refine thn (hkw.run pos pins s1 σ H1 _ I1 q) fun ws s2 ⟨zs, H2, I2, rz, hl, q0, q1, q2⟩ => ⟨I2.kIn, ?_⟩
  rw [hks]
  exact run_S F hr hgd (hx σ) I2 r rz hl q0 q1 q2
/-- f(e, ..) -/
theorem pe_callS (F : FnS X.prog X.w X.K X.mg X.base k f n [] dz sp) (hr : Room k X.A) (hgd : X.A.guards = some []) (hg : Gl X x) (hm : X.mg x = some (.ref f)) (hk : PySem.W.keepIn X.K (.ref f) = true) (hx : ∀ σ, PassG X σ E)
    (ha : PA X (e :: es) t) (hdb : (x == ("__debug__" : Str)) = false := by decide +kernel) (he : starEach (e :: es) X.env = (false, eval e X.env) :: starEach es X.env := by rfl) (hpl : (backTo pos (starEach es X.env)).any (·.1) = false := by rfl) :
    PE X (.Call (.Name x p) (e :: es) [] pos) (tCallS sp n 0 dz E t tNil) := ⟨fun pins s σ H Q I h => by
  refine wpAny_Call_Name_kw (ld_glob I hg hm ?_ hdb)
  refine PySem.W.callWith_K (h₀ := X.base) I.ok.mod.kin hk (thn (ha.run pos pins s σ H _ I h) fun us s1 ⟨vs, H1, I1, r, _, q0, q1, q2⟩ => ⟨I1.kIn, ?_⟩) he hpl
  exact run_S (ws := []) F hr hgd (hx σ) I1 r .nil rfl q0 q1 q2⟩
/-- f() -/
theorem pe_callS0 (F : FnS X.prog X.w X.K X.mg X.base k f n [] dz sp) (hr : Room k X.A) (hgd : X.A.guards = some []) (hg : Gl X x) (hm : X.mg x = some (.ref f)) (hk : PySem.W.keepIn X.K (.ref f) = true) (hx : ∀ σ, PassG X σ E)
    (hdb : (x == ("__debug__" : Str)) = false := by decide +kernel) : PE X (.Call (.Name x p) [] [] pos) (tCallS sp n 0 dz E tNil tNil) := ⟨fun pins s σ H Q I h => by
  refine wpAny_Call_Name_kw (ld_glob I hg hm ?_ hdb)
  refine PySem.W.callWith_K0 I.kIn hk ?_
  obtain ⟨_, q0, q1, q2⟩ := h
  exact run_S (us := []) (ws := []) (vs := []) F hr hgd (hx σ) I .nil .nil rfl q0 q1 q2⟩
end
/-- keywords -/
abbrev DK [PP] (X : Cx) (kws : List Keyword) (t : AV) : Prop := PK X kws (lA X.K t)
section
variable [PP] {X : Cx} {k j n : Nat} {ct : Nat → Addr} {dd : List D} {ks : List Str} {φ : FV} {x : Str} {p pos kpos : Pos} {nm : Option Str} {e : Expr} {es : List Expr} {kws : List Keyword} {t u : AV}
theorem lift_S {σ : L2.St} {H : Hp} {Q : VK} {m : Nat} {dz : List V} (hz : ∀ H, RVs X.K H dd dz) (h : lE X.K (eCallS φ n m dd t u) σ H Q) : tCallS (lF X.K ct φ) n m dz (fun _ _ _ => False) (lA X.K t) (lA X.K u) σ H Q := by
  obtain ⟨ε, g, Q0, rs, rg, q, kk⟩ := h
  refine ⟨ε, g, _, rs, rg, q, fun ds g1 vs H1 q1 rv rg1 k1 => ?_⟩
  refine ⟨ε, g1, _, rs.keep rg k1, rg1, q1, fun zs g2 zv H2 q2 rz rg2 k2 => ?_⟩
  obtain ⟨l, a, b, c⟩ := q2
  refine ⟨by rw [← rz.length]; exact l, by rw [← rv.length]; exact a, by rw [← rv.length]; exact b, fun p hp => ?_⟩
  have k3 : Keep g2 H2 g2 (upd H2 p (.tup (vs.drop n))) := keep_new hp _
  have rv2 := (rv.keep rg1 k2).keep rg2 k3
  have rg3 : RG X.K g2 (upd H2 p (.tup (vs.drop n))) := rg2.tupNew hp
  refine ⟨_, g2, Q0, _, ((rv2.take n).append ((rz.keep rg2 k3).append (hz _))).append (.cons (.tup (.inl upd_same) (rv2.drop n)) .nil), rg3.st, c, fun d g' v H' q rv' rg' k' => ?_, fun _ _ _ _ _ _ z => z.elim⟩
  exact kk _ _ _ _ q rv' (rg3.move k' rg') (k1.trans (k2.trans (k3.trans k')))
theorem lift_S0 {σ : L2.St} {H : Hp} {Q : VK} {dz : List V} (hz : ∀ H, RVs X.K H dd dz) (h : lE X.K (eCallS φ n 0 dd t aNil) σ H Q) : tCallS (lF X.K ct φ) n 0 dz (fun _ _ _ => False) (lA X.K t) tNil σ H Q := by
  obtain ⟨ε, g, Q0, rs, rg, q, kk⟩ := h
  refine ⟨ε, g, _, rs, rg, q, fun ds g2 vs H2 q2 rv rg2 k2 => ?_⟩
  obtain ⟨l, a, b, c⟩ := q2
  refine ⟨rfl, by rw [← rv.length]; exact a, by rw [← rv.length]; exact b, fun p hp => ?_⟩
  have k3 : Keep g2 H2 g2 (upd H2 p (.tup (vs.drop n))) := keep_new hp _
  have rv2 := rv.keep rg2 k3
  have rg3 : RG X.K g2 (upd H2 p (.tup (vs.drop n))) := rg2.tupNew hp
  refine ⟨_, g2, Q0, _, ((rv2.take n).append (RVs.nil.append (hz _))).append (.cons (.tup (.inl upd_same) (rv2.drop n)) .nil), rg3.st, c, fun d g' v H' q rv' rg' k' => ?_, fun _ _ _ _ _ _ z => z.elim⟩
  exact kk _ _ _ _ q rv' (rg3.move k' rg') (k2.trans (k3.trans k'))
theorem lift_S00 {σ : L2.St} {H : Hp} {Q : VK} {dz : List V} (hz : ∀ H, RVs X.K H dd dz) (h : lE X.K (eCallS φ n 0 dd aNil aNil) σ H Q) : tCallS (lF X.K ct φ) n 0 dz (fun _ _ _ => False) tNil tNil σ H Q := by
  obtain ⟨ε, g, Q0, rs, rg, ⟨l, a, b, c⟩, kk⟩ := h
  refine ⟨rfl, a, b, fun p hp => ?_⟩
  have k3 : Keep g H g (upd H p (.tup (([] : List V).drop n))) := keep_new hp _
  have rg3 : RG X.K g (upd H p (.tup (([] : List V).drop n))) := rg.tupNew hp
  have rv2 : RVs X.K (upd H p (.tup (([] : List V).drop n))) [] [] := .nil
  refine ⟨_, g, Q0, _, ((rv2.take n).append (RVs.nil.append (hz _))).append (.cons (.tup (.inl upd_same) (rv2.drop n)) .nil), rg3.st, c, fun d g' v H' q rv' rg' k' => ?_, fun _ _ _ _ _ _ z => z.elim⟩
  exact kk _ _ _ _ q rv' (rg3.move k' rg') (k3.trans k')
theorem PK.impD {t t' : TA} (h : PK X kws t) (i : ∀ σ H Q, t' σ H Q → t σ H Q) : PK X kws t' := ⟨fun pos pins s σ H Q I q => h.run pos pins s σ H Q I (i σ H Q q)⟩
theorem pk_nilD : DK X [] aNil := PK.impD pk_nil fun σ H Q ⟨ε, g, Q0, hs, hg, ht, hq⟩ => hq _ g _ H ht .nil hg (Keep.refl _ _)
theorem pk_consD {a : EV} (ha : DE X e a) (hr : DK X kws u) : DK X (⟨nm, e, kpos⟩ :: kws) (aCons a u) := PK.impD (pk_cons ha hr) fun σ H Q ⟨ε, g, Q0, hs, hg, ht, hq⟩ =>
  ⟨ε, g, _, hs, hg, ht, fun d g1 v H1 q1 rv rg1 k1 => ⟨ε, g1, _, hs.keep hg k1, rg1, q1, fun ds g2 vs H2 q2 rvs rg2 k2 => hq _ _ _ _ q2 (.cons (rv.keep rg1 k2) rvs) rg2 (k1.trans k2)⟩⟩
theorem d_calSK {m : Nat} (C : CalS X.prog X.w X.K X.mg X.base ct x j n ks dd φ) (hj : j ≤ k) (hr : Room k X.A) (hgd : X.A.guards = some []) (hg : Gl X x) (ha : DA X (e :: es) t) (hkw : DK X kws u)
    (hall : (backToKw pos (keywordEach kws X.env)).all (·.1.isSome) = true := by rfl) (hks : (backToKw pos (keywordEach kws X.env)).filterMap (·.1) = ks := by rfl)
    (hdb : (x == ("__debug__" : Str)) = false := by decide +kernel) (he : starEach (e :: es) X.env = (false, eval e X.env) :: starEach es X.env := by rfl)
    (hpl : ((backTo pos (starEach (e :: es) X.env)).any (·.1) || (backToKw pos (keywordEach kws X.env)).any (·.1.isNone)) = false := by rfl) (hm : ks.length = m := by rfl) :
    DE X (.Call (.Name x p) (e :: es) kws pos) (eCallS φ n m dd t u) := by
  subst hm
  obtain ⟨f, dz, a, b, c, d⟩ := C.ex
  exact PE.imp (pe_callSK (a.mono hj) hr hgd hg b c (fun σ => passG0) ha hkw hall hks hdb he hpl) fun σ H Q h => lift_S d h
theorem d_calS (C : CalS X.prog X.w X.K X.mg X.base ct x j n [] dd φ) (hj : j ≤ k) (hr : Room k X.A) (hgd : X.A.guards = some []) (hg : Gl X x) (ha : DA X (e :: es) t)
    (hdb : (x == ("__debug__" : Str)) = false := by decide +kernel) (he : starEach (e :: es) X.env = (false, eval e X.env) :: starEach es X.env := by rfl) (hpl : (backTo pos (starEach es X.env)).any (·.1) = false := by rfl) :
    DE X (.Call (.Name x p) (e :: es) [] pos) (eCallS φ n 0 dd t aNil) := by
  obtain ⟨f, dz, a, b, c, d⟩ := C.ex
  exact PE.imp (pe_callS (a.mono hj) hr hgd hg b c (fun σ => passG0) ha hdb he hpl) fun σ H Q h => lift_S0 d h
theorem d_calS0 (C : CalS X.prog X.w X.K X.mg X.base ct x j n [] dd φ) (hj : j ≤ k) (hr : Room k X.A) (hgd : X.A.guards = some []) (hg : Gl X x)
    (hdb : (x == ("__debug__" : Str)) = false := by decide +kernel) : DE X (.Call (.Name x p) [] [] pos) (eCallS φ n 0 dd aNil aNil) := by
  obtain ⟨f, dz, a, b, c, d⟩ := C.ex
  exact PE.imp (pe_callS0 (a.mono hj) hr hgd hg b c (fun σ => passG0) hdb) fun σ H Q h => lift_S00 d h
end
end LF
set_option maxHeartbeats 1000000
namespace LF
open PySem PySem.Spec PyProof.Rows L2
variable [PP]
def eMk0 (x : Str) : EV := fun _ g Q => Q (.exv x [] []) g
def eMk1 (x f : Str) (t : EV) : EV := fun ε g Q => t ε g fun d g1 => Q (.exv x [f] [d]) g1
def eIsV (tb : Str → Option Bool) (t : EV) : EV := fun ε g Q => t ε g fun d g1 => match d with
  | .exv x _ _ => ∃ b, tb x = some b ∧ Q (.bl b) g1
  | _ => False
def eFdV (cs : Str → Bool) (f : Str) (t : EV) : EV := fun ε g Q => t ε g fun d g1 => match d with
  | .exv x fl ds => cs x = true ∧ ∃ v, (fl.zip ds).lookup f = some v ∧ Q v g1
  | _ => False
theorem zip_rv {K : PySem.W.Frag} {H : Hp} {f : Str} {d : D} : ∀ {fl : List Str} {ds : List D} {vs : List V}, RVs K H ds vs → fl.length = vs.length → (fl.zip ds).lookup f = some d → ∃ v, (fl.zip vs).lookup f = some v ∧ RV K H d v
  | [], _, _, _, _, h => by cases h
  | x :: fl, [], _, _, _, h => by cases h
  | x :: fl, d0 :: ds, v0 :: vs, .cons r rs, e, h => by
    rw [List.zip_cons_cons, List.lookup_cons] at h
    rw [List.zip_cons_cons, List.lookup_cons]
    cases c : (f == x) with
    | true => rw [c] at h; cases h; exact ⟨v0, rfl, r⟩
    | false => rw [c] at h; exact zip_rv rs (by simpa using e) h
/-- a table of answers by the class's name -/
def tbl (ns : List Str) (L : List Bool) (x : Str) : Option Bool := (ns.zip L).lookup x
theorem tbl_ok {K : PySem.W.Frag} {ct : Nat → Addr} {cv : Value} {n : Nat} {ns : List Str} {L : List Bool} (hns : ∀ c x, ns[c]? = some x → PySem.W.nsIn K mainGlobals x = some (some (.ref (ct c)))) (F : IsF K ct cv L) (xc : ∀ c, c < n → ExcC K (ct c)) (hn : ns.length = n := by rfl) :
    ∀ x b, tbl ns L x = some b → ∃ C, PySem.W.nsIn K mainGlobals x = some (some (.ref C)) ∧ ExcC K C ∧ PySem.W.kitOne K (.ref C) cv = some b := by
  intro x b h
  obtain ⟨i, hi, e⟩ := List.getElem_of_mem (PySem.mem_of_lookup h)
  have h1 : i < ns.length := by rw [List.length_zip] at hi; omega
  have h2 : i < L.length := by rw [List.length_zip] at hi; omega
  rw [List.getElem_zip] at e
  injection e with e1 e2
  exact ⟨ct i, hns i x (by rw [List.getElem?_eq_getElem h1, e1]), xc i (by omega), F i b (by rw [List.getElem?_eq_getElem h2, e2])⟩
theorem fdc_ok {K : PySem.W.Frag} {ct : Nat → Addr} {n : Nat} {ns : List Str} {f : Str} (hns : ∀ c x, ns[c]? = some x → PySem.W.nsIn K mainGlobals x = some (some (.ref (ct c)))) (xf : ∀ c, c < n → XfC K (ct c)) (fn : ∀ c, c < n → PySem.W.findIn K (.ref (ct c)) f = some none) (hn : ns.length = n := by rfl) :
    ∀ x, ns.contains x = true → ∃ C, PySem.W.nsIn K mainGlobals x = some (some (.ref C)) ∧ XfC K C ∧ PySem.W.findIn K (.ref C) f = some none := by
  intro x h
  obtain ⟨i, hi, e⟩ := List.getElem_of_mem (List.contains_iff_mem.mp h)
  exact ⟨ct i, hns i x (by rw [List.getElem?_eq_getElem hi, e]), xf i (by omega), fn i (by omega)⟩
section
variable {X : Cx} {e ce : Expr} {t : EV} {p pos : Pos} {x f : Str} {C : Addr}
/-- X() -/
theorem d_mk0 (T : Ex0 X.K X.mg x C) (hns : PySem.W.nsIn X.K mainGlobals x = some (some (.ref C))) (hg : Gl X x) (hdb : (x == ("__debug__" : Str)) = false := by decide +kernel) : DE X (.Call (.Name x p) [] [] pos) (eMk0 x) := ⟨fun pins s σ H Q I h => by
  obtain ⟨ε, g, Q0, rs, rg, q, k⟩ := h
  refine wpAny_Call_Name_kw (ld_glob I hg T.gl ?_ hdb)
  refine PySem.W.callWith_K0 (first := []) I.kIn T.kp ?_
  show wpAny _ _ (call (.ref C) []) _ _ _
  obtain ⟨bm, N, nm, qn, bs, dct, sn, sb, ab, cl, dd, k0, k1, k2, k3, k5, mN, h1, h2, h3, h4⟩ := exc_obj I.kIn T.nw
  refine wpAny_call_exc_subT PySem.F.excBase_ValueError h4 h1 h2 h3 (fun h' a hm => ?_) (Nat.zero_le _)
  obtain ⟨t1, he, _, _⟩ := hm.there
  have hn : H a = none := I.hok.gone hm.new
  have I2 := I.laidN (o := exo a C none) (t' := s.toks) hm.keeps hm.new hn (exo_ok he)
  exact ⟨.ref a, upd H a (exo a C none), I2, rfl, k _ g _ _ q (.exv ⟨C, hns, .inl ⟨rfl, upd_same⟩⟩ .nil) (rg.tupNew hn) (keep_new hn _)⟩⟩
def tMkV (C : Addr) (sp : Sp) (ta : TA) : TE := fun σ H Q => ta σ H fun vs H1 => vs.length ≤ 1000 ∧ ∀ a, H1 a = none → sp (.ref a :: vs) (upd H1 a (exo a C none)) (fun v H2 => v = .non ∧ Q (.ref a) H2) (fun _ _ _ => False)
theorem pe_oexV {fI : Addr} {k : Nat} {fd : FuncData} {ps : List Str} {sp : Sp} {ta : TA} {es : List Expr} (T : OexC X.K C) (iC : PySem.W.findIn X.K (.ref C) "__init__" = some (some (.ref fI))) (tI : PySem.W.typeIn X.K (.ref fI) = some (.type "function"))
    (F1 : FnOk X.prog X.w X.K X.mg X.base CX0 k fI fd ps sp) (hr : Room (k + 1) X.A) (hb : Binds X.K fd ps []) (hg : Gl X x) (hm : X.mg x = some (.ref C)) (ha : PA X (e :: es) ta)
    (hdb : (x == ("__debug__" : Str)) = false := by decide +kernel) (he : starEach (e :: es) X.env = (false, eval e X.env) :: starEach es X.env := by rfl) (hpl : (backTo pos (starEach es X.env)).any (·.1) = false := by rfl) :
    PE X (.Call (.Name x p) (e :: es) [] pos) (tMkV C sp ta) := ⟨fun pins s σ H Q I h => by
  obtain ⟨nm, q, N, bs, bm, sn, sub, ab, col, dd, k0, k1, k2, k3, k5, hC, hbm⟩ := T.cls
  refine wpAny_Call_Name_kw (ld_glob I hg hm ?_ hdb)
  refine PySem.W.callWith_K (h₀ := X.base) I.ok.mod.kin T.kC (thn (ha.run pos pins s σ H _ I h) fun us s1 ⟨vs, H1, I1, r1, hz, q1⟩ => ⟨I1.kIn, ?_⟩) he hpl
  show wpAny _ _ (call (.ref C) us) _ _ _
  obtain ⟨hp, g, dr, tk, os⟩ := s1
  have hn : H1 (hp.objs.size + 1) = none := I1.hok.fresh (Nat.le_succ _)
  have hq := q1 (hp.objs.size + 1) hn
  have hget : ((hp.push (PySem.W.kdv_tup us)).push (PySem.HandSPX.excO C hp.objs.size)).get? (hp.objs.size + 1) = some (PySem.HandSPX.excO C hp.objs.size) := by heap_get
  have I2 : Inv X pins σ (upd H1 (hp.objs.size + 1) (exo (hp.objs.size + 1) C none)) ⟨(hp.push (PySem.W.kdv_tup us)).push (PySem.HandSPX.excO C hp.objs.size), g, dr, tk, os⟩ :=
    I1.laid (t' := tk) (a := hp.objs.size + 1) (o := exo (hp.objs.size + 1) C none) (h' := (hp.push (PySem.W.kdv_tup us)).push (PySem.HandSPX.excO C hp.objs.size)) (fun b o e => Heap.get?_push_of_some _ (Heap.get?_push_of_some _ e)) (Nat.le_succ _) (exo_ok hget)
  have r2 : Vals (V.ref (hp.objs.size + 1) :: vs) (Value.ref (hp.objs.size + 1) :: us) := .cons rfl r1
  have hl : (Value.ref (hp.objs.size + 1) :: us).length = ps.length := by
    rw [← r2.length]
    exact F1.len _ _ _ _ hq
  have hus : us.length ≤ sizeLine := by
    rw [← r1.length, sizeLine_eq]
    omega
  have hbb := hb (⟨(hp.push (PySem.W.kdv_tup us)).push (PySem.HandSPX.excO C hp.objs.size), g, dr, tk, os⟩ : Shared) (Value.ref (hp.objs.size + 1) :: us) I2.kIn (by simpa using hl)
  rw [List.append_nil] at hbb
  refine wpAny_call (PySem.HandSPX.call_own F.excBase_ValueError (fun Y => PySem.HandSPX.refsVE_contains Y bm hbm) (I1.kIn _ _ hC) (PySem.W.looks_findIn I1.kIn iC) (fun self => PySem.W.bind_fn I1.kIn self tI) hus
    (codeAny_mono (F1.run _ X.stack _ _ ⟨Value.ref (hp.objs.size + 1) :: us, []⟩ (Value.ref (hp.objs.size + 1) :: us) _ _ (fun _ _ _ => False) (hr.make C us []) (I2.env0.make C us []) hbb r2 hq) fun r s' hq' => ?_))
  cases r with
  | error er => exact (show False from hq').elim
  | ok fl =>
    cases fl with
    | ret u =>
      obtain ⟨v, H', I3, rv, ev, q3⟩ := I2.after hq'
      subst ev
      exact ⟨rv, ⟨V.ref (hp.objs.size + 1), H', I3, rfl, q3⟩⟩
    | next => exact False.elim hq'
    | brk => exact False.elim hq'
    | cont => exact False.elim hq'⟩
/-- X(e) -/
theorem d_mk1 {k : Nat} (T : Ex1 X.prog X.w X.K X.mg X.base x f C) (hns : PySem.W.nsIn X.K mainGlobals x = some (some (.ref C))) (hr : Room k X.A) (hg : Gl X x) (he : DE X e t) (hk : 2 ≤ k := by omega)
    (hdb : (x == ("__debug__" : Str)) = false := by decide +kernel) (hs : starEach [e] X.env = (false, eval e X.env) :: starEach [] X.env := by rfl) (hpl : (backTo pos (starEach [] X.env)).any (·.1) = false := by rfl) :
    DE X (.Call (.Name x p) [e] [] pos) (eMk1 x f t) := by
  obtain ⟨fI, fnd, i1, i2, i3, i4⟩ := T.ini
  refine PE.imp (pe_oexV T.ok i1 i2 i4 (hr.mono hk) i3 hg T.gl (da_cons he da_nil hs) hdb hs hpl) fun σ H Q ⟨ε, g, Q0, rs, rg, q, kk⟩ => ?_
  refine ⟨ε, g, fun ds g1 => match ds with | [d] => Q0 (.exv x [f] [d]) g1 | _ => False, rs, rg, q, fun ds g1 vs H1 q1 rv rg1 k1 => ?_⟩
  dsimp only at q1
  split at q1
  · rename_i d
    obtain ⟨y, rfl, ry⟩ := one_rv rv
    refine ⟨by simp, fun a ha => ⟨a, y, rfl, upd_same, fun dx hdx hne => ⟨rfl, ?_⟩⟩⟩
    have hd1 : H1 dx = none := by rw [upd_ne hne] at hdx; exact hdx
    have same : ∀ b, b ≠ a → b ≠ dx → upd (upd (upd H1 a (exo a C none)) dx (exd dx [(f, y)])) a (exo a C (some dx)) b = H1 b := fun b h1 h2 => by rw [upd_ne h1, upd_ne h2, upd_ne h1]
    have kp : Keep g1 H1 g1 (upd (upd (upd H1 a (exo a C none)) dx (exd dx [(f, y)])) a (exo a C (some dx))) := fun b o e n => ⟨by rw [same b (fun z => by subst z; rw [ha] at e; cases e) (fun z => by subst z; rw [hd1] at e; cases e)]; exact e, n⟩
    have rg2 : RG X.K g1 (upd (upd (upd H1 a (exo a C none)) dx (exd dx [(f, y)])) a (exo a C (some dx))) := rg1.move kp fun b o e =>
      RO.keep rg1 kp (same b (fun z => by subst z; rw [rg1.out ha] at e; cases e) (fun z => by subst z; rw [rg1.out hd1] at e; cases e)) (rg1.st b o e)
    exact kk _ _ _ _ q1 (.exv ⟨C, hns, .inr ⟨dx, upd_same, by rw [upd_ne hne, upd_same]; rfl, rfl⟩⟩ (.cons (ry.keep rg1 kp) .nil)) rg2 (k1.trans kp)
  · exact q1.elim
theorem call_isV : CallR X (.builtin "isinstance") (fun xs H Q => ∃ (a D : Addr) (cv : V) (u : Value) (b : Bool) (d : Option Addr), xs = [.ref a, cv] ∧ ClsV cv u ∧ ExcC X.K D ∧ H a = some (exo a D d) ∧ (∀ dx, d = some dx → ∃ fs, H dx = some (exd dx fs)) ∧ PySem.W.kitOne X.K (.ref D) u = some b ∧ Q (.bl b) H) := by
  intro pins s σ H xs us Q I r h
  obtain ⟨a, D, cv, u, b, d, rfl, k, C, ha, hd, e, q⟩ := h
  obtain ⟨u1, u2, rfl, r1, r2⟩ := vals2 r
  cases (show u1 = Value.ref a from r1)
  have e2 := k.eq r2
  subst e2
  obtain ⟨t1, ho⟩ := exo_at I.hok ha
  have J : ∃ od, PySem.W.InstAt s.heap a { cls := .ref D, dict := d, data := .fields #[.ref t1, .none, .none, .none, .bool false, .none] } D od := by
    cases d with
    | none => exact ⟨none, ho, rfl, rfl, trivial⟩
    | some dx =>
      obtain ⟨fs, hx⟩ := hd dx rfl
      obtain ⟨mA, hns, _⟩ := exd_at I.hok hx
      obtain ⟨ob, ho2, _⟩ := lookIn_ns hns
      exact ⟨some ob, ho, rfl, rfl, ho2⟩
  obtain ⟨od, J⟩ := J
  exact PySem.W.kia_one (kitX_of C) I.kIn J e (fun z => nomatch z) fun tk => ⟨.bl b, H, I.tok tk, rfl, q⟩
/-- isinstance(e, C) -/
theorem d_isV {tb : Str → Option Bool} {v : V} {cv : Value} (hv : ClsV v cv) (h : ∀ x b, tb x = some b → ∃ C, PySem.W.nsIn X.K mainGlobals x = some (some (.ref C)) ∧ ExcC X.K C ∧ PySem.W.kitOne X.K (.ref C) cv = some b)
    (hg : Gl X "isinstance") (hm : X.mg "isinstance" = none) (he : DE X e t) (hc : PE X ce (tC v))
    (s1 : starEach [e, ce] X.env = (false, eval e X.env) :: starEach [ce] X.env := by rfl) (s2 : starEach [ce] X.env = (false, eval ce X.env) :: starEach [] X.env := by rfl) (hpl : (backTo pos (starEach [ce] X.env)).any (·.1) = false := by rfl) :
    DE X (.Call (.Name "isinstance" p) [e, ce] [] pos) (eIsV tb t) :=
  PE.imp (pe_callB call_isV hg hm (by decide +kernel) (pa_cons he (pa_cons hc pa_nil s2) s1) (by decide +kernel) (by decide +kernel) s1 hpl) fun σ H Q ⟨ε, g, Q0, rs, rg, q, k⟩ =>
    ⟨ε, g, _, rs, rg, q, fun d' g1 w H1 q1 rv rg1 k1 => by
      cases rv with
      | exv h1 h2 =>
        obtain ⟨b, hb, q1⟩ := q1
        obtain ⟨C, n1, xc, ko⟩ := h _ b hb
        obtain ⟨C', n2, hh⟩ := h1
        have eC : C = C' := by
          have z := n1.symm.trans n2
          injection z with z
          injection z with z
          injection z
        subst eC
        rcases hh with ⟨_, e1⟩ | ⟨dx, e1, e2, _⟩
        · exact ⟨_, C, v, cv, b, none, rfl, hv, xc, e1, fun dx z => (by cases z), ko, k _ _ _ _ q1 (.bl _) rg1 k1⟩
        · exact ⟨_, C, v, cv, b, some dx, rfl, hv, xc, e1, fun dy z => (by cases z; exact ⟨_, e2⟩), ko, k _ _ _ _ q1 (.bl _) rg1 k1⟩
      | _ => exact q1.elim⟩
/-- e.f -/
theorem pe_xfV {te : TE} {n : Str} (he : PE X e te) (hb : attributeBase e n X.env (eval e X.env) = eval e X.env := by rfl) :
    PE X (.Attribute e n pos) (fun σ H Q => te σ H fun y H1 => ∃ (a C dx : Addr) (fs : List (Str × V)) (v : V), y = .ref a ∧ XfC X.K C ∧ PySem.W.findIn X.K (.ref C) n = some none ∧ H1 a = some (exo a C (some dx)) ∧ H1 dx = some (exd dx fs) ∧ fs.lookup n = some v ∧ Q v H1) := by
  refine ⟨fun pins s σ H Q I h => ?_⟩
  refine attr_of hb (thn (he.run pins s σ H _ I h) fun u s1 hh => ?_)
  obtain ⟨y, H1, I1, rx, a, C, dx, fs, v, rfl, T, hno, ha, hd, l, q⟩ := hh
  obtain rfl : u = Value.ref a := rx
  obtain ⟨t1, ho⟩ := exo_at I1.hok ha
  obtain ⟨mA, hns, hr⟩ := exd_at I1.hok hd
  obtain ⟨od, ho2, hl⟩ := lookIn_ns hns
  obtain ⟨u, hu, ru⟩ := RelO.some_of (v := v) (o := mA n) (by rw [← l]; exact hr n)
  have J : PySem.W.InstAt s1.heap a { cls := .ref C, dict := some dx, data := .fields #[.ref t1, .none, .none, .none, .bool false, .none] } C (some od) := ⟨ho, rfl, rfl, ho2⟩
  exact HandSPX.exc_get I1.kIn J T.ga T.gg T.exC (PySem.W.findObj_own T.hdC hno rfl (by rw [hl, hu])) (handed_of ru) ⟨v, H1, I1.tok _, ru, q⟩
theorem d_fdV {n : Str} {cs : Str → Bool} (h : ∀ x, cs x = true → ∃ C, PySem.W.nsIn X.K mainGlobals x = some (some (.ref C)) ∧ XfC X.K C ∧ PySem.W.findIn X.K (.ref C) n = some none) (he : DE X e t)
    (hb : attributeBase e n X.env (eval e X.env) = eval e X.env := by rfl) : DE X (.Attribute e n pos) (eFdV cs n t) :=
  PE.imp (pe_xfV he hb) fun σ H Q ⟨ε, g, Q0, rs, rg, q, k⟩ => ⟨ε, g, _, rs, rg, q, fun d' g1 w H1 q1 rv rg1 k1 => by
      cases rv with
      | @exv a x fl vs ds h1 h2 =>
        obtain ⟨hc, v0, hl, q1⟩ := q1
        obtain ⟨C, n1, xc, ko⟩ := h _ hc
        obtain ⟨C', n2, hh⟩ := h1
        have eC : C = C' := by
          have z := n1.symm.trans n2
          injection z with z
          injection z with z
          injection z
        subst eC
        rcases hh with ⟨e0, e1⟩ | ⟨dx, e1, e2, e3⟩
        · subst e0
          cases hl
        · obtain ⟨v, e4, r4⟩ := zip_rv h2 e3 hl
          exact ⟨a, C, dx, _, v, rfl, xc, ko, e1, e2, e4, k _ _ _ _ q1 r4 rg1 k1⟩
      | _ => exact q1.elim⟩
end
end LF
set_option maxHeartbeats 1000000
namespace LF
open PySem PySem.Spec PyProof.Rows L2 HT
/-- clauses, and what they wish of an error, from what is wished of one that none of them takes -/
inductive HdsA (X : Cx) : List ExceptHandler → (WX → Ends → WX) → Prop
  | nil : HdsA X [] (fun W _ => W)
  | only {x : Str} {c : Value} {ts : Addr → Value → Option Addr → TS} {b₀ : Stmt} {suite : List Stmt} {np pos' : Pos} {hds : List ExceptHandler} {w : WX → Ends → WX} (hc : L2.Names X x c)
      (hsu : ∀ (a : Addr) (oe : Obj) (cls : Value) (d : Option Addr) (pn : List (Addr × Obj)), Zc cls d oe → (∃ vs, oe.data = .fields vs) → PSs (X.suite a ((a, oe) :: pn)) (b₀ :: suite) (ts a cls d)) (r : HdsA X hds w) :
      HdsA X (.ExceptHandler (some (.Name x np)) none (b₀ :: suite) pos' :: hds) (fun W D cls d σ H => ∃ b, PySem.W.exmOne X.K cls c = some b ∧ (b = true → ∀ a, H a = none → ts a cls d D σ H) ∧ (b = false → w W D cls d σ H))
  | named {x n : Str} {i : Nat} {c : Value} {ts : Addr → Value → Option Addr → TS} {b₀ : Stmt} {suite : List Stmt} {np pos' : Pos} {hds : List ExceptHandler} {w : WX → Ends → WX} (hi : X.N[i]? = some n) (hln : X.env.kindOf n = some .local) (hc : L2.Names X x c)
      (hsu : ∀ (a : Addr) (oe : Obj) (cls : Value) (d : Option Addr) (pn : List (Addr × Obj)), Zc cls d oe → (∃ vs, oe.data = .fields vs) → PSs (X.suite a ((a, oe) :: pn)) (b₀ :: suite) (ts a cls d)) (r : HdsA X hds w) :
      HdsA X (.ExceptHandler (some (.Name x np)) (some n) (b₀ :: suite) pos' :: hds) (fun W D => L2.wAs X.K c i ts (w W D) D)
section
variable {X : Cx} {body : List Stmt} {h₀ : ExceptHandler} {hds : List ExceptHandler} {w : WX → Ends → WX} {pos : Pos} {tb : WX → TS} {Wout : WX}
theorem ps_tryA (hs : X.stack = X.env :: X.outer) (hf : X.env.frame = some X.env.locals) (hN : X.N.Nodup) (tk : L2.Takes X Wout)
    (hb : ∀ (W : WX) (pn : List (Addr × Obj)) (xe : Value → Shared → Prop), L2.Takes (X.tr pn xe) W → PassesOwn (model X.prog X.w) X.A X.env xe → PSs (X.tr pn xe) body (tb W))
    (hh : HdsA X (h₀ :: hds) w) : PS X (.Try body (h₀ :: hds) [] [] pos) (fun D σ H => tb (w Wout D) D σ H) := by
  refine ⟨fun pins s σ H D I h => ?_⟩
  have ok := I.ok
  have hfr : X.A.frames = some (X.env :: X.outer) := by rw [ok.frames, hs]
  refine wpAny_Try_except ?_
  refine wpAny_mono ((hb (w Wout D) (X.pn ++ pins) (fun e s₁ => wpAny (model X.prog X.w) X.A (noteFrame e X.env) (fun _ s₂ => wpAny (model X.prog X.w) X.A (setFlight e none) (fun _ s₃ =>
    wpAny (model X.prog X.w) X.A (handleBy e X.env (h₀ :: hds)) (SP X pins D) X.xe s₃) X.xe s₂) X.xe s₁) (fun u s' xx => ?_) PassesOwn.looking).run [] s σ H D (I.toTry _) h) (fun f s1 hsp => ?_) (fun e s1 he => he)
  · obtain ⟨a, B, sI, pins', σ', H', cls, d, rfl, J', nb, up, sky, na, os, ag, wh⟩ := xx
    have J : Inv X pins σ' H' sI := J'.ofTry ok
    have sky' : Sky B (X.env :: X.outer) a (Zc cls d) X.env.locals s'.heap := by rw [← hs]; exact sky
    show wpAny (model X.prog X.w) X.A (noteFrame (.ref a) X.env) _ _ _
    refine Sky.land Zc.steady hfr hf sky' fun h3 fl3 up3 => ?_
    have J3 : Inv X pins σ' H' { s' with heap := h3 } := J.landed nb fl3.1 (up.trans up3) os ag
    obtain ⟨oe3, vs3, he3, hz3, hd3⟩ := fl3.there
    have nfr : a ∉ frs (X.env :: X.outer) := fun hm => by
      obtain ⟨_, o', e', hnf⟩ := fl3.2.2.1.mem hm
      rw [he3] at e'; cases e'
      exact hnf _ hd3
    have nL : a ≠ X.env.locals := fun z => nfr (List.mem_filterMap.mpr ⟨X.env, List.mem_cons_self, by rw [hf, z]⟩)
    have nF : a ∉ X.fs := fun hm => by
      obtain ⟨e, he, q⟩ := List.mem_filterMap.mp hm
      exact nfr (List.mem_filterMap.mpr ⟨e, List.mem_cons_of_mem _ he, q⟩)
    have S3 := J3.suite he3 hd3 na nL nF
    have LT : PySem.W.Looks (model X.prog X.w) h3 (typeOf (.ref a)) cls := fun A Q E s k q => wpAny_typeOf_ref (k _ _ he3) (by rw [hz3.1]; exact q)
    have test : ∀ {x : Str} {c : Value} {np : Pos} {Q : Value → Shared → Prop} {E : Value → Shared → Prop}, L2.Names X x c → Q c { s' with heap := h3 } → wpAny (model X.prog X.w) (X.A.mark (some (.ref a))) (eval (.Name x np) X.env) Q E { s' with heap := h3 } := fun {x c np Q E} hc q => by
      obtain ⟨hg, hdbg, hm | ⟨hm, hv, hnn⟩⟩ := hc
      · exact ld_glob (X := X.suite a ((a, oe3) :: (X.pn ++ pins))) S3 hg hm q hdbg
      · exact ld_blt (X := X.suite a ((a, oe3) :: (X.pn ++ pins))) S3 hg hm hv q hnn hdbg
    have go : ∀ {hds' : List ExceptHandler} {w' : WX → Ends → WX}, HdsA X hds' w' → w' Wout D cls d σ' H' → wpAny (model X.prog X.w) X.A (handleBy (.ref a) X.env hds') (SP X pins D) X.xe { s' with heap := h3 } := by
      intro hds' w' hk
      induction hk with
      | nil =>
        intro wh
        refine wpAny_handleBy_nil ?_
        obtain ⟨k1, k2, k3, oe, vs, T, oT, ts', he, hz, hd, h1, hr⟩ := id fl3
        unfold PySem.passOn
        refine wpAny_bind (wpAny_field he hd h1 ?_)
        rw [if_neg (show ¬ ((Value.ref T == Value.none) = true) from by simp)]
        have fin : wpAny (model X.prog X.w) X.A (setFlight (.ref a) X.env.frame) (fun _ s4 => wpAny (model X.prog X.w) X.A (throw (.ref a) : Sem Flow) (SP X pins D) X.xe s4) X.xe { s' with heap := h3 } := by
          rw [hf]
          refine HandSPX.setFlight_upZ fl3 fun h4 hh4 up4 => wpAny_throw (tk _ _ ?_)
          exact ⟨a, B, sI, pins, σ', H', cls, d, rfl, J, nb, (up.trans up3).trans up4, .inr (.inr (by rw [hs]; exact hh4)), na, os, ag, wh⟩
        first
          | exact wpAny_bind (wpAny_pure (wpAny_bind fin))
          | exact wpAny_bind fin
      | only hc hsu r ih =>
        rintro ⟨b, hb1, hyes, hno⟩
        refine wpAny_handleBy_cons (codeAny_handlers_test ?_) (by intro q; cases q)
        have LM := PySem.W.exm_one (M := model X.prog X.w) (J3.kIn) LT hb1
        refine test hc (LM.here ?_)
        cases b with
        | true =>
          refine codeAny_handlers_suite ?_
          refine HandSPX.lands_againZ fl3 fun h4 fl4 up4 => ?_
          have J4 : Inv X pins σ' H' { s' with heap := h4 } := J.landed nb fl4.1 ((up.trans up3).trans up4) os ag
          obtain ⟨oe4, vs4, he4, hz4, hd4⟩ := fl4.there
          have S4 := J4.suite he4 hd4 na nL nF
          refine wpAny_mono ((hsu a oe4 cls d (X.pn ++ pins) hz4 ⟨_, hd4⟩).run [] _ _ H' _ S4 (hyes rfl a na)) (fun f s6 hsp => ?_) (fun _ _ z => False.elim z)
          cases f with
          | next => obtain ⟨_, _, S6, q6⟩ := hsp; exact ⟨_, _, S6.unsuite ok, q6⟩
          | brk => obtain ⟨_, _, S6, q6⟩ := hsp; exact ⟨_, _, S6.unsuite ok, q6⟩
          | cont => obtain ⟨_, _, S6, q6⟩ := hsp; exact ⟨_, _, S6.unsuite ok, q6⟩
          | ret u => obtain ⟨_, _, _, S6, r6, q6⟩ := hsp; exact ⟨_, _, _, S6.unsuite ok, r6, q6⟩
        | false => exact ih (hno rfl)
      | @named x n i c ts b₀ suite np pos' hds w hi hln hc hsu r ih =>
        rintro ⟨b, hb1, hyes, hno⟩
        refine wpAny_handleBy_cons (codeAny_handlers_test ?_) (by intro q; cases q)
        have LM := PySem.W.exm_one (M := model X.prog X.w) (J3.kIn) LT hb1
        refine test hc (LM.here ?_)
        cases b with
        | true =>
          refine codeAny_handlers_suite_as ?_
          refine HandSPX.lands_againZ fl3 fun h4 fl4 up4 => ?_
          have J4 : Inv X pins σ' H' { s' with heap := h4 } := J.landed nb fl4.1 ((up.trans up3).trans up4) os ag
          obtain ⟨oe4, vs4, he4, hz4, hd4⟩ := fl4.there
          have S4 := J4.suite he4 hd4 na nL nF
          refine store_ok (X := X.suite a ((a, oe4) :: (X.pn ++ pins))) (v := .ref a) S4 hN hi (.inl hln) rfl (fun s5 S5 => ?_) (.inr hln)
          refine wpAny_mono ((hsu a oe4 cls d (X.pn ++ pins) hz4 ⟨_, hd4⟩).run [] s5 _ H' _ S5 (hyes rfl a na)) (fun f s6 hsp => ?_) (fun _ _ z => False.elim z)
          have end_ : ∀ {σ6 : L2.St} {H6 : Hp} {Q : Shared → Prop}, Inv (X.suite a ((a, oe4) :: (X.pn ++ pins))) [] σ6 H6 s6 → (∀ s7, Inv X pins (σ6.set i none) H6 s7 → Q s7) →
              wpAny (model X.prog X.w) X.A (do bindName X.env n .none; unbindBehindTheSuite X.env n pos') (fun _ s7 => Q s7) X.xe s6 := fun {σ6 H6 Q} S6 hq => gone_ok (S6.unsuite ok) hN hi hln hq
          cases f with
          | next => obtain ⟨σ6, H6, S6, q6⟩ := hsp; exact end_ S6 fun s7 J7 => ⟨_, _, J7, q6⟩
          | brk => obtain ⟨σ6, H6, S6, q6⟩ := hsp; exact end_ S6 fun s7 J7 => ⟨_, _, J7, q6⟩
          | cont => obtain ⟨σ6, H6, S6, q6⟩ := hsp; exact end_ S6 fun s7 J7 => ⟨_, _, J7, q6⟩
          | ret u => obtain ⟨v6, σ6, H6, S6, r6, q6⟩ := hsp; exact end_ S6 fun s7 J7 => ⟨_, _, _, J7, r6, q6⟩
        | false => exact ih (hno rfl)
    exact go hh wh
  · cases f with
    | next => obtain ⟨σ', H', J', q⟩ := hsp; exact wpAny_execs_nil ⟨σ', H', J'.ofTry ok, q⟩
    | brk => obtain ⟨σ', H', J', q⟩ := hsp; exact ⟨σ', H', J'.ofTry ok, q⟩
    | cont => obtain ⟨σ', H', J', q⟩ := hsp; exact ⟨σ', H', J'.ofTry ok, q⟩
    | ret u => obtain ⟨v, σ', H', J', r, q⟩ := hsp; exact ⟨v, σ', H', J'.ofTry ok, r, q⟩
end
/-- clauses of the layer -/
inductive Hd where
  | only (cat : Nat → Option Bool) (ts : SV)
  | named (i : Nat) (cat : Nat → Option Bool) (ts : Nat → List (Str × D) → Addr → SV)
def hRun : List Hd → EY → Es → EY
  | [], E, _ => E
  | .only cat ts :: r, E, D => fun c fs ε g => match cat c with
    | some true => ts D ε g
    | some false => hRun r E D c fs ε g
    | none => False
  | .named i cat ts :: r, E, D => fun c fs ε g => match cat c with
    | some true => ∀ a, g a = none → ts c fs a { nx := fun ε g => D.nx (ε.set i none) g, rt := D.rt, bk := fun ε g => D.bk (ε.set i none) g, ct := fun ε g => D.ct (ε.set i none) g } (ε.set i (some (.ref a))) g
    | some false => hRun r E D c fs ε g
    | none => False
def sTryN (hs : List Hd) (tb : EY → SV) (E : EY) : SV := fun D ε g => tb (hRun hs E D) D ε g
inductive HdsD (X : Cx) (ct : Nat → Addr) : List ExceptHandler → List Hd → Prop
  | nil : HdsD X ct [] []
  | only {x : Str} {C : Addr} {cat : Nat → Option Bool} {ts : SV} {b₀ : Stmt} {suite : List Stmt} {np pos' : Pos} {hds : List ExceptHandler} {l : List Hd} (hc : L2.Names X x (.ref C)) (hcat : ∀ c b, cat c = some b → PySem.W.exmOne X.K (.ref (ct c)) (.ref C) = some b)
      (hsu : ∀ (a : Addr) (oe : Obj) (cls : Value) (d : Option Addr) (pn : List (Addr × Obj)) [PP], Zc cls d oe → (∃ vs, oe.data = .fields vs) → DSs (X.suite a ((a, oe) :: pn)) (b₀ :: suite) ts) (r : HdsD X ct hds l) :
      HdsD X ct (.ExceptHandler (some (.Name x np)) none (b₀ :: suite) pos' :: hds) (.only cat ts :: l)
  | named {x n : Str} {i : Nat} {C : Addr} {cat : Nat → Option Bool} {ts : Nat → List (Str × D) → Addr → SV} {b₀ : Stmt} {suite : List Stmt} {np pos' : Pos} {hds : List ExceptHandler} {l : List Hd} (hi : X.N[i]? = some n) (hln : X.env.kindOf n = some .local) (hc : L2.Names X x (.ref C))
      (hcat : ∀ c b, cat c = some b → PySem.W.exmOne X.K (.ref (ct c)) (.ref C) = some b)
      (hsu : ∀ (c : Nat) (fs : List (Str × D)) (a : Addr) (oe : Obj) (d : Option Addr) (pn : List (Addr × Obj)) [PP], cat c = some true → Zc (.ref (ct c)) d oe → (∃ vs, oe.data = .fields vs) → (∀ g H, PP.P X.K g H → XF X.K d fs g H) → DSs (X.suite a ((a, oe) :: pn)) (b₀ :: suite) (ts c fs a)) (r : HdsD X ct hds l) :
      HdsD X ct (.ExceptHandler (some (.Name x np)) (some n) (b₀ :: suite) pos' :: hds) (.named i cat ts :: l)
theorem hd_lift {X : Cx} {ct : Nat → Addr} (p0 : PP) {hds : List ExceptHandler} {l : List Hd} (h : HdsD X ct hds l) : ∃ w, HdsA X hds w ∧ ∀ (E : EY) (D0 : Es) (Dn : Ends) (g : G) (H : Hp), @EsOk p0 X.K g H D0 Dn →
    ∀ cls d σ' H', @lW (ppB p0 g H) X.K ct (hRun l E D0) cls d σ' H' → w (@lW p0 X.K ct E) Dn cls d σ' H' := by
  induction h with
  | nil =>
    refine ⟨_, .nil, fun E D0 Dn g H o cls d σ' H' hw => ?_⟩
    obtain ⟨c, fs, ε', g', z, xr, rs', hst, hpp, _⟩ := hw
    exact ⟨c, fs, ε', g', z, xr, rs', ⟨hst, hpp⟩⟩
  | @only x C cat ts b₀ suite np pos' hds l hc hcat hsu r ih =>
    obtain ⟨w, hw1, hw2⟩ := ih
    let tS : Addr → Value → Option Addr → TS := fun a cls d Dn σ H => ∃ (pp : PP), @lS pp X.K ts Dn σ H
    have h1 : ∀ (a : Addr) (oe : Obj) (cls : Value) (d : Option Addr) (pn : List (Addr × Obj)), Zc cls d oe → (∃ vs, oe.data = .fields vs) → PSs (X.suite a ((a, oe) :: pn)) (b₀ :: suite) (tS a cls d) := by
      intro a oe cls d pn hz hv
      refine ⟨fun pins s σ H Dn I h => ?_⟩
      obtain ⟨pp, h⟩ := h
      exact (@hsu a oe cls d pn pp hz hv).run pins s σ H Dn I h
    refine ⟨_, .only hc h1 hw1, fun E D0 Dn g H o cls d σ' H' hw => ?_⟩
    obtain ⟨c, fs, ε', g', z, xr, rs', hst, hpp, hkeep⟩ := hw
    have z' : (match cat c with | some true => ts D0 ε' g' | some false => hRun l E D0 c fs ε' g' | none => False) := z
    cases hcc : cat c with
    | none => rw [hcc] at z'; exact z'.elim
    | some b =>
      rw [hcc] at z'
      have ex := hcat c b hcc
      rw [← xr.1] at ex
      cases b with
      | false => exact ⟨false, ex, fun y => Bool.noConfusion y, fun _ => hw2 E D0 Dn g H o cls d σ' H' ⟨c, fs, ε', g', z', xr, rs', @RG.mk (ppB p0 g H) _ _ _ hst ⟨hpp, hkeep⟩⟩⟩
      | true =>
        refine ⟨true, ex, fun _ a na => ?_, fun y => Bool.noConfusion y⟩
        refine ⟨p0, ε', g', _, rs', @RG.mk p0 _ _ _ hst hpp, z', ?_⟩
        exact @EsOk.mk p0 _ _ _ _ _ (fun _ _ _ _ y a r k => o.nx _ _ _ _ y a r (hkeep.trans k)) (fun _ _ _ _ y a r k => o.rt _ _ _ _ y a r (hkeep.trans k))
          (fun _ _ _ _ y a r k => o.bk _ _ _ _ y a r (hkeep.trans k)) (fun _ _ _ _ y a r k => o.ct _ _ _ _ y a r (hkeep.trans k))
  | @named x n i C cat ts b₀ suite np pos' hds l hi hln hc hcat hsu r ih =>
    obtain ⟨w, hw1, hw2⟩ := ih
    let tS : Addr → Value → Option Addr → TS := fun a cls d Dn σ H => ∃ (c : Nat) (fs : List (Str × LF.D)) (pp : PP), cls = .ref (ct c) ∧ cat c = some true ∧ (∀ g H, pp.P X.K g H → XF X.K d fs g H) ∧ @lS pp X.K (ts c fs a) Dn σ H
    have h1 : ∀ (a : Addr) (oe : Obj) (cls : Value) (d : Option Addr) (pn : List (Addr × Obj)), Zc cls d oe → (∃ vs, oe.data = .fields vs) → PSs (X.suite a ((a, oe) :: pn)) (b₀ :: suite) (tS a cls d) := by
      intro a oe cls d pn hz hv
      refine ⟨fun pins s σ H Dn I h => ?_⟩
      obtain ⟨c, fs, pp, e1, e2, e3, h⟩ := h
      subst e1
      exact (@hsu c fs a oe d pn pp e2 hz hv e3).run pins s σ H Dn I h
    refine ⟨_, .named hi hln hc h1 hw1, fun E D0 Dn g H o cls d σ' H' hw => ?_⟩
    obtain ⟨c, fs, ε', g', z, xr, rs', hst, hpp, hkeep⟩ := hw
    have xf := XF.of hst xr
    have z' : (match cat c with
      | some true => ∀ a, g' a = none → ts c fs a { nx := fun ε g => D0.nx (ε.set i none) g, rt := D0.rt, bk := fun ε g => D0.bk (ε.set i none) g, ct := fun ε g => D0.ct (ε.set i none) g } (ε'.set i (some (.ref a))) g'
      | some false => hRun l E D0 c fs ε' g' | none => False) := z
    cases hcc : cat c with
    | none => rw [hcc] at z'; exact z'.elim
    | some b =>
      rw [hcc] at z'
      have ex := hcat c b hcc
      rw [← xr.1] at ex
      cases b with
      | false => exact ⟨false, ex, fun y => Bool.noConfusion y, fun _ => hw2 E D0 Dn g H o cls d σ' H' ⟨c, fs, ε', g', z', xr, rs', @RG.mk (ppB p0 g H) _ _ _ hst ⟨hpp, hkeep⟩⟩⟩
      | true =>
        refine ⟨true, ex, fun _ a na => ?_, fun y => Bool.noConfusion y⟩
        refine ⟨c, fs, ppS p0 X.K d fs, xr.1, hcc, fun g2 H2 y => y.2 rfl, _, g', _, rs'.set i (.ref a), @RG.mk (ppS p0 X.K d fs) _ _ _ hst ⟨hpp, fun _ => xf⟩, z' a ((@RG.mk p0 _ _ _ hst hpp).out na), ?_⟩
        exact @EsOk.mk (ppS p0 X.K d fs) _ _ _ _ _ (fun ε2 g2 σ2 H2 y a r k => o.nx _ _ _ _ y (a.unset i) (rgS r) (hkeep.trans k)) (fun _ _ _ _ y a r k => o.rt _ _ _ _ y a (rgS r) (hkeep.trans k))
          (fun ε2 g2 σ2 H2 y a r k => o.bk _ _ _ _ y (a.unset i) (rgS r) (hkeep.trans k)) (fun ε2 g2 σ2 H2 y a r k => o.ct _ _ _ _ y (a.unset i) (rgS r) (hkeep.trans k))
section
variable [p0 : PP] {X : Cx} {body : List Stmt} {h₀ : ExceptHandler} {hds : List ExceptHandler} {l : List Hd} {pos : Pos} {ct : Nat → Addr} {tb : EY → SV} {E : EY}
theorem s_tryN (hs : X.stack = X.env :: X.outer) (hf : X.env.frame = some X.env.locals) (hN : X.N.Nodup) (tk : L2.Takes X (lW X.K ct E))
    (hb : ∀ (E' : EY) (pn : List (Addr × Obj)) (xe : Value → Shared → Prop) [PP], L2.Takes (X.tr pn xe) (lW X.K ct E') → PassesOwn (model X.prog X.w) X.A X.env xe → DSs (X.tr pn xe) body (tb E'))
    (hh : HdsD X ct (h₀ :: hds) l) : DS X (.Try body (h₀ :: hds) [] [] pos) (sTryN l tb E) := by
  let tB : WX → TS := fun W Dn σ H => ∃ (pp : PP) (E' : EY), (∀ cls d σ H, @lW pp X.K ct E' cls d σ H → W cls d σ H) ∧ @lS pp X.K (tb E') Dn σ H
  have h2 : ∀ (W : WX) (pn : List (Addr × Obj)) (xe : Value → Shared → Prop), L2.Takes (X.tr pn xe) W → PassesOwn (model X.prog X.w) X.A X.env xe → PSs (X.tr pn xe) body (tB W) := by
    intro W pn xe tkW hp
    refine ⟨fun pins s σ H Dn I h => ?_⟩
    obtain ⟨pp, E', hw, h⟩ := h
    exact (@hb E' pn xe pp (tkW.imp hw) hp).run pins s σ H Dn I h
  obtain ⟨w, hw1, hw2⟩ := hd_lift p0 hh
  refine PS.imp (ps_tryA hs hf hN tk h2 hw1) ?_
  intro Dn σ H ⟨ε, g, D0, rs, rg, q, o⟩
  exact ⟨ppB p0 g H, _, fun cls d σ' H' hw => hw2 E D0 Dn g H o cls d σ' H' hw, ε, g, D0, rs, @RG.mk (ppB p0 g H) _ _ _ rg.st ⟨rg.pp, Keep.refl _ _⟩, q, @EsOk.mk (ppB p0 g H) _ _ _ _ _ (fun _ _ _ _ z a r k => o.nx _ _ _ _ z a (rgB r).1 k) (fun _ _ _ _ z a r k => o.rt _ _ _ _ z a (rgB r).1 k)
    (fun _ _ _ _ z a r k => o.bk _ _ _ _ z a (rgB r).1 k) (fun _ _ _ _ z a r k => o.ct _ _ _ _ z a (rgB r).1 k)⟩
end
/-- *e in a display, e a list -/
def aStar (t : EV) (u : AV) : AV := fun ε g Q => t ε g fun x g1 => match x with
  | .ref a => ∃ xs, g1 a = some (.lst xs) ∧ u ε g1 fun ys g2 => Q (xs ++ ys) g2
  | _ => False
section
variable [PP] {X : Cx} {e : Expr} {es : List Expr} {t : EV} {u : AV} {p pos : Pos}
theorem da_star (he : DE X e t) (hr : DA X es u) (hs : starEach (.Starred e p :: es) X.env = (true, eval e X.env) :: starEach es X.env := by rfl) : DA X (.Starred e p :: es) (aStar t u) :=
  PA.imp (StX.pa_star he hr hs) fun σ H Q ⟨ε, g, Q0, hs, hg, ht, hq⟩ => ⟨ε, g, _, hs, hg, ht, fun d1 g1 v1 H1 q1 rv1 rg1 k1 => by
    cases d1 with
    | ref a =>
      obtain ⟨xs, ea, q1⟩ := q1
      cases rv1
      obtain ⟨vs, e1, r1⟩ := rg1.st a _ ea
      exact ⟨a, vs, rfl, .inr (.of e1), ε, g1, _, hs.keep hg k1, rg1, q1, fun ys g2 ws H2 q2 rvs rg2 k2 => hq _ _ _ _ q2 ((r1.keep rg1 k2).append rvs) rg2 (k1.trans k2)⟩
    | _ => exact q1.elim⟩
end
section
variable {P : Program} {w : World} {K : PySem.W.Frag} {mg : Str → Option Value} {base : Heap}
theorem okS_ofX {ct : Nat → Addr} {x qual : Str} {st : Stmt} {f : Addr} {fd : FuncData} {N qs ks : List Str} {pv : Str} {n k : Nat} {t : EY → SV} {dz : List V} {du : List Value} (F : Fun K x qual st f fd) (S : FnScope N (qs ++ [pv]) (defScope st)) (hN : (qs ++ [pv]).length ≤ N.length) (hb : BndS K fd n ks qs pv du) (hdz : Vals dz du) (hl : qs.length = n + (ks.length + du.length))
    (body : ∀ (cdv : Value) (A : Around) (outer : List Env) (s : Shared) (H : Hp) (E : XK) [PP] (Y : EY), L2.Takes (cxOf (L2.CX P w) P w K mg base N qual (defScope st) f cdv A outer s H E) (lW K ct Y) →
      Room k (A.deeper (envOfC qual (defScope st) s.heap.objs.size f cdv)) → (A.deeper (envOfC qual (defScope st) s.heap.objs.size f cdv)).guards = some [] →
      DSs (cxOf (L2.CX P w) P w K mg base N qual (defScope st) f cdv A outer s H E) (defBody st) (t Y)) : FnS P w K mg base (k + 1) f n ks dz (lF K ct (fvx (qs ++ [pv]).length N.length t)) := by
  refine FnS.of F S hb hdz hl fun cdv A outer s H vs Q E hr hg hln ⟨ds, g, Q0, E0, rv, rg, ⟨e, q⟩, k1, k2⟩ => ?_
  letI : PP := ⟨fun _ g' H' => Keep g H g' H', fun _ a b => a.trans b⟩
  have tk := (L2.takes_of (X := cxOf (L2.CX P w) P w K mg base N qual (defScope st) f cdv A outer s H E) rfl rfl rfl rfl).imp (W' := lW K ct fun c fs _ g' => E0 c fs g')
    fun cls d σ H' ⟨c, fs, ε, g', z, xr, _, rg'⟩ => k2 c fs g' cls d H' z xr rg'.st rg'.pp
  exact ⟨_, body cdv A outer s H E _ tk hr hg, startD N.length ds, g, _, start_rs rv (by omega), ⟨rg, Keep.refl _ _⟩, q,
    ⟨fun _ g' _ H' q _ r k => k1 _ _ _ _ q .non r.st k, fun _ _ _ _ q a r k => k1 _ _ _ _ q a r.st k, fun _ _ _ _ z => z.elim, fun _ _ _ _ z => z.elim⟩⟩
end
def eCallSX (φ : FV) (n : Nat) (dd : List D) (E : EY) (t : AV) : EV := fun ε g Q => t ε g fun ds g1 => n ≤ ds.length ∧ ds.length ≤ sizeLine ∧ φ (ds.take n ++ dd ++ [.tup (ds.drop n)]) g1 Q fun c fs g2 => E c fs ε g2
def tCallSX (sp : Sp) (n : Nat) (dz : List V) (E : L2.St → XK) (t : TA) : TE := fun σ H Q => t σ H fun vs H1 => n ≤ vs.length ∧ vs.length ≤ sizeLine ∧ ∀ p, H1 p = none → sp (vs.take n ++ dz ++ [.ref p]) (upd H1 p (.tup (vs.drop n))) Q (E σ)
section
variable {X : Cx} {k n : Nat} {f : Addr} {dz : List V} {sp : Sp} {E : L2.St → XK} {x : Str} {p pos : Pos} {e : Expr} {es : List Expr} {t : TA}
theorem pe_callSX (F : FnS X.prog X.w X.K X.mg X.base k f n [] dz sp) (hr : Room k X.A) (hgd : X.A.guards = some []) (hg : Gl X x) (hm : X.mg x = some (.ref f)) (hk : PySem.W.keepIn X.K (.ref f) = true) (hx : ∀ σ, PassG X σ (E σ))
    (ha : PA X (e :: es) t) (hdb : (x == ("__debug__" : Str)) = false := by decide +kernel) (he : starEach (e :: es) X.env = (false, eval e X.env) :: starEach es X.env := by rfl) (hpl : (backTo pos (starEach es X.env)).any (·.1) = false := by rfl) :
    PE X (.Call (.Name x p) (e :: es) [] pos) (tCallSX sp n dz E t) := ⟨fun pins s σ H Q I h => by
  refine wpAny_Call_Name_kw (ld_glob I hg hm ?_ hdb)
  refine PySem.W.callWith_K (h₀ := X.base) I.ok.mod.kin hk (thn (ha.run pos pins s σ H _ I h) fun us s1 ⟨vs, H1, I1, r, q0, q1, q2⟩ => ⟨I1.kIn, ?_⟩) he hpl
  exact run_S (ws := []) (zs := []) F hr hgd (hx σ) I1 r .nil rfl q0 q1 q2⟩
theorem pe_callSX0 (F : FnS X.prog X.w X.K X.mg X.base k f n [] dz sp) (hr : Room k X.A) (hgd : X.A.guards = some []) (hg : Gl X x) (hm : X.mg x = some (.ref f)) (hk : PySem.W.keepIn X.K (.ref f) = true) (hx : ∀ σ, PassG X σ (E σ))
    (hdb : (x == ("__debug__" : Str)) = false := by decide +kernel) : PE X (.Call (.Name x p) [] [] pos) (tCallSX sp n dz E tNil) := ⟨fun pins s σ H Q I h => by
  refine wpAny_Call_Name_kw (ld_glob I hg hm ?_ hdb)
  refine PySem.W.callWith_K0 I.kIn hk ?_
  obtain ⟨q0, q1, q2⟩ := h
  exact run_S (us := []) (ws := []) (vs := []) (zs := []) F hr hgd (hx σ) I .nil .nil rfl q0 q1 q2⟩
end
section
variable [PP] {X : Cx} {k j n : Nat} {ct : Nat → Addr} {dd : List D} {φ : FV} {x : Str} {p pos : Pos} {e : Expr} {es : List Expr} {t : AV} {E : EY}
theorem d_calSX (tk : L2.Takes X (lW X.K ct E)) (C : CalS X.prog X.w X.K X.mg X.base ct x j n [] dd φ) (hj : j ≤ k) (hr : Room k X.A) (hgd : X.A.guards = some []) (hg : Gl X x) (ha : DA X (e :: es) t)
    (hdb : (x == ("__debug__" : Str)) = false := by decide +kernel) (he : starEach (e :: es) X.env = (false, eval e X.env) :: starEach es X.env := by rfl) (hpl : (backTo pos (starEach es X.env)).any (·.1) = false := by rfl) :
    DE X (.Call (.Name x p) (e :: es) [] pos) (eCallSX φ n dd E t) := by
  obtain ⟨f, dz, a, b, c, d⟩ := C.ex
  refine PE.imp (pe_callSX (E := fun σ cls d H => lW X.K ct E cls d σ H) (a.mono hj) hr hgd hg b c (fun σ pins H s e s' I z => tk e s' (XE.of_call I (fun _ _ _ h => h) z)) ha hdb he hpl) fun σ H Q ⟨ε, g, Q0, rs, rg, q, kk⟩ => ?_
  refine ⟨ε, g, _, rs, rg, q, fun ds g2 vs H2 q2 rv rg2 k2 => ?_⟩
  obtain ⟨a, b, c⟩ := q2
  refine ⟨by rw [← rv.length]; exact a, by rw [← rv.length]; exact b, fun p hp => ?_⟩
  have k3 : Keep g2 H2 g2 (upd H2 p (.tup (vs.drop n))) := keep_new hp _
  have rv2 := rv.keep rg2 k3
  have rg3 : RG X.K g2 (upd H2 p (.tup (vs.drop n))) := rg2.tupNew hp
  exact ⟨_, g2, Q0, _, ((rv2.take n).append (d _)).append (.cons (.tup (.inl upd_same) (rv2.drop n)) .nil), rg3.st, c, fun d g' v H' q rv' rg' k' => kk _ _ _ _ q rv' (rg3.move k' rg') (k2.trans (k3.trans k')),
    fun c fs g' cls dx H' z xr rg' k' => ⟨c, fs, ε, g', z, xr, ((rs.keep rg k2).keep rg2 k3).keep rg3 k', rg3.move k' rg'⟩⟩
theorem d_calSX0 (tk : L2.Takes X (lW X.K ct E)) (C : CalS X.prog X.w X.K X.mg X.base ct x j n [] dd φ) (hj : j ≤ k) (hr : Room k X.A) (hgd : X.A.guards = some []) (hg : Gl X x)
    (hdb : (x == ("__debug__" : Str)) = false := by decide +kernel) : DE X (.Call (.Name x p) [] [] pos) (eCallSX φ n dd E aNil) := by
  obtain ⟨f, dz, a, b, c, d⟩ := C.ex
  refine PE.imp (pe_callSX0 (E := fun σ cls d H => lW X.K ct E cls d σ H) (a.mono hj) hr hgd hg b c (fun σ pins H s e s' I z => tk e s' (XE.of_call I (fun _ _ _ h => h) z)) hdb) fun σ H Q ⟨ε, g, Q0, rs, rg, ⟨a, b, c⟩, kk⟩ => ?_
  refine ⟨a, b, fun p hp => ?_⟩
  have k3 : Keep g H g (upd H p (.tup (([] : List V).drop n))) := keep_new hp _
  have rg3 : RG X.K g (upd H p (.tup (([] : List V).drop n))) := rg.tupNew hp
  have rv2 : RVs X.K (upd H p (.tup (([] : List V).drop n))) [] [] := .nil
  exact ⟨_, g, Q0, _, ((rv2.take n).append (d _)).append (.cons (.tup (.inl upd_same) (rv2.drop n)) .nil), rg3.st, c, fun d g' v H' q rv' rg' k' => kk _ _ _ _ q rv' (rg3.move k' rg') (k3.trans k'),
    fun c fs g' cls dx H' z xr rg' k' => ⟨c, fs, ε, g', z, xr, (rs.keep rg k3).keep rg3 k', rg3.move k' rg'⟩⟩
end
end LF
namespace LF
open PySem PySem.Spec PyProof.Rows L2
variable [PP]
variable {X : Cx}
theorem cd_strM {kk : Nat} {A : Around} (hr : Room kk A) (he : X.A.units = A.units) (hgd : X.A.guards = some []) : CallD X (.type "str") rStrU := by
  intro pins s σ H vs us Q I r ⟨g, ds, Q0, rg, rv, q, k⟩
  unfold rStrU at q
  split at q
  · obtain ⟨v, rfl, a⟩ := one_rv rv
    cases a
    exact call_str_int pins s σ H _ us Q I r ⟨_, rfl, q.1, k _ g _ H q.2 (.str _) rg (Keep.refl _ _)⟩
  · obtain ⟨v, rfl, a⟩ := one_rv rv
    obtain ⟨p, d, b, hd, hs, h1, h2, q⟩ := q
    have hu := hr.un
    have hdp := hs.dep
    have fin := k _ g _ H q (.str p.shown) rg (Keep.refl _ _)
    obtain ⟨u, rfl, ru⟩ := Vals.one r
    obtain ⟨as, rr⟩ := Dp.reads I _ _ _ (hd.dp rg a) ru
    cases a
    cases ru
    exact PySem.str_of_reads rr hs.show_ (fun z => by rw [hs.nod] at z; cases z) hgd (by rw [he]; omega) (fun _ _ z => z) (fun h' u tk hk => ⟨.str _, H, I.kept hk, ⟨_, rfl⟩, fin⟩) (PyData.shown_fits_bulk (by decide) (by decide) hs.short (Nat.le_trans hs.blk (Nat.le_trans h2 (by decide))))
  · exact q.elim
end LF
set_option maxHeartbeats 1000000
namespace LF
open PySem PySem.Spec PyProof.Rows L2
variable [PP]
/-- a method of a text with one argument -/
def eS1 (r : Str → D → G → (D → G → Prop) → Prop) (to te : EV) : EV := fun ε g Q => to ε g fun x g1 => match x with
  | .str a => te ε g1 fun y g2 => r a y g2 Q
  | _ => False
def rSplit (a : Str) (y : D) (g : G) (Q : D → G → Prop) : Prop := match y with
  | .str b => (b.length == 0) = false ∧ a.length + 2 ≤ sizeLine ∧ ∀ p, g p = none → Q (.ref p) (gset g p (.lst ((Txt.split a b).map D.str)))
  | _ => False
def rJoin (a : Str) (y : D) (g : G) (Q : D → G → Prop) : Prop := match y with
  | .ref p => ∃ ys : List Str, g p = some (.lst (ys.map D.str)) ∧ (ys.map (·.length)).sum + ys.length * a.length ≤ 16777216 ∧ Q (.str (Txt.join a ys)) g
  | _ => False
def rPart (a : Str) (y : D) (g : G) (Q : D → G → Prop) : Prop := match y with
  | .str b => (b.length == 0) = false ∧ a.length ≤ sizeLine ∧ Q (.tup [.str (Txt.partition a b).1, .str (Txt.partition a b).2.1, .str (Txt.partition a b).2.2]) g
  | _ => False
theorem rvs_ofStrs {K : PySem.W.Frag} {H : Hp} : ∀ l : List Str, RVs K H (l.map D.str) (l.map V.str)
  | [] => .nil
  | x :: l => .cons (.str x) (rvs_ofStrs l)
section
variable {X : Cx} {o e : Expr} {to te : EV} {apos pos : Pos}
theorem d_split (ho : DE X o to) (he : DE X e te) (hs : starEach [e] X.env = [(false, eval e X.env)] := by rfl) (hbase : attributeBase o "split" X.env (eval o X.env) = eval o X.env := by rfl) (hline : (apos.endLine == pos.line) = true := by rfl) :
    DE X (.Call (.Attribute o "split" apos) [e] [] pos) (eS1 rSplit to te) :=
  PE.imp (pe_split ho he hs hbase hline) fun σ H Q ⟨ε, g, Q0, rs, rg, q, k⟩ => ⟨ε, g, _, rs, rg, q, fun d g1 v H1 q1 rv rg1 k1 => by
    cases d <;> first | exact q1.elim | skip
    cases rv
    refine ⟨⟨_, rfl⟩, ε, g1, _, rs.keep rg k1, rg1, q1, fun d2 g2 v2 H2 q2 rv2 rg2 k2 => ?_⟩
    cases d2 <;> first | exact q2.elim | skip
    cases rv2
    obtain ⟨hb, hz, q3⟩ := q2
    exact ⟨_, _, rfl, rfl, hb, hz, fun p hp => fin_lst rg2 (rvs_ofStrs _) q3 (fun d g' v H' q rv rg' k' => k _ _ _ _ q rv rg' (k1.trans (k2.trans k'))) p hp⟩⟩
theorem d_join (ho : DE X o to) (he : DE X e te) (hs : starEach [e] X.env = [(false, eval e X.env)] := by rfl) (hbase : attributeBase o "join" X.env (eval o X.env) = eval o X.env := by rfl) (hline : (apos.endLine == pos.line) = true := by rfl) :
    DE X (.Call (.Attribute o "join" apos) [e] [] pos) (eS1 rJoin to te) :=
  PE.imp (pe_join ho he hs hbase hline) fun σ H Q ⟨ε, g, Q0, rs, rg, q, k⟩ => ⟨ε, g, _, rs, rg, q, fun d g1 v H1 q1 rv rg1 k1 => by
    cases d <;> first | exact q1.elim | skip
    cases rv
    refine ⟨⟨_, rfl⟩, ε, g1, _, rs.keep rg k1, rg1, q1, fun d2 g2 v2 H2 q2 rv2 rg2 k2 => ?_⟩
    cases d2 <;> first | exact q2.elim | skip
    cases rv2
    obtain ⟨ys, e1, hz, q3⟩ := q2
    obtain ⟨vs, e2, rvs⟩ := rg2.st _ _ e1
    have e3 := RVs.strs rvs
    subst e3
    exact ⟨_, _, ys, rfl, rfl, .inl (.of e2), hz, k _ _ _ _ q3 (.str _) rg2 (k1.trans k2)⟩⟩
theorem d_part (ho : DE X o to) (he : DE X e te) (hs : starEach [e] X.env = [(false, eval e X.env)] := by rfl) (hbase : attributeBase o "partition" X.env (eval o X.env) = eval o X.env := by rfl) (hline : (apos.endLine == pos.line) = true := by rfl) :
    DE X (.Call (.Attribute o "partition" apos) [e] [] pos) (eS1 rPart to te) :=
  PE.imp (pe_partition ho he hs hbase hline) fun σ H Q ⟨ε, g, Q0, rs, rg, q, k⟩ => ⟨ε, g, _, rs, rg, q, fun d g1 v H1 q1 rv rg1 k1 => by
    cases d <;> first | exact q1.elim | skip
    cases rv
    refine ⟨⟨_, rfl⟩, ε, g1, _, rs.keep rg k1, rg1, q1, fun d2 g2 v2 H2 q2 rv2 rg2 k2 => ?_⟩
    cases d2 <;> first | exact q2.elim | skip
    cases rv2
    obtain ⟨hb, hz, q3⟩ := q2
    exact ⟨_, _, rfl, rfl, hb, hz, fun p hp => fin_tup rg2 (.cons (.str _) (.cons (.str _) (.cons (.str _) .nil))) q3 (fun d g' v H' q rv rg' k' => k _ _ _ _ q rv rg' (k1.trans (k2.trans k'))) p hp⟩⟩
end
def rIntS : RL := fun xs g Q => match xs with
  | [.str a] => ∃ n, PySem.intText? a = some n ∧ a.length ≤ 640 ∧ Q (.int n) g
  | _ => False
section
variable {X : Cx}
theorem cd_intS : CallD X (.type "int") rIntS := by
  intro pins s σ H vs us Q I r ⟨g, ds, Q0, rg, rv, q, k⟩
  unfold rIntS at q
  split at q
  · obtain ⟨v, rfl, a⟩ := one_rv rv
    cases a
    obtain ⟨n, h1, h2, q⟩ := q
    exact call_int_str pins s σ H _ us Q I r ⟨_, n, rfl, h1, h2, k _ g _ H q (.int _) rg (Keep.refl _ _)⟩
  · exact q.elim
def rSgIn (f : Bool → Bool) : RR := fun x y g Q => match x, y with
  | .str s, .str z => ∃ c : Nat, s = ⟨#[c]⟩ ∧ Q (.bl (f (decide (c ∈ z.cps.toList)))) g
  | _, _ => False
theorem od_sgIn : OpD X (compareOp .In) (rSgIn fun b => b) := by
  intro pins s σ H x y u w Q I rx ry ⟨g, dx, dy, Q0, rg, r1, r2, q, k⟩
  cases r1 <;> first | exact q.elim | skip
  cases r2 <;> first | exact q.elim | skip
  obtain ⟨c, rfl, q⟩ := q
  exact op_in_sign pins s σ H _ _ u w Q I rx ry ⟨c, _, rfl, rfl, k _ g _ H q (.bl _) rg (Keep.refl _ _)⟩
def rMulS : RR := fun x y g Q => match x, y with
  | .str a, .int n => MulOk a n ∧ Q (.str (Txt.mul a n)) g
  | _, _ => False
theorem od_mulS : OpD X (binaryOp .Mult) rMulS := by
  intro pins s σ H x y u w Q I rx ry ⟨g, dx, dy, Q0, rg, r1, r2, q, k⟩
  cases r1 <;> first | exact q.elim | skip
  cases r2 <;> first | exact q.elim | skip
  obtain ⟨ok, q⟩ := q
  obtain ⟨t, rfl⟩ := rx
  obtain ⟨t', rfl⟩ := ry
  exact PySem.SB.mul ok fun t2 kk => ⟨.str _, H, I.tok _, ⟨_, rfl⟩, k _ g _ H q (.str _) rg (Keep.refl _ _)⟩
end
def signsD (x : Str) : List D := x.cps.toList.map fun c => D.str ⟨#[c]⟩
def iStrD (t : EV) : IV := fun ε g R => t ε g fun x g1 => match x with
  | .str a => R (signsD a) (fun _ => True) g1
  | _ => False
theorem itok_str {K : PySem.W.Frag} {g0 : G} {H0 : Hp} (x : Str) : ItOk K g0 H0 (signsD x) (fun _ => True) (Its x) := fun g H rg k _ => by
  have hl : (signsD x).length = x.cps.size := by unfold signsD; rw [List.length_map, Array.length_toList]
  refine ⟨Nat.le_of_eq hl.symm, fun i hi => ⟨by rw [hl] at hi; exact hi, ?_⟩⟩
  rintro v H' ⟨rfl, c, hc, rfl⟩
  refine ⟨.str ⟨#[c]⟩, ?_, .str _, rg, Keep.refl _ _⟩
  unfold signsD
  rw [List.getElem?_map, Array.getElem?_toList, hc]
  rfl
section
variable {X : Cx} {tg l : Expr} {t : EV}
theorem i_str (hl : DE X l t) : DI X tg l (iStrD t) :=
  PI.imp (pi_str hl) fun σ H R ⟨ε, g, R0, rs, rg, q, k⟩ => ⟨ε, g, _, rs, rg, q, fun d g1 v H1 q1 rv rg1 k1 => by
    cases d <;> first | exact q1.elim | skip
    cases rv
    exact ⟨_, rfl, k _ _ _ _ _ q1 rg1 k1 (itok_str _)⟩⟩
end
section
variable {X : Cx} {a b : Expr} {ta tb : EV} {rest : List Expr} {pos : Pos}
def eOrT (ta tb : EV) : EV := fun ε g Q => ta ε g fun x g1 => match x with
  | .str y => y.length ≤ sizeLine ∧ if y.length = 0 then tb ε g1 Q else Q (.str y) g1
  | _ => False
theorem d_orT (ha : DE X a ta) (hb : DE X (.BoolOp .Or (b :: rest) pos) tb) : DE X (.BoolOp .Or (a :: b :: rest) pos) (eOrT ta tb) :=
  PE.imp (pe_orT ha hb) fun σ H Q ⟨ε, g, Q0, rs, rg, q, k⟩ => ⟨ε, g, _, rs, rg, q, fun d g1 v H1 q1 rv rg1 k1 => by
    cases d <;> first | exact q1.elim | skip
    rename_i y
    cases rv
    obtain ⟨hz, q1⟩ := q1
    refine ⟨!decide (y.length = 0), ?_, ?_⟩
    · refine ⟨hz, ?_⟩
      by_cases e : y.length = 0
      · rw [e]; rfl
      · have e2 : ((y.length : Int) == 0) = false := by rw [beq_eq_false_iff_ne]; omega
        show (!decide (y.length = 0)) = !((y.length : Int) == 0)
        rw [e2, decide_eq_false e]
    · by_cases e : y.length = 0
      · rw [if_pos e] at q1
        rw [if_neg (by simp [e])]
        exact ⟨ε, g1, Q0, rs.keep rg k1, rg1, q1, fun d g' v H' q rv rg' k' => k _ _ _ _ q rv rg' (k1.trans k')⟩
      · rw [if_neg e] at q1
        rw [if_pos (by simp [e])]
        exact k _ _ _ _ q1 (.str _) rg1 k1⟩
end
end LF
namespace LW
open PySem PySem.Spec PyProof.Rows L2 LF
def inner (s : Stmt) (j : Nat) : Stmt := match s with | .ClassDef _ _ _ b _ _ _ _ _ _ _ => b.getD j (.Pass ⟨0, 0, 0, 0⟩) | _ => .Pass ⟨0, 0, 0, 0⟩
def top (i : Nat) : Stmt := PySem.Challenge.pw_linkforests_k71_texts_written_and_parsed.main.body.getD i (.Pass ⟨0, 0, 0, 0⟩)
structure Txt (mg : Str → Option Value) : Prop where
  b_abs : mg "abs" = none
  b_all : mg "all" = none
  b_bool : mg "bool" = none
  b_enumerate : mg "enumerate" = none
  b_int : mg "int" = none
  b_isinstance : mg "isinstance" = none
  b_len : mg "len" = none
  b_list : mg "list" = none
  b_range : mg "range" = none
  b_repr : mg "repr" = none
  b_sorted : mg "sorted" = none
  b_str : mg "str" = none
  b_tuple : mg "tuple" = none
  k_DIGITS : ∃ t, mg "DIGITS" = some (.str "0123456789" t)
  k_JOINED : ∃ t, mg "JOINED" = some (.str "history" t)
  k_LONGEST : ∃ t, mg "LONGEST" = some (.int 13 t)
  k_MAX_VERTICES : ∃ t, mg "MAX_VERTICES" = some (.int 24 t)
  k_NONE : ∃ t, mg "NONE" = some (.str "none" t)
  k_OVERWEIGHT : ∃ t, mg "OVERWEIGHT" = some (.str "heavy" t)
abbrev s_ini0 : Stmt := inner (top 3) 0
structure Txe (P : Program) (w : World) (K : PySem.W.Frag) (mg : Str → Option Value) (base : Heap) (ct cl : Nat → Addr) : Prop where
  r_0 : Ex1 P w K mg base "BadText" "index" (ct 0)
  xf : ∀ c, c < 1 → XfC K (ct c)
  c_0 : mg "BadText" = some (.ref (cl 0))
  is_0 : IsF K ct (.ref (cl 0)) [true]
  cat_0 : ∀ c b, ([true] : List Bool)[c]? = some b → PySem.W.exmOne K (.ref (ct c)) (.ref (cl 0)) = some b
  is_ve : IsF K ct (.type "ValueError") [true]
  xc : ∀ c, c < 1 → L2.ExcC K (ct c)
abbrev s_is_integer : Stmt := top 5
/-- is_integer: 0 value, 1 low, 2 high -/
theorem sc_is_integer : FnScope ["value", "low", "high"] ["value", "low", "high"] (defScope s_is_integer) := ⟨rfl, rfl, rfl, by decide +kernel, rfl, by decide +kernel, by decide +kernel⟩
def m_is_integer : SV :=
    (sRet (eAnd (eIsi .int (eVar 0)) (eAnd (eNot (eIsi .bool (eVar 0))) (eChain (rIB fun i j => decide (i ≤ j)) (rIB fun i j => decide (i ≤ j)) (eVar 1) (eVar 0) (eVar 2)))))
def f_is_integer : FV := fv 3 3 m_is_integer
abbrev s_parse_integer : Stmt := top 14
/-- parse_integer: 0 part, 1 sign -/
theorem sc_parse_integer : FnScope ["part", "sign"] ["part"] (defScope s_parse_integer) := ⟨rfl, rfl, rfl, by decide +kernel, rfl, by decide +kernel, by decide +kernel⟩
def m_parse_integer : SV :=
    (sSeq (sIf (bOr (bNot (bVal (eChain (rIB fun i j => decide (i ≤ j)) (rIB fun i j => decide (i ≤ j)) (eC (.int 1)) (eArg (rLen) (aCons (eVar 0) aNil)) (eC (.int 13))))) (bNot (bVal (eArg (rAll) (aCons (eLc (iStrD (eVar 0)) (gName 1) bYes (eBin (rSgIn fun b => b) (eVar 1) (eC (.str "0123456789"))) [1]) aNil))))) (sRet (eC .non)) sNext)
    (sRet (eIf (bAnd (bVal (eBin (rEqd) (eBin rIxd (eVar 0) (eC (.int 0))) (eC (.str "0")))) (bVal (eBin (rNed) (eVar 0) (eC (.str "0"))))) (eC .non) (eArg (rIntS) (aCons (eVar 0) aNil)))))
def f_parse_integer : FV := fv 1 2 m_parse_integer
abbrev s_parse_parts : Stmt := top 15
/-- parse_parts: 0 value, 1 is_free, 2 found, 3 index, 4 part, 5 number, 6 is_right -/
theorem sc_parse_parts : FnScope ["value", "is_free", "found", "index", "part", "number", "is_right"] ["value", "is_free"] (defScope s_parse_parts) := ⟨rfl, rfl, rfl, by decide +kernel, rfl, by decide +kernel, by decide +kernel⟩
def m_parse_parts (Y : EY) : SV :=
    (sSeq (sIf (bNot (bVal (eIsi .str (eVar 0)))) (sRaise1 0 "index" Y (eC .non)) sNext)
    (sSeq (sSet 2 (eArg rLst aNil))
    (sSeq (sFor (iEnum (aCons (eS1 rSplit (eVar 0) (eC (.str " "))) aNil)) (gTup 2 (gCons (gName 3) (gCons (gName 4) gNil))) (sSeq (sSet 5 (eCall f_parse_integer (aCons (eVar 4) aNil)))
    (sSeq (sSet 6 (eAnd (eCall f_is_integer (aCons (eVar 5) (aCons (eC (.int 0)) (aCons (eBin (rII (fun _ _ => True) fun i j => i - j) (eC (.int 24)) (eC (.int 1))) aNil)))) (eOr (eVar 1) (eBin (rInF true) (eVar 5) (eVar 2)))))
    (sSeq (sIf (bOr (bNot (bTru (eVar 6))) (bVal (eBin (rIB fun i j => decide (j ≤ i)) (eVar 3) (eC (.int 24))))) (sRaise1 0 "index" Y (eVar 3)) sNext)
    (sDrop (eM rApp (eVar 2) (aCons (eVar 5) aNil)))))))
    (sRet (eArg (rTupOf) (aCons (eVar 2) aNil))))))
def f_parse_parts : FV := fvx 2 7 m_parse_parts
abbrev s_parse_vertices : Stmt := top 19
/-- parse_vertices: 0 value -/
theorem sc_parse_vertices : FnScope ["value"] ["value"] (defScope s_parse_vertices) := ⟨rfl, rfl, rfl, by decide +kernel, rfl, by decide +kernel, by decide +kernel⟩
def m_parse_vertices (Y : EY) : SV :=
    (sRet (eIf (bAnd (bVal (eIsi .str (eVar 0))) (bVal (eBin (rEqd) (eVar 0) (eC (.str "none"))))) (eArg rTup aNil) (eCallX f_parse_parts Y (aCons (eVar 0) (aCons (eC (.bl false)) aNil)))))
def f_parse_vertices : FV := fvx 1 1 m_parse_vertices
abbrev s_parse_certificate : Stmt := top 21
/-- parse_certificate: 0 value, 1 word, 2 space, 3 rest, 4 vertices -/
theorem sc_parse_certificate : FnScope ["value", "word", "space", "rest", "vertices"] ["value"] (defScope s_parse_certificate) := ⟨rfl, rfl, rfl, by decide +kernel, rfl, by decide +kernel, by decide +kernel⟩
def m_parse_certificate : SV :=
    (sSeq (sAsg (eIf (bVal (eIsi .str (eVar 0))) (eS1 rPart (eVar 0) (eC (.str " "))) (eArg rTup (aCons (eC (.str "")) (aCons (eC (.str "")) (aCons (eC (.str "")) aNil))))) (gTup 3 (gCons (gName 1) (gCons (gName 2) (gCons (gName 3) gNil)))))
    (sSeq (sIf (bVal (eBin (rInF true) (eVar 1) (eArg rTup (aCons (eC (.str "history")) (aCons (eC (.str "heavy")) aNil))))) sNever sNext)
    (sSeq (sIf (bVal (eBin (rEqd) (eVar 2) (eC (.str "")))) sNever sNext)
    (sSeq (sTryOnly (fun c => [true][c]?) sNever (fun Y => (sSet 4 (eCallX f_parse_vertices Y (aCons (eVar 3) aNil)))) (fun _ _ _ _ => False))
    (sSeq (sIf (bVal (eBin (rEqd) (eVar 1) (eC (.str "history")))) (sRet (eArg rTup (aCons (eC (.str "history")) (aCons (eVar 4) aNil)))) sNext)
    (sSeq (sIf (bVal (eBin (rNed) (eArg (rLen) (aCons (eVar 4) aNil)) (eC (.int 1)))) sNever sNext)
    (sRet (eArg rTup (aCons (eC (.str "heavy")) (aCons (eBin rIxd (eVar 4) (eC (.int 0))) aNil))))))))))
def f_parse_certificate : FV := fv 1 5 m_parse_certificate
abbrev s_vertices_text : Stmt := top 18
/-- vertices_text: 0 vertices, 1 vertex -/
theorem sc_vertices_text : FnScope ["vertices", "vertex"] ["vertices"] (defScope s_vertices_text) := ⟨rfl, rfl, rfl, by decide +kernel, rfl, by decide +kernel, by decide +kernel⟩
def m_vertices_text : SV :=
    (sRet (eOrT (eS1 rJoin (eC (.str " ")) (eLc (iSeq (eVar 0)) (gName 1) bYes (eArg (rStrU) (aCons (eVar 1) aNil)) [1])) (eC (.str "none"))))
def f_vertices_text : FV := fv 1 2 m_vertices_text
abbrev s_certificate_text : Stmt := top 20
/-- certificate_text: 0 certificate, 1 word, 2 shown -/
theorem sc_certificate_text : FnScope ["certificate", "word", "shown"] ["certificate"] (defScope s_certificate_text) := ⟨rfl, rfl, rfl, by decide +kernel, rfl, by decide +kernel, by decide +kernel⟩
def m_certificate_text : SV :=
    (sSeq (sAsg (eVar 0) (gTup 2 (gCons (gName 1) (gCons (gName 2) gNil))))
    (sRet (eBin (rAdd) (eBin (rAdd) (eVar 1) (eC (.str " "))) (eIf (bVal (eBin (rEqd) (eVar 1) (eC (.str "history")))) (eCall f_vertices_text (aCons (eVar 2) aNil)) (eArg (rStrU) (aCons (eVar 2) aNil))))))
def f_certificate_text : FV := fv 1 3 m_certificate_text
abbrev s__law_pull : Stmt := top 24
/-- _law_pull: 0 _law_well_here, 1 _law_many, 2 _law_rest -/
theorem sc__law_pull : FnScope ["_law_well_here", "_law_many", "_law_rest"] ["_law_well_here", "_law_many"] (defScope s__law_pull) := ⟨rfl, rfl, rfl, by decide +kernel, rfl, by decide +kernel, by decide +kernel⟩
def m__law_pull : SV :=
    (sSeq (sWhile (bVal (eBin (rNed) (eBin rIxd (eVar 0) (eC (.int 0))) (eArg rLst aNil))) (sSeq (sSet 2 (eM0 rPop (eBin rIxd (eVar 0) (eC (.int 0)))))
    (sIf (bVal (eBin (rIB fun i j => decide (j < i)) (eVar 2) (eC (.int 0)))) (sSeq (sDrop (eM rApp (eBin rIxd (eVar 0) (eC (.int 0))) (aCons (eBin (rII CDivW fun i j => i / j) (eVar 2) (eVar 1)) aNil)))
    (sRet (eBin (rII (fun _ j => 0 < j) fun i j => i % j) (eVar 2) (eVar 1)))) sNext)))
    (sSeq (sAsg (eBin (rII (fun _ j => 0 < j) fun i j => i % j) (eBin (rAdd) (eBin (rMulB) (eBin rIxd (eVar 0) (eC (.int 1))) (eC (.int 6364136223846793005))) (eC (.int 1442695040888963407))) (eBin (rII CPow fun i j => i ^ j.toNat) (eC (.int 2)) (eC (.int 64)))) (gSub rSetd (eVar 0) (eC (.int 1))))
    (sRet (eBin (rII (fun _ j => 0 < j) fun i j => i % j) (eBin (rII CDivW fun i j => i / j) (eBin rIxd (eVar 0) (eC (.int 1))) (eBin (rII CPow fun i j => i ^ j.toNat) (eC (.int 2)) (eC (.int 33)))) (eVar 1)))))
def f__law_pull : FV := fv 2 3 m__law_pull
abbrev s_leads_to_root : Stmt := top 6
/-- leads_to_root: 0 parents, 1 vertex, 2 step -/
theorem sc_leads_to_root : FnScope ["parents", "vertex", "step"] ["parents", "vertex"] (defScope s_leads_to_root) := ⟨rfl, rfl, rfl, by decide +kernel, rfl, by decide +kernel, by decide +kernel⟩
def m_leads_to_root : SV :=
    (sSeq (sFor (iSeq (eVar 0)) (gName 2) (sSeq (sIf (bVal (eBin (rEqd) (eBin rIxd (eVar 0) (eVar 1)) (eVar 1))) (sRet (eC (.bl true))) sNext)
    (sSet 1 (eBin rIxd (eVar 0) (eVar 1)))))
    (sRet (eC (.bl false))))
def f_leads_to_root : FV := fv 2 3 m_leads_to_root
abbrev s_forest_error : Stmt := top 7
/-- forest_error: 0 value, 1 index, 2 parent -/
theorem sc_forest_error : FnScope ["value", "index", "parent"] ["value"] (defScope s_forest_error) := ⟨rfl, rfl, rfl, by decide +kernel, rfl, by decide +kernel, by decide +kernel⟩
def m_forest_error : SV :=
    (sSeq (sIf (bNot (bVal (eIsi .tup (eVar 0)))) (sRet (eArg rTup (aCons (eC .non) (aCons (eC (.str "tuple")) aNil)))) sNext)
    (sSeq (sIf (bNot (bVal (eChain (rIB fun i j => decide (i ≤ j)) (rIB fun i j => decide (i ≤ j)) (eC (.int 1)) (eArg (rLen) (aCons (eVar 0) aNil)) (eC (.int 24))))) (sRet (eArg rTup (aCons (eC .non) (aCons (eC (.str "length")) aNil)))) sNext)
    (sSeq (sFor (iEnum (aCons (eVar 0) aNil)) (gTup 2 (gCons (gName 1) (gCons (gName 2) gNil))) (sIf (bNot (bVal (eCall f_is_integer (aCons (eVar 2) (aCons (eC (.int 0)) (aCons (eBin (rII (fun _ _ => True) fun i j => i - j) (eArg (rLen) (aCons (eVar 0) aNil)) (eC (.int 1))) aNil)))))) (sRet (eArg rTup (aCons (eVar 1) (aCons (eC (.str "parent")) aNil)))) sNext))
    (sSeq (sFor (iRng1 (aCons (eArg (rLen) (aCons (eVar 0) aNil)) aNil)) (gName 1) (sIf (bNot (bVal (eCall f_leads_to_root (aCons (eVar 0) (aCons (eVar 1) aNil))))) (sRet (eArg rTup (aCons (eVar 1) (aCons (eC (.str "cycle")) aNil)))) sNext))
    (sRet (eC .non))))))
def f_forest_error : FV := fv 1 3 m_forest_error
abbrev s_parse_forest : Stmt := top 17
/-- parse_forest: 0 value, 1 found, 2 error -/
theorem sc_parse_forest : FnScope ["value", "found", "error"] ["value"] (defScope s_parse_forest) := ⟨rfl, rfl, rfl, by decide +kernel, rfl, by decide +kernel, by decide +kernel⟩
def m_parse_forest : SV :=
    (sSeq (sSet 1 (eCall f_parse_parts (aCons (eVar 0) (aCons (eC (.bl true)) aNil))))
    (sSeq (sSet 2 (eCall f_forest_error (aCons (eVar 1) aNil)))
    (sSeq (sIf (bVal (eBin (rNotN) (eVar 2) (eC .non))) sNever sNext)
    (sRet (eVar 1)))))
def f_parse_forest : FV := fv 1 3 m_parse_forest
abbrev s_forest_text : Stmt := top 16
/-- forest_text: 0 forest, 1 parent -/
theorem sc_forest_text : FnScope ["forest", "parent"] ["forest"] (defScope s_forest_text) := ⟨rfl, rfl, rfl, by decide +kernel, rfl, by decide +kernel, by decide +kernel⟩
def m_forest_text : SV :=
    (sRet (eS1 rJoin (eC (.str " ")) (eLc (iSeq (eVar 0)) (gName 1) bYes (eArg (rStrU) (aCons (eVar 1) aNil)) [1])))
def f_forest_text : FV := fv 1 2 m_forest_text
abbrev s__law_written : Stmt := top 33
/-- _law_written: 0 _law_items, 1 _law_text, 2 _law_item_here -/
theorem sc__law_written : FnScope ["_law_items", "_law_text", "_law_item_here"] ["_law_items"] (defScope s__law_written) := ⟨rfl, rfl, rfl, by decide +kernel, rfl, by decide +kernel, by decide +kernel⟩
def m__law_written : SV :=
    (sSeq (sSet 1 (eC (.str "")))
    (sSeq (sFor (iSeq (eVar 0)) (gName 2) (sSet 1 (eBin (rAdd) (eBin (rAdd) (eVar 1) (eBin rMulS (eC (.str " ")) (eArg (rInt) (aCons (eBin (rNed) (eVar 1) (eC (.str ""))) aNil)))) (eArg (rStrU) (aCons (eVar 2) aNil)))))
    (sRet (eVar 1))))
def f__law_written : FV := fv 1 3 m__law_written
abbrev s__law_mixed : Stmt := top 26
/-- _law_mixed: 0 _law_well_here, 1 _law_items, 2 _law_rest, 3 _law_found -/
theorem sc__law_mixed : FnScope ["_law_well_here", "_law_items", "_law_rest", "_law_found"] ["_law_well_here", "_law_items"] (defScope s__law_mixed) := ⟨rfl, rfl, rfl, by decide +kernel, rfl, by decide +kernel, by decide +kernel⟩
def m__law_mixed : SV :=
    (sSeq (sPar [2, 3] (aCons (eArg (rLstOf) (aCons (eVar 1) aNil)) (aCons (eArg rLst aNil) aNil)))
    (sSeq (sWhile (bVal (eBin (rNed) (eVar 2) (eArg rLst aNil))) (sDrop (eM rApp (eVar 3) (aCons (eM rPopAt (eVar 2) (aCons (eCall f__law_pull (aCons (eVar 0) (aCons (eArg (rLen) (aCons (eVar 2) aNil)) aNil))) aNil)) aNil))))
    (sRet (eVar 3))))
def f__law_mixed : FV := fv 2 4 m__law_mixed
abbrev s__law_line : Stmt := top 31
/-- _law_line: 0 _law_parents, 1 _law_vertex, 2 _law_found -/
theorem sc__law_line : FnScope ["_law_parents", "_law_vertex", "_law_found"] ["_law_parents", "_law_vertex"] (defScope s__law_line) := ⟨rfl, rfl, rfl, by decide +kernel, rfl, by decide +kernel, by decide +kernel⟩
def m__law_line : SV :=
    (sSeq (sSet 2 (eArg rLst (aCons (eVar 1) aNil)))
    (sSeq (sWhile (bVal (eBin (rNed) (eBin rIxd (eVar 0) (eBin rIxd (eVar 2) (eUn rNeg (eC (.int 1))))) (eBin rIxd (eVar 2) (eUn rNeg (eC (.int 1)))))) (sDrop (eM rApp (eVar 2) (aCons (eBin rIxd (eVar 0) (eBin rIxd (eVar 2) (eUn rNeg (eC (.int 1))))) aNil))))
    (sRet (eVar 2))))
def f__law_line : FV := fv 2 3 m__law_line
abbrev s__law_item : Stmt := top 25
/-- _law_item: 0 _law_well_here, 1 _law_items -/
theorem sc__law_item : FnScope ["_law_well_here", "_law_items"] ["_law_well_here", "_law_items"] (defScope s__law_item) := ⟨rfl, rfl, rfl, by decide +kernel, rfl, by decide +kernel, by decide +kernel⟩
def m__law_item : SV :=
    (sRet (eBin rIxd (eVar 1) (eCall f__law_pull (aCons (eVar 0) (aCons (eArg (rLen) (aCons (eVar 1) aNil)) aNil)))))
def f__law_item : FV := fv 2 2 m__law_item
abbrev s__law_heft : Stmt := top 28
/-- _law_heft: 0 _law_parents, 1 _law_vertex, 2 _law_inside, 3 _law_count, 4 _law_v -/
theorem sc__law_heft : FnScope ["_law_parents", "_law_vertex", "_law_inside", "_law_count", "_law_v"] ["_law_parents", "_law_vertex"] (defScope s__law_heft) := ⟨rfl, rfl, rfl, by decide +kernel, rfl, by decide +kernel, by decide +kernel⟩
def m__law_heft : SV :=
    (sSeq (sAsg (eArg rTup (aCons (eArg rLst (aCons (eVar 1) aNil)) (aCons (eC (.int 0)) aNil))) (gTup 2 (gCons (gName 2) (gCons (gName 3) gNil))))
    (sSeq (sWhile (bVal (eBin (rIB fun i j => decide (i < j)) (eVar 3) (eArg (rLen) (aCons (eVar 2) aNil)))) (sSeq (sSet 2 (eBin (rAdd) (eVar 2) (eLc (iRng1 (aCons (eArg (rLen) (aCons (eVar 0) aNil)) aNil)) (gName 4) (bAnd (bVal (eBin (rEqd) (eBin rIxd (eVar 0) (eVar 4)) (eBin rIxd (eVar 2) (eVar 3)))) (bVal (eBin (rNed) (eVar 4) (eBin rIxd (eVar 0) (eVar 4))))) (eVar 4) [4])))
    (sSet 3 (eBin (rAdd) (eVar 3) (eC (.int 1))))))
    (sRet (eVar 3))))
def f__law_heft : FV := fv 2 5 m__law_heft
abbrev s__law_tops : Stmt := top 27
/-- _law_tops: 0 _law_parents, 1 _law_vertex -/
theorem sc__law_tops : FnScope ["_law_parents", "_law_vertex"] ["_law_parents"] (defScope s__law_tops) := ⟨rfl, rfl, rfl, by decide +kernel, rfl, by decide +kernel, by decide +kernel⟩
def m__law_tops : SV :=
    (sRet (eLc (iRng1 (aCons (eArg (rLen) (aCons (eVar 0) aNil)) aNil)) (gName 1) (bVal (eBin (rEqd) (eBin rIxd (eVar 0) (eVar 1)) (eVar 1))) (eVar 1) [1]))
def f__law_tops : FV := fv 1 2 m__law_tops
abbrev s__law_grown : Stmt := top 29
/-- _law_grown: 0 _law_well_here, 1 _law_most, 2 _law_n, 3 _law_parents, 4 _law_way, 5 _law_turn, 6 _law_tops_here, 7 _law_ranked, 8 _law_k, 9 _law_weight, 10 _law_one, 11 _law_other -/
theorem sc__law_grown : FnScope ["_law_well_here", "_law_most", "_law_n", "_law_parents", "_law_way", "_law_turn", "_law_tops_here", "_law_ranked", "_law_k", "_law_weight", "_law_one", "_law_other"] ["_law_well_here", "_law_most"] (defScope s__law_grown) := ⟨rfl, rfl, rfl, by decide +kernel, rfl, by decide +kernel, by decide +kernel⟩
def m__law_grown : SV :=
    (sSeq (sSet 2 (eBin (rAdd) (eC (.int 1)) (eCall f__law_pull (aCons (eVar 0) (aCons (eVar 1) aNil)))))
    (sSeq (sAsg (eArg rTup (aCons (eRg1 (fun xs g Q => ∀ p, g p = none → Q (.ref p) (gset g p (.lst xs))) (eVar 2)) (aCons (eCall f__law_pull (aCons (eVar 0) (aCons (eC (.int 4)) aNil))) aNil))) (gTup 2 (gCons (gName 3) (gCons (gName 4) gNil))))
    (sSeq (sFor (iRng1 (aCons (eCall f__law_item (aCons (eVar 0) (aCons (eArg rLst (aCons (eBin (rII (fun _ _ => True) fun i j => i - j) (eVar 2) (eC (.int 1))) (aCons (eBin (rII (fun _ _ => True) fun i j => i - j) (eVar 2) (eC (.int 1))) (aCons (eCall f__law_pull (aCons (eVar 0) (aCons (eVar 2) aNil))) aNil)))) aNil))) aNil)) (gName 5) (sSeq (sSet 6 (eCall f__law_mixed (aCons (eVar 0) (aCons (eCall f__law_tops (aCons (eVar 3) aNil)) aNil))))
    (sSeq (sIf (bVal (eBin (rIB fun i j => decide (i < j)) (eVar 4) (eC (.int 2)))) (sSeq (sSet 7 (eArg (rSortP) (aCons (eLc (iRng1 (aCons (eArg (rLen) (aCons (eVar 6) aNil)) aNil)) (gName 8) bYes (eArg rTup (aCons (eCall f__law_heft (aCons (eVar 3) (aCons (eBin rIxd (eVar 6) (eVar 8)) aNil))) (aCons (eVar 8) aNil))) [8]) aNil)))
    (sSet 6 (eBck (eLc (iSeq (eVar 7)) (gTup 2 (gCons (gName 9) (gCons (gName 8) gNil))) bYes (eBin rIxd (eVar 6) (eVar 8)) [9, 8]) (oSo (eBin rIxd (eArg rLst (aCons (eC (.int 1)) (aCons (eUn rNeg (eC (.int 1))) aNil))) (eVar 4)))))) sNext)
    (sSeq (sPar [10, 11] (aCons (eBin rIxd (eVar 6) (eC (.int 0))) (aCons (eBin rIxd (eVar 6) (eC (.int 1))) aNil)))
    (sSeq (sIf (bVal (eBin (rIB fun i j => decide (i < j)) (eCall f__law_heft (aCons (eVar 3) (aCons (eVar 10) aNil))) (eCall f__law_heft (aCons (eVar 3) (aCons (eVar 11) aNil))))) (sPar [10, 11] (aCons (eVar 11) (aCons (eVar 10) aNil))) sNext)
    (sAsg (eVar 10) (gSub rSetd (eVar 3) (eVar 11))))))))
    (sRet (eArg (rTupOf) (aCons (eVar 3) aNil))))))
def f__law_grown : FV := fv 2 12 m__law_grown
abbrev s__law_wild : Stmt := top 30
/-- _law_wild: 0 _law_well_here, 1 _law_most, 2 _law_n, 3 _law_order, 4 _law_parents, 5 _law_often, 6 _law_k, 7 _law_vertex -/
theorem sc__law_wild : FnScope ["_law_well_here", "_law_most", "_law_n", "_law_order", "_law_parents", "_law_often", "_law_k", "_law_vertex"] ["_law_well_here", "_law_most"] (defScope s__law_wild) := ⟨rfl, rfl, rfl, by decide +kernel, rfl, by decide +kernel, by decide +kernel⟩
def m__law_wild : SV :=
    (sSeq (sSet 2 (eBin (rAdd) (eC (.int 1)) (eCall f__law_pull (aCons (eVar 0) (aCons (eVar 1) aNil)))))
    (sSeq (sPar [3, 4] (aCons (eCall f__law_mixed (aCons (eVar 0) (aCons (eRg1 (fun xs g Q => ∀ p, g p = none → Q (.ref p) (gset g p (.lst xs))) (eVar 2)) aNil))) (aCons (eBin (rMulB) (eArg rLst (aCons (eC (.int 0)) aNil)) (eVar 2)) aNil)))
    (sSeq (sSet 5 (eBin (rAdd) (eC (.int 1)) (eCall f__law_pull (aCons (eVar 0) (aCons (eC (.int 6)) aNil)))))
    (sSeq (sFor (iEnum (aCons (eVar 3) aNil)) (gTup 2 (gCons (gName 6) (gCons (gName 7) gNil))) (sAsg (eIf (bOr (bVal (eBin (rEqd) (eVar 6) (eC (.int 0)))) (bAnd (bVal (eBin (rEqd) (eCall f__law_pull (aCons (eVar 0) (aCons (eVar 5) aNil))) (eC (.int 0)))) (bVal (eBin (rIB fun i j => decide (j < i)) (eVar 5) (eC (.int 1)))))) (eVar 7) (eCall f__law_item (aCons (eVar 0) (aCons (eSl (eVar 3) oNo (oSo (eVar 6))) aNil)))) (gSub rSetd (eVar 4) (eVar 7))))
    (sRet (eArg (rTupOf) (aCons (eVar 4) aNil)))))))
def f__law_wild : FV := fv 2 8 m__law_wild
abbrev s__law_forest : Stmt := top 32
/-- _law_forest: 0 _law_well_here, 1 _law_most, 2 _law_way, 3 _law_parents, 4 _law_vertex, 5 _law_other -/
theorem sc__law_forest : FnScope ["_law_well_here", "_law_most", "_law_way", "_law_parents", "_law_vertex", "_law_other"] ["_law_well_here", "_law_most"] (defScope s__law_forest) := ⟨rfl, rfl, rfl, by decide +kernel, rfl, by decide +kernel, by decide +kernel⟩
def m__law_forest : SV :=
    (sSeq (sSet 2 (eCall f__law_pull (aCons (eVar 0) (aCons (eC (.int 4)) aNil))))
    (sSeq (sIf (bVal (eBin (rEqd) (eVar 2) (eC (.int 0)))) (sRet (eCall f__law_wild (aCons (eVar 0) (aCons (eVar 1) aNil)))) sNext)
    (sSeq (sSet 3 (eCall f__law_grown (aCons (eVar 0) (aCons (eVar 1) aNil))))
    (sSeq (sIf (bVal (eBin (rEqd) (eVar 2) (eC (.int 1)))) (sSeq (sPar [4, 5] (aCons (eCall f__law_pull (aCons (eVar 0) (aCons (eArg (rLen) (aCons (eVar 3) aNil)) aNil))) (aCons (eCall f__law_pull (aCons (eVar 0) (aCons (eArg (rLen) (aCons (eVar 3) aNil)) aNil))) aNil)))
    (sIf (bVal (eBin (rInF true) (eVar 4) (eCall f__law_line (aCons (eVar 3) (aCons (eVar 5) aNil))))) (sSet 3 (eBin (rAdd) (eBin (rAdd) (eSl (eVar 3) oNo (oSo (eVar 4))) (eArg rTup (aCons (eVar 5) aNil))) (eSl (eVar 3) (oSo (eBin (rAdd) (eVar 4) (eC (.int 1)))) oNo))) sNext)) sNext)
    (sRet (eVar 3))))))
def f__law_forest : FV := fv 2 6 m__law_forest
abbrev s__law_well : Stmt := top 23
/-- _law_well: 0 _law_script, 1 _law_state, 2 _law_cell -/
theorem sc__law_well : FnScope ["_law_script", "_law_state", "_law_cell"] ["_law_script"] (defScope s__law_well) := ⟨rfl, rfl, rfl, by decide +kernel, rfl, by decide +kernel, by decide +kernel⟩
def m__law_well : SV :=
    (sSeq (sSet 1 (eBin (rAdd) (eC (.int 88172645463325252)) (eBin (rMulB) (eC (.int 977)) (eArg (rLen) (aCons (eVar 0) aNil)))))
    (sSeq (sFor (iSeq (eVar 0)) (gName 2) (sSet 1 (eBin (rII (fun _ j => 0 < j) fun i j => i % j) (eBin (rAdd) (eBin (rAdd) (eBin (rAdd) (eBin (rMulB) (eVar 1) (eC (.int 6364136223846793005))) (eBin (rMulB) (eC (.int 2)) (eArg (rI1 (fun _ => True) fun i => if i < 0 then -i else i) (aCons (eVar 2) aNil)))) (eArg (rInt) (aCons (eBin (rIB fun i j => decide (i < j)) (eVar 2) (eC (.int 0))) aNil))) (eC (.int 1))) (eBin (rII CPow fun i j => i ^ j.toNat) (eC (.int 2)) (eC (.int 64))))))
    (sRet (eArg rLst (aCons (eBck (eLc (iSeq (eVar 0)) (gName 2) (bVal (eBin (rIB fun i j => decide (j ≤ i)) (eArg (rI1 (fun _ => True) fun i => if i < 0 then -i else i) (aCons (eVar 2) aNil)) (eBin (rII CPow fun i j => i ^ j.toNat) (eC (.int 10)) (eC (.int 18))))) (eArg (rI1 (fun _ => True) fun i => if i < 0 then -i else i) (aCons (eVar 2) aNil)) [2]) (oSo (eUn rNeg (eC (.int 1))))) (aCons (eVar 1) aNil))))))
def f__law_well : FV := fv 1 3 m__law_well
abbrev s_law : Stmt := top 34
/-- law: 0 _law_script, 1 _law_well_here, 2 _law_turn, 3 _law_parents, 4 _law_some, 5 _law_texts, 6 _law_vertex, 7 _law_due, 8 _law_text -/
theorem sc_law : FnScope ["_law_script", "_law_well_here", "_law_turn", "_law_parents", "_law_some", "_law_texts", "_law_vertex", "_law_due", "_law_text"] ["_law_script"] (defScope s_law) := ⟨rfl, rfl, rfl, by decide +kernel, rfl, by decide +kernel, by decide +kernel⟩
def m_law : SV :=
    (sSeq (sSet 1 (eCall f__law_well (aCons (eVar 0) aNil)))
    (sSeq (sFor (iRng1 (aCons (eC (.int 8)) aNil)) (gName 2) (sSeq (sSet 3 (eCall f__law_forest (aCons (eVar 1) (aCons (eC (.int 24)) aNil))))
    (sSeq (sSet 4 (eArg (rTupOf) (aCons (eSl (eCall f__law_mixed (aCons (eVar 1) (aCons (eRg1 (fun xs g Q => ∀ p, g p = none → Q (.ref p) (gset g p (.lst xs))) (eC (.int 24))) aNil))) oNo (oSo (eCall f__law_pull (aCons (eVar 1) (aCons (eC (.int 25)) aNil))))) aNil)))
    (sSeq (sSet 5 (eArg rLst (aCons (eCall f__law_written (aCons (eVar 3) aNil)) (aCons (eIf (bVal (eBin (rNed) (eVar 4) (eArg rTup aNil))) (eCall f__law_written (aCons (eVar 4) aNil)) (eC (.str "none"))) aNil))))
    (sSeq (sIf (bVal (eBin (rNed) (eArg (rRep3) (aCons (eArg rLst (aCons (eCall f_forest_text (aCons (eVar 3) aNil)) (aCons (eCall f_vertices_text (aCons (eVar 4) aNil)) aNil))) aNil)) (eArg (rRep3) (aCons (eVar 5) aNil)))) (sRet (eC (.bl false))) sNext)
    (sSeq (sIf (bVal (eBin (rNed) (eArg (rRep3) (aCons (eArg rLst (aCons (eCall f_parse_forest (aCons (eBin rIxd (eVar 5) (eC (.int 0))) aNil)) (aCons (eCall f_parse_vertices (aCons (eBin rIxd (eVar 5) (eC (.int 1))) aNil)) aNil))) aNil)) (eArg (rRep3) (aCons (eArg rLst (aCons (eVar 3) (aCons (eVar 4) aNil))) aNil)))) (sRet (eC (.bl false))) sNext)
    (sSeq (sSet 6 (eCall f__law_pull (aCons (eVar 1) (aCons (eC (.int 24)) aNil))))
    (sSeq (sSet 7 (eArg rLst (aCons (eBin (rAdd) (eC (.str "history ")) (eBin rIxd (eVar 5) (eC (.int 1)))) (aCons (eBin (rAdd) (eC (.str "heavy ")) (eArg (rStrU) (aCons (eVar 6) aNil))) aNil))))
    (sSeq (sIf (bVal (eBin (rNed) (eArg (rRep3) (aCons (eArg rLst (aCons (eCall f_certificate_text (aCons (eArg rTup (aCons (eC (.str "history")) (aCons (eVar 4) aNil))) aNil)) (aCons (eCall f_certificate_text (aCons (eArg rTup (aCons (eC (.str "heavy")) (aCons (eVar 6) aNil))) aNil)) aNil))) aNil)) (eArg (rRep3) (aCons (eVar 7) aNil)))) (sRet (eC (.bl false))) sNext)
    (sIf (bVal (eBin (rNed) (eArg (rRep3) (aCons (eLc (iSeq (eVar 7)) (gName 8) bYes (eCall f_parse_certificate (aCons (eVar 8) aNil)) [8]) aNil)) (eArg (rRep3) (aCons (eArg rLst (aCons (eArg rTup (aCons (eC (.str "history")) (aCons (eVar 4) aNil))) (aCons (eArg rTup (aCons (eC (.str "heavy")) (aCons (eVar 6) aNil))) aNil))) aNil)))) (sRet (eC (.bl false))) sNext))))))))))
    (sRet (eC (.bl true)))))
def f_law : FV := fv 1 9 m_law
section
variable {P : Program} {w : World} {K : PySem.W.Frag} {mg : Str → Option Value} {base : Heap} {ct cl cc : Nat → Addr}
theorem ok_is_integer {f : Addr} {fd : FuncData} (F : Fun K "is_integer" "is_integer" s_is_integer f fd) (T : Txt mg) (TX : Txe P w K mg base ct cl)  : FnG P w K mg base 1 f fd ["value", "low", "high"] (lF K ct f_is_integer) :=
  LF.ok_of (N := ["value", "low", "high"]) F sc_is_integer (by decide) fun cdv A outer s H E pp hr hg => by
    have nd := sc_is_integer.nd
    exact (s_one (s_ret (d_and (d_isi (T := .int) (by rfl) T.b_isinstance (by rfl) T.b_int (by decide +kernel) (dv 0)) (d_and (d_not (d_isi (T := .bool) (by rfl) T.b_isinstance (by rfl) T.b_bool (by decide +kernel) (dv 0))) (d_one (d_chain od_le od_le (dv 1) (dv 0) (dv 2)))))))
theorem ok_parse_integer {f : Addr} {fd : FuncData} (F : Fun K "parse_integer" "parse_integer" s_parse_integer f fd) (T : Txt mg) (TX : Txe P w K mg base ct cl)  : FnG P w K mg base 1 f fd ["part"] (lF K ct f_parse_integer) :=
  LF.ok_of (N := ["part", "sign"]) F sc_parse_integer (by decide) fun cdv A outer s H E pp hr hg => by
    have nd := sc_parse_integer.nd
    exact (s_cons (s_if (b_w (w_or (b_not (b_chain od_le od_le d_int (d_callB cd_len (by rfl) T.b_len (by decide +kernel) (da_cons (dv 0) da_nil)) (d_gint (i := 13) (by rfl) T.k_LONGEST.choose_spec))) (w_or1 (b_not (b_val (d_callB (cd_all rfl) (by rfl) T.b_all (by decide +kernel) (da_cons (d_lc (own := [("sign", 1)]) rfl nd (i_str (dv 0)) (blkOk_by (own := [("sign", 1)]) (by kernel_rfl)) (fun _ _ _ _ _ => (gw_name (i := 1) nd rfl (.inl rfl) (.inr rfl))) (fun _ _ _ _ _ => t_nil) (fun _ _ _ _ _ => (d_cmp od_sgIn (dv 1) (d_gstr (i := "0123456789") (by rfl) T.k_DIGITS.choose_spec) rfl))) da_nil))))))) (s_one (s_ret d_non)) s_nil)
    (s_one (s_ret (d_if (b_w (w_and (b_cmp (od_eq hr.units) (d_ix (dv 0) d_int) d_str (nomark _)) (w_and1 (b_cmp (od_ne hr.units) (dv 0) d_str (nomark _))))) d_non (d_callT cd_intS (by rfl) T.b_int (by decide +kernel) (da_cons (dv 0) da_nil))))))
theorem ok_parse_parts {f : Addr} {fd : FuncData} (F : Fun K "parse_parts" "parse_parts" s_parse_parts f fd) (T : Txt mg) (TX : Txe P w K mg base ct cl) (C_is_integer : Cal P w K mg base ct "is_integer" 1 ["value", "low", "high"] f_is_integer) (C_parse_integer : Cal P w K mg base ct "parse_integer" 1 ["part"] f_parse_integer) : FnG P w K mg base 3 f fd ["value", "is_free"] (lF K ct f_parse_parts) :=
  LF.ok_ofX (N := ["value", "is_free", "found", "index", "part", "number", "is_right"]) F sc_parse_parts (by decide) fun cdv A outer s H E pp Y tk hr hg => by
    have nd := sc_parse_parts.nd
    exact (s_cons (s_if (b_not (b_val (d_isi (T := .str) (by rfl) T.b_isinstance (by rfl) T.b_str (by decide +kernel) (dv 0)))) (s_one (s_raise1 tk rfl TX.r_0 hr (by rfl) d_non)) s_nil)
    (s_cons (s_set (i := 2) nd rfl (.inl rfl) (d_lst da_nil))
    (s_cons (s_for (passes_of rfl) rfl (i_enum (by rfl) T.b_enumerate (da_cons (d_split (dv 0) d_str) da_nil)) (g_tup rfl (gs_cons (g_name (i := 3) nd rfl (.inl rfl)) (gs_cons (g_name (i := 4) nd rfl (.inl rfl)) gs_nil))) (s_cons (s_set (i := 5) nd rfl (.inl rfl) (d_cal C_parse_integer (by omega) hr hg (by rfl) (da_cons (dv 4) da_nil)))
    (s_cons (s_set (i := 6) nd rfl (.inl rfl) (d_and (d_cal C_is_integer (by omega) hr hg (by rfl) (da_cons (dv 5) (da_cons d_int (da_cons (d_bin od_sub (d_gint (i := 24) (by rfl) T.k_MAX_VERTICES.choose_spec) d_int) da_nil)))) (d_one (d_or (dv 1) (d_one (d_cmp od_notin (dv 5) (dv 2) rfl))))))
    (s_cons (s_if (b_w (w_or (b_not (b_tru (dv 6))) (w_or1 (b_cmp od_ge (dv 3) (d_gint (i := 24) (by rfl) T.k_MAX_VERTICES.choose_spec) (nomark _))))) (s_one (s_raise1 tk rfl TX.r_0 hr (by rfl) (dv 3))) s_nil)
    (s_one (s_expr (d_m PySem.F.slot_list_append PySem.F.type_list_append md_append (dv 2) (da_cons (dv 5) da_nil))))))))
    (s_one (s_ret (d_callT cd_tuple (by rfl) T.b_tuple (by decide +kernel) (da_cons (dv 2) da_nil)))))))
theorem ok_parse_vertices {f : Addr} {fd : FuncData} (F : Fun K "parse_vertices" "parse_vertices" s_parse_vertices f fd) (T : Txt mg) (TX : Txe P w K mg base ct cl) (C_parse_parts : Cal P w K mg base ct "parse_parts" 3 ["value", "is_free"] f_parse_parts) : FnG P w K mg base 4 f fd ["value"] (lF K ct f_parse_vertices) :=
  LF.ok_ofX (N := ["value"]) F sc_parse_vertices (by decide) fun cdv A outer s H E pp Y tk hr hg => by
    have nd := sc_parse_vertices.nd
    exact (s_one (s_ret (d_if (b_w (w_and (b_val (d_isi (T := .str) (by rfl) T.b_isinstance (by rfl) T.b_str (by decide +kernel) (dv 0))) (w_and1 (b_cmp (od_eq hr.units) (dv 0) (d_gstr (i := "none") (by rfl) T.k_NONE.choose_spec) (nomark _))))) (d_tup da_nil) (d_calX tk C_parse_parts (by omega) hr hg (by rfl) (da_cons (dv 0) (da_cons d_bl da_nil))))))
theorem ok_parse_certificate {f : Addr} {fd : FuncData} (F : Fun K "parse_certificate" "parse_certificate" s_parse_certificate f fd) (T : Txt mg) (TX : Txe P w K mg base ct cl) (C_parse_vertices : Cal P w K mg base ct "parse_vertices" 4 ["value"] f_parse_vertices) : FnG P w K mg base 5 f fd ["value"] (lF K ct f_parse_certificate) :=
  LF.ok_of (N := ["value", "word", "space", "rest", "vertices"]) F sc_parse_certificate (by decide) fun cdv A outer s H E pp hr hg => by
    have nd := sc_parse_certificate.nd
    exact (s_cons (s_asg (d_if (b_val (d_isi (T := .str) (by rfl) T.b_isinstance (by rfl) T.b_str (by decide +kernel) (dv 0))) (d_part (dv 0) d_str) (d_tup (da_cons d_str (da_cons d_str (da_cons d_str da_nil))))) (g_tup rfl (gs_cons (g_name (i := 1) nd rfl (.inl rfl)) (gs_cons (g_name (i := 2) nd rfl (.inl rfl)) (gs_cons (g_name (i := 3) nd rfl (.inl rfl)) gs_nil)))))
    (s_cons (s_if (b_cmp od_notin (dv 1) (d_tup (da_cons (d_gstr (i := "history") (by rfl) T.k_JOINED.choose_spec) (da_cons (d_gstr (i := "heavy") (by rfl) T.k_OVERWEIGHT.choose_spec) da_nil))) rfl) (s_one s_never) s_nil)
    (s_cons (s_if (b_cmp (od_eq hr.units) (dv 2) d_str (nomark _)) (s_one s_never) s_nil)
    (s_cons (s_tryOnly rfl rfl ⟨by rfl, by decide +kernel, .inl TX.c_0⟩ takesN TX.cat_0 (fun Y pn xe pp tk hp => (s_one (s_set (i := 4) nd rfl (.inl rfl) (d_calX tk C_parse_vertices (by omega) hr hg (by rfl) (da_cons (dv 3) da_nil))))) (fun a oe cls dd pn pp hz hf => (s_one s_never)))
    (s_cons (s_if (b_cmp (od_eq hr.units) (dv 1) (d_gstr (i := "history") (by rfl) T.k_JOINED.choose_spec) (nomark _)) (s_one (s_ret (d_tup (da_cons (d_gstr (i := "history") (by rfl) T.k_JOINED.choose_spec) (da_cons (dv 4) da_nil))))) s_nil)
    (s_cons (s_if (b_cmp (od_ne hr.units) (d_callB cd_len (by rfl) T.b_len (by decide +kernel) (da_cons (dv 4) da_nil)) d_int (nomark _)) (s_one s_never) s_nil)
    (s_one (s_ret (d_tup (da_cons (d_gstr (i := "heavy") (by rfl) T.k_OVERWEIGHT.choose_spec) (da_cons (d_ix (dv 4) d_int) da_nil)))))))))))
theorem ok_vertices_text {f : Addr} {fd : FuncData} (F : Fun K "vertices_text" "vertices_text" s_vertices_text f fd) (T : Txt mg) (TX : Txe P w K mg base ct cl)  : FnG P w K mg base 1 f fd ["vertices"] (lF K ct f_vertices_text) :=
  LF.ok_of (N := ["vertices", "vertex"]) F sc_vertices_text (by decide) fun cdv A outer s H E pp hr hg => by
    have nd := sc_vertices_text.nd
    exact (s_one (s_ret (d_orT (d_join d_str (d_lc (own := [("vertex", 1)]) rfl nd (i_seq (dv 0)) (blkOk_by (own := [("vertex", 1)]) (by kernel_rfl)) (fun _ _ _ _ _ => (gw_name (i := 1) nd rfl (.inl rfl) (.inr rfl))) (fun _ _ _ _ _ => t_nil) (fun _ _ _ _ _ => (d_callT (cd_str hr hg) (by rfl) T.b_str (by decide +kernel) (da_cons (dv 1) da_nil))))) (d_one (d_gstr (i := "none") (by rfl) T.k_NONE.choose_spec)))))
theorem ok_certificate_text {f : Addr} {fd : FuncData} (F : Fun K "certificate_text" "certificate_text" s_certificate_text f fd) (T : Txt mg) (TX : Txe P w K mg base ct cl) (C_vertices_text : Cal P w K mg base ct "vertices_text" 1 ["vertices"] f_vertices_text) : FnG P w K mg base 2 f fd ["certificate"] (lF K ct f_certificate_text) :=
  LF.ok_of (N := ["certificate", "word", "shown"]) F sc_certificate_text (by decide) fun cdv A outer s H E pp hr hg => by
    have nd := sc_certificate_text.nd
    exact (s_cons (s_asg (dv 0) (g_tup rfl (gs_cons (g_name (i := 1) nd rfl (.inl rfl)) (gs_cons (g_name (i := 2) nd rfl (.inl rfl)) gs_nil))))
    (s_one (s_ret (d_bin od_add (d_bin od_add (dv 1) d_str) (d_if (b_cmp (od_eq hr.units) (dv 1) (d_gstr (i := "history") (by rfl) T.k_JOINED.choose_spec) (nomark _)) (d_cal C_vertices_text (by omega) hr hg (by rfl) (da_cons (dv 2) da_nil)) (d_callT (cd_str hr hg) (by rfl) T.b_str (by decide +kernel) (da_cons (dv 2) da_nil)))))))
theorem ok__law_pull {f : Addr} {fd : FuncData} (F : Fun K "_law_pull" "_law_pull" s__law_pull f fd) (T : Txt mg) (TX : Txe P w K mg base ct cl)  : FnG P w K mg base 1 f fd ["_law_well_here", "_law_many"] (lF K ct f__law_pull) :=
  LF.ok_of (N := ["_law_well_here", "_law_many", "_law_rest"]) F sc__law_pull (by decide) fun cdv A outer s H E pp hr hg => by
    have nd := sc__law_pull.nd
    exact (s_cons (s_while (passes_of rfl) (b_cmp (od_ne hr.units) (d_ix (dv 0) d_int) (d_lst da_nil) (nomark _)) (s_cons (s_set (i := 2) nd rfl (.inl rfl) (d_m0 PySem.F.slot_list_pop PySem.F.type_list_pop md_pop (d_ix (dv 0) d_int)))
    (s_one (s_if (b_cmp od_gt (dv 2) d_int (nomark _)) (s_cons (s_expr (d_m PySem.F.slot_list_append PySem.F.type_list_append md_append (d_ix (dv 0) d_int) (da_cons (d_bin od_fdiv (dv 2) (dv 1)) da_nil)))
    (s_one (s_ret (d_bin od_mod (dv 2) (dv 1))))) s_nil))))
    (s_cons (s_asg (d_bin od_mod (d_bin od_add (d_bin od_mulB (d_ix (dv 0) d_int) d_int) d_int) (d_bin od_pow d_int d_int)) (g_sub (dv 0) d_int))
    (s_one (s_ret (d_bin od_mod (d_bin od_fdiv (d_ix (dv 0) d_int) (d_bin od_pow d_int d_int)) (dv 1))))))
theorem ok_leads_to_root {f : Addr} {fd : FuncData} (F : Fun K "leads_to_root" "leads_to_root" s_leads_to_root f fd) (T : Txt mg) (TX : Txe P w K mg base ct cl)  : FnG P w K mg base 1 f fd ["parents", "vertex"] (lF K ct f_leads_to_root) :=
  LF.ok_of (N := ["parents", "vertex", "step"]) F sc_leads_to_root (by decide) fun cdv A outer s H E pp hr hg => by
    have nd := sc_leads_to_root.nd
    exact (s_cons (s_for (passes_of rfl) rfl (i_seq (dv 0)) (g_name (i := 2) nd rfl (.inl rfl)) (s_cons (s_if (b_cmp (od_eq hr.units) (d_ix (dv 0) (dv 1)) (dv 1) (nomark _)) (s_one (s_ret d_bl)) s_nil)
    (s_one (s_set (i := 1) nd rfl (.inl rfl) (d_ix (dv 0) (dv 1))))))
    (s_one (s_ret d_bl)))
theorem ok_forest_error {f : Addr} {fd : FuncData} (F : Fun K "forest_error" "forest_error" s_forest_error f fd) (T : Txt mg) (TX : Txe P w K mg base ct cl) (C_leads_to_root : Cal P w K mg base ct "leads_to_root" 1 ["parents", "vertex"] f_leads_to_root) (C_is_integer : Cal P w K mg base ct "is_integer" 1 ["value", "low", "high"] f_is_integer) : FnG P w K mg base 2 f fd ["value"] (lF K ct f_forest_error) :=
  LF.ok_of (N := ["value", "index", "parent"]) F sc_forest_error (by decide) fun cdv A outer s H E pp hr hg => by
    have nd := sc_forest_error.nd
    exact (s_cons (s_if (b_not (b_val (d_isi (T := .tup) (by rfl) T.b_isinstance (by rfl) T.b_tuple (by decide +kernel) (dv 0)))) (s_one (s_ret (d_tup (da_cons d_non (da_cons d_str da_nil))))) s_nil)
    (s_cons (s_if (b_not (b_chain od_le od_le d_int (d_callB cd_len (by rfl) T.b_len (by decide +kernel) (da_cons (dv 0) da_nil)) (d_gint (i := 24) (by rfl) T.k_MAX_VERTICES.choose_spec))) (s_one (s_ret (d_tup (da_cons d_non (da_cons d_str da_nil))))) s_nil)
    (s_cons (s_for (passes_of rfl) rfl (i_enum (by rfl) T.b_enumerate (da_cons (dv 0) da_nil)) (g_tup rfl (gs_cons (g_name (i := 1) nd rfl (.inl rfl)) (gs_cons (g_name (i := 2) nd rfl (.inl rfl)) gs_nil))) (s_one (s_if (b_not (b_val (d_cal C_is_integer (by omega) hr hg (by rfl) (da_cons (dv 2) (da_cons d_int (da_cons (d_bin od_sub (d_callB cd_len (by rfl) T.b_len (by decide +kernel) (da_cons (dv 0) da_nil)) d_int) da_nil)))))) (s_one (s_ret (d_tup (da_cons (dv 1) (da_cons d_str da_nil))))) s_nil)))
    (s_cons (s_for (passes_of rfl) rfl (i_rng1 (by rfl) T.b_range (da_cons (d_callB cd_len (by rfl) T.b_len (by decide +kernel) (da_cons (dv 0) da_nil)) da_nil)) (g_name (i := 1) nd rfl (.inl rfl)) (s_one (s_if (b_not (b_val (d_cal C_leads_to_root (by omega) hr hg (by rfl) (da_cons (dv 0) (da_cons (dv 1) da_nil))))) (s_one (s_ret (d_tup (da_cons (dv 1) (da_cons d_str da_nil))))) s_nil)))
    (s_one (s_ret d_non))))))
theorem ok_parse_forest {f : Addr} {fd : FuncData} (F : Fun K "parse_forest" "parse_forest" s_parse_forest f fd) (T : Txt mg) (TX : Txe P w K mg base ct cl) (C_forest_error : Cal P w K mg base ct "forest_error" 2 ["value"] f_forest_error) (C_parse_parts : Cal P w K mg base ct "parse_parts" 3 ["value", "is_free"] f_parse_parts) : FnG P w K mg base 4 f fd ["value"] (lF K ct f_parse_forest) :=
  LF.ok_of (N := ["value", "found", "error"]) F sc_parse_forest (by decide) fun cdv A outer s H E pp hr hg => by
    have nd := sc_parse_forest.nd
    exact (s_cons (s_set (i := 1) nd rfl (.inl rfl) (d_cal C_parse_parts (by omega) hr hg (by rfl) (da_cons (dv 0) (da_cons d_bl da_nil))))
    (s_cons (s_set (i := 2) nd rfl (.inl rfl) (d_cal C_forest_error (by omega) hr hg (by rfl) (da_cons (dv 1) da_nil)))
    (s_cons (s_if (b_cmp od_notN (dv 2) d_non (nomark _)) (s_one s_never) s_nil)
    (s_one (s_ret (dv 1))))))
theorem ok_forest_text {f : Addr} {fd : FuncData} (F : Fun K "forest_text" "forest_text" s_forest_text f fd) (T : Txt mg) (TX : Txe P w K mg base ct cl)  : FnG P w K mg base 1 f fd ["forest"] (lF K ct f_forest_text) :=
  LF.ok_of (N := ["forest", "parent"]) F sc_forest_text (by decide) fun cdv A outer s H E pp hr hg => by
    have nd := sc_forest_text.nd
    exact (s_one (s_ret (d_join d_str (d_lc (own := [("parent", 1)]) rfl nd (i_seq (dv 0)) (blkOk_by (own := [("parent", 1)]) (by kernel_rfl)) (fun _ _ _ _ _ => (gw_name (i := 1) nd rfl (.inl rfl) (.inr rfl))) (fun _ _ _ _ _ => t_nil) (fun _ _ _ _ _ => (d_callT (cd_str hr hg) (by rfl) T.b_str (by decide +kernel) (da_cons (dv 1) da_nil)))))))
theorem ok__law_written {f : Addr} {fd : FuncData} (F : Fun K "_law_written" "_law_written" s__law_written f fd) (T : Txt mg) (TX : Txe P w K mg base ct cl)  : FnG P w K mg base 1 f fd ["_law_items"] (lF K ct f__law_written) :=
  LF.ok_of (N := ["_law_items", "_law_text", "_law_item_here"]) F sc__law_written (by decide) fun cdv A outer s H E pp hr hg => by
    have nd := sc__law_written.nd
    exact (s_cons (s_set (i := 1) nd rfl (.inl rfl) d_str)
    (s_cons (s_for (passes_of rfl) rfl (i_seq (dv 0)) (g_name (i := 2) nd rfl (.inl rfl)) (s_one (s_set (i := 1) nd rfl (.inl rfl) (d_bin od_add (d_bin od_add (dv 1) (d_bin od_mulS d_str (d_callT cd_int (by rfl) T.b_int (by decide +kernel) (da_cons (d_cmp (od_ne hr.units) (dv 1) d_str (nomark _)) da_nil)))) (d_callT (cd_str hr hg) (by rfl) T.b_str (by decide +kernel) (da_cons (dv 2) da_nil))))))
    (s_one (s_ret (dv 1)))))
theorem ok__law_mixed {f : Addr} {fd : FuncData} (F : Fun K "_law_mixed" "_law_mixed" s__law_mixed f fd) (T : Txt mg) (TX : Txe P w K mg base ct cl) (C__law_pull : Cal P w K mg base ct "_law_pull" 1 ["_law_well_here", "_law_many"] f__law_pull) : FnG P w K mg base 2 f fd ["_law_well_here", "_law_items"] (lF K ct f__law_mixed) :=
  LF.ok_of (N := ["_law_well_here", "_law_items", "_law_rest", "_law_found"]) F sc__law_mixed (by decide) fun cdv A outer s H E pp hr hg => by
    have nd := sc__law_mixed.nd
    exact (s_cons (s_par (is := [2, 3]) (names := ["_law_rest", "_law_found"]) rfl nd (.cons rfl rfl (.cons rfl rfl .nil)) (da_cons (d_callT cd_list (by rfl) T.b_list (by decide +kernel) (da_cons (dv 1) da_nil)) (da_cons (d_lst da_nil) da_nil)) rfl)
    (s_cons (s_while (passes_of rfl) (b_cmp (od_ne hr.units) (dv 2) (d_lst da_nil) (nomark _)) (s_one (s_expr (d_m PySem.F.slot_list_append PySem.F.type_list_append md_append (dv 3) (da_cons (d_m PySem.F.slot_list_pop PySem.F.type_list_pop md_popAt (dv 2) (da_cons (d_cal C__law_pull (by omega) hr hg (by rfl) (da_cons (dv 0) (da_cons (d_callB cd_len (by rfl) T.b_len (by decide +kernel) (da_cons (dv 2) da_nil)) da_nil))) da_nil)) da_nil)))))
    (s_one (s_ret (dv 3)))))
theorem ok__law_line {f : Addr} {fd : FuncData} (F : Fun K "_law_line" "_law_line" s__law_line f fd) (T : Txt mg) (TX : Txe P w K mg base ct cl)  : FnG P w K mg base 1 f fd ["_law_parents", "_law_vertex"] (lF K ct f__law_line) :=
  LF.ok_of (N := ["_law_parents", "_law_vertex", "_law_found"]) F sc__law_line (by decide) fun cdv A outer s H E pp hr hg => by
    have nd := sc__law_line.nd
    exact (s_cons (s_set (i := 2) nd rfl (.inl rfl) (d_lst (da_cons (dv 1) da_nil)))
    (s_cons (s_while (passes_of rfl) (b_cmp (od_ne hr.units) (d_ix (dv 0) (d_ix (dv 2) (d_un ud_neg d_int))) (d_ix (dv 2) (d_un ud_neg d_int)) (nomark _)) (s_one (s_expr (d_m PySem.F.slot_list_append PySem.F.type_list_append md_append (dv 2) (da_cons (d_ix (dv 0) (d_ix (dv 2) (d_un ud_neg d_int))) da_nil)))))
    (s_one (s_ret (dv 2)))))
theorem ok__law_item {f : Addr} {fd : FuncData} (F : Fun K "_law_item" "_law_item" s__law_item f fd) (T : Txt mg) (TX : Txe P w K mg base ct cl) (C__law_pull : Cal P w K mg base ct "_law_pull" 1 ["_law_well_here", "_law_many"] f__law_pull) : FnG P w K mg base 2 f fd ["_law_well_here", "_law_items"] (lF K ct f__law_item) :=
  LF.ok_of (N := ["_law_well_here", "_law_items"]) F sc__law_item (by decide) fun cdv A outer s H E pp hr hg => by
    have nd := sc__law_item.nd
    exact (s_one (s_ret (d_ix (dv 1) (d_cal C__law_pull (by omega) hr hg (by rfl) (da_cons (dv 0) (da_cons (d_callB cd_len (by rfl) T.b_len (by decide +kernel) (da_cons (dv 1) da_nil)) da_nil))))))
theorem ok__law_heft {f : Addr} {fd : FuncData} (F : Fun K "_law_heft" "_law_heft" s__law_heft f fd) (T : Txt mg) (TX : Txe P w K mg base ct cl)  : FnG P w K mg base 1 f fd ["_law_parents", "_law_vertex"] (lF K ct f__law_heft) :=
  LF.ok_of (N := ["_law_parents", "_law_vertex", "_law_inside", "_law_count", "_law_v"]) F sc__law_heft (by decide) fun cdv A outer s H E pp hr hg => by
    have nd := sc__law_heft.nd
    exact (s_cons (s_asg (d_tup (da_cons (d_lst (da_cons (dv 1) da_nil)) (da_cons d_int da_nil))) (g_tup rfl (gs_cons (g_name (i := 2) nd rfl (.inr rfl)) (gs_cons (g_name (i := 3) nd rfl (.inr rfl)) gs_nil))))
    (s_cons (s_while (passes_of rfl) (b_cmp od_lt (dv 3) (d_callB cd_len (by rfl) T.b_len (by decide +kernel) (da_cons (dv 2) da_nil)) (nomark _)) (s_cons (s_set (i := 2) nd rfl (.inr rfl) (d_bin od_add (dv 2) (d_lc (own := [("_law_v", 4)]) rfl nd (i_rng1 (by rfl) T.b_range (da_cons (d_callB cd_len (by rfl) T.b_len (by decide +kernel) (da_cons (dv 0) da_nil)) da_nil)) (blkOk_by (own := [("_law_v", 4)]) (by kernel_rfl)) (fun _ _ _ _ _ => (gw_name (i := 4) nd rfl (.inl rfl) (.inr rfl))) (fun _ _ _ _ _ => (t_one (b_w (w_and (b_cmp (od_eq hr.units) (d_ix (dv 0) (dv 4)) (d_ix (dv 2) (dv 3)) (nomark _)) (w_and1 (b_cmp (od_ne hr.units) (dv 4) (d_ix (dv 0) (dv 4)) (nomark _))))))) (fun _ _ _ _ _ => (dv 4)))))
    (s_one (s_set (i := 3) nd rfl (.inr rfl) (d_bin od_add (dv 3) d_int)))))
    (s_one (s_ret (dv 3)))))
theorem ok__law_tops {f : Addr} {fd : FuncData} (F : Fun K "_law_tops" "_law_tops" s__law_tops f fd) (T : Txt mg) (TX : Txe P w K mg base ct cl)  : FnG P w K mg base 1 f fd ["_law_parents"] (lF K ct f__law_tops) :=
  LF.ok_of (N := ["_law_parents", "_law_vertex"]) F sc__law_tops (by decide) fun cdv A outer s H E pp hr hg => by
    have nd := sc__law_tops.nd
    exact (s_one (s_ret (d_lc (own := [("_law_vertex", 1)]) rfl nd (i_rng1 (by rfl) T.b_range (da_cons (d_callB cd_len (by rfl) T.b_len (by decide +kernel) (da_cons (dv 0) da_nil)) da_nil)) (blkOk_by (own := [("_law_vertex", 1)]) (by kernel_rfl)) (fun _ _ _ _ _ => (gw_name (i := 1) nd rfl (.inl rfl) (.inr rfl))) (fun _ _ _ _ _ => (t_one (b_cmp (od_eq hr.units) (d_ix (dv 0) (dv 1)) (dv 1) (nomark _)))) (fun _ _ _ _ _ => (dv 1)))))
theorem ok__law_grown {f : Addr} {fd : FuncData} (F : Fun K "_law_grown" "_law_grown" s__law_grown f fd) (T : Txt mg) (TX : Txe P w K mg base ct cl) (C__law_item : Cal P w K mg base ct "_law_item" 2 ["_law_well_here", "_law_items"] f__law_item) (C__law_pull : Cal P w K mg base ct "_law_pull" 1 ["_law_well_here", "_law_many"] f__law_pull) (C__law_heft : Cal P w K mg base ct "_law_heft" 1 ["_law_parents", "_law_vertex"] f__law_heft) (C__law_mixed : Cal P w K mg base ct "_law_mixed" 2 ["_law_well_here", "_law_items"] f__law_mixed) (C__law_tops : Cal P w K mg base ct "_law_tops" 1 ["_law_parents"] f__law_tops) : FnG P w K mg base 3 f fd ["_law_well_here", "_law_most"] (lF K ct f__law_grown) :=
  LF.ok_of (N := ["_law_well_here", "_law_most", "_law_n", "_law_parents", "_law_way", "_law_turn", "_law_tops_here", "_law_ranked", "_law_k", "_law_weight", "_law_one", "_law_other"]) F sc__law_grown (by decide) fun cdv A outer s H E pp hr hg => by
    have nd := sc__law_grown.nd
    exact (s_cons (s_set (i := 2) nd rfl (.inl rfl) (d_bin od_add d_int (d_cal C__law_pull (by omega) hr hg (by rfl) (da_cons (dv 0) (da_cons (dv 1) da_nil)))))
    (s_cons (s_asg (d_tup (da_cons (d_lrg1 rfl (by rfl) T.b_list (by rfl) T.b_range (dv 2)) (da_cons (d_cal C__law_pull (by omega) hr hg (by rfl) (da_cons (dv 0) (da_cons d_int da_nil))) da_nil))) (g_tup rfl (gs_cons (g_name (i := 3) nd rfl (.inr rfl)) (gs_cons (g_name (i := 4) nd rfl (.inl rfl)) gs_nil))))
    (s_cons (s_for (passes_of rfl) rfl (i_rng1 (by rfl) T.b_range (da_cons (d_cal C__law_item (by omega) hr hg (by rfl) (da_cons (dv 0) (da_cons (d_lst (da_cons (d_bin od_sub (dv 2) d_int) (da_cons (d_bin od_sub (dv 2) d_int) (da_cons (d_cal C__law_pull (by omega) hr hg (by rfl) (da_cons (dv 0) (da_cons (dv 2) da_nil))) da_nil)))) da_nil))) da_nil)) (g_name (i := 5) nd rfl (.inl rfl)) (s_cons (s_set (i := 6) nd rfl (.inr rfl) (d_cal C__law_mixed (by omega) hr hg (by rfl) (da_cons (dv 0) (da_cons (d_cal C__law_tops (by omega) hr hg (by rfl) (da_cons (dv 3) da_nil)) da_nil))))
    (s_cons (s_if (b_cmp od_lt (dv 4) d_int (nomark _)) (s_cons (s_set (i := 7) nd rfl (.inl rfl) (d_callB cd_sortP (by rfl) T.b_sorted (by decide +kernel) (da_cons (d_lc (own := [("_law_k", 8)]) rfl nd (i_rng1 (by rfl) T.b_range (da_cons (d_callB cd_len (by rfl) T.b_len (by decide +kernel) (da_cons (dv 6) da_nil)) da_nil)) (blkOk_by (own := [("_law_k", 8)]) (by kernel_rfl)) (fun _ _ _ _ _ => (gw_name (i := 8) nd rfl (.inl rfl) (.inr rfl))) (fun _ _ _ _ _ => t_nil) (fun _ _ _ _ _ => (d_tup (da_cons (d_cal C__law_heft (by omega) hr hg (by rfl) (da_cons (dv 3) (da_cons (d_ix (dv 6) (dv 8)) da_nil))) (da_cons (dv 8) da_nil))))) da_nil)))
    (s_one (s_set (i := 6) nd rfl (.inr rfl) (d_bck (d_lc (own := [("_law_weight", 9), ("_law_k", 8)]) rfl nd (i_seq (dv 7)) (blkOk_by (own := [("_law_weight", 9), ("_law_k", 8)]) (by kernel_rfl)) (fun _ _ _ _ _ => (gw_tup rfl (gsw_cons (gw_name (i := 9) nd rfl (.inl rfl) (.inr rfl)) (gsw_cons (gw_name (i := 8) nd rfl (.inl rfl) (.inr rfl)) gsw_nil)))) (fun _ _ _ _ _ => t_nil) (fun _ _ _ _ _ => (d_ix (dv 6) (dv 8)))) (do_so (d_ix (d_lst (da_cons d_int (da_cons (d_un ud_neg d_int) da_nil))) (dv 4))))))) s_nil)
    (s_cons (s_par (is := [10, 11]) (names := ["_law_one", "_law_other"]) rfl nd (.cons rfl rfl (.cons rfl rfl .nil)) (da_cons (d_ix (dv 6) d_int) (da_cons (d_ix (dv 6) d_int) da_nil)) rfl)
    (s_cons (s_if (b_cmp od_lt (d_cal C__law_heft (by omega) hr hg (by rfl) (da_cons (dv 3) (da_cons (dv 10) da_nil))) (d_cal C__law_heft (by omega) hr hg (by rfl) (da_cons (dv 3) (da_cons (dv 11) da_nil))) (nomark _)) (s_one (s_par (is := [10, 11]) (names := ["_law_one", "_law_other"]) rfl nd (.cons rfl rfl (.cons rfl rfl .nil)) (da_cons (dv 11) (da_cons (dv 10) da_nil)) rfl)) s_nil)
    (s_one (s_asg (dv 10) (g_sub (dv 3) (dv 11)))))))))
    (s_one (s_ret (d_callT cd_tuple (by rfl) T.b_tuple (by decide +kernel) (da_cons (dv 3) da_nil)))))))
theorem ok__law_wild {f : Addr} {fd : FuncData} (F : Fun K "_law_wild" "_law_wild" s__law_wild f fd) (T : Txt mg) (TX : Txe P w K mg base ct cl) (C__law_pull : Cal P w K mg base ct "_law_pull" 1 ["_law_well_here", "_law_many"] f__law_pull) (C__law_item : Cal P w K mg base ct "_law_item" 2 ["_law_well_here", "_law_items"] f__law_item) (C__law_mixed : Cal P w K mg base ct "_law_mixed" 2 ["_law_well_here", "_law_items"] f__law_mixed) : FnG P w K mg base 3 f fd ["_law_well_here", "_law_most"] (lF K ct f__law_wild) :=
  LF.ok_of (N := ["_law_well_here", "_law_most", "_law_n", "_law_order", "_law_parents", "_law_often", "_law_k", "_law_vertex"]) F sc__law_wild (by decide) fun cdv A outer s H E pp hr hg => by
    have nd := sc__law_wild.nd
    exact (s_cons (s_set (i := 2) nd rfl (.inl rfl) (d_bin od_add d_int (d_cal C__law_pull (by omega) hr hg (by rfl) (da_cons (dv 0) (da_cons (dv 1) da_nil)))))
    (s_cons (s_par (is := [3, 4]) (names := ["_law_order", "_law_parents"]) rfl nd (.cons rfl rfl (.cons rfl rfl .nil)) (da_cons (d_cal C__law_mixed (by omega) hr hg (by rfl) (da_cons (dv 0) (da_cons (d_lrg1 rfl (by rfl) T.b_list (by rfl) T.b_range (dv 2)) da_nil))) (da_cons (d_bin od_mulB (d_lst (da_cons d_int da_nil)) (dv 2)) da_nil)) rfl)
    (s_cons (s_set (i := 5) nd rfl (.inl rfl) (d_bin od_add d_int (d_cal C__law_pull (by omega) hr hg (by rfl) (da_cons (dv 0) (da_cons d_int da_nil)))))
    (s_cons (s_for (passes_of rfl) rfl (i_enum (by rfl) T.b_enumerate (da_cons (dv 3) da_nil)) (g_tup rfl (gs_cons (g_name (i := 6) nd rfl (.inl rfl)) (gs_cons (g_name (i := 7) nd rfl (.inl rfl)) gs_nil))) (s_one (s_asg (d_if (b_w (w_or (b_cmp (od_eq hr.units) (dv 6) d_int (nomark _)) (w_or1 (b_w (w_and (b_cmp (od_eq hr.units) (d_cal C__law_pull (by omega) hr hg (by rfl) (da_cons (dv 0) (da_cons (dv 5) da_nil))) d_int (nomark _)) (w_and1 (b_cmp od_gt (dv 5) d_int (nomark _)))))))) (dv 7) (d_cal C__law_item (by omega) hr hg (by rfl) (da_cons (dv 0) (da_cons (d_sl (dv 3) do_no (do_so (dv 6))) da_nil)))) (g_sub (dv 4) (dv 7)))))
    (s_one (s_ret (d_callT cd_tuple (by rfl) T.b_tuple (by decide +kernel) (da_cons (dv 4) da_nil))))))))
theorem ok__law_forest {f : Addr} {fd : FuncData} (F : Fun K "_law_forest" "_law_forest" s__law_forest f fd) (T : Txt mg) (TX : Txe P w K mg base ct cl) (C__law_line : Cal P w K mg base ct "_law_line" 1 ["_law_parents", "_law_vertex"] f__law_line) (C__law_pull : Cal P w K mg base ct "_law_pull" 1 ["_law_well_here", "_law_many"] f__law_pull) (C__law_grown : Cal P w K mg base ct "_law_grown" 3 ["_law_well_here", "_law_most"] f__law_grown) (C__law_wild : Cal P w K mg base ct "_law_wild" 3 ["_law_well_here", "_law_most"] f__law_wild) : FnG P w K mg base 4 f fd ["_law_well_here", "_law_most"] (lF K ct f__law_forest) :=
  LF.ok_of (N := ["_law_well_here", "_law_most", "_law_way", "_law_parents", "_law_vertex", "_law_other"]) F sc__law_forest (by decide) fun cdv A outer s H E pp hr hg => by
    have nd := sc__law_forest.nd
    exact (s_cons (s_set (i := 2) nd rfl (.inl rfl) (d_cal C__law_pull (by omega) hr hg (by rfl) (da_cons (dv 0) (da_cons d_int da_nil))))
    (s_cons (s_if (b_cmp (od_eq hr.units) (dv 2) d_int (nomark _)) (s_one (s_ret (d_cal C__law_wild (by omega) hr hg (by rfl) (da_cons (dv 0) (da_cons (dv 1) da_nil))))) s_nil)
    (s_cons (s_set (i := 3) nd rfl (.inl rfl) (d_cal C__law_grown (by omega) hr hg (by rfl) (da_cons (dv 0) (da_cons (dv 1) da_nil))))
    (s_cons (s_if (b_cmp (od_eq hr.units) (dv 2) d_int (nomark _)) (s_cons (s_par (is := [4, 5]) (names := ["_law_vertex", "_law_other"]) rfl nd (.cons rfl rfl (.cons rfl rfl .nil)) (da_cons (d_cal C__law_pull (by omega) hr hg (by rfl) (da_cons (dv 0) (da_cons (d_callB cd_len (by rfl) T.b_len (by decide +kernel) (da_cons (dv 3) da_nil)) da_nil))) (da_cons (d_cal C__law_pull (by omega) hr hg (by rfl) (da_cons (dv 0) (da_cons (d_callB cd_len (by rfl) T.b_len (by decide +kernel) (da_cons (dv 3) da_nil)) da_nil))) da_nil)) rfl)
    (s_one (s_if (b_cmp od_notin (dv 4) (d_cal C__law_line (by omega) hr hg (by rfl) (da_cons (dv 3) (da_cons (dv 5) da_nil))) rfl) (s_one (s_set (i := 3) nd rfl (.inl rfl) (d_bin od_add (d_bin od_add (d_sl (dv 3) do_no (do_so (dv 4))) (d_tup (da_cons (dv 5) da_nil))) (d_sl (dv 3) (do_so (d_bin od_add (dv 4) d_int)) do_no)))) s_nil))) s_nil)
    (s_one (s_ret (dv 3)))))))
theorem ok__law_well {f : Addr} {fd : FuncData} (F : Fun K "_law_well" "_law_well" s__law_well f fd) (T : Txt mg) (TX : Txe P w K mg base ct cl)  : FnG P w K mg base 1 f fd ["_law_script"] (lF K ct f__law_well) :=
  LF.ok_of (N := ["_law_script", "_law_state", "_law_cell"]) F sc__law_well (by decide) fun cdv A outer s H E pp hr hg => by
    have nd := sc__law_well.nd
    exact (s_cons (s_set (i := 1) nd rfl (.inl rfl) (d_bin od_add d_int (d_bin od_mulB d_int (d_callB cd_len (by rfl) T.b_len (by decide +kernel) (da_cons (dv 0) da_nil)))))
    (s_cons (s_for (passes_of rfl) rfl (i_seq (dv 0)) (g_name (i := 2) nd rfl (.inl rfl)) (s_one (s_set (i := 1) nd rfl (.inl rfl) (d_bin od_mod (d_bin od_add (d_bin od_add (d_bin od_add (d_bin od_mulB (dv 1) d_int) (d_bin od_mulB d_int (d_callB cd_abs (by rfl) T.b_abs (by decide +kernel) (da_cons (dv 2) da_nil)))) (d_callT cd_int (by rfl) T.b_int (by decide +kernel) (da_cons (d_cmp od_lt (dv 2) d_int (nomark _)) da_nil))) d_int) (d_bin od_pow d_int d_int)))))
    (s_one (s_ret (d_lst (da_cons (d_bck (d_lc (own := [("_law_cell", 2)]) rfl nd (i_seq (dv 0)) (blkOk_by (own := [("_law_cell", 2)]) (by kernel_rfl)) (fun _ _ _ _ _ => (gw_name (i := 2) nd rfl (.inl rfl) (.inr rfl))) (fun _ _ _ _ _ => (t_one (b_cmp od_ge (d_callB cd_abs (by rfl) T.b_abs (by decide +kernel) (da_cons (dv 2) da_nil)) (d_bin od_pow d_int d_int) (nomark _)))) (fun _ _ _ _ _ => (d_callB cd_abs (by rfl) T.b_abs (by decide +kernel) (da_cons (dv 2) da_nil)))) (do_so (d_un ud_neg d_int))) (da_cons (dv 1) da_nil)))))))
theorem ok_law {f : Addr} {fd : FuncData} (F : Fun K "law" "law" s_law f fd) (T : Txt mg) (TX : Txe P w K mg base ct cl) (C_parse_certificate : Cal P w K mg base ct "parse_certificate" 5 ["value"] f_parse_certificate) (C_certificate_text : Cal P w K mg base ct "certificate_text" 2 ["certificate"] f_certificate_text) (C__law_pull : Cal P w K mg base ct "_law_pull" 1 ["_law_well_here", "_law_many"] f__law_pull) (C_parse_vertices : Cal P w K mg base ct "parse_vertices" 4 ["value"] f_parse_vertices) (C_parse_forest : Cal P w K mg base ct "parse_forest" 4 ["value"] f_parse_forest) (C_vertices_text : Cal P w K mg base ct "vertices_text" 1 ["vertices"] f_vertices_text) (C_forest_text : Cal P w K mg base ct "forest_text" 1 ["forest"] f_forest_text) (C__law_written : Cal P w K mg base ct "_law_written" 1 ["_law_items"] f__law_written) (C__law_mixed : Cal P w K mg base ct "_law_mixed" 2 ["_law_well_here", "_law_items"] f__law_mixed) (C__law_forest : Cal P w K mg base ct "_law_forest" 4 ["_law_well_here", "_law_most"] f__law_forest) (C__law_well : Cal P w K mg base ct "_law_well" 1 ["_law_script"] f__law_well) : FnG P w K mg base 6 f fd ["_law_script"] (lF K ct f_law) :=
  LF.ok_of (N := ["_law_script", "_law_well_here", "_law_turn", "_law_parents", "_law_some", "_law_texts", "_law_vertex", "_law_due", "_law_text"]) F sc_law (by decide) fun cdv A outer s H E pp hr hg => by
    have nd := sc_law.nd
    exact (s_cons (s_set (i := 1) nd rfl (.inl rfl) (d_cal C__law_well (by omega) hr hg (by rfl) (da_cons (dv 0) da_nil)))
    (s_cons (s_for (passes_of rfl) rfl (i_rng1 (by rfl) T.b_range (da_cons d_int da_nil)) (g_name (i := 2) nd rfl (.inl rfl)) (s_cons (s_set (i := 3) nd rfl (.inl rfl) (d_cal C__law_forest (by omega) hr hg (by rfl) (da_cons (dv 1) (da_cons d_int da_nil))))
    (s_cons (s_set (i := 4) nd rfl (.inl rfl) (d_callT cd_tuple (by rfl) T.b_tuple (by decide +kernel) (da_cons (d_sl (d_cal C__law_mixed (by omega) hr hg (by rfl) (da_cons (dv 1) (da_cons (d_lrg1 rfl (by rfl) T.b_list (by rfl) T.b_range d_int) da_nil))) do_no (do_so (d_cal C__law_pull (by omega) hr hg (by rfl) (da_cons (dv 1) (da_cons d_int da_nil))))) da_nil)))
    (s_cons (s_set (i := 5) nd rfl (.inl rfl) (d_lst (da_cons (d_cal C__law_written (by omega) hr hg (by rfl) (da_cons (dv 3) da_nil)) (da_cons (d_if (b_cmp (od_ne hr.units) (dv 4) (d_tup da_nil) (nomark _)) (d_cal C__law_written (by omega) hr hg (by rfl) (da_cons (dv 4) da_nil)) d_str) da_nil))))
    (s_cons (s_if (b_cmp (od_ne hr.units) (d_callB (cd_rep3 hr hg) (by rfl) T.b_repr (by decide +kernel) (da_cons (d_lst (da_cons (d_cal C_forest_text (by omega) hr hg (by rfl) (da_cons (dv 3) da_nil)) (da_cons (d_cal C_vertices_text (by omega) hr hg (by rfl) (da_cons (dv 4) da_nil)) da_nil))) da_nil)) (d_callB (cd_rep3 hr hg) (by rfl) T.b_repr (by decide +kernel) (da_cons (dv 5) da_nil)) (nomark _)) (s_one (s_ret d_bl)) s_nil)
    (s_cons (s_if (b_cmp (od_ne hr.units) (d_callB (cd_rep3 hr hg) (by rfl) T.b_repr (by decide +kernel) (da_cons (d_lst (da_cons (d_cal C_parse_forest (by omega) hr hg (by rfl) (da_cons (d_ix (dv 5) d_int) da_nil)) (da_cons (d_cal C_parse_vertices (by omega) hr hg (by rfl) (da_cons (d_ix (dv 5) d_int) da_nil)) da_nil))) da_nil)) (d_callB (cd_rep3 hr hg) (by rfl) T.b_repr (by decide +kernel) (da_cons (d_lst (da_cons (dv 3) (da_cons (dv 4) da_nil))) da_nil)) (nomark _)) (s_one (s_ret d_bl)) s_nil)
    (s_cons (s_set (i := 6) nd rfl (.inl rfl) (d_cal C__law_pull (by omega) hr hg (by rfl) (da_cons (dv 1) (da_cons d_int da_nil))))
    (s_cons (s_set (i := 7) nd rfl (.inl rfl) (d_lst (da_cons (d_bin od_add d_str (d_ix (dv 5) d_int)) (da_cons (d_bin od_add d_str (d_callT (cd_str hr hg) (by rfl) T.b_str (by decide +kernel) (da_cons (dv 6) da_nil))) da_nil))))
    (s_cons (s_if (b_cmp (od_ne hr.units) (d_callB (cd_rep3 hr hg) (by rfl) T.b_repr (by decide +kernel) (da_cons (d_lst (da_cons (d_cal C_certificate_text (by omega) hr hg (by rfl) (da_cons (d_tup (da_cons d_str (da_cons (dv 4) da_nil))) da_nil)) (da_cons (d_cal C_certificate_text (by omega) hr hg (by rfl) (da_cons (d_tup (da_cons d_str (da_cons (dv 6) da_nil))) da_nil)) da_nil))) da_nil)) (d_callB (cd_rep3 hr hg) (by rfl) T.b_repr (by decide +kernel) (da_cons (dv 7) da_nil)) (nomark _)) (s_one (s_ret d_bl)) s_nil)
    (s_one (s_if (b_cmp (od_ne hr.units) (d_callB (cd_rep3 hr hg) (by rfl) T.b_repr (by decide +kernel) (da_cons (d_lc (own := [("_law_text", 8)]) rfl nd (i_seq (dv 7)) (blkOk_by (own := [("_law_text", 8)]) (by kernel_rfl)) (fun _ _ _ _ _ => (gw_name (i := 8) nd rfl (.inl rfl) (.inr rfl))) (fun _ _ _ _ _ => t_nil) (fun _ _ _ _ _ => (d_cal C_parse_certificate (by omega) hr hg (by rfl) (da_cons (dv 8) da_nil)))) da_nil)) (d_callB (cd_rep3 hr hg) (by rfl) T.b_repr (by decide +kernel) (da_cons (d_lst (da_cons (d_tup (da_cons d_str (da_cons (dv 4) da_nil))) (da_cons (d_tup (da_cons d_str (da_cons (dv 6) da_nil))) da_nil))) da_nil)) (nomark _)) (s_one (s_ret d_bl)) s_nil)))))))))))
    (s_one (s_ret d_bl))))
theorem all_mk {l : PySem.W.OpenLaw} {w : World} {K : PySem.W.Frag} {h : Heap} {mg : Str → Option Value} {fa : Addr} (X : K.In h) (G : h.Ns mainGlobals mg) (hfa : mg "law" = some (.ref fa))
    {f0 f1 f2 f3 f4 f5 f6 f7 f8 f9 f10 f11 f12 f13 f14 f15 f16 f17 f18 f19 f20 f21 f22 : Addr} {od0 an0 od1 an1 od2 an2 od3 an3 od4 an4 od5 an5 od6 an6 od7 an7 od8 an8 od9 an9 od10 an10 od11 an11 od12 an12 od13 an13 od14 an14 od15 an15 od16 an16 od17 an17 od18 an18 od19 an19 od20 an20 od21 an21 od22 an22 : Option Addr} {sl0 sl1 sl2 sl3 sl4 sl5 sl6 sl7 sl8 sl9 sl10 sl11 sl12 sl13 sl14 sl15 sl16 sl17 sl18 sl19 sl20 sl21 sl22 : Array (Option Value)} {oc0 kV0 dc0 pm0 cd0 ct0 oc1 kV1 dc1 pm1 cd1 ct1 oc2 kV2 dc2 pm2 cd2 ct2 oc3 kV3 dc3 pm3 cd3 ct3 oc4 kV4 dc4 pm4 cd4 ct4 oc5 kV5 dc5 pm5 cd5 ct5 oc6 kV6 dc6 pm6 cd6 ct6 oc7 kV7 dc7 pm7 cd7 ct7 oc8 kV8 dc8 pm8 cd8 ct8 oc9 kV9 dc9 pm9 cd9 ct9 oc10 kV10 dc10 pm10 cd10 ct10 oc11 kV11 dc11 pm11 cd11 ct11 oc12 kV12 dc12 pm12 cd12 ct12 oc13 kV13 dc13 pm13 cd13 ct13 oc14 kV14 dc14 pm14 cd14 ct14 oc15 kV15 dc15 pm15 cd15 ct15 oc16 kV16 dc16 pm16 cd16 ct16 oc17 kV17 dc17 pm17 cd17 ct17 oc18 kV18 dc18 pm18 cd18 ct18 oc19 kV19 dc19 pm19 cd19 ct19 oc20 kV20 dc20 pm20 cd20 ct20 oc21 kV21 dc21 pm21 cd21 ct21 oc22 kV22 dc22 pm22 cd22 ct22 : Value}
    (a0 : PySem.W.nsIn K mainGlobals "is_integer" = some (some (.ref f0))) (l0 : K.lookup f0 = some ⟨oc0, od0, .func (PySem.W.fnOf "is_integer" "is_integer" (defArgs s_is_integer) (defBody s_is_integer) (defScope s_is_integer) .none kV0 dc0 pm0 an0 cd0 ct0), sl0⟩) (c0 : PySem.W.codeIn K cd0 "is_integer" = true) (k0 : PySem.W.keepIn K (.ref f0) = true)
    (a1 : PySem.W.nsIn K mainGlobals "parse_integer" = some (some (.ref f1))) (l1 : K.lookup f1 = some ⟨oc1, od1, .func (PySem.W.fnOf "parse_integer" "parse_integer" (defArgs s_parse_integer) (defBody s_parse_integer) (defScope s_parse_integer) .none kV1 dc1 pm1 an1 cd1 ct1), sl1⟩) (c1 : PySem.W.codeIn K cd1 "parse_integer" = true) (k1 : PySem.W.keepIn K (.ref f1) = true)
    (a2 : PySem.W.nsIn K mainGlobals "parse_parts" = some (some (.ref f2))) (l2 : K.lookup f2 = some ⟨oc2, od2, .func (PySem.W.fnOf "parse_parts" "parse_parts" (defArgs s_parse_parts) (defBody s_parse_parts) (defScope s_parse_parts) .none kV2 dc2 pm2 an2 cd2 ct2), sl2⟩) (c2 : PySem.W.codeIn K cd2 "parse_parts" = true) (k2 : PySem.W.keepIn K (.ref f2) = true)
    (a3 : PySem.W.nsIn K mainGlobals "parse_vertices" = some (some (.ref f3))) (l3 : K.lookup f3 = some ⟨oc3, od3, .func (PySem.W.fnOf "parse_vertices" "parse_vertices" (defArgs s_parse_vertices) (defBody s_parse_vertices) (defScope s_parse_vertices) .none kV3 dc3 pm3 an3 cd3 ct3), sl3⟩) (c3 : PySem.W.codeIn K cd3 "parse_vertices" = true) (k3 : PySem.W.keepIn K (.ref f3) = true)
    (a4 : PySem.W.nsIn K mainGlobals "parse_certificate" = some (some (.ref f4))) (l4 : K.lookup f4 = some ⟨oc4, od4, .func (PySem.W.fnOf "parse_certificate" "parse_certificate" (defArgs s_parse_certificate) (defBody s_parse_certificate) (defScope s_parse_certificate) .none kV4 dc4 pm4 an4 cd4 ct4), sl4⟩) (c4 : PySem.W.codeIn K cd4 "parse_certificate" = true) (k4 : PySem.W.keepIn K (.ref f4) = true)
    (a5 : PySem.W.nsIn K mainGlobals "vertices_text" = some (some (.ref f5))) (l5 : K.lookup f5 = some ⟨oc5, od5, .func (PySem.W.fnOf "vertices_text" "vertices_text" (defArgs s_vertices_text) (defBody s_vertices_text) (defScope s_vertices_text) .none kV5 dc5 pm5 an5 cd5 ct5), sl5⟩) (c5 : PySem.W.codeIn K cd5 "vertices_text" = true) (k5 : PySem.W.keepIn K (.ref f5) = true)
    (a6 : PySem.W.nsIn K mainGlobals "certificate_text" = some (some (.ref f6))) (l6 : K.lookup f6 = some ⟨oc6, od6, .func (PySem.W.fnOf "certificate_text" "certificate_text" (defArgs s_certificate_text) (defBody s_certificate_text) (defScope s_certificate_text) .none kV6 dc6 pm6 an6 cd6 ct6), sl6⟩) (c6 : PySem.W.codeIn K cd6 "certificate_text" = true) (k6 : PySem.W.keepIn K (.ref f6) = true)
    (a7 : PySem.W.nsIn K mainGlobals "_law_pull" = some (some (.ref f7))) (l7 : K.lookup f7 = some ⟨oc7, od7, .func (PySem.W.fnOf "_law_pull" "_law_pull" (defArgs s__law_pull) (defBody s__law_pull) (defScope s__law_pull) .none kV7 dc7 pm7 an7 cd7 ct7), sl7⟩) (c7 : PySem.W.codeIn K cd7 "_law_pull" = true) (k7 : PySem.W.keepIn K (.ref f7) = true)
    (a8 : PySem.W.nsIn K mainGlobals "leads_to_root" = some (some (.ref f8))) (l8 : K.lookup f8 = some ⟨oc8, od8, .func (PySem.W.fnOf "leads_to_root" "leads_to_root" (defArgs s_leads_to_root) (defBody s_leads_to_root) (defScope s_leads_to_root) .none kV8 dc8 pm8 an8 cd8 ct8), sl8⟩) (c8 : PySem.W.codeIn K cd8 "leads_to_root" = true) (k8 : PySem.W.keepIn K (.ref f8) = true)
    (a9 : PySem.W.nsIn K mainGlobals "forest_error" = some (some (.ref f9))) (l9 : K.lookup f9 = some ⟨oc9, od9, .func (PySem.W.fnOf "forest_error" "forest_error" (defArgs s_forest_error) (defBody s_forest_error) (defScope s_forest_error) .none kV9 dc9 pm9 an9 cd9 ct9), sl9⟩) (c9 : PySem.W.codeIn K cd9 "forest_error" = true) (k9 : PySem.W.keepIn K (.ref f9) = true)
    (a10 : PySem.W.nsIn K mainGlobals "parse_forest" = some (some (.ref f10))) (l10 : K.lookup f10 = some ⟨oc10, od10, .func (PySem.W.fnOf "parse_forest" "parse_forest" (defArgs s_parse_forest) (defBody s_parse_forest) (defScope s_parse_forest) .none kV10 dc10 pm10 an10 cd10 ct10), sl10⟩) (c10 : PySem.W.codeIn K cd10 "parse_forest" = true) (k10 : PySem.W.keepIn K (.ref f10) = true)
    (a11 : PySem.W.nsIn K mainGlobals "forest_text" = some (some (.ref f11))) (l11 : K.lookup f11 = some ⟨oc11, od11, .func (PySem.W.fnOf "forest_text" "forest_text" (defArgs s_forest_text) (defBody s_forest_text) (defScope s_forest_text) .none kV11 dc11 pm11 an11 cd11 ct11), sl11⟩) (c11 : PySem.W.codeIn K cd11 "forest_text" = true) (k11 : PySem.W.keepIn K (.ref f11) = true)
    (a12 : PySem.W.nsIn K mainGlobals "_law_written" = some (some (.ref f12))) (l12 : K.lookup f12 = some ⟨oc12, od12, .func (PySem.W.fnOf "_law_written" "_law_written" (defArgs s__law_written) (defBody s__law_written) (defScope s__law_written) .none kV12 dc12 pm12 an12 cd12 ct12), sl12⟩) (c12 : PySem.W.codeIn K cd12 "_law_written" = true) (k12 : PySem.W.keepIn K (.ref f12) = true)
    (a13 : PySem.W.nsIn K mainGlobals "_law_mixed" = some (some (.ref f13))) (l13 : K.lookup f13 = some ⟨oc13, od13, .func (PySem.W.fnOf "_law_mixed" "_law_mixed" (defArgs s__law_mixed) (defBody s__law_mixed) (defScope s__law_mixed) .none kV13 dc13 pm13 an13 cd13 ct13), sl13⟩) (c13 : PySem.W.codeIn K cd13 "_law_mixed" = true) (k13 : PySem.W.keepIn K (.ref f13) = true)
    (a14 : PySem.W.nsIn K mainGlobals "_law_line" = some (some (.ref f14))) (l14 : K.lookup f14 = some ⟨oc14, od14, .func (PySem.W.fnOf "_law_line" "_law_line" (defArgs s__law_line) (defBody s__law_line) (defScope s__law_line) .none kV14 dc14 pm14 an14 cd14 ct14), sl14⟩) (c14 : PySem.W.codeIn K cd14 "_law_line" = true) (k14 : PySem.W.keepIn K (.ref f14) = true)
    (a15 : PySem.W.nsIn K mainGlobals "_law_item" = some (some (.ref f15))) (l15 : K.lookup f15 = some ⟨oc15, od15, .func (PySem.W.fnOf "_law_item" "_law_item" (defArgs s__law_item) (defBody s__law_item) (defScope s__law_item) .none kV15 dc15 pm15 an15 cd15 ct15), sl15⟩) (c15 : PySem.W.codeIn K cd15 "_law_item" = true) (k15 : PySem.W.keepIn K (.ref f15) = true)
    (a16 : PySem.W.nsIn K mainGlobals "_law_heft" = some (some (.ref f16))) (l16 : K.lookup f16 = some ⟨oc16, od16, .func (PySem.W.fnOf "_law_heft" "_law_heft" (defArgs s__law_heft) (defBody s__law_heft) (defScope s__law_heft) .none kV16 dc16 pm16 an16 cd16 ct16), sl16⟩) (c16 : PySem.W.codeIn K cd16 "_law_heft" = true) (k16 : PySem.W.keepIn K (.ref f16) = true)
    (a17 : PySem.W.nsIn K mainGlobals "_law_tops" = some (some (.ref f17))) (l17 : K.lookup f17 = some ⟨oc17, od17, .func (PySem.W.fnOf "_law_tops" "_law_tops" (defArgs s__law_tops) (defBody s__law_tops) (defScope s__law_tops) .none kV17 dc17 pm17 an17 cd17 ct17), sl17⟩) (c17 : PySem.W.codeIn K cd17 "_law_tops" = true) (k17 : PySem.W.keepIn K (.ref f17) = true)
    (a18 : PySem.W.nsIn K mainGlobals "_law_grown" = some (some (.ref f18))) (l18 : K.lookup f18 = some ⟨oc18, od18, .func (PySem.W.fnOf "_law_grown" "_law_grown" (defArgs s__law_grown) (defBody s__law_grown) (defScope s__law_grown) .none kV18 dc18 pm18 an18 cd18 ct18), sl18⟩) (c18 : PySem.W.codeIn K cd18 "_law_grown" = true) (k18 : PySem.W.keepIn K (.ref f18) = true)
    (a19 : PySem.W.nsIn K mainGlobals "_law_wild" = some (some (.ref f19))) (l19 : K.lookup f19 = some ⟨oc19, od19, .func (PySem.W.fnOf "_law_wild" "_law_wild" (defArgs s__law_wild) (defBody s__law_wild) (defScope s__law_wild) .none kV19 dc19 pm19 an19 cd19 ct19), sl19⟩) (c19 : PySem.W.codeIn K cd19 "_law_wild" = true) (k19 : PySem.W.keepIn K (.ref f19) = true)
    (a20 : PySem.W.nsIn K mainGlobals "_law_forest" = some (some (.ref f20))) (l20 : K.lookup f20 = some ⟨oc20, od20, .func (PySem.W.fnOf "_law_forest" "_law_forest" (defArgs s__law_forest) (defBody s__law_forest) (defScope s__law_forest) .none kV20 dc20 pm20 an20 cd20 ct20), sl20⟩) (c20 : PySem.W.codeIn K cd20 "_law_forest" = true) (k20 : PySem.W.keepIn K (.ref f20) = true)
    (a21 : PySem.W.nsIn K mainGlobals "_law_well" = some (some (.ref f21))) (l21 : K.lookup f21 = some ⟨oc21, od21, .func (PySem.W.fnOf "_law_well" "_law_well" (defArgs s__law_well) (defBody s__law_well) (defScope s__law_well) .none kV21 dc21 pm21 an21 cd21 ct21), sl21⟩) (c21 : PySem.W.codeIn K cd21 "_law_well" = true) (k21 : PySem.W.keepIn K (.ref f21) = true)
    (a22 : PySem.W.nsIn K mainGlobals "law" = some (some (.ref f22))) (l22 : K.lookup f22 = some ⟨oc22, od22, .func (PySem.W.fnOf "law" "law" (defArgs s_law) (defBody s_law) (defScope s_law) .none kV22 dc22 pm22 an22 cd22 ct22), sl22⟩) (c22 : PySem.W.codeIn K cd22 "law" = true) (k22 : PySem.W.keepIn K (.ref f22) = true)
    {R0 N0 I0 : Addr}
    (aN0 : PySem.W.nsIn K mainGlobals "BadText" = some (some (.ref N0)))
    (aR0 : PySem.W.nsIn K mainGlobals "BadText" = some (some (.ref R0)))
    (kR0 : PySem.W.keepIn K (.ref R0) = true)
    (sR0 : PySem.W.subIn K (.ref R0) (.type "BaseException") = some true)
    (tR0 : PySem.W.typeIn K (.ref R0) = some (.type "type"))
    (iR0 : PySem.W.findIn K (.ref R0) "__init__" = some (some (.ref I0)))
    (jR0 : PySem.W.typeIn K (.ref I0) = some (.type "function"))
    {nm0 qn0 : Str} {D0 : Addr} {bs0 bm0 sub0 : List Value} {sn0 : List Str} {ab0 : Bool} {col0 : Option Bool} {dd0 : Option Addr} {kx00 kx10 kx20 kx30 kx50 : Option Value}
    (lR0 : K.lookup R0 = some (excClassObj nm0 qn0 R0 D0 bs0 bm0 true sn0 sub0 ab0 col0 dd0 kx00 kx10 kx20 kx30 kx50 "ValueError.__new__"))
    (bR0 : PySem.HandSPX.refsVE bm0 = true)
    (uR0 : PySem.W.findIn K (.ref R0) "__setattr__" = some (some (.builtin "object.__setattr__")))
    (fR0 : PySem.W.findIn K (.ref R0) "index" = some none)
    {iod0 ian0 : Option Addr} {isl0 : Array (Option Value)} {ioc0 ikV0 idc0 ipm0 icd0 ict0 : Value}
    (LR0 : K.lookup I0 = some ⟨ioc0, iod0, .func (PySem.W.fnOf "__init__" "BadText.__init__" (defArgs s_ini0) (defBody s_ini0) (defScope s_ini0) .none ikV0 idc0 ipm0 ian0 icd0 ict0), isl0⟩)
    (CR0 : PySem.W.codeIn K icd0 "BadText.__init__" = true)
    (KR0 : PySem.W.keepIn K (.ref I0) = true)
    (gR0 : PySem.W.findIn K (.ref R0) "__getattribute__" = some (some (.builtin "BaseException.__getattribute__")))
    (nR0 : PySem.W.findIn K (.ref R0) "__getattr__" = some none)
    (dR0 : PySem.W.hasDictIn K R0 = true)
    (cR0 : PySem.W.findIn K (.ref R0) "__class__" = some (some (.builtin "object.__class__")))
    (mR0 : PySem.W.mroIn K R0 (.type "object") = some true)
    (v0 : PySem.W.kitOne K (.ref R0) (.type "ValueError") = some true)
    (q0_0 : PySem.W.kitOne K (.ref R0) (.ref N0) = some true)
    (x0_0 : PySem.W.exmOne K (.ref R0) (.ref N0) = some true)
    (hspec : PySem.W.specialIn K (.builtin "object.__class__") "__get__" = some (some (.builtin "getset_descriptor.__get__")))
    (htake : PySem.W.takesIn K (.builtin "object.__class__") = some true)
    (z_abs : PySem.W.nsIn K mainGlobals "abs" = some none)
    (z_all : PySem.W.nsIn K mainGlobals "all" = some none)
    (z_bool : PySem.W.nsIn K mainGlobals "bool" = some none)
    (z_enumerate : PySem.W.nsIn K mainGlobals "enumerate" = some none)
    (z_int : PySem.W.nsIn K mainGlobals "int" = some none)
    (z_isinstance : PySem.W.nsIn K mainGlobals "isinstance" = some none)
    (z_len : PySem.W.nsIn K mainGlobals "len" = some none)
    (z_list : PySem.W.nsIn K mainGlobals "list" = some none)
    (z_range : PySem.W.nsIn K mainGlobals "range" = some none)
    (z_repr : PySem.W.nsIn K mainGlobals "repr" = some none)
    (z_sorted : PySem.W.nsIn K mainGlobals "sorted" = some none)
    (z_str : PySem.W.nsIn K mainGlobals "str" = some none)
    (z_tuple : PySem.W.nsIn K mainGlobals "tuple" = some none)
    {t_DIGITS : Tok} (z_DIGITS : PySem.W.nsIn K mainGlobals "DIGITS" = some (some (.str "0123456789" t_DIGITS)))
    {t_JOINED : Tok} (z_JOINED : PySem.W.nsIn K mainGlobals "JOINED" = some (some (.str "history" t_JOINED)))
    {t_LONGEST : Tok} (z_LONGEST : PySem.W.nsIn K mainGlobals "LONGEST" = some (some (.int 13 t_LONGEST)))
    {t_MAX_VERTICES : Tok} (z_MAX_VERTICES : PySem.W.nsIn K mainGlobals "MAX_VERTICES" = some (some (.int 24 t_MAX_VERTICES)))
    {t_NONE : Tok} (z_NONE : PySem.W.nsIn K mainGlobals "NONE" = some (some (.str "none" t_NONE)))
    {t_OVERWEIGHT : Tok} (z_OVERWEIGHT : PySem.W.nsIn K mainGlobals "OVERWEIGHT" = some (some (.str "heavy" t_OVERWEIGHT)))
    : ∃ (fd : FuncData) (ct : Nat → Addr), (∀ (s : Shared) (v : Value), BindsTo s fd ⟨[v], []⟩ [("_law_script", v)]) ∧ ∀ base : Heap, K.In base → base.Ns mainGlobals mg → FnG l.prog w K mg base 6 fa fd ["_law_script"] (lF K ct f_law) := by
  have e := hfa.symm.trans (PySem.W.mg_of X G a22)
  cases e
  have T : Txt mg := ⟨PySem.W.mg_none_of X G z_abs, PySem.W.mg_none_of X G z_all, PySem.W.mg_none_of X G z_bool, PySem.W.mg_none_of X G z_enumerate, PySem.W.mg_none_of X G z_int, PySem.W.mg_none_of X G z_isinstance, PySem.W.mg_none_of X G z_len, PySem.W.mg_none_of X G z_list, PySem.W.mg_none_of X G z_range, PySem.W.mg_none_of X G z_repr, PySem.W.mg_none_of X G z_sorted, PySem.W.mg_none_of X G z_str, PySem.W.mg_none_of X G z_tuple, ⟨_, PySem.W.mg_of X G z_DIGITS⟩, ⟨_, PySem.W.mg_of X G z_JOINED⟩, ⟨_, PySem.W.mg_of X G z_LONGEST⟩, ⟨_, PySem.W.mg_of X G z_MAX_VERTICES⟩, ⟨_, PySem.W.mg_of X G z_NONE⟩, ⟨_, PySem.W.mg_of X G z_OVERWEIGHT⟩⟩
  have F0 := fun_mk (st := s_is_integer) l0 c0 k0
  have F1 := fun_mk (st := s_parse_integer) l1 c1 k1
  have F2 := fun_mk (st := s_parse_parts) l2 c2 k2
  have F3 := fun_mk (st := s_parse_vertices) l3 c3 k3
  have F4 := fun_mk (st := s_parse_certificate) l4 c4 k4
  have F5 := fun_mk (st := s_vertices_text) l5 c5 k5
  have F6 := fun_mk (st := s_certificate_text) l6 c6 k6
  have F7 := fun_mk (st := s__law_pull) l7 c7 k7
  have F8 := fun_mk (st := s_leads_to_root) l8 c8 k8
  have F9 := fun_mk (st := s_forest_error) l9 c9 k9
  have F10 := fun_mk (st := s_parse_forest) l10 c10 k10
  have F11 := fun_mk (st := s_forest_text) l11 c11 k11
  have F12 := fun_mk (st := s__law_written) l12 c12 k12
  have F13 := fun_mk (st := s__law_mixed) l13 c13 k13
  have F14 := fun_mk (st := s__law_line) l14 c14 k14
  have F15 := fun_mk (st := s__law_item) l15 c15 k15
  have F16 := fun_mk (st := s__law_heft) l16 c16 k16
  have F17 := fun_mk (st := s__law_tops) l17 c17 k17
  have F18 := fun_mk (st := s__law_grown) l18 c18 k18
  have F19 := fun_mk (st := s__law_wild) l19 c19 k19
  have F20 := fun_mk (st := s__law_forest) l20 c20 k20
  have F21 := fun_mk (st := s__law_well) l21 c21 k21
  have F22 := fun_mk (st := s_law) l22 c22 k22
  let ctf : Nat → Addr := fun c => [R0].getD c fa
  let clf : Nat → Addr := fun c => [N0].getD c fa
  refine ⟨PySem.W.fnOf "law" "law" (defArgs s_law) (defBody s_law) (defScope s_law) .none kV22 dc22 pm22 an22 cd22 ct22, ctf, fun s v => .of_eq rfl, fun base _ _ => ?_⟩
  have TX : Txe l.prog w K mg base ctf clf := {
    r_0 := ⟨PySem.W.mg_of X G aR0, ⟨⟨_, _, _, _, _, _, _, _, _, _, _, _, _, _, _, lR0, bR0⟩, uR0, sR0, tR0, kR0⟩, fR0, ⟨gR0, nR0, sR0, dR0⟩, ⟨_, _, iR0, jR0, Fun.binds (fun_mk (st := s_ini0) LR0 CR0 KR0) (fun _ _ _ _ _ _ us hl => match us, hl with | [_, _], _ => rfl), ini_ok (p0 := _) (p1 := _) (p2 := _) (pf := _) ⟨⟨_, _, _, _, _, _, _, _, _, _, _, _, _, _, _, lR0, bR0⟩, uR0, sR0, tR0, kR0⟩ fR0 (fun_mk (st := s_ini0) LR0 CR0 KR0) ⟨rfl, rfl, rfl, by decide +kernel, rfl, by decide +kernel, by decide +kernel⟩ rfl rfl (by decide +kernel) (by decide +kernel) rfl⟩⟩
    c_0 := PySem.W.mg_of X G aN0
    is_0 := by
      intro c b h
      rcases c with _ | c
      · cases h; exact q0_0
      · simp at h
    cat_0 := by
      intro c b h
      rcases c with _ | c
      · cases h; exact x0_0
      · simp at h
    is_ve := by
      intro c b h
      rcases c with _ | c
      · cases h; exact v0
      · simp at h
    xf := by
      intro c h
      rcases c with _ | c
      · exact ⟨gR0, nR0, sR0, dR0⟩
      · omega
    xc := by
      intro c h
      rcases c with _ | c
      · exact ⟨gR0, nR0, sR0, dR0, cR0, hspec, htake, mR0⟩
      · omega }
  have C_is_integer : Cal l.prog w K mg base ctf "is_integer" 1 ["value", "low", "high"] f_is_integer := cal_of F0 (ok_is_integer F0 T TX ) (PySem.W.mg_of X G a0) fun _ _ _ _ _ _ us hl => match us, hl with | [_, _, _], _ => rfl
  have C_parse_integer : Cal l.prog w K mg base ctf "parse_integer" 1 ["part"] f_parse_integer := cal_of F1 (ok_parse_integer F1 T TX ) (PySem.W.mg_of X G a1) fun _ _ _ _ _ _ us hl => match us, hl with | [_], _ => rfl
  have C_parse_parts : Cal l.prog w K mg base ctf "parse_parts" 3 ["value", "is_free"] f_parse_parts := cal_of F2 (ok_parse_parts F2 T TX C_is_integer C_parse_integer) (PySem.W.mg_of X G a2) fun _ _ _ _ _ _ us hl => match us, hl with | [_, _], _ => rfl
  have C_parse_vertices : Cal l.prog w K mg base ctf "parse_vertices" 4 ["value"] f_parse_vertices := cal_of F3 (ok_parse_vertices F3 T TX C_parse_parts) (PySem.W.mg_of X G a3) fun _ _ _ _ _ _ us hl => match us, hl with | [_], _ => rfl
  have C_parse_certificate : Cal l.prog w K mg base ctf "parse_certificate" 5 ["value"] f_parse_certificate := cal_of F4 (ok_parse_certificate F4 T TX C_parse_vertices) (PySem.W.mg_of X G a4) fun _ _ _ _ _ _ us hl => match us, hl with | [_], _ => rfl
  have C_vertices_text : Cal l.prog w K mg base ctf "vertices_text" 1 ["vertices"] f_vertices_text := cal_of F5 (ok_vertices_text F5 T TX ) (PySem.W.mg_of X G a5) fun _ _ _ _ _ _ us hl => match us, hl with | [_], _ => rfl
  have C_certificate_text : Cal l.prog w K mg base ctf "certificate_text" 2 ["certificate"] f_certificate_text := cal_of F6 (ok_certificate_text F6 T TX C_vertices_text) (PySem.W.mg_of X G a6) fun _ _ _ _ _ _ us hl => match us, hl with | [_], _ => rfl
  have C__law_pull : Cal l.prog w K mg base ctf "_law_pull" 1 ["_law_well_here", "_law_many"] f__law_pull := cal_of F7 (ok__law_pull F7 T TX ) (PySem.W.mg_of X G a7) fun _ _ _ _ _ _ us hl => match us, hl with | [_, _], _ => rfl
  have C_leads_to_root : Cal l.prog w K mg base ctf "leads_to_root" 1 ["parents", "vertex"] f_leads_to_root := cal_of F8 (ok_leads_to_root F8 T TX ) (PySem.W.mg_of X G a8) fun _ _ _ _ _ _ us hl => match us, hl with | [_, _], _ => rfl
  have C_forest_error : Cal l.prog w K mg base ctf "forest_error" 2 ["value"] f_forest_error := cal_of F9 (ok_forest_error F9 T TX C_leads_to_root C_is_integer) (PySem.W.mg_of X G a9) fun _ _ _ _ _ _ us hl => match us, hl with | [_], _ => rfl
  have C_parse_forest : Cal l.prog w K mg base ctf "parse_forest" 4 ["value"] f_parse_forest := cal_of F10 (ok_parse_forest F10 T TX C_forest_error C_parse_parts) (PySem.W.mg_of X G a10) fun _ _ _ _ _ _ us hl => match us, hl with | [_], _ => rfl
  have C_forest_text : Cal l.prog w K mg base ctf "forest_text" 1 ["forest"] f_forest_text := cal_of F11 (ok_forest_text F11 T TX ) (PySem.W.mg_of X G a11) fun _ _ _ _ _ _ us hl => match us, hl with | [_], _ => rfl
  have C__law_written : Cal l.prog w K mg base ctf "_law_written" 1 ["_law_items"] f__law_written := cal_of F12 (ok__law_written F12 T TX ) (PySem.W.mg_of X G a12) fun _ _ _ _ _ _ us hl => match us, hl with | [_], _ => rfl
  have C__law_mixed : Cal l.prog w K mg base ctf "_law_mixed" 2 ["_law_well_here", "_law_items"] f__law_mixed := cal_of F13 (ok__law_mixed F13 T TX C__law_pull) (PySem.W.mg_of X G a13) fun _ _ _ _ _ _ us hl => match us, hl with | [_, _], _ => rfl
  have C__law_line : Cal l.prog w K mg base ctf "_law_line" 1 ["_law_parents", "_law_vertex"] f__law_line := cal_of F14 (ok__law_line F14 T TX ) (PySem.W.mg_of X G a14) fun _ _ _ _ _ _ us hl => match us, hl with | [_, _], _ => rfl
  have C__law_item : Cal l.prog w K mg base ctf "_law_item" 2 ["_law_well_here", "_law_items"] f__law_item := cal_of F15 (ok__law_item F15 T TX C__law_pull) (PySem.W.mg_of X G a15) fun _ _ _ _ _ _ us hl => match us, hl with | [_, _], _ => rfl
  have C__law_heft : Cal l.prog w K mg base ctf "_law_heft" 1 ["_law_parents", "_law_vertex"] f__law_heft := cal_of F16 (ok__law_heft F16 T TX ) (PySem.W.mg_of X G a16) fun _ _ _ _ _ _ us hl => match us, hl with | [_, _], _ => rfl
  have C__law_tops : Cal l.prog w K mg base ctf "_law_tops" 1 ["_law_parents"] f__law_tops := cal_of F17 (ok__law_tops F17 T TX ) (PySem.W.mg_of X G a17) fun _ _ _ _ _ _ us hl => match us, hl with | [_], _ => rfl
  have C__law_grown : Cal l.prog w K mg base ctf "_law_grown" 3 ["_law_well_here", "_law_most"] f__law_grown := cal_of F18 (ok__law_grown F18 T TX C__law_item C__law_pull C__law_heft C__law_mixed C__law_tops) (PySem.W.mg_of X G a18) fun _ _ _ _ _ _ us hl => match us, hl with | [_, _], _ => rfl
  have C__law_wild : Cal l.prog w K mg base ctf "_law_wild" 3 ["_law_well_here", "_law_most"] f__law_wild := cal_of F19 (ok__law_wild F19 T TX C__law_pull C__law_item C__law_mixed) (PySem.W.mg_of X G a19) fun _ _ _ _ _ _ us hl => match us, hl with | [_, _], _ => rfl
  have C__law_forest : Cal l.prog w K mg base ctf "_law_forest" 4 ["_law_well_here", "_law_most"] f__law_forest := cal_of F20 (ok__law_forest F20 T TX C__law_line C__law_pull C__law_grown C__law_wild) (PySem.W.mg_of X G a20) fun _ _ _ _ _ _ us hl => match us, hl with | [_, _], _ => rfl
  have C__law_well : Cal l.prog w K mg base ctf "_law_well" 1 ["_law_script"] f__law_well := cal_of F21 (ok__law_well F21 T TX ) (PySem.W.mg_of X G a21) fun _ _ _ _ _ _ us hl => match us, hl with | [_], _ => rfl
  exact ok_law F22 T TX C_parse_certificate C_certificate_text C__law_pull C_parse_vertices C_parse_forest C_vertices_text C_forest_text C__law_written C__law_mixed C__law_forest C__law_well
end
end LW
namespace LM
def par (F : List Nat) (v : Nat) : Nat := F.getD v v
structure IsF (F : List Nat) : Prop where
  pos : 0 < F.length
  le : F.length ≤ 24
  lt : ∀ v, v < F.length → par F v < F.length
  rank : ∃ r : Nat → Nat, ∀ v, v < F.length → r v < F.length ∧ (par F v ≠ v → r (par F v) < r v)
theorem par_get {F : List Nat} {v : Nat} (h : v < F.length) : F[v]? = some (par F v) := by
  unfold par
  rw [List.getD_eq_getElem?_getD, List.getElem?_eq_getElem h]; rfl
def pathF (F : List Nat) : Nat → Nat → List Nat
  | 0, v => [v]
  | n + 1, v => if par F v = v then [v] else v :: pathF F n (par F v)
def path (F : List Nat) (v : Nat) : List Nat := pathF F F.length v
theorem pathF_enough {F : List Nat} (hF : ∀ v, v < F.length → par F v < F.length) {r : Nat → Nat} (hr : ∀ v, v < F.length → r v < F.length ∧ (par F v ≠ v → r (par F v) < r v)) :
    ∀ (n m v : Nat), v < F.length → r v ≤ n → r v ≤ m → pathF F n v = pathF F m v := by
  intro n
  induction n with
  | zero =>
    intro m v hv h1 h2
    have hp : par F v = v := by
      by_cases h : par F v = v
      · exact h
      · have := (hr v hv).2 h; omega
    cases m with
    | zero => rfl
    | succ m => simp only [pathF, if_pos hp]
  | succ n ih =>
    intro m v hv h1 h2
    cases m with
    | zero =>
      have hp : par F v = v := by
        by_cases h : par F v = v
        · exact h
        · have := (hr v hv).2 h; omega
      simp only [pathF, if_pos hp]
    | succ m =>
      by_cases h : par F v = v
      · simp only [pathF, if_pos h]
      · have h3 := (hr v hv).2 h
        simp only [pathF, if_neg h]
        rw [ih m (par F v) (hF v hv) (by omega) (by omega)]
theorem path_root {F : List Nat} (hF : IsF F) {v : Nat} (h : par F v = v) : path F v = [v] := by
  unfold path
  have := hF.pos
  cases e : F.length with
  | zero => omega
  | succ n => simp only [pathF, if_pos h]
theorem path_up {F : List Nat} (hF : IsF F) {v : Nat} (hv : v < F.length) (h : par F v ≠ v) : path F v = v :: path F (par F v) := by
  obtain ⟨r, hr⟩ := hF.rank
  have h1 := (hr v hv).1
  have h2 := (hr v hv).2 h
  unfold path
  rw [pathF_enough hF.lt hr F.length (F.length - 1 + 1) v hv (by omega) (by omega)]
  simp only [pathF, if_neg h]
  rw [pathF_enough hF.lt hr (F.length - 1) F.length (par F v) (hF.lt v hv) (by omega) (by have := (hr (par F v) (hF.lt v hv)).1; omega)]
theorem pathF_len (F : List Nat) : ∀ n v, 0 < (pathF F n v).length ∧ (pathF F n v).length ≤ n + 1
  | 0, v => by simp [pathF]
  | n + 1, v => by
    have := pathF_len F n (par F v)
    simp only [pathF]
    split
    · simp
    · simp only [List.length_cons]; omega
theorem path_len {F : List Nat} (hF : IsF F) (v : Nat) : 0 < (path F v).length ∧ (path F v).length ≤ 25 := by
  have := pathF_len F F.length v
  have := hF.le
  unfold path
  omega
theorem path_lt {F : List Nat} (hF : IsF F) {v : Nat} (hv : v < F.length) : ∀ u ∈ path F v, u < F.length := by
  have : ∀ n v, v < F.length → ∀ u ∈ pathF F n v, u < F.length := by
    intro n
    induction n with
    | zero => intro v hv u hu; simp [pathF] at hu; omega
    | succ n ih =>
      intro v hv u hu
      simp only [pathF] at hu
      split at hu
      · simp at hu; omega
      · rcases List.mem_cons.mp hu with e | e
        · omega
        · exact ih _ (hF.lt v hv) u e
  exact this _ v hv
/-- the number of steps -/
def dep (F : List Nat) (v : Nat) : Int := (path F v).length - 1
/-- the greatest number of steps to each vertex: paths one after another -/
def mx (i j : Int) : Int := if j > i then j else i
def hUp : List Int → Int → List Nat → List Int
  | h, _, [] => h
  | h, c, v :: r => hUp (h.set v (mx (h.getD v 0) c)) (c + 1) r
theorem hUp_length : ∀ (h : List Int) (c : Int) (p : List Nat), (hUp h c p).length = h.length
  | h, _, [] => rfl
  | h, c, v :: r => by rw [hUp, hUp_length, List.length_set]
theorem hUp_nn : ∀ (h : List Int) (c : Int) (p : List Nat), 0 ≤ c → (∀ x ∈ h, 0 ≤ x) → ∀ x ∈ hUp h c p, 0 ≤ x
  | h, _, [], _, hh => hh
  | h, c, v :: r, hc, hh => by
    rw [hUp]
    refine hUp_nn _ _ r (by omega) fun x hx => ?_
    rcases List.mem_or_eq_of_mem_set hx with e | e
    · exact hh x e
    · subst e
      unfold mx
      split
      · exact hc
      · by_cases hv : v < h.length
        · rw [List.getD_eq_getElem?_getD, List.getElem?_eq_getElem hv]
          exact hh _ (List.getElem_mem hv)
        · rw [List.getD_eq_getElem?_getD, List.getElem?_eq_none (by omega)]
          exact Int.le_refl 0
theorem hUp_first {h : List Int} {v : Nat} {r : List Nat} (hh : ∀ x ∈ h, 0 ≤ x) : hUp h 0 (v :: r) = hUp h 1 r := by
  rw [hUp]
  have : h.set v (mx (h.getD v 0) 0) = h := by
    apply List.ext_getElem?
    intro i
    by_cases hi : v = i
    · subst hi
      by_cases hv : v < h.length
      · rw [List.getElem?_set_self hv, List.getD_eq_getElem?_getD, List.getElem?_eq_getElem hv]
        have := hh _ (List.getElem_mem hv)
        unfold mx
        simp only [Option.getD_some]
        rw [if_neg (by omega)]
      · rw [List.getElem?_eq_none (by rw [List.length_set]; omega), List.getElem?_eq_none (by omega)]
    · rw [List.getElem?_set_ne hi]
  rw [this]; rfl
/-- bounds of the entries -/
theorem hUp_le : ∀ (h : List Int) (c : Int) (p : List Nat) (B : Int), 0 ≤ B → c + p.length ≤ B → (∀ x ∈ h, x ≤ B) → ∀ x ∈ hUp h c p, x ≤ B
  | h, _, [], _, _, _, hh => hh
  | h, c, v :: r, B, hB, hc, hh => by
    rw [hUp]
    rw [List.length_cons] at hc
    refine hUp_le _ _ r B hB (by omega) fun x hx => ?_
    rcases List.mem_or_eq_of_mem_set hx with e | e
    · exact hh x e
    · subst e
      unfold mx
      split
      · omega
      · by_cases hv : v < h.length
        · rw [List.getD_eq_getElem?_getD, List.getElem?_eq_getElem hv]
          exact hh _ (List.getElem_mem hv)
        · rw [List.getD_eq_getElem?_getD, List.getElem?_eq_none (by omega)]
          exact hB
/-- all paths up to a vertex, from the greatest heights so far -/
def hAll (F : List Nat) : Nat → List Int
  | 0 => List.replicate F.length 0
  | n + 1 => hUp (hAll F n) 1 (path F n).tail
theorem hAll_length (F : List Nat) : ∀ n, (hAll F n).length = F.length
  | 0 => List.length_replicate
  | n + 1 => by rw [hAll, hUp_length, hAll_length F n]
theorem hAll_nn (F : List Nat) : ∀ n, ∀ x ∈ hAll F n, 0 ≤ x
  | 0, x, h => by rw [List.eq_of_mem_replicate h]; exact Int.le_refl 0
  | n + 1, x, h => hUp_nn _ 1 _ (by decide) (hAll_nn F n) x h
theorem hAll_le {F : List Nat} (hF : IsF F) : ∀ n, ∀ x ∈ hAll F n, x ≤ 100
  | 0, x, h => by rw [List.eq_of_mem_replicate h]; decide
  | n + 1, x, h => hUp_le _ 1 _ 100 (by decide) (by have := (path_len hF n).2; rw [List.length_tail]; omega) (hAll_le hF n) x h
/-- the law's way: the first entry of a path counts 0 -/
theorem hAll_law (F : List Nat) (hF : IsF F) (n : Nat) : hUp (hAll F n) 0 (path F n) = hAll F (n + 1) := by
  have h := (path_len hF n).1
  rw [hAll]
  cases e : path F n with
  | nil => rw [e] at h; simp at h
  | cons v r => exact hUp_first (hAll_nn F n)
def nI (F : List Nat) : List Int := F.map fun n : Nat => (n : Int)
theorem nI_length (F : List Nat) : (nI F).length = F.length := List.length_map _
end LM
namespace LM
theorem dep_nn {F : List Nat} (hF : IsF F) (v : Nat) : 0 ≤ dep F v ∧ dep F v ≤ 24 := by
  have := path_len hF v
  unfold dep
  omega
end LM
namespace LM
/-- a forest made along an order: parents come earlier -/
structure Along (od F : List Nat) (n : Nat) : Prop where
  len : F.length = n
  up : ∀ j, j < n → par F (od.getD j 0) = od.getD j 0 ∨ ∃ i, i < j ∧ par F (od.getD j 0) = od.getD i 0
theorem par_range {n v : Nat} (h : v < n) : par (List.range n) v = v := by
  unfold par
  rw [List.getD_eq_getElem?_getD, List.getElem?_range h]; rfl
theorem mem_od {od : List Nat} {n j : Nat} (hp : od.Perm (List.range n)) (h : j < n) : od.getD j 0 < n := by
  have hl : od.length = n := by rw [hp.length_eq, List.length_range]
  rw [List.getD_eq_getElem?_getD, List.getElem?_eq_getElem (by omega)]
  exact List.mem_range.mp (hp.mem_iff.mp (List.getElem_mem (by omega)))
theorem inj_od {od : List Nat} {n i j : Nat} (hp : od.Perm (List.range n)) (hi : i < n) (hj : j < n) (e : od.getD i 0 = od.getD j 0) : i = j := by
  have hl : od.length = n := by rw [hp.length_eq, List.length_range]
  have nd : od.Nodup := hp.nodup_iff.mpr List.nodup_range
  rw [List.getD_eq_getElem?_getD, List.getD_eq_getElem?_getD, List.getElem?_eq_getElem (by omega), List.getElem?_eq_getElem (by omega)] at e
  exact (List.getElem_inj nd).mp e
theorem along_start {od : List Nat} {n : Nat} (hp : od.Perm (List.range n)) : Along od (List.range n) n :=
  ⟨List.length_range, fun j hj => .inl (par_range (mem_od hp hj))⟩
theorem par_set {F : List Nat} {v x u : Nat} (hv : v < F.length) : par (F.set v x) u = if u = v then x else par F u := by
  unfold par
  rw [List.getD_eq_getElem?_getD, List.getD_eq_getElem?_getD]
  by_cases h : u = v
  · subst h
    rw [if_pos rfl, List.getElem?_set_self hv]; rfl
  · rw [if_neg h, List.getElem?_set_ne (Ne.symm h)]
theorem Along.set {od F : List Nat} {n k w : Nat} (hp : od.Perm (List.range n)) (h : Along od F n) (hk : k < n) (hw : w < k) : Along od (F.set (od.getD k 0) (od.getD w 0)) n := by
  have hv : od.getD k 0 < F.length := by rw [h.len]; exact mem_od hp hk
  refine ⟨by rw [List.length_set]; exact h.len, fun j hj => ?_⟩
  rw [par_set hv]
  by_cases e : od.getD j 0 = od.getD k 0
  · have : j = k := inj_od hp hj hk e
    subst this
    rw [if_pos rfl]
    exact .inr ⟨w, hw, rfl⟩
  · rw [if_neg e]
    exact h.up j hj
theorem Along.isF {od F : List Nat} {n : Nat} (hp : od.Perm (List.range n)) (h : Along od F n) (h1 : 1 ≤ n) (h24 : n ≤ 24) : IsF F := by
  have hl : od.length = n := by rw [hp.length_eq, List.length_range]
  have nd : od.Nodup := hp.nodup_iff.mpr List.nodup_range
  have at' : ∀ v, v < n → ∃ j, j < n ∧ od.getD j 0 = v := fun v hv => by
    have hm : v ∈ od := hp.mem_iff.mpr (List.mem_range.mpr hv)
    obtain ⟨j, hj, e⟩ := List.getElem_of_mem hm
    exact ⟨j, by omega, by rw [List.getD_eq_getElem?_getD, List.getElem?_eq_getElem hj]; exact e⟩
  have ix : ∀ j, j < n → od.idxOf (od.getD j 0) = j := fun j hj => by
    rw [List.getD_eq_getElem?_getD, List.getElem?_eq_getElem (by omega)]
    exact nd.idxOf_getElem j (by omega)
  refine ⟨by rw [h.len]; exact h1, by rw [h.len]; exact h24, fun v hv => ?_, fun v => od.idxOf v, fun v hv => ?_⟩
  · rw [h.len] at hv ⊢
    obtain ⟨j, hj, rfl⟩ := at' v hv
    rcases h.up j hj with e | ⟨i, hi, e⟩
    · rw [e]; exact mem_od hp hj
    · rw [e]; exact mem_od hp (by omega)
  · rw [h.len] at hv ⊢
    obtain ⟨j, hj, rfl⟩ := at' v hv
    refine ⟨by show od.idxOf (od.getD j 0) < n; rw [ix j hj]; exact hj, fun hne => ?_⟩
    rcases h.up j hj with e | ⟨i, hi, e⟩
    · exact absurd e hne
    · show od.idxOf (par F (od.getD j 0)) < od.idxOf (od.getD j 0)
      rw [e, ix i (by omega), ix j hj]; exact hi
end LM
namespace LM
theorem isF_last : IsF (0 :: List.range 23) := by
  refine ⟨by decide, by decide, ?_, fun v => v, ?_⟩
  · have : ∀ v : Fin 24, par (0 :: List.range 23) v.1 < 24 := by decide
    intro v hv
    exact this ⟨v, hv⟩
  · have : ∀ v : Fin 24, v.1 < 24 ∧ (par (0 :: List.range 23) v.1 ≠ v.1 → par (0 :: List.range 23) v.1 < v.1) := by decide
    intro v hv
    exact this ⟨v, hv⟩
end LM
namespace LM
def S (n : Nat) (f : Nat → Nat) : Nat := ((List.range n).map f).sum
theorem S_zero (f : Nat → Nat) : S 0 f = 0 := rfl
theorem S_succ (n : Nat) (f : Nat → Nat) : S (n + 1) f = S n f + f n := by
  unfold S
  rw [List.range_succ, List.map_append, List.sum_append]; simp
theorem S_congr {n : Nat} {f g : Nat → Nat} (h : ∀ k, k < n → f k = g k) : S n f = S n g := by
  induction n with
  | zero => rfl
  | succ n ih => rw [S_succ, S_succ, ih fun k hk => h k (by omega), h n (by omega)]
theorem S_le {n : Nat} {f g : Nat → Nat} (h : ∀ k, k < n → f k ≤ g k) : S n f ≤ S n g := by
  induction n with
  | zero => exact Nat.le_refl _
  | succ n ih =>
    have h1 := ih fun k hk => h k (by omega)
    have h2 := h n (by omega)
    rw [S_succ, S_succ]; omega
theorem S_add (n : Nat) (f g : Nat → Nat) : S n (fun k => f k + g k) = S n f + S n g := by
  induction n with
  | zero => rfl
  | succ n ih => rw [S_succ, S_succ, S_succ, ih]; omega
theorem S_const (n c : Nat) : S n (fun _ => c) = n * c := by
  induction n with
  | zero => simp [S]
  | succ n ih => rw [S_succ, ih, Nat.succ_mul]
theorem S_nil (n : Nat) : S n (fun _ => 0) = 0 := by rw [S_const]; omega
theorem S_one {n a : Nat} (h : a < n) (x : Nat) : S n (fun k => if k = a then x else 0) = x := by
  induction n with
  | zero => omega
  | succ n ih =>
    rw [S_succ]
    by_cases e : n = a
    · subst e
      rw [if_pos rfl, S_congr (g := fun _ => 0) fun k hk => if_neg (by omega), S_nil]; omega
    · rw [ih (by omega), if_neg e]; omega
theorem S_none {n : Nat} {f : Nat → Nat} (h : ∀ k, k < n → f k = 0) : S n f = 0 := by rw [S_congr h, S_nil]
theorem S_swap (n m : Nat) (f : Nat → Nat → Nat) : S n (fun i => S m (fun j => f i j)) = S m (fun j => S n (fun i => f i j)) := by
  induction n with
  | zero => rw [S_zero, S_none]; intro k _; rfl
  | succ n ih =>
    rw [S_succ, ih, ← S_add]
    exact S_congr fun k _ => by rw [S_succ]
theorem S_at {n a : Nat} (h : a < n) (f : Nat → Nat) : f a ≤ S n f := by
  induction n with
  | zero => omega
  | succ n ih =>
    rw [S_succ]
    by_cases e : n = a
    · subst e; omega
    · have := ih (by omega); omega
/-- one place taken out -/
theorem S_out {n a : Nat} (h : a < n) (f : Nat → Nat) : S n f = S n (fun k => if k = a then 0 else f k) + f a := by
  rw [← S_one h (f a), ← S_add]
  refine S_congr fun k _ => ?_
  by_cases e : k = a
  · subst e; simp
  · simp [e]
theorem S_lt {n a : Nat} {f g : Nat → Nat} (ha : a < n) (h : ∀ k, k < n → f k ≤ g k) (hs : f a < g a) : S n f < S n g := by
  rw [S_out ha f, S_out ha g]
  have : S n (fun k => if k = a then 0 else f k) ≤ S n (fun k => if k = a then 0 else g k) := S_le fun k hk => by
    split
    · omega
    · exact h k hk
  omega
theorem S_mul (n c : Nat) (f : Nat → Nat) : S n (fun k => c * f k) = c * S n f := by
  induction n with
  | zero => rfl
  | succ n ih => rw [S_succ, S_succ, ih, Nat.mul_add]

theorem path_ind {F : List Nat} (hF : IsF F) {P : Nat → Prop} (hr : ∀ v, v < F.length → par F v = v → P v) (hu : ∀ v, v < F.length → par F v ≠ v → P (par F v) → P v) : ∀ v, v < F.length → P v := by
  have : ∀ n v, v < F.length → (path F v).length ≤ n → P v := by
    intro n
    induction n with
    | zero =>
      intro v hv hl
      have := (path_len hF v).1
      omega
    | succ n ih =>
      intro v hv hl
      by_cases h : par F v = v
      · exact hr v hv h
      · refine hu v hv h (ih _ (hF.lt v hv) ?_)
        rw [path_up hF hv h, List.length_cons] at hl
        omega
  exact fun v hv => this _ v hv (Nat.le_refl _)
def top (F : List Nat) (v : Nat) : Nat := (path F v).getLastD v
theorem top_root {F : List Nat} (hF : IsF F) {v : Nat} (h : par F v = v) : top F v = v := by unfold top; rw [path_root hF h]; rfl
theorem top_up {F : List Nat} (hF : IsF F) {v : Nat} (hv : v < F.length) (h : par F v ≠ v) : top F v = top F (par F v) := by
  have := (path_len hF (par F v)).1
  unfold top
  rw [path_up hF hv h]
  cases e : path F (par F v) with
  | nil => rw [e] at this; simp at this
  | cons x xs =>
    rw [List.getLastD_cons, List.getLastD_cons, List.getLastD_cons]
theorem top_lt {F : List Nat} (hF : IsF F) : ∀ v, v < F.length → top F v < F.length :=
  path_ind hF (fun v hv h => by rw [top_root hF h]; exact hv) fun v hv h ih => by rw [top_up hF hv h]; exact ih
theorem top_par {F : List Nat} (hF : IsF F) : ∀ v, v < F.length → par F (top F v) = top F v :=
  path_ind hF (fun v hv h => by rw [top_root hF h]; exact h) fun v hv h ih => by rw [top_up hF hv h]; exact ih
theorem count_root {F : List Nat} (hF : IsF F) {a : Nat} (ha : par F a = a) : ∀ v, v < F.length → (path F v).count a = if top F v = a then 1 else 0 :=
  path_ind hF (fun v hv h => by rw [path_root hF h, top_root hF h]; simp [List.count_singleton]) fun v hv h ih => by
    rw [path_up hF hv h, List.count_cons, ih, top_up hF hv h]
    have : v ≠ a := fun z => h (by rw [z]; exact ha)
    simp [this]
theorem path_last {F : List Nat} (hF : IsF F) : ∀ v, v < F.length → ∃ pre, path F v = pre ++ [top F v] ∧ ∀ k ∈ pre, par F k ≠ k :=
  path_ind hF (fun v hv h => ⟨[], by rw [path_root hF h, top_root hF h]; rfl, fun k hk => by cases hk⟩) fun v hv h ⟨pre, e, hp⟩ =>
    ⟨v :: pre, by rw [path_up hF hv h, e, top_up hF hv h]; rfl, fun k hk => by
      rcases List.mem_cons.mp hk with z | z
      · rw [z]; exact h
      · exact hp k z⟩
/-- the weight: how many paths go through -/
def W (F : List Nat) (k : Nat) : Nat := S F.length fun u => (path F u).count k
def isR (F : List Nat) (k : Nat) : Bool := par F k == k
/-- the sum of the depths is the sum of the weights of all that are no roots -/
theorem depth_sum {F : List Nat} (hF : IsF F) : S F.length (fun u => (path F u).length - 1) = S F.length fun k => if par F k = k then 0 else W F k := by
  have h1 : ∀ u, u < F.length → S F.length (fun k => if par F k = k then 0 else (path F u).count k) = (path F u).length - 1 :=
    path_ind hF (fun v hv h => by
      rw [path_root hF h, S_none]
      · rfl
      · intro k hk
        split
        · rfl
        · rename_i hk2
          rw [List.count_singleton]
          have : v ≠ k := fun z => hk2 (by rw [← z]; exact h)
          simp [this]) fun v hv h ih => by
      have hl := (path_len hF (par F v)).1
      rw [path_up hF hv h, List.length_cons]
      have e : S F.length (fun k => if par F k = k then 0 else (v :: path F (par F v)).count k) = S F.length (fun k => (if par F k = k then 0 else (path F (par F v)).count k) + if k = v then 1 else 0) := S_congr fun k hk => by
        rw [List.count_cons]
        by_cases hk2 : par F k = k
        · have : k ≠ v := fun z => h (by rw [← z]; exact hk2)
          simp [hk2, this]
        · by_cases z : k = v
          · subst z; simp [hk2]
          · have z' : v ≠ k := Ne.symm z
            simp [hk2, z, z']
      rw [e, S_add, ih, S_one hv]
      omega
  rw [← S_congr h1, S_swap]
  refine S_congr fun k hk => ?_
  by_cases h : par F k = k
  · simp only [h, if_true]; rw [S_nil]
  · simp only [h, if_false]; rfl
/-- a weight is 1 and the children's weights -/
theorem weight_sum {F : List Nat} (hF : IsF F) {p : Nat} (hp : p < F.length) : W F p = 1 + S F.length fun o => if par F o = p ∧ o ≠ p then W F o else 0 := by
  have h1 : ∀ u, u < F.length → (path F u).count p = (if u = p then 1 else 0) + S F.length (fun o => if par F o = p ∧ o ≠ p then (path F u).count o else 0) :=
    path_ind hF (fun v hv h => by
      rw [path_root hF h, S_none]
      · rw [List.count_singleton]
        by_cases e : v = p <;> simp [e]
      · intro o ho
        split
        · rename_i q
          rw [List.count_singleton]
          have : v ≠ o := fun z => by subst z; exact q.2 (h ▸ q.1)
          simp [this]
        · rfl) fun v hv h ih => by
      rw [path_up hF hv h, List.count_cons, ih]
      have e : S F.length (fun o => if par F o = p ∧ o ≠ p then (v :: path F (par F v)).count o else 0) = S F.length (fun o => (if par F o = p ∧ o ≠ p then (path F (par F v)).count o else 0) + if o = v then (if par F v = p then 1 else 0) else 0) := S_congr fun o ho => by
        rw [List.count_cons]
        by_cases z : o = v
        · subst z
          by_cases q : par F o = p
          · have : o ≠ p := fun z => h (by rw [q, z])
            simp [q, this]
          · simp [q]
        · have z' : v ≠ o := Ne.symm z
          by_cases q : par F o = p ∧ o ≠ p <;> simp [q, z, z']
      rw [e, S_add, S_one hv]
      by_cases z : v = p
      · subst z
        simp [h]; omega
      · simp [z]; omega
  unfold W
  rw [S_congr h1, S_add, S_swap, S_one hp]
  congr 1
  refine S_congr fun o ho => ?_
  by_cases q : par F o = p ∧ o ≠ p
  · simp only [q, and_self, if_true, ne_eq, not_false_eq_true]
  · simp only [q, if_false]; rw [S_nil]
theorem W_pos {F : List Nat} (hF : IsF F) {p : Nat} (hp : p < F.length) : 1 ≤ W F p := by rw [weight_sum hF hp]; omega

theorem hUp_ge (k : Nat) (B : Int) : ∀ (h : List Int) (c : Int) (p : List Nat), (∀ v ∈ p, v < h.length) → ((hUp h c p).getD k 0 ≤ B ↔ h.getD k 0 ≤ B ∧ ∀ j : Nat, p[j]? = some k → c + (j : Int) ≤ B)
  | h, c, [], _ => by simp [hUp]
  | h, c, v :: r, hl => by
    have hv := hl v List.mem_cons_self
    rw [hUp, hUp_ge k B _ _ r fun u hu => by rw [List.length_set]; exact hl u (List.mem_cons_of_mem _ hu)]
    have e : (h.set v (mx (h.getD v 0) c)).getD k 0 = if k = v then mx (h.getD v 0) c else h.getD k 0 := by
      rw [List.getD_eq_getElem?_getD, List.getD_eq_getElem?_getD, List.getD_eq_getElem?_getD]
      by_cases z : k = v
      · subst z; rw [if_pos rfl, List.getElem?_set_self hv]; rfl
      · rw [if_neg z, List.getElem?_set_ne (Ne.symm z)]
    rw [e]
    constructor
    · rintro ⟨h1, h2⟩
      have h3 : h.getD k 0 ≤ B ∧ (v = k → c ≤ B) := by
        by_cases z : k = v
        · subst z
          rw [if_pos rfl] at h1
          unfold mx at h1
          split at h1 <;> exact ⟨by omega, fun _ => by omega⟩
        · rw [if_neg z] at h1
          exact ⟨h1, fun y => absurd y.symm z⟩
      refine ⟨h3.1, fun j hj => ?_⟩
      cases j with
      | zero => simp at hj; have := h3.2 hj; simpa using this
      | succ j =>
        have := h2 j (by simpa using hj)
        omega
    · rintro ⟨h1, h2⟩
      refine ⟨?_, fun j hj => ?_⟩
      · by_cases z : k = v
        · subst z
          rw [if_pos rfl]
          have := h2 0 (by simp)
          unfold mx
          split
          · simpa using this
          · exact h1
        · rw [if_neg z]; exact h1
      · have := h2 (j + 1) (by simpa using hj)
        omega
def H (F : List Nat) (k : Nat) : Int := (hAll F F.length).getD k 0
theorem hAll_ge {F : List Nat} (hF : IsF F) (k : Nat) (B : Int) : ∀ n, n ≤ F.length → ((hAll F n).getD k 0 ≤ B ↔ 0 ≤ B ∧ ∀ u, u < n → ∀ j : Nat, (path F u)[j + 1]? = some k → (j : Int) + 1 ≤ B)
  | 0, _ => by
    have : (hAll F 0).getD k 0 = 0 := by
      rw [List.getD_eq_getElem?_getD]
      cases e : (hAll F 0)[k]? with
      | none => rfl
      | some x =>
        have := List.mem_of_getElem? e
        rw [hAll] at this
        rw [List.eq_of_mem_replicate this]; rfl
    rw [this]
    exact ⟨fun h => ⟨h, fun u hu => by omega⟩, fun h => h.1⟩
  | n + 1, hn => by
    rw [hAll, hUp_ge k B _ _ _ fun v hv => by rw [hAll_length]; exact path_lt hF (by omega : n < F.length) v (List.mem_of_mem_tail hv), hAll_ge hF k B n (by omega)]
    constructor
    · rintro ⟨⟨h0, h1⟩, h2⟩
      refine ⟨h0, fun u hu j hj => ?_⟩
      by_cases e : u < n
      · exact h1 u e j hj
      · have : u = n := by omega
        subst this
        have := h2 j (by rw [List.getElem?_tail]; exact hj)
        omega
    · rintro ⟨h0, h1⟩
      refine ⟨⟨h0, fun u hu => h1 u (by omega)⟩, fun j hj => ?_⟩
      rw [List.getElem?_tail] at hj
      have := h1 n (by omega) j hj
      omega
theorem H_le {F : List Nat} (hF : IsF F) (k : Nat) (B : Int) : H F k ≤ B ↔ 0 ≤ B ∧ ∀ u, u < F.length → ∀ j : Nat, (path F u)[j]? = some k → (j : Int) ≤ B := by
  unfold H
  rw [hAll_ge hF k B _ (Nat.le_refl _)]
  constructor
  · rintro ⟨h0, h1⟩
    refine ⟨h0, fun u hu j hj => ?_⟩
    cases j with
    | zero => exact h0
    | succ j => have := h1 u hu j hj; omega
  · rintro ⟨h0, h1⟩
    exact ⟨h0, fun u hu j hj => by have := h1 u hu (j + 1) hj; omega⟩
theorem H_nn {F : List Nat} (hF : IsF F) (k : Nat) : 0 ≤ H F k := ((H_le hF k _).mp (Int.le_refl _)).1
theorem H_at {F : List Nat} (hF : IsF F) {k u j : Nat} (hu : u < F.length) (h : (path F u)[j]? = some k) : (j : Int) ≤ H F k := ((H_le hF k _).mp (Int.le_refl _)).2 u hu j h
end LM
namespace LM
theorem isF_of {F : List Nat} (h0 : 0 < F.length) (h24 : F.length ≤ 24) (hlt : ∀ v, v < F.length → par F v < F.length) (r : Nat → Nat) (hr : ∀ v, v < F.length → par F v ≠ v → r (par F v) < r v) : IsF F := by
  refine ⟨h0, h24, hlt, fun v => S F.length fun u => if r u < r v then 1 else 0, fun v hv => ⟨?_, fun h => ?_⟩⟩
  · have h1 : S F.length (fun u => if r u < r v then 1 else 0) < S F.length (fun _ => 1) := S_lt hv (fun k _ => by split <;> omega) (by simp)
    rw [S_const] at h1
    show S F.length _ < F.length
    omega
  · have h1 := hr v hv h
    exact S_lt (hlt v hv) (fun k _ => by split <;> split <;> omega) (by simp [h1])
section
variable {F : List Nat} {a b : Nat}
/-- a below b, both roots -/
structure Jn (F : List Nat) (a b : Nat) : Prop where
  isF : IsF F
  la : a < F.length
  lb : b < F.length
  ra : par F a = a
  rb : par F b = b
  ne : a ≠ b
theorem Jn.par (J : Jn F a b) (u : Nat) : LM.par (F.set a b) u = if u = a then b else LM.par F u := par_set J.la
theorem Jn.isF' (J : Jn F a b) : IsF (F.set a b) := by
  obtain ⟨r, hr⟩ := J.isF.rank
  have hl : (F.set a b).length = F.length := List.length_set
  refine isF_of (by rw [hl]; exact J.isF.pos) (by rw [hl]; exact J.isF.le) (fun v hv => ?_) (fun v => if top F v = a then r v + F.length else r v) fun v hv h => ?_
  · rw [hl] at hv ⊢
    rw [J.par]
    split
    · exact J.lb
    · exact J.isF.lt v hv
  · rw [hl] at hv
    rw [J.par] at h ⊢
    by_cases e : v = a
    · subst e
      rw [if_pos rfl] at h ⊢
      rw [if_neg (by rw [top_root J.isF J.rb]; exact Ne.symm J.ne), if_pos (top_root J.isF J.ra)]
      have := (hr b J.lb).1
      omega
    · rw [if_neg e] at h ⊢
      have h2 := (hr v hv).2 h
      rw [top_up J.isF hv h]
      split <;> omega
theorem Jn.path (J : Jn F a b) : ∀ v, v < F.length → LM.path (F.set a b) v = if top F v = a then LM.path F v ++ [b] else LM.path F v := by
  have hl : (F.set a b).length = F.length := List.length_set
  refine path_ind J.isF (fun v hv h => ?_) fun v hv h ih => ?_
  · rw [top_root J.isF h, path_root J.isF h]
    by_cases e : v = a
    · subst e
      rw [if_pos rfl, path_up J.isF' (by rw [hl]; exact hv) (by rw [J.par, if_pos rfl]; exact Ne.symm J.ne), J.par, if_pos rfl, path_root J.isF' (by rw [J.par, if_neg (Ne.symm J.ne)]; exact J.rb)]; rfl
    · rw [if_neg e, path_root J.isF' (by rw [J.par, if_neg e]; exact h)]
  · have e : v ≠ a := fun z => h (by rw [z]; exact J.ra)
    have hp : LM.par (F.set a b) v = LM.par F v := by rw [J.par, if_neg e]
    rw [path_up J.isF' (by rw [hl]; exact hv) (by rw [hp]; exact h), hp, ih, path_up J.isF hv h, top_up J.isF hv h]
    split <;> rfl
theorem W_root {F : List Nat} (hF : IsF F) {a : Nat} (ha : par F a = a) : W F a = S F.length fun u => if top F u = a then 1 else 0 := S_congr fun u hu => count_root hF ha u hu
theorem Jn.W (J : Jn F a b) (k : Nat) : LM.W (F.set a b) k = LM.W F k + if k = b then LM.W F a else 0 := by
  have hl : (F.set a b).length = F.length := List.length_set
  have e1 : LM.W (F.set a b) k = S F.length fun u => (LM.path F u).count k + if k = b then (if top F u = a then 1 else 0) else 0 := by
    unfold LM.W
    rw [hl]
    refine S_congr fun u hu => ?_
    rw [J.path u hu]
    by_cases e : top F u = a
    · rw [if_pos e, if_pos e, List.count_append, List.count_singleton]
      by_cases z : k = b
      · subst z; simp
      · have z' : b ≠ k := Ne.symm z
        simp [z, z']
    · rw [if_neg e, if_neg e]; simp
  rw [e1, S_add]
  congr 1
  by_cases z : k = b
  · simp only [z, if_true]; exact (W_root J.isF J.ra).symm
  · simp only [z, if_false]; exact S_nil _
theorem Jn.H (J : Jn F a b) (k : Nat) (B : Int) : LM.H (F.set a b) k ≤ B ↔ LM.H F k ≤ B ∧ (k = b → LM.H F a + 1 ≤ B) := by
  have hl : (F.set a b).length = F.length := List.length_set
  rw [H_le J.isF', H_le J.isF, hl]
  constructor
  · rintro ⟨h0, h1⟩
    have h2 : ∀ u, u < F.length → ∀ j : Nat, (LM.path F u)[j]? = some k → (j : Int) ≤ B := fun u hu j hj => by
      refine h1 u hu j ?_
      rw [J.path u hu]
      split
      · rw [List.getElem?_append_left (List.getElem?_eq_some_iff.mp hj).1]; exact hj
      · exact hj
    refine ⟨⟨h0, h2⟩, fun e => ?_⟩
    subst e
    have h3 : ∀ u, u < F.length → top F u = a → ((LM.path F u).length : Int) ≤ B := fun u hu e => by
      refine h1 u hu _ ?_
      rw [J.path u hu, if_pos e, List.getElem?_append_right (Nat.le_refl _)]; simp
    have h4 : LM.H F a ≤ B - 1 := by
      rw [H_le J.isF]
      have := h3 a J.la (top_root J.isF J.ra)
      have := (path_len J.isF a).1
      refine ⟨by omega, fun u hu j hj => ?_⟩
      obtain ⟨pre, e, hp⟩ := path_last J.isF u hu
      have hj2 : j < (LM.path F u).length := (List.getElem?_eq_some_iff.mp hj).1
      by_cases hj3 : j < pre.length
      · rw [e, List.getElem?_append_left hj3] at hj
        exact absurd J.ra (hp a (List.mem_of_getElem? hj))
      · have ej : j = pre.length := by rw [e, List.length_append, List.length_singleton] at hj2; omega
        rw [e, ej, List.getElem?_append_right (Nat.le_refl _)] at hj
        simp at hj
        have := h3 u hu hj
        omega
    omega
  · rintro ⟨⟨h0, h1⟩, h2⟩
    refine ⟨h0, fun u hu j hj => ?_⟩
    rw [J.path u hu] at hj
    by_cases e : top F u = a
    · rw [if_pos e] at hj
      by_cases hj2 : j < (LM.path F u).length
      · rw [List.getElem?_append_left hj2] at hj
        exact h1 u hu j hj
      · rw [List.getElem?_append_right (by omega)] at hj
        have ej : j - (LM.path F u).length = 0 := by
          cases q : j - (LM.path F u).length with
          | zero => rfl
          | succ m => rw [q] at hj; simp at hj
        rw [ej] at hj
        simp at hj
        have h3 := h2 hj.symm
        obtain ⟨pre, e', _⟩ := path_last J.isF u hu
        have h4 := H_at J.isF (k := a) (j := pre.length) hu (by rw [e', List.getElem?_append_right (Nat.le_refl _), e]; simp)
        have : (LM.path F u).length = pre.length + 1 := by rw [e', List.length_append, List.length_singleton]
        omega
    · rw [if_neg e] at hj
      exact h1 u hu j hj
end
def gd : Nat → Nat := fun n => [0, 0, 1, 2, 4, 5, 7, 9, 12, 13, 15, 17, 20, 22, 25, 28, 32, 33, 35, 37, 40, 42, 45, 48, 52].getD n 0
theorem gd_join : ∀ a b : Fin 25, a.1 ≤ b.1 → a.1 + b.1 ≤ 24 → gd a.1 + gd b.1 + a.1 ≤ gd (a.1 + b.1) := by decide +kernel
theorem gd_add {a b : Nat} (h : a + b ≤ 24) : gd a + gd b ≤ gd (a + b) := by
  rcases Nat.le_total a b with q | q
  · have := gd_join ⟨a, by omega⟩ ⟨b, by omega⟩ q h
    simp only at this
    omega
  · have := gd_join ⟨b, by omega⟩ ⟨a, by omega⟩ q (by simp only; omega)
    simp only at this
    rw [Nat.add_comm a b]
    omega
theorem gd_sum : ∀ (n : Nat) (f : Nat → Nat), S n f ≤ 24 → S n (fun k => gd (f k)) ≤ gd (S n f)
  | 0, f, _ => by simp [S, gd]
  | n + 1, f, h => by
    rw [S_succ] at h
    have ih := gd_sum n f (by omega)
    rw [S_succ, S_succ]
    have := gd_add h
    omega
/-- the sum of all depths -/
def TD (F : List Nat) : Nat := S F.length fun k => if par F k = k then 0 else W F k
def rW (F : List Nat) : Nat := S F.length fun k => if par F k = k then W F k else 0
def rG (F : List Nat) : Nat := S F.length fun k => gd (if par F k = k then W F k else 0)
/-- the strictly lighter ones beside a child -/
def lightS (F : List Nat) (c : Nat) : Nat := S F.length fun o => if par F o = par F c ∧ o ≠ par F c ∧ W F o < W F c then W F o else 0
/-- forests that arise from joins of lighter trees below heavier ones -/
inductive Built (n : Nat) : List Nat → Prop
  | start : Built n (List.range n)
  | join {F : List Nat} {a b : Nat} : Built n F → Jn F a b → W F a ≤ W F b → Built n (F.set a b)
theorem start_isF {n : Nat} (h1 : 1 ≤ n) (h24 : n ≤ 24) : IsF (List.range n) :=
  isF_of (by rw [List.length_range]; exact h1) (by rw [List.length_range]; exact h24) (fun v hv => by rw [List.length_range] at hv ⊢; rw [par_range hv]; exact hv) (fun _ => 0) fun v hv h => by rw [List.length_range] at hv; exact absurd (par_range hv) h
theorem Built.len {n : Nat} {F : List Nat} (h : Built n F) : F.length = n := by
  induction h with
  | start => exact List.length_range
  | join _ _ _ ih => rw [List.length_set]; exact ih
theorem Built.isF {n : Nat} {F : List Nat} (h1 : 1 ≤ n) (h24 : n ≤ 24) (h : Built n F) : IsF F := by
  cases h with
  | start => exact start_isF h1 h24
  | join _ J _ => exact J.isF'
theorem W_start {n k : Nat} (h1 : 1 ≤ n) (h24 : n ≤ 24) (hk : k < n) : W (List.range n) k = 1 := by
  unfold W
  rw [List.length_range, S_congr (g := fun u => if u = k then 1 else 0), S_one hk]
  intro u hu
  rw [path_root (start_isF h1 h24) (par_range hu), List.count_singleton]
  by_cases e : u = k <;> simp [e]
theorem H_start {n k : Nat} (h1 : 1 ≤ n) (h24 : n ≤ 24) : H (List.range n) k ≤ 0 := by
  rw [H_le (start_isF h1 h24)]
  refine ⟨Int.le_refl _, fun u hu j hj => ?_⟩
  rw [List.length_range] at hu
  rw [path_root (start_isF h1 h24) (par_range hu)] at hj
  cases j with
  | zero => exact Int.le_refl _
  | succ j => simp at hj
structure BtI (F : List Nat) : Prop where
  isF : IsF F
  thin : ∀ k, k < F.length → 2 ^ (H F k).toNat ≤ W F k
  light : ∀ c, c < F.length → par F c ≠ c → W F c ≤ 1 + lightS F c
  sumW : rW F = F.length
  tot : TD F ≤ rG F
theorem lightS_eq (F : List Nat) (c : Nat) (w : Nat) (p : Nat) (hw : W F c = w) (hp : par F c = p) : lightS F c = S F.length fun o => if par F o = p ∧ o ≠ p ∧ W F o < w then W F o else 0 := by
  subst hw hp; rfl
theorem rW_set {F : List Nat} {a b : Nat} (J : Jn F a b) : rW (F.set a b) = rW F := by
  have hl : (F.set a b).length = F.length := List.length_set
  unfold rW
  rw [hl, S_out J.la, S_out J.lb]
  rw [S_out J.la (fun k => if par F k = k then W F k else 0), S_out J.lb (fun k => if k = a then 0 else if par F k = k then W F k else 0)]
  simp only [J.par, J.W, J.ra, J.rb, if_true, J.ne, Ne.symm J.ne, if_false]
  have : S F.length (fun k => if k = b then 0 else if k = a then 0 else if (if k = a then b else par F k) = k then W F k + if k = b then W F a else 0 else 0) = S F.length (fun k => if k = b then 0 else if k = a then 0 else if par F k = k then W F k else 0) :=
    S_congr fun k _ => by
      by_cases e : k = b
      · rw [if_pos e, if_pos e]
      · rw [if_neg e, if_neg e]
        by_cases e2 : k = a
        · simp [e2]
        · simp [e, e2]
  rw [this]
  omega
theorem TD_set {F : List Nat} {a b : Nat} (J : Jn F a b) : TD (F.set a b) = TD F + W F a := by
  have hl : (F.set a b).length = F.length := List.length_set
  unfold TD
  rw [hl, S_out J.la, S_out J.la (fun k => if par F k = k then 0 else W F k)]
  simp only [J.par, J.W, J.ra, if_true, J.ne, Ne.symm J.ne, if_false]
  have : S F.length (fun k => if k = a then 0 else if (if k = a then b else par F k) = k then 0 else W F k + if k = b then W F a else 0) = S F.length (fun k => if k = a then 0 else if par F k = k then 0 else W F k) :=
    S_congr fun k _ => by
      by_cases e2 : k = a
      · rw [if_pos e2, if_pos e2]
      · by_cases e : k = b
        · subst e; simp [e2, J.rb]
        · simp [e, e2]
  rw [this]
  omega
theorem rG_set {F : List Nat} {a b : Nat} (J : Jn F a b) (hw : W F a ≤ W F b) (hs : W F a + W F b ≤ 24) : rG F + W F a ≤ rG (F.set a b) := by
  have hl : (F.set a b).length = F.length := List.length_set
  unfold rG
  rw [hl, S_out J.la, S_out J.lb]
  rw [S_out J.la (fun k => gd (if par (F.set a b) k = k then W (F.set a b) k else 0)), S_out J.lb (fun k => if k = a then 0 else gd (if par (F.set a b) k = k then W (F.set a b) k else 0))]
  simp only [J.par, J.W, J.ra, J.rb, if_true, J.ne, Ne.symm J.ne, if_false]
  have : S F.length (fun k => if k = b then 0 else if k = a then 0 else gd (if (if k = a then b else par F k) = k then W F k + if k = b then W F a else 0 else 0)) = S F.length (fun k => if k = b then 0 else if k = a then 0 else gd (if par F k = k then W F k else 0)) :=
    S_congr fun k _ => by
      by_cases e : k = b
      · rw [if_pos e, if_pos e]
      · rw [if_neg e, if_neg e]
        by_cases e2 : k = a
        · simp [e2]
        · simp [e, e2]
  rw [this]
  have h1 := gd_join ⟨W F a, by omega⟩ ⟨W F b, by omega⟩ hw hs
  simp only at h1
  rw [Nat.add_comm (W F a) (W F b)] at h1
  have h0 : gd 0 = 0 := rfl
  omega
theorem rW_two {F : List Nat} {a b : Nat} (J : Jn F a b) : W F a + W F b ≤ rW F := by
  unfold rW
  rw [S_out J.la, S_out J.lb]
  simp only [J.ra, J.rb, if_true, Ne.symm J.ne, if_false]
  omega
end LM
namespace LM
theorem least_of {P : Nat → Prop} (w : Nat → Nat) : ∀ (m o : Nat), P o → w o ≤ m → ∃ o, P o ∧ ∀ o', P o' → w o ≤ w o'
  | 0, o, h, hm => ⟨o, h, fun o' _ => by omega⟩
  | m + 1, o, h, hm => by
    by_cases q : ∃ o', P o' ∧ w o' < w o
    · obtain ⟨o', h1, h2⟩ := q
      exact least_of w m o' h1 (by omega)
    · exact ⟨o, h, fun o' h' => Nat.le_of_not_lt fun z => q ⟨o', h', z⟩⟩
theorem built_inv {n : Nat} (h1 : 1 ≤ n) (h24 : n ≤ 24) {F : List Nat} (h : Built n F) : BtI F := by
  induction h with
  | start =>
    have hF := start_isF h1 h24
    refine ⟨hF, fun k hk => ?_, fun c hc h => ?_, ?_, ?_⟩
    · rw [List.length_range] at hk
      have := H_start (n := n) (k := k) h1 h24
      rw [W_start h1 h24 hk, show (H (List.range n) k).toNat = 0 by omega]; exact Nat.le_refl _
    · rw [List.length_range] at hc; exact absurd (par_range hc) h
    · unfold rW
      rw [List.length_range, S_congr (g := fun _ => 1), S_const]
      · omega
      · intro k hk; rw [if_pos (par_range hk), W_start h1 h24 hk]
    · unfold TD
      rw [List.length_range, S_none]
      · exact Nat.zero_le _
      · intro k hk; rw [if_pos (par_range hk)]
  | @join F a b hB J hw ih =>
    have hl : (F.set a b).length = F.length := List.length_set
    have hln := hB.len
    refine ⟨J.isF', fun k hk => ?_, fun c hc h => ?_, ?_, ?_⟩
    · rw [hl] at hk
      rw [J.W]
      have t1 := ih.thin k hk
      by_cases e : k = b
      · subst e
        rw [if_pos rfl]
        have t2 := ih.thin a J.la
        have n1 := H_nn ih.isF a
        have n2 := H_nn ih.isF k
        have hle : H (F.set a k) k ≤ if H F k ≤ H F a then H F a + 1 else H F k := by
          rw [J.H]
          split <;> exact ⟨by omega, fun _ => by omega⟩
        split at hle
        · have h3 : 2 ^ (H (F.set a k) k).toNat ≤ 2 ^ ((H F a).toNat + 1) := Nat.pow_le_pow_right (by decide) (by omega)
          rw [Nat.pow_succ] at h3
          omega
        · have h3 : 2 ^ (H (F.set a k) k).toNat ≤ 2 ^ (H F k).toNat := Nat.pow_le_pow_right (by decide) (by omega)
          omega
      · rw [if_neg e]
        have hle : H (F.set a b) k ≤ H F k := by
          rw [J.H]
          exact ⟨Int.le_refl _, fun z => absurd z e⟩
        have h3 : 2 ^ (H (F.set a b) k).toNat ≤ 2 ^ (H F k).toNat := Nat.pow_le_pow_right (by decide) (by omega)
        omega
    · rw [hl] at hc
      rw [J.par] at h
      have wb : ∀ o, o ≠ b → W (F.set a b) o = W F o := fun o ho => by rw [J.W, if_neg ho]; rfl
      by_cases e : c = a
      · subst e
        have e1 : lightS (F.set c b) c = S F.length fun o => if par F o = b ∧ o ≠ b ∧ W F o < W F c then W F o else 0 := by
          rw [lightS_eq (F.set c b) c (W F c) b (wb c J.ne) (by rw [J.par, if_pos rfl]), hl]
          refine S_congr fun o ho => ?_
          rw [J.par]
          by_cases z : o = b
          · subst z; simp
          · rw [wb o z]
            by_cases z2 : o = c
            · subst z2; simp
            · simp [z2]
        rw [e1, wb c J.ne]
        by_cases q : ∃ o, (o < F.length ∧ par F o = b ∧ o ≠ b) ∧ W F c ≤ W F o
        · obtain ⟨o1, q1⟩ := q
          obtain ⟨o, ⟨⟨h3, h4, h5⟩, h6⟩, h7⟩ := least_of (P := fun o => (o < F.length ∧ par F o = b ∧ o ≠ b) ∧ W F c ≤ W F o) (W F) _ o1 q1 (Nat.le_refl _)
          have l1 := ih.light o h3 (by rw [h4]; exact Ne.symm h5)
          rw [lightS_eq F o (W F o) b rfl h4] at l1
          have : S F.length (fun x => if par F x = b ∧ x ≠ b ∧ W F x < W F o then W F x else 0) ≤ S F.length (fun x => if par F x = b ∧ x ≠ b ∧ W F x < W F c then W F x else 0) := S_le fun x hx => by
            by_cases z : par F x = b ∧ x ≠ b ∧ W F x < W F o
            · by_cases z2 : W F x < W F c
              · rw [if_pos z, if_pos ⟨z.1, z.2.1, z2⟩]; exact Nat.le_refl _
              · have := h7 x ⟨⟨hx, z.1, z.2.1⟩, Nat.le_of_not_lt z2⟩
                omega
            · rw [if_neg z]; exact Nat.zero_le _
          omega
        · have l1 := weight_sum ih.isF J.lb
          have : S F.length (fun o => if par F o = b ∧ o ≠ b then W F o else 0) = S F.length (fun o => if par F o = b ∧ o ≠ b ∧ W F o < W F c then W F o else 0) := S_congr fun o ho => by
            by_cases z : par F o = b ∧ o ≠ b
            · rw [if_pos z, if_pos ⟨z.1, z.2, Nat.lt_of_not_le fun y => q ⟨o, ⟨ho, z⟩, y⟩⟩]
            · rw [if_neg z, if_neg fun y => z ⟨y.1, y.2.1⟩]
          omega
      · rw [if_neg e] at h
        have cb : c ≠ b := fun z => h (by rw [z]; exact J.rb)
        have l1 := ih.light c hc h
        rw [wb c cb, lightS_eq (F.set a b) c (W F c) (par F c) (wb c cb) (by rw [J.par, if_neg e]), hl]
        have : lightS F c ≤ S F.length (fun o => if par (F.set a b) o = par F c ∧ o ≠ par F c ∧ W (F.set a b) o < W F c then W (F.set a b) o else 0) := S_le fun o ho => by
          by_cases z : par F o = par F c ∧ o ≠ par F c ∧ W F o < W F c
          · have oa : o ≠ a := fun y => z.2.1 (by rw [← z.1, y]; exact J.ra.symm)
            have ob : o ≠ b := fun y => z.2.1 (by rw [← z.1, y]; exact J.rb.symm)
            rw [if_pos z, if_pos ⟨by rw [J.par, if_neg oa]; exact z.1, z.2.1, by rw [wb o ob]; exact z.2.2⟩, wb o ob]; exact Nat.le_refl _
          · rw [if_neg z]; exact Nat.zero_le _
        omega
    · rw [rW_set J, ih.sumW, hl]
    · have h2 := rW_two J
      rw [ih.sumW] at h2
      have := rG_set J hw (by omega)
      rw [TD_set J]
      have := ih.tot
      omega
/-- what the document says of built forests -/
theorem BtI.tot_le {F : List Nat} (h : BtI F) : TD F ≤ gd F.length := by
  have h1 := gd_sum F.length (fun k => if par F k = k then W F k else 0) (by have := h.sumW; have := h.isF.le; unfold rW at *; omega)
  have h2 := h.tot
  have h3 := h.sumW
  unfold rG at h2
  unfold rW at h3
  rw [h3] at h1
  omega
theorem W_le {F : List Nat} (hF : IsF F) {k : Nat} (hk : k < F.length) : W F k ≤ F.length := by
  have h1 : ∀ u, u < F.length → (path F u).count k ≤ 1 := by
    refine path_ind hF (fun v hv h => by rw [path_root hF h, List.count_singleton]; split <;> omega) fun v hv h ih => ?_
    rw [path_up hF hv h, List.count_cons]
    by_cases e : v = k
    · subst e
      have : (path F (par F v)).count v = 0 := by
        rw [List.count_eq_zero]
        intro hm
        obtain ⟨r, hr⟩ := hF.rank
        have : ∀ u, u < F.length → ∀ x ∈ path F u, r x ≤ r u := path_ind hF (fun u hu h x hx => by rw [path_root hF h] at hx; rw [List.mem_singleton.mp hx]; exact Nat.le_refl _) fun u hu h ih x hx => by
          rw [path_up hF hu h] at hx
          rcases List.mem_cons.mp hx with z | z
          · rw [z]; exact Nat.le_refl _
          · have := ih x z
            have := (hr u hu).2 h
            omega
        have h2 := this _ (hF.lt v hv) v hm
        have h3 := (hr v hv).2 h
        omega
      rw [this]; simp
    · have : (v == k) = false := by simpa using e
      rw [this]; simpa using ih
  have := S_le (n := F.length) (g := fun _ => 1) h1
  rw [S_const] at this
  unfold W
  omega
end LM
namespace LM
theorem sum_filter (n : Nat) (P : Nat → Bool) (f : Nat → Nat) : (((List.range n).filter P).map f).sum = S n fun k => if P k = true then f k else 0 := by
  induction n with
  | zero => rfl
  | succ n ih =>
    rw [List.range_succ, List.filter_append, List.map_append, List.sum_append, S_succ, ih]
    cases h : P n <;> simp [h]
def kids (F : List Nat) (p : Nat) : List Nat := (List.range F.length).filter fun c => decide (par F c = p ∧ c ≠ p)
theorem filt_yes {P : Nat → Bool} {i : Nat} (h : P i = true) : (List.range (i + 1)).filter P = (List.range i).filter P ++ [i] := by
  rw [List.range_succ, List.filter_append, List.filter_cons_of_pos h]; rfl
theorem filt_no {P : Nat → Bool} {i : Nat} (h : ¬ P i = true) : (List.range (i + 1)).filter P = (List.range i).filter P := by
  rw [List.range_succ, List.filter_append, List.filter_cons_of_neg h]; simp
theorem filt_len (P : Nat → Bool) (i : Nat) : ((List.range i).filter P).length ≤ i := by
  have := List.length_filter_le P (List.range i)
  rwa [List.length_range] at this
theorem kids_mem {F : List Nat} {p c : Nat} : c ∈ kids F p ↔ c < F.length ∧ par F c = p ∧ c ≠ p := by
  unfold kids
  rw [List.mem_filter, List.mem_range, decide_eq_true_eq]
def lightK (F : List Nat) (ks : List Nat) (c : Nat) : Nat := ((ks.filter fun o => decide (W F o < W F c)).map (W F)).sum
def heavyOf (F : List Nat) (p : Nat) : List Nat := (kids F p).filter fun c => decide (1 + lightK F (kids F p) c < W F c)
theorem kids_len {F : List Nat} (hF : IsF F) (p : Nat) : (kids F p).length ≤ 24 := by
  have := filt_len (fun c => decide (par F c = p ∧ c ≠ p)) F.length
  have := hF.le
  unfold kids
  omega
theorem lightK_eq {F : List Nat} {p c : Nat} (hp : par F c = p) : lightK F (kids F p) c = lightS F c := by
  unfold lightK kids lightS
  rw [List.filter_filter, sum_filter]
  refine S_congr fun o _ => ?_
  rw [hp]
  by_cases e1 : par F o = p ∧ o ≠ p <;> by_cases e2 : W F o < W F c <;> simp [e1, e2]
end LM
namespace LM
def roots (F : List Nat) : List Nat := (List.range F.length).filter fun k => decide (par F k = k)
def pows (k : Nat) : List Nat := (List.range k).map fun i => 2 ^ i
def wk (F : List Nat) (v : Nat) : List Nat := (kids F v).map (W F)
def GoodAt (F : List Nat) (v : Nat) : Prop := (pows (kids F v).length).Perm (wk F v)
def Good (F : List Nat) : Prop := ∀ v, v < F.length → GoodAt F v
theorem pows_succ (k : Nat) : pows (k + 1) = pows k ++ [2 ^ k] := by unfold pows; rw [List.range_succ, List.map_append]; rfl
theorem pows_sum (k : Nat) : (pows k).sum + 1 = 2 ^ k := by
  induction k with
  | zero => rfl
  | succ k ih => rw [pows_succ, List.sum_append, Nat.pow_succ]; simp; omega
theorem pow_inj {a b : Nat} (h : 2 ^ a = 2 ^ b) : a = b := by
  rcases Nat.lt_trichotomy a b with e | e | e
  · have := Nat.pow_lt_pow_right (a := 2) (by decide) e; omega
  · exact e
  · have := Nat.pow_lt_pow_right (a := 2) (by decide) e; omega
theorem W_kids {F : List Nat} (hF : IsF F) {v : Nat} (hv : v < F.length) : W F v = 1 + (wk F v).sum := by
  rw [weight_sum hF hv]
  unfold wk kids
  rw [sum_filter]
  congr 1
  refine S_congr fun o _ => ?_
  by_cases e : par F o = v ∧ o ≠ v <;> simp [e]
section
variable {F : List Nat}
theorem good_W (hF : IsF F) {v : Nat} (hv : v < F.length) (g : GoodAt F v) : W F v = 2 ^ (kids F v).length := by
  rw [W_kids hF hv, ← List.Perm.sum_nat g]
  have := pows_sum (kids F v).length
  omega
theorem good_kid (hF : IsF F) (G : Good F) {v c : Nat} (hv : v < F.length) (hc : c ∈ kids F v) : (kids F c).length < (kids F v).length := by
  have h1 : W F c ∈ wk F v := List.mem_map.mpr ⟨c, hc, rfl⟩
  obtain ⟨i, hi, e⟩ := List.mem_map.mp ((G v hv).mem_iff.mpr h1)
  rw [good_W hF (kids_mem.mp hc).1 (G _ (kids_mem.mp hc).1)] at e
  have := pow_inj e
  have := List.mem_range.mp hi
  omega
theorem good_topkid (hF : IsF F) (G : Good F) {v : Nat} (hv : v < F.length) (h : 0 < (kids F v).length) : ∃ c, c ∈ kids F v ∧ (kids F c).length + 1 = (kids F v).length := by
  have h1 : 2 ^ ((kids F v).length - 1) ∈ pows (kids F v).length := List.mem_map.mpr ⟨_, List.mem_range.mpr (by omega), rfl⟩
  obtain ⟨c, hc, e⟩ := List.mem_map.mp ((G v hv).mem_iff.mp h1)
  refine ⟨c, hc, ?_⟩
  rw [good_W hF (kids_mem.mp hc).1 (G _ (kids_mem.mp hc).1)] at e
  have := pow_inj e
  omega
theorem path_zero (hF : IsF F) {v : Nat} (hv : v < F.length) : (path F v)[0]? = some v := by
  by_cases e : par F v = v
  · rw [path_root hF e]; rfl
  · rw [path_up hF hv e]; rfl
theorem path_next (hF : IsF F) : ∀ u, u < F.length → ∀ j c, (path F u)[j]? = some c → par F c ≠ c → (path F u)[j + 1]? = some (par F c) := by
  refine path_ind hF (fun v hv h j c hj hc => ?_) fun v hv h ih j c hj hc => ?_
  · rw [path_root hF h] at hj
    cases j with
    | zero => simp at hj; subst hj; exact absurd h hc
    | succ j => simp at hj
  · rw [path_up hF hv h] at hj ⊢
    cases j with
    | zero =>
      simp at hj; subst hj
      rw [List.getElem?_cons_succ]
      exact path_zero hF (hF.lt v hv)
    | succ j =>
      rw [List.getElem?_cons_succ] at hj ⊢
      exact ih j c hj hc
theorem path_prev (hF : IsF F) : ∀ u, u < F.length → ∀ j c, (path F u)[j + 1]? = some c → ∃ b, (path F u)[j]? = some b ∧ b < F.length ∧ par F b = c ∧ b ≠ c := by
  refine path_ind hF (fun v hv h j c hj => ?_) fun v hv h ih j c hj => ?_
  · rw [path_root hF h] at hj
    simp at hj
  · rw [path_up hF hv h] at hj ⊢
    rw [List.getElem?_cons_succ] at hj
    cases j with
    | zero =>
      rw [path_zero hF (hF.lt v hv)] at hj
      cases hj
      exact ⟨v, rfl, hv, rfl, Ne.symm h⟩
    | succ j =>
      obtain ⟨b, h1, h2⟩ := ih j c hj
      exact ⟨b, by rw [List.getElem?_cons_succ]; exact h1, h2⟩
theorem good_H (hF : IsF F) (G : Good F) {v : Nat} (hv : v < F.length) : H F v = ((kids F v).length : Nat) := by
  have a1 : H F v ≤ ((kids F v).length : Nat) := by
    rw [H_le hF]
    refine ⟨by omega, fun u hu j hj => ?_⟩
    have : ∀ j v, (path F u)[j]? = some v → j ≤ (kids F v).length := by
      intro j
      induction j with
      | zero => intro v _; exact Nat.zero_le _
      | succ j ih =>
        intro v hj
        obtain ⟨b, h1, h2, h3, h4⟩ := path_prev hF u hu j v hj
        have h5 := ih b h1
        have h6 := good_kid hF G (v := v) (c := b) (by rw [← h3]; exact hF.lt b h2) (kids_mem.mpr ⟨h2, h3, h4⟩)
        omega
    have := this j v hj
    omega
  have a2 : ∀ k v, v < F.length → (kids F v).length = k → ∃ u, u < F.length ∧ (path F u)[k]? = some v := by
    intro k
    induction k with
    | zero => intro v hv _; exact ⟨v, hv, path_zero hF hv⟩
    | succ k ih =>
      intro v hv e
      obtain ⟨c, hc, e2⟩ := good_topkid hF G hv (by omega)
      obtain ⟨h1, h2, h3⟩ := kids_mem.mp hc
      obtain ⟨u, hu, hp⟩ := ih c h1 (by omega)
      have := path_next hF u hu k c hp (by rw [h2]; exact Ne.symm h3)
      rw [h2] at this
      exact ⟨u, hu, this⟩
  obtain ⟨u, hu, hp⟩ := a2 _ v hv rfl
  have := H_at hF hu hp
  omega
theorem count_le (hF : IsF F) (k : Nat) : ∀ u, u < F.length → (path F u).count k ≤ 1 := by
  refine path_ind hF (fun v hv h => by rw [path_root hF h, List.count_singleton]; split <;> omega) fun v hv h ih => ?_
  rw [path_up hF hv h, List.count_cons]
  by_cases e : v = k
  · subst e
    have : (path F (par F v)).count v = 0 := by
      rw [List.count_eq_zero]
      intro hm
      obtain ⟨r, hr⟩ := hF.rank
      have : ∀ u, u < F.length → ∀ x ∈ path F u, r x ≤ r u := path_ind hF (fun u hu h x hx => by rw [path_root hF h] at hx; rw [List.mem_singleton.mp hx]; exact Nat.le_refl _) fun u hu h ih x hx => by
        rw [path_up hF hu h] at hx
        rcases List.mem_cons.mp hx with z | z
        · rw [z]; exact Nat.le_refl _
        · have := ih x z
          have := (hr u hu).2 h
          omega
      have h2 := this _ (hF.lt v hv) v hm
      have h3 := (hr v hv).2 h
      omega
    rw [this]; simp
  · have : (v == k) = false := by simpa using e
    rw [this]; simpa using ih
theorem filt_eq {n v : Nat} (h : v < n) : (List.range n).filter (fun k => decide (k = v)) = [v] := by
  induction n with
  | zero => omega
  | succ n ih =>
    by_cases e : n = v
    · subst e
      rw [filt_yes (by simp)]
      have : (List.range n).filter (fun k => decide (k = n)) = [] := by
        rw [List.filter_eq_nil_iff]
        intro k hk
        have := List.mem_range.mp hk
        simp; omega
      rw [this]; rfl
    · rw [filt_no (by simpa using e)]
      exact ih (by omega)
theorem roots_mem {k : Nat} : k ∈ roots F ↔ k < F.length ∧ par F k = k := by unfold roots; rw [List.mem_filter, List.mem_range, decide_eq_true_eq]
theorem one_root (hF : IsF F) {v : Nat} (hv : v < F.length) (h : F.length ≤ W F v) : roots F = [v] := by
  have h1 : ∀ u, u < F.length → (path F u).count v = 1 := fun u hu => by
    have c1 := count_le hF v u hu
    by_cases e : (path F u).count v = 1
    · exact e
    · have := S_lt (n := F.length) (g := fun _ => 1) hu (fun k hk => count_le hF v k hk) (by omega)
      rw [S_const] at this
      unfold W at h
      omega
  have h2 : ∀ r, r < F.length → par F r = r → r = v := fun r hr e => by
    have := h1 r hr
    rw [path_root hF e, List.count_singleton] at this
    by_cases z : r = v
    · exact z
    · simp [z] at this
  have h3 : par F v = v := by
    have h4 := top_lt hF v hv
    have h5 := top_par hF v hv
    have := h2 _ h4 h5
    rw [this] at h5
    exact h5
  unfold roots
  rw [← filt_eq hv]
  refine List.filter_congr fun k hk => ?_
  have hk' := List.mem_range.mp hk
  by_cases e : k = v
  · subst e; simp [h3]
  · have : ¬ par F k = k := fun z => e (h2 k hk' z)
    simp [e, this]
theorem W_roots (hF : IsF F) : ((roots F).map (W F)).sum = F.length := by
  unfold roots
  rw [sum_filter]
  have e1 : (S F.length fun k => if decide (par F k = k) = true then W F k else 0) = S F.length fun k => S F.length fun u => if k = top F u then 1 else 0 := by
    refine S_congr fun k hk => ?_
    by_cases e : par F k = k
    · simp only [e, decide_true, if_true]
      rw [W_root hF e]
      refine S_congr fun u _ => ?_
      by_cases z : top F u = k
      · simp [z]
      · simp [z, Ne.symm z]
    · simp only [e, decide_false, Bool.false_eq_true, if_false]
      rw [S_none]
      intro u hu
      rw [if_neg]
      intro z
      subst z
      exact e (top_par hF u hu)
  rw [e1, S_swap, S_congr (g := fun _ => 1), S_const]
  · omega
  · intro u hu
    exact S_one (top_lt hF u hu) 1
theorem root_W (hF : IsF F) {r : Nat} (h : roots F = [r]) : r < F.length ∧ par F r = r ∧ W F r = F.length := by
  have h1 : r ∈ roots F := by rw [h]; exact List.mem_singleton.mpr rfl
  have h2 := W_roots hF
  rw [h] at h2
  simp at h2
  exact ⟨(roots_mem.mp h1).1, (roots_mem.mp h1).2, h2⟩
theorem good_max (hF : IsF F) (G : Good F) {r : Nat} (h : roots F = [r]) : H F r = ((kids F r).length : Nat) ∧ ∀ v, v < F.length → H F v ≤ ((kids F r).length : Nat) := by
  obtain ⟨h1, h2, h3⟩ := root_W hF h
  refine ⟨good_H hF G h1, fun v hv => ?_⟩
  rw [good_H hF G hv]
  have h4 := good_W hF hv (G v hv)
  have h5 := good_W hF h1 (G r h1)
  have h6 := W_le hF hv
  by_cases e : (kids F v).length ≤ (kids F r).length
  · omega
  · have := Nat.pow_lt_pow_right (a := 2) (by decide) (Nat.lt_of_not_le e)
    omega
theorem filt_length (n : Nat) (P : Nat → Bool) : ((List.range n).filter P).length = S n fun k => if P k = true then 1 else 0 := by
  rw [← sum_filter n P fun _ => 1]
  induction (List.range n).filter P with
  | nil => rfl
  | cons x l ih => rw [List.length_cons, List.map_cons, List.sum_cons, ih]; omega
theorem kids_count {r : Nat} (hr : r < F.length) (er : par F r = r) : ((List.range F.length).filter fun k => decide (par F k = r)).length = (kids F r).length + 1 := by
  unfold kids
  rw [filt_length, filt_length, S_out hr]
  simp only [er, decide_true, if_true]
  congr 1
  refine S_congr fun k _ => ?_
  by_cases e : k = r <;> by_cases e2 : par F k = r <;> simp [e, e2]
theorem pows_filter (i : Nat) : ∀ d, ((pows (i + d)).filter fun x => decide (x < 2 ^ i)).sum + 1 = 2 ^ i
  | 0 => by
    rw [List.filter_eq_self.mpr]
    · exact pows_sum i
    · intro x hx
      obtain ⟨j, hj, rfl⟩ := List.mem_map.mp hx
      have := Nat.pow_lt_pow_right (a := 2) (by decide) (List.mem_range.mp hj)
      simpa using this
  | d + 1 => by
    rw [← Nat.add_assoc, pows_succ, List.filter_append, List.filter_cons_of_neg, List.filter_nil, List.append_nil]
    · exact pows_filter i d
    · have : 2 ^ i ≤ 2 ^ (i + d) := Nat.pow_le_pow_right (by decide) (by omega)
      simp; omega
theorem good_light (hF : IsF F) (G : Good F) : ∀ c, c < F.length → par F c ≠ c → W F c ≤ 1 + lightS F c := by
  intro c hc h
  have hv := hF.lt c hc
  have hk : c ∈ kids F (par F c) := kids_mem.mpr ⟨hc, rfl, Ne.symm h⟩
  have h1 := good_kid hF G hv hk
  have h2 := good_W hF hc (G c hc)
  rw [← lightK_eq rfl]
  have e : lightK F (kids F (par F c)) c = ((wk F (par F c)).filter fun x => decide (x < W F c)).sum := by
    unfold lightK wk
    rw [List.filter_map]
    rfl
  rw [e, ← List.Perm.sum_nat ((G _ hv).filter _), h2]
  have := pows_filter (kids F c).length ((kids F (par F c)).length - (kids F c).length)
  rw [show (kids F c).length + ((kids F (par F c)).length - (kids F c).length) = (kids F (par F c)).length by omega] at this
  omega
end
end LM
namespace LM
theorem map_od {od : List Nat} {n : Nat} (hp : od.Perm (List.range n)) : (List.range n).map (fun v => od.getD v 0) = od := by
  have hl : od.length = n := by rw [hp.length_eq, List.length_range]
  apply List.ext_getElem?
  intro i
  by_cases h : i < n
  · rw [List.getElem?_map, List.getElem?_range h, List.getElem?_eq_getElem (by omega)]
    simp [List.getD_eq_getElem?_getD, List.getElem?_eq_getElem (show i < od.length by omega)]
  · rw [List.getElem?_eq_none (by simp; omega), List.getElem?_eq_none (by omega)]
theorem S_perm {od : List Nat} {n : Nat} (hp : od.Perm (List.range n)) (f : Nat → Nat) : S n f = S n fun v => f (od.getD v 0) := by
  have h1 : ((List.range n).map f).Perm (od.map f) := (hp.map f).symm
  unfold S
  rw [h1.sum_nat]
  conv => lhs; rw [← map_od hp]
  rw [List.map_map]; rfl
structure Ren (F F' od : List Nat) : Prop where
  isF : IsF F
  len : F'.length = F.length
  prm : od.Perm (List.range F.length)
  up : ∀ v, v < F.length → par F' (od.getD v 0) = od.getD (par F v) 0
section
variable {F F' od : List Nat}
theorem Ren.lt (R : Ren F F' od) {v : Nat} (h : v < F.length) : od.getD v 0 < F.length := mem_od R.prm h
theorem Ren.inj (R : Ren F F' od) {u v : Nat} (hu : u < F.length) (hv : v < F.length) (e : od.getD u 0 = od.getD v 0) : u = v := inj_od R.prm hu hv e
theorem Ren.onto (R : Ren F F' od) {v : Nat} (hv : v < F.length) : ∃ j, j < F.length ∧ od.getD j 0 = v := by
  have hl : od.length = F.length := by rw [R.prm.length_eq, List.length_range]
  have hm : v ∈ od := R.prm.mem_iff.mpr (List.mem_range.mpr hv)
  obtain ⟨j, hj, e⟩ := List.getElem_of_mem hm
  exact ⟨j, by omega, by rw [List.getD_eq_getElem?_getD, List.getElem?_eq_getElem hj]; exact e⟩
theorem Ren.isF' (R : Ren F F' od) : IsF F' := by
  obtain ⟨r, hr⟩ := R.isF.rank
  have hl : od.length = F.length := by rw [R.prm.length_eq, List.length_range]
  have nd : od.Nodup := R.prm.nodup_iff.mpr List.nodup_range
  have ix : ∀ j, j < F.length → od.idxOf (od.getD j 0) = j := fun j hj => by
    rw [List.getD_eq_getElem?_getD, List.getElem?_eq_getElem (by omega)]
    exact nd.idxOf_getElem j (by omega)
  refine isF_of (by rw [R.len]; exact R.isF.pos) (by rw [R.len]; exact R.isF.le) (fun v hv => ?_) (fun v => r (od.idxOf v)) fun v hv h => ?_
  · rw [R.len] at hv ⊢
    obtain ⟨j, hj, rfl⟩ := R.onto hv
    rw [R.up j hj]
    exact R.lt (R.isF.lt j hj)
  · rw [R.len] at hv
    obtain ⟨j, hj, rfl⟩ := R.onto hv
    rw [R.up j hj] at h ⊢
    show r (od.idxOf _) < r (od.idxOf _)
    rw [ix j hj, ix _ (R.isF.lt j hj)]
    exact (hr j hj).2 fun z => h (by rw [z])
theorem Ren.path (R : Ren F F' od) : ∀ v, v < F.length → LM.path F' (od.getD v 0) = (LM.path F v).map fun u => od.getD u 0 := by
  refine path_ind R.isF (fun v hv h => ?_) fun v hv h ih => ?_
  · rw [path_root R.isF h, path_root R.isF' (by rw [R.up v hv, h])]; rfl
  · rw [path_up R.isF hv h, path_up R.isF' (by rw [R.len]; exact R.lt hv) (by rw [R.up v hv]; exact fun z => h (R.inj (R.isF.lt v hv) hv z)), R.up v hv, ih]; rfl
theorem count_map {σ : Nat → Nat} {k : Nat} : ∀ (l : List Nat), (∀ u ∈ l, σ u = σ k → u = k) → (l.map σ).count (σ k) = l.count k
  | [], _ => rfl
  | x :: l, h => by
    rw [List.map_cons, List.count_cons, List.count_cons, count_map l fun u hu => h u (List.mem_cons_of_mem _ hu)]
    by_cases e : x = k
    · subst e; simp
    · have : ¬ σ x = σ k := fun z => e (h x List.mem_cons_self z)
      simp [e, this]
theorem Ren.W (R : Ren F F' od) {k : Nat} (hk : k < F.length) : LM.W F' (od.getD k 0) = LM.W F k := by
  unfold LM.W
  rw [R.len, S_perm R.prm]
  refine S_congr fun u hu => ?_
  rw [R.path u hu]
  exact count_map (σ := fun u => od.getD u 0) _ fun x hx e => R.inj (path_lt R.isF hu x hx) hk e
theorem Ren.filt (R : Ren F F' od) (P : Nat → Bool) : ((List.range F.length).filter P).Perm (((List.range F.length).filter fun c => P (od.getD c 0)).map fun u => od.getD u 0) := by
  have h1 := (R.prm.filter P).symm
  refine h1.trans ?_
  conv => lhs; rw [← map_od R.prm]
  rw [List.filter_map]
  exact List.Perm.refl _
theorem Ren.kids (R : Ren F F' od) {v : Nat} (hv : v < F.length) : (LM.kids F' (od.getD v 0)).Perm ((LM.kids F v).map fun u => od.getD u 0) := by
  unfold LM.kids
  rw [R.len]
  refine (R.filt _).trans ?_
  rw [List.filter_congr (q := fun c => decide (par F c = v ∧ c ≠ v))]
  intro c hc
  have hc' := List.mem_range.mp hc
  rw [R.up c hc', decide_eq_decide]
  constructor
  · rintro ⟨a, b⟩
    exact ⟨R.inj (R.isF.lt c hc') hv a, fun z => b (by rw [z])⟩
  · rintro ⟨a, b⟩
    exact ⟨by rw [a], fun z => b (R.inj hc' hv z)⟩
theorem Ren.wk (R : Ren F F' od) {v : Nat} (hv : v < F.length) : (LM.wk F' (od.getD v 0)).Perm (LM.wk F v) := by
  unfold LM.wk
  refine ((R.kids hv).map _).trans ?_
  rw [List.map_map]
  refine List.Perm.of_eq (List.map_congr_left fun c hc => ?_)
  exact R.W (kids_mem.mp hc).1
theorem Ren.good (R : Ren F F' od) (G : Good F) : Good F' := by
  intro v hv
  rw [R.len] at hv
  obtain ⟨j, hj, rfl⟩ := R.onto hv
  unfold GoodAt
  rw [(R.kids hj).length_eq, List.length_map]
  exact (G j hj).trans (R.wk hj).symm
theorem Ren.roots (R : Ren F F' od) : (LM.roots F').Perm ((LM.roots F).map fun u => od.getD u 0) := by
  unfold LM.roots
  rw [R.len]
  refine (R.filt _).trans ?_
  rw [List.filter_congr (q := fun c => decide (par F c = c))]
  intro c hc
  have hc' := List.mem_range.mp hc
  rw [R.up c hc', decide_eq_decide]
  exact ⟨fun a => R.inj (R.isF.lt c hc') hc' a, fun a => by rw [a]⟩
theorem Ren.one (R : Ren F F' od) {r : Nat} (h : LM.roots F = [r]) : LM.roots F' = [od.getD r 0] ∧ (LM.kids F' (od.getD r 0)).length = (LM.kids F r).length := by
  have h1 := R.roots
  rw [h] at h1
  refine ⟨List.perm_singleton.mp h1, ?_⟩
  rw [(R.kids (root_W R.isF h).1).length_eq, List.length_map]
end
/-- another parent, not above of which the vertex stands -/
theorem isF_move {F : List Nat} (hF : IsF F) {a p : Nat} (ha : a < F.length) (hp : p < F.length) (hn : a ∉ path F p) : IsF (F.set a p) := by
  obtain ⟨r, hr⟩ := hF.rank
  have hl : (F.set a p).length = F.length := List.length_set
  have hpar : ∀ u, par (F.set a p) u = if u = a then p else par F u := fun u => par_set ha
  refine isF_of (by rw [hl]; exact hF.pos) (by rw [hl]; exact hF.le) (fun v hv => ?_) (fun v => if a ∈ path F v then r v + F.length else r v) fun v hv h => ?_
  · rw [hl] at hv ⊢
    rw [hpar]
    split
    · exact hp
    · exact hF.lt v hv
  · rw [hl] at hv
    rw [hpar] at h ⊢
    by_cases e : v = a
    · subst e
      rw [if_pos rfl] at h ⊢
      have : v ∈ path F v := List.mem_of_getElem? (path_zero hF hv)
      rw [if_neg hn, if_pos this]
      have := (hr p hp).1
      omega
    · rw [if_neg e] at h ⊢
      have h2 := (hr v hv).2 h
      have h3 : a ∈ path F v ↔ a ∈ path F (par F v) := by
        rw [path_up hF hv h, List.mem_cons]
        exact ⟨fun z => z.resolve_left (Ne.symm e), .inr⟩
      by_cases z : a ∈ path F v
      · rw [if_pos z, if_pos (h3.mp z)]; omega
      · rw [if_neg z, if_neg fun y => z (h3.mpr y)]; exact h2
/-- trees by joins of equal trees -/
def DB : Nat → List Nat
  | 0 => [0]
  | h + 1 => DB h ++ [0] ++ (DB h).tail.map (· + (DB h).length)
theorem DB_len : ∀ h, (DB h).length = 2 ^ h
  | 0 => rfl
  | h + 1 => by
    have := DB_len h
    have h0 : 0 < 2 ^ h := Nat.two_pow_pos h
    simp only [DB, List.length_append, List.length_map, List.length_tail, List.length_singleton]
    rw [Nat.pow_succ]
    omega
theorem DB_isF {h : Nat} (hh : h ≤ 4) : IsF (DB h) := by
  have e := DB_len h
  have h1 : 0 < 2 ^ h := Nat.two_pow_pos h
  have h2 : 2 ^ h ≤ 2 ^ 4 := Nat.pow_le_pow_right (by decide) hh
  have t : ∀ h : Fin 5, ∀ v : Fin 16, v.1 < 2 ^ h.1 → par (DB h.1) v.1 ≤ v.1 := by decide +kernel
  refine isF_of (by omega) (by omega) (fun v hv => ?_) (fun v => v) fun v hv q => ?_
  · have := t ⟨h, by omega⟩ ⟨v, by omega⟩ (by simp only; omega)
    simp only at this
    omega
  · have := t ⟨h, by omega⟩ ⟨v, by omega⟩ (by simp only; omega)
    simp only at this
    omega
theorem DB_good' : ∀ h : Fin 5, ∀ v : Fin 16, v.1 < 2 ^ h.1 → (pows (kids (DB h.1) v.1).length).Perm (wk (DB h.1) v.1) := by decide +kernel
theorem DB_root' : ∀ h : Fin 5, roots (DB h.1) = [0] ∧ (kids (DB h.1) 0).length = h.1 := by decide +kernel
theorem DB_good {h : Nat} (hh : h ≤ 4) : Good (DB h) := fun v hv => by
  have h2 : 2 ^ h ≤ 2 ^ 4 := Nat.pow_le_pow_right (by decide) hh
  rw [DB_len] at hv
  exact DB_good' ⟨h, by omega⟩ ⟨v, by omega⟩ hv
theorem DB_root {h : Nat} (hh : h ≤ 4) : roots (DB h) = [0] ∧ (kids (DB h) 0).length = h := DB_root' ⟨h, by omega⟩
end LM
namespace LM
/-- a join: both are roots, and the child is no heavier -/
def Jo (F : List Nat) (i j : Nat) : Prop := par F i = i ∧ par F j = j ∧ i ≠ j ∧ W F i ≤ W F j
instance (F : List Nat) (i j : Nat) : Decidable (Jo F i j) := by unfold Jo; exact inferInstance
def pjr (F : List Nat) (i : Nat) : List (List Nat) := ((List.range F.length).filter fun j => decide (Jo F i j)).map fun j => [i, j]
def pj (F : List Nat) : List (List Nat) := ((List.range F.length).map (pjr F)).flatten
theorem pj_mem {F : List Nat} {i j : Nat} : [i, j] ∈ pj F ↔ i < F.length ∧ j < F.length ∧ Jo F i j := by
  unfold pj pjr
  rw [List.mem_flatten]
  constructor
  · rintro ⟨l, hl, h⟩
    obtain ⟨a, ha, rfl⟩ := List.mem_map.mp hl
    obtain ⟨b, hb, e⟩ := List.mem_map.mp h
    rw [List.mem_filter, List.mem_range, decide_eq_true_eq] at hb
    injection e with e1 e2
    injection e2 with e2 _
    subst e1 e2
    exact ⟨List.mem_range.mp ha, hb.1, hb.2⟩
  · rintro ⟨h1, h2, h3⟩
    exact ⟨_, List.mem_map.mpr ⟨i, List.mem_range.mpr h1, rfl⟩, List.mem_map.mpr ⟨j, by rw [List.mem_filter, List.mem_range, decide_eq_true_eq]; exact ⟨h2, h3⟩, rfl⟩⟩
theorem pj_pair {F : List Nat} {T : List Nat} (h : T ∈ pj F) : ∃ i j, T = [i, j] ∧ i < F.length ∧ j < F.length ∧ Jo F i j := by
  have h0 := h
  unfold pj pjr at h
  obtain ⟨l, hl, h⟩ := List.mem_flatten.mp h
  obtain ⟨a, ha, rfl⟩ := List.mem_map.mp hl
  obtain ⟨b, hb, rfl⟩ := List.mem_map.mp h
  exact ⟨a, b, rfl, pj_mem.mp h0⟩
theorem flat_filter {α β : Type} (p : α → Bool) (f : α → List β) : ∀ l : List α, (∀ x ∈ l, p x = false → f x = []) → ((l.filter p).map f).flatten = (l.map f).flatten
  | [], _ => rfl
  | x :: l, h => by
    have ih := flat_filter p f l fun y hy => h y (List.mem_cons_of_mem _ hy)
    cases e : p x with
    | true => rw [List.filter_cons_of_pos e, List.map_cons, List.map_cons, List.flatten_cons, List.flatten_cons, ih]
    | false => rw [List.filter_cons_of_neg (by simp [e]), List.map_cons, List.flatten_cons, h x List.mem_cons_self e, List.nil_append, ih]
theorem pj_roots (F : List Nat) : ((roots F).map (pjr F)).flatten = pj F := by
  unfold roots pj
  refine flat_filter _ _ _ fun x _ e => ?_
  rw [decide_eq_false_iff_not] at e
  unfold pjr
  rw [List.filter_eq_nil_iff.mpr fun j _ => by rw [decide_eq_true_eq]; exact fun q => e q.1]
  rfl
/-- the second vertices, found among the roots -/
theorem pjr_roots {F : List Nat} {i : Nat} (h : par F i = i) : ((roots F).filter fun j => decide (j ≠ i ∧ W F i ≤ W F j)).map (fun j => [i, j]) = pjr F i := by
  unfold roots pjr
  rw [List.filter_filter]
  congr 1
  refine List.filter_congr fun j _ => ?_
  rw [Bool.eq_iff_iff, Bool.and_eq_true, decide_eq_true_eq, decide_eq_true_eq, decide_eq_true_eq]
  unfold Jo
  exact ⟨fun q => ⟨h, q.2, fun z => q.1.1 z.symm, q.1.2⟩, fun q => ⟨⟨fun z => q.2.2.1 z.symm, q.2.2.2⟩, q.2.1⟩⟩
theorem pjr_len (F : List Nat) (i : Nat) : (pjr F i).length ≤ F.length := by
  unfold pjr
  rw [List.length_map]
  exact Nat.le_trans (List.length_filter_le _ _) (by rw [List.length_range]; exact Nat.le_refl _)
theorem flatm_len {α β : Type} (f : α → List β) (b : Nat) : ∀ l : List α, (∀ x ∈ l, (f x).length ≤ b) → (l.map f).flatten.length ≤ l.length * b
  | [], _ => by simp
  | x :: l, h => by
    have ih := flatm_len f b l fun y hy => h y (List.mem_cons_of_mem _ hy)
    have h1 := h x List.mem_cons_self
    rw [List.map_cons, List.flatten_cons, List.length_append, List.length_cons, Nat.succ_mul]
    omega
theorem pjf_len {F : List Nat} (l : List Nat) (h : l.length ≤ 24) (hF : F.length ≤ 24) : (l.map (pjr F)).flatten.length ≤ 576 := by
  have h1 := flatm_len (pjr F) 24 l fun x _ => Nat.le_trans (pjr_len F x) hF
  have : l.length * 24 ≤ 24 * 24 := Nat.mul_le_mul_right _ h
  omega
theorem roots_len (F : List Nat) : (roots F).length ≤ F.length := by
  unfold roots
  exact Nat.le_trans (List.length_filter_le _ _) (by rw [List.length_range]; exact Nat.le_refl _)
end LM
namespace LM
open LF
variable {F : List Nat}
def tr (F : List Nat) (v : Nat) : List Nat := (List.range F.length).filter fun u => decide (v ∈ path F u)
theorem tr_mem {v u : Nat} : u ∈ tr F v ↔ u < F.length ∧ v ∈ path F u := by
  unfold tr
  rw [List.mem_filter, List.mem_range, decide_eq_true_eq]
theorem hd_of (hF : IsF F) {v : Nat} (hv : v < F.length) : ∃ t, path F v = v :: t := by
  by_cases e : par F v = v
  · exact ⟨_, path_root hF e⟩
  · exact ⟨_, path_up hF hv e⟩
def gro (F l : List Nat) : List Nat := l ++ (List.range F.length).filter fun w => decide (w ∉ l ∧ par F w ∈ l)
structure Ins (F : List Nat) (v i : Nat) (l : List Nat) : Prop where
  nd : l.Nodup
  slf : v ∈ l
  snd : ∀ u ∈ l, u < F.length ∧ v ∈ path F u
  cpl : ∀ u, u < F.length → v ∈ path F u → (path F u).length ≤ i + 1 → u ∈ l
theorem Ins.start (hF : IsF F) {v : Nat} (hv : v < F.length) : Ins F v 0 [v] := by
  refine ⟨by simp, List.mem_cons_self, fun u hu => ?_, fun u hu hm hl => ?_⟩
  · rw [List.mem_singleton] at hu
    subst hu
    obtain ⟨t, e⟩ := hd_of hF hv
    exact ⟨hv, by rw [e]; exact List.mem_cons_self⟩
  · obtain ⟨t, e⟩ := hd_of hF hu
    rw [e] at hm hl
    have : t = [] := List.eq_nil_of_length_eq_zero (by rw [List.length_cons] at hl; omega)
    subst this
    rw [List.mem_singleton] at hm
    rw [hm]
    exact List.mem_cons_self
theorem Ins.step (hF : IsF F) {v i : Nat} {l : List Nat} (h : Ins F v i l) : Ins F v (i + 1) (gro F l) := by
  unfold gro
  refine ⟨?_, List.mem_append_left _ h.slf, fun u hu => ?_, fun u hu hm hl => ?_⟩
  · rw [List.nodup_append]
    refine ⟨h.nd, List.Pairwise.filter _ List.nodup_range, fun x hx y hy => ?_⟩
    rw [List.mem_filter, decide_eq_true_eq] at hy
    rintro rfl
    exact hy.2.1 hx
  · rcases List.mem_append.mp hu with z | z
    · exact h.snd u z
    · rw [List.mem_filter, List.mem_range, decide_eq_true_eq] at z
      have e : par F u ≠ u := fun y => z.2.1 (by have := z.2.2; rwa [y] at this)
      refine ⟨z.1, ?_⟩
      rw [path_up hF z.1 e]
      exact List.mem_cons_of_mem _ (h.snd _ z.2.2).2
  · by_cases z : u ∈ l
    · exact List.mem_append_left _ z
    · by_cases e : par F u = u
      · rw [path_root hF e] at hm
        rw [List.mem_singleton] at hm
        subst hm
        exact absurd (h.cpl v hu (by rw [path_root hF e]; exact List.mem_cons_self) (by rw [path_root hF e, List.length_singleton]; omega)) z
      · have hup := path_up hF hu e
        have hlt := hF.lt u hu
        by_cases y : u = v
        · subst y
          exact absurd h.slf z
        · rw [hup] at hm hl
          rw [List.length_cons] at hl
          have hp := h.cpl _ hlt ((List.mem_cons.mp hm).resolve_left fun q => y q.symm) (by omega)
          refine List.mem_append_right _ ?_
          rw [List.mem_filter, List.mem_range, decide_eq_true_eq]
          exact ⟨hu, z, hp⟩
theorem Ins.perm (hF : IsF F) {v : Nat} {l : List Nat} (h : Ins F v F.length l) : l.Perm (tr F v) := by
  refine (List.perm_ext_iff_of_nodup h.nd (List.Pairwise.filter _ List.nodup_range)).mpr fun u => ?_
  rw [show u ∈ List.filter (fun u => decide (v ∈ path F u)) (List.range F.length) ↔ u < F.length ∧ v ∈ path F u from tr_mem]
  exact ⟨fun z => h.snd u z, fun z => h.cpl u z.1 z.2 (pathF_len F F.length u).2⟩
theorem tr_up (v : Nat) : (tr F v).Pairwise (· < ·) := List.Pairwise.filter _ List.pairwise_lt_range
theorem nd_len {α : Type} [DecidableEq α] : ∀ (l m : List α), l.Nodup → (∀ x ∈ l, x ∈ m) → l.length ≤ m.length
  | [], m, _, _ => Nat.zero_le _
  | x :: l, m, hn, hs => by
    have hx := hs x List.mem_cons_self
    obtain ⟨h1, h2⟩ := List.nodup_cons.mp hn
    have := nd_len l (m.erase x) h2 fun y hy => by
      have hy2 := hs y (List.mem_cons_of_mem _ hy)
      exact (List.mem_erase_of_ne (by intro z; subst z; exact h1 hy)).mpr hy2
    rw [List.length_erase_of_mem hx] at this
    have hpos := List.length_pos_of_mem hx
    rw [List.length_cons]
    omega
theorem ins_len {v i : Nat} {l : List Nat} (h : Ins F v i l) : l.length ≤ F.length := by
  have := nd_len l (List.range F.length) h.nd fun u hu => List.mem_range.mpr (h.snd u hu).1
  rwa [List.length_range] at this
end LM
namespace LM
open LF PySem
def sN (n : Nat) : Str := (toString ((n : Nat) : Int) : String)
def spX : Str := ⟨#[32]⟩
theorem sp_lit : ((" " : String) : Str) = spX := by decide +kernel
def cl (x : Str) : List Nat := x.cps.toList
theorem cl_app (x y : Str) : cl (x ++ y) = cl x ++ cl y := by
  show (x.cps ++ y.cps).toList = _
  rw [Array.toList_append]; rfl
theorem cl_inj {x y : Str} (h : cl x = cl y) : x = y := by
  cases x; cases y
  exact congrArg Str.mk (Array.toList_inj.mp h)
theorem cl_len (x : Str) : (cl x).length = x.length := Array.length_toList
theorem str_len_app (x y : Str) : (x ++ y).length = x.length + y.length := by rw [← cl_len, cl_app, List.length_append, cl_len, cl_len]
/-- what is asked of a number's text -/
def okN (n : Nat) : Bool := !(cl (sN n)).contains 32 && decide (1 ≤ (sN n).length) && decide ((sN n).length ≤ 2) && (cl (sN n)).all (fun c => (cl ("0123456789" : Str)).contains c)
  && decide (PySem.intText? (sN n) = some (n : Int)) && (decide ((cl (sN n))[0]? ≠ some 48) || decide (sN n = ("0" : Str)))
theorem okN_all : ∀ n, n < 24 → okN n = true := by decide +kernel
structure OkN (n : Nat) : Prop where
  sp : 32 ∉ cl (sN n)
  pos : 1 ≤ (sN n).length
  le : (sN n).length ≤ 2
  dig : ∀ c ∈ cl (sN n), c ∈ cl ("0123456789" : Str)
  int : PySem.intText? (sN n) = some (n : Int)
  zero : (cl (sN n))[0]? = some 48 → sN n = ("0" : Str)
theorem okN_of {n : Nat} (h : n < 24) : OkN n := by
  have := okN_all n h
  unfold okN at this
  simp only [Bool.and_eq_true, Bool.not_eq_true', Bool.or_eq_true, decide_eq_true_eq] at this
  obtain ⟨⟨⟨⟨⟨h1, h2⟩, h3⟩, h4⟩, h5⟩, h6⟩ := this
  refine ⟨fun z => ?_, h2, h3, fun c hc => ?_, h5, fun z => ?_⟩
  · rw [List.contains_iff_mem.mpr z] at h1; cases h1
  · exact List.contains_iff_mem.mp (List.all_eq_true.mp h4 c hc)
  · rcases h6 with h | h
    · exact absurd z h
    · exact h
theorem join_one (x : Str) : Str.join spX [x] = x := rfl
theorem join_two (x y : Str) (r : List Str) : Str.join spX (x :: y :: r) = x ++ spX ++ Str.join spX (y :: r) := rfl
theorem join_snoc (x : Str) : ∀ l : List Str, l ≠ [] → Str.join spX (l ++ [x]) = Str.join spX l ++ spX ++ x
  | [], h => absurd rfl h
  | [y], _ => rfl
  | y :: z :: r, _ => by
    rw [List.cons_append, List.cons_append, join_two, ← List.cons_append, join_snoc x (z :: r) (by simp), join_two]
    apply cl_inj
    simp only [cl_app, List.append_assoc]
theorem free_cut {a b r s : List Nat} (ha : 32 ∉ a) (hb : 32 ∉ b) (h : a ++ 32 :: r = b ++ 32 :: s) : a = b ∧ r = s := by
  induction a generalizing b with
  | nil =>
    cases b with
    | nil => exact ⟨rfl, by injection h⟩
    | cons y b =>
      injection h with h1 h2
      exact absurd (by rw [← h1]; exact List.mem_cons_self) hb
  | cons x a ih =>
    cases b with
    | nil =>
      injection h with h1 h2
      exact absurd (by rw [h1]; exact List.mem_cons_self) ha
    | cons y b =>
      injection h with h1 h2
      obtain ⟨e1, e2⟩ := ih (fun z => ha (List.mem_cons_of_mem _ z)) (fun z => hb (List.mem_cons_of_mem _ z)) h2
      exact ⟨by rw [h1, e1], e2⟩
theorem join_cl2 (x y : Str) (r : List Str) : cl (Str.join spX (x :: y :: r)) = cl x ++ 32 :: cl (Str.join spX (y :: r)) := by
  rw [join_two, cl_app, cl_app, List.append_assoc]
  rfl
theorem join_inj : ∀ l m : List Str, l ≠ [] → m ≠ [] → (∀ x ∈ l, 32 ∉ cl x) → (∀ x ∈ m, 32 ∉ cl x) → Str.join spX l = Str.join spX m → l = m
  | [], _, h, _, _, _, _ => absurd rfl h
  | _, [], _, h, _, _, _ => absurd rfl h
  | [x], [y], _, _, _, _, e => by rw [show x = y from e]
  | [x], y :: z :: r, _, _, h1, _, e => by
    have e2 : cl x = cl y ++ 32 :: cl (Str.join spX (z :: r)) := by rw [← join_cl2, ← e]; rfl
    exact absurd (by rw [e2]; simp) (h1 x (by simp))
  | x :: w :: l, [y], _, _, _, h2, e => by
    have e2 : cl y = cl x ++ 32 :: cl (Str.join spX (w :: l)) := by rw [← join_cl2, e]; rfl
    exact absurd (by rw [e2]; simp) (h2 y (by simp))
  | x :: w :: l, y :: z :: r, _, _, h1, h2, e => by
    have e2 : cl x ++ 32 :: cl (Str.join spX (w :: l)) = cl y ++ 32 :: cl (Str.join spX (z :: r)) := by rw [← join_cl2, ← join_cl2, e]
    obtain ⟨e3, e4⟩ := free_cut (h1 x (by simp)) (h2 y (by simp)) e2
    rw [cl_inj e3, join_inj (w :: l) (z :: r) (by simp) (by simp) (fun x hx => h1 x (List.mem_cons_of_mem _ hx)) (fun x hx => h2 x (List.mem_cons_of_mem _ hx)) (cl_inj e4)]
def txt (l : List Nat) : Str := Str.join spX (l.map sN)
theorem split_txt {l : List Nat} (h0 : l ≠ []) (h : ∀ n ∈ l, n < 24) : Txt.split (txt l) spX = l.map sN := by
  refine join_inj _ _ (fun z => ?_) (by simpa using h0) (fun x hx => ?_) (fun x hx => ?_) (PySem.StrLaws.join_split _ _)
  · have := PyProof.Rows.split_pos (txt l) spX
    rw [z] at this
    cases this
  · exact PySem.StrLaws.split_free _ 32 x hx
  · obtain ⟨n, hn, rfl⟩ := List.mem_map.mp hx
    exact (okN_of (h n hn)).sp
theorem txt_snoc {l : List Nat} (n : Nat) (h : l ≠ []) : txt (l ++ [n]) = txt l ++ spX ++ sN n := by
  unfold txt
  rw [List.map_append]
  exact join_snoc _ _ (by simpa using h)
theorem txt_one (n : Nat) : txt [n] = sN n := rfl
theorem txt_nil : txt [] = ("" : Str) := by decide +kernel
theorem txt_len : ∀ l : List Nat, (∀ n ∈ l, n < 24) → (txt l).length ≤ 3 * l.length ∧ (l ≠ [] → 1 ≤ (txt l).length) := by
  intro l
  induction l with
  | nil => intro _; exact ⟨by rw [txt_nil]; decide +kernel, fun z => absurd rfl z⟩
  | cons n l ih =>
    intro h
    have o := okN_of (h n (by simp))
    have := o.pos
    have := o.le
    obtain ⟨i1, i2⟩ := ih fun m hm => h m (List.mem_cons_of_mem _ hm)
    cases l with
    | nil => rw [txt_one]; exact ⟨by rw [List.length_singleton]; omega, fun _ => by omega⟩
    | cons m l =>
      have e : txt (n :: m :: l) = sN n ++ spX ++ txt (m :: l) := rfl
      rw [e, str_len_app, str_len_app, show spX.length = 1 from rfl]
      refine ⟨?_, fun _ => by omega⟩
      rw [List.length_cons (a := n)]
      omega
theorem txt_head {l : List Nat} (h0 : l ≠ []) (h : ∀ n ∈ l, n < 24) : ∃ c, (cl (txt l))[0]? = some c ∧ c ∈ cl ("0123456789" : Str) := by
  match l, h0 with
  | [n], _ =>
    have o := okN_of (h n (by simp))
    have hp := o.pos
    rw [← cl_len] at hp
    exact ⟨(cl (sN n))[0], by rw [txt_one]; exact List.getElem?_eq_getElem hp, o.dig _ (List.getElem_mem hp)⟩
  | n :: m :: l, _ =>
    have o := okN_of (h n (by simp))
    have hp := o.pos
    rw [← cl_len] at hp
    refine ⟨(cl (sN n))[0], ?_, o.dig _ (List.getElem_mem hp)⟩
    have e : txt (n :: m :: l) = sN n ++ spX ++ txt (m :: l) := rfl
    rw [e, cl_app, cl_app, List.append_assoc, List.getElem?_append_left hp]
    exact List.getElem?_eq_getElem hp
theorem txt_none {l : List Nat} (h0 : l ≠ []) (h : ∀ n ∈ l, n < 24) : txt l ≠ ("none" : Str) := fun z => by
  obtain ⟨c, h1, h2⟩ := txt_head h0 h
  rw [z, show (cl ("none" : Str))[0]? = some 110 by decide +kernel] at h1
  cases h1
  exact absurd h2 (by decide +kernel)
/-- what stands for a row of vertices -/
def vtxt (l : List Nat) : Str := if l = [] then ("none" : Str) else txt l
theorem at_sp {x : Str} {i : Nat} : PySem.StrLaws.At x spX x.length i ↔ (cl x)[i]? = some 32 := by
  exact PySem.StrLaws.subAt_one x 32 i
theorem cl_sub (x : Str) (i j : Nat) : cl (Builtin.Str.strSub x i j) = ((cl x).take j).drop i := by
  show (x.cps.extract i j).toList = _
  rw [Array.toList_extract, List.extract_eq_take_drop]
  rw [List.drop_take]
  rfl
theorem part_of {u v : Str} (hu : 32 ∉ cl u) : Txt.partition (u ++ spX ++ v) spX = (u, spX, v) := by
  have ex : cl (u ++ spX ++ v) = cl u ++ 32 :: cl v := by rw [cl_app, cl_app, List.append_assoc]; rfl
  have hat : (cl (u ++ spX ++ v))[(cl u).length]? = some 32 := by rw [ex]; simp
  have hf : ∃ r, Builtin.Str.occurrences (u ++ spX ++ v) spX 0 (u ++ spX ++ v).length 1 = (cl u).length :: r := by
    rcases PyProof.Rows.find_whole (u ++ spX ++ v) spX with ⟨_, h⟩ | ⟨i, h1, h2, h3⟩
    · exact absurd (at_sp.mpr hat) (h _)
    · have e : i = (cl u).length := by
        rcases Nat.lt_trichotomy i (cl u).length with z | z | z
        · have := at_sp.mp h2
          rw [ex, List.getElem?_append_left z] at this
          exact absurd (List.mem_of_getElem? this) hu
        · exact z
        · exact absurd (at_sp.mpr hat) (h3 _ z)
      unfold Txt.find at h1
      split at h1
      · rename_i a r q
        exact ⟨r, by rw [q, show a = i by omega, e]⟩
      · omega
  obtain ⟨r, hr⟩ := hf
  unfold Txt.partition
  rw [hr]
  dsimp only
  refine Prod.ext ?_ (Prod.ext rfl ?_)
  · apply cl_inj
    rw [cl_sub, ex]
    simp
  · apply cl_inj
    rw [cl_sub, ex, ← cl_len (u ++ spX ++ v), ex]
    rw [List.take_length, show (cl u).length + spX.length = (cl u ++ [32]).length by rw [List.length_append]; rfl, show cl u ++ 32 :: cl v = (cl u ++ [32]) ++ cl v by simp, List.drop_left]
end LM
namespace LM
open PySem PySem.Spec PyProof.Rows L2 LF
theorem ix_par {F : List Nat} {v : Nat} (h : v < F.length) : atI ((nI F).map D.int) (v : Int) = some (.int (par F v : Nat)) := by
  refine L2.atI_nat ?_
  unfold nI
  rw [List.map_map, List.getElem?_map, par_get h]; rfl
theorem getI {F : List Nat} {v : Nat} (h : v < F.length) : ((nI F).map D.int)[v]? = some (.int (par F v : Nat)) := by
  unfold nI
  rw [List.map_map, List.getElem?_map, par_get h]; rfl
theorem rng_len (F : List Nat) : (((List.map D.int (nI F)).length : Nat) : Int).toNat = F.length := by rw [List.length_map, nI_length]; rfl
theorem rng_ok {F : List Nat} (hF : IsF F) : (-2 ^ 62 ≤ (((List.map D.int (nI F)).length : Nat) : Int) ∧ (((List.map D.int (nI F)).length : Nat) : Int) < 2 ^ 62) := by
  rw [List.length_map, nI_length]
  have := hF.le
  omega
theorem rangeD_get {n i : Nat} {x : LF.D} (h : (rangeD 0 n)[i]? = some x) : i < n ∧ x = .int (i : Nat) := by
  have hi : i < n := by
    have := (List.getElem?_eq_some_iff.mp h).1
    rwa [rangeD_length] at this
  refine ⟨hi, ?_⟩
  unfold rangeD at h
  rw [List.getElem?_map, List.getElem?_range hi] at h
  simp at h
  exact h.symm
theorem rangeD_nI (n : Nat) : rangeD 0 ((n : Int)).toNat = (nI (List.range n)).map D.int := by
  unfold rangeD nI
  rw [List.map_map, Int.toNat_natCast]
  apply List.map_congr_left
  intro i _
  simp
theorem nI_get {F : List Nat} {v : Nat} (h : v < F.length) : ((nI F).map D.int)[v]? = some (.int (F[v] : Nat)) := by
  unfold nI
  rw [List.map_map, List.getElem?_map, List.getElem?_eq_getElem h]; rfl
theorem range1_get {n i : Nat} {x : LF.D} (h : (rangeD 1 ((n : Int) - 1).toNat)[i]? = some x) : i + 1 < n ∧ x = .int ((i + 1 : Nat) : Int) := by
  have hi : i < ((n : Int) - 1).toNat := by
    have := (List.getElem?_eq_some_iff.mp h).1
    rwa [rangeD_length] at this
  refine ⟨by omega, ?_⟩
  unfold rangeD at h
  rw [List.getElem?_map, List.getElem?_range hi] at h
  simp at h
  rw [← h]
  congr 1
  omega
theorem zeros (n : Nat) : (List.replicate n [D.int 0]).flatten = (List.replicate n (0 : Int)).map D.int := by
  induction n with
  | zero => rfl
  | succ n ih => rw [List.replicate_succ, List.flatten_cons, ih]; rfl
theorem setI {ns : List Int} {j : Nat} {x : Int} : (ns.map D.int).set j (.int x) = (ns.set j x).map D.int := by rw [List.map_set]
theorem getDI {ns : List Int} {j : Nat} (h : j < ns.length) : (ns.map D.int)[j]? = some (.int (ns.getD j 0)) := by
  rw [List.getElem?_map, List.getD_eq_getElem?_getD, List.getElem?_eq_getElem h]; rfl
theorem ixN_nat {n j : Nat} (h : j < n) : ixN n (j : Int) = some j := by
  unfold ixN
  rw [if_pos (by omega), if_pos (by omega)]; rfl
theorem intsI {ns : List Int} {i : Nat} {x : LF.D} (h : (ns.map D.int)[i]? = some x) : ∃ z, x = .int z := by
  rw [List.getElem?_map] at h
  cases e : ns[i]? with
  | none => rw [e] at h; cases h
  | some z => rw [e] at h; cases h; exact ⟨z, rfl⟩
theorem nI_snoc (xs : List Nat) (u : Nat) : (nI (xs ++ [u])).map D.int = (nI xs).map D.int ++ [.int (u : Nat)] := by simp [nI]
theorem enumD_at {xs : List LF.D} {i : Nat} {x : LF.D} (h : (enumD 0 xs)[i]? = some x) : ∃ d, xs[i]? = some d ∧ x = .tup [.int (i : Nat), d] := by
  have hi : i < xs.length := by
    have := (List.getElem?_eq_some_iff.mp h).1
    rwa [enumD_length] at this
  have := enumD_get 0 xs i _ (List.getElem?_eq_getElem hi)
  rw [h] at this
  cases this
  exact ⟨_, List.getElem?_eq_getElem hi, by rw [Nat.zero_add]⟩
theorem sum_le : ∀ (l : List Int) (B : Int), (∀ x ∈ l, 0 ≤ x ∧ x ≤ B) → 0 ≤ l.sum ∧ l.sum ≤ B * l.length
  | [], B, _ => by simp
  | x :: l, B, h => by
    have h1 := h x List.mem_cons_self
    have h2 := sum_le l B fun y hy => h y (List.mem_cons_of_mem _ hy)
    have e : (((x :: l).length : Nat) : Int) = (l.length : Int) + 1 := by rw [List.length_cons]; omega
    rw [List.sum_cons, e, Int.mul_add]
    omega
theorem fP_small {F : List Nat} (hF : IsF F) : Sm 1 100 (.tuple ((nI F).map .int)) := by
  have hle := hF.le
  refine (Sm.tup (Sms.ints (d := 0) fun x hx => ?_)).mono (Nat.le_refl _) (by rw [nI_length]; omega)
  obtain ⟨u, hu, rfl⟩ := List.mem_map.mp hx
  obtain ⟨j, hj, e⟩ := List.getElem_of_mem hu
  have := hF.lt j hj
  have e2 : par F j = u := by unfold par; rw [List.getD_eq_getElem?_getD, List.getElem?_eq_getElem hj]; exact e
  omega
theorem hUp_drop (hs : List Int) (c : Int) (p : List Nat) (j : Nat) (h : j < p.length) : hUp hs c (p.drop j) = hUp (hs.set p[j] (mx (hs.getD p[j] 0) c)) (c + 1) (p.drop (j + 1)) := by
  rw [List.drop_eq_getElem_cons h, hUp]
/-- a list of numbers given by a function -/
def LI (n : Nat) (e : Nat → Nat) : List LF.D := (List.range n).map fun k => LF.D.int ((e k : Nat) : Int)
theorem LI_len (n : Nat) (e : Nat → Nat) : (LI n e).length = n := by unfold LI; rw [List.length_map, List.length_range]
theorem LI_get {n k : Nat} {e : Nat → Nat} (h : k < n) : (LI n e)[k]? = some (.int (e k : Nat)) := by
  unfold LI
  rw [List.getElem?_map, List.getElem?_range h]; rfl
theorem LI_at {n k : Nat} {e : Nat → Nat} (h : k < n) : atI (LI n e) (k : Int) = some (.int (e k : Nat)) := L2.atI_nat (LI_get h)
theorem LI_congr {n : Nat} {e e' : Nat → Nat} (h : ∀ k, k < n → e k = e' k) : LI n e = LI n e' := by
  unfold LI
  refine List.map_congr_left fun k hk => ?_
  rw [h k (List.mem_range.mp hk)]
theorem LI_set {n j : Nat} {e : Nat → Nat} (x : Nat) : (LI n e).set j (.int (x : Nat)) = LI n (fun k => if k = j then x else e k) := by
  apply List.ext_getElem?
  intro k
  by_cases hk : k < n
  · rw [LI_get hk]
    by_cases e1 : j = k
    · subst e1; rw [List.getElem?_set_self (by rw [LI_len]; exact hk), if_pos rfl]
    · rw [List.getElem?_set_ne e1, LI_get hk, if_neg (Ne.symm e1)]
  · rw [List.getElem?_eq_none (by rw [List.length_set, LI_len]; omega), List.getElem?_eq_none (by rw [LI_len]; omega)]
theorem LI_rep (n c : Nat) : (List.replicate n [LF.D.int (c : Nat)]).flatten = LI n fun _ => c := by
  induction n with
  | zero => rfl
  | succ n ih =>
    unfold LI at ih ⊢
    rw [List.replicate_succ', List.flatten_append, List.range_succ, List.map_append, ih]; rfl
theorem LI_nI (n : Nat) (e : Nat → Nat) : LI n e = (nI ((List.range n).map e)).map LF.D.int := by
  unfold LI nI
  rw [List.map_map, List.map_map]; rfl
theorem LI_pyd (n : Nat) (e : Nat → Nat) : LI n e = (((List.range n).map fun k => ((e k : Nat) : Int))).map LF.D.int := by
  unfold LI
  rw [List.map_map]; rfl
/-- a step of counting -/
theorem LI_bump {n j : Nat} {e e' : Nat → Nat} (h : ∀ k, k < n → e' k = e k + if k = j then 1 else 0) : (LI n e).set j (.int ((e j : Nat) + 1 : Int)) = LI n e' := by
  rw [show ((e j : Nat) + 1 : Int) = ((e j + 1 : Nat) : Int) by omega, LI_set]
  refine LI_congr fun k hk => ?_
  rw [h k hk]
  by_cases z : k = j
  · subst z; simp
  · simp [z]
theorem ix_of {d y : LF.D} {g : G} {xs : List LF.D} {u : Int} {Q : LF.D → G → Prop} (h : itemsOf d g xs) (hy : atI xs u = some y) (q : Q y g) : rIxd d (.int u) g Q := by
  unfold rIxd
  cases d <;> first | exact h.elim | skip
  all_goals first
    | exact ⟨_, _, h, hy, q⟩
    | (have e : xs = _ := h; subst e; exact ⟨_, _, rfl, hy, q⟩)
    | skip
theorem len_of {d : LF.D} {g : G} {xs : List LF.D} {Q : LF.D → G → Prop} (h : itemsOf d g xs) (q : Q (.int (xs.length : Nat)) g) : LF.rLen [d] g Q := by
  cases d <;> first | exact h.elim | exact ⟨_, h, q⟩
/-- lists, tuples of numbers compared -/
theorem eqv_ints (ns ms : List Int) : PyData.eqv (.list (ns.map PyData.int)) (.list (ms.map PyData.int)) = decide (ns = ms) := PySem.W.Datum.eqv (α := List Int) ns ms
theorem eqv_intsT (ns ms : List Int) : PyData.eqv (.tuple (ns.map PyData.int)) (.tuple (ms.map PyData.int)) = decide (ns = ms) := by
  have := PySem.W.Datum.eqv (α := List Int) ns ms
  have e : PyData.eqv (.list (ns.map PyData.int)) (.list (ms.map PyData.int)) = PyData.eqv (.tuple (ns.map PyData.int)) (.tuple (ms.map PyData.int)) := by simp only [PyData.eqv]
  rw [← e, eqv_ints]
theorem shaped_intsT (ns : List Int) : SeqAt.shaped (.tuple (ns.map PyData.int)) = true := by
  have h := shaped_ints ns
  unfold SeqAt.shaped at h ⊢
  simp only [PyData.canLay0, PyData.depth] at h ⊢
  exact h
theorem deq_lists {a b : Addr} {ns ms : List Int} {f : Bool → Bool} {g : G} {Q : LF.D → G → Prop} (ha : g a = some (.lst (ns.map LF.D.int))) (hb : g b = some (.lst (ms.map LF.D.int))) (q : Q (.bl (f (decide (ns = ms)))) g) : deepEq f (.ref a) (.ref b) g Q :=
  ⟨_, _, .lst ha (Dats.ints ns), .lst hb (Dats.ints ms), shaped_ints ns, shaped_ints ms, by rw [eqv_ints]; exact q⟩
theorem deq_tups {ns ms : List Int} {f : Bool → Bool} {g : G} {Q : LF.D → G → Prop} (q : Q (.bl (f (decide (ns = ms)))) g) : deepEq f (.tup (ns.map LF.D.int)) (.tup (ms.map LF.D.int)) g Q :=
  ⟨_, _, .tup (Dats.ints ns), .tup (Dats.ints ms), shaped_intsT ns, shaped_intsT ms, by rw [eqv_intsT]; exact q⟩
end LM
namespace LM
open PySem PySem.Spec PyProof.Rows L2 LF
theorem pow_small {i : Nat} (h : i ≤ 60) : (2 ^ i : Nat) < 2 ^ 62 := Nat.lt_of_le_of_lt (Nat.pow_le_pow_right (by decide) h) (by decide)
theorem pow_mulW {i : Nat} (h : i ≤ 60) : CMulW 2 ((2 ^ i : Nat) : Int) := mulW_64 (by decide) (by rw [Int.natAbs_natCast]; exact Nat.lt_trans (pow_small h) (by decide))
theorem pow_next (i : Nat) : (2 : Int) * ((2 ^ i : Nat) : Int) = ((2 ^ (i + 1) : Nat) : Int) := by rw [Nat.pow_succ]; omega
theorem nI_getN {F : List Nat} {i : Nat} {x : LF.D} (h : ((nI F).map D.int)[i]? = some x) : ∃ hi : i < F.length, x = .int (F[i] : Nat) := by
  have hi : i < F.length := by
    have := (List.getElem?_eq_some_iff.mp h).1
    rwa [List.length_map, nI_length] at this
  rw [nI_get hi] at h
  cases h
  exact ⟨hi, rfl⟩
theorem count_snoc (p : List Nat) (j : Nat) (h : j < p.length) (k : Nat) : (p.take (j + 1)).count k = (p.take j).count k + if k = p[j] then 1 else 0 := by
  rw [List.take_succ_eq_append_getElem h, List.count_append, List.count_singleton]
  congr 1
  by_cases e : k = p[j]
  · simp [e]
  · have : (p[j] == k) = false := by simpa using Ne.symm e
    simp [this, e]
theorem path_hd {F : List Nat} (hF : IsF F) {v : Nat} (hv : v < F.length) : path F v = v :: (path F v).tail := by
  by_cases e : par F v = v
  · rw [path_root hF e]; rfl
  · rw [path_up hF hv e]; rfl
theorem count_hd {F : List Nat} (hF : IsF F) {v : Nat} (hv : v < F.length) (k : Nat) : (path F v).count k = (if v = k then 1 else 0) + (path F v).tail.count k := by
  have h : (v :: (path F v).tail).count k = (if v = k then 1 else 0) + (path F v).tail.count k := by
    rw [List.count_cons]
    by_cases e : v = k
    · subst e; simp; omega
    · have : (v == k) = false := by simpa using e
      simp [this, e]
  rw [← path_hd hF hv] at h
  exact h
theorem W_tail {F : List Nat} (hF : IsF F) {k : Nat} (hk : k < F.length) : W F k = 1 + S F.length fun u => (path F u).tail.count k := by
  unfold W
  rw [S_congr (fun u hu => count_hd hF hu k), S_add, S_one hk]
theorem none_gset {g : G} {p p1 : Addr} {o : DO} (hp1 : gset g p o p1 = none) : g p1 = none := by
  by_cases e : p1 = p
  · subst e; rw [gset_same] at hp1; cases hp1
  · rwa [gset_ne e] at hp1
theorem nI_getP {F : List Nat} {i : Nat} {x : LF.D} (h : ((nI F).map D.int)[i]? = some x) : i < F.length ∧ x = .int (par F i : Nat) := by
  have hi := (nI_getN h).1
  refine ⟨hi, ?_⟩
  rw [getI hi] at h
  exact (Option.some.inj h).symm
theorem nI_sum (l : List Nat) : (nI l).sum = (l.sum : Nat) := by
  induction l with
  | nil => rfl
  | cons x l ih => unfold nI at ih ⊢; rw [List.map_cons, List.sum_cons, ih, List.sum_cons]; omega
theorem take_yes {P : Nat → Bool} {l : List Nat} {i : Nat} (hi : i < l.length) (h : P l[i] = true) : (l.take (i + 1)).filter P = (l.take i).filter P ++ [l[i]] := by
  rw [List.take_succ_eq_append_getElem hi, List.filter_append, List.filter_cons_of_pos h]; rfl
theorem take_no {P : Nat → Bool} {l : List Nat} {i : Nat} (hi : i < l.length) (h : ¬ P l[i] = true) : (l.take (i + 1)).filter P = (l.take i).filter P := by
  rw [List.take_succ_eq_append_getElem hi, List.filter_append, List.filter_cons_of_neg h]; simp
theorem take_len (P : Nat → Bool) (l : List Nat) (i : Nat) : ((l.take i).filter P).length ≤ l.length := by
  have := List.length_filter_le P (l.take i)
  rw [List.length_take] at this
  omega
theorem flat_len {F : List Nat} (hF : IsF F) : ∀ i, ((List.range i).map (heavyOf F)).flatten.length ≤ 24 * i
  | 0 => Nat.le_refl _
  | i + 1 => by
    rw [List.range_succ, List.map_append, List.flatten_append, List.length_append]
    have h1 := flat_len hF i
    have h2 := List.length_filter_le (fun c => decide (1 + lightK F (kids F i) c < W F c)) (kids F i)
    have h3 := kids_len hF i
    have h4 : ([i].map (heavyOf F)).flatten.length = (heavyOf F i).length := by simp
    rw [h4]
    unfold heavyOf at h1 ⊢
    omega
theorem light_none {F : List Nat} (h : BtI F) : ((List.range F.length).map (heavyOf F)).flatten = [] := by
  rw [List.flatten_eq_nil_iff]
  intro l hl
  obtain ⟨p, hp, rfl⟩ := List.mem_map.mp hl
  unfold heavyOf
  rw [List.filter_eq_nil_iff]
  intro c hc
  obtain ⟨h1, h2, h3⟩ := kids_mem.mp hc
  have := h.light c h1 (by rw [h2]; exact Ne.symm h3)
  rw [lightK_eq h2]
  simp
  omega
theorem H_hi {F : List Nat} (hF : IsF F) (k : Nat) : H F k ≤ 24 := by
  rw [H_le hF]
  refine ⟨by decide, fun u hu j hj => ?_⟩
  have := (path_len hF u).2
  have := (List.getElem?_eq_some_iff.mp hj).1
  omega
theorem H_nat {F : List Nat} (hF : IsF F) (k : Nat) : H F k = ((H F k).toNat : Int) := (Int.toNat_of_nonneg (H_nn hF k)).symm
theorem hAt {F : List Nat} (hF : IsF F) {k : Nat} (hk : k < F.length) : atI ((hAll F F.length).map D.int) (k : Int) = some (.int ((H F k).toNat : Nat)) := by
  rw [← H_nat hF k]
  exact L2.atI_nat (getDI (by rw [hAll_length]; exact hk))
def thinL (F : List Nat) : List Nat := (List.range F.length).filter fun k => decide (W F k < 2 ^ (H F k).toNat)
theorem int_mod (a b : Nat) : (a : Int) % (b : Int) = ((a % b : Nat) : Int) := by simp
theorem int_div (a b : Nat) : (a : Int) / (b : Int) = ((a / b : Nat) : Int) := by simp
theorem rangeD1_get {n i : Nat} {x : LF.D} (h : (rangeD 1 ((n : Int) - 1).toNat)[i]? = some x) : i + 1 < n ∧ x = .int ((i + 1 : Nat) : Int) := LM.range1_get h
theorem _root_.LF.Fr.nil {S : List Addr} {g g1 : G} {p : Addr} (f : Fr S g g1) (h : g1 p = none) (hs : p ∉ S) : g p = none := by
  cases e : g p with
  | none => rfl
  | some u => rw [f p u e hs] at h; cases h
theorem dep_sum {F : List Nat} (hF : IsF F) : ((List.range F.length).map (dep F)).sum = ((S F.length fun k => if par F k = k then 0 else W F k : Nat) : Int) := by
  rw [← depth_sum hF]
  unfold S
  rw [← nI_sum]
  unfold nI
  rw [List.map_map]
  congr 1
  refine List.map_congr_left fun u _ => ?_
  have := (path_len hF u).1
  show dep F u = (((path F u).length - 1 : Nat) : Int)
  unfold dep
  omega
theorem sm_small {l : List Nat} (hl : l.length ≤ 24) (h : ∀ x ∈ l, x ≤ 1000) : Sm 1 100 (.tuple ((nI l).map .int)) := by
  refine (Sm.tup (Sms.ints (d := 0) fun x hx => ?_)).mono (Nat.le_refl _) (by rw [nI_length]; omega)
  obtain ⟨u, hu, rfl⟩ := List.mem_map.mp hx
  have := h u hu
  rw [Int.natAbs_natCast]
  omega
theorem depAt {F : List Nat} {k : Nat} (hk : k < F.length) : atI (((List.range F.length).map (dep F)).map D.int) (k : Int) = some (.int (dep F k)) := by
  refine L2.atI_nat ?_
  rw [List.map_map, List.getElem?_map, List.getElem?_range hk]; rfl
theorem H_max {F : List Nat} (hF : IsF F) {r : Nat} (hr : r < F.length) (er : par F r = r) {m : Int} (h1 : m ∈ ((List.range F.length).filter fun k => decide (LM.top F k = r)).map (dep F))
    (h2 : ∀ y ∈ ((List.range F.length).filter fun k => decide (LM.top F k = r)).map (dep F), y ≤ m) : H F r = m := by
  have a1 : m ≤ H F r := by
    obtain ⟨u, hu, rfl⟩ := List.mem_map.mp h1
    rw [List.mem_filter, List.mem_range, decide_eq_true_eq] at hu
    obtain ⟨pre, e, _⟩ := path_last hF u hu.1
    have h3 := H_at hF (k := r) (j := pre.length) hu.1 (by rw [e, List.getElem?_append_right (Nat.le_refl _), hu.2]; simp)
    have : (path F u).length = pre.length + 1 := by rw [e, List.length_append, List.length_singleton]
    unfold dep
    omega
  have a2 : H F r ≤ m := by
    have hm : ∀ u, u < F.length → LM.top F u = r → dep F u ≤ m := fun u hu e => h2 _ (List.mem_map.mpr ⟨u, by rw [List.mem_filter, List.mem_range, decide_eq_true_eq]; exact ⟨hu, e⟩, rfl⟩)
    rw [H_le hF]
    refine ⟨?_, fun u hu j hj => ?_⟩
    · have := hm r hr (top_root hF er)
      have := (dep_nn hF r).1
      omega
    · obtain ⟨pre, e, hp⟩ := path_last hF u hu
      have hj2 : j < (path F u).length := (List.getElem?_eq_some_iff.mp hj).1
      by_cases hj3 : j < pre.length
      · rw [e, List.getElem?_append_left hj3] at hj
        exact absurd er (hp r (List.mem_of_getElem? hj))
      · have e1 : (path F u).length = pre.length + 1 := by rw [e, List.length_append, List.length_singleton]
        have ej : j = pre.length := by omega
        rw [e, ej, List.getElem?_append_right (Nat.le_refl _)] at hj
        simp at hj
        have := hm u hu hj
        unfold dep at this
        omega
  omega
theorem gh_H {F : List Nat} (h : BtI F) {k j : Nat} (hj : j < F.length) (h1 : 2 ^ k ≤ F.length) (h2 : F.length < 2 ^ (k + 1)) : H F j ≤ (k : Int) := by
  have t := h.thin j hj
  have w := W_le h.isF hj
  have hn := H_nn h.isF j
  by_cases e : (H F j).toNat ≤ k
  · omega
  · have h3 : 2 ^ (k + 1) ≤ 2 ^ (H F j).toNat := Nat.pow_le_pow_right (by decide) (by omega)
    omega
theorem thin_none {F : List Nat} (h : BtI F) : thinL F = [] := by
  unfold thinL
  rw [List.filter_eq_nil_iff]
  intro k hk
  have := h.thin k (List.mem_range.mp hk)
  simp
  omega
theorem light_nil {F : List Nat} (h : ∀ c, c < F.length → par F c ≠ c → W F c ≤ 1 + lightS F c) : ((List.range F.length).map (heavyOf F)).flatten = [] := by
  rw [List.flatten_eq_nil_iff]
  intro l hl
  obtain ⟨p, hp, rfl⟩ := List.mem_map.mp hl
  unfold heavyOf
  rw [List.filter_eq_nil_iff]
  intro c hc
  obtain ⟨h1, h2, h3⟩ := kids_mem.mp hc
  have := h c h1 (by rw [h2]; exact Ne.symm h3)
  rw [lightK_eq h2]
  simp
  omega
theorem cut_to {xs : List LF.D} {j : Nat} (h : j ≤ xs.length) : LF.cutD xs none (some (j : Int)) = xs.take j := by
  have e : HT.sIx xs.length xs.length (some (j : Int)) = j := by
    rw [HT.sIx_nat]
    omega
  unfold LF.cutD
  rw [e]
  rfl
theorem cut_from {xs : List LF.D} {j : Nat} : LF.cutD xs (some (j : Int)) none = xs.drop j := by
  unfold LF.cutD
  rw [HT.sIx_nat, HT.sIx_none]
  rw [List.take_of_length_le (by rw [List.length_drop]; omega)]
  by_cases e : j ≤ xs.length
  · rw [Nat.min_eq_left e]
  · rw [Nat.min_eq_right (by omega), List.drop_length, List.drop_of_length_le (by omega)]
theorem pow_between {n : Nat} (h : 1 ≤ n) : ∃ k, 2 ^ k ≤ n ∧ n < 2 ^ (k + 1) := ⟨n.log2, Nat.log2_self_le (by omega), Nat.lt_log2_self⟩
theorem nI_perm {l m : List Nat} (h : (nI l).Perm (nI m)) : l.Perm m := by
  have e : ∀ l : List Nat, (nI l).map Int.toNat = l := fun l => by
    unfold nI
    rw [List.map_map]
    conv => rhs; rw [← List.map_id l]
    exact List.map_congr_left fun x _ => Int.toNat_natCast x
  have := h.map Int.toNat
  rwa [e, e] at this
theorem nI_perm' {l m : List Nat} (h : l.Perm m) : (nI l).Perm (nI m) := h.map _
theorem pows_up (k : Nat) : (nI (pows k)).Pairwise (· ≤ ·) := by
  unfold nI pows
  rw [List.map_map, List.pairwise_map]
  refine List.Pairwise.imp_of_mem ?_ (List.pairwise_lt_range (n := k))
  intro a b _ _ h
  have : 2 ^ a ≤ 2 ^ b := Nat.pow_le_pow_right (by decide) (Nat.le_of_lt h)
  show ((2 ^ a : Nat) : Int) ≤ ((2 ^ b : Nat) : Int)
  omega
theorem sorted_eq {ms : List Int} {l : List Nat} {k : Nat} (hp : ms.Perm (nI l)) (hs : ms.Pairwise (· ≤ ·)) (hk : (pows k).Perm l) : ms = nI (pows k) :=
  (hp.trans (nI_perm' hk).symm).eq_of_pairwise (fun a b _ _ h1 h2 => Int.le_antisymm h1 h2) hs (pows_up k)
theorem wk_len (F : List Nat) (v : Nat) : (wk F v).length = (kids F v).length := List.length_map _
theorem mem_hAll {F : List Nat} {m : Int} : m ∈ hAll F F.length ↔ ∃ v, v < F.length ∧ m = H F v := by
  constructor
  · intro h
    obtain ⟨j, hj, e⟩ := List.getElem_of_mem h
    rw [hAll_length] at hj
    refine ⟨j, hj, ?_⟩
    unfold H
    rw [List.getD_eq_getElem?_getD, List.getElem?_eq_getElem (by rw [hAll_length]; exact hj)]
    exact e.symm
  · rintro ⟨v, hv, rfl⟩
    unfold H
    rw [List.getD_eq_getElem?_getD, List.getElem?_eq_getElem (by rw [hAll_length]; exact hv)]
    exact List.getElem_mem _
theorem top_max {F : List Nat} (hF : IsF F) (G : Good F) {r : Nat} (h : roots F = [r]) {m : Int} (h1 : m ∈ hAll F F.length) (h2 : ∀ y ∈ hAll F F.length, y ≤ m) : m = ((kids F r).length : Nat) := by
  obtain ⟨a1, a2⟩ := good_max hF G h
  obtain ⟨v, hv, e⟩ := mem_hAll.mp h1
  have b1 := a2 v hv
  have b2 := h2 _ (mem_hAll.mpr ⟨r, (root_W hF h).1, rfl⟩)
  omega
theorem od_at {od : List Nat} {v : Nat} (h : v < od.length) : atI ((nI od).map D.int) (v : Int) = some (.int (od.getD v 0 : Nat)) := by
  refine L2.atI_nat ?_
  rw [nI_get h, List.getD_eq_getElem?_getD, List.getElem?_eq_getElem h]; rfl
theorem all_flat (l : List Int) : (l.map D.int).all flatD = true := by
  rw [List.all_eq_true]
  intro x hx
  obtain ⟨z, _, rfl⟩ := List.mem_map.mp hx
  rfl
theorem any_eq (l : List Nat) (a : Nat) : (((nI l).map D.int).any fun z => eqD z (.int (a : Nat))) = decide (a ∈ l) := by
  rw [Bool.eq_iff_iff, List.any_eq_true, decide_eq_true_eq]
  constructor
  · rintro ⟨x, hx, e⟩
    obtain ⟨z, hz, rfl⟩ := List.mem_map.mp hx
    obtain ⟨y, hy, rfl⟩ := List.mem_map.mp hz
    have : ((y : Int) == (a : Int)) = true := e
    have h2 : (y : Int) = (a : Int) := by simpa using this
    rw [show a = y by omega]
    exact hy
  · intro h
    refine ⟨.int (a : Nat), List.mem_map.mpr ⟨_, List.mem_map.mpr ⟨a, h, rfl⟩, rfl⟩, ?_⟩
    show ((a : Int) == (a : Int)) = true
    simp
theorem put_at {F : List Nat} {a p : Nat} (ha : a < F.length) : (((nI F).map D.int).take a ++ [D.int (p : Nat)]) ++ ((nI F).map D.int).drop (a + 1) = (nI (F.set a p)).map D.int := by
  rw [List.set_eq_take_append_cons_drop]
  rw [if_pos ha]
  unfold nI
  simp
theorem atI_mem {xs : List LF.D} {i : Int} {d : LF.D} (h : atI xs i = some d) : d ∈ xs := by
  unfold atI at h
  cases e : ixN xs.length i with
  | none => rw [e] at h; cases h
  | some j => rw [e] at h; exact List.mem_of_getElem? h
theorem atI_some {xs : List LF.D} {r : Int} (h0 : 0 ≤ r) (h : r < xs.length) : ∃ d, atI xs r = some d ∧ d ∈ xs := by
  obtain ⟨j, rfl⟩ : ∃ j : Nat, r = (j : Int) := ⟨r.toNat, by omega⟩
  have hj : j < xs.length := by omega
  exact ⟨xs[j], L2.atI_nat (List.getElem?_eq_getElem hj), List.getElem_mem hj⟩
end LM
set_option pp.deepTerms.threshold 14
set_option maxHeartbeats 800000
namespace LW
open PySem PySem.Spec PyProof.Rows L2 LF LM
local macro_rules | `(tactic| walk_at "u") => `(tactic| simp only [sNext, sSeq, sBreak, sCont, sDrop, sRet, sRetN, sIf, sNever, sAsg, sSet, sPar, sAug, sAugS, sFor, eVar, eC, eBin, eUn, eArg, aNil, aCons, rTup, rLst, bVal, bAnd, bOr, bNot, bTru, rTru, eAnd, eOr, eNot, eIf, eChain,
  rII, rIB, LF.rAdd, rMul, rEqd, rNed, rEq', rIsN, rNotN, LF.isNon, rIxd, eSl, oNo, oSo, rSld, LF.gName, LF.gNil, LF.gCons, LF.gTup, rSetd, LF.gSub, rIxl, iSeq, LF.iRng1, LF.iRng2, eLc, bYes, eCall, LF.rLen, rTupOf, rLstOf, rI1, rI2, rInt, rSumD, eRg1, eRg2, isLst, eM0, eM, rApp, LF.rPop, LF.rPopAt, iEnumL, LF.iEnum, rNeg, eIsi, isiOk, isiD, rMaxA, LF.rMinD, LF.rSortI, LF.rIns, LF.rExt, rSortP, eStp, rStp, eBck, rBck, rInX, rInT, LF.rAll, eDct1, sRaise1, rMulB, eDnil, rMinA, fvx, rInRg, rSortT, eCallX, sRaise0, sTryAs, sTryOnly, eIsE, eFld, eGet, sPut, eMeth, eMake, rDix, rDput, rDin, LF.rIsB, rEqI, rNe0, rEq0, eIsi2, LF.iRng3, rNe0T, rPopX, rEq0L, iZp, eVw, rTupN, eIx, qIx, rTupD, rAddN, eItems, eDctE, eLcV, rInTL, iZl, eCallS, eMk0, eMk1, eIsV, eFdV, aStar, sTryN, hRun, eCallSX, LF.rNe0T, eS1, rSplit, rJoin, rPart, rIntS, rSgIn, rMulS, iStrD, eOrT, sTryOnly, 
  itemsOf, stays, setF, fv, startD, ewipe, List.map_cons, List.map_nil, List.length_cons, List.length_nil, List.replicate, List.cons_append, List.nil_append, Nat.reduceAdd, Nat.reduceSub, List.reverse_cons, List.reverse_nil,
  List.getElem?_cons_zero, List.getElem?_cons_succ, List.set_cons_zero, List.set_cons_succ, Option.some.injEq, exists_eq_left', exists_eq_left, if_true, if_false, Bool.false_eq_true, reduceCtorEq, true_and, and_true, D.bl.injEq, D.int.injEq, D.ref.injEq, ↓reduceIte, ite_true, ite_false, Bool.not_true, Bool.not_false, decide_eq_true_eq, Bool.not_eq_true', decide_eq_false_iff_not, ite_not])
local macro_rules | `(tactic| walk_at "g") => `(tactic| simp only [sNext, sSeq, sBreak, sCont, sDrop, sRet, sRetN, sIf, sNever, sAsg, sSet, sPar, sAug, sAugS, sFor, eVar, eC, eBin, eUn, eArg, aNil, aCons, rTup, rLst, bVal, bAnd, bOr, bNot, bTru, rTru, eAnd, eOr, eNot, eIf, eChain,
  rII, rIB, LF.rAdd, rMul, rEqd, rNed, rEq', rIsN, rNotN, LF.isNon, eSl, oNo, oSo, rSld, LF.gName, LF.gNil, LF.gCons, LF.gTup, rSetd, LF.gSub, rIxl, iSeq, LF.iRng1, LF.iRng2, eLc, bYes, eCall, rTupOf, rLstOf, rI1, rI2, rInt, rSumD, eRg1, eRg2, isLst, eM0, eM, rApp, LF.rPop, LF.rPopAt, iEnumL, LF.iEnum, rNeg, eIsi, isiOk, isiD, rMaxA, LF.rMinD, LF.rSortI, LF.rIns, LF.rExt, rSortP, eStp, rStp, eBck, rBck, rInX, rInT, LF.rAll, eDct1, sRaise1, rMulB, eDnil, rMinA, fvx, rInRg, rSortT, eCallX, sRaise0, sTryAs, sTryOnly, eIsE, eFld, eGet, sPut, eMeth, eMake, rDix, rDput, rDin, LF.rIsB, rEqI, rNe0, rEq0, eIsi2, LF.iRng3, rNe0T, rPopX, rEq0L, iZp, eVw, rTupN, eIx, qIx, rTupD, rAddN, eItems, eDctE, eLcV, rInTL, iZl, eCallS, eMk0, eMk1, eIsV, eFdV, aStar, sTryN, hRun, eCallSX, LF.rNe0T, eS1, rSplit, rJoin, rPart, rIntS, rSgIn, rMulS, iStrD, eOrT, sTryOnly, 
  itemsOf, stays, setF, fv, startD, ewipe, List.map_cons, List.map_nil, List.length_cons, List.length_nil, List.replicate, List.cons_append, List.nil_append, Nat.reduceAdd, Nat.reduceSub, List.reverse_cons, List.reverse_nil,
  List.getElem?_cons_zero, List.getElem?_cons_succ, List.set_cons_zero, List.set_cons_succ, Option.some.injEq, exists_eq_left', exists_eq_left, if_true, if_false, Bool.false_eq_true, reduceCtorEq, true_and, and_true, D.bl.injEq, D.int.injEq, D.ref.injEq, ↓reduceIte, ite_true, ite_false, Bool.not_true, Bool.not_false, decide_eq_true_eq, Bool.not_eq_true', decide_eq_false_iff_not, ite_not])
local macro_rules | `(tactic| walk_at "s") => `(tactic| simp only [sNext, sSeq, sRet, sSet, sDrop, sIf, eVar, eC, eBin, eUn, eArg, aNil, aCons, rTup, rLst, rLstOf, rTupOf, bVal, bAnd, bOr, bNot, eSl, oNo, oSo, eCall, rNeg, eBck, LF.gName, LF.iRng1, iSeq, stays, ewipe, List.map_cons, List.map_nil, List.length_cons, List.length_nil, Nat.reduceAdd,
  List.getElem?_cons_zero, List.getElem?_cons_succ, List.set_cons_zero, List.set_cons_succ, Option.some.injEq, exists_eq_left', exists_eq_left, true_and, and_true])
local macro_rules | `(tactic| walk_at "t") => `(tactic| repeat (first | refine sldt ?_ | refine addi ?_ | refine addt3 ?_ | refine bckt ?_ | refine ⟨Nat.le_of_ble_eq_true rfl, ?_⟩))
theorem sn_of {d b : Nat} {p : PyData} (h1 : p.showable = true := by decide +kernel) (h2 : p.leavesShort 60 = true := by decide +kernel) (h3 : p.depth ≤ d := by decide +kernel) (h4 : p.bulk ≤ b := by decide +kernel) : Sn d b p := ⟨h1, h2, h3, h4⟩
theorem datU_isi {g : G} {d : LF.D} {p : PyData} (h : DatU g d p) : isiOk d g := by
  cases h with
  | lst e _ => exact ⟨_, e⟩
  | dct e _ => exact ⟨_, e⟩
  | _ => exact trivial
theorem sn_ints {l : List Nat} (hl : l.length ≤ 40) (h : ∀ x ∈ l, x ≤ 1000) : Sn 1 100 (.tuple ((nI l).map .int)) := by
  refine Sm.toN ((Sm.tup (Sms.ints (d := 0) fun x hx => ?_)).mono (Nat.le_refl _) (by rw [nI_length]; omega))
  obtain ⟨u, hu, rfl⟩ := List.mem_map.mp hx
  have := h u hu
  rw [Int.natAbs_natCast]
  omega
theorem par_le {F : List Nat} (hF : IsF F) : ∀ x ∈ F, x < F.length := fun x hx => by
  obtain ⟨i, hi, rfl⟩ := List.getElem_of_mem hx
  have h1 := hF.lt i hi
  unfold par at h1
  rw [List.getD_eq_getElem?_getD, List.getElem?_eq_getElem hi] at h1
  exact h1
theorem sn_forest {F : List Nat} (hF : IsF F) : Sn 1 100 (.tuple ((nI F).map .int)) := by
  have h2 := hF.le
  exact sn_ints (by omega) fun x hx => by have := par_le hF x hx; omega
/-- a value of bounded size that stays what it is while only S changes -/
def ValS (S : List Addr) (k b : Nat) (g : G) (d : LF.D) : Prop := ∃ p, (∀ g', Fr S g g' → DatU g' d p) ∧ Sn k b p
def ValsS (S : List Addr) (k b : Nat) (g : G) (ds : List LF.D) : Prop := ∃ ps, (∀ g', Fr S g g' → DatUs g' ds ps) ∧ Sns k b ps
theorem vfr {S : List Addr} {k b : Nat} {g g' : G} {d : LF.D} (f : Fr S g g') (h : ValS S k b g d) : ValS S k b g' d := let ⟨p, q, s⟩ := h; ⟨p, fun g2 f2 => q g2 (f.trans f2), s⟩
theorem vfr0 {S : List Addr} {k b : Nat} {g g' : G} {d : LF.D} (f : Fr [] g g') (h : ValS S k b g d) : ValS S k b g' d := vfr (f.mono (by simp)) h
theorem vsfr {S : List Addr} {k b : Nat} {g g' : G} {ds : List LF.D} (f : Fr S g g') (h : ValsS S k b g ds) : ValsS S k b g' ds := let ⟨p, q, s⟩ := h; ⟨p, fun g2 f2 => q g2 (f.trans f2), s⟩
theorem vsfr0 {S : List Addr} {k b : Nat} {g g' : G} {ds : List LF.D} (f : Fr [] g g') (h : ValsS S k b g ds) : ValsS S k b g' ds := vsfr (f.mono (by simp)) h
theorem vup {S : List Addr} {k b k' b' : Nat} {g : G} {d : LF.D} (h : ValS S k b g d) (h1 : k ≤ k' := by decide) (h2 : b ≤ b' := by decide) : ValS S k' b' g d := let ⟨p, q, s⟩ := h; ⟨p, q, s.mono h1 h2⟩
theorem vsup {S : List Addr} {k b k' b' : Nat} {g : G} {ds : List LF.D} (h : ValsS S k b g ds) (h1 : k ≤ k' := by decide) (h2 : b ≤ b' := by decide) : ValsS S k' b' g ds := let ⟨p, q, s⟩ := h; ⟨p, q, ⟨s.1, s.2, Nat.le_trans s.3 h1, Nat.le_trans s.4 h2⟩⟩
theorem vdat {S : List Addr} {k b : Nat} {g : G} {d : LF.D} (h : ValS S k b g d) : ∃ p, DatU g d p ∧ Sn k b p := let ⟨p, q, s⟩ := h; ⟨p, q g (.refl _ _), s⟩
theorem visi {S : List Addr} {k b : Nat} {g : G} {d : LF.D} (h : ValS S k b g d) : isiOk d g := let ⟨_, q, _⟩ := vdat h; datU_isi q
theorem vpure {S : List Addr} {k b : Nat} {g : G} {d : LF.D} {p : PyData} (h : ∀ g', DatU g' d p) (s : Sn k b p) : ValS S k b g d := ⟨p, fun g' _ => h g', s⟩
theorem vnil {S : List Addr} {k b : Nat} {g : G} : ValsS S k b g [] := ⟨[], fun _ _ => .nil, .nil⟩
theorem vcons {S : List Addr} {k b c : Nat} {g : G} {d : LF.D} {ds : List LF.D} (h : ValS S k b g d) (t : ValsS S k c g ds) : ValsS S k (b + 1 + c) g (d :: ds) := by
  obtain ⟨p, q, s⟩ := h
  obtain ⟨ps, qs, ss⟩ := t
  exact ⟨p :: ps, fun g' f => .cons (q g' f) (qs g' f), .cons s ss⟩
theorem datUs_app {g : G} : ∀ {x y : List LF.D} {p q : List PyData}, DatUs g x p → DatUs g y q → DatUs g (x ++ y) (p ++ q)
  | [], _, _, _, .nil, h => h
  | _ :: _, _, _, _, .cons a t, h => .cons a (datUs_app t h)
theorem vapp {S : List Addr} {k b c : Nat} {g : G} {ds es : List LF.D} (h : ValsS S k b g ds) (t : ValsS S k c g es) : ValsS S k (b + c) g (ds ++ es) := by
  obtain ⟨p, q, s⟩ := h
  obtain ⟨ps, qs, ss⟩ := t
  exact ⟨p ++ ps, fun g' f => datUs_app (q g' f) (qs g' f), .app s ss⟩
theorem vtup {S : List Addr} {k b : Nat} {g : G} {ds : List LF.D} (h : ValsS S k b g ds) : ValS S (k + 1) b g (.tup ds) := let ⟨p, q, s⟩ := h; ⟨_, fun g' f => .tup (q g' f), .tup s⟩
theorem vlst {S : List Addr} {k b : Nat} {g : G} {r : Addr} {ds : List LF.D} (e : g r = some (.lst ds)) (hr : r ∉ S) (h : ValsS S k b g ds) : ValS S (k + 1) b g (.ref r) := let ⟨p, q, s⟩ := h; ⟨_, fun g' f => .lst (f.at e hr) (q g' f), .lst s⟩
theorem tops_spec {F : List Nat} (hF : IsF F) {d : LF.D} {g : G} {Q : LF.D → G → Prop} {E : EX} (hd : ∀ g', Fr [] g g' → itemsOf d g' ((nI F).map D.int)) (h : ∀ g' p, g p = none → g' p = some (.lst ((nI (roots F)).map D.int)) → Fr [] g g' → Q (.ref p) g') : f__law_tops [d] g Q E := by
  unfold f__law_tops m__law_tops
  walk_at "g"
  have hle := hF.le
  have hok := rng_ok hF
  refine len_of (hd _ (.refl _ _)) ?_
  walk_at "g"
  refine ⟨hok, ?_⟩
  rw [rng_len]
  refine lcL_inv (fun j acc g' => acc = (nI ((List.range j).filter fun k => decide (par F k = k))).map D.int ∧ g' = g) ⟨rfl, rfl⟩ (fun _ _ _ _ _ => trivial) ?_ ?_
  · rintro j x acc g4 N2 hx ⟨rfl, rfl⟩ hN2
    obtain ⟨hj, rfl⟩ := rangeD_get hx
    have hl := filt_len (fun k => decide (par F k = k)) j
    walk_at "g"
    refine ix_of (hd _ (.refl _ _)) (ix_par hj) ?_
    walk_at "g"
    by_cases e1 : par F j = j
    · rw [if_pos (by rw [e1])]
      exact ⟨by rw [List.length_map, nI_length, sizeLine_eq]; omega, hN2 _ _ ⟨by rw [filt_yes (by simp [e1]), nI_snoc], rfl⟩⟩
    · rw [if_neg (by omega)]
      exact hN2 _ _ ⟨by rw [filt_no (by simp [e1])], rfl⟩
  · rintro acc g2 ⟨rfl, rfl⟩ q hq
    rw [rangeD_length]
    exact h _ q hq gset_same (.new hq)
theorem W_kidsum {F : List Nat} (hF : IsF F) {v : Nat} (hv : v < F.length) : W F v = 1 + ((kids F v).map (W F)).sum := W_kids hF hv
theorem heft_spec {F : List Nat} (hF : IsF F) {v : Nat} (hv : v < F.length) {d : LF.D} {g : G} {Q : LF.D → G → Prop} {E : EX} (hd : ∀ g', Fr [] g g' → itemsOf d g' ((nI F).map D.int)) (h : ∀ g', Fr [] g g' → Q (.int (W F v : Nat)) g') : f__law_heft [d, .int (v : Nat)] g Q E := by
  unfold f__law_heft m__law_heft
  walk_at "g"
  have hle := hF.le
  have hok := rng_ok hF
  have hWv := W_le hF hv
  refine ⟨by decide, fun p hp => ⟨by decide, ?_⟩⟩
  refine while_inv (fun m ε g' => ∃ (q : Addr) (L : List Nat) (c : Nat), ε = [some d, some (.int (v : Nat)), some (.ref q), some (.int (c : Nat)), none] ∧ g' q = some (.lst ((nI L).map D.int)) ∧ (∀ x ∈ L, x < F.length) ∧ c ≤ L.length ∧ c + ((L.drop c).map (W F)).sum = W F v ∧ Fr [] g g' ∧ m = W F v - c)
    ⟨p, [v], 0, rfl, gset_same, by simpa using hv, Nat.zero_le _, by simp, .new hp, rfl⟩ ?_
  rintro m ε g1 N ⟨q, L, c, rfl, hq, hL, hc, hsum, f1, rfl⟩ hN
  have hlen : L.length ≤ W F v := by
    have : ∀ l : List Nat, (∀ x ∈ l, x < F.length) → l.length ≤ (l.map (W F)).sum := fun l => by
      induction l with
      | nil => intro _; exact Nat.le_refl _
      | cons x l ih =>
        intro hl
        have h1 := W_pos hF (hl x List.mem_cons_self)
        have h2 := ih fun y hy => hl y (List.mem_cons_of_mem _ hy)
        rw [List.length_cons, List.map_cons, List.sum_cons]
        omega
    have := this (L.drop c) fun x hx => hL x (List.mem_of_mem_drop hx)
    rw [List.length_drop] at this
    omega
  walk_at "g"
  refine len_of (d := .ref q) hq ?_
  walk_at "g"
  rw [List.length_map, nI_length]
  by_cases e : c < L.length
  · rw [if_pos (by omega)]
    refine len_of (hd _ f1) ?_
    walk_at "g"
    refine ⟨hok, ?_⟩
    rw [rng_len]
    have hxc : L[c] < F.length := hL _ (List.getElem_mem e)
    have hix : atI ((nI L).map D.int) (c : Int) = some (.int (L[c] : Nat)) := L2.atI_nat (nI_get e)
    refine lcL_inv (fun j acc g' => acc = (nI ((List.range j).filter fun o => decide (par F o = L[c] ∧ o ≠ L[c]))).map D.int ∧ g' = g1) ⟨rfl, rfl⟩ (fun _ _ _ _ _ => trivial) ?_ ?_
    · rintro j x acc g4 N2 hx ⟨rfl, rfl⟩ hN2
      obtain ⟨hj, rfl⟩ := rangeD_get hx
      have hl := filt_len (fun o => decide (par F o = L[c] ∧ o ≠ L[c])) j
      walk_at "g"
      refine ix_of (hd _ f1) (ix_par hj) ?_
      refine ix_of (d := .ref q) hq hix ?_
      walk_at "g"
      by_cases e1 : par F j = L[c]
      · rw [if_pos (by rw [e1])]
        refine ix_of (hd _ f1) (ix_par hj) ?_
        walk_at "g"
        by_cases e2 : j = L[c]
        · rw [if_pos (by rw [e1, ← e2])]
          exact hN2 _ _ ⟨by rw [filt_no (by simp [e2])], rfl⟩
        · rw [if_neg (by omega)]
          exact ⟨by rw [List.length_map, nI_length, sizeLine_eq]; omega, hN2 _ _ ⟨by rw [filt_yes (by simp [e1, e2]), nI_snoc], rfl⟩⟩
      · rw [if_neg (by omega)]
        exact hN2 _ _ ⟨by rw [filt_no (by simp [e1])], rfl⟩
    · rintro acc g4 ⟨rfl, rfl⟩ r hr
      rw [rangeD_length]
      have hfold : (List.range F.length).filter (fun o => decide (par F o = L[c] ∧ o ≠ L[c])) = kids F L[c] := rfl
      rw [hfold]
      have hkl := kids_len hF L[c]
      refine ⟨_, _, gset_at hq hr, gset_same, by rw [List.length_map, nI_length, List.length_map, nI_length, sizeLine_eq]; omega, fun s hs => ?_⟩
      have hd2 : L.drop c = L[c] :: L.drop (c + 1) := List.drop_eq_getElem_cons e
      rw [hd2, List.map_cons, List.sum_cons, W_kidsum hF hxc] at hsum
      refine hN (W F v - (c + 1)) _ _ (by omega) ⟨s, L ++ kids F L[c], c + 1, rfl, ?_, fun x hx => ?_, by rw [List.length_append]; omega, ?_, (f1.trans (.new hr)).trans (.new hs), rfl⟩
      · rw [gset_same]; simp [nI]
      · rcases List.mem_append.mp hx with z | z
        · exact hL x z
        · exact (kids_mem.mp z).1
      · rw [List.drop_append_of_le_length (by omega), List.map_append, List.sum_append]
        omega
  · rw [if_neg (by omega)]
    have : c = W F v := by
      rw [List.drop_of_length_le (by omega)] at hsum
      simpa using hsum
    rw [this]
    exact h _ f1
theorem line_spec {F : List Nat} (hF : IsF F) {v : Nat} (hv : v < F.length) {g : G} {Q : LF.D → G → Prop} {E : EX} (h : ∀ g' p, g p = none → g' p = some (.lst ((nI (path F v)).map D.int)) → Fr [] g g' → Q (.ref p) g') : f__law_line [.tup ((nI F).map D.int), .int v] g Q E := by
  unfold f__law_line m__law_line
  walk_at "u"
  refine ⟨by decide, fun p hp => ?_⟩
  refine while_inv (fun m ε g' => ∃ (pre : List Nat) (u : Nat), ε = [some (.tup ((nI F).map D.int)), some (.int v), some (.ref p)] ∧ g' p = some (.lst ((nI (pre ++ [u])).map D.int)) ∧ u < F.length ∧ pre ++ path F u = path F v ∧ Fr [] g g' ∧ m = (path F u).length)
    ⟨[], v, rfl, gset_same, hv, rfl, .new hp, rfl⟩ ?_
  rintro m ε g1 N ⟨pre, u, rfl, hp1, hu, hpre, f1, rfl⟩ hN
  have hlast : atI ((nI (pre ++ [u])).map D.int) (-1) = some (.int (u : Nat)) := by rw [nI_snoc]; exact L2.atI_last _ _
  walk_at "u"
  refine ⟨_, _, hp1, hlast, ?_⟩
  walk_at "u"
  refine ⟨_, _, rfl, ix_par hu, _, _, hp1, hlast, ?_⟩
  walk_at "u"
  by_cases e : par F u = u
  · rw [if_pos (by rw [e])]
    rw [path_root hF e] at hpre
    exact h _ p hp (by rw [hp1, hpre]) f1
  · rw [if_neg (by omega)]
    refine ⟨⟨_, hp1⟩, _, _, hp1, hlast, ?_⟩
    walk_at "u"
    have hpu := path_up hF hu e
    have hlen : pre.length + (path F u).length = (path F v).length := by rw [← hpre, List.length_append]
    have hlv := (path_len hF v).2
    refine ⟨_, _, rfl, ix_par hu, _, hp1, by rw [List.length_map, nI_length, List.length_append, sizeLine_eq, List.length_singleton]; omega, ?_⟩
    exact hN (path F (par F u)).length _ _ (by rw [hpu]; exact Nat.lt_succ_self _) ⟨pre ++ [u], par F u, rfl, by rw [gset_same, nI_snoc (pre ++ [u])], hF.lt u hu, by rw [List.append_assoc, List.singleton_append, ← hpu]; exact hpre, f1.own hp, rfl⟩
structure Well (g : G) (a b : Addr) (ds : List Int) (st : Int) : Prop where
  top : g a = some (.lst [.ref b, .int st])
  dig : g b = some (.lst (ds.map D.int))
  lo : 0 ≤ st
  hi : st < 2 ^ 64
  len : ds.length ≤ 1000
theorem Well.ne {g : G} {a b : Addr} {st : Int} {ds : List Int} (h : Well g a b ds st) : a ≠ b := fun z => by
  have h1 := h.top
  have h2 := h.dig
  subst z
  rw [h1] at h2
  cases ds with
  | nil => cases h2
  | cons d ds => cases ds <;> cases h2
theorem Well.keep {g g' : G} {a b : Addr} {st : Int} {ds : List Int} {S : List Addr} (h : Well g a b ds st) (f : Fr S g g') (ha : a ∉ S) (hb : b ∉ S) : Well g' a b ds st := ⟨f.at h.top ha, f.at h.dig hb, h.lo, h.hi, h.len⟩
theorem p64 : (2 : Int) ^ (Int.toNat 64) = 18446744073709551616 := by decide +kernel
theorem p33 : (2 : Int) ^ (Int.toNat 33) = 8589934592 := by decide +kernel
theorem pull_spec {g : G} {a b : Addr} {st many : Int} {ds : List Int} {Q : LF.D → G → Prop} {E : EX} (hg : Well g a b ds st) (hm0 : 1 ≤ many) (hm : many < 2 ^ 62)
    (h : ∀ g' r st' ds', Well g' a b ds' st' → Fr [a, b] g g' → 0 ≤ r → r < many → Q (.int r) g') : f__law_pull [.ref a, .int many] g Q E := by
  unfold f__law_pull m__law_pull
  walk_at "u"
  have hdiv : ∀ z : Int, CDivW z many := fun z => divW_64 (by omega) (by omega)
  refine while_inv (fun m ε g' => ∃ v ds', ε = [some (.ref a), some (.int many), v] ∧ Well g' a b ds' st ∧ Fr [a, b] g g' ∧ m = ds'.length) ⟨none, ds, rfl, hg, .refl _ _, rfl⟩ ?_
  rintro m ε g1 N ⟨v, ds1, rfl, hg1, f1, rfl⟩ hN
  walk_at "u"
  refine ⟨_, _, hg1.top, rfl, by decide, fun p hp => ?_⟩
  have hap := ne_g hg1.top hp
  have hbp := ne_g hg1.dig hp
  have hab := hg1.ne
  refine deq_nil (ds := ds1) (gset_at hg1.dig hp) gset_same ⟨_, rfl, ?_⟩
  have g2 := hg1.keep (S := []) (.new (o := .lst []) hp) (by simp) (by simp)
  have f2 : Fr [a, b] g (gset g1 p (.lst [])) := f1.trans (.new hp)
  generalize gset g1 p (.lst []) = g3 at g2 f2 ⊢
  rcases List.eq_nil_or_concat ds1 with e | ⟨ds0, d, e⟩
  · subst e
    rw [if_neg (by decide)]
    refine ⟨_, _, g2.top, rfl, ?_⟩
    walk_at "u"
    rw [p64, p33]
    have hlo := g2.lo
    have hs0 : 0 ≤ (st * 6364136223846793005 + 1442695040888963407) % 18446744073709551616 := Int.emod_nonneg _ (by decide)
    have hs1 : (st * 6364136223846793005 + 1442695040888963407) % 18446744073709551616 < 18446744073709551616 := Int.emod_lt_of_pos _ (by decide)
    refine ⟨.inr (by decide), ⟨by decide, by decide, by decide⟩, by decide, _, _, g2.top, rfl, ?_⟩
    refine ⟨_, _, gset_same, rfl, ?_⟩
    walk_at "u"
    refine ⟨⟨by decide, by decide, by decide⟩, divW_64 (by decide) (by decide), by omega, ?_⟩
    refine h _ _ _ [] ⟨gset_same, by rw [gset_ne (Ne.symm hab)]; exact g2.dig, hs0, by omega, by simp⟩ (f2.trans (.put (by simp))) (Int.emod_nonneg _ (by omega)) (Int.emod_lt_of_pos _ (by omega))
  · rw [List.concat_eq_append] at e
    subst e
    have gd := g2.dig
    rw [List.map_append, List.map_cons, List.map_nil] at gd
    have hne : (ds0 ++ [d]).isEmpty = false := by cases ds0 <;> rfl
    rw [hne]
    rw [if_pos (by rfl)]
    have hl := hg1.len
    rw [List.length_append, List.length_singleton] at hl
    refine ⟨_, _, g2.top, rfl, ⟨_, g2.dig⟩, _, _, gd, ?_⟩
    walk_at "u"
    have t4 : gset g3 b (.lst (ds0.map D.int)) a = some (.lst [.ref b, .int st]) := by rw [gset_ne hab]; exact g2.top
    have d4 : gset g3 b (.lst (ds0.map D.int)) b = some (.lst (ds0.map D.int)) := gset_same
    have f4 : Fr [a, b] g (gset g3 b (.lst (ds0.map D.int))) := f2.trans (.put (by simp))
    generalize gset g3 b (.lst (ds0.map D.int)) = g4 at t4 d4 f4 ⊢
    by_cases e : d > 0
    · rw [if_pos e]
      refine ⟨_, _, t4, rfl, ⟨_, d4⟩, hdiv _, _, d4, by rw [List.length_map, sizeLine_eq]; omega, by omega, ?_⟩
      refine h _ _ st (ds0 ++ [d / many]) ⟨by rw [gset_ne hab]; exact t4, by rw [gset_same, List.map_append]; rfl, hg1.lo, hg1.hi, by rw [List.length_append, List.length_singleton]; omega⟩ (f4.trans (.put (by simp))) (Int.emod_nonneg _ (by omega)) (Int.emod_lt_of_pos _ (by omega))
    · rw [if_neg e]
      exact hN _ _ _ (by rw [List.length_append]; exact Nat.lt_succ_self _) ⟨_, ds0, rfl, ⟨t4, d4, hg1.lo, hg1.hi, by omega⟩, f4, rfl⟩
theorem item_spec {g : G} {a b : Addr} {x : LF.D} {st : Int} {xs : List LF.D} {ds : List Int} {Q : LF.D → G → Prop} {E : EX} (hg : Well g a b ds st) (hx : ∀ g', Fr [a, b] g g' → itemsOf x g' xs) (h1 : 1 ≤ xs.length) (h2 : xs.length ≤ 1000)
    (h : ∀ g' y st' ds', Well g' a b ds' st' → Fr [a, b] g g' → y ∈ xs → Q y g') : f__law_item [.ref a, x] g Q E := by
  unfold f__law_item m__law_item
  walk_at "g"
  refine len_of (hx _ (.refl _ _)) ?_
  refine pull_spec hg (by omega) (by omega) fun g1 r st1 ds1 hg1 f1 r0 r1 => ?_
  obtain ⟨d, hd, hm⟩ := atI_some (xs := xs) r0 r1
  exact ix_of (hx _ f1) hd (h _ d st1 ds1 hg1 f1 hm)
theorem mixed_spec {g : G} {a b q : Addr} {st : Int} {l : List Nat} {ds : List Int} {Q : LF.D → G → Prop} {E : EX} (hg : Well g a b ds st) (hq : g q = some (.lst ((nI l).map D.int))) (hl : l.length ≤ 100)
    (h : ∀ g' p od st' ds', Well g' a b ds' st' → g p = none → g' p = some (.lst ((nI od).map D.int)) → od.Perm l → Fr [a, b] g g' → Q (.ref p) g') : f__law_mixed [.ref a, .ref q] g Q E := by
  unfold f__law_mixed m__law_mixed
  walk_at "u"
  refine ⟨_, hq, fun r hr => ⟨by decide, fun o ho => ?_⟩⟩
  have ra := ne_g hg.top hr
  have rb := ne_g hg.dig hr
  have hor := none_gset ho
  have oa := ne_g hg.top hor
  have ob := ne_g hg.dig hor
  have hro : o ≠ r := fun z => by subst z; rw [gset_same] at ho; cases ho
  refine while_inv (fun m ε g' => ∃ st ds od ld, ε = [some (.ref a), some (.ref q), some (.ref r), some (.ref o)] ∧ Well g' a b ds st ∧ g' o = some (.lst ((nI od).map D.int)) ∧ g' r = some (.lst ((nI ld).map D.int)) ∧ (od ++ ld).Perm l ∧ Fr [a, b] g g' ∧ m = ld.length)
    ⟨st, ds, [], l, rfl, (hg.keep (S := []) (.new hr) (by simp) (by simp)).keep (S := []) (.new ho) (by simp) (by simp), gset_same, gset_at gset_same ho, .refl _, (Fr.new hr).trans (.new ho), rfl⟩ ?_
  rintro m ε g2 N ⟨st2, ds2, od, ld, rfl, hg2, ho2, hl2, hp', f2, rfl⟩ hN
  walk_at "u"
  refine ⟨Nat.zero_le _, fun p hp'' => ?_⟩
  have po := ne_g ho2 hp''
  have pl := ne_g hl2 hp''
  refine deq_nil (ds := nI ld) (by rw [gset_ne pl]; exact hl2) gset_same ⟨_, rfl, ?_⟩
  have ho3 : gset g2 p (.lst []) o = _ := (gset_ne po).trans ho2
  have hl3 : gset g2 p (.lst []) r = _ := (gset_ne pl).trans hl2
  have g3 : Well (gset g2 p (.lst [])) a b ds2 st2 := hg2.keep (S := []) (.new hp'') (by simp) (by simp)
  have f3 : Fr [a, b] g (gset g2 p (.lst [])) := f2.trans (.new hp'')
  generalize gset g2 p (.lst []) = g4 at ho3 hl3 g3 f3 ⊢
  have hlen2 : (od ++ ld).length = l.length := hp'.length_eq
  cases ld with
  | cons x xs =>
    rw [if_pos (by simp [nI])]
    rw [List.length_append, List.length_cons] at hlen2
    refine ⟨⟨_, ho3⟩, ⟨_, hl3⟩, _, hl3, ?_⟩
    refine pull_spec g3 (by rw [List.length_map, nI_length, List.length_cons]; omega) (by rw [List.length_map, nI_length, List.length_cons]; omega) fun g4 k st4 ds4 hg4 f4 k0 k1 => ?_
    rw [List.length_map, nI_length, List.length_cons] at k1
    have ho4 := f4.at ho3 (by simp [Ne.symm oa, Ne.symm ob])
    have hl4 := f4.at hl3 (by simp [Ne.symm ra, Ne.symm rb])
    obtain ⟨j, rfl⟩ : ∃ j : Nat, k = (j : Int) := ⟨k.toNat, by omega⟩
    have hj : j < (x :: xs).length := by rw [List.length_cons]; omega
    refine ⟨_, _, hl4, by omega, by rw [Int.toNat_natCast]; exact nI_get hj, ?_⟩
    refine ⟨_, (gset_ne hro).trans ho4, by rw [List.length_map, nI_length, sizeLine_eq]; omega, ?_⟩
    refine hN _ _ _ ?_ ⟨st4, ds4, od ++ [(x :: xs)[j]], (x :: xs).eraseIdx j, rfl, ?_, ?_, ?_, ?_, ?_, rfl⟩
    · rw [List.length_eraseIdx_of_lt hj, List.length_cons]; omega
    · exact ⟨by rw [gset_ne oa, gset_ne ra]; exact hg4.top, by rw [gset_ne ob, gset_ne rb]; exact hg4.dig, hg4.lo, hg4.hi, hg4.len⟩
    · rw [gset_same]; simp [nI]
    · rw [gset_ne (Ne.symm hro), gset_same, Int.toNat_natCast, map_erase]; unfold nI; rw [map_erase]
    · rw [List.append_assoc]
      exact ((erase_perm _ j hj).append_left od).trans hp'
    · exact ((f3.trans f4).own hr).own hor
  | nil =>
    rw [if_neg (by simp [nI])]
    rw [List.append_nil] at hp'
    exact h _ o od st2 ds2 g3 hor ho3 hp' f3
theorem roots_join {F : List Nat} {a b : Nat} (J : Jn F a b) : (roots F).length = (roots (F.set a b)).length + 1 := by
  have hl : (F.set a b).length = F.length := List.length_set
  unfold roots
  rw [hl, filt_length, filt_length, S_out J.la, S_out J.la (fun k => if decide (par (F.set a b) k = k) = true then 1 else 0)]
  have ea : par (F.set a b) a = b := by rw [J.par, if_pos rfl]
  have e1 : (if decide (par F a = a) = true then 1 else 0) = 1 := by simp [J.ra]
  have e2 : (if decide (par (F.set a b) a = a) = true then 1 else 0) = 0 := by rw [ea]; simp [Ne.symm J.ne]
  rw [e1, e2]
  congr 1
  refine S_congr fun k _ => ?_
  by_cases z : k = a
  · simp [z]
  · simp [J.par, z]
theorem roots_start {n : Nat} : (roots (List.range n)).length = n := by
  unfold roots
  rw [List.length_range, List.filter_eq_self.mpr]
  · exact List.length_range
  · intro k hk
    simpa using par_range (List.mem_range.mp hk)
theorem two_of {od : List Nat} {F : List Nat} (hp : od.Perm (roots F)) (h2 : 2 ≤ (roots F).length) : ∃ x y, od[0]? = some x ∧ od[1]? = some y ∧ x ≠ y ∧ x ∈ roots F ∧ y ∈ roots F := by
  have hl := hp.length_eq
  have hnd : od.Nodup := hp.nodup_iff.mpr (List.Pairwise.filter _ List.nodup_range)
  refine ⟨od[0], od[1], List.getElem?_eq_getElem (by omega), List.getElem?_eq_getElem (by omega), fun z => ?_, hp.mem_iff.mp (List.getElem_mem (by omega)), hp.mem_iff.mp (List.getElem_mem (by omega))⟩
  have := (List.getElem_inj hnd).mp z
  omega
theorem grown_spec {g : G} {a b : Addr} {st many : Int} {ds : List Int} {Q : LF.D → G → Prop} {E : EX} (hg : Well g a b ds st) (hm0 : 1 ≤ many) (hm : many ≤ 24)
    (h : ∀ g' F st' ds', Well g' a b ds' st' → Fr [a, b] g g' → IsF F → Built F.length F → (F.length : Int) ≤ many → Q (.tup ((nI F).map D.int)) g') : f__law_grown [.ref a, .int many] g Q E := by
  unfold f__law_grown m__law_grown
  walk_at "u"
  refine pull_spec hg hm0 (by omega) fun g1 r st1 ds1 hg1 f1 r0 r1 => ?_
  obtain ⟨n, hn⟩ : ∃ n : Nat, 1 + r = (n : Int) := ⟨(1 + r).toNat, by omega⟩
  have h1 : 1 ≤ n := by omega
  have h24 : n ≤ 24 := by omega
  walk_at "u"
  rw [hn, rangeD_nI]
  refine ⟨RgOk.of_le (by omega) (by omega) (by omega) (by omega), fun p hp => ?_⟩
  have pa := ne_g hg1.top hp
  have pb := ne_g hg1.dig hp
  refine pull_spec (hg1.keep (S := []) (.new hp) (by simp) (by simp)) (by decide) (by decide) fun g2 way st2 ds2 hg2 f2 y0 y1 => ?_
  have hp2 := f2.at (show gset g1 p (.lst ((nI (List.range n)).map D.int)) p = _ from gset_same) (by simp [Ne.symm pa, Ne.symm pb])
  have f12 : Fr [a, b] g g2 := (f1.trans (.new hp)).trans f2
  refine ⟨by decide, ?_⟩
  refine pull_spec hg2 (by omega) (by omega) fun g3 k st3 ds3 hg3 f3 k0 k1 => ?_
  refine ⟨by decide, fun q hq => ?_⟩
  have hq3 := ne_g hg3.top hq
  have hqb := ne_g hg3.dig hq
  have hp3 := f3.at hp2 (by simp [Ne.symm pa, Ne.symm pb])
  refine item_spec (x := .ref q) (xs := [.int ((n : Int) - 1), .int ((n : Int) - 1), .int k]) (hg3.keep (S := []) (.new hq) (by simp) (by simp)) (fun g' f => f.at gset_same (by simp [Ne.symm hq3, Ne.symm hqb])) (by simp) (by simp) fun g4 y st4 ds4 hg4 f4 hy => ?_
  have hp4 := f4.at (gset_at (u := .lst [.int ((n : Int) - 1), .int ((n : Int) - 1), .int k]) hp3 hq) (by simp [Ne.symm pa, Ne.symm pb])
  obtain ⟨t, rfl, ht⟩ : ∃ t : Nat, y = .int (t : Nat) ∧ t ≤ n - 1 := by
    simp only [List.mem_cons, List.not_mem_nil, or_false] at hy
    rcases hy with rfl | rfl | rfl
    · exact ⟨n - 1, by congr 1; omega, Nat.le_refl _⟩
    · exact ⟨n - 1, by congr 1; omega, Nat.le_refl _⟩
    · exact ⟨k.toNat, by congr 1; omega, by omega⟩
  walk_at "u"
  refine ⟨by omega, ?_⟩
  rw [Int.toNat_natCast]
  have f4' : Fr [a, b] g g4 := (f12.trans f3).trans ((Fr.new hq).trans f4)
  have hpn : g p = none := f1.nil hp (by simp [Ne.symm pa, Ne.symm pb])
  refine forL_inv (fun i ε g' => ∃ v5 v6 v7 v8 v9 v10 v11 st ds F, ε = [some (.ref a), some (.int many), some (.int (n : Nat)), some (.ref p), some (.int way), v5, v6, v7, v8, v9, v10, v11] ∧ Well g' a b ds st ∧ g' p = some (.lst ((nI F).map D.int)) ∧ Built n F ∧ (roots F).length + i = n ∧ Fr [a, b] g g')
    ⟨none, none, none, none, none, none, none, st4, ds4, _, rfl, hg4, hp4, .start, by rw [roots_start]; omega, f4'⟩ (fun _ _ _ _ _ => trivial) ?_ ?_
  · rintro i x ε g5 N hx ⟨v5, v6, v7, v8, v9, v10, v11, st5, ds5, F, rfl, hg5, hp5, hB, hroots, f5⟩ hN
    obtain ⟨hi, rfl⟩ := rangeD_get hx
    have hF := hB.isF h1 h24
    have hFn := hB.len
    walk_at "u"
    refine tops_spec (d := .ref p) hF (fun g' f => f.at hp5 (by simp)) fun g6 q6 hq6 hq6' f6 => ?_
    have hg6 := hg5.keep (S := []) f6 (by simp) (by simp)
    have hp6 := f6.at hp5 (by simp)
    have hrl : (roots F).length ≤ 24 := by have := filt_len (fun k => decide (par F k = k)) F.length; unfold roots; omega
    refine mixed_spec hg6 hq6' (by omega) fun g7 o od st7 ds7 hg7 ho ho7 hod f7 => ?_
    have hp7 := f7.at hp6 (by simp [Ne.symm pa, Ne.symm pb])
    have f7' : Fr [a, b] g g7 := (f5.trans (f6.mono (by simp))).trans f7
    walk_at "u"
    have hodl : od.length = (roots F).length := hod.length_eq
    -- from the tops, however they lie
    have rest : ∀ (g8 : G) (o2 : Addr) (od2 : List Nat) (v7 v8 v9 : Option LF.D), Well g8 a b ds7 st7 → g8 p = some (.lst ((nI F).map D.int)) → g8 o2 = some (.lst ((nI od2).map D.int)) → od2.Perm (roots F) → Fr [a, b] g g8 →
        (sSeq (sPar [10, 11] (aCons (eBin rIxd (eVar 6) (eC (.int 0))) (aCons (eBin rIxd (eVar 6) (eC (.int 1))) aNil)))
          (sSeq (sIf (bVal (eBin (rIB fun i j => decide (i < j)) (eCall f__law_heft (aCons (eVar 3) (aCons (eVar 10) aNil))) (eCall f__law_heft (aCons (eVar 3) (aCons (eVar 11) aNil))))) (sPar [10, 11] (aCons (eVar 11) (aCons (eVar 10) aNil))) sNext)
          (sAsg (eVar 10) (gSub rSetd (eVar 3) (eVar 11)))))
          { nx := N, rt := Q, ct := N, bk := (sRet (eArg (rTupOf) (aCons (eVar 3) aNil))) { nx := fun _ g' => Q .non g', rt := Q } }
          [some (.ref a), some (.int many), some (.int (n : Nat)), some (.ref p), some (.int way), some (.int (i : Nat)), some (.ref o2), v7, v8, v9, v10, v11] g8 := by
      intro g8 o2 od2 v7 v8 v9 hg8 hp8 ho8 hod2 f8
      obtain ⟨x, y, hx0, hy0, hxy, hxr, hyr⟩ := two_of hod2 (by omega)
      obtain ⟨x1, x2⟩ := roots_mem.mp hxr
      obtain ⟨y1, y2⟩ := roots_mem.mp hyr
      have ix0 : atI ((nI od2).map D.int) 0 = some (.int (x : Nat)) := by
        show atI _ ((0 : Nat) : Int) = _
        refine L2.atI_nat ?_
        unfold nI; rw [List.map_map, List.getElem?_map, hx0]; rfl
      have ix1 : atI ((nI od2).map D.int) 1 = some (.int (y : Nat)) := by
        show atI _ ((1 : Nat) : Int) = _
        refine L2.atI_nat ?_
        unfold nI; rw [List.map_map, List.getElem?_map, hy0]; rfl
      walk_at "u"
      refine ⟨_, _, ho8, ix0, _, _, ho8, ix1, ?_⟩
      walk_at "u"
      refine heft_spec (d := .ref p) hF x1 (fun g' f => f.at hp8 (by simp)) fun g9 f9 => ?_
      have hp9 := f9.at hp8 (by simp)
      refine heft_spec (d := .ref p) hF y1 (fun g' f => f.at hp9 (by simp)) fun g10 f10 => ?_
      have hp10 := f10.at hp9 (by simp)
      have hg10 := (hg8.keep (S := []) f9 (by simp) (by simp)).keep (S := []) f10 (by simp) (by simp)
      have f10' : Fr [a, b] g g10 := f8.trans ((f9.trans f10).mono (by simp))
      walk_at "u"
      have nfin : ∀ u w : Nat, ((nI F).map D.int).set u (.int (w : Nat)) = (nI (F.set u w)).map D.int := fun u w => by unfold nI; rw [List.map_set, List.map_set]
      have fin : ∀ u w : Nat, u < F.length → Jn F u w → W F u ≤ W F w → ∀ z1 z2, N [some (.ref a), some (.int many), some (.int (n : Nat)), some (.ref p), some (.int way), some (.int (i : Nat)), some (.ref o2), v7, v8, v9, z1, z2] (gset g10 p (.lst (((nI F).map D.int).set u (.int (w : Nat))))) := fun u w hu J hw z1 z2 =>
        hN _ _ ⟨_, _, _, _, _, _, _, st7, ds7, F.set u w, rfl, hg10.keep (S := [p]) (.put (by simp)) (by simpa using pa) (by simpa using pb), by rw [gset_same, nfin], .join hB J hw, by have := roots_join J; omega, f10'.own hpn⟩
      by_cases hw : W F x < W F y
      · rw [if_pos (by omega)]
        refine ⟨_, _, hp10, ixN_nat (by rw [List.length_map, nI_length]; exact x1), ?_⟩
        exact fin x y x1 ⟨hF, x1, y1, x2, y2, hxy⟩ (by omega) _ _
      · rw [if_neg (by omega)]
        refine ⟨_, _, hp10, ixN_nat (by rw [List.length_map, nI_length]; exact y1), ?_⟩
        exact fin y x y1 ⟨hF, y1, x1, y2, x2, Ne.symm hxy⟩ (by omega) _ _
    by_cases cw : way < 2
    · rw [if_pos cw]
      refine ⟨_, ho7, ?_⟩
      rw [List.length_map, nI_length, Int.toNat_natCast]
      refine ⟨by omega, ?_⟩
      refine lcL_inv (fun j acc g' => acc = ((List.range j).map fun k => (((W F (od.getD k 0) : Nat) : Int), ((k : Nat) : Int))).map dP ∧ Fr [] g7 g') ⟨rfl, .refl _ _⟩ (fun _ _ _ _ _ => trivial) ?_ ?_
      · rintro j x acc g8 N2 hx ⟨rfl, f8⟩ hN2
        obtain ⟨hj, rfl⟩ := rangeD_get hx
        have hoj : od.getD j 0 < F.length := by
          have : od.getD j 0 ∈ od := by rw [List.getD_eq_getElem?_getD, List.getElem?_eq_getElem hj]; exact List.getElem_mem hj
          exact (roots_mem.mp (hod.mem_iff.mp this)).1
        have ho8 := f8.at ho7 (by simp)
        have hp8 := f8.at hp7 (by simp)
        walk_at "u"
        refine ⟨_, _, ho8, od_at hj, ?_⟩
        refine heft_spec (d := .ref p) hF hoj (fun g' f => f.at hp8 (by simp)) fun g9 f9 => ?_
        refine ⟨by decide, by rw [List.length_map, List.length_map, List.length_range, sizeLine_eq]; omega, hN2 _ _ ⟨?_, f8.trans f9⟩⟩
        rw [List.range_succ, List.map_append, List.map_append]; rfl
      rintro acc g8 ⟨rfl, f8⟩ q8 hq8
      rw [rangeD_length]
      have ho8 := gset_at (u := .lst (((List.range od.length).map fun k => (((W F (od.getD k 0) : Nat) : Int), ((k : Nat) : Int))).map dP)) (f8.at ho7 (by simp)) hq8
      have hp8 := gset_at (u := .lst (((List.range od.length).map fun k => (((W F (od.getD k 0) : Nat) : Int), ((k : Nat) : Int))).map dP)) (f8.at hp7 (by simp)) hq8
      refine ⟨_, gset_same, ⟨_, rfl⟩, fun qs q9 hqs _ hq9 => ?_⟩
      refine ⟨_, gset_same, ?_⟩
      have f9 : Fr [] g7 (gset (gset g8 q8 (.lst (((List.range od.length).map fun k => (((W F (od.getD k 0) : Nat) : Int), ((k : Nat) : Int))).map dP))) q9 (.lst (qs.map dP))) := (f8.trans (.new hq8)).trans (.new hq9)
      have ho9 := gset_at (u := .lst (qs.map dP)) ho8 hq9
      have hp9 := gset_at (u := .lst (qs.map dP)) hp8 hq9
      have hq9' : (gset (gset g8 q8 (.lst (((List.range od.length).map fun k => (((W F (od.getD k 0) : Nat) : Int), ((k : Nat) : Int))).map dP))) q9 (.lst (qs.map dP))) q9 = _ := gset_same
      generalize gset (gset g8 q8 (.lst (((List.range od.length).map fun k => (((W F (od.getD k 0) : Nat) : Int), ((k : Nat) : Int))).map dP))) q9 (.lst (qs.map dP)) = g9 at f9 ho9 hp9 hq9' ⊢
      have hqin : ∀ c ∈ qs, ∃ k : Nat, k < od.length ∧ c.2 = (k : Int) := fun c hc => by
        obtain ⟨k, hk, rfl⟩ := List.mem_map.mp (hqs.mem_iff.mp hc)
        exact ⟨k, List.mem_range.mp hk, rfl⟩
      have hqperm : (qs.map fun c => od.getD c.2.toNat 0).Perm od := by
        refine (hqs.map _).trans ?_
        rw [List.map_map]
        have : ((fun c : Int × Int => od.getD c.2.toNat 0) ∘ fun k : Nat => (((W F (od.getD k 0) : Nat) : Int), ((k : Nat) : Int))) = fun k => od.getD k 0 := funext fun k => by simp
        rw [this]
        refine List.Perm.of_eq ?_
        apply List.ext_getElem?
        intro m
        by_cases hm : m < od.length
        · rw [List.getElem?_map, List.getElem?_range hm, List.getElem?_eq_getElem hm]
          simp [List.getD_eq_getElem?_getD, List.getElem?_eq_getElem hm]
        · rw [List.getElem?_eq_none (by simp; omega), List.getElem?_eq_none (by omega)]
      refine lcL_inv (fun j acc g' => acc = (nI ((qs.take j).map fun c => od.getD c.2.toNat 0)).map D.int ∧ g' = g9) ⟨rfl, rfl⟩ (fun _ _ _ _ ⟨_, z⟩ => by subst z; exact hq9') ?_ ?_
      · rintro j x acc g10 N2 hx ⟨rfl, rfl⟩ hN2
        rw [List.getElem?_map] at hx
        cases ej : qs[j]? with
        | none => rw [ej] at hx; cases hx
        | some c =>
          rw [ej] at hx
          cases hx
          obtain ⟨k, hk, ek⟩ := hqin c (List.mem_of_getElem? ej)
          have hjl := (List.getElem?_eq_some_iff.mp ej).1
          have hql := hqs.length_eq
          rw [List.length_map, List.length_range] at hql
          unfold dP
          walk_at "u"
          rw [ek]
          refine ⟨_, _, ho9, od_at hk, ?_⟩
          refine ⟨by rw [List.length_map, nI_length, List.length_map, List.length_take, sizeLine_eq]; omega, hN2 _ _ ⟨?_, rfl⟩⟩
          rw [List.take_succ_eq_append_getElem hjl, List.map_append, List.map_singleton, nI_snoc, (List.getElem?_eq_some_iff.mp ej).2, ek, Int.toNat_natCast]
      rintro acc g10 ⟨rfl, rfl⟩ s hs
      rw [List.length_map, List.take_length]
      generalize hod' : qs.map (fun c => od.getD c.2.toNat 0) = od' at hqperm ⊢
      refine ⟨by decide, fun s2 hs2 => ?_⟩
      have hg10 : Well g10 a b ds7 st7 := hg7.keep (S := []) f9 (by simp) (by simp)
      have f10 : Fr [a, b] g g10 := f7'.trans (f9.mono (by simp))
      have e1 : way = 0 ∨ way = 1 := by omega
      have last : ∀ (s3 : Addr) (od2 : List Nat), (gset (gset g10 s (.lst ((nI od').map D.int))) s2 (.lst [.int 1, .int (-1)])) s3 = none → od2.Perm (roots F) →
          (sSeq (sPar [10, 11] (aCons (eBin rIxd (eVar 6) (eC (.int 0))) (aCons (eBin rIxd (eVar 6) (eC (.int 1))) aNil)))
          (sSeq (sIf (bVal (eBin (rIB fun i j => decide (i < j)) (eCall f__law_heft (aCons (eVar 3) (aCons (eVar 10) aNil))) (eCall f__law_heft (aCons (eVar 3) (aCons (eVar 11) aNil))))) (sPar [10, 11] (aCons (eVar 11) (aCons (eVar 10) aNil))) sNext)
          (sAsg (eVar 10) (gSub rSetd (eVar 3) (eVar 11)))))
          { nx := N, rt := Q, ct := N, bk := (sRet (eArg (rTupOf) (aCons (eVar 3) aNil))) { nx := fun _ g' => Q .non g', rt := Q } }
          [some (.ref a), some (.int many), some (.int (n : Nat)), some (.ref p), some (.int way), some (.int (i : Nat)), some (.ref s3), some (.ref q9), v8, v9, v10, v11] (gset (gset (gset g10 s (.lst ((nI od').map D.int))) s2 (.lst [.int 1, .int (-1)])) s3 (.lst ((nI od2).map D.int))) := fun s3 od2 hs3 ho2 =>
        rest _ s3 od2 _ _ _ (((hg10.keep (S := []) (.new hs) (by simp) (by simp)).keep (S := []) (.new hs2) (by simp) (by simp)).keep (S := []) (.new hs3) (by simp) (by simp)) (gset_at (gset_at (gset_at hp9 hs) hs2) hs3) gset_same ho2 (((f10.trans (.new hs)).trans (.new hs2)).trans (.new hs3))
      rcases e1 with rfl | rfl
      · refine ⟨_, _, gset_same, (show atI [D.int 1, D.int (-1)] 0 = some (.int 1) from rfl), ?_⟩
        walk_at "u"
        refine ⟨_, gset_at gset_same hs2, by decide, fun s3 hs3 => ?_⟩
        have := last s3 od' hs3 (hqperm.trans hod)
        revert this
        walk_at "u"
        exact fun z => z
      · refine ⟨_, _, gset_same, (show atI [D.int 1, D.int (-1)] 1 = some (.int (-1)) from rfl), ?_⟩
        walk_at "u"
        refine ⟨_, gset_at gset_same hs2, by decide, fun s3 hs3 => ?_⟩
        have er : (if (-1 : Int) = 1 then (nI od').map D.int else ((nI od').map D.int).reverse) = (nI od'.reverse).map D.int := by
          rw [if_neg (by decide)]
          unfold nI
          rw [List.map_reverse, List.map_reverse]
        have := last s3 od'.reverse hs3 ((List.reverse_perm od').trans (hqperm.trans hod))
        rw [← er] at this
        revert this
        walk_at "u"
        exact fun z => z
    · rw [if_neg cw]
      have := rest g7 o od v7 v8 v9 hg7 hp7 ho7 hod f7'
      revert this
      walk_at "u"
      exact fun z => z
  · rintro ε g5 ⟨v5, v6, v7, v8, v9, v10, v11, st5, ds5, F, rfl, hg5, hp5, hB, hroots, f5⟩
    have hFn := hB.len
    walk_at "u"
    exact ⟨_, hp5, h _ F st5 ds5 hg5 f5 (hB.isF h1 h24) (by rw [hFn]; exact hB) (by omega)⟩
theorem wild_spec {g : G} {a b : Addr} {st many : Int} {ds : List Int} {Q : LF.D → G → Prop} {E : EX} (hg : Well g a b ds st) (hm0 : 1 ≤ many) (hm : many ≤ 24)
    (h : ∀ g' F st' ds', Well g' a b ds' st' → Fr [a, b] g g' → IsF F → (F.length : Int) ≤ many → Q (.tup ((nI F).map D.int)) g') : f__law_wild [.ref a, .int many] g Q E := by
  unfold f__law_wild m__law_wild
  walk_at "u"
  refine pull_spec hg hm0 (by omega) fun g1 r st1 ds1 hg1 f1 r0 r1 => ?_
  obtain ⟨n, hn⟩ : ∃ n : Nat, 1 + r = (n : Int) := ⟨(1 + r).toNat, by omega⟩
  have h1 : 1 ≤ n := by omega
  have h24 : n ≤ 24 := by omega
  walk_at "u"
  rw [hn, rangeD_nI]
  refine ⟨RgOk.of_le (by omega) (by omega) (by omega) (by omega), fun q hq => ?_⟩
  have qa := ne_g hg1.top hq
  have qb := ne_g hg1.dig hq
  refine mixed_spec (hg1.keep (S := []) (.new hq) (by simp) (by simp)) gset_same (by rw [List.length_range]; omega) fun g2 o od st2 ds2 hg2 ho ho2 hod f2 => ?_
  have f12 : Fr [a, b] g g2 := (f1.trans (.new hq)).trans f2
  have hlod : od.length = n := by rw [hod.length_eq, List.length_range]
  have oa := ne_g hg1.top (none_gset ho)
  have ob := ne_g hg1.dig (none_gset ho)
  walk_at "u"
  refine ⟨by decide, fun m1 hm1 => ?_⟩
  have ho3 := gset_at (u := .lst [.int 0]) ho2 hm1
  have hg3 := hg2.keep (S := []) (.new (o := .lst [.int 0]) hm1) (by simp) (by simp)
  refine ⟨_, gset_same, by omega, by rw [Int.toNat_natCast, sizeLine_eq]; show 1 * _ ≤ _; omega, fun m2 hm2 => ?_⟩
  rw [Int.toNat_natCast]
  have e1 : (List.replicate n [D.int 0]).flatten = (nI (List.replicate n 0)).map D.int := by
    rw [zeros]; simp [nI]
  rw [e1]
  have ho4 := gset_at (u := .lst ((nI (List.replicate n 0)).map D.int)) ho3 hm2
  have m2a := ne_g hg3.top hm2
  have m2b := ne_g hg3.dig hm2
  have m2o := ne_g ho3 hm2
  have f4 : Fr [a, b] g (gset (gset g2 m1 (.lst [.int 0])) m2 (.lst ((nI (List.replicate n 0)).map D.int))) := (f12.trans (.new hm1)).trans (.new hm2)
  have m2n : g m2 = none := (f12.trans (.new (o := .lst [.int 0]) hm1)).nil hm2 (by simp [Ne.symm m2a, Ne.symm m2b])
  refine pull_spec (hg3.keep (S := []) (.new hm2) (by simp) (by simp)) (by decide) (by decide) fun g5 w st5 ds5 hg5 f5 w0 w1 => ?_
  have ho5 := f5.at ho4 (by simp [Ne.symm oa, Ne.symm ob])
  have hm5 := f5.at (gset_same (g := gset g2 m1 (.lst [.int 0])) (a := m2) (o := .lst ((nI (List.replicate n 0)).map D.int))) (by simp [Ne.symm m2a, Ne.symm m2b])
  walk_at "u"
  refine ⟨_, ho5, ?_⟩
  refine forL_inv (fun i ε g' => ∃ v6 v7 st ds M, ε = [some (.ref a), some (.int many), some (.int (n : Nat)), some (.ref o), some (.ref m2), some (.int (1 + w)), v6, v7] ∧ Well g' a b ds st ∧ g' o = some (.lst ((nI od).map D.int)) ∧
    g' m2 = some (.lst ((nI M).map D.int)) ∧ M.length = n ∧ (∀ j, j < i → par M (od.getD j 0) = od.getD j 0 ∨ ∃ k, k < j ∧ par M (od.getD j 0) = od.getD k 0) ∧ Fr [a, b] g g')
    ⟨none, none, st5, ds5, _, rfl, hg5, ho5, hm5, List.length_replicate, fun j hj => by omega, f4.trans f5⟩ (fun _ _ _ _ ⟨_, _, _, _, _, _, _, z, _⟩ => z) ?_ ?_
  · rintro i x ε g6 N hx ⟨v6, v7, st6, ds6, M, rfl, hg6, ho6, hm6, hML, hM, f6⟩ hN
    obtain ⟨y, hy, rfl⟩ := enumD_at hx
    obtain ⟨hi, rfl⟩ := nI_getN hy
    have hi' : i < n := by omega
    have hsi : od.getD i 0 < n := mem_od hod hi'
    have ei : od[i] = od.getD i 0 := by rw [List.getD_eq_getElem?_getD, List.getElem?_eq_getElem hi]; rfl
    have fin : ∀ (g7 : G) (st7 : Int) (ds7 : List Int) (p : Nat), Well g7 a b ds7 st7 → g7 o = some (.lst ((nI od).map D.int)) → g7 m2 = some (.lst ((nI M).map D.int)) → Fr [a, b] g g7 → (p = od.getD i 0 ∨ ∃ k, k < i ∧ p = od.getD k 0) →
        ∃ xs j, g7 m2 = some (.lst xs) ∧ ixN xs.length (od[i] : Int) = some j ∧ N [some (.ref a), some (.int many), some (.int (n : Nat)), some (.ref o), some (.ref m2), some (.int (1 + w)), some (.int (i : Nat)), some (.int (od[i] : Nat))] (gset g7 m2 (.lst (xs.set j (.int (p : Nat))))) := by
      intro g7 st7 ds7 p hg7 ho7 hm7 f7 hp
      refine ⟨_, _, hm7, ixN_nat (by rw [List.length_map, nI_length, ei]; omega), hN _ _ ⟨_, _, st7, ds7, M.set od[i] p, rfl, hg7.keep (S := [m2]) (.put (by simp)) (by simpa using m2a) (by simpa using m2b), by rw [gset_ne m2o]; exact ho7, ?_, by rw [List.length_set]; exact hML, fun j hj => ?_, f7.own m2n⟩⟩
      · rw [gset_same]; unfold nI; rw [List.map_set, List.map_set]
      · rw [ei, par_set (by omega)]
        by_cases z : j = i
        · subst z
          rw [if_pos rfl]
          exact hp
        · rw [if_neg fun y => z (inj_od hod (by omega) hi' y)]
          exact hM j (by omega)
    have draw : 0 < i → ∀ (g7 : G) (st7 : Int) (ds7 : List Int), Well g7 a b ds7 st7 → g7 o = some (.lst ((nI od).map D.int)) → g7 m2 = some (.lst ((nI M).map D.int)) → Fr [a, b] g g7 →
        ∃ xs, g7 o = some (.lst xs) ∧ ∀ p, g7 p = none → f__law_item [.ref a, .ref p] (gset g7 p (.lst (LF.cutD xs none (some (i : Int))))) (fun x g2 => ∃ xs j, g2 m2 = some (.lst xs) ∧ ixN xs.length (od[i] : Int) = some j ∧
          N [some (.ref a), some (.int many), some (.int (n : Nat)), some (.ref o), some (.ref m2), some (.int (1 + w)), some (.int (i : Nat)), some (.int (od[i] : Nat))] (gset g2 m2 (.lst (xs.set j x)))) fun _ _ _ => False := by
      intro hpos g7 st7 ds7 hg7 ho7 hm7 f7
      refine ⟨_, ho7, fun p hp => ?_⟩
      rw [cut_to (by rw [List.length_map, nI_length]; omega)]
      have pa := ne_g hg7.top hp
      have pb := ne_g hg7.dig hp
      refine item_spec (x := .ref p) (hg7.keep (S := []) (.new hp) (by simp) (by simp)) (fun g' f => f.at gset_same (by simp [Ne.symm pa, Ne.symm pb])) (by rw [List.length_take, List.length_map, nI_length]; omega) (by rw [List.length_take, List.length_map, nI_length]; omega) fun g8 y st8 ds8 hg8 f8 hy => ?_
      obtain ⟨k, hk, hyk⟩ : ∃ k, k < i ∧ y = .int (od.getD k 0 : Nat) := by
        obtain ⟨k, hk, e⟩ := List.getElem_of_mem hy
        rw [List.length_take, List.length_map, nI_length] at hk
        refine ⟨k, by omega, ?_⟩
        rw [← e, List.getElem_take]
        have := od_at (od := od) (v := k) (by omega)
        unfold nI
        simp [List.getD_eq_getElem?_getD, List.getElem?_eq_getElem (show k < od.length by omega)]
      subst hyk
      exact fin g8 st8 ds8 _ hg8 (f8.at (gset_at ho7 hp) (by simp [Ne.symm oa, Ne.symm ob])) (f8.at (gset_at hm7 hp) (by simp [Ne.symm m2a, Ne.symm m2b])) ((f7.trans (.new hp)).trans f8) (.inr ⟨k, hk, rfl⟩)
    walk_at "u"
    by_cases c0 : i = 0
    · rw [if_pos (by rw [c0]; rfl)]
      exact fin g6 st6 ds6 od[i] hg6 ho6 hm6 f6 (.inl ei)
    · rw [if_neg (by omega)]
      refine pull_spec hg6 (by omega) (by omega) fun g7 r st7 ds7 hg7 f7 r0 r1 => ?_
      have ho7 := f7.at ho6 (by simp [Ne.symm oa, Ne.symm ob])
      have hm7 := f7.at hm6 (by simp [Ne.symm m2a, Ne.symm m2b])
      walk_at "u"
      by_cases c1 : r = 0
      · rw [if_pos c1]
        by_cases c2 : 1 + w > 1
        · rw [if_pos c2]
          exact fin g7 st7 ds7 od[i] hg7 ho7 hm7 (f6.trans f7) (.inl ei)
        · rw [if_neg c2]
          exact draw (by omega) g7 st7 ds7 hg7 ho7 hm7 (f6.trans f7)
      · rw [if_neg c1]
        exact draw (by omega) g7 st7 ds7 hg7 ho7 hm7 (f6.trans f7)
  · rintro ε g6 ⟨v6, v7, st6, ds6, M, rfl, hg6, ho6, hm6, hML, hM, f6⟩
    rw [enumD_length, List.length_map, nI_length, hlod] at hM
    walk_at "u"
    have hA : Along od M n := ⟨hML, hM⟩
    exact ⟨_, hm6, h _ M st6 ds6 hg6 f6 (hA.isF hod h1 h24) (by omega)⟩
theorem forest_spec {g : G} {a b : Addr} {st many : Int} {ds : List Int} {Q : LF.D → G → Prop} {E : EX} (hg : Well g a b ds st) (hm0 : 1 ≤ many) (hm : many ≤ 24)
    (h : ∀ g' F st' ds', Well g' a b ds' st' → Fr [a, b] g g' → IsF F → (F.length : Int) ≤ many → Q (.tup ((nI F).map D.int)) g') : f__law_forest [.ref a, .int many] g Q E := by
  unfold f__law_forest m__law_forest
  walk_at "u"
  refine pull_spec hg (by decide) (by decide) fun g1 w st1 ds1 hg1 f1 w0 w1 => ?_
  walk_at "u"
  by_cases c0 : w = 0
  · rw [if_pos c0]
    exact wild_spec hg1 hm0 hm fun g2 F st2 ds2 hg2 f2 hF hFm => h g2 F st2 ds2 hg2 (f1.trans f2) hF hFm
  rw [if_neg c0]
  refine grown_spec hg1 hm0 hm fun g2 F st2 ds2 hg2 f2 hF _ hFm => ?_
  walk_at "u"
  by_cases c1 : w = 1
  · rw [if_pos c1]
    have hle := hF.le
    have hpos := hF.pos
    have hlen : (List.map D.int (nI F)).length = F.length := by rw [List.length_map, nI_length]
    rw [hlen]
    refine pull_spec hg2 (by omega) (by omega) fun g3 u st3 ds3 hg3 f3 u0 u1 => ?_
    refine pull_spec hg3 (by omega) (by omega) fun g4 v st4 ds4 hg4 f4 v0 v1 => ?_
    obtain ⟨u, rfl⟩ : ∃ m : Nat, u = (m : Int) := ⟨u.toNat, by omega⟩
    obtain ⟨v, rfl⟩ : ∃ m : Nat, v = (m : Int) := ⟨v.toNat, by omega⟩
    have hu : u < F.length := by omega
    have hv : v < F.length := by omega
    walk_at "u"
    refine line_spec hF hv fun g5 q hq hq5 f5 => ?_
    have hg5 := hg4.keep (S := []) f5 (by simp) (by simp)
    have f5' : Fr [a, b] g g5 := (((f1.trans f2).trans f3).trans f4).trans (f5.mono (by simp))
    refine ⟨_, hq5, rfl, all_flat _, ?_⟩
    rw [any_eq]
    walk_at "u"
    by_cases e2 : u ∈ path F v
    · rw [if_pos e2]
      exact h g5 F st4 ds4 hg5 f5' hF hFm
    · rw [if_neg e2]
      refine ⟨by decide, ?_⟩
      rw [cut_to (by rw [hlen]; omega), show ((u : Nat) : Int) + 1 = ((u + 1 : Nat) : Int) by omega, cut_from]
      refine ⟨by rw [List.length_take, hlen, sizeLine_eq]; show _ + 1 ≤ _; omega, ?_⟩
      refine ⟨by rw [List.length_append, List.length_take, List.length_drop, hlen, sizeLine_eq]; show _ + 1 + _ ≤ _; omega, ?_⟩
      rw [put_at hu]
      exact h g5 _ st4 ds4 hg5 f5' (isF_move hF hu hv e2) (by rw [List.length_set]; exact hFm)
  · rw [if_neg c1]
    exact h g2 F st2 ds2 hg2 (f1.trans f2) hF hFm
theorem well_spec {g : G} {a : Addr} {ns : List Int} {Q : LF.D → G → Prop} {E : EX} (hl : ns.length ≤ 63) (h : ∀ g' p b ds st, Well g' p b ds st → Q (.ref p) g') : f__law_well [.rol a (ns.map D.int)] g Q E := by
  unfold f__law_well m__law_well
  walk_at "u"
  rw [List.length_map]
  refine ⟨.inl (by decide), ?_⟩
  refine forL_inv (fun i ε g' => ∃ (st : Int) (v : Option LF.D), ε = [some (.rol a (ns.map D.int)), some (.int st), v] ∧ 0 ≤ st ∧ st < 2 ^ 64)
    ⟨_, none, rfl, by omega, by omega⟩ (fun _ _ _ _ _ => trivial) ?_ ?_
  · rintro i x ε g1 N hx ⟨st, v, rfl, s0, s1⟩ hN
    obtain ⟨z, rfl⟩ := intsI hx
    walk_at "u"
    rw [p64]
    refine ⟨.inr (by decide), .inl (by decide), ⟨by decide, by decide, by decide⟩, by decide, hN _ _ ⟨_, _, rfl, Int.emod_nonneg _ (by decide), ?_⟩⟩
    refine Int.lt_of_lt_of_le (Int.emod_lt_of_pos _ (by decide)) (by decide)
  · rintro ε g1 ⟨st, v, rfl, s0, s1⟩
    walk_at "u"
    refine lcL_inv (fun i acc g' => (∃ ds : List Int, acc = ds.map D.int ∧ ds.length ≤ i)) ⟨[], rfl, Nat.le_refl _⟩ (fun _ _ _ _ _ => trivial) ?_ ?_
    · rintro i x acc g2 N hx ⟨ds, rfl, hd⟩ hN
      obtain ⟨z, rfl⟩ := intsI hx
      have hi := (List.getElem?_eq_some_iff.mp hx).1
      rw [List.length_map] at hi
      walk_at "u"
      refine ⟨⟨by decide, by decide, by decide⟩, ?_⟩
      have yes : ∀ y : Int, (ds.map D.int).length < sizeLine ∧ N (ds.map D.int ++ [D.int y]) g2 := fun y => ⟨by rw [List.length_map, sizeLine_eq]; omega, hN _ _ ⟨ds ++ [y], by rw [List.map_append]; rfl, by rw [List.length_append, List.length_singleton]; omega⟩⟩
      have no : N (ds.map D.int) g2 := hN _ _ ⟨ds, rfl, by omega⟩
      split <;> split <;> first | exact yes _ | exact no
    · rintro acc g2 ⟨ds, rfl, hd⟩ q hq
      rw [List.length_map] at hd
      refine ⟨_, gset_same, by decide, fun r hr => ?_⟩
      refine ⟨by decide, fun p hp => ?_⟩
      exact h _ p r ds.reverse st ⟨gset_same, by rw [gset_at gset_same hp, ← List.map_reverse], s0, s1, by rw [List.length_reverse]; omega⟩
theorem seq_join {t u : SV} {D : Es} {ε : En} {g : G} (P : En → G → Prop) (key : ∀ ε' g', P ε' g' → u D ε' g') (h : ∀ N : En → G → Prop, (∀ ε' g', P ε' g' → N ε' g') → t { D with nx := N } ε g) : (sSeq t u) D ε g := h _ key
theorem seq_setP {i : Nat} {t : EV} {R : SV} {D0 : Es} {ε : En} {g : G} (P : LF.D → G → Prop) (key : ∀ x g1, P x g1 → R D0 (ε.set i (some x)) g1) (h : ∀ N : LF.D → G → Prop, (∀ x g1, P x g1 → N x g1) → t ε g N) : (sSeq (sSet i t) R) D0 ε g := h _ key
theorem fv_mk {np n : Nat} {t : SV} {ds : List LF.D} {g : G} {Q : LF.D → G → Prop} {E : EX} (hl : ds.length = np) (h : t { nx := fun _ g' => Q .non g', rt := Q } (startD n ds) g) : fv np n t ds g Q E := ⟨hl, h⟩
end LW
set_option pp.deepTerms.threshold 14
set_option maxHeartbeats 800000
namespace LW
open PySem PySem.Spec PyProof.Rows L2 LF LM
local macro_rules | `(tactic| walk_at "u") => `(tactic| simp only [sNext, sSeq, sBreak, sCont, sDrop, sRet, sRetN, sIf, sNever, sAsg, sSet, sPar, sAug, sAugS, sFor, eVar, eC, eBin, eUn, eArg, aNil, aCons, rTup, rLst, bVal, bAnd, bOr, bNot, bTru, rTru, eAnd, eOr, eNot, eIf, eChain,
  rII, rIB, LF.rAdd, rMul, rEqd, rNed, rEq', rIsN, rNotN, LF.isNon, rIxd, eSl, oNo, oSo, rSld, LF.gName, LF.gNil, LF.gCons, LF.gTup, rSetd, LF.gSub, rIxl, iSeq, LF.iRng1, LF.iRng2, eLc, bYes, eCall, LF.rLen, rTupOf, rLstOf, rI1, rI2, rInt, rSumD, eRg1, eRg2, isLst, eM0, eM, rApp, LF.rPop, LF.rPopAt, iEnumL, LF.iEnum, rNeg, eIsi, isiOk, isiD, rMaxA, LF.rMinD, LF.rSortI, LF.rIns, LF.rExt, rSortP, eStp, rStp, eBck, rBck, rInX, rInT, LF.rAll, eDct1, sRaise1, rMulB, eDnil, rMinA, fvx, rInRg, rSortT, eCallX, sRaise0, sTryAs, sTryOnly, eIsE, eFld, eGet, sPut, eMeth, eMake, rDix, rDput, rDin, LF.rIsB, rEqI, rNe0, rEq0, eIsi2, LF.iRng3, rNe0T, rPopX, rEq0L, iZp, eVw, rTupN, eIx, qIx, rTupD, rAddN, eItems, eDctE, eLcV, rInTL, iZl, eCallS, eMk0, eMk1, eIsV, eFdV, aStar, sTryN, hRun, eCallSX, LF.rNe0T, eS1, rSplit, rJoin, rPart, rIntS, rSgIn, rMulS, iStrD, eOrT, sTryOnly, 
  itemsOf, stays, setF, fv, startD, ewipe, List.map_cons, List.map_nil, List.length_cons, List.length_nil, List.replicate, List.cons_append, List.nil_append, Nat.reduceAdd, Nat.reduceSub, List.reverse_cons, List.reverse_nil,
  List.getElem?_cons_zero, List.getElem?_cons_succ, List.set_cons_zero, List.set_cons_succ, Option.some.injEq, exists_eq_left', exists_eq_left, if_true, if_false, Bool.false_eq_true, reduceCtorEq, true_and, and_true, D.bl.injEq, D.int.injEq, D.ref.injEq, ↓reduceIte, ite_true, ite_false, Bool.not_true, Bool.not_false, decide_eq_true_eq, Bool.not_eq_true', decide_eq_false_iff_not, ite_not])
local macro_rules | `(tactic| walk_at "g") => `(tactic| simp only [sNext, sSeq, sBreak, sCont, sDrop, sRet, sRetN, sIf, sNever, sAsg, sSet, sPar, sAug, sAugS, sFor, eVar, eC, eBin, eUn, eArg, aNil, aCons, rTup, rLst, bVal, bAnd, bOr, bNot, bTru, rTru, eAnd, eOr, eNot, eIf, eChain,
  rII, rIB, LF.rAdd, rMul, rEqd, rNed, rEq', rIsN, rNotN, LF.isNon, eSl, oNo, oSo, rSld, LF.gName, LF.gNil, LF.gCons, LF.gTup, rSetd, LF.gSub, rIxl, iSeq, LF.iRng1, LF.iRng2, eLc, bYes, eCall, rTupOf, rLstOf, rI1, rI2, rInt, rSumD, eRg1, eRg2, isLst, eM0, eM, rApp, LF.rPop, LF.rPopAt, iEnumL, LF.iEnum, rNeg, eIsi, isiOk, isiD, rMaxA, LF.rMinD, LF.rSortI, LF.rIns, LF.rExt, rSortP, eStp, rStp, eBck, rBck, rInX, rInT, LF.rAll, eDct1, sRaise1, rMulB, eDnil, rMinA, fvx, rInRg, rSortT, eCallX, sRaise0, sTryAs, sTryOnly, eIsE, eFld, eGet, sPut, eMeth, eMake, rDix, rDput, rDin, LF.rIsB, rEqI, rNe0, rEq0, eIsi2, LF.iRng3, rNe0T, rPopX, rEq0L, iZp, eVw, rTupN, eIx, qIx, rTupD, rAddN, eItems, eDctE, eLcV, rInTL, iZl, eCallS, eMk0, eMk1, eIsV, eFdV, aStar, sTryN, hRun, eCallSX, LF.rNe0T, eS1, rSplit, rJoin, rPart, rIntS, rSgIn, rMulS, iStrD, eOrT, sTryOnly, 
  itemsOf, stays, setF, fv, startD, ewipe, List.map_cons, List.map_nil, List.length_cons, List.length_nil, List.replicate, List.cons_append, List.nil_append, Nat.reduceAdd, Nat.reduceSub, List.reverse_cons, List.reverse_nil,
  List.getElem?_cons_zero, List.getElem?_cons_succ, List.set_cons_zero, List.set_cons_succ, Option.some.injEq, exists_eq_left', exists_eq_left, if_true, if_false, Bool.false_eq_true, reduceCtorEq, true_and, and_true, D.bl.injEq, D.int.injEq, D.ref.injEq, ↓reduceIte, ite_true, ite_false, Bool.not_true, Bool.not_false, decide_eq_true_eq, Bool.not_eq_true', decide_eq_false_iff_not, ite_not])
local macro_rules | `(tactic| walk_at "s") => `(tactic| simp only [sNext, sSeq, sRet, sSet, sDrop, sIf, eVar, eC, eBin, eUn, eArg, aNil, aCons, rTup, rLst, rLstOf, rTupOf, bVal, bAnd, bOr, bNot, eSl, oNo, oSo, eCall, rNeg, eBck, LF.gName, LF.iRng1, iSeq, stays, ewipe, List.map_cons, List.map_nil, List.length_cons, List.length_nil, Nat.reduceAdd,
  List.getElem?_cons_zero, List.getElem?_cons_succ, List.set_cons_zero, List.set_cons_succ, Option.some.injEq, exists_eq_left', exists_eq_left, true_and, and_true])
local macro_rules | `(tactic| walk_at "t") => `(tactic| repeat (first | refine sldt ?_ | refine addi ?_ | refine addt3 ?_ | refine bckt ?_ | refine ⟨Nat.le_of_ble_eq_true rfl, ?_⟩))
theorem path_short {F : List Nat} (hF : IsF F) {v : Nat} (hv : v < F.length) : (path F v).length ≤ F.length := by
  obtain ⟨r, hr⟩ := hF.rank
  have key : ∀ v, v < F.length → (path F v).length ≤ r v + 1 := by
    refine path_ind hF (fun v hv h => ?_) fun v hv h ih => ?_
    · rw [path_root hF h, List.length_singleton]; omega
    · rw [path_up hF hv h, List.length_cons]
      have := (hr v hv).2 h
      omega
  have := key v hv
  have := (hr v hv).1
  omega
theorem isint_spec {v lo hi : Int} (h1 : lo ≤ v) (h2 : v ≤ hi) {g : G} {Q : LF.D → G → Prop} {E : EX} (h : Q (.bl true) g) : f_is_integer [.int v, .int lo, .int hi] g Q E := by
  unfold f_is_integer m_is_integer
  walk_at "u"
  simpa [h1, h2] using h
theorem pint_spec {n : Nat} (hn : n < 24) {g : G} {Q : LF.D → G → Prop} {E : EX} (h : ∀ g', Fr [] g g' → Q (.int (n : Nat)) g') : f_parse_integer [.str (sN n)] g Q E := by
  have o := okN_of hn
  unfold f_parse_integer m_parse_integer
  walk_at "u"
  have hp := o.pos
  have hl := o.le
  refine ⟨by rw [sizeLine_eq]; omega, ?_⟩
  rw [if_pos (by omega), if_pos (by omega)]
  refine lcL_inv (fun j acc g' => acc = (List.replicate j true).map D.bl ∧ g' = g) ⟨rfl, rfl⟩ (fun _ _ _ _ _ => trivial) ?_ ?_
  · rintro j x acc g1 N hx ⟨rfl, rfl⟩ hN
    obtain ⟨c, hc, rfl⟩ : ∃ c ∈ cl (sN n), x = D.str ⟨#[c]⟩ := by
      obtain ⟨c, hc, e⟩ := List.mem_map.mp (List.mem_of_getElem? hx)
      exact ⟨c, hc, e.symm⟩
    have hj : j < 24 := by
      have := (List.getElem?_eq_some_iff.mp hx).1
      unfold signsD at this
      rw [List.length_map, Array.length_toList] at this
      have : j < (sN n).length := this
      omega
    walk_at "u"
    refine ⟨c, rfl, by rw [List.length_map, List.length_replicate, sizeLine_eq]; omega, hN _ _ ⟨?_, rfl⟩⟩
    rw [decide_eq_true (show c ∈ (Str.ofString "0123456789").cps.toList from o.dig c hc), List.replicate_succ', List.map_append]
    rfl
  · rintro acc g1 ⟨rfl, rfl⟩ q hq
    refine ⟨_, gset_same, ?_⟩
    rw [if_neg (by simp)]
    have f1 : LF.Fr [] g1 (gset g1 q (.lst ((List.replicate (signsD (sN n)).length true).map D.bl))) := .new hq
    have hp2 : 0 < (cl (sN n)).length := by rw [cl_len]; omega
    have h00 : (sN n).cps.toList[0]? = some (cl (sN n))[0] := List.getElem?_eq_getElem hp2
    have hi : ∃ n_1, intText? (sN n) = some n_1 ∧ (sN n).length ≤ 640 ∧ Q (D.int n_1) (gset g1 q (.lst ((List.replicate (signsD (sN n)).length true).map D.bl))) := ⟨_, o.int, by omega, h _ f1⟩
    refine ⟨by rw [sizeLine_eq]; omega, (cl (sN n))[0], L2.atI_nat h00, ?_⟩
    by_cases e : (⟨#[(cl (sN n))[0]]⟩ : Str) = Str.ofString "0"
    · have e2 : (cl (sN n))[0] = 48 := by
        have := congrArg cl e
        rw [show cl (Str.ofString "0") = [48] by decide +kernel] at this
        exact (List.cons.inj this).1
      rw [if_pos e, if_pos (o.zero (by rw [List.getElem?_eq_getElem hp2, e2]))]
      exact hi
    · rw [if_neg e]
      exact hi
theorem parts_spec {l : List Nat} (h0 : l ≠ []) (h24 : ∀ n ∈ l, n < 24) (hl : l.length ≤ 24) {fr : Bool} (hf : fr = true ∨ l.Nodup) {g : G} {Q : LF.D → G → Prop} {E : EX} (h : ∀ g', Fr [] g g' → Q (.tup ((nI l).map D.int)) g') : f_parse_parts [.str (txt l), .bl fr] g Q E := by
  unfold f_parse_parts m_parse_parts
  walk_at "u"
  refine ⟨by decide, fun p hp => ⟨by decide +kernel, by have := (txt_len l h24).1; rw [sizeLine_eq]; omega, fun q hq => ⟨_, gset_same, ?_⟩⟩⟩
  rw [show Str.ofString " " = spX from sp_lit, split_txt h0 h24]
  have npq := ne_g (gset_same (g := g) (a := p) (o := .lst [])) hq
  refine forL_inv (fun i ε g' => ∃ v3 v4 v5 v6, ε = [some (.str (txt l)), some (.bl fr), some (.ref p), v3, v4, v5, v6] ∧ g' p = some (.lst ((nI (l.take i)).map D.int)) ∧ g' q = some (.lst ((l.map sN).map D.str)) ∧ LF.Fr [] g g')
    ⟨_, _, _, _, rfl, gset_at gset_same hq, gset_same, (Fr.new hp).trans (.new hq)⟩ (fun _ _ _ _ ⟨_, _, _, _, _, _, z, _⟩ => z) ?_ ?_
  · rintro i x ε g1 N hx ⟨v3, v4, v5, v6, rfl, e1, e2, f1⟩ hN
    obtain ⟨y, hy, rfl⟩ := enumD_at hx
    obtain ⟨hi, rfl⟩ : ∃ h : i < l.length, y = D.str (sN l[i]) := by
      rw [List.map_map, List.getElem?_map] at hy
      have hi : i < l.length := Nat.lt_of_not_le fun z => by rw [List.getElem?_eq_none z] at hy; cases hy
      rw [List.getElem?_eq_getElem hi] at hy
      exact ⟨hi, (Option.some.inj hy).symm⟩
    have hn := h24 _ (List.getElem_mem hi)
    walk_at "u"
    refine pint_spec hn fun g2 f2 => ?_
    refine isint_spec (by omega) (by omega) ?_
    refine ⟨_, rfl, ?_⟩
    rw [if_pos rfl]
    have e12 := f2.at e1 (by simp)
    have e22 := f2.at e2 (by simp)
    have hlt : (List.map D.int (nI (l.take i))).length < sizeLine := by rw [List.length_map, nI_length, List.length_take, sizeLine_eq]; omega
    have go : ∀ v6, N [some (.str (txt l)), some (.bl fr), some (.ref p), some (.int (i : Nat)), some (.str (sN l[i])), some (.int (l[i] : Nat)), v6] (gset g2 p (.lst ((nI (l.take i)).map D.int ++ [.int (l[i] : Nat)]))) := fun v6 => by
      refine hN _ _ ⟨_, _, _, _, rfl, ?_, by rw [gset_ne (Ne.symm npq)]; exact e22, (f1.trans f2).own hp⟩
      rw [gset_same, List.take_succ_eq_append_getElem hi, nI_snoc]
    cases fr with
    | true =>
      rw [if_pos rfl, if_neg (by omega)]
      exact ⟨⟨_, e12⟩, _, e12, hlt, go _⟩
    | false =>
      rw [if_neg (by decide)]
      refine ⟨_, e12, rfl, all_flat _, ?_⟩
      rw [any_eq]
      have hnd : l[i] ∉ l.take i := by
        rcases hf with h | h
        · cases h
        · intro z
          have h' := h
          rw [← List.take_append_drop i l, List.nodup_append] at h'
          exact h'.2.2 _ z _ (by rw [List.drop_eq_getElem_cons hi]; exact List.mem_cons_self) rfl
      refine ⟨_, rfl, ?_⟩
      rw [decide_eq_false hnd, if_neg (by decide), if_neg (by omega)]
      exact ⟨⟨_, e12⟩, _, e12, hlt, go _⟩
  · rintro ε g1 ⟨v3, v4, v5, v6, rfl, e1, e2, f1⟩
    rw [enumD_length, List.length_map, List.length_map, List.take_length] at e1
    walk_at "u"
    exact ⟨_, e1, h _ f1⟩
theorem lead_spec {F : List Nat} (hF : IsF F) {v : Nat} (hv : v < F.length) {g : G} {Q : LF.D → G → Prop} {E : EX} (h : Q (.bl true) g) : f_leads_to_root [.tup ((nI F).map D.int), .int (v : Nat)] g Q E := by
  unfold f_leads_to_root m_leads_to_root
  walk_at "u"
  refine forL_inv (fun i ε g' => ∃ pre u v2, ε = [some (.tup ((nI F).map D.int)), some (.int (u : Nat)), v2] ∧ g' = g ∧ u < F.length ∧ pre ++ path F u = path F v ∧ pre.length = i) ⟨[], v, _, rfl, rfl, hv, rfl, rfl⟩ (fun _ _ _ _ _ => trivial) ?_ ?_
  · rintro i x ε g1 N hx ⟨pre, u, v2, rfl, rfl, hu, hpre, hi⟩ hN
    walk_at "u"
    refine ⟨_, _, rfl, ix_par hu, ?_⟩
    walk_at "u"
    by_cases e : par F u = u
    · rw [if_pos (by rw [e])]
      exact h
    · rw [if_neg (by omega)]
      refine ⟨_, _, rfl, ix_par hu, ?_⟩
      refine hN _ _ ⟨pre ++ [u], par F u, _, rfl, rfl, hF.lt u hu, ?_, by rw [List.length_append, hi]; rfl⟩
      rw [List.append_assoc, List.singleton_append, ← path_up hF hu e]
      exact hpre
  · rintro ε g1 ⟨pre, u, v2, rfl, rfl, hu, hpre, hi⟩
    have h1 := path_short hF hv
    rw [← hpre, List.length_append, hi, List.length_map, nI_length] at h1
    have h2 := (path_len hF u).1
    omega
theorem ferr_spec {F : List Nat} (hF : IsF F) {g : G} {Q : LF.D → G → Prop} {E : EX} (h : Q .non g) : f_forest_error [.tup ((nI F).map D.int)] g Q E := by
  unfold f_forest_error m_forest_error
  have hle := hF.le
  have hpos := hF.pos
  walk_at "u"
  have lF : (List.map D.int (nI F)).length = F.length := by rw [List.length_map, nI_length]
  rw [lF, if_pos (by omega), if_pos (by omega)]
  refine forL_inv (fun i ε g' => ∃ v1 v2, ε = [some (.tup ((nI F).map D.int)), v1, v2] ∧ g' = g) ⟨_, _, rfl, rfl⟩ (fun _ _ _ _ _ => trivial) ?_ ?_
  · rintro i x ε g1 N hx ⟨v1, v2, rfl, rfl⟩ hN
    obtain ⟨y, hy, rfl⟩ := enumD_at hx
    obtain ⟨hi, rfl⟩ := nI_getP hy
    have hp := hF.lt i hi
    walk_at "u"
    rw [lF]
    refine isint_spec (by omega) (by omega) ?_
    refine ⟨_, rfl, ?_⟩
    rw [if_neg (by decide)]
    exact hN _ _ ⟨_, _, rfl, rfl⟩
  · rintro ε g1 ⟨v1, v2, rfl, rfl⟩
    walk_at "u"
    rw [lF]
    refine ⟨by omega, ?_⟩
    refine forL_inv (fun i ε g' => ∃ v1 v2, ε = [some (.tup ((nI F).map D.int)), v1, v2] ∧ g' = g1) ⟨_, _, rfl, rfl⟩ (fun _ _ _ _ _ => trivial) ?_ ?_
    · rintro i x ε g2 N hx ⟨v1, v2, rfl, rfl⟩ hN
      obtain ⟨hi, rfl⟩ := rangeD_get hx
      have hi : i < F.length := by simpa using hi
      walk_at "u"
      refine lead_spec hF hi ?_
      refine ⟨_, rfl, ?_⟩
      rw [if_neg (by decide)]
      exact hN _ _ ⟨_, _, rfl, rfl⟩
    · rintro ε g2 ⟨v1, v2, rfl, rfl⟩
      walk_at "u"
      exact h
end LW
set_option pp.deepTerms.threshold 14
set_option maxHeartbeats 800000
namespace LW
open PySem PySem.Spec PyProof.Rows L2 LF LM
local macro_rules | `(tactic| walk_at "u") => `(tactic| simp only [sNext, sSeq, sBreak, sCont, sDrop, sRet, sRetN, sIf, sNever, sAsg, sSet, sPar, sAug, sAugS, sFor, eVar, eC, eBin, eUn, eArg, aNil, aCons, rTup, rLst, bVal, bAnd, bOr, bNot, bTru, rTru, eAnd, eOr, eNot, eIf, eChain,
  rII, rIB, LF.rAdd, rMul, rEqd, rNed, rEq', rIsN, rNotN, LF.isNon, rIxd, eSl, oNo, oSo, rSld, LF.gName, LF.gNil, LF.gCons, LF.gTup, rSetd, LF.gSub, rIxl, iSeq, LF.iRng1, LF.iRng2, eLc, bYes, eCall, LF.rLen, rTupOf, rLstOf, rI1, rI2, rInt, rSumD, eRg1, eRg2, isLst, eM0, eM, rApp, LF.rPop, LF.rPopAt, iEnumL, LF.iEnum, rNeg, eIsi, isiOk, isiD, rMaxA, LF.rMinD, LF.rSortI, LF.rIns, LF.rExt, rSortP, eStp, rStp, eBck, rBck, rInX, rInT, LF.rAll, eDct1, sRaise1, rMulB, eDnil, rMinA, fvx, rInRg, rSortT, eCallX, sRaise0, sTryAs, sTryOnly, eIsE, eFld, eGet, sPut, eMeth, eMake, rDix, rDput, rDin, LF.rIsB, rEqI, rNe0, rEq0, eIsi2, LF.iRng3, rNe0T, rPopX, rEq0L, iZp, eVw, rTupN, eIx, qIx, rTupD, rAddN, eItems, eDctE, eLcV, rInTL, iZl, eCallS, eMk0, eMk1, eIsV, eFdV, aStar, sTryN, hRun, eCallSX, LF.rNe0T, eS1, rSplit, rJoin, rPart, rIntS, rSgIn, rMulS, iStrD, eOrT, sTryOnly, 
  itemsOf, stays, setF, fv, startD, ewipe, List.map_cons, List.map_nil, List.length_cons, List.length_nil, List.replicate, List.cons_append, List.nil_append, Nat.reduceAdd, Nat.reduceSub, List.reverse_cons, List.reverse_nil,
  List.getElem?_cons_zero, List.getElem?_cons_succ, List.set_cons_zero, List.set_cons_succ, Option.some.injEq, exists_eq_left', exists_eq_left, if_true, if_false, Bool.false_eq_true, reduceCtorEq, true_and, and_true, D.bl.injEq, D.int.injEq, D.ref.injEq, ↓reduceIte, ite_true, ite_false, Bool.not_true, Bool.not_false, decide_eq_true_eq, Bool.not_eq_true', decide_eq_false_iff_not, ite_not])
local macro_rules | `(tactic| walk_at "g") => `(tactic| simp only [sNext, sSeq, sBreak, sCont, sDrop, sRet, sRetN, sIf, sNever, sAsg, sSet, sPar, sAug, sAugS, sFor, eVar, eC, eBin, eUn, eArg, aNil, aCons, rTup, rLst, bVal, bAnd, bOr, bNot, bTru, rTru, eAnd, eOr, eNot, eIf, eChain,
  rII, rIB, LF.rAdd, rMul, rEqd, rNed, rEq', rIsN, rNotN, LF.isNon, eSl, oNo, oSo, rSld, LF.gName, LF.gNil, LF.gCons, LF.gTup, rSetd, LF.gSub, rIxl, iSeq, LF.iRng1, LF.iRng2, eLc, bYes, eCall, rTupOf, rLstOf, rI1, rI2, rInt, rSumD, eRg1, eRg2, isLst, eM0, eM, rApp, LF.rPop, LF.rPopAt, iEnumL, LF.iEnum, rNeg, eIsi, isiOk, isiD, rMaxA, LF.rMinD, LF.rSortI, LF.rIns, LF.rExt, rSortP, eStp, rStp, eBck, rBck, rInX, rInT, LF.rAll, eDct1, sRaise1, rMulB, eDnil, rMinA, fvx, rInRg, rSortT, eCallX, sRaise0, sTryAs, sTryOnly, eIsE, eFld, eGet, sPut, eMeth, eMake, rDix, rDput, rDin, LF.rIsB, rEqI, rNe0, rEq0, eIsi2, LF.iRng3, rNe0T, rPopX, rEq0L, iZp, eVw, rTupN, eIx, qIx, rTupD, rAddN, eItems, eDctE, eLcV, rInTL, iZl, eCallS, eMk0, eMk1, eIsV, eFdV, aStar, sTryN, hRun, eCallSX, LF.rNe0T, eS1, rSplit, rJoin, rPart, rIntS, rSgIn, rMulS, iStrD, eOrT, sTryOnly, 
  itemsOf, stays, setF, fv, startD, ewipe, List.map_cons, List.map_nil, List.length_cons, List.length_nil, List.replicate, List.cons_append, List.nil_append, Nat.reduceAdd, Nat.reduceSub, List.reverse_cons, List.reverse_nil,
  List.getElem?_cons_zero, List.getElem?_cons_succ, List.set_cons_zero, List.set_cons_succ, Option.some.injEq, exists_eq_left', exists_eq_left, if_true, if_false, Bool.false_eq_true, reduceCtorEq, true_and, and_true, D.bl.injEq, D.int.injEq, D.ref.injEq, ↓reduceIte, ite_true, ite_false, Bool.not_true, Bool.not_false, decide_eq_true_eq, Bool.not_eq_true', decide_eq_false_iff_not, ite_not])
local macro_rules | `(tactic| walk_at "s") => `(tactic| simp only [sNext, sSeq, sRet, sSet, sDrop, sIf, eVar, eC, eBin, eUn, eArg, aNil, aCons, rTup, rLst, rLstOf, rTupOf, bVal, bAnd, bOr, bNot, eSl, oNo, oSo, eCall, rNeg, eBck, LF.gName, LF.iRng1, iSeq, stays, ewipe, List.map_cons, List.map_nil, List.length_cons, List.length_nil, Nat.reduceAdd,
  List.getElem?_cons_zero, List.getElem?_cons_succ, List.set_cons_zero, List.set_cons_succ, Option.some.injEq, exists_eq_left', exists_eq_left, true_and, and_true])
local macro_rules | `(tactic| walk_at "t") => `(tactic| repeat (first | refine sldt ?_ | refine addi ?_ | refine addt3 ?_ | refine bckt ?_ | refine ⟨Nat.le_of_ble_eq_true rfl, ?_⟩))
theorem txjoin (l : List Nat) : Txt.join (Str.ofString " ") (l.map sN) = txt l := by
  rw [show Str.ofString " " = spX from sp_lit]
  exact PySem.StrLaws.glued_eq_join _ _
theorem log_lt {n : Nat} (h : n < 24) : (((n : Nat) : Int).natAbs).log2 < 1920 := by
  rw [Int.natAbs_natCast]
  exact Nat.lt_of_le_of_lt (Nat.log2_le_self n) (by omega)
theorem sum_len : ∀ l : List Nat, (∀ n ∈ l, n < 24) → ((l.map sN).map (·.length)).sum ≤ 2 * l.length
  | [], _ => Nat.le_refl _
  | n :: l, h => by
    have := (okN_of (h n (by simp))).le
    have := sum_len l fun m hm => h m (List.mem_cons_of_mem _ hm)
    simp only [List.map_cons, List.sum_cons, List.length_cons] at this ⊢
    omega
theorem pforest_spec {F : List Nat} (hF : IsF F) {g : G} {Q : LF.D → G → Prop} {E : EX} (h : ∀ g', LF.Fr [] g g' → Q (.tup ((nI F).map D.int)) g') : f_parse_forest [.str (txt F)] g Q E := by
  have hle := hF.le
  have hpos := hF.pos
  unfold f_parse_forest m_parse_forest
  walk_at "u"
  refine parts_spec (fun z => by rw [z] at hpos; exact absurd hpos (by decide)) (fun n hn => by have := par_le hF n hn; omega) (by omega) (.inl rfl) fun g1 f1 => ?_
  refine ferr_spec hF ?_
  rw [if_neg (by decide)]
  exact h g1 f1
theorem pvert_spec {l : List Nat} (h24 : ∀ n ∈ l, n < 24) (hl : l.length ≤ 24) (hn : l.Nodup) {g : G} {Q : LF.D → G → Prop} {E : EX} (h : ∀ g', LF.Fr [] g g' → Q (.tup ((nI l).map D.int)) g') : f_parse_vertices [.str (vtxt l)] g Q E := by
  unfold f_parse_vertices m_parse_vertices
  walk_at "u"
  by_cases e : l = []
  · subst e
    rw [show vtxt [] = Str.ofString "none" from rfl, if_pos rfl]
    exact ⟨by decide, h g (.refl _ _)⟩
  · rw [show vtxt l = txt l from if_neg e, if_neg (txt_none e h24)]
    exact parts_spec e h24 hl (.inr hn) h
theorem ftext_spec {l : List Nat} (h24 : ∀ n ∈ l, n < 24) (hl : l.length ≤ 24) {g : G} {Q : LF.D → G → Prop} {E : EX} (h : ∀ g', LF.Fr [] g g' → Q (.str (txt l)) g') : f_forest_text [.tup ((nI l).map D.int)] g Q E := by
  unfold f_forest_text m_forest_text
  walk_at "u"
  refine lcL_inv (fun j acc g' => acc = ((l.take j).map sN).map D.str ∧ g' = g) ⟨rfl, rfl⟩ (fun _ _ _ _ _ => trivial) ?_ ?_
  · rintro j x acc g1 N hx ⟨rfl, rfl⟩ hN
    obtain ⟨hj, rfl⟩ := nI_getN hx
    walk_at "u"
    refine ⟨log_lt (h24 _ (List.getElem_mem hj)), by rw [List.length_map, List.length_map, List.length_take, sizeLine_eq]; omega, hN _ _ ⟨?_, rfl⟩⟩
    rw [List.take_succ_eq_append_getElem hj, List.map_append, List.map_append]
    rfl
  rintro acc g1 ⟨rfl, rfl⟩ q hq
  rw [show (List.map D.int (nI l)).length = l.length by rw [List.length_map, nI_length], List.take_length]
  refine ⟨_, gset_same, by have := sum_len l h24; rw [List.length_map, show (Str.ofString " ").length = 1 by decide +kernel]; omega, ?_⟩
  rw [txjoin]
  exact h _ (.new hq)
theorem vtxt_len {l : List Nat} (h24 : ∀ n ∈ l, n < 24) (hl : l.length ≤ 24) : (vtxt l).length ≤ 80 := by
  unfold vtxt
  split
  · decide +kernel
  · have := (txt_len l h24).1
    omega
theorem vtext_spec {l : List Nat} (h24 : ∀ n ∈ l, n < 24) (hl : l.length ≤ 24) {g : G} {Q : LF.D → G → Prop} {E : EX} (h : ∀ g', LF.Fr [] g g' → Q (.str (vtxt l)) g') : f_vertices_text [.tup ((nI l).map D.int)] g Q E := by
  unfold f_vertices_text m_vertices_text
  walk_at "u"
  refine lcL_inv (fun j acc g' => acc = ((l.take j).map sN).map D.str ∧ g' = g) ⟨rfl, rfl⟩ (fun _ _ _ _ _ => trivial) ?_ ?_
  · rintro j x acc g1 N hx ⟨rfl, rfl⟩ hN
    obtain ⟨hj, rfl⟩ := nI_getN hx
    walk_at "u"
    refine ⟨log_lt (h24 _ (List.getElem_mem hj)), by rw [List.length_map, List.length_map, List.length_take, sizeLine_eq]; omega, hN _ _ ⟨?_, rfl⟩⟩
    rw [List.take_succ_eq_append_getElem hj, List.map_append, List.map_append]
    rfl
  rintro acc g1 ⟨rfl, rfl⟩ q hq
  rw [show (List.map D.int (nI l)).length = l.length by rw [List.length_map, nI_length], List.take_length]
  refine ⟨_, gset_same, by have := sum_len l h24; rw [List.length_map, show (Str.ofString " ").length = 1 by decide +kernel]; omega, ?_⟩
  rw [txjoin]
  obtain ⟨t1, t2⟩ := txt_len l h24
  refine ⟨by rw [sizeLine_eq]; omega, ?_⟩
  by_cases e : l = []
  · subst e
    rw [if_pos (by rw [txt_nil]; decide +kernel)]
    exact h _ (.new hq)
  · rw [if_neg (by have := t2 e; omega), ← show vtxt l = txt l from if_neg e]
    exact h _ (.new hq)
theorem written_spec {l : List Nat} (h24 : ∀ n ∈ l, n < 24) (hl : l.length ≤ 24) {g : G} {Q : LF.D → G → Prop} {E : EX} (h : ∀ g', LF.Fr [] g g' → Q (.str (txt l)) g') : f__law_written [.tup ((nI l).map D.int)] g Q E := by
  unfold f__law_written m__law_written
  walk_at "u"
  refine forL_inv (fun i ε g' => ∃ v2, ε = [some (.tup ((nI l).map D.int)), some (.str (txt (l.take i))), v2] ∧ g' = g) ⟨_, by rw [List.take_zero, txt_nil], rfl⟩ (fun _ _ _ _ _ => trivial) ?_ ?_
  · rintro i x ε g1 N hx ⟨v2, rfl, rfl⟩ hN
    obtain ⟨hi, rfl⟩ := nI_getN hx
    have hn := h24 _ (List.getElem_mem hi)
    have o := okN_of hn
    have hle := o.le
    obtain ⟨t1, t2⟩ := txt_len (l.take i) fun m hm => h24 m (List.mem_of_mem_take hm)
    have hti : (l.take i).length = i := by rw [List.length_take]; omega
    rw [hti] at t1
    walk_at "u"
    by_cases e : l.take i = []
    · have hi0 : i = 0 := by rw [e] at hti; exact hti.symm
      rw [e, txt_nil, if_pos rfl, show Txt.mul (Str.ofString " ") 0 = Str.ofString "" by decide +kernel]
      refine ⟨⟨by decide, fun z => absurd (by decide) z, fun z => absurd (by decide) z⟩, by decide +kernel, log_lt hn, ?_, ?_⟩
      · rw [show (Str.ofString "" ++ Str.ofString "").length = 0 by decide +kernel, sizeLine_eq]
        show 0 + (sN l[i]).length ≤ _
        omega
      · refine hN _ _ ⟨some (.int (l[i] : Nat)), ?_, rfl⟩
        rw [List.take_succ_eq_append_getElem hi, e, List.nil_append, txt_one]
        rw [show (Str.ofString "" ++ Str.ofString "") = Str.ofString "" by decide +kernel, show Str.ofString "" ++ (toString ((l[i] : Nat) : Int) : Str) = sN l[i] from cl_inj (by rw [cl_app, show cl (Str.ofString "") = [] by decide +kernel]; rfl)]
    · have t3 := t2 e
      have hne : txt (l.take i) ≠ Str.ofString "" := fun z => by
        rw [z, show (Str.ofString "").length = 0 by decide +kernel] at t3
        omega
      rw [if_neg hne, show Txt.mul (Str.ofString " ") 1 = spX by decide +kernel]
      refine ⟨⟨by decide, fun _ z => absurd z (by decide), fun _ z => absurd z (by decide)⟩, by rw [show spX.length = 1 from rfl, sizeLine_eq]; omega, log_lt hn, ?_, ?_⟩
      · rw [str_len_app, show spX.length = 1 from rfl, sizeLine_eq]
        show _ + (sN l[i]).length ≤ _
        omega
      · refine hN _ _ ⟨some (.int (l[i] : Nat)), ?_, rfl⟩
        rw [List.take_succ_eq_append_getElem hi, txt_snoc _ e]
        rfl
  · rintro ε g1 ⟨v2, rfl, rfl⟩
    rw [List.length_map, nI_length, List.take_length]
    walk_at "u"
    exact h _ (.refl _ _)
theorem ctext_spec {l : List Nat} (h24 : ∀ n ∈ l, n < 24) (hl : l.length ≤ 24) {g : G} {Q : LF.D → G → Prop} {E : EX} (h : ∀ g', LF.Fr [] g g' → Q (.str ("history" ++ " " ++ vtxt l)) g') : f_certificate_text [.tup [.str "history", .tup ((nI l).map D.int)]] g Q E := by
  unfold f_certificate_text m_certificate_text
  walk_at "u"
  refine ⟨by decide +kernel, vtext_spec h24 hl fun g1 f1 => ?_⟩
  exact ⟨by have := vtxt_len h24 hl; rw [sizeLine_eq, show (Str.ofString "history" ++ Str.ofString " ").length = 8 by decide +kernel]; omega, h g1 f1⟩
theorem ctext2_spec {n : Nat} (hn : n < 24) {g : G} {Q : LF.D → G → Prop} {E : EX} (h : ∀ g', LF.Fr [] g g' → Q (.str ("heavy" ++ " " ++ sN n)) g') : f_certificate_text [.tup [.str "heavy", .int (n : Nat)]] g Q E := by
  unfold f_certificate_text m_certificate_text
  walk_at "u"
  refine ⟨by decide +kernel, ?_⟩
  rw [if_neg (by decide +kernel)]
  exact ⟨log_lt hn, by have := (okN_of hn).le; rw [sizeLine_eq, show (Str.ofString "heavy" ++ Str.ofString " ").length = 6 by decide +kernel]; show _ + (sN n).length ≤ _; omega, h g (.refl _ _)⟩
theorem pcert_spec {l : List Nat} (h24 : ∀ n ∈ l, n < 24) (hl : l.length ≤ 24) (hn : l.Nodup) {g : G} {Q : LF.D → G → Prop} {E : EX} (h : ∀ g', LF.Fr [] g g' → Q (.tup [.str "history", .tup ((nI l).map D.int)]) g') : f_parse_certificate [.str ("history" ++ spX ++ vtxt l)] g Q E := by
  unfold f_parse_certificate m_parse_certificate
  walk_at "u"
  rw [show Str.ofString " " = spX from sp_lit, part_of (show 32 ∉ cl (Str.ofString "history") by decide +kernel)]
  refine ⟨by decide, by have := vtxt_len h24 hl; rw [sizeLine_eq, str_len_app, str_len_app, show (Str.ofString "history").length = 7 by decide +kernel, show spX.length = 1 from rfl]; omega, by decide, ?_⟩
  dsimp only
  refine ⟨_, rfl, rfl, rfl, ?_⟩
  refine ⟨_, rfl, ?_⟩
  rw [if_neg (by decide +kernel)]
  rw [if_neg (by decide +kernel)]
  refine pvert_spec h24 hl hn fun g1 f1 => ?_
  rw [if_pos rfl]
  exact ⟨by decide, h g1 f1⟩
theorem pcert2_spec {n : Nat} (h24 : n < 24) {g : G} {Q : LF.D → G → Prop} {E : EX} (h : ∀ g', LF.Fr [] g g' → Q (.tup [.str "heavy", .int (n : Nat)]) g') : f_parse_certificate [.str ("heavy" ++ spX ++ sN n)] g Q E := by
  unfold f_parse_certificate m_parse_certificate
  walk_at "u"
  have hle := (okN_of h24).le
  have h24' : ∀ m ∈ [n], m < 24 := fun m hm => by rw [List.mem_singleton.mp hm]; exact h24
  rw [show Str.ofString " " = spX from sp_lit, part_of (show 32 ∉ cl (Str.ofString "heavy") by decide +kernel)]
  refine ⟨by decide, by rw [sizeLine_eq, str_len_app, str_len_app, show (Str.ofString "heavy").length = 5 by decide +kernel, show spX.length = 1 from rfl]; omega, by decide, ?_⟩
  dsimp only
  refine ⟨_, rfl, rfl, rfl, ?_⟩
  refine ⟨_, rfl, ?_⟩
  rw [if_neg (by decide +kernel)]
  rw [if_neg (by decide +kernel), show sN n = vtxt [n] from rfl]
  refine pvert_spec h24' (Nat.le_of_ble_eq_true rfl) (by simp) fun g1 f1 => ?_
  rw [if_neg (by decide +kernel)]
  exact ⟨_, rfl, by
    rw [if_pos (show (((List.map D.int (nI [n])).length : Nat) : Int) = 1 from rfl)]
    exact ⟨_, _, rfl, rfl, by decide, h g1 f1⟩⟩
end LW
set_option pp.deepTerms.threshold 14
set_option maxHeartbeats 800000
namespace LW
open PySem PySem.Spec PyProof.Rows L2 LF LM
local macro_rules | `(tactic| walk_at "u") => `(tactic| simp only [sNext, sSeq, sBreak, sCont, sDrop, sRet, sRetN, sIf, sNever, sAsg, sSet, sPar, sAug, sAugS, sFor, eVar, eC, eBin, eUn, eArg, aNil, aCons, rTup, rLst, bVal, bAnd, bOr, bNot, bTru, rTru, eAnd, eOr, eNot, eIf, eChain,
  rII, rIB, LF.rAdd, rMul, rEqd, rNed, rEq', rIsN, rNotN, LF.isNon, rIxd, eSl, oNo, oSo, rSld, LF.gName, LF.gNil, LF.gCons, LF.gTup, rSetd, LF.gSub, rIxl, iSeq, LF.iRng1, LF.iRng2, eLc, bYes, eCall, LF.rLen, rTupOf, rLstOf, rI1, rI2, rInt, rSumD, eRg1, eRg2, isLst, eM0, eM, rApp, LF.rPop, LF.rPopAt, iEnumL, LF.iEnum, rNeg, eIsi, isiOk, isiD, rMaxA, LF.rMinD, LF.rSortI, LF.rIns, LF.rExt, rSortP, eStp, rStp, eBck, rBck, rInX, rInT, LF.rAll, eDct1, sRaise1, rMulB, eDnil, rMinA, fvx, rInRg, rSortT, eCallX, sRaise0, sTryAs, sTryOnly, eIsE, eFld, eGet, sPut, eMeth, eMake, rDix, rDput, rDin, LF.rIsB, rEqI, rNe0, rEq0, eIsi2, LF.iRng3, rNe0T, rPopX, rEq0L, iZp, eVw, rTupN, eIx, qIx, rTupD, rAddN, eItems, eDctE, eLcV, rInTL, iZl, eCallS, eMk0, eMk1, eIsV, eFdV, aStar, sTryN, hRun, eCallSX, LF.rNe0T, eS1, rSplit, rJoin, rPart, rIntS, rSgIn, rMulS, iStrD, eOrT, sTryOnly, 
  itemsOf, stays, setF, fv, startD, ewipe, List.map_cons, List.map_nil, List.length_cons, List.length_nil, List.replicate, List.cons_append, List.nil_append, Nat.reduceAdd, Nat.reduceSub, List.reverse_cons, List.reverse_nil,
  List.getElem?_cons_zero, List.getElem?_cons_succ, List.set_cons_zero, List.set_cons_succ, Option.some.injEq, exists_eq_left', exists_eq_left, if_true, if_false, Bool.false_eq_true, reduceCtorEq, true_and, and_true, D.bl.injEq, D.int.injEq, D.ref.injEq, ↓reduceIte, ite_true, ite_false, Bool.not_true, Bool.not_false, decide_eq_true_eq, Bool.not_eq_true', decide_eq_false_iff_not, ite_not])
local macro_rules | `(tactic| walk_at "g") => `(tactic| simp only [sNext, sSeq, sBreak, sCont, sDrop, sRet, sRetN, sIf, sNever, sAsg, sSet, sPar, sAug, sAugS, sFor, eVar, eC, eBin, eUn, eArg, aNil, aCons, rTup, rLst, bVal, bAnd, bOr, bNot, bTru, rTru, eAnd, eOr, eNot, eIf, eChain,
  rII, rIB, LF.rAdd, rMul, rEqd, rNed, rEq', rIsN, rNotN, LF.isNon, eSl, oNo, oSo, rSld, LF.gName, LF.gNil, LF.gCons, LF.gTup, rSetd, LF.gSub, rIxl, iSeq, LF.iRng1, LF.iRng2, eLc, bYes, eCall, rTupOf, rLstOf, rI1, rI2, rInt, rSumD, eRg1, eRg2, isLst, eM0, eM, rApp, LF.rPop, LF.rPopAt, iEnumL, LF.iEnum, rNeg, eIsi, isiOk, isiD, rMaxA, LF.rMinD, LF.rSortI, LF.rIns, LF.rExt, rSortP, eStp, rStp, eBck, rBck, rInX, rInT, LF.rAll, eDct1, sRaise1, rMulB, eDnil, rMinA, fvx, rInRg, rSortT, eCallX, sRaise0, sTryAs, sTryOnly, eIsE, eFld, eGet, sPut, eMeth, eMake, rDix, rDput, rDin, LF.rIsB, rEqI, rNe0, rEq0, eIsi2, LF.iRng3, rNe0T, rPopX, rEq0L, iZp, eVw, rTupN, eIx, qIx, rTupD, rAddN, eItems, eDctE, eLcV, rInTL, iZl, eCallS, eMk0, eMk1, eIsV, eFdV, aStar, sTryN, hRun, eCallSX, LF.rNe0T, eS1, rSplit, rJoin, rPart, rIntS, rSgIn, rMulS, iStrD, eOrT, sTryOnly, 
  itemsOf, stays, setF, fv, startD, ewipe, List.map_cons, List.map_nil, List.length_cons, List.length_nil, List.replicate, List.cons_append, List.nil_append, Nat.reduceAdd, Nat.reduceSub, List.reverse_cons, List.reverse_nil,
  List.getElem?_cons_zero, List.getElem?_cons_succ, List.set_cons_zero, List.set_cons_succ, Option.some.injEq, exists_eq_left', exists_eq_left, if_true, if_false, Bool.false_eq_true, reduceCtorEq, true_and, and_true, D.bl.injEq, D.int.injEq, D.ref.injEq, ↓reduceIte, ite_true, ite_false, Bool.not_true, Bool.not_false, decide_eq_true_eq, Bool.not_eq_true', decide_eq_false_iff_not, ite_not])
local macro_rules | `(tactic| walk_at "s") => `(tactic| simp only [sNext, sSeq, sRet, sSet, sDrop, sIf, eVar, eC, eBin, eUn, eArg, aNil, aCons, rTup, rLst, rLstOf, rTupOf, bVal, bAnd, bOr, bNot, eSl, oNo, oSo, eCall, rNeg, eBck, LF.gName, LF.iRng1, iSeq, stays, ewipe, List.map_cons, List.map_nil, List.length_cons, List.length_nil, Nat.reduceAdd,
  List.getElem?_cons_zero, List.getElem?_cons_succ, List.set_cons_zero, List.set_cons_succ, Option.some.injEq, exists_eq_left', exists_eq_left, true_and, and_true])
local macro_rules | `(tactic| walk_at "t") => `(tactic| repeat (first | refine sldt ?_ | refine addi ?_ | refine addt3 ?_ | refine bckt ?_ | refine ⟨Nat.le_of_ble_eq_true rfl, ?_⟩))
theorem cut_pre (xs : List LF.D) (hi : Option Int) : ∃ k, LF.cutD xs none hi = xs.take k := by
  unfold LF.cutD
  rw [show HT.sIx xs.length 0 none = 0 from rfl, List.drop_zero]
  exact ⟨_, rfl⟩
def lo (x : Str) : Prop := ∀ c ∈ cl x, c < 128
theorem lo_app {x y : Str} (h1 : lo x) (h2 : lo y) : lo (x ++ y) := fun c hc => by
  rw [cl_app] at hc
  rcases List.mem_append.mp hc with z | z
  · exact h1 c z
  · exact h2 c z
theorem lo_dig : lo ("0123456789" : Str) := fun c hc => List.all_eq_true.mp (show (cl ("0123456789" : Str)).all (fun c => decide (c < 128)) = true by decide +kernel) c hc |> of_decide_eq_true
theorem lo_sN {n : Nat} (h : n < 24) : lo (sN n) := fun c hc => lo_dig c ((okN_of h).dig c hc)
theorem lo_sp : lo spX := fun c hc => by rw [List.mem_singleton.mp hc]; decide
theorem lo_txt : ∀ l : List Nat, (∀ n ∈ l, n < 24) → lo (txt l)
  | [], _ => fun c hc => by rw [txt_nil, show cl ("" : Str) = [] by decide +kernel] at hc; cases hc
  | [n], h => lo_sN (h n (by simp))
  | n :: m :: l, h => lo_app (lo_app (lo_sN (h n (by simp))) lo_sp) (lo_txt (m :: l) fun k hk => h k (List.mem_cons_of_mem _ hk))
theorem lo_vtxt {l : List Nat} (h : ∀ n ∈ l, n < 24) : lo (vtxt l) := by
  unfold vtxt
  split
  · exact fun c hc => List.all_eq_true.mp (show (cl ("none" : Str)).all (fun c => decide (c < 128)) = true by decide +kernel) c hc |> of_decide_eq_true
  · exact lo_txt l h
theorem sn_lo {x : Str} (h : lo x) (hl : x.length ≤ 100) : Sn 1 100 (.str x) :=
  ⟨rfl, by
    show (x.cps.toList.all fun c => decide (c < 16 ^ 8)) = true
    rw [List.all_eq_true]
    exact fun c hc => decide_eq_true (Nat.lt_trans (h c hc) (by decide)), Nat.zero_le _, hl⟩
theorem sn_row {l : List Nat} (hl : l.length ≤ 24) (h : ∀ n ∈ l, n < 24) : Sn 1 100 (.tuple ((nI l).map .int)) := sn_ints (by omega) fun x hx => by have := h x hx; omega
theorem small_all : ∀ n, n < 24 → (PyData.int ((n : Nat) : Int)).showable = true ∧ (PyData.int ((n : Nat) : Int)).leavesShort 60 = true := by decide +kernel
theorem sn_small {n : Nat} (h : n < 24) : Sn 1 100 (.int ((n : Nat) : Int)) := ⟨(small_all n h).1, (small_all n h).2, Nat.zero_le _, Nat.zero_le _⟩
theorem law_holds (a : Addr) (ns : List Int) (hl : ns.length ≤ 63) : f_law [.rol a (ns.map D.int)] (fun _ => none) (fun d _ => d = .bl true) (fun _ _ _ => False) := by
  unfold f_law m_law
  refine fv_mk rfl ?_
  refine seq_setP (fun x g' => ∃ p b ds st, x = .ref p ∧ Well g' p b ds st) ?_ fun N hN => ?_
  rotate_left
  · walk_at "u"
    exact well_spec hl fun g1 p b ds st hg1 => hN _ _ ⟨p, b, ds, st, rfl, hg1⟩
  rintro x g1 ⟨p, b, ds, st, rfl, hg1⟩
  try simp only [List.set_cons_zero, List.set_cons_succ]
  refine seq_join (fun ε g' => True) (fun ε' g' _ => by walk_at "u") fun N4 hN4 => ?_
  unfold sFor
  refine ⟨by decide, ?_⟩
  show forL _ _ _ _ _ _ _
  refine forL_inv (fun i ε g' => ∃ v2 v3 v4 v5 v6 v7 v8 ds st, ε = [some (.rol a (ns.map D.int)), some (.ref p), v2, v3, v4, v5, v6, v7, v8] ∧ Well g' p b ds st) ⟨_, _, _, _, _, _, _, _, _, rfl, hg1⟩ (fun _ _ _ _ _ => trivial) ?_ ?_
  rotate_left
  · intro ε g5 _
    exact hN4 _ _ trivial
  rintro i x ε g5 N5 hx ⟨v2, v3, v4, v5, v6, v7, v8, ds5, st5, rfl, hg5⟩ hN5
  obtain ⟨hi, rfl⟩ := rangeD_get hx
  show (sSeq _ _) _ _ _
  try simp only [List.set_cons_zero, List.set_cons_succ]
  refine seq_setP (fun x g' => ∃ F ds st, x = .tup ((nI F).map D.int) ∧ IsF F ∧ Well g' p b ds st) ?_ fun N6 hN6 => ?_
  rotate_left
  · walk_at "u"
    exact forest_spec hg5 (by decide) (by decide) fun g6 F st6 ds6 hg6 f6 hF _ => hN6 _ _ ⟨F, _, _, rfl, hF, hg6⟩
  rintro x g6 ⟨F, ds6, st6, rfl, hF, hg6⟩
  try simp only [List.set_cons_zero, List.set_cons_succ]
  have hle := hF.le
  have hpos := hF.pos
  have F24 : ∀ n ∈ F, n < 24 := fun n hn => by have := par_le hF n hn; omega
  refine seq_setP (fun x g' => ∃ l ds st, x = .tup ((nI l).map D.int) ∧ (∀ n ∈ l, n < 24) ∧ l.length ≤ 24 ∧ l.Nodup ∧ Well g' p b ds st) ?_ fun N7 hN7 => ?_
  rotate_left
  · walk_at "u"
    refine ⟨RgOk.of_le (by decide) (by decide) (by decide) (by decide), fun q1 nq1 => ?_⟩
    rw [show rangeD 0 (Int.toNat 24) = (nI (List.range 24)).map D.int from rangeD_nI 24]
    refine mixed_spec (hg6.keep (S := []) (.new nq1) (by simp) (by simp)) gset_same (by decide) fun g7 o od st7 ds7 hg7 ho ho2 hp f7 => ?_
    refine pull_spec hg7 (by decide) (by decide) fun g8 r st8 ds8 hg8 f8 r0 r1 => ?_
    have ne1 : o ≠ p := fun z => by
      have := (hg6.keep (S := []) (.new (o := .lst ((nI (List.range 24)).map D.int)) nq1) (by simp) (by simp)).top
      rw [← z, ho] at this
      cases this
    have ne2 : o ≠ b := fun z => by
      have := (hg6.keep (S := []) (.new (o := .lst ((nI (List.range 24)).map D.int)) nq1) (by simp) (by simp)).dig
      rw [← z, ho] at this
      cases this
    have e8 := f8.at ho2 (by simp [ne1, ne2])
    refine ⟨_, e8, fun q2 nq2 => ⟨_, gset_same, ?_⟩⟩
    obtain ⟨k, hk⟩ := cut_pre ((nI od).map D.int) (some r)
    rw [hk, ← List.map_take, show (nI od).take k = nI (od.take k) from (List.map_take ..).symm]
    have hlo : od.length = 24 := by rw [hp.length_eq, List.length_range]
    refine hN7 _ _ ⟨od.take k, _, _, rfl, fun n hn => List.mem_range.mp (hp.mem_iff.mp (List.mem_of_mem_take hn)), by rw [List.length_take]; omega, (hp.nodup_iff.mpr List.nodup_range).sublist (List.take_sublist _ _), hg8.keep (S := []) (.new nq2) (by simp) (by simp)⟩
  rintro x g7 ⟨l, ds7, st7, rfl, l24, ll, lnd, hg7⟩
  try simp only [List.set_cons_zero, List.set_cons_succ]
  refine seq_setP (fun x g' => ∃ q, x = .ref q ∧ g' q = some (.lst [.str (txt F), .str (vtxt l)]) ∧ LF.Fr [] g7 g') ?_ fun N8 hN8 => ?_
  rotate_left
  · walk_at "u"
    refine written_spec F24 hle fun g8 f8 => ?_
    refine ⟨by decide, ?_⟩
    refine deq_tups (ns := nI l) (ms := []) ?_
    refine ⟨_, rfl, ?_⟩
    by_cases e : l = []
    · subst e
      rw [if_neg (by decide)]
      exact ⟨by decide, fun q nq => hN8 _ _ ⟨q, rfl, gset_same, f8.trans (.new nq)⟩⟩
    · rw [if_pos (by simp; exact fun z => e (List.map_eq_nil_iff.mp z))]
      refine written_spec l24 ll fun g9 f9 => ?_
      exact ⟨by decide, fun q nq => hN8 _ _ ⟨q, rfl, by rw [gset_same, show vtxt l = txt l from if_neg e], (f8.trans f9).trans (.new nq)⟩⟩
  rintro x g8 ⟨q5, rfl, e8, f8⟩
  try simp only [List.set_cons_zero, List.set_cons_succ]
  have hg8 := hg7.keep f8 (by simp) (by simp)
  refine seq_join (fun ε g' => ε = [some (.rol a (ns.map D.int)), some (.ref p), some (.int (i : Nat)), some (.tup ((nI F).map D.int)), some (.tup ((nI l).map D.int)), some (.ref q5), v6, v7, v8] ∧ LF.Fr [] g8 g') ?_ fun N9 hN9 => ?_
  rotate_left
  · walk_at "u"
    refine ftext_spec F24 hle fun g9 f9 => ?_
    refine vtext_spec l24 ll fun g10 f10 => ?_
    refine ⟨by decide, fun q nq => ?_⟩
    have s1 : Sns 1 202 [.str (txt F), .str (vtxt l)] := Sns.cons (sn_lo (lo_txt F F24) (by have := (txt_len F F24).1; omega)) (Sns.cons (sn_lo (lo_vtxt l24) (by have := vtxt_len l24 ll; omega)) (.nil (b := 0)))
    refine rep3_of (.lst gset_same (.cons (.str _) (.cons (.str _) .nil))) (.lst s1) ?_
    have ff := (f9.trans f10).trans (Fr.new (o := .lst [.str (txt F), .str (vtxt l)]) nq)
    refine rep3_of (.lst (ff.at e8 (by simp)) (.cons (.str _) (.cons (.str _) .nil))) (.lst s1) ?_
    walk_at "u"
    exact hN9 _ _ ⟨rfl, ff⟩
  rintro ε g9 ⟨rfl, f9⟩
  have e9 := f9.at e8 (by simp)
  have hg9 := hg8.keep f9 (by simp) (by simp)
  refine seq_join (fun ε g' => ε = [some (.rol a (ns.map D.int)), some (.ref p), some (.int (i : Nat)), some (.tup ((nI F).map D.int)), some (.tup ((nI l).map D.int)), some (.ref q5), v6, v7, v8] ∧ LF.Fr [] g9 g') ?_ fun N10 hN10 => ?_
  rotate_left
  · walk_at "u"
    refine ⟨_, _, e9, rfl, ?_⟩
    refine pforest_spec hF fun g10 f10 => ?_
    refine ⟨_, _, f10.at e9 (by simp), rfl, ?_⟩
    refine pvert_spec l24 ll lnd fun g11 f11 => ?_
    refine ⟨by decide, fun q nq => ?_⟩
    have s1 : Sns 1 202 [.tuple ((nI F).map .int), .tuple ((nI l).map .int)] := Sns.cons (sn_row hle F24) (Sns.cons (sn_row ll l24) (.nil (b := 0)))
    have dd : ∀ g', DatUs g' [.tup ((nI F).map D.int), .tup ((nI l).map D.int)] [.tuple ((nI F).map .int), .tuple ((nI l).map .int)] := fun g' => .cons (Dat.tup (Dats.ints _)).toU (.cons (Dat.tup (Dats.ints _)).toU .nil)
    refine rep3_of (.lst gset_same (dd _)) (.lst s1) ?_
    refine ⟨by decide, fun q2 nq2 => ?_⟩
    refine rep3_of (.lst gset_same (dd _)) (.lst s1) ?_
    walk_at "u"
    exact hN10 _ _ ⟨rfl, ((f10.trans f11).trans (.new nq)).trans (.new nq2)⟩
  rintro ε g10 ⟨rfl, f10⟩
  have e10 := f10.at e9 (by simp)
  have hg10 := hg9.keep f10 (by simp) (by simp)
  refine seq_setP (fun x g' => ∃ n : Nat, n < 24 ∧ x = .int (n : Nat) ∧ g' q5 = some (.lst [.str (txt F), .str (vtxt l)]) ∧ ∃ ds st, Well g' p b ds st) ?_ fun N11 hN11 => ?_
  rotate_left
  · walk_at "u"
    refine pull_spec hg10 (by decide) (by decide) fun g11 r st11 ds11 hg11 f11 r0 r1 => ?_
    have ne1 : q5 ≠ p := fun z => by
      rw [z, hg10.top] at e10
      cases e10
    have ne2 : q5 ≠ b := fun z => by
      rw [z, hg10.dig] at e10
      cases ds7 <;> cases e10
    exact hN11 _ _ ⟨r.toNat, by omega, by rw [Int.toNat_of_nonneg r0], f11.at e10 (by simp [ne1, ne2]), _, _, hg11⟩
  rintro x g11 ⟨n, n24, rfl, e11, ds11, st11, hg11⟩
  try simp only [List.set_cons_zero, List.set_cons_succ]
  have eh : Str.ofString "history " = "history" ++ spX := by decide +kernel
  have eh2 : Str.ofString "heavy " = "heavy" ++ spX := by decide +kernel
  have lh : (Str.ofString "history" ++ spX ++ vtxt l).length ≤ 100 := by have := vtxt_len l24 ll; rw [str_len_app, str_len_app, show (Str.ofString "history").length = 7 by decide +kernel, show spX.length = 1 from rfl]; omega
  have lh2 : (Str.ofString "heavy" ++ spX ++ sN n).length ≤ 100 := by have := (okN_of n24).le; rw [str_len_app, str_len_app, show (Str.ofString "heavy").length = 5 by decide +kernel, show spX.length = 1 from rfl]; omega
  refine seq_setP (fun x g' => ∃ q7, x = .ref q7 ∧ g' q7 = some (.lst [.str ("history" ++ spX ++ vtxt l), .str ("heavy" ++ spX ++ sN n)]) ∧ LF.Fr [] g11 g') ?_ fun N12 hN12 => ?_
  rotate_left
  · walk_at "u"
    refine ⟨_, _, e11, rfl, ?_⟩
    have l1 : (Str.ofString "history ").length = 8 := by decide +kernel
    have l2 : (Str.ofString "heavy ").length = 6 := by decide +kernel
    refine ⟨by have := vtxt_len l24 ll; rw [l1, sizeLine_eq]; omega, log_lt n24, by have := (okN_of n24).le; rw [l2, sizeLine_eq]; show _ + (sN n).length ≤ _; omega, by decide, fun q nq => hN12 _ _ ⟨q, rfl, ?_, .new nq⟩⟩
    rw [gset_same, eh, eh2]
    rfl
  rintro x g12 ⟨q7, rfl, e12, f12⟩
  try simp only [List.set_cons_zero, List.set_cons_succ]
  have hg12 := hg11.keep f12 (by simp) (by simp)
  refine seq_join (fun ε g' => ε = [some (.rol a (ns.map D.int)), some (.ref p), some (.int (i : Nat)), some (.tup ((nI F).map D.int)), some (.tup ((nI l).map D.int)), some (.ref q5), some (.int (n : Nat)), some (.ref q7), v8] ∧ LF.Fr [] g12 g') ?_ fun N13 hN13 => ?_
  rotate_left
  · walk_at "u"
    refine ⟨by decide, ctext_spec l24 ll fun g13 f13 => ⟨by decide, ctext2_spec n24 fun g14 f14 => ⟨by decide, fun q nq => ?_⟩⟩⟩
    have esp : (" " : Str) = spX := sp_lit
    rw [esp]
    have s1 : Sns 1 202 [.str ("history" ++ spX ++ vtxt l), .str ("heavy" ++ spX ++ sN n)] := Sns.cons (sn_lo (lo_app (lo_app (fun c hc => List.all_eq_true.mp (show (cl ("history" : Str)).all (fun c => decide (c < 128)) = true by decide +kernel) c hc |> of_decide_eq_true) lo_sp) (lo_vtxt l24)) lh)
      (Sns.cons (sn_lo (lo_app (lo_app (fun c hc => List.all_eq_true.mp (show (cl ("heavy" : Str)).all (fun c => decide (c < 128)) = true by decide +kernel) c hc |> of_decide_eq_true) lo_sp) (lo_sN n24)) lh2) (.nil (b := 0)))
    have ff := (f13.trans f14).trans (Fr.new (o := .lst [.str ("history" ++ spX ++ vtxt l), .str ("heavy" ++ spX ++ sN n)]) nq)
    refine rep3_of (.lst gset_same (.cons (.str _) (.cons (.str _) .nil))) (.lst s1) ?_
    refine rep3_of (.lst (ff.at e12 (by simp)) (.cons (.str _) (.cons (.str _) .nil))) (.lst s1) ?_
    walk_at "u"
    exact hN13 _ _ ⟨rfl, ff⟩
  rintro ε g13 ⟨rfl, f13⟩
  have e13 := f13.at e12 (by simp)
  have hg13 := hg12.keep f13 (by simp) (by simp)
  walk_at "u"
  refine ⟨_, e13, ?_⟩
  refine lcL_inv (fun j acc g' => acc = ([.tup [.str "history", .tup ((nI l).map D.int)], .tup [.str "heavy", .int (n : Nat)]] : List LF.D).take j ∧ LF.Fr [] g13 g') ⟨rfl, .refl _ _⟩ (fun _ _ _ _ z => z.2.at e13 (by simp)) ?_ ?_
  · rintro j x acc g14 N14 hx ⟨rfl, f14⟩ hN14
    match j, hx with
    | 0, hx =>
      cases hx
      walk_at "u"
      exact pcert_spec l24 ll lnd fun g15 f15 => ⟨by rw [sizeLine_eq]; exact Nat.zero_lt_succ _, hN14 _ _ ⟨rfl, f14.trans f15⟩⟩
    | 1, hx =>
      cases hx
      walk_at "u"
      exact pcert2_spec n24 fun g15 f15 => ⟨by show 1 < _; rw [sizeLine_eq]; decide, hN14 _ _ ⟨rfl, f14.trans f15⟩⟩
    | _ + 2, hx => cases hx
  rintro acc g14 ⟨rfl, f14⟩ q nq
  have s1 : Sns 2 406 [.tuple [.str "history", .tuple ((nI l).map .int)], .tuple [.str "heavy", .int (n : Nat)]] := Sns.cons (b := 202) (.tup (Sns.cons (sn_of (p := .str "history") (d := 1) (b := 100)) (Sns.cons (sn_row ll l24) (.nil (b := 0))))) (Sns.cons (b := 202) (.tup (Sns.cons (sn_of (p := .str "heavy") (d := 1) (b := 100)) (Sns.cons (sn_small n24) (.nil (b := 0))))) (.nil (b := 0)))
  have dd : ∀ g', DatUs g' [.tup [.str "history", .tup ((nI l).map D.int)], .tup [.str "heavy", .int (n : Nat)]] [.tuple [.str "history", .tuple ((nI l).map .int)], .tuple [.str "heavy", .int (n : Nat)]] := fun g' => .cons (.tup (.cons (.str _) (.cons (Dat.tup (Dats.ints _)).toU .nil))) (.cons (.tup (.cons (.str _) (.cons (.int _) .nil))) .nil)
  refine rep3_of (.lst gset_same (dd _)) (.lst s1) ?_
  refine ⟨by decide, by decide, by decide, fun q2 nq2 => ?_⟩
  refine rep3_of (.lst gset_same (dd _)) (.lst s1) ?_
  walk_at "u"
  exact hN5 _ _ ⟨_, _, _, _, _, _, _, _, _, rfl, hg13.keep ((f14.trans (.new nq)).trans (.new nq2)) (by simp) (by simp)⟩
end LW
open PySem PySem.W PyProof.Rows
set_option maxRecDepth 100000 in
set_option maxHeartbeats 0 in
theorem PySem.Challenge.cw_linkforests_k71_texts_written_and_parsed_holds : PySem.Challenge.rw_linkforests_k71_texts_written_and_parsed.Holds := by
  w_on; o_law; k_head; (case hw => w_witness2)
  k_fill
  refine LF.walk_g (l := PySem.Challenge.rw_linkforests_k71_texts_written_and_parsed) (n := 63) (k := 6) (x := "_law_script") rfl (by decide) rfl ⟨rfl, by decide, by decide⟩ (fun w h Y => PySem.W.kIn_of Y) ?F LW.law_holds
  case F =>
    intro w mg fa h KX G hmg
    refine' LW.all_mk KX G hmg  ?a0 ?l0 ?c0 ?k0 ?a1 ?l1 ?c1 ?k1 ?a2 ?l2 ?c2 ?k2 ?a3 ?l3 ?c3 ?k3 ?a4 ?l4 ?c4 ?k4 ?a5 ?l5 ?c5 ?k5 ?a6 ?l6 ?c6 ?k6 ?a7 ?l7 ?c7 ?k7 ?a8 ?l8 ?c8 ?k8 ?a9 ?l9 ?c9 ?k9 ?a10 ?l10 ?c10 ?k10 ?a11 ?l11 ?c11 ?k11 ?a12 ?l12 ?c12 ?k12 ?a13 ?l13 ?c13 ?k13 ?a14 ?l14 ?c14 ?k14 ?a15 ?l15 ?c15 ?k15 ?a16 ?l16 ?c16 ?k16 ?a17 ?l17 ?c17 ?k17 ?a18 ?l18 ?c18 ?k18 ?a19 ?l19 ?c19 ?k19 ?a20 ?l20 ?c20 ?k20 ?a21 ?l21 ?c21 ?k21 ?a22 ?l22 ?c22 ?k22 ?aN0 ?aR0 ?kR0 ?sR0 ?tR0 ?iR0 ?jR0 ?lR0 ?bR0 ?uR0 ?fR0 ?LR0 ?CR0 ?KR0 ?gR0 ?nR0 ?dR0 ?cR0 ?mR0 ?v0 ?q0_0 ?x0_0 ?hspec ?htake ?z_abs ?z_all ?z_bool ?z_enumerate ?z_int ?z_isinstance ?z_len ?z_list ?z_range ?z_repr ?z_sorted ?z_str ?z_tuple ?z_DIGITS ?z_JOINED ?z_LONGEST ?z_MAX_VERTICES ?z_NONE ?z_OVERWEIGHT
    (case a0 => k_is); (case l0 => k_is); (case c0 => k_is); (case k0 => k_is)
    (case a1 => k_is); (case l1 => k_is); (case c1 => k_is); (case k1 => k_is)
    (case a2 => k_is); (case l2 => k_is); (case c2 => k_is); (case k2 => k_is)
    (case a3 => k_is); (case l3 => k_is); (case c3 => k_is); (case k3 => k_is)
    (case a4 => k_is); (case l4 => k_is); (case c4 => k_is); (case k4 => k_is)
    (case a5 => k_is); (case l5 => k_is); (case c5 => k_is); (case k5 => k_is)
    (case a6 => k_is); (case l6 => k_is); (case c6 => k_is); (case k6 => k_is)
    (case a7 => k_is); (case l7 => k_is); (case c7 => k_is); (case k7 => k_is)
    (case a8 => k_is); (case l8 => k_is); (case c8 => k_is); (case k8 => k_is)
    (case a9 => k_is); (case l9 => k_is); (case c9 => k_is); (case k9 => k_is)
    (case a10 => k_is); (case l10 => k_is); (case c10 => k_is); (case k10 => k_is)
    (case a11 => k_is); (case l11 => k_is); (case c11 => k_is); (case k11 => k_is)
    (case a12 => k_is); (case l12 => k_is); (case c12 => k_is); (case k12 => k_is)
    (case a13 => k_is); (case l13 => k_is); (case c13 => k_is); (case k13 => k_is)
    (case a14 => k_is); (case l14 => k_is); (case c14 => k_is); (case k14 => k_is)
    (case a15 => k_is); (case l15 => k_is); (case c15 => k_is); (case k15 => k_is)
    (case a16 => k_is); (case l16 => k_is); (case c16 => k_is); (case k16 => k_is)
    (case a17 => k_is); (case l17 => k_is); (case c17 => k_is); (case k17 => k_is)
    (case a18 => k_is); (case l18 => k_is); (case c18 => k_is); (case k18 => k_is)
    (case a19 => k_is); (case l19 => k_is); (case c19 => k_is); (case k19 => k_is)
    (case a20 => k_is); (case l20 => k_is); (case c20 => k_is); (case k20 => k_is)
    (case a21 => k_is); (case l21 => k_is); (case c21 => k_is); (case k21 => k_is)
    (case a22 => k_is); (case l22 => k_is); (case c22 => k_is); (case k22 => k_is)
    (case aN0 => first | k_is | k_exc | rfl | decide +kernel)
    (case aR0 => first | k_is | k_exc | rfl | decide +kernel)
    (case kR0 => first | k_is | k_exc | rfl | decide +kernel)
    (case sR0 => first | k_is | k_exc | rfl | decide +kernel)
    (case tR0 => first | k_is | k_exc | rfl | decide +kernel)
    (case iR0 => first | k_is | k_exc | rfl | decide +kernel)
    (case jR0 => first | k_is | k_exc | rfl | decide +kernel)
    (case lR0 => first | k_is | k_exc | rfl | decide +kernel)
    (case bR0 => first | k_is | k_exc | rfl | decide +kernel)
    (case uR0 => first | k_is | k_exc | rfl | decide +kernel)
    (case fR0 => first | k_is | k_exc | rfl | decide +kernel)
    (case LR0 => first | k_is | k_exc | rfl | decide +kernel)
    (case CR0 => first | k_is | k_exc | rfl | decide +kernel)
    (case KR0 => first | k_is | k_exc | rfl | decide +kernel)
    (case gR0 => first | k_is | k_exc | rfl | decide +kernel)
    (case nR0 => first | k_is | k_exc | rfl | decide +kernel)
    (case dR0 => first | k_is | k_exc | rfl | decide +kernel)
    (case cR0 => first | k_is | k_exc | rfl | decide +kernel)
    (case mR0 => first | k_is | k_exc | rfl | decide +kernel)
    (case v0 => first | k_is | k_exc | rfl | decide +kernel)
    (case q0_0 => first | k_is | k_exc | rfl | decide +kernel)
    (case x0_0 => first | k_is | k_exc | rfl | decide +kernel)
    (case hspec => first | k_is | k_exc | rfl | decide +kernel)
    (case htake => first | k_is | k_exc | rfl | decide +kernel)
    (case z_abs => k_is)
    (case z_all => k_is)
    (case z_bool => k_is)
    (case z_enumerate => k_is)
    (case z_int => k_is)
    (case z_isinstance => k_is)
    (case z_len => k_is)
    (case z_list => k_is)
    (case z_range => k_is)
    (case z_repr => k_is)
    (case z_sorted => k_is)
    (case z_str => k_is)
    (case z_tuple => k_is)
    (case z_DIGITS => k_is)
    (case z_JOINED => k_is)
    (case z_LONGEST => k_is)
    (case z_MAX_VERTICES => k_is)
    (case z_NONE => k_is)
    (case z_OVERWEIGHT => k_is)
