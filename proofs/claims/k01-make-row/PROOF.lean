import PyProof.Rows.All
import Wide.All
import OpenK.AllK
import Wide.FinOn
import HandS.ForMost
import HandS.HotCalls
import HandS.ExcInitHot
import HandS.ExcIs
import HandS.ExcField
import HandS.IsInst
import KE.LtData
import KE.SortData
import HandS.Wide
import HandS.Style
import HandS.TupAny
import HandS.TupLen
import HandS.TupLe
import HandS.Conv
import KE.KExcIs
import KE.KDictSum
import HandS.BoundList
import HandS.ExcInit
import HandS.Words
import PySem.Challenge.RW_owntables_k01_make_row
set_option Elab.async false
set_option linter.all false
set_option maxRecDepth 100000
set_option maxHeartbeats 4000000
/-! DE1: data, what stands for it in the heap, the state of a body by data. -/
namespace DE
open PySem L2

/-- data: values by content -/
inductive D where
  | non
  | bl (b : Bool)
  | int (i : Int)
  | str (s : Str)
  | tup (xs : List D)
  | lst (xs : List D)
  | dicT (ks : List (List Key)) (vs : List D)
  | dicK (ks : List Key) (vs : List D)
  | exc (c : Str) (ns : List Str) (fs : List D)

/-- what a body's data lean on: the written part, the globals, the exception at hand (its object, class, dict) -/
structure En where
  K : PySem.W.Frag
  mg : Str → Option Value
  px : Option (Addr × Addr × Addr)

def Ex (H H' : Hp) : Prop := ∀ a o, H a = some o → H' a = some o
theorem Ex.refl (H : Hp) : Ex H H := fun _ _ h => h
theorem Ex.trans {H H1 H2 : Hp} (a : Ex H H1) (b : Ex H1 H2) : Ex H H2 := fun x o h => b x o (a x o h)
theorem Ex.new {H : Hp} {p : Addr} {o : HO} (h : H p = none) : Ex H (upd H p o) := fun a u e => by
  rw [upd_ne (ne_of_none e h)]
  exact e
theorem Ex.mut {H H' : Hp} {p : Addr} {o : HO} (e : Ex H H') (h : H p = none) : Ex H (upd H' p o) := fun a u ha => by
  rw [upd_ne (ne_of_none ha h)]
  exact e a u ha
theorem Ex.free {H H' : Hp} {p : Addr} (e : Ex H H') (h : H' p = none) : H p = none := by
  cases h1 : H p with
  | none => rfl
  | some o => rw [e p o h1] at h; cases h
theorem Ex.rd {H H' : Hp} {a : Addr} {u : HO} (e : Ex H H') (h : Rd H a u) : Rd H' a u := by
  rcases h with h | ⟨o, h⟩
  · exact .inl (e a _ h)
  · exact .inr ⟨o, e a _ h⟩
theorem Ex.sql {K : PySem.W.Frag} {H H' : Hp} {a : Addr} {xs : List V} (e : Ex H H') (h : SqL K H a xs) : SqL K H' a xs := by
  rcases h with h | h
  · exact .inl (e.rd h)
  · exact .inr h

mutual
/-- v stands for the data d in G -/
def Den (E : En) (G : Hp) : D → V → Prop
  | .non, v => v = .non
  | .bl b, v => v = .bl b
  | .int i, v => v = .int i
  | .str s, v => v = .str s
  | .tup ds, v => ∃ a vs, v = .ref a ∧ G a = some (.tup vs) ∧ Dens E G ds vs
  | .lst ds, v => ∃ a vs, v = .ref a ∧ SqL E.K G a vs ∧ Dens E G ds vs
  | .dicT ks ds, v => ∃ a kvs, v = .ref a ∧ G a = some (.dT kvs) ∧ kvs.map (·.1) = ks ∧ Dens E G ds (kvs.map (·.2))
  | .dicK ks ds, v => ∃ a kvs, v = .ref a ∧ G a = some (.dK kvs) ∧ kvs.map (·.1) = ks ∧ Dens E G ds (kvs.map (·.2))
  | .exc c ns ds, v => ∃ a C dd fs, v = .ref a ∧ E.px = some (a, C, dd) ∧ E.mg c = some (.ref C) ∧ G dd = some (.xd fs) ∧ fs.map (·.1) = ns ∧ Dens E G ds (fs.map (·.2))
def Dens (E : En) (G : Hp) : List D → List V → Prop
  | [], vs => vs = []
  | d :: ds, vs => ∃ v r, vs = v :: r ∧ Den E G d v ∧ Dens E G ds r
end

mutual
theorem Den.mono {E : En} {G G' : Hp} (e : Ex G G') : ∀ (d : D) (v : V), Den E G d v → Den E G' d v
  | .non, v, h => h
  | .bl _, v, h => h
  | .int _, v, h => h
  | .str _, v, h => h
  | .tup ds, v, h => by
    obtain ⟨a, vs, h1, h2, h3⟩ := h
    exact ⟨a, vs, h1, e _ _ h2, Dens.mono e ds vs h3⟩
  | .lst ds, v, h => by
    obtain ⟨a, vs, h1, h2, h3⟩ := h
    exact ⟨a, vs, h1, e.sql h2, Dens.mono e ds vs h3⟩
  | .dicT ks ds, v, h => by
    obtain ⟨a, kvs, h1, h2, h3, h4⟩ := h
    exact ⟨a, kvs, h1, e _ _ h2, h3, Dens.mono e ds _ h4⟩
  | .dicK ks ds, v, h => by
    obtain ⟨a, kvs, h1, h2, h3, h4⟩ := h
    exact ⟨a, kvs, h1, e _ _ h2, h3, Dens.mono e ds _ h4⟩
  | .exc c ns ds, v, h => by
    obtain ⟨a, C, dd, fs, h1, h2, h3, h4, h5, h6⟩ := h
    exact ⟨a, C, dd, fs, h1, h2, h3, e _ _ h4, h5, Dens.mono e ds _ h6⟩
theorem Dens.mono {E : En} {G G' : Hp} (e : Ex G G') : ∀ (ds : List D) (vs : List V), Dens E G ds vs → Dens E G' ds vs
  | [], vs, h => h
  | d :: ds, vs, h => by
    obtain ⟨v, r, h1, h2, h3⟩ := h
    exact ⟨v, r, h1, Den.mono e d v h2, Dens.mono e ds r h3⟩
end
section
variable {E : En} {G G' : Hp} {ds es : List D} {vs ws : List V}
theorem Dens.length : ∀ {ds : List D} {vs : List V}, Dens E G ds vs → vs.length = ds.length
  | [], vs, h => by
    have e : vs = [] := h
    rw [e] <;> rfl
  | d :: ds, vs, h => by
    obtain ⟨v, r, h1, h2, h3⟩ := h
    rw [h1, List.length_cons, List.length_cons, Dens.length h3]
theorem Dens.append : ∀ {ds es : List D} {vs ws : List V}, Dens E G ds vs → Dens E G es ws → Dens E G (ds ++ es) (vs ++ ws)
  | [], es, vs, ws, h, h' => by
    have e : vs = [] := h
    rw [e]
    exact h'
  | d :: ds, es, vs, ws, h, h' => by
    obtain ⟨v, r, h1, h2, h3⟩ := h
    rw [h1]
    exact ⟨v, r ++ ws, rfl, h2, Dens.append h3 h'⟩
theorem Dens.one {d : D} {v : V} (h : Den E G d v) : Dens E G [d] [v] := ⟨v, [], rfl, h, rfl⟩
theorem Dens.get : ∀ {ds : List D} {vs : List V} {i : Nat} {d : D}, Dens E G ds vs → ds[i]? = some d → ∃ v, vs[i]? = some v ∧ Den E G d v
  | [], _, _, _, _, e => by simp at e
  | d :: ds, vs, 0, d', h, e => by
    obtain ⟨v, r, h1, h2, h3⟩ := h
    have e' : d = d' := by simpa using e
    subst e'
    exact ⟨v, by rw [h1]; rfl, h2⟩
  | d :: ds, vs, i + 1, d', h, e => by
    obtain ⟨v, r, h1, h2, h3⟩ := h
    obtain ⟨w, h4, h5⟩ := Dens.get (i := i) (d := d') h3 (by simpa using e)
    exact ⟨w, by rw [h1]; simpa using h4, h5⟩
/-- the other way: by the values' places -/
theorem Dens.get' : ∀ {ds : List D} {vs : List V} {i : Nat} {v : V}, Dens E G ds vs → vs[i]? = some v → ∃ d, ds[i]? = some d ∧ Den E G d v
  | [], vs, i, v, h, e => by
    have h' : vs = [] := h
    rw [h'] at e
    simp at e
  | d :: ds, vs, 0, v, h, e => by
    obtain ⟨w, r, h1, h2, h3⟩ := h
    rw [h1] at e
    have e' : w = v := by simpa using e
    subst e'
    exact ⟨d, rfl, h2⟩
  | d :: ds, vs, i + 1, v, h, e => by
    obtain ⟨w, r, h1, h2, h3⟩ := h
    rw [h1] at e
    obtain ⟨d', h4, h5⟩ := Dens.get' (i := i) (v := v) h3 (by simpa using e)
    exact ⟨d', by simpa using h4, h5⟩
theorem Dens.set : ∀ {ds : List D} {vs : List V} {d : D} {v : V} (i : Nat), Dens E G ds vs → Den E G d v → Dens E G (ds.set i d) (vs.set i v)
  | [], vs, _, _, _, h, _ => by
    have e : vs = [] := h
    rw [e]
    exact rfl
  | d :: ds, vs, d', v', 0, h, h' => by
    obtain ⟨v, r, h1, h2, h3⟩ := h
    rw [h1]
    exact ⟨v', r, rfl, h', h3⟩
  | d :: ds, vs, d', v', i + 1, h, h' => by
    obtain ⟨v, r, h1, h2, h3⟩ := h
    rw [h1]
    exact ⟨v, r.set i v', rfl, h2, Dens.set i h3 h'⟩
theorem Dens.take : ∀ {ds : List D} {vs : List V} (n : Nat), Dens E G ds vs → Dens E G (ds.take n) (vs.take n)
  | ds, vs, 0, _ => by
    rw [List.take_zero, List.take_zero]
    exact rfl
  | [], vs, n + 1, h => by
    have e : vs = [] := h
    rw [e]
    exact rfl
  | d :: ds, vs, n + 1, h => by
    obtain ⟨v, r, h1, h2, h3⟩ := h
    rw [h1]
    exact ⟨v, r.take n, rfl, h2, Dens.take n h3⟩
theorem Dens.drop : ∀ {ds : List D} {vs : List V} (n : Nat), Dens E G ds vs → Dens E G (ds.drop n) (vs.drop n)
  | ds, vs, 0, h => h
  | [], vs, n + 1, h => by
    have e : vs = [] := h
    rw [e]
    exact rfl
  | d :: ds, vs, n + 1, h => by
    obtain ⟨v, r, h1, h2, h3⟩ := h
    rw [h1]
    exact Dens.drop n h3
theorem Dens.ints : ∀ (ns : List Int), Dens E G (ns.map D.int) (ns.map V.int)
  | [] => rfl
  | n :: ns => ⟨.int n, ns.map V.int, rfl, rfl, Dens.ints ns⟩
theorem Dens.nil_iff (h : Dens E G ds vs) : vs.isEmpty = ds.isEmpty := by
  have e := h.length
  cases vs <;> cases ds <;> simp_all
end

/-! ### what a body holds -/
/-- an object that one alone holds -/
inductive OV where
  | l (ds : List D)
  | tT (ks : List (List Key)) (vs : List D)
  | tK (ks : List Key) (vs : List D)
def OV.d : OV → D
  | .l ds => .lst ds
  | .tT ks vs => .dicT ks vs
  | .tK ks vs => .dicK ks vs
/-- what a slot holds: data that no one changes, or an object of its own -/
inductive LV where
  | dat (d : D)
  | own (o : OV)
/-- what an expression gives: data, a new object, or a slot's own object -/
inductive RV where
  | dat (d : D)
  | fr (o : OV)
  | br (o : OV)
def RV.d : RV → D
  | .dat d => d
  | .fr o => o.d
  | .br o => o.d
abbrev Rho := List (Option LV)

def DenO (E : En) (G H : Hp) (l : Addr) : OV → Prop
  | .l ds => ∃ vs, H l = some (.lst vs) ∧ Dens E G ds vs
  | .tT ks ds => ∃ kvs, H l = some (.dT kvs) ∧ kvs.map (·.1) = ks ∧ Dens E G ds (kvs.map (·.2))
  | .tK ks ds => ∃ kvs, H l = some (.dK kvs) ∧ kvs.map (·.1) = ks ∧ Dens E G ds (kvs.map (·.2))
def DenL (E : En) (G H : Hp) : LV → V → Prop
  | .dat d, v => Den E G d v
  | .own o, v => ∃ l, v = .ref l ∧ G l = none ∧ DenO E G H l o
/-- H0: the heap ahead of the expression -/
def DenR (E : En) (G H H0 : Hp) : RV → V → Prop
  | .dat d, v => Den E G d v
  | .fr o, v => ∃ l, v = .ref l ∧ H0 l = none ∧ G l = none ∧ DenO E G H l o
  | .br o, v => ∃ l, v = .ref l ∧ G l = none ∧ DenO E G H l o

/-- something that is no tuple and no error's dict stands there -/
def Mb (H : Hp) (b : Addr) : Prop := ∃ o, H b = some o ∧ (∀ vs, o ≠ .tup vs) ∧ ∀ fs, o ≠ .xd fs
theorem Mb.ne {H : Hp} {b : Addr} (h : Mb H b) : H b ≠ none := fun z => by
  obtain ⟨o, h1, _⟩ := h
  rw [h1] at z
  cases z
theorem Mb.mono {H H' : Hp} {b : Addr} (e : Ex H H') (h : Mb H b) : Mb H' b := let ⟨o, h1, h2⟩ := h; ⟨o, e _ _ h1, h2⟩
/-- the frozen part and the heap have grown -/
structure Gr (G H G' H' : Hp) : Prop where
  g : Ex G G'
  h : Ex H H'
  i : Ex G' H'
  n : ∀ b, G b = none → Mb H b → G' b = none
theorem Gr.refl {G H : Hp} (e : Ex G H) : Gr G H G H := ⟨Ex.refl _, Ex.refl _, e, fun _ h _ => h⟩
theorem Gr.trans {G H G1 H1 G2 H2 : Hp} (a : Gr G H G1 H1) (b : Gr G1 H1 G2 H2) : Gr G H G2 H2 := ⟨a.g.trans b.g, a.h.trans b.h, b.i, fun x hg hh => b.n x (a.n x hg hh) (hh.mono a.h)⟩
/-- all tuples of the heap are frozen -/
def tups (G H : Hp) : Hp := fun a => match G a with
  | some o => some o
  | none => match H a with
    | some (.tup vs) => some (.tup vs)
    | _ => none
theorem tups_at {G H : Hp} {a : Addr} {vs : List V} (i : Ex G H) (h : H a = some (.tup vs)) : tups G H a = some (.tup vs) := by
  unfold tups
  cases q : G a with
  | some o =>
    have := i a o q
    rw [h] at this
    exact this.symm
  | none => rw [h]
theorem tups_ex {G H : Hp} : Ex G (tups G H) := fun a o q => by
  unfold tups
  rw [q]
theorem tups_in {G H : Hp} (e : Ex G H) : Ex (tups G H) H := fun a o q => by
  unfold tups at q
  cases q1 : G a with
  | some o1 =>
    rw [q1] at q
    have z := e a o1 q1
    rw [z]
    exact q
  | none =>
    rw [q1] at q
    cases q2 : H a with
    | none => rw [q2] at q; cases q
    | some o1 =>
      rw [q2] at q
      cases o1 with
      | tup vs => exact q
      | _ => cases q
theorem Gr.tups {G H : Hp} (e : Ex G H) : Gr G H (DE.tups G H) H := ⟨tups_ex, Ex.refl _, tups_in e, fun b hg hm => by
  obtain ⟨o, h1, h2, _⟩ := hm
  unfold DE.tups
  rw [hg, h1]
  cases o with
  | tup vs => exact absurd rfl (h2 vs)
  | _ => rfl⟩
/-- a new object that is left loose -/
theorem Gr.loose {G H : Hp} {p : Addr} {o : HO} (e : Ex G H) (h : H p = none) : Gr G H G (upd H p o) := ⟨Ex.refl _, Ex.new h, fun a u q => by rw [upd_ne (ne_of_none (e a u q) h)]; exact e a u q, fun _ h _ => h⟩
/-- a new object that is frozen at once -/
theorem Gr.frozen {G H : Hp} {p : Addr} {o : HO} (e : Ex G H) (h : H p = none) : Gr G H (upd G p o) (upd H p o) := ⟨Ex.new (e.free h), Ex.new h, fun a u q => by
  by_cases hp : a = p
  · rw [hp, upd_same] at q ⊢
    exact q
  · rw [upd_ne hp] at q ⊢
    exact e a u q, fun b hg hh => by
  have hp : b ≠ p := fun z => hh.ne (by rw [z]; exact h)
  rw [upd_ne hp]
  exact hg⟩
section
variable {E : En} {G H G' H' H0 : Hp}
theorem DenO.mono {l : Addr} {o : OV} (g : Ex G G') (h : Ex H H') (x : DenO E G H l o) : DenO E G' H' l o := by
  cases o with
  | l ds => obtain ⟨vs, h1, h2⟩ := x; exact ⟨vs, h _ _ h1, Dens.mono g _ _ h2⟩
  | tT ks ds => obtain ⟨vs, h1, h2, h3⟩ := x; exact ⟨vs, h _ _ h1, h2, Dens.mono g _ _ h3⟩
  | tK ks ds => obtain ⟨vs, h1, h2, h3⟩ := x; exact ⟨vs, h _ _ h1, h2, Dens.mono g _ _ h3⟩
theorem DenO.there {l : Addr} {o : OV} (x : DenO E G H l o) : H l ≠ none := by
  cases o with
  | l ds => obtain ⟨vs, h1, h2⟩ := x; rw [h1]; exact fun z => nomatch z
  | tT ks ds => obtain ⟨vs, h1, h2, h3⟩ := x; rw [h1]; exact fun z => nomatch z
  | tK ks ds => obtain ⟨vs, h1, h2, h3⟩ := x; rw [h1]; exact fun z => nomatch z
theorem DenO.mb {l : Addr} {o : OV} (x : DenO E G H l o) : Mb H l := by
  cases o with
  | l ds => obtain ⟨vs, h1, h2⟩ := x; exact ⟨_, h1, (fun _ z => nomatch z), fun _ z => nomatch z⟩
  | tT ks ds => obtain ⟨vs, h1, h2, h3⟩ := x; exact ⟨_, h1, (fun _ z => nomatch z), fun _ z => nomatch z⟩
  | tK ks ds => obtain ⟨vs, h1, h2, h3⟩ := x; exact ⟨_, h1, (fun _ z => nomatch z), fun _ z => nomatch z⟩
theorem DenL.mono {lv : LV} {v : V} (r : Gr G H G' H') (x : DenL E G H lv v) : DenL E G' H' lv v := by
  cases lv with
  | dat d => exact Den.mono r.g d v x
  | own o =>
    obtain ⟨l, h1, h2, h3⟩ := x
    exact ⟨l, h1, r.n l h2 h3.mb, h3.mono r.g r.h⟩
theorem DenR.mono {rv : RV} {v : V} (r : Gr G H G' H') (x : DenR E G H H0 rv v) : DenR E G' H' H0 rv v := by
  cases rv with
  | dat d => exact Den.mono r.g d v x
  | fr o =>
    obtain ⟨l, h1, h0, h2, h3⟩ := x
    exact ⟨l, h1, h0, r.n l h2 h3.mb, h3.mono r.g r.h⟩
  | br o =>
    obtain ⟨l, h1, h2, h3⟩ := x
    exact ⟨l, h1, r.n l h2 h3.mb, h3.mono r.g r.h⟩
/-- told from an earlier heap -/
theorem DenR.back {H1 : Hp} {rv : RV} {v : V} (e : Ex H0 H1) (x : DenR E G H H1 rv v) : DenR E G H H0 rv v := by
  cases rv with
  | dat d => exact x
  | fr o =>
    obtain ⟨l, h1, h0, h2, h3⟩ := x
    exact ⟨l, h1, e.free h0, h2, h3⟩
  | br o => exact x
/-- an object's data, once it is frozen -/
theorem DenO.frz {l : Addr} {o : OV} (x : DenO E G H l o) (i : Ex G H) (n : G l = none) : ∃ u, H l = some u ∧ Ex G (upd G l u) ∧ Ex (upd G l u) H ∧ Den E (upd G l u) o.d (.ref l) := by
  have en : ∀ {u : HO}, H l = some u → Ex (upd G l u) H := fun {u} hu a w q => by
    by_cases ha : a = l
    · rw [ha, upd_same] at q
      rw [ha, hu]
      exact q
    · rw [upd_ne ha] at q
      exact i a w q
  cases o with
  | l ds =>
    obtain ⟨vs, h1, h2⟩ := x
    exact ⟨_, h1, Ex.new n, en h1, l, vs, rfl, .inl (.inl upd_same), Dens.mono (Ex.new n) _ _ h2⟩
  | tT ks ds =>
    obtain ⟨vs, h1, h2, h3⟩ := x
    exact ⟨_, h1, Ex.new n, en h1, l, vs, rfl, upd_same, h2, Dens.mono (Ex.new n) _ _ h3⟩
  | tK ks ds =>
    obtain ⟨vs, h1, h2, h3⟩ := x
    exact ⟨_, h1, Ex.new n, en h1, l, vs, rfl, upd_same, h2, Dens.mono (Ex.new n) _ _ h3⟩
/-- data or a new object, as data -/
theorem DenR.froze {rv : RV} {v : V} (r : Gr G H G' H') (x : DenR E G' H' H rv v) (nb : ∀ o, rv ≠ .br o) : ∃ G2, Gr G H G2 H' ∧ Ex G' G2 ∧ Den E G2 rv.d v := by
  cases rv with
  | dat d => exact ⟨G', r, Ex.refl _, x⟩
  | fr o =>
    obtain ⟨l, h1, h0, h2, h3⟩ := x
    obtain ⟨u, k1, k2, k3, k4⟩ := h3.frz r.i h2
    subst h1
    refine ⟨upd G' l u, ⟨r.g.trans k2, r.h, k3, fun b hg hh => ?_⟩, k2, k4⟩
    have hb : b ≠ l := fun z => hh.ne (by rw [z]; exact h0)
    rw [upd_ne hb]
    exact r.n b hg hh
  | br o => exact absurd rfl (nb o)
/-- anything, as data that stands while the heap stands: the frozen part for a call -/
theorem DenR.lent {rv : RV} {v : V} {H1 : Hp} (i : Ex G H) (x : DenR E G H H1 rv v) : ∃ G2, Ex G G2 ∧ Ex G2 H ∧ Den E G2 rv.d v := by
  cases rv with
  | dat d => exact ⟨G, Ex.refl _, i, x⟩
  | fr o =>
    obtain ⟨l, h1, h0, h2, h3⟩ := x
    obtain ⟨u, k1, k2, k3, k4⟩ := h3.frz i h2
    subst h1
    exact ⟨upd G l u, k2, k3, k4⟩
  | br o =>
    obtain ⟨l, h1, h2, h3⟩ := x
    obtain ⟨u, k1, k2, k3, k4⟩ := h3.frz i h2
    subst h1
    exact ⟨upd G l u, k2, k3, k4⟩
end

/-- the slots by data; B: the heap at the def's entry -/
structure Rep (E : En) (B G H : Hp) (σ : L2.St) (ρ : Rho) : Prop where
  len : σ.length = ρ.length
  at_ : ∀ (i : Nat) (lv : LV), ρ[i]? = some (some lv) → ∃ v, σ[i]? = some (some v) ∧ DenL E G H lv v
  new : ∀ (i : Nat) (o : OV) (l : Addr), ρ[i]? = some (some (.own o)) → σ[i]? = some (some (.ref l)) → B l = none
  sep : ∀ (i j : Nat) (o o' : OV) (v : V), i ≠ j → ρ[i]? = some (some (.own o)) → ρ[j]? = some (some (.own o')) → σ[i]? = some (some v) → σ[j]? ≠ some (some v)
section
variable {E : En} {B G H G' H' : Hp} {σ : L2.St} {ρ : Rho}
theorem Rep.mono (r : Gr G H G' H') (x : Rep E B G H σ ρ) : Rep E B G' H' σ ρ := ⟨x.len, fun i lv e => by
  obtain ⟨v, h1, h2⟩ := x.at_ i lv e
  exact ⟨v, h1, h2.mono r⟩, x.new, x.sep⟩
theorem get_set {α : Type} {l : List α} {i j : Nat} {a b : α} (h : (l.set i a)[j]? = some b) : (j = i ∧ b = a) ∨ (j ≠ i ∧ l[j]? = some b) := by
  by_cases e : j = i
  · subst e
    by_cases hl : j < l.length
    · rw [List.getElem?_set_self hl] at h
      exact .inl ⟨rfl, (Option.some.inj h).symm⟩
    · rw [List.getElem?_eq_none (by rw [List.length_set]; omega)] at h
      cases h
  · rw [List.getElem?_set_ne (Ne.symm e)] at h
    exact .inr ⟨e, h⟩
theorem set_get {α : Type} {l : List α} {i : Nat} {a : α} {n : Nat} (hn : l.length = n) (hi : i < n) : (l.set i a)[i]? = some a := List.getElem?_set_self (by omega)
/-- a slot gets data -/
theorem Rep.setD {i : Nat} {d : D} {v : V} (x : Rep E B G H σ ρ) (h : Den E G d v) : Rep E B G H (σ.set i (some v)) (ρ.set i (some (.dat d))) := by
  refine ⟨by rw [List.length_set, List.length_set]; exact x.len, fun j lv e => ?_, fun j o l e e2 => ?_, fun j k o o' w ne e1 e2 e3 => ?_⟩
  · rcases get_set e with ⟨rfl, e'⟩ | ⟨ne, e⟩
    · cases e'
      have hj : j < σ.length := by
        have := (List.getElem?_eq_some_iff.mp e).1
        rw [List.length_set] at this
        rw [x.len]
        exact this
      exact ⟨v, List.getElem?_set_self hj, h⟩
    · obtain ⟨w, h1, h2⟩ := x.at_ j lv e
      exact ⟨w, by rw [List.getElem?_set_ne (Ne.symm ne)]; exact h1, h2⟩
  · rcases get_set e with ⟨_, e⟩ | ⟨ne, e⟩
    · cases e
    · rw [List.getElem?_set_ne (Ne.symm ne)] at e2
      exact x.new j o l e e2
  · rcases get_set e1 with ⟨_, e1⟩ | ⟨n1, e1⟩
    · cases e1
    · rcases get_set e2 with ⟨_, e2⟩ | ⟨n2, e2⟩
      · cases e2
      · rw [List.getElem?_set_ne (Ne.symm n1)] at e3
        rw [List.getElem?_set_ne (Ne.symm n2)]
        exact x.sep j k o o' w ne e1 e2 e3
/-- a slot is forgotten (σ may hold anything there) -/
theorem Rep.setN {i : Nat} {w : Option V} (x : Rep E B G H σ ρ) : Rep E B G H (σ.set i w) (ρ.set i none) := by
  refine ⟨by rw [List.length_set, List.length_set]; exact x.len, fun j lv e => ?_, fun j o l e e2 => ?_, fun j k o o' w ne e1 e2 e3 => ?_⟩
  · rcases get_set e with ⟨_, e⟩ | ⟨ne, e⟩
    · cases e
    · obtain ⟨w, h1, h2⟩ := x.at_ j lv e
      exact ⟨w, by rw [List.getElem?_set_ne (Ne.symm ne)]; exact h1, h2⟩
  · rcases get_set e with ⟨_, e⟩ | ⟨ne, e⟩
    · cases e
    · rw [List.getElem?_set_ne (Ne.symm ne)] at e2
      exact x.new j o l e e2
  · rcases get_set e1 with ⟨_, e1⟩ | ⟨n1, e1⟩
    · cases e1
    · rcases get_set e2 with ⟨_, e2⟩ | ⟨n2, e2⟩
      · cases e2
      · rw [List.getElem?_set_ne (Ne.symm n1)] at e3
        rw [List.getElem?_set_ne (Ne.symm n2)]
        exact x.sep j k o o' w ne e1 e2 e3
/-- a slot gets a new object: no slot's own object stands there -/
theorem Rep.setO {i : Nat} {o : OV} {l : Addr} (x : Rep E B G H σ ρ) (hb : B l = none) (hg : G l = none) (h : DenO E G H l o) (hf : ∀ (j : Nat) (o' : OV), j ≠ i → ρ[j]? = some (some (.own o')) → σ[j]? ≠ some (some (.ref l))) :
    Rep E B G H (σ.set i (some (.ref l))) (ρ.set i (some (.own o))) := by
  refine ⟨by rw [List.length_set, List.length_set]; exact x.len, fun j lv e => ?_, fun j o' l' e e2 => ?_, fun j k o1 o2 w ne e1 e2 e3 => ?_⟩
  · rcases get_set e with ⟨rfl, e'⟩ | ⟨ne, e⟩
    · cases e'
      have hj : j < σ.length := by
        have := (List.getElem?_eq_some_iff.mp e).1
        rw [List.length_set] at this
        rw [x.len]
        exact this
      exact ⟨_, List.getElem?_set_self hj, l, rfl, hg, h⟩
    · obtain ⟨w, h1, h2⟩ := x.at_ j lv e
      exact ⟨w, by rw [List.getElem?_set_ne (Ne.symm ne)]; exact h1, h2⟩
  · rcases get_set e with ⟨rfl, e⟩ | ⟨ne, e⟩
    · rcases get_set e2 with ⟨_, e2⟩ | ⟨ne, _⟩
      · cases e2
        exact hb
      · exact absurd rfl ne
    · rw [List.getElem?_set_ne (Ne.symm ne)] at e2
      exact x.new j o' l' e e2
  · rcases get_set e1 with ⟨rfl, e1⟩ | ⟨n1, e1⟩
    · rcases get_set e3 with ⟨_, e3⟩ | ⟨n3, _⟩
      · cases e3
        rcases get_set e2 with ⟨e, _⟩ | ⟨n2, e2⟩
        · exact absurd e.symm ne
        · rw [List.getElem?_set_ne (Ne.symm n2)]
          exact hf k o2 n2 e2
      · exact absurd rfl n3
    · rw [List.getElem?_set_ne (Ne.symm n1)] at e3
      rcases get_set e2 with ⟨ek, _⟩ | ⟨n2, e2⟩
      · intro z
        rcases get_set z with ⟨_, z⟩ | ⟨nz, _⟩
        · cases z
          exact hf j o1 n1 e1 e3
        · exact absurd ek nz
      · rw [List.getElem?_set_ne (Ne.symm n2)]
        exact x.sep j k o1 o2 w ne e1 e2 e3
/-- no slot's own object is one that the heap does not hold -/
theorem Rep.fresh {l : Addr} (x : Rep E B G H σ ρ) (hl : H l = none) (j : Nat) (o : OV) (e : ρ[j]? = some (some (.own o))) : σ[j]? ≠ some (some (.ref l)) := fun z => by
  obtain ⟨v, h1, l', h2, h3, h4⟩ := x.at_ j _ e
  rw [z] at h1
  cases h1
  cases h2
  exact h4.there hl
/-- a slot's own object changes: the others stand -/
theorem Rep.write {i : Nat} {o o' : OV} {l : Addr} {u : HO} (x : Rep E B G H σ ρ) (ei : ρ[i]? = some (some (.own o))) (es : σ[i]? = some (some (.ref l))) (hi : Ex G H) (hd : DenO E G (upd H l u) l o') :
    Rep E B G (upd H l u) σ (ρ.set i (some (.own o'))) := by
  obtain ⟨v, h1, l', h2, hg, h4⟩ := x.at_ i _ ei
  rw [es] at h1
  cases h1
  cases h2
  have hiρ := (List.getElem?_eq_some_iff.mp ei).1
  refine ⟨by rw [List.length_set]; exact x.len, fun j lv e => ?_, fun j o1 l' e e2 => ?_, fun j k o1 o2 w ne e1 e2 e3 => ?_⟩
  · rcases get_set e with ⟨rfl, e'⟩ | ⟨ne, e⟩
    · cases e'
      exact ⟨_, es, l, rfl, hg, hd⟩
    · obtain ⟨w, h1, h2⟩ := x.at_ j lv e
      refine ⟨w, h1, ?_⟩
      cases lv with
      | dat d => exact h2
      | own o1 =>
        obtain ⟨l1, k1, k2, k3⟩ := h2
        subst k1
        have hne : l1 ≠ l := fun z => by
          subst z
          exact x.sep j i o1 o _ ne e ei h1 es
        refine ⟨l1, rfl, k2, ?_⟩
        cases o1 with
        | l ds => obtain ⟨vs, q1, q2⟩ := k3; exact ⟨vs, by rw [upd_ne hne]; exact q1, q2⟩
        | tT ks ds => obtain ⟨vs, q1, q2⟩ := k3; exact ⟨vs, by rw [upd_ne hne]; exact q1, q2⟩
        | tK ks ds => obtain ⟨vs, q1, q2⟩ := k3; exact ⟨vs, by rw [upd_ne hne]; exact q1, q2⟩
  · rcases get_set e with ⟨rfl, e⟩ | ⟨ne, e⟩
    · exact x.new j o l' ei e2
    · exact x.new j o1 l' e e2
  · rcases get_set e1 with ⟨ej, _⟩ | ⟨n1, e1⟩
    · rcases get_set e2 with ⟨e, _⟩ | ⟨n2, e2⟩
      · exact absurd (ej.trans e.symm) ne
      · exact x.sep j k o o2 w ne (ej ▸ ei) e2 e3
    · rcases get_set e2 with ⟨ek, _⟩ | ⟨n2, e2⟩
      · exact x.sep j k o1 o w ne e1 (ek ▸ ei) e3
      · exact x.sep j k o1 o2 w ne e1 e2 e3
/-- a slot's own object is frozen -/
theorem Rep.frz {i : Nat} {o : OV} (x : Rep E B G H σ ρ) (hi : Ex G H) (ei : ρ[i]? = some (some (.own o))) : ∃ G', Ex G G' ∧ Ex G' H ∧ (∀ b, G b = none → B b ≠ none → G' b = none) ∧ Rep E B G' H σ (ρ.set i (some (.dat o.d))) := by
  obtain ⟨v, h1, l, h2, hg, h4⟩ := x.at_ i _ ei
  subst h2
  obtain ⟨u, k1, k2, k3, k4⟩ := h4.frz hi hg
  have hB := x.new i o l ei h1
  refine ⟨upd G l u, k2, k3, fun b h hb => ?_, by rw [List.length_set]; exact x.len, fun j lv e => ?_, fun j o1 l' e e2 => ?_, fun j k o1 o2 w ne e1 e2 e3 => ?_⟩
  · have hne : b ≠ l := fun z => hb (by rw [z]; exact hB)
    rw [upd_ne hne]
    exact h
  · rcases get_set e with ⟨rfl, e'⟩ | ⟨ne, e⟩
    · cases e'
      exact ⟨_, h1, k4⟩
    · obtain ⟨w, q1, q2⟩ := x.at_ j lv e
      refine ⟨w, q1, ?_⟩
      cases lv with
      | dat d => exact Den.mono k2 d w q2
      | own o1 =>
        obtain ⟨l1, r1, r2, r3⟩ := q2
        subst r1
        have hne : l1 ≠ l := fun z => by
          subst z
          exact x.sep j i o1 o _ ne e ei q1 h1
        exact ⟨l1, rfl, by rw [upd_ne hne]; exact r2, r3.mono k2 (Ex.refl _)⟩
  · rcases get_set e with ⟨_, e⟩ | ⟨ne, e⟩
    · cases e
    · exact x.new j o1 l' e e2
  · rcases get_set e1 with ⟨_, e1⟩ | ⟨n1, e1⟩
    · cases e1
    · rcases get_set e2 with ⟨_, e2⟩ | ⟨n2, e2⟩
      · cases e2
      · exact x.sep j k o1 o2 w ne e1 e2 e3
end
end DE

set_option Elab.async false
set_option linter.all false
set_option maxRecDepth 100000
set_option maxHeartbeats 4000000
/-! DE2: a body as a plain tree (IE, IS), what it gives by data (evE, runB), and that it is the tree of the text (ckE, ckB). -/
namespace DE
open PySem L2

inductive BOp where | add | sub | mul | fdiv | mod | pow
  deriving DecidableEq
def BOp.py : BOp → Operator
  | .add => .Add | .sub => .Sub | .mul => .Mult | .fdiv => .FloorDiv | .mod => .Mod | .pow => .Pow
inductive COp where | lt | le | gt | ge | eq | ne | isin | notin | is_ | isnt
  deriving DecidableEq
def COp.py : COp → CmpOp
  | .lt => .Lt | .le => .LtE | .gt => .Gt | .ge => .GtE | .eq => .Eq | .ne => .NotEq | .isin => .In | .notin => .NotIn | .is_ => .Is | .isnt => .IsNot
inductive Bi where | len | abs | int | tup | lst | sorted | min | max | sum | all | any
  deriving DecidableEq
/-- a class in isinstance -/
inductive Cl where | int | bool | str | tup | lst | dict | own (c : Str)
/-- a target -/
inductive Tg where | n (i : Nat) | t (is : List Nat)

mutual
inductive IE where
  | var (i : Nat) | int (n : Int) | str (s : Str) | bl (b : Bool) | non
  | bin (o : BOp) (a b : IE) | neg (a : IE)
  | cmp (o : COp) (a b : IE) | chain (o o' : COp) (a b c : IE)
  | andd (as : IA) | orr (as : IA) | nott (a : IE) | ife (c a b : IE)
  | tup (as : IA) | lst (as : IA) | dictT | dictK
  | ix (a i : IE) | dix (a i : IE) | sl (a : IE) (lo hi : IO)
  | call (j : Nat) (as : IA) | bi (b : Bi) (as : IA)
  | get (d k x : IE) | attr (a : IE) (n : Str) | isi (a : IE) (c : Cl)
  | lc (elt : IE) (tg : Tg) (src : ISrc) (ifs : IO)
inductive IA where
  | nil | cons (a : IE) (r : IA)
inductive IO where
  | no | so (a : IE)
inductive ISrc where
  | it (a : IE) | range (as : IA)
end
mutual
inductive IS where
  | asg (i : Nat) (e : IE) | asgT (is : List Nat) (e : IE)
  | setL (i : Nat) (k e : IE) | setD (i : Nat) (k e : IE) | app (i : Nat) (e : IE)
  | expr (e : IE) | iff (c : IE) (a b : IB)
  | forr (tg : Tg) (src : ISrc) (b : IB) | whil (c : IE) (b : IB)
  | ret (e : IE) | retV (i : Nat) | retN
  | rais (c : Str) (as : IA)
  | tri (b : IB) (c : Str) (i : Nat) (s : IB)
  | brk | cnt | pas
inductive IB where
  | nil | cons (s : IS) (r : IB) | frz (i : Nat) (r : IB)
end

/-! ### values -/
/-- an error: its class, its fields (the newest first) -/
structure Er where
  c : Str
  ns : List Str
  fs : List D
abbrev Ans (α : Type) := Option (Except Er α)
abbrev EvR := Ans RV
def bindR {α β : Type} (x : Ans α) (k : α → Ans β) : Ans β :=
  match x with
  | none => none
  | some (.error e) => some (.error e)
  | some (.ok a) => k a
def okR {α : Type} (a : α) : Ans α := some (.ok a)
/-- stuck, or an answer -/
def optR {α : Type} (x : Option α) : Ans α :=
  match x with
  | none => none
  | some a => some (.ok a)
/-- a def: its name, how many arguments it takes, what it gives -/
structure Fn where
  name : Str
  n : Nat
  m : List D → EvR
structure Cfg where
  T : List Fn
  /-- the defs that are called while an error is handled -/
  H : List Fn
  isa : Str → Str → Option Bool
  /-- the error that a class's maker makes -/
  mkE : Str → Option (List D → Option Er)
  /-- the fields of a class's errors -/
  fld : Str → Str → Bool
  fuel : Nat
def Cfg.hot (C : Cfg) : Cfg := { C with T := C.H }

def small (i : Int) : Bool := decide (-(2 ^ 64) < i) && decide (i < 2 ^ 64)
/-- the list that a value is -/
def lstV : RV → Option (List D)
  | .dat (.lst ds) => some ds
  | .fr (.l ds) => some ds
  | .br (.l ds) => some ds
  | _ => none
def isBr : RV → Bool
  | .br _ => true
  | _ => false
def scalD : D → Bool
  | .non => true | .bl _ => true | .int _ => true | .str _ => true | _ => false
def scalR : RV → Bool
  | .dat d => scalD d
  | _ => false
/-- as an item of something new: a slot's own object may not go there -/
def toD : RV → Option D
  | .dat d => some d
  | .fr o => some o.d
  | .br _ => none
def toDs : List RV → Option (List D)
  | [] => some []
  | r :: rs => match toD r, toDs rs with
    | some d, some ds => some (d :: ds)
    | _, _ => none
def addV (x y : RV) : Option RV :=
  match x, y with
  | .dat (.int i), .dat (.int j) => some (.dat (.int (i + j)))
  | .dat (.str a), .dat (.str b) => if a.length + b.length ≤ 16777216 then some (.dat (.str (a ++ b))) else none
  | .dat (.tup a), .dat (.tup b) => if a.length + b.length ≤ 16777216 then some (.dat (.tup (a ++ b))) else none
  | x, y => match lstV x, lstV y with
    | some a, some b => if a.length + b.length ≤ 16777216 then some (.fr (.l (a ++ b))) else none
    | _, _ => none
def subV (x y : RV) : Option RV :=
  match x, y with
  | .dat (.int i), .dat (.int j) => some (.dat (.int (i - j)))
  | _, _ => none
def mulV (x y : RV) : Option RV :=
  match x, y with
  | .dat (.int i), .dat (.int j) => if small i = true ∨ small j = true then some (.dat (.int (i * j))) else none
  | _, _ => none
def fdivV (x y : RV) : Option RV :=
  match x, y with
  | .dat (.int i), .dat (.int j) => if j ≠ 0 ∧ j.natAbs < 1073741824 then some (.dat (.int (i.fdiv j))) else none
  | _, _ => none
def modV (x y : RV) : Option RV :=
  match x, y with
  | .dat (.int i), .dat (.int j) => if j ≠ 0 then some (.dat (.int (i.fmod j))) else none
  | _, _ => none
def powV (x y : RV) : Option RV :=
  match x, y with
  | .dat (.int i), .dat (.int j) => if 0 ≤ j ∧ j ≤ 1000000 ∧ i.natAbs < 2 ^ 64 then some (.dat (.int (i ^ j.toNat))) else none
  | _, _ => none
def binV (o : BOp) (x y : RV) : Option RV :=
  match o with
  | .add => addV x y
  | .sub => subV x y
  | .mul => mulV x y
  | .fdiv => fdivV x y
  | .mod => modV x y
  | .pow => powV x y
def truD : D → Option Bool
  | .non => some false
  | .bl b => some b
  | .int i => some (i != 0)
  | .str s => if s.length ≤ 16777216 then some ((s.length : Int) != 0) else none
  | .tup ds => some (!ds.isEmpty)
  | .lst ds => some (!ds.isEmpty)
  | .dicK ks _ => some (!ks.isEmpty)
  | _ => none
def truV (r : RV) : Option Bool := truD r.d


/-- as the library's data -/
def keyD : Key → D
  | .inl i => .int i
  | .inr x => .str x
def keyP : Key → PyData
  | .inl i => .int i
  | .inr x => .str x
mutual
def pyD : D → PyData
  | .non => .none
  | .bl b => .bool b
  | .int i => .int i
  | .str s => .str s
  | .tup xs => .tuple (pyDs xs)
  | .lst xs => .list (pyDs xs)
  | .dicT _ _ => .none
  | .dicK _ _ => .none
  | .exc _ _ _ => .none
def pyDs : List D → List PyData
  | [] => []
  | x :: xs => pyD x :: pyDs xs
end
mutual
/-- data that can be compared: no dict, no error, at most n deep -/
def okD : D → Nat → Bool
  | .non, _ => true
  | .bl _, _ => true
  | .int _, _ => true
  | .str s, _ => PyData.strOk s
  | .tup xs, n => match n with
    | 0 => false
    | n + 1 => okDs xs n
  | .lst xs, n => match n with
    | 0 => false
    | n + 1 => okDs xs n
  | _, _ => false
def okDs : List D → Nat → Bool
  | [], _ => true
  | x :: xs, n => okD x n && okDs xs n
end
def eqV (x y : D) : Option Bool :=
  match x, y with
  | .int i, .int j => some (decide (i = j))
  | .str a, .str b => some (decide (a = b))
  | x, y => if okD x 60 = true ∧ okD y 60 = true then some (PyData.eqv (pyD x) (pyD y)) else none
def ltD (x y : D) : Option Bool :=
  match x, y with
  | .int i, .int j => some (decide (i < j))
  | .non, _ => none
  | x, y => if okD x 60 = true ∧ okD y 60 = true ∧ PySem.W.alike (pyD x) (pyD y) = true then some (PySem.W.dataLt (pyD x) (pyD y)) else none
/-- the items of a list or a tuple -/
def seqV : RV → Option (List D)
  | .dat (.lst ds) => some ds
  | .dat (.tup ds) => some ds
  | .fr (.l ds) => some ds
  | .br (.l ds) => some ds
  | _ => none
def keysT : RV → Option (List (List Key))
  | .dat (.dicT ks _) => some ks
  | .fr (.tT ks _) => some ks
  | .br (.tT ks _) => some ks
  | _ => none
def keysK : RV → Option (List Key)
  | .dat (.dicK ks _) => some ks
  | .fr (.tK ks _) => some ks
  | .br (.tK ks _) => some ks
  | _ => none
def valsT : RV → List D
  | .dat (.dicT _ vs) => vs
  | .fr (.tT _ vs) => vs
  | .br (.tT _ vs) => vs
  | _ => []
def valsK : RV → List D
  | .dat (.dicK _ vs) => vs
  | .fr (.tK _ vs) => vs
  | .br (.tK _ vs) => vs
  | _ => []
def keyOf : D → Option Key
  | .int i => some (.inl i)
  | .str s => some (.inr s)
  | _ => none
def keysOf : List D → Option (List Key)
  | [] => some []
  | d :: ds => match keyOf d, keysOf ds with
    | some k, some ks => some (k :: ks)
    | _, _ => none
def tkeyOf : D → Option (List Key)
  | .tup ds => keysOf ds
  | _ => none
def tkeyD (k : List Key) : D := .tup (k.map keyD)
def dget {κ : Type} [DecidableEq κ] : List κ → List D → κ → Option D
  | k' :: ks, v :: vs, k => if k' = k then some v else dget ks vs k
  | _, _, _ => none
def dputV {κ : Type} [DecidableEq κ] : List κ → List D → κ → D → List D
  | k' :: ks, v :: vs, k, d => (if k' = k then d else v) :: dputV ks vs k d
  | _, _, _, _ => []
def hasK {κ : Type} [DecidableEq κ] : List κ → κ → Bool
  | [], _ => false
  | k' :: ks, k => decide (k' = k) || hasK ks k
/-- d[k] of a dict: found, or not there; none: no such question -/
def dictV (d : RV) (k : D) : Option (Option D) :=
  match keysT d, tkeyOf k with
  | some ks, some q => some (dget ks (valsT d) q)
  | _, _ => match keysK d, keyOf k with
    | some ks, some q => some (dget ks (valsK d) q)
    | _, _ => none
def leV (x y : RV) : Option Bool :=
  match x, y with
  | .dat (.int i), .dat (.int j) => some (decide (i ≤ j))
  | _, _ => none
def gtV (x y : RV) : Option Bool :=
  match x, y with
  | .dat (.int i), .dat (.int j) => some (decide (j < i))
  | _, _ => none
def geV (x y : RV) : Option Bool :=
  match x, y with
  | .dat (.int i), .dat (.int j) => some (decide (j ≤ i))
  | _, _ => none
def isNonV : RV → Bool
  | .dat .non => true
  | _ => false
def isV (x y : RV) : Option Bool :=
  match y with
  | .dat .non => some (isNonV x)
  | .dat (.bl b) => match x with
    | .dat (.bl a) => some (decide (a = b))
    | _ => none
  | _ => none
def notV (b : Option Bool) : Option Bool :=
  match b with
  | some b => some (!b)
  | none => none
def intsD : List D → Option (List Int)
  | [] => some []
  | .int i :: r => match intsD r with
    | some ns => some (i :: ns)
    | none => none
  | _ => none
def strsD : List D → Option (List Str)
  | [] => some []
  | .str i :: r => match strsD r with
    | some ns => some (i :: ns)
    | none => none
  | _ => none
def blsD : List D → Option (List Bool)
  | [] => some []
  | .bl i :: r => match blsD r with
    | some ns => some (i :: ns)
    | none => none
  | _ => none
/-- x in a sequence of numbers, of texts -/
def inL (x : D) (ds : List D) : Option Bool :=
  match x with
  | .int i => match intsD ds with
    | some ns => some (ns.any fun j => decide (j = i))
    | none => none
  | .str z => match strsD ds with
    | some ns => some (ns.any fun j => decide (j = z))
    | none => none
  | _ => none
def inW (x y : RV) : Option Bool :=
  match x with
  | .dat d => match seqV y with
    | some ds => inL d ds
    | none => none
  | _ => none
def lstI (x : RV) : Option (List Int) :=
  match lstV x with
  | some ds => intsD ds
  | none => none
def lstB (x : RV) : Option (List Bool) :=
  match lstV x with
  | some ds => blsD ds
  | none => none
def sumV (x : RV) : Option RV :=
  match lstI x with
  | some ns => some (.dat (.int ns.sum))
  | none => none
def maxV (x : RV) : Option RV :=
  match lstI x with
  | some (n :: ns) => some (.dat (.int (ns.foldl max n)))
  | _ => none
def minV (x : RV) : Option RV :=
  match lstI x with
  | some (n :: ns) => some (.dat (.int (ns.foldl min n)))
  | _ => none
def anyV (x : RV) : Option RV :=
  match lstB x with
  | some bs => some (.dat (.bl (bs.any id)))
  | none => none
def allV (x : RV) : Option RV :=
  match lstB x with
  | some bs => some (.dat (.bl (bs.all id)))
  | none => none
def cmpV (o : COp) (x y : RV) : Option Bool :=
  match o with
  | .lt => ltD x.d y.d
  | .gt => gtV x y
  | .le => leV x y
  | .ge => geV x y
  | .eq => eqV x.d y.d
  | .ne => notV (eqV x.d y.d)
  | .isin => inW x y
  | .notin => notV (inW x y)
  | .is_ => isV x y
  | .isnt => notV (isV x y)
def blR (b : Option Bool) : Option RV :=
  match b with
  | some b => some (.dat (.bl b))
  | none => none
def ixV (x i : RV) : Option RV :=
  match i with
  | .dat (.int i) => match seqV x with
    | some ds => match atI ds i with
      | some d => some (.dat d)
      | none => none
    | none => match x with
      | .dat (.str z) => if z.length ≤ 16777216 then (match atI z.cps.toList i with
        | some c => some (.dat (.str ⟨#[c]⟩))
        | none => none) else none
      | _ => none
  | _ => none
/-- d[k] of a dict -/
def dixV (x k : RV) : Option RV :=
  match k with
  | .dat k => match dictV x k with
    | some (some d) => some (.dat d)
    | _ => none
  | _ => none
def cutD (ds : List D) (lo hi : Option Int) : List D := (ds.drop (HT.sIx ds.length 0 lo)).take (HT.sIx ds.length ds.length hi - HT.sIx ds.length 0 lo)
def slV (x : RV) (lo hi : Option Int) : Option RV :=
  match x with
  | .dat (.tup ds) => some (.dat (.tup (cutD ds lo hi)))
  | .dat (.str z) => if z.length ≤ 16777216 then some (.dat (.str (cutS z lo hi))) else none
  | x => match lstV x with
    | some ds => some (.fr (.l (cutD ds lo hi)))
    | none => none
def sumD : List D → Option Int
  | [] => some 0
  | .int i :: r => match sumD r with
    | some s => some (i + s)
    | none => none
  | _ => none
/-- a sort of like items -/
def allB (p : D → Bool) : List D → Bool
  | [] => true
  | x :: xs => p x && allB p xs
def alikeD (x y : D) : Bool := PySem.W.alike (pyD x) (pyD y)
def sortOk (ds : List D) : Bool :=
  okDs ds 60 && allB (fun x => allB (fun y => alikeD x y) ds) ds &&
    (allB (fun x => match x with | .tup (_ :: _) => true | _ => false) ds || allB (fun x => match x with | .tup _ => false | .non => false | _ => true) ds)
def sortD (ds : List D) : List D := ds.mergeSort fun a b => !PySem.W.dataLt (pyD b) (pyD a)
def biV (b : Bi) (rs : List RV) : Option RV :=
  match b, rs with
  | .len, [x] => match seqV x with
    | some ds => some (.dat (.int ds.length))
    | none => match x with
      | .dat (.str z) => if z.length ≤ 16777216 then some (.dat (.int z.length)) else none
      | x => match keysK x with
        | some ks => some (.dat (.int ks.length))
        | none => match keysT x with
          | some ks => some (.dat (.int ks.length))
          | none => none
  | .abs, [.dat (.int i)] => some (.dat (.int (if i < 0 then -i else i)))
  | .int, [.dat (.int i)] => some (.dat (.int i))
  | .int, [.dat (.bl b)] => some (.dat (.int (if b then 1 else 0)))
  | .tup, [.dat (.tup ds)] => some (.dat (.tup ds))
  | .tup, [x] => match lstV x with
    | some ds => some (.dat (.tup ds))
    | none => none
  | .lst, [x] => match seqV x with
    | some ds => some (.fr (.l ds))
    | none => none
  | .sorted, [x] => match keysT x with
    | some ks => if sortOk (ks.map tkeyD) = true then some (.fr (.l (sortD (ks.map tkeyD)))) else none
    | none => match lstV x with
      | some ds => if sortOk ds = true then some (.fr (.l (sortD ds))) else none
      | none => none
  | .sum, [x] => sumV x
  | .max, [x] => maxV x
  | .min, [x] => minV x
  | .any, [x] => anyV x
  | .all, [x] => allV x
  | _, _ => none
def isDic : RV → Bool
  | .dat (.dicT _ _) => true | .dat (.dicK _ _) => true
  | .fr (.tT _ _) => true | .fr (.tK _ _) => true
  | .br (.tT _ _) => true | .br (.tK _ _) => true
  | _ => false
/-- x[i], a sequence or a dict -/
def ixW (x i : RV) : Option RV :=
  match isDic x with
  | true => dixV x i
  | false => ixV x i
def dicV (d : RV) : Option RV :=
  match isDic d with
  | true => some d
  | false => none
def getV (d k x : RV) : Option RV :=
  match k, x with
  | .dat k, .dat x => match dictV d k with
    | some (some v) => some (.dat v)
    | some none => some (.dat x)
    | none => none
  | _, _ => none
def fldD : List Str → List D → Str → Option D
  | n :: ns, d :: ds, f => if f = n then some d else fldD ns ds f
  | _, _, _ => none
def attrV (fld : Str → Str → Bool) (x : RV) (f : Str) : Option RV :=
  match x with
  | .dat (.exc c ns fs) => if fld c f = true then (match fldD ns fs f with
    | some d => some (.dat d)
    | none => none) else none
  | _ => none
/-- the type of data -/
inductive Ty where | non | bool | int | str | tup | lst | dict
def tyD : D → Option Ty
  | .non => some .non
  | .bl _ => some .bool
  | .int _ => some .int
  | .str _ => some .str
  | .tup _ => some .tup
  | .lst _ => some .lst
  | .dicT _ _ => some .dict
  | .dicK _ _ => some .dict
  | .exc _ _ _ => none
def isTy : Ty → Cl → Option Bool
  | .non, .int => some false | .non, .bool => some false | .non, .str => some false | .non, .tup => some false | .non, .lst => some false | .non, .dict => some false
  | .bool, .int => some true | .bool, .bool => some true | .bool, .str => some false | .bool, .tup => some false | .bool, .lst => some false | .bool, .dict => some false
  | .int, .int => some true | .int, .bool => some false | .int, .str => some false | .int, .tup => some false | .int, .lst => some false | .int, .dict => some false
  | .str, .int => some false | .str, .bool => some false | .str, .str => some true | .str, .tup => some false | .str, .lst => some false | .str, .dict => some false
  | .tup, .int => some false | .tup, .bool => some false | .tup, .str => some false | .tup, .tup => some true | .tup, .lst => some false | .tup, .dict => some false
  | .lst, .int => some false | .lst, .bool => some false | .lst, .str => some false | .lst, .tup => some false | .lst, .lst => some true | .lst, .dict => some false
  | .dict, .int => some false | .dict, .bool => some false | .dict, .str => some false | .dict, .tup => some false | .dict, .lst => some false | .dict, .dict => some true
  | _, .own _ => none
def isiV (isa : Str → Str → Option Bool) (x : RV) (c : Cl) : Option Bool :=
  match tyD x.d with
  | some t => isTy t c
  | none => match x.d, c with
    | .exc k _ _, .own c => isa k c
    | _, _ => none
mutual
/-- no list, no dict, no error within -/
def flatD : D → Bool
  | .non => true | .bl _ => true | .int _ => true | .str _ => true
  | .tup ds => flatDs ds
  | _ => false
def flatDs : List D → Bool
  | [] => true
  | d :: ds => flatD d && flatDs ds
end
def flatO : OV → Bool
  | .l ds => flatDs ds
  | .tT _ ds => flatDs ds
  | .tK _ ds => flatDs ds
def flatR : RV → Bool
  | .dat d => flatD d
  | .fr o => flatO o
  | .br _ => false
def anyBr : List RV → Bool
  | [] => false
  | r :: rs => isBr r || anyBr rs
def callV (fn : Fn) (rs : List RV) : EvR :=
  if rs.length = fn.n then
    match fn.m (rs.map RV.d) with
    | none => none
    | some (.error e) => if anyBr rs = true ∧ flatDs e.fs = false then none else some (.error e)
    | some (.ok r) => if isBr r = true ∨ (anyBr rs = true ∧ flatR r = false) then none else some (.ok r)
  else none
def setT : List Nat → List D → Rho → Option Rho
  | [], [], ρ => some ρ
  | i :: is, d :: ds, ρ => setT is ds (ρ.set i (some (.dat d)))
  | _, _, _ => none
def setG (g : Tg) (d : D) (ρ : Rho) : Option Rho :=
  match g with
  | .n i => some (ρ.set i (some (.dat d)))
  | .t is => match d with
    | .tup ds => setT is ds ρ
    | _ => none
def ints62 (i : Int) : Bool := decide (-(2 ^ 62) ≤ i) && decide (i < 2 ^ 62)
def rangeD (lo : Int) : Nat → List D
  | 0 => []
  | n + 1 => .int lo :: rangeD (lo + 1) n
def rangeV : List RV → Option (List D)
  | [.dat (.int n)] => if ints62 n = true then some (rangeD 0 n.toNat) else none
  | [.dat (.int a), .dat (.int b)] => if ints62 a = true ∧ ints62 b = true then some (rangeD a (b - a).toNat) else none
  | _ => none
def szV (ds : List D) : Option (List D) := if ds.length ≤ 16777216 then some ds else none
/-- the items of a comprehension -/
def compL (step : D → Ans (Option D)) : List D → Ans (List D)
  | [] => some (.ok [])
  | d :: ds => match step d with
    | some (.ok o) => match compL step ds with
      | some (.ok r) => some (.ok (match o with | some x => x :: r | none => r))
      | _ => none
    | _ => none

mutual
def evE (C : Cfg) : IE → Rho → EvR
  | .var i, ρ => match ρ[i]? with
    | some (some (.dat d)) => some (.ok (.dat d))
    | some (some (.own o)) => some (.ok (.br o))
    | _ => none
  | .int n, _ => some (.ok (.dat (.int n)))
  | .str s, _ => some (.ok (.dat (.str s)))
  | .bl b, _ => some (.ok (.dat (.bl b)))
  | .non, _ => some (.ok (.dat .non))
  | .bin o a b, ρ => bindR (evE C a ρ) fun x => bindR (evE C b ρ) fun y => optR (binV o x y)
  | .neg a, ρ => bindR (evE C a ρ) fun x => match x with
    | .dat (.int i) => some (.ok (.dat (.int (-i))))
    | _ => none
  | .cmp o a b, ρ => bindR (evE C a ρ) fun x => bindR (evE C b ρ) fun y => optR (blR (cmpV o x y))
  | .chain o o' a b c, ρ => bindR (evE C a ρ) fun x => bindR (evE C b ρ) fun y => bindR (optR (cmpV o x y)) fun k =>
    match k with
    | true => bindR (evE C c ρ) fun z => optR (blR (cmpV o' y z))
    | false => some (.ok (.dat (.bl false)))
  | .andd as, ρ => evAnd C as ρ
  | .orr as, ρ => evOr C as ρ
  | .nott a, ρ => bindR (evE C a ρ) fun x => match x with
    | .dat (.bl b) => some (.ok (.dat (.bl (!b))))
    | _ => none
  | .ife c a b, ρ => bindR (evT C c ρ) fun k => match k with
    | true => evE C a ρ
    | false => evE C b ρ
  | .tup as, ρ => bindR (evA C as ρ) fun rs => match toDs rs with
    | some ds => some (.ok (.dat (.tup ds)))
    | none => none
  | .lst as, ρ => bindR (evA C as ρ) fun rs => match toDs rs with
    | some ds => some (.ok (.fr (.l ds)))
    | none => none
  | .dictT, _ => some (.ok (.fr (.tT [] [])))
  | .dictK, _ => some (.ok (.fr (.tK [] [])))
  | .ix a i, ρ => bindR (evE C a ρ) fun x => bindR (evE C i ρ) fun y => optR (ixW x y)
  | .dix a i, ρ => bindR (evE C a ρ) fun x => bindR (evE C i ρ) fun y => optR (dixV x y)
  | .sl a lo hi, ρ => bindR (evE C a ρ) fun x => bindR (evO C lo ρ) fun l => bindR (evO C hi ρ) fun u => optR (slV x l u)
  | .call j as, ρ => bindR (evA C as ρ) fun rs => match C.T[j]? with
    | some fn => callV fn rs
    | none => none
  | .bi b as, ρ => bindR (evA C as ρ) fun rs => optR (biV b rs)
  | .get d k x, ρ => bindR (evE C d ρ) fun d => bindR (optR (dicV d)) fun d => bindR (evE C k ρ) fun k => bindR (evE C x ρ) fun x => optR (getV d k x)
  | .attr a f, ρ => bindR (evE C a ρ) fun x => optR (attrV C.fld x f)
  | .isi a c, ρ => bindR (evE C a ρ) fun x => optR (blR (isiV C.isa x c))
  | .lc elt g src ifs, ρ => bindR (evSrc C src ρ) fun ds => bindR (optR (szV ds)) fun ds => bindR (compL (fun d => match setG g d ρ with
      | some ρ' => bindR (evIf C ifs ρ') fun k => match k with
        | true => bindR (evE C elt ρ') fun x => match toD x with
          | some y => some (.ok (some y))
          | none => none
        | false => some (.ok none)
      | none => none) ds) fun rs => some (.ok (.fr (.l rs)))
def evAnd (C : Cfg) : IA → Rho → EvR
  | .nil, _ => none
  | .cons a .nil, ρ => evE C a ρ
  | .cons a (.cons b r), ρ => bindR (evE C a ρ) fun x => match x with
    | .dat (.bl true) => evAnd C (.cons b r) ρ
    | .dat (.bl false) => some (.ok (.dat (.bl false)))
    | _ => none
def evOr (C : Cfg) : IA → Rho → EvR
  | .nil, _ => none
  | .cons a .nil, ρ => evE C a ρ
  | .cons a (.cons b r), ρ => bindR (evE C a ρ) fun x => match x with
    | .dat (.bl false) => evOr C (.cons b r) ρ
    | .dat (.bl true) => some (.ok (.dat (.bl true)))
    | _ => none
def evA (C : Cfg) : IA → Rho → Ans (List RV)
  | .nil, _ => some (.ok [])
  | .cons a r, ρ => bindR (evE C a ρ) fun x => bindR (evA C r ρ) fun rs => some (.ok (x :: rs))
def evO (C : Cfg) : IO → Rho → Ans (Option Int)
  | .no, _ => some (.ok none)
  | .so a, ρ => bindR (evE C a ρ) fun x => match x with
    | .dat (.int i) => some (.ok (some i))
    | _ => none
def evIf (C : Cfg) : IO → Rho → Ans Bool
  | .no, _ => some (.ok true)
  | .so a, ρ => evT C a ρ
def evSrc (C : Cfg) : ISrc → Rho → Ans (List D)
  | .it a, ρ => bindR (evE C a ρ) fun x => optR (seqV x)
  | .range as, ρ => bindR (evA C as ρ) fun rs => optR (rangeV rs)
/-- as a test -/
def evT (C : Cfg) : IE → Rho → Ans Bool
  | .andd as, ρ => evAndT C as ρ
  | .orr as, ρ => evOrT C as ρ
  | .nott a, ρ => bindR (evT C a ρ) fun k => some (.ok (!k))
  | .cmp o a b, ρ => bindR (evE C a ρ) fun x => bindR (evE C b ρ) fun y => optR (cmpV o x y)
  | .var i, ρ => bindR (evE C (.var i) ρ) fun x => optR (truV x)
  | .bl b, ρ => bindR (evE C (.bl b) ρ) fun x => optR (truV x)
  | .chain o o' a b c, ρ => bindR (evE C a ρ) fun x => bindR (evE C b ρ) fun y => bindR (optR (cmpV o x y)) fun k =>
    match k with
    | true => bindR (evE C c ρ) fun z => optR (cmpV o' y z)
    | false => some (.ok false)
  | .call j as, ρ => bindR (bindR (evA C as ρ) fun rs => match C.T[j]? with
    | some fn => callV fn rs
    | none => none) fun x => optR (truV x)
  | .isi a c, ρ => bindR (evE C a ρ) fun x => optR (isiV C.isa x c)
  | .ix a i, ρ => bindR (bindR (evE C a ρ) fun x => bindR (evE C i ρ) fun y => optR (ixW x y)) fun x => optR (truV x)
  | _, _ => none
def evAndT (C : Cfg) : IA → Rho → Ans Bool
  | .nil, _ => none
  | .cons a .nil, ρ => evT C a ρ
  | .cons a (.cons b r), ρ => bindR (evT C a ρ) fun k => match k with
    | true => evAndT C (.cons b r) ρ
    | false => some (.ok false)
def evOrT (C : Cfg) : IA → Rho → Ans Bool
  | .nil, _ => none
  | .cons a .nil, ρ => evT C a ρ
  | .cons a (.cons b r), ρ => bindR (evT C a ρ) fun k => match k with
    | false => evOrT C (.cons b r) ρ
    | true => some (.ok true)
end
end DE

set_option Elab.async false
set_option linter.all false
set_option maxRecDepth 100000
set_option maxHeartbeats 4000000
/-! DE2b: statements by data (runS, runB), and the look that a tree is the text's (ckE, ckB). -/
namespace DE
open PySem L2

inductive SO where
  | nx (ρ : Rho) | bk (ρ : Rho) | ct (ρ : Rho) | rt (r : RV) | er (e : Er) (ρ : Rho)
abbrev SR := Option SO
def liftS {α : Type} (x : Ans α) (ρ : Rho) (k : α → SR) : SR :=
  match x with
  | none => none
  | some (.error e) => some (.er e ρ)
  | some (.ok a) => k a
def forL (step : D → Rho → SR) : List D → Rho → SR
  | [], ρ => some (.nx ρ)
  | d :: ds, ρ => match step d ρ with
    | some (.nx ρ') => forL step ds ρ'
    | some (.ct ρ') => forL step ds ρ'
    | some (.bk ρ') => some (.nx ρ')
    | some (.rt r) => some (.rt r)
    | some (.er e ρ') => some (.er e ρ')
    | none => none
def whileL (test : Rho → Ans Bool) (body : Rho → SR) : Nat → Rho → SR
  | 0, _ => none
  | n + 1, ρ => liftS (test ρ) ρ fun k => match k with
    | false => some (.nx ρ)
    | true => match body ρ with
      | some (.nx ρ') => whileL test body n ρ'
      | some (.ct ρ') => whileL test body n ρ'
      | some (.bk ρ') => some (.nx ρ')
      | some (.rt r) => some (.rt r)
      | some (.er e ρ') => some (.er e ρ')
      | none => none
mutual
def noExc : D → Bool
  | .exc _ _ _ => false
  | .tup ds => noExcs ds
  | .lst ds => noExcs ds
  | .dicT _ ds => noExcs ds
  | .dicK _ ds => noExcs ds
  | _ => true
def noExcs : List D → Bool
  | [] => true
  | d :: ds => noExc d && noExcs ds
end
def noExcO : OV → Bool
  | .l ds => noExcs ds
  | .tT _ ds => noExcs ds
  | .tK _ ds => noExcs ds
def noExcL : Option LV → Bool
  | some (.dat d) => noExc d
  | some (.own o) => noExcO o
  | none => true
def noExcV : RV → Bool
  | .dat d => noExc d
  | .fr o => noExcO o
  | .br o => noExcO o
def noExcR : Rho → Bool
  | [] => true
  | l :: r => noExcL l && noExcR r
/-- behind an except suite: its name goes, no other slot holds the error -/
def endS (i : Nat) : SR → SR
  | some (.nx ρ) => if noExcR (ρ.set i none) = true then some (.nx (ρ.set i none)) else none
  | some (.bk ρ) => if noExcR (ρ.set i none) = true then some (.bk (ρ.set i none)) else none
  | some (.ct ρ) => if noExcR (ρ.set i none) = true then some (.ct (ρ.set i none)) else none
  | some (.rt r) => if noExcV r = true then some (.rt r) else none
  | _ => none
def Tg.slots : Tg → List Nat
  | .n i => [i]
  | .t is => is
mutual
/-- the slots that a statement sets or whose objects it changes -/
def tchS : IS → List Nat
  | .asg i _ => [i]
  | .asgT is _ => is
  | .setL i _ _ => [i]
  | .setD i _ _ => [i]
  | .app i _ => [i]
  | .iff _ a b => tchB a ++ tchB b
  | .forr g _ b => g.slots ++ tchB b
  | .whil _ b => tchB b
  | .tri b _ i s => i :: (tchB b ++ tchB s)
  | _ => []
def tchB : IB → List Nat
  | .nil => []
  | .cons s r => tchS s ++ tchB r
  | .frz i r => i :: tchB r
end
/-- what a for walks: data, a new list, a slot's own list that its body leaves alone -/
def evFor (C : Cfg) (src : ISrc) (vs : List Nat) (ρ : Rho) : Ans (List D) :=
  match src with
  | .it a => bindR (evE C a ρ) fun x => match isBr x with
    | false => optR (seqV x)
    | true => match a with
      | .var j => match vs.contains j with
        | false => optR (seqV x)
        | true => none
      | _ => none
  | .range as => evSrc C (.range as) ρ
def erS (f : List D → Option Er) (rs : List RV) (ρ : Rho) : SR :=
  match toDs rs with
  | some ds => match f ds with
    | some e => some (.er e ρ)
    | none => none
  | none => none
def putL (i : Nat) (ρ : Rho) (d : D) (ds : List D) (j : RV) : SR :=
  match j with
  | .dat (.int j) => match ixN ds.length j with
    | some n => some (.nx (ρ.set i (some (.own (.l (ds.set n d))))))
    | none => none
  | _ => none
def putD (i : Nat) (ρ : Rho) (d : D) (o : OV) (j : RV) : SR :=
  match o, j with
  | .tT ks vs, .dat k => match tkeyOf k with
    | some q => if ks.length < 16777216 then
        some (.nx (ρ.set i (some (.own (if hasK ks q = true then .tT ks (dputV ks vs q d) else .tT (ks ++ [q]) (vs ++ [d])))))) else none
    | none => none
  | .tK ks vs, .dat k => match keyOf k with
    | some q => if ks.length < 16777216 then
        some (.nx (ρ.set i (some (.own (if hasK ks q = true then .tK ks (dputV ks vs q d) else .tK (ks ++ [q]) (vs ++ [d])))))) else none
    | none => none
  | _, _ => none
def putX (i : Nat) (ρ : Rho) (d : D) (o : OV) (j : RV) : SR :=
  match o with
  | .l ds => putL i ρ d ds j
  | o => putD i ρ d o j
mutual
def runS (C : Cfg) : IS → Rho → SR
  | .asg i e, ρ => liftS (evE C e ρ) ρ fun r => match r with
    | .dat d => some (.nx (ρ.set i (some (.dat d))))
    | .fr o => some (.nx (ρ.set i (some (.own o))))
    | .br _ => none
  | .asgT is e, ρ => liftS (evE C e ρ) ρ fun r => match r with
    | .dat (.tup ds) => match setT is ds ρ with
      | some ρ' => some (.nx ρ')
      | none => none
    | _ => none
  | .setL i k e, ρ => liftS (evE C e ρ) ρ fun r => match toD r, ρ[i]? with
    | some d, some (some (.own o)) => liftS (evE C k ρ) ρ fun j => putX i ρ d o j
    | _, _ => none
  | .setD i k e, ρ => liftS (evE C e ρ) ρ fun r => match toD r, ρ[i]? with
    | some d, some (some (.own o)) => liftS (evE C k ρ) ρ fun j => putD i ρ d o j
    | _, _ => none
  | .app i e, ρ => match ρ[i]? with
    | some (some (.own (.l ds))) => liftS (evE C e ρ) ρ fun r => match toD r with
      | some d => if ds.length < 16777216 then some (.nx (ρ.set i (some (.own (.l (ds ++ [d])))))) else none
      | none => none
    | _ => none
  | .expr e, ρ => liftS (evE C e ρ) ρ fun _ => some (.nx ρ)
  | .iff c a b, ρ => liftS (evT C c ρ) ρ fun k => match k with
    | true => runB C a ρ
    | false => runB C b ρ
  | .forr g src b, ρ => liftS (evFor C src (g.slots ++ tchB b) ρ) ρ fun ds => forL (fun d ρ => match setG g d ρ with
      | some ρ' => runB C b ρ'
      | none => none) ds ρ
  | .whil c b, ρ => whileL (evT C c) (runB C b) C.fuel ρ
  | .ret e, ρ => liftS (evE C e ρ) ρ fun r => match r with
    | .br _ => none
    | r => some (.rt r)
  | .retV i, ρ => match ρ[i]? with
    | some (some (.dat d)) => some (.rt (.dat d))
    | some (some (.own o)) => some (.rt (.fr o))
    | _ => none
  | .retN, _ => some (.rt (.dat .non))
  | .rais c as, ρ => match C.mkE c with
    | some f => liftS (evA C as ρ) ρ fun rs => erS f rs ρ
    | none => none
  | .tri b c i s, ρ => match runB C b ρ with
    | some (.er e ρ') => match C.isa e.c c with
      | some true => endS i (runB C.hot s (ρ'.set i (some (.dat (.exc e.c e.ns e.fs)))))
      | some false => some (.er e ρ')
      | none => none
    | r => r
  | .brk, ρ => some (.bk ρ)
  | .cnt, ρ => some (.ct ρ)
  | .pas, ρ => some (.nx ρ)
def runB (C : Cfg) : IB → Rho → SR
  | .nil, ρ => some (.nx ρ)
  | .cons s r, ρ => match runS C s ρ with
    | some (.nx ρ') => runB C r ρ'
    | o => o
  | .frz i r, ρ => match ρ[i]? with
    | some (some (.own o)) => runB C r (ρ.set i (some (.dat o.d)))
    | _ => runB C r ρ
end
/-- a def by its body -/
def mkFn (C : Cfg) (name : Str) (n m : Nat) (b : IB) : Fn where
  name := name
  n := n
  m := fun ds => match runB C b (ds.map (fun d => some (.dat d)) ++ List.replicate (m - n) none) with
    | some (.nx _) => some (.ok (.dat .non))
    | some (.rt r) => some (.ok r)
    | some (.er e _) => some (.error e)
    | _ => none

/-! ### the look -/
/-- what asks a calm place -/
def calmBi (h : Bool) : Bi → Bool
  | .len => true
  | .abs => true
  | .int => true
  | .tup => true
  | .lst => true
  | _ => !h
def visB (sc : Scope) (x : Str) : Bool := match sc.names.lookup x with
  | some .local => true
  | some .cell => true
  | some .free => true
  | _ => false
def locB (sc : Scope) (x : Str) : Bool := match sc.names.lookup x with
  | some .local => true
  | some .cell => true
  | _ => false
def nmB (N : List Str) (sc : Scope) (i : Nat) (x : Str) : Bool := decide (N[i]? = some x) && visB sc x && !(x == ("__debug__" : Str)) && !(x == ("__classdict__" : Str))
def tgB (N : List Str) (sc : Scope) (i : Nat) (x : Str) : Bool := decide (N[i]? = some x) && locB sc x
def glB (sc : Scope) (x : Str) : Bool := decide (sc.names.lookup x = some .globalImplicit) && !(x == ("__debug__" : Str)) && !(x == ("__name__" : Str))
def notStar : Expr → Bool
  | .Starred _ _ => false
  | _ => true
def Bi.nm : Bi → Str
  | .len => "len" | .abs => "abs" | .int => "int" | .tup => "tuple" | .lst => "list" | .sorted => "sorted" | .min => "min" | .max => "max" | .sum => "sum" | .all => "all" | .any => "any"
def Cl.nm : Cl → Str
  | .int => "int" | .bool => "bool" | .str => "str" | .tup => "tuple" | .lst => "list" | .dict => "dict" | .own c => c
def tgsB (N : List Str) (sc : Scope) : List Nat → List Expr → Bool
  | [], [] => true
  | i :: is, .Name x _ :: es => tgB N sc i x && tgsB N sc is es
  | _, _ => false
def ckG (N : List Str) (sc : Scope) : Tg → Expr → Bool
  | .n i, .Name x _ => tgB N sc i x
  | .t is, .Tuple es _ _ => tgsB N sc is es
  | _, _ => false
def ownOf (N : List Str) : List Nat → List (Str × Nat)
  | [] => []
  | i :: is => (N.getD i "", i) :: ownOf N is
mutual
def ckE (N : List Str) (C : Cfg) (h : Bool) (sc : Scope) : IE → Expr → Bool
  | .var i, .Name x _ => nmB N sc i x
  | .int n, .Constant (.int m) _ _ => decide (n = m)
  | .str s, .Constant (.str z) _ _ => decide (s = z)
  | .bl b, .Constant (.bool c) _ _ => b == c
  | .non, .Constant .none _ _ => true
  | .bin o a b, .BinOp x p y _ => decide (o.py = p) && ckE N C h sc a x && ckE N C h sc b y
  | .neg a, .UnaryOp .USub x _ => ckE N C h sc a x
  | .cmp o a b, .Compare x [p] [y] _ => decide (o.py = p) && ckE N C h sc a x && ckE N C h sc b y
  | .chain o o' a b c, .Compare x [p, p'] [y, z] _ => decide (o.py = p) && decide (o'.py = p') && ckE N C h sc a x && ckE N C h sc b y && ckE N C h sc c z
  | .andd as, .BoolOp .And es _ => ckA N C h sc as es
  | .orr as, .BoolOp .Or es _ => ckA N C h sc as es
  | .nott a, .UnaryOp .Not x _ => ckE N C h sc a x
  | .ife c a b, .IfExp x y z _ => ckE N C h sc c x && ckE N C h sc a y && ckE N C h sc b z
  | .tup as, .Tuple es _ _ => decide (es.length ≤ 1000) && ckA N C h sc as es
  | .lst as, .List es _ => decide (es.length ≤ 1000) && ckA N C h sc as es
  | .dictT, .Dict [] [] _ => true
  | .dictK, .Dict [] [] _ => true
  | .ix a i, .Subscript x y _ => ckE N C h sc a x && ckE N C h sc i y
  | .dix a i, .Subscript x y _ => ckE N C h sc a x && ckE N C h sc i y
  | .sl a lo hi, .Subscript x (.Slice l u none _) _ => ckE N C h sc a x && ckO N C h sc lo l && ckO N C h sc hi u
  | .call j (.cons a as), .Call (.Name x _) (e :: es) [] _ => glB sc x && decide ((C.T[j]?).map (·.name) = some x) && ckE N C h sc a e && ckA N C h sc as es
  | .bi b (.cons a as), .Call (.Name x _) (e :: es) [] _ => calmBi h b && glB sc x && decide (b.nm = x) && ckE N C h sc a e && ckA N C h sc as es
  | .get d k z, .Call (.Attribute o n ap) [e, f] [] cp => decide (n = "get") && (ap.endLine == cp.line) && ckE N C h sc d o && ckE N C h sc k e && ckE N C h sc z f
  | .attr a n, .Attribute o m _ => decide (n = m) && ckE N C h sc a o
  | .isi a c, .Call (.Name x _) [e, .Name y _] [] _ => glB sc x && decide (x = "isinstance") && ckE N C h sc a e && glB sc y && decide (c.nm = y)
  | .lc elt g src ifs, .ListComp el [⟨tg, it, fs, asy⟩] scope _ => decide (asy = 0) && !h && ckSrc N C h sc src it && blkC N sc scope (ownOf N g.slots) && ckG N scope g tg && ckIf N C h (relS scope sc) ifs fs && ckE N C h (relS scope sc) elt el
  | _, _ => false
def ckA (N : List Str) (C : Cfg) (h : Bool) (sc : Scope) : IA → List Expr → Bool
  | .nil, [] => true
  | .cons a r, e :: es => ckE N C h sc a e && ckA N C h sc r es
  | _, _ => false
def ckO (N : List Str) (C : Cfg) (h : Bool) (sc : Scope) : IO → Option Expr → Bool
  | .no, none => true
  | .so a, some e => ckE N C h sc a e
  | _, _ => false
def ckIf (N : List Str) (C : Cfg) (h : Bool) (sc : Scope) : IO → List Expr → Bool
  | .no, [] => true
  | .so a, [e] => ckE N C h sc a e
  | _, _ => false
def ckSrc (N : List Str) (C : Cfg) (h : Bool) (sc : Scope) : ISrc → Expr → Bool
  | .it a, e => ckE N C h sc a e
  | .range (.cons a .nil), .Call (.Name x _) [e] [] _ => glB sc x && decide (x = "range") && ckE N C h sc a e
  | .range (.cons a (.cons b .nil)), .Call (.Name x _) [e, f] [] _ => glB sc x && decide (x = "range") && ckE N C h sc a e && ckE N C h sc b f
  | _, _ => false
end
def notComp : Expr → Bool
  | .ListComp _ _ _ _ => false
  | .SetComp _ _ _ _ => false
  | .DictComp _ _ _ _ _ => false
  | _ => true
/-- the list comprehension's own way of a store -/
def swapB (sc : Scope) (x : Str) (px : Pos) : Expr → Bool
  | .ListComp _ _ scope pos => decide (sc.names.lookup x = some .local) && (px.line == pos.line) && !(scope.names.any fun (n, k) => n == x && (k == .local || k == .cell))
  | _ => false
/-! #### views of a statement -/
def vName : Stmt → Option (Str × Pos × Expr)
  | .Assign [.Name x p] v _ => some (x, p, v)
  | _ => none
def vTup : Stmt → Option (List Expr × Expr)
  | .Assign [.Tuple es _ _] v _ => some (es, v)
  | _ => none
def vSub : Stmt → Option (Str × Expr × Expr)
  | .Assign [.Subscript (.Name x _) y _] v _ => some (x, y, v)
  | _ => none
def vApp : Stmt → Option (Str × Str × Pos × Expr × Pos)
  | .Expr (.Call (.Attribute (.Name x _) m ap) [v] [] cp) _ => some (x, m, ap, v, cp)
  | _ => none
def vExpr : Stmt → Option Expr
  | .Expr v _ => some v
  | _ => none
def vIf : Stmt → Option (Expr × List Stmt × List Stmt)
  | .If x a b _ => some (x, a, b)
  | _ => none
def vFor : Stmt → Option (Expr × Expr × List Stmt)
  | .For tg it s [] _ => some (tg, it, s)
  | _ => none
def vWhile : Stmt → Option (Expr × List Stmt)
  | .While x s [] _ => some (x, s)
  | _ => none
def vRet : Stmt → Option (Option Expr)
  | .Return v _ => some v
  | _ => none
def vRetN : Stmt → Option Str
  | .Return (some (.Name x _)) _ => some x
  | _ => none
def vRais : Stmt → Option (Str × List Expr)
  | .Raise (some (.Call (.Name x _) es [] _)) none _ => some (x, es)
  | _ => none
def vTry : Stmt → Option (List Stmt × Str × Str × Stmt × List Stmt)
  | .Try body [.ExceptHandler (some (.Name x _)) (some n) (s0 :: st) _] [] [] _ => some (body, x, n, s0, st)
  | _ => none
def vBrk : Stmt → Bool
  | .Break _ => true
  | _ => false
def vCnt : Stmt → Bool
  | .Continue _ => true
  | _ => false
def vPas : Stmt → Bool
  | .Pass _ => true
  | _ => false
def isTup : Expr → Bool
  | .Tuple _ _ _ => true
  | _ => false
theorem vName_eq {st : Stmt} {x : Str} {p : Pos} {v : Expr} (h : vName st = some (x, p, v)) : ∃ q, st = .Assign [.Name x p] v q := by
  unfold vName at h
  split at h
  · cases h; exact ⟨_, rfl⟩
  · cases h
theorem vTup_eq {st : Stmt} {es : List Expr} {v : Expr} (h : vTup st = some (es, v)) : ∃ a b q, st = .Assign [.Tuple es a b] v q := by
  unfold vTup at h
  split at h
  · cases h; exact ⟨_, _, _, rfl⟩
  · cases h
theorem vSub_eq {st : Stmt} {x : Str} {y v : Expr} (h : vSub st = some (x, y, v)) : ∃ a b q, st = .Assign [.Subscript (.Name x a) y b] v q := by
  unfold vSub at h
  split at h
  · cases h; exact ⟨_, _, _, rfl⟩
  · cases h
theorem vApp_eq {st : Stmt} {x m : Str} {ap cp : Pos} {v : Expr} (h : vApp st = some (x, m, ap, v, cp)) : ∃ a q, st = .Expr (.Call (.Attribute (.Name x a) m ap) [v] [] cp) q := by
  unfold vApp at h
  split at h
  · cases h; exact ⟨_, _, rfl⟩
  · cases h
theorem vExpr_eq {st : Stmt} {v : Expr} (h : vExpr st = some v) : ∃ q, st = .Expr v q := by
  unfold vExpr at h
  split at h
  · cases h; exact ⟨_, rfl⟩
  · cases h
theorem vIf_eq {st : Stmt} {x : Expr} {a b : List Stmt} (h : vIf st = some (x, a, b)) : ∃ q, st = .If x a b q := by
  unfold vIf at h
  split at h
  · cases h; exact ⟨_, rfl⟩
  · cases h
theorem vFor_eq {st : Stmt} {x y : Expr} {a : List Stmt} (h : vFor st = some (x, y, a)) : ∃ q, st = .For x y a [] q := by
  unfold vFor at h
  split at h
  · cases h; exact ⟨_, rfl⟩
  · cases h
theorem vWhile_eq {st : Stmt} {x : Expr} {a : List Stmt} (h : vWhile st = some (x, a)) : ∃ q, st = .While x a [] q := by
  unfold vWhile at h
  split at h
  · cases h; exact ⟨_, rfl⟩
  · cases h
theorem vRet_eq {st : Stmt} {x : Option Expr} (h : vRet st = some x) : ∃ q, st = .Return x q := by
  unfold vRet at h
  split at h
  · cases h; exact ⟨_, rfl⟩
  · cases h
theorem vRetN_eq {st : Stmt} {x : Str} (h : vRetN st = some x) : ∃ p q, st = .Return (some (.Name x p)) q := by
  unfold vRetN at h
  split at h
  · cases h; exact ⟨_, _, rfl⟩
  · cases h
theorem vRais_eq {st : Stmt} {x : Str} {es : List Expr} (h : vRais st = some (x, es)) : ∃ a b q, st = .Raise (some (.Call (.Name x a) es [] b)) none q := by
  unfold vRais at h
  split at h
  · cases h; exact ⟨_, _, _, rfl⟩
  · cases h
theorem vTry_eq {st : Stmt} {body r : List Stmt} {x n : Str} {s0 : Stmt} (h : vTry st = some (body, x, n, s0, r)) : ∃ a b q, st = .Try body [.ExceptHandler (some (.Name x a)) (some n) (s0 :: r) b] [] [] q := by
  unfold vTry at h
  split at h
  · cases h; exact ⟨_, _, _, rfl⟩
  · cases h
theorem vBrk_eq {st : Stmt} (h : vBrk st = true) : ∃ q, st = .Break q := by
  unfold vBrk at h
  split at h
  · exact ⟨_, rfl⟩
  · cases h
theorem vCnt_eq {st : Stmt} (h : vCnt st = true) : ∃ q, st = .Continue q := by
  unfold vCnt at h
  split at h
  · exact ⟨_, rfl⟩
  · cases h
theorem vPas_eq {st : Stmt} (h : vPas st = true) : ∃ q, st = .Pass q := by
  unfold vPas at h
  split at h
  · exact ⟨_, rfl⟩
  · cases h
mutual
def ckS (N : List Str) (C : Cfg) (h : Bool) (sc : Scope) : IS → Stmt → Bool
  | .asg i e, st => match vName st with
    | some (x, px, v) => tgB N sc i x && ckE N C h sc e v && (notComp v || swapB sc x px v)
    | none => false
  | .asgT is e, st => match vTup st with
    | some (es, v) => !h && tgsB N sc is es && ckE N C h sc e v && notComp v && !isTup v
    | none => false
  | .setL i k e, st => match vSub st with
    | some (x, y, v) => nmB N sc i x && ckE N C h sc k y && ckE N C h sc e v && notComp v
    | none => false
  | .setD i k e, st => match vSub st with
    | some (x, y, v) => nmB N sc i x && ckE N C h sc k y && ckE N C h sc e v && notComp v
    | none => false
  | .app i e, st => match vApp st with
    | some (x, m, ap, v, cp) => nmB N sc i x && decide (m = "append") && (ap.endLine == cp.line) && ckE N C h sc e v
    | none => false
  | .expr e, st => match vExpr st with
    | some v => ckE N C h sc e v && notComp v
    | none => false
  | .iff c a b, st => match vIf st with
    | some (x, s, t) => ckE N C h sc c x && ckB N C h sc a s && ckB N C h sc b t
    | none => false
  | .forr g src b, st => match vFor st with
    | some (tg, it, s) => !h && ckG N sc g tg && ckSrc N C h sc src it && ckB N C h sc b s
    | none => false
  | .whil c b, st => match vWhile st with
    | some (x, s) => ckE N C h sc c x && ckB N C h sc b s
    | none => false
  | .ret e, st => match vRet st with
    | some (some v) => ckE N C h sc e v
    | _ => false
  | .retV i, st => match vRetN st with
    | some x => nmB N sc i x
    | none => false
  | .retN, st => match vRet st with
    | some none => true
    | _ => false
  | .rais c as, st => match vRais st with
    | some (x, es) => !h && glB sc x && decide (c = x) && ckA N C h sc as es
    | none => false
  | .tri b c i s, st => match vTry st with
    | some (body, x, n, s0, r) => !h && decide (C.isa c c = some true) && ckB N C h sc b body && glB sc x && decide (c = x) && decide (N[i]? = some n) && decide (sc.names.lookup n = some .local) && ckB N C.hot true sc s (s0 :: r)
    | none => false
  | .brk, st => vBrk st
  | .cnt, st => vCnt st
  | .pas, st => vPas st
def ckB (N : List Str) (C : Cfg) (h : Bool) (sc : Scope) : IB → List Stmt → Bool
  | .nil, ts => ts.isEmpty
  | .cons s r, ts => match ts with
    | [] => false
    | t :: ts => ckS N C h sc s t && ckB N C h sc r ts
  | .frz _ r, ts => ckB N C h sc r ts
end
end DE

set_option Elab.async false
set_option linter.all false
set_option maxRecDepth 100000
set_option maxHeartbeats 4000000
/-! DE3: the readings by data (cE, cA, cT), how they are composed, and the rules by values. -/
namespace DE
open PySem PySem.Spec PyProof.Rows L2

/-- an error as the machine bears it: its class, its own dict -/
def DenX (E : En) (G : Hp) (e : Er) (cls : Value) (d : Option Addr) : Prop :=
  ∃ C dd fs, E.mg e.c = some (.ref C) ∧ cls = .ref C ∧ d = some dd ∧ G dd = some (.xd fs) ∧ fs.map (·.1) = e.ns ∧ Dens E G e.fs (fs.map (·.2))
def DenRs (E : En) (G H H0 : Hp) : List RV → List V → Prop
  | [], vs => vs = []
  | r :: rs, vs => ∃ v ws, vs = v :: ws ∧ DenR E G H H0 r v ∧ DenRs E G H H0 rs ws
section
variable {E : En} {G H G' H' H0 H1 : Hp}
theorem DenX.mono {e : Er} {cls : Value} {d : Option Addr} (g : Ex G G') (x : DenX E G e cls d) : DenX E G' e cls d := by
  obtain ⟨C, dd, fs, h1, h2, h3, h4, h5, h6⟩ := x
  exact ⟨C, dd, fs, h1, h2, h3, g _ _ h4, h5, Dens.mono g _ _ h6⟩
theorem DenRs.mono (r : Gr G H G' H') : ∀ {rs : List RV} {vs : List V}, DenRs E G H H0 rs vs → DenRs E G' H' H0 rs vs
  | [], _, h => h
  | _ :: _, _, ⟨v, ws, e, h1, h2⟩ => ⟨v, ws, e, h1.mono r, DenRs.mono r h2⟩
theorem DenRs.back (e : Ex H0 H1) : ∀ {rs : List RV} {vs : List V}, DenRs E G H H1 rs vs → DenRs E G H H0 rs vs
  | [], _, h => h
  | _ :: _, _, ⟨v, ws, q, h1, h2⟩ => ⟨v, ws, q, h1.back e, DenRs.back e h2⟩
theorem DenRs.length : ∀ {rs : List RV} {vs : List V}, DenRs E G H H0 rs vs → vs.length = rs.length
  | [], vs, h => by
    have e : vs = [] := h
    rw [e] <;> rfl
  | _ :: _, _, ⟨v, ws, q, h1, h2⟩ => by rw [q, List.length_cons, List.length_cons, DenRs.length h2]
end

/-! ### answers -/
/-- what is wanted of an answer: R of a value, W of an error -/
def QA {α : Type} (E : En) (W : WX) (σ : L2.St) (G H : Hp) (R : α → Hp → Hp → Prop) : Ans α → Prop
  | none => False
  | some (.error e) => ∀ cls d G' H', Gr G H G' H' → DenX E G' e cls d → W cls d σ H'
  | some (.ok a) => ∀ G' H', Gr G H G' H' → R a G' H'
section
variable {α β : Type} {E : En} {W : WX} {σ : L2.St} {G H G' H' : Hp} {R : α → Hp → Hp → Prop} {x : Ans α}
theorem QA.grow (r : Gr G H G' H') (h : QA E W σ G H R x) : QA E W σ G' H' R x := by
  cases x with
  | none => exact h
  | some y =>
    cases y with
    | error e => exact fun cls d G2 H2 r2 k => h cls d G2 H2 (r.trans r2) k
    | ok a => exact fun G2 H2 r2 => h G2 H2 (r.trans r2)
theorem QA.imp {R' : α → Hp → Hp → Prop} (h : QA E W σ G H R x) (k : ∀ a G' H', Gr G H G' H' → R a G' H' → R' a G' H') : QA E W σ G H R' x := by
  cases x with
  | none => exact h
  | some y =>
    cases y with
    | error e => exact h
    | ok a => exact fun G2 H2 r2 => k a G2 H2 r2 (h G2 H2 r2)
theorem QA.bind {S : β → Hp → Hp → Prop} {f : α → Ans β} (h : QA E W σ G H S (bindR x f)) : QA E W σ G H (fun a G' H' => QA E W σ G' H' S (f a)) x := by
  cases x with
  | none => exact h
  | some y =>
    cases y with
    | error e => exact h
    | ok a => exact fun G2 H2 r2 => QA.grow r2 (show QA E W σ G H S (f a) from h)
theorem QA.bind0 {S : β → Hp → Hp → Prop} {f : α → Ans β} (h : QA E W σ G H S (bindR x f)) : QA E W σ G H (fun a _ _ => QA E W σ G H S (f a)) x := by
  cases x with
  | none => exact h
  | some y =>
    cases y with
    | error e => exact h
    | ok a => exact fun G2 H2 r2 => h
theorem QA.opt {o : Option α} (h : QA E W σ G H R (optR o)) : ∃ a, o = some a ∧ ∀ G' H', Gr G H G' H' → R a G' H' := by
  cases o with
  | none => exact h.elim
  | some a => exact ⟨a, rfl, h⟩
theorem QA.ok {a : α} (h : QA E W σ G H R (some (.ok a))) : ∀ G' H', Gr G H G' H' → R a G' H' := h
end

/-! ### readings -/
def RE (E : En) (H : Hp) (Q : VK) : RV → Hp → Hp → Prop := fun r G' H' => ∀ v, DenR E G' H' H r v → Q v H'
def cE (E : En) (W : WX) (f : Rho → EvR) : TE := fun σ H Q => ∃ B ρ G, Ex G H ∧ Rep E B G H σ ρ ∧ QA E W σ G H (RE E H Q) (f ρ)
def cA (E : En) (W : WX) (f : Rho → Ans (List RV)) : TA := fun σ H Q => ∃ B ρ G, Ex G H ∧ Rep E B G H σ ρ ∧ QA E W σ G H (fun rs G' H' => ∀ vs, DenRs E G' H' H rs vs → Q vs H') (f ρ)
def cT (E : En) (W : WX) (f : Rho → Ans Bool) : TT := fun σ H Q => ∃ B ρ G, Ex G H ∧ Rep E B G H σ ρ ∧ QA E W σ G H (fun k _ H' => Q k H') (f ρ)
def cO (E : En) (W : WX) (f : Rho → Ans (Option Int)) : TO := fun σ H Q => ∃ B ρ G, Ex G H ∧ Rep E B G H σ ρ ∧ QA E W σ G H (fun o _ H' => Q o H') (f ρ)
section
variable {E : En} {W : WX} {σ : L2.St} {G H G' H' : Hp} {B : Hp} {ρ : Rho} {f g : Rho → EvR} {Q Q' : VK}
/-- the step: an expression, then what is wanted of its value -/
theorem cE_step {β : Type} {S : β → Hp → Hp → Prop} {k : RV → Ans β} (i : Ex G H) (r : Rep E B G H σ ρ) (h : QA E W σ G H S (bindR (f ρ) k))
    (c : ∀ v rv G1 H1, Gr G H G1 H1 → Rep E B G1 H1 σ ρ → DenR E G1 H1 H rv v → QA E W σ G1 H1 S (k rv) → Q v H1) : cE E W f σ H Q :=
  ⟨B, ρ, G, i, r, h.bind.imp fun rv G1 H1 g1 q v dv => c v rv G1 H1 g1 (r.mono g1) dv q⟩
theorem cA_step {f : Rho → Ans (List RV)} {Q : List V → Hp → Prop} {β : Type} {S : β → Hp → Hp → Prop} {k : List RV → Ans β} (i : Ex G H) (r : Rep E B G H σ ρ) (h : QA E W σ G H S (bindR (f ρ) k))
    (c : ∀ vs rs G1 H1, Gr G H G1 H1 → Rep E B G1 H1 σ ρ → DenRs E G1 H1 H rs vs → QA E W σ G1 H1 S (k rs) → Q vs H1) : cA E W f σ H Q :=
  ⟨B, ρ, G, i, r, h.bind.imp fun rv G1 H1 g1 q v dv => c v rv G1 H1 g1 (r.mono g1) dv q⟩
theorem cT_step {f : Rho → Ans Bool} {Q : Bool → Hp → Prop} {β : Type} {S : β → Hp → Hp → Prop} {k : Bool → Ans β} (i : Ex G H) (r : Rep E B G H σ ρ) (h : QA E W σ G H S (bindR (f ρ) k))
    (c : ∀ b G1 H1, Gr G H G1 H1 → Rep E B G1 H1 σ ρ → QA E W σ G1 H1 S (k b) → Q b H1) : cT E W f σ H Q :=
  ⟨B, ρ, G, i, r, h.bind.imp fun rv G1 H1 g1 q => c rv G1 H1 g1 (r.mono g1) q⟩
theorem cO_step {f : Rho → Ans (Option Int)} {Q : Option Int → Hp → Prop} {β : Type} {S : β → Hp → Hp → Prop} {k : Option Int → Ans β} (i : Ex G H) (r : Rep E B G H σ ρ) (h : QA E W σ G H S (bindR (f ρ) k))
    (c : ∀ b G1 H1, Gr G H G1 H1 → Rep E B G1 H1 σ ρ → QA E W σ G1 H1 S (k b) → Q b H1) : cO E W f σ H Q :=
  ⟨B, ρ, G, i, r, h.bind.imp fun rv G1 H1 g1 q => c rv G1 H1 g1 (r.mono g1) q⟩
end
section
variable {X : Cx}
theorem pe_imp {e : Expr} {t t' : TE} (h : PE X e t) (k : ∀ σ H Q, t' σ H Q → t σ H Q) : PE X e t' := ⟨fun pins s σ H Q I q => h.run pins s σ H Q I (k σ H Q q)⟩
theorem pt_imp {e : Expr} {t t' : TT} (h : PT X e t) (k : ∀ σ H Q, t' σ H Q → t σ H Q) : PT X e t' := ⟨fun pins s σ H Q I q => h.run pins s σ H Q I (k σ H Q q)⟩
theorem pw_imp {e : Expr} {t t' : TT} (h : PW X e t) (k : ∀ σ H Q, t' σ H Q → t σ H Q) : PW X e t' := ⟨fun wh pins s σ H Q I q => h.run wh pins s σ H Q I (k σ H Q q)⟩
theorem pa_imp {es : List Expr} {t t' : TA} (h : PA X es t) (k : ∀ σ H Q, t' σ H Q → t σ H Q) : PA X es t' := ⟨fun pos pins s σ H Q I q => h.run pos pins s σ H Q I (k σ H Q q)⟩
theorem ps_imp {st : Stmt} {t t' : TS} (h : PS X st t) (k : ∀ D σ H, t' D σ H → t D σ H) : PS X st t' := ⟨fun pins s σ H D I q => h.run pins s σ H D I (k D σ H q)⟩
theorem pss_imp {st : List Stmt} {t t' : TS} (h : PSs X st t) (k : ∀ D σ H, t' D σ H → t D σ H) : PSs X st t' := ⟨fun pins s σ H D I q => h.run pins s σ H D I (k D σ H q)⟩
end

/-! ### rules by values: what a rule asks, met by data -/
/-- r meets g: from the values' data -/
def Meets2 (E : En) (r : R2) (g : RV → RV → Option RV) : Prop := ∀ (G H H0 : Hp) (x y : RV) (v u : V) (z : RV) (Q : VK), Ex G H → DenR E G H H0 x v → DenR E G H H0 y u → g x y = some z →
  (∀ w G' H', Gr G H G' H' → DenR E G' H' H z w → Q w H') → r v u H Q
theorem cE_op2 {E : En} {W : WX} {f g : Rho → EvR} {r : R2} {o : RV → RV → Option RV} (m : Meets2 E r o) {σ : L2.St} {H : Hp} {Q : VK} (h : cE E W (fun ρ => bindR (f ρ) fun x => bindR (g ρ) fun y => optR (o x y)) σ H Q) :
    tOp r (cE E W f) (cE E W g) σ H Q := by
  obtain ⟨B, ρ, G, i, rp, h⟩ := h
  refine cE_step i rp h fun v x G1 H1 g1 r1 d1 h1 => ?_
  refine cE_step g1.i r1 h1 fun u y G2 H2 g2 r2 d2 h2 => ?_
  obtain ⟨z, e, k⟩ := h2.opt
  exact m G2 H2 H x y v u z Q g2.i (d1.mono g2) (d2.back g1.h) e fun w G' H' g3 dw => k G' H' g3 w (dw.back (g1.trans g2).h)
/-- where the answer is a truth value -/
def Meets2B (E : En) (r : R2) (g : RV → RV → Option Bool) : Prop := ∀ (G H H0 : Hp) (x y : RV) (v u : V) (z : Bool) (Q : VK), Ex G H → DenR E G H H0 x v → DenR E G H H0 y u → g x y = some z → Q (.bl z) H → r v u H Q
theorem Meets2B.to {E : En} {r : R2} {g : RV → RV → Option Bool} (m : Meets2B E r g) : Meets2 E r fun x y => blR (g x y) := fun G H H0 x y v u z Q i dx dy e k => by
  have e : blR (g x y) = some z := e
  cases q : g x y with
  | none => rw [q] at e; cases e
  | some b =>
    rw [q] at e
    cases e
    exact m G H H0 x y v u b Q i dx dy q (k _ G H (Gr.refl i) rfl)
theorem op_imp {X : Cx} {f : Value → Value → Sem Value} {r r' : R2} (h : OpR X f r) (k : ∀ x y H Q, r' x y H Q → r x y H Q) : OpR X f r' := fun pins s σ H x y v u Q I rx ry q => h pins s σ H x y v u Q I rx ry (k x y H Q q)
theorem or2 {X : Cx} {f : Value → Value → Sem Value} {r r' : R2} (h : OpR X f r) (h' : OpR X f r') : OpR X f (fun x y H Q => r x y H Q ∨ r' x y H Q) := fun pins s σ H x y v u Q I rx ry q => by
  rcases q with q | q
  · exact h pins s σ H x y v u Q I rx ry q
  · exact h' pins s σ H x y v u Q I rx ry q

theorem small_ok {i : Int} (h : small i = true) : -(2 ^ 64) < i ∧ i < 2 ^ 64 := by
  unfold small at h
  simpa using h
theorem line_eq : sizeLine = 16777216 := sizeLine_eq

/-! #### arithmetic -/
theorem DenR.dat_int {E : En} {G H H0 : Hp} {i : Int} {v : V} (h : DenR E G H H0 (.dat (.int i)) v) : v = .int i := h
theorem meets_sub {E : En} : Meets2 E (rI0 fun i j => .int (i - j)) subV := fun G H H0 x y v u z Q i dx dy e k => by
  unfold subV at e
  split at e
  · cases e
    exact ⟨_, _, dx, dy, k _ G H (Gr.refl i) rfl⟩
  · cases e
theorem meets_mul {E : En} : Meets2 E (rI CMul fun i j => .int (i * j)) mulV := fun G H H0 x y v u z Q i dx dy e k => by
  unfold mulV at e
  split at e
  · split at e
    · rename_i hs
      cases e
      exact ⟨_, _, dx, dy, hs.imp small_ok small_ok, k _ G H (Gr.refl i) rfl⟩
    · cases e
  · cases e
theorem meets_fdiv {E : En} : Meets2 E (rI CDivN fun i j => .int (i.fdiv j)) fdivV := fun G H H0 x y v u z Q i dx dy e k => by
  unfold fdivV at e
  split at e
  · split at e
    · rename_i hs
      cases e
      exact ⟨_, _, dx, dy, hs, k _ G H (Gr.refl i) rfl⟩
    · cases e
  · cases e
theorem meets_mod {E : En} : Meets2 E (rI (fun _ j => j ≠ 0) fun i j => .int (i.fmod j)) modV := fun G H H0 x y v u z Q i dx dy e k => by
  unfold modV at e
  split at e
  · split at e
    · rename_i hs
      cases e
      exact ⟨_, _, dx, dy, hs, k _ G H (Gr.refl i) rfl⟩
    · cases e
  · cases e
theorem meets_pow {E : En} : Meets2 E (rI CPow fun i j => .int (i ^ j.toNat)) powV := fun G H H0 x y v u z Q i dx dy e k => by
  unfold powV at e
  split at e
  · split at e
    · rename_i hs
      cases e
      exact ⟨_, _, dx, dy, hs, k _ G H (Gr.refl i) rfl⟩
    · cases e
  · cases e
/-- list + list, whatever they are -/
def rCatS (K : PySem.W.Frag) : R2 := fun x y H Q => ∃ l b xs zs, x = .ref l ∧ y = .ref b ∧ SqL K H l xs ∧ SqL K H b zs ∧ xs.length + zs.length ≤ sizeLine ∧ ∀ p, H p = none → Q (.ref p) (upd H p (.lst (xs ++ zs)))
end DE

set_option Elab.async false
set_option linter.all false
set_option maxRecDepth 100000
set_option maxHeartbeats 4000000
/-! DE4: the rules by values. -/
namespace DE
open PySem PySem.Spec PyProof.Rows L2
section
variable {E : En} {G H H0 : Hp}
/-! #### lists, tuples -/
theorem lstV_sq {x : RV} {ds : List D} {v : V} (i : Ex G H) (h : DenR E G H H0 x v) (e : lstV x = some ds) : ∃ a vs, v = .ref a ∧ SqL E.K H a vs ∧ Dens E G ds vs := by
  unfold lstV at e
  split at e
  · cases e
    obtain ⟨a, vs, h1, h2, h3⟩ := h
    exact ⟨a, vs, h1, i.sql h2, h3⟩
  · cases e
    obtain ⟨l, h1, _, _, vs, h2, h3⟩ := h
    exact ⟨l, vs, h1, .inl (.inl h2), h3⟩
  · cases e
    obtain ⟨l, h1, _, vs, h2, h3⟩ := h
    exact ⟨l, vs, h1, .inl (.inl h2), h3⟩
  · cases e
theorem seqV_sq {x : RV} {ds : List D} {v : V} (i : Ex G H) (h : DenR E G H H0 x v) (e : seqV x = some ds) : ∃ a vs, v = .ref a ∧ (SqL E.K H a vs ∨ SqT E.K H a vs) ∧ Dens E G ds vs := by
  unfold seqV at e
  split at e
  · cases e
    obtain ⟨a, vs, h1, h2, h3⟩ := h
    exact ⟨a, vs, h1, .inl (i.sql h2), h3⟩
  · cases e
    obtain ⟨a, vs, h1, h2, h3⟩ := h
    exact ⟨a, vs, h1, .inr (.inl (.inl (i _ _ h2))), h3⟩
  · cases e
    obtain ⟨l, h1, _, _, vs, h2, h3⟩ := h
    exact ⟨l, vs, h1, .inl (.inl (.inl h2)), h3⟩
  · cases e
    obtain ⟨l, h1, _, vs, h2, h3⟩ := h
    exact ⟨l, vs, h1, .inl (.inl (.inl h2)), h3⟩
  · cases e
/-- a new list's data -/
theorem newL {p : Addr} {vs : List V} {ds : List D} (i : Ex G H) (n : H p = none) (h : Dens E G ds vs) : DenR E G (upd H p (.lst vs)) H (.fr (.l ds)) (.ref p) :=
  ⟨p, rfl, n, i.free n, vs, upd_same, h⟩
theorem newT {p : Addr} {vs : List V} {ds : List D} (i : Ex G H) (n : H p = none) (h : Dens E G ds vs) : DenR E (upd G p (.tup vs)) (upd H p (.tup vs)) H (.dat (.tup ds)) (.ref p) :=
  ⟨p, vs, rfl, upd_same, Dens.mono (Ex.new (i.free n)) _ _ h⟩
end

/-- list + list, whatever they are -/
theorem op_catS {X : Cx} : OpR X (binaryOp .Add) (rCatS X.K) := by
  intro pins s σ H x y v u Q I rx ry h
  obtain ⟨l, b, xs, zs, rfl, rfl, hH, hB, hz, q⟩ := h
  cases rx
  cases ry
  obtain ⟨its, r, p1, z1⟩ := I.list hH
  obtain ⟨its2, r2, p2, z2⟩ := I.list hB
  obtain ⟨⟨cls, dd, data, sl⟩, ho, hc, n, hd⟩ := id p1.isList
  obtain ⟨⟨cls2, dd2, data2, sl2⟩, ho2, hc2, n2, hd2⟩ := id p2.isList
  simp only at hc hd hc2 hd2
  subst hc hd hc2 hd2
  have ea : its.toArray ++ its2.toArray = (its ++ its2).toArray := by simp
  have hl1 := r.length
  have hl2 := r2.length
  refine concat_meets ⟨_, ho, rfl⟩ ⟨_, ho2, rfl⟩ noFill_list_add seq_list_add PySem.F.slot_list_add PySem.F.entry_list_add (PySem.F.args_list_add_2 _ _) (list_addW l b its.toArray its2.toArray n n2 dd dd2 sl sl2 (by rw [List.size_toArray, List.size_toArray]; omega)) ⟨ho, ho2, ?_⟩
  rw [ea]
  exact ⟨.ref _, _, I.lnew (t' := s.toks) (r.append r2) (by rw [List.length_append]; omega), rfl, q _ I.fresh⟩
def rAdd (K : PySem.W.Frag) : R2 := fun x y H Q => rI0 (fun i j => .int (i + j)) x y H Q ∨ (∃ i j, x = .str i ∧ y = .str j ∧ i.length + j.length ≤ sizeLine ∧ Q (.str (i ++ j)) H) ∨ rCatA K x y H Q ∨ rCatS K x y H Q
theorem op_addX {X : Cx} : OpR X (binaryOp .Add) (rAdd X.K) := or2 op_add (or2 op_add_str (or2 op_catA op_catS))
theorem meets_add {E : En} : Meets2 E (rAdd E.K) addV := fun G H H0 x y v u z Q i dx dy e k => by
  unfold addV at e
  split at e
  · cases e
    exact .inl ⟨_, _, dx, dy, k _ G H (Gr.refl i) rfl⟩
  · split at e
    · rename_i hs
      cases e
      exact .inr (.inl ⟨_, _, dx, dy, by rw [line_eq]; exact hs, k _ G H (Gr.refl i) rfl⟩)
    · cases e
  · split at e
    · rename_i hs
      cases e
      obtain ⟨a, vs, h1, h2, h3⟩ := dx
      obtain ⟨b, ws, k1, k2, k3⟩ := dy
      refine .inr (.inr (.inl ⟨a, b, vs, ws, h1, k1, .inl (.inl (i _ _ h2)), .inl (.inl (i _ _ k2)), ?_, fun e0 => ?_, fun _ e1 => ?_, fun _ _ p hp => ?_⟩))
      · rw [h3.length, k3.length, line_eq]; exact hs
      · subst e0
        refine k _ G H (Gr.refl i) ⟨b, ws, rfl, k2, ?_⟩
        exact h3.append k3
      · subst e1
        refine k _ G H (Gr.refl i) ⟨a, vs, rfl, h2, ?_⟩
        have q := h3.append k3
        rw [List.append_nil] at q
        exact q
      · exact k _ _ _ (Gr.frozen i hp) (newT i hp (h3.append k3))
    · cases e
  · split at e
    · split at e
      · rename_i a b ea eb hs
        cases e
        obtain ⟨p, vs, h1, h2, h3⟩ := lstV_sq i dx ea
        obtain ⟨q, ws, k1, k2, k3⟩ := lstV_sq i dy eb
        refine .inr (.inr (.inr ⟨p, q, vs, ws, h1, k1, h2, k2, by rw [h3.length, k3.length, line_eq]; exact hs, fun l hl => ?_⟩))
        exact k _ G _ (Gr.loose i hl) (newL i hl (h3.append k3))
      · cases e
    · cases e

/-! #### == -/
section
variable {E : En} {G : Hp}
mutual
theorem okD_lay : ∀ (d : D) (n : Nat), okD d n = true → (pyD d).canLay0 = true ∧ (pyD d).depth ≤ n
  | .non, _, _ => ⟨rfl, Nat.zero_le _⟩
  | .bl _, _, _ => ⟨rfl, Nat.zero_le _⟩
  | .int _, _, _ => ⟨rfl, Nat.zero_le _⟩
  | .str _, _, h => ⟨h, Nat.zero_le _⟩
  | .tup ds, n, h => by
    cases n with
    | zero => exact nomatch h
    | succ n =>
      obtain ⟨h1, h2⟩ := okDs_lay ds n h
      exact ⟨h1, by show PyData.depthAll (pyDs ds) + 1 ≤ n + 1; omega⟩
  | .lst ds, n, h => by
    cases n with
    | zero => exact nomatch h
    | succ n =>
      obtain ⟨h1, h2⟩ := okDs_lay ds n h
      exact ⟨h1, by show PyData.depthAll (pyDs ds) + 1 ≤ n + 1; omega⟩
  | .dicT _ _, _, h => nomatch h
  | .dicK _ _, _, h => nomatch h
  | .exc _ _ _, _, h => nomatch h
theorem okDs_lay : ∀ (ds : List D) (n : Nat), okDs ds n = true → PyData.canLayAll0 (pyDs ds) = true ∧ PyData.depthAll (pyDs ds) ≤ n
  | [], _, _ => ⟨rfl, Nat.zero_le _⟩
  | d :: ds, n, h => by
    have h' : (okD d n && okDs ds n) = true := h
    rw [Bool.and_eq_true] at h'
    obtain ⟨a1, a2⟩ := okD_lay d n h'.1
    obtain ⟨b1, b2⟩ := okDs_lay ds n h'.2
    refine ⟨?_, ?_⟩
    · show ((pyD d).canLay0 && PyData.canLayAll0 (pyDs ds)) = true
      rw [a1, b1] <;> rfl
    · show max (pyD d).depth (PyData.depthAll (pyDs ds)) ≤ n
      omega
end
theorem okD_shaped {d : D} (h : okD d 60 = true) : SeqAt.shaped (pyD d) = true := by
  obtain ⟨h1, h2⟩ := okD_lay d 60 h
  show ((pyD d).canLay0 && decide ((pyD d).depth ≤ 64)) = true
  rw [h1, decide_eq_true (by omega)] <;> rfl
mutual
theorem Den.dp : ∀ (d : D) (n : Nat) (v : V), okD d n = true → Den E G d v → Dp E.K G v (pyD d)
  | .non, _, v, _, h => by cases (show v = _ from h); exact .non
  | .bl b, _, v, _, h => by cases (show v = _ from h); exact .bl b
  | .int i, _, v, _, h => by cases (show v = _ from h); exact .int i
  | .str s, _, v, _, h => by cases (show v = _ from h); exact .str s
  | .tup ds, n, v, h0, h => by
    obtain ⟨a, vs, h1, h2, h3⟩ := h
    subst h1
    cases n with
    | zero => exact nomatch h0
    | succ n => exact .tup (.inl (.inl h2)) (Dens.dp ds n vs h0 h3)
  | .lst ds, n, v, h0, h => by
    obtain ⟨a, vs, h1, h2, h3⟩ := h
    subst h1
    cases n with
    | zero => exact nomatch h0
    | succ n => exact .lst h2 (Dens.dp ds n vs h0 h3)
  | .dicT _ _, _, _, h, _ => nomatch h
  | .dicK _ _, _, _, h, _ => nomatch h
  | .exc _ _ _, _, _, h, _ => nomatch h
theorem Dens.dp : ∀ (ds : List D) (n : Nat) (vs : List V), okDs ds n = true → Dens E G ds vs → DpAll E.K G vs (pyDs ds)
  | [], _, vs, _, h => by
    have e : vs = [] := h
    subst e
    exact .nil
  | d :: ds, n, vs, h0, h => by
    obtain ⟨v, r, h1, h2, h3⟩ := h
    subst h1
    have h' : (okD d n && okDs ds n) = true := h0
    rw [Bool.and_eq_true] at h'
    exact .cons (Den.dp d n v h'.1 h2) (Dens.dp ds n r h'.2 h3)
end
/-- as the library's data, in the whole heap -/
theorem DenR.dp {H H0 : Hp} {x : RV} {v : V} (i : Ex G H) (h : DenR E G H H0 x v) (ok : okD x.d 60 = true) : Dp E.K H v (pyD x.d) := by
  obtain ⟨G2, e1, e2, h2⟩ := h.lent i
  exact Den.dp _ 60 _ ok (Den.mono e2 _ _ h2)
/-- a value that is an int, a text -/
theorem d_int {H H0 : Hp} {x : RV} {v : V} {n : Int} (h : DenR E G H H0 x v) (e : x.d = .int n) : v = .int n := by
  cases x with
  | dat d => cases (show d = _ from e); exact h
  | fr o => cases o <;> cases (show _ = D.int n from e)
  | br o => cases o <;> cases (show _ = D.int n from e)
theorem d_str {H H0 : Hp} {x : RV} {v : V} {n : Str} (h : DenR E G H H0 x v) (e : x.d = .str n) : v = .str n := by
  cases x with
  | dat d => cases (show d = _ from e); exact h
  | fr o => cases o <;> cases (show _ = D.str n from e)
  | br o => cases o <;> cases (show _ = D.str n from e)
end
def rEqX (K : PySem.W.Frag) : R2 := fun x y H Q => rEq x y H Q ∨ rEqD K x y H Q
def rNeX (K : PySem.W.Frag) : R2 := fun x y H Q => rNe x y H Q ∨ rNeD K x y H Q
theorem op_eqX {X : Cx} (hu : X.A.units + 64 < cLine) : OpR X (compareOp .Eq) (rEqX X.K) := or2 op_eq (op_eqD hu)
theorem op_neX {X : Cx} (hu : X.A.units + 64 < cLine) : OpR X (compareOp .NotEq) (rNeX X.K) := or2 op_ne (op_neD hu)
theorem eqV_cases {x y : D} {b : Bool} (e : eqV x y = some b) : (∃ i j, x = .int i ∧ y = .int j ∧ b = decide (i = j)) ∨ (∃ i j, x = .str i ∧ y = .str j ∧ b = decide (i = j)) ∨ (okD x 60 = true ∧ okD y 60 = true ∧ b = PyData.eqv (pyD x) (pyD y)) := by
  unfold eqV at e
  split at e
  · cases e; exact .inl ⟨_, _, rfl, rfl, rfl⟩
  · cases e; exact .inr (.inl ⟨_, _, rfl, rfl, rfl⟩)
  · split at e
    · rename_i h
      cases e
      exact .inr (.inr ⟨h.1, h.2, rfl⟩)
    · cases e
theorem dec_intX {i j : Int} : decide (V.int i = V.int j) = decide (i = j) := by
  rw [dec_int, Bool.beq_eq_decide_eq]
theorem dec_strX {i j : Str} : decide (V.str i = V.str j) = decide (i = j) := by
  rw [dec_str, Bool.beq_eq_decide_eq]
theorem meets_eq {E : En} : Meets2B E (rEqX E.K) fun x y => eqV x.d y.d := fun G H H0 x y v u z Q i dx dy e k => by
  rcases eqV_cases e with ⟨a, b, e1, e2, e3⟩ | ⟨a, b, e1, e2, e3⟩ | ⟨e1, e2, e3⟩
  · cases d_int dx e1
    cases d_int dy e2
    refine .inl ⟨rfl, ?_⟩
    rw [dec_intX, ← e3]
    exact k
  · cases d_str dx e1
    cases d_str dy e2
    refine .inl ⟨rfl, ?_⟩
    rw [dec_strX, ← e3]
    exact k
  · exact .inr ⟨_, _, dx.dp i e1, dy.dp i e2, okD_shaped e1, okD_shaped e2, by rw [← e3]; exact k⟩
theorem notV_some {o : Option Bool} {b : Bool} (e : notV o = some b) : ∃ c, o = some c ∧ b = !c := by
  cases o with
  | none => cases e
  | some c => cases e; exact ⟨c, rfl, rfl⟩
theorem meets_ne {E : En} : Meets2B E (rNeX E.K) fun x y => notV (eqV x.d y.d) := fun G H H0 x y v u z Q i dx dy e k => by
  obtain ⟨c, e', ez⟩ := notV_some e
  clear e
  subst ez
  rcases eqV_cases e' with ⟨a, b, e1, e2, e3⟩ | ⟨a, b, e1, e2, e3⟩ | ⟨e1, e2, e3⟩
  · cases d_int dx e1
    cases d_int dy e2
    refine .inl ⟨rfl, ?_⟩
    rw [dec_intX, ← e3]
    exact k
  · cases d_str dx e1
    cases d_str dy e2
    refine .inl ⟨rfl, ?_⟩
    rw [dec_strX, ← e3]
    exact k
  · exact .inr ⟨_, _, dx.dp i e1, dy.dp i e2, okD_shaped e1, okD_shaped e2, by rw [← e3]; exact k⟩

/-! #### < -/
def rLtX (K : PySem.W.Frag) : R2 := fun x y H Q => rI0 (fun i j => .bl (decide (i < j))) x y H Q ∨
  ∃ d e, Dp K H x d ∧ Dp K H y e ∧ SeqAt.shaped d = true ∧ PySem.W.alike d e = true ∧ d ≠ .none ∧ Q (.bl (PySem.W.dataLt d e)) H
theorem op_ltX {X : Cx} (hu : X.A.units + 64 < cLine) : OpR X (compareOp .Lt) (rLtX X.K) := or2 op_lt fun pins s σ H x y v u Q I rx ry h => by
  obtain ⟨d, e, hd, he, sd, al, hn, q⟩ := h
  obtain ⟨as, r1⟩ := Dp.reads I d x v hd rx
  obtain ⟨bs, r2⟩ := Dp.reads I e y u he ry
  have hm : X.A.units + min d.depth e.depth < cLine := by
    have := SeqAt.depth_of_shaped sd
    omega
  exact PySem.W.rcLt_alike d e X.A s v u as bs r1 r2 al hn hm X.prog X.w X.xe _ ⟨.bl _, H, I, rfl, q⟩
theorem meets_lt {E : En} : Meets2B E (rLtX E.K) fun x y => ltD x.d y.d := fun G H H0 x y v u z Q i dx dy e k => by
  have e : ltD x.d y.d = some z := e
  unfold ltD at e
  split at e
  · rename_i a b e1 e2
    cases e
    exact .inl ⟨_, _, d_int dx e1, d_int dy e2, k⟩
  · cases e
  · split at e
    · rename_i hn _ h
      cases e
      refine .inr ⟨_, _, dx.dp i h.1, dy.dp i h.2.1, okD_shaped h.1, h.2.2, fun z => ?_, k⟩
      have hal := h.2.2
      rw [z] at hal
      have ok := h.1
      cases hx : x.d with
      | non => exact hn hx
      | bl _ => rw [hx] at z; cases z
      | int _ => rw [hx] at z; cases z
      | str _ => rw [hx] at z; cases z
      | tup _ => rw [hx] at z; cases z
      | lst _ => rw [hx] at z; cases z
      | dicT _ _ => rw [hx] at ok; cases ok
      | dicK _ _ => rw [hx] at ok; cases ok
      | exc _ _ _ => rw [hx] at ok; cases ok
    · cases e
theorem meets_le {E : En} : Meets2B E (rI0 fun i j => .bl (decide (i ≤ j))) leV := fun G H H0 x y v u z Q i dx dy e k => by
  unfold leV at e
  split at e
  · cases e; exact ⟨_, _, dx, dy, k⟩
  · cases e
theorem meets_gt {E : En} : Meets2B E (rI0 fun i j => .bl (decide (j < i))) gtV := fun G H H0 x y v u z Q i dx dy e k => by
  unfold gtV at e
  split at e
  · cases e; exact ⟨_, _, dx, dy, k⟩
  · cases e
theorem meets_ge {E : En} : Meets2B E (rI0 fun i j => .bl (decide (j ≤ i))) geV := fun G H H0 x y v u z Q i dx dy e k => by
  unfold geV at e
  split at e
  · cases e; exact ⟨_, _, dx, dy, k⟩
  · cases e

/-! #### is -/
theorem den_non {E : En} {G H H0 : Hp} {x : RV} {v : V} (h : DenR E G H H0 x v) : decide (v = .non) = isNonV x := by
  cases x with
  | dat d =>
    cases d with
    | non => cases (show v = _ from h); rfl
    | bl b => cases (show v = _ from h); rfl
    | int i => cases (show v = _ from h); rfl
    | str s => cases (show v = _ from h); rfl
    | tup ds => obtain ⟨a, vs, h1, _⟩ := h; subst h1; rfl
    | lst ds => obtain ⟨a, vs, h1, _⟩ := h; subst h1; rfl
    | dicT ks ds => obtain ⟨a, vs, h1, _⟩ := h; subst h1; rfl
    | dicK ks ds => obtain ⟨a, vs, h1, _⟩ := h; subst h1; rfl
    | exc c ns ds => obtain ⟨a, C, dd, vs, h1, _⟩ := h; subst h1; rfl
  | fr o => obtain ⟨l, h1, _⟩ := h; subst h1; rfl
  | br o => obtain ⟨l, h1, _⟩ := h; subst h1; rfl
def rIsX : R2 := fun x y H Q => (y = .non ∧ Q (.bl (decide (x = .non))) H) ∨ rIsB x y H Q
def rNotX : R2 := fun x y H Q => (y = .non ∧ Q (.bl (!decide (x = .non))) H) ∨ rNotB x y H Q
theorem op_isX {X : Cx} : OpR X (compareOp .Is) rIsX := or2 op_isN op_isBl
theorem op_isntX {X : Cx} : OpR X (compareOp .IsNot) rNotX := or2 op_notN op_isnot_bl
theorem meets_is {E : En} : Meets2B E rIsX isV := fun G H H0 x y v u z Q i dx dy e k => by
  unfold isV at e
  split at e
  · cases e
    refine .inl ⟨dy, ?_⟩
    rw [den_non dx]
    exact k
  · split at e
    · cases e
      exact .inr ⟨_, _, dx, dy, k⟩
    · cases e
  · cases e
theorem meets_isnt {E : En} : Meets2B E rNotX fun x y => notV (isV x y) := fun G H H0 x y v u z Q i dx dy e k => by
  obtain ⟨c, e', ez⟩ := notV_some e
  clear e
  subst ez
  have e := e'
  clear e'
  unfold isV at e
  split at e
  · cases e
    refine .inl ⟨dy, ?_⟩
    rw [den_non dx]
    exact k
  · split at e
    · cases e
      exact .inr ⟨_, _, dx, dy, k⟩
    · cases e
  · cases e

/-! #### x[i], x[a:b] -/
theorem atI_dens {E : En} {G : Hp} {ds : List D} {vs : List V} {i : Int} {d : D} (h : Dens E G ds vs) (e : atI ds i = some d) : ∃ v, atI vs i = some v ∧ Den E G d v := by
  unfold atI at e ⊢
  rw [h.length]
  cases q : ixN ds.length i with
  | none => rw [q] at e; cases e
  | some j =>
    rw [q] at e
    exact h.get e
theorem meets_ix {E : En} : Meets2 E (rIx E.K) ixV := fun G H H0 x y v u z Q i dx dy e k => by
  unfold ixV at e
  split at e
  · split at e
    · rename_i ds es
      split at e
      · rename_i d ed
        cases e
        obtain ⟨a, vs, h1, h2, h3⟩ := seqV_sq i dx es
        obtain ⟨w, e1, e2⟩ := atI_dens h3 ed
        have q := k w G H (Gr.refl i) e2
        rcases h2 with h2 | h2
        · exact .inl ⟨a, vs, _, w, h1, dy, h2, e1, q⟩
        · exact .inr (.inl ⟨a, vs, _, w, h1, dy, h2, e1, q⟩)
      · cases e
    · split at e
      · split at e
        · rename_i hz
          split at e
          · rename_i c ec
            cases e
            exact .inr (.inr ⟨_, _, c, dx, dy, by rw [line_eq]; exact hz, ec, k _ G H (Gr.refl i) rfl⟩)
          · cases e
        · cases e
      · cases e
  · cases e
theorem Dens.cut {E : En} {G : Hp} {ds : List D} {vs : List V} (lo hi : Option Int) (h : Dens E G ds vs) : Dens E G (cutD ds lo hi) (cutV vs lo hi) := by
  unfold cutD cutV
  rw [h.length]
  exact (h.drop _).take _
def rSlX (K : PySem.W.Frag) : V → Option Int → Option Int → Hp → VK → Prop := fun x lo hi H Q => rSlL K x lo hi H Q ∨ rSlA K x lo hi H Q ∨ rSlS x lo hi H Q
theorem sl_X {X : Cx} : SlR X (rSlX X.K) := sl_list.or (sl_tupA.or sl_str)
theorem meets_sl {E : En} {G H H0 : Hp} {x : RV} {v : V} {lo hi : Option Int} {z : RV} {Q : VK} (i : Ex G H) (dx : DenR E G H H0 x v) (e : slV x lo hi = some z) (k : ∀ w G' H', Gr G H G' H' → DenR E G' H' H z w → Q w H') : rSlX E.K v lo hi H Q := by
  unfold slV at e
  split at e
  · cases e
    obtain ⟨a, vs, h1, h2, h3⟩ := dx
    refine .inr (.inl ⟨a, vs, h1, .inl (.inl (i _ _ h2)), fun hw => ?_, fun _ p hp => ?_⟩)
    · refine k _ G H (Gr.refl i) ⟨a, vs, rfl, h2, ?_⟩
      have q := h3.cut lo hi
      have e : cutV vs lo hi = vs := by
        unfold cutV
        rw [hw.1, hw.2, List.drop_zero, Nat.sub_zero, List.take_length]
      rw [e] at q
      exact q
    · exact k _ _ _ (Gr.frozen i hp) (newT i hp (h3.cut lo hi))
  · split at e
    · rename_i hs
      cases e
      exact .inr (.inr ⟨_, dx, by rw [line_eq]; exact hs, k _ G H (Gr.refl i) rfl⟩)
    · cases e
  · split at e
    · rename_i ds es
      cases e
      obtain ⟨a, vs, h1, h2, h3⟩ := lstV_sq i dx es
      exact .inl ⟨a, vs, h1, h2, fun p hp => k _ G _ (Gr.loose i hp) (newL i hp (h3.cut lo hi))⟩
    · cases e
end DE

set_option Elab.async false
set_option linter.all false
set_option maxRecDepth 100000
set_option maxHeartbeats 4000000
/-! DE5: dicts, built-in functions, isinstance, an error's fields, sorting. -/
namespace DE
open PySem PySem.Spec PyProof.Rows L2

/-! #### dicts -/
section
variable {E : En} {G : Hp} {κ : Type} [DecidableEq κ]
theorem dget_val : ∀ {kvs : List (κ × V)} {ds : List D} (k : κ), Dens E G ds (kvs.map (·.2)) →
    (∃ d v, dget (kvs.map (·.1)) ds k = some d ∧ valV kvs k = some v ∧ Den E G d v) ∨ (dget (kvs.map (·.1)) ds k = none ∧ valV kvs k = none)
  | [], ds, k, h => by
    refine .inr ⟨?_, valV_nil⟩
    cases ds <;> rfl
  | p :: r, [], k, h => by
    have e : (p :: r).map (·.2) = [] := h
    cases e
  | p :: r, d :: ds, k, h => by
    obtain ⟨v, ws, h1, h2, h3⟩ := h
    have e1 : p.2 = v := (List.cons.inj h1).1
    have e2 : r.map (·.2) = ws := (List.cons.inj h1).2
    subst e1
    subst e2
    by_cases hk : p.1 = k
    · refine .inl ⟨d, p.2, ?_, valV_pos hk, h2⟩
      show (if p.1 = k then some d else dget (r.map (·.1)) ds k) = some d
      rw [if_pos hk]
    · rw [valV_neg hk]
      have e3 : dget ((p :: r).map (·.1)) (d :: ds) k = dget (r.map (·.1)) ds k := by
        show (if p.1 = k then some d else dget (r.map (·.1)) ds k) = _
        rw [if_neg hk]
      rw [e3]
      exact dget_val k h3
theorem hasK_any (k : κ) : ∀ kvs : List (κ × V), hasK (kvs.map (·.1)) k = (kvs.any fun kv => decide (kv.1 = k))
  | [] => rfl
  | p :: r => by
    show (decide (p.1 = k) || hasK (r.map (·.1)) k) = (decide (p.1 = k) || r.any fun kv => decide (kv.1 = k))
    rw [hasK_any k r]
theorem dputV_dens : ∀ {kvs : List (κ × V)} {ds : List D} {d : D} {v : V} (k : κ), Dens E G ds (kvs.map (·.2)) → Den E G d v →
    Dens E G (dputV (kvs.map (·.1)) ds k d) ((kvs.map fun kv => if kv.1 = k then (kv.1, v) else kv).map (·.2)) ∧ (kvs.map fun kv => if kv.1 = k then (kv.1, v) else kv).map (·.1) = kvs.map (·.1)
  | [], ds, d, v, k, h, hd => ⟨by cases ds <;> exact rfl, rfl⟩
  | p :: r, [], d, v, k, h, hd => by
    have e : (p :: r).map (·.2) = [] := h
    cases e
  | p :: r, d0 :: ds, d, v, k, h, hd => by
    obtain ⟨w, ws, h1, h2, h3⟩ := h
    have e1 : p.2 = w := (List.cons.inj h1).1
    have e2 : r.map (·.2) = ws := (List.cons.inj h1).2
    subst e1
    subst e2
    obtain ⟨i1, i2⟩ := dputV_dens k h3 hd
    by_cases hk : p.1 = k
    · refine ⟨⟨v, _, ?_, ?_, i1⟩, ?_⟩
      · show (if p.1 = k then (p.1, v) else p).2 :: _ = _
        rw [if_pos hk] <;> rfl
      · show Den E G (if p.1 = k then d else d0) v
        rw [if_pos hk]
        exact hd
      · show (if p.1 = k then (p.1, v) else p).1 :: _ = p.1 :: _
        rw [if_pos hk, i2]
    · refine ⟨⟨p.2, _, ?_, ?_, i1⟩, ?_⟩
      · show (if p.1 = k then (p.1, v) else p).2 :: _ = _
        rw [if_neg hk] <;> rfl
      · show Den E G (if p.1 = k then d else d0) p.2
        rw [if_neg hk]
        exact h2
      · show (if p.1 = k then (p.1, v) else p).1 :: _ = p.1 :: _
        rw [if_neg hk, i2]
theorem dput_dens {kvs : List (κ × V)} {ds : List D} {d : D} {v : V} (k : κ) (h : Dens E G ds (kvs.map (·.2))) (hd : Den E G d v) :
    (if hasK (kvs.map (·.1)) k = true then (putK kvs k v).map (·.1) = kvs.map (·.1) ∧ Dens E G (dputV (kvs.map (·.1)) ds k d) ((putK kvs k v).map (·.2))
      else (putK kvs k v).map (·.1) = kvs.map (·.1) ++ [k] ∧ Dens E G (ds ++ [d]) ((putK kvs k v).map (·.2))) := by
  unfold putK
  rw [hasK_any]
  by_cases hk : (kvs.any fun kv => decide (kv.1 = k)) = true
  · rw [if_pos hk, if_pos hk]
    obtain ⟨i1, i2⟩ := dputV_dens k h hd
    exact ⟨i2, i1⟩
  · rw [if_neg hk, if_neg hk]
    refine ⟨by rw [List.map_append] <;> rfl, ?_⟩
    rw [List.map_append]
    exact h.append (Dens.one hd)
end
section
variable {E : En} {G H H0 : Hp}
theorem keyOf_den {d : D} {k : Key} {v : V} (e : keyOf d = some k) (h : Den E G d v) : v = kV k := by
  unfold keyOf at e
  split at e
  · cases e; exact h
  · cases e; exact h
  · cases e
theorem keysOf_dens : ∀ {ds : List D} {ks : List Key} {vs : List V}, keysOf ds = some ks → Dens E G ds vs → vs = ks.map kV
  | [], ks, vs, e, h => by
    cases e
    exact h
  | d :: ds, ks, vs, e, h => by
    obtain ⟨v, r, h1, h2, h3⟩ := h
    subst h1
    unfold keysOf at e
    split at e
    · rename_i k ks' ek eks
      cases e
      rw [keyOf_den ek h2, keysOf_dens eks h3] <;> rfl
    · cases e
theorem tkeyOf_den {d : D} {k : List Key} {v : V} (e : tkeyOf d = some k) (h : Den E G d v) : ∃ b, v = .ref b ∧ G b = some (.tup (k.map kV)) := by
  unfold tkeyOf at e
  split at e
  · obtain ⟨a, vs, h1, h2, h3⟩ := h
    exact ⟨a, h1, by rw [← keysOf_dens e h3]; exact h2⟩
  · cases e
theorem keysT_sq {x : RV} {ks : List (List Key)} {v : V} (i : Ex G H) (h : DenR E G H H0 x v) (e : keysT x = some ks) : ∃ a kvs, v = .ref a ∧ H a = some (.dT kvs) ∧ kvs.map (·.1) = ks ∧ Dens E G (valsT x) (kvs.map (·.2)) := by
  unfold keysT at e
  split at e
  · cases e
    obtain ⟨a, kvs, h1, h2, h3, h4⟩ := h
    exact ⟨a, kvs, h1, i _ _ h2, h3, h4⟩
  · cases e
    obtain ⟨l, h1, _, _, kvs, h2, h3, h4⟩ := h
    exact ⟨l, kvs, h1, h2, h3, h4⟩
  · cases e
    obtain ⟨l, h1, _, kvs, h2, h3, h4⟩ := h
    exact ⟨l, kvs, h1, h2, h3, h4⟩
  · cases e
theorem keysK_sq {x : RV} {ks : List Key} {v : V} (i : Ex G H) (h : DenR E G H H0 x v) (e : keysK x = some ks) : ∃ a kvs, v = .ref a ∧ H a = some (.dK kvs) ∧ kvs.map (·.1) = ks ∧ Dens E G (valsK x) (kvs.map (·.2)) := by
  unfold keysK at e
  split at e
  · cases e
    obtain ⟨a, kvs, h1, h2, h3, h4⟩ := h
    exact ⟨a, kvs, h1, i _ _ h2, h3, h4⟩
  · cases e
    obtain ⟨l, h1, _, _, kvs, h2, h3, h4⟩ := h
    exact ⟨l, kvs, h1, h2, h3, h4⟩
  · cases e
    obtain ⟨l, h1, _, kvs, h2, h3, h4⟩ := h
    exact ⟨l, kvs, h1, h2, h3, h4⟩
  · cases e
theorem dict_sq {x : RV} {k : D} {o : Option D} {v u : V} (i : Ex G H) (h : DenR E G H H0 x v) (hk : Den E G k u) (e : dictV x k = some o) : ∃ a ov, v = .ref a ∧ IsD H a ∧ DGet H a u ov ∧
    ((o = none ∧ ov = none) ∨ ∃ d w, o = some d ∧ ov = some w ∧ Den E G d w) := by
  unfold dictV at e
  split at e
  · rename_i ks q e1 e2
    cases e
    obtain ⟨a, kvs, h1, h2, h3, h4⟩ := keysT_sq i h e1
    obtain ⟨b, hb1, hb2⟩ := tkeyOf_den e2 hk
    subst hb1
    refine ⟨a, valV kvs q, h1, .inr ⟨kvs, .inl h2⟩, DGet.t h2 (i _ _ hb2), ?_⟩
    subst h3
    rcases dget_val q h4 with ⟨d, w, k1, k2, k3⟩ | ⟨k1, k2⟩
    · exact .inr ⟨d, w, k1, k2, k3⟩
    · exact .inl ⟨k1, k2⟩
  · split at e
    · rename_i ks q e1 e2
      cases e
      obtain ⟨a, kvs, h1, h2, h3, h4⟩ := keysK_sq i h e1
      have hu := keyOf_den e2 hk
      subst hu
      refine ⟨a, valV kvs q, h1, .inl ⟨kvs, .inl h2⟩, DGet.k h2, ?_⟩
      subst h3
      rcases dget_val q h4 with ⟨d, w, k1, k2, k3⟩ | ⟨k1, k2⟩
      · exact .inr ⟨d, w, k1, k2, k3⟩
      · exact .inl ⟨k1, k2⟩
    · cases e
end

/-! #### len and the like -/
def CallR.or2 {X : Cx} {f : Value} {r r' : List V → Hp → VK → Prop} (h : CallR X f r) (h' : CallR X f r') : CallR X f (fun xs H Q => r xs H Q ∨ r' xs H Q) := fun pins s σ H xs us Q I rx q => by
  rcases q with q | q
  · exact h pins s σ H xs us Q I rx q
  · exact h' pins s σ H xs us Q I rx q
/-- r meets g: from the arguments' data -/
def MeetsC (E : En) (r : List V → Hp → VK → Prop) (g : List RV → Option RV) : Prop := ∀ (G H H0 : Hp) (xs : List RV) (vs : List V) (z : RV) (Q : VK), Ex G H → DenRs E G H H0 xs vs → g xs = some z →
  (∀ w G' H', Gr G H G' H' → DenR E G' H' H z w → Q w H') → r vs H Q
theorem dens1 {E : En} {G H H0 : Hp} {x : RV} {vs : List V} (h : DenRs E G H H0 [x] vs) : ∃ v, vs = [v] ∧ DenR E G H H0 x v := by
  obtain ⟨v, ws, h1, h2, h3⟩ := h
  have e : ws = [] := h3
  subst e
  exact ⟨v, h1, h2⟩
theorem call_len_dK {X : Cx} : CallR X (.builtin "len") (fun xs H Q => ∃ a kvs, xs = [.ref a] ∧ H a = some (.dK kvs) ∧ Q (.int kvs.length) H) := by
  intro pins s σ H xs us Q I r h
  obtain ⟨a, kvs, rfl, e, q⟩ := h
  exact call_lenD pins s σ H _ us Q I r ⟨a, kvs, rfl, e, q⟩
def rLenX (K : PySem.W.Frag) : List V → Hp → VK → Prop := fun xs H Q =>
  (∃ p ys, xs = [.ref p] ∧ (SqL K H p ys ∨ SqT K H p ys) ∧ Q (.int ys.length) H) ∨ (∃ z, xs = [.str z] ∧ z.length ≤ sizeLine ∧ Q (.int z.length) H) ∨ (∃ a kvs, xs = [.ref a] ∧ H a = some (.dK kvs) ∧ Q (.int kvs.length) H) ∨ rLenT xs H Q
theorem call_lenX {X : Cx} : CallR X (.builtin "len") (rLenX X.K) := CallR.or2 call_len_seq (CallR.or2 call_len_str (CallR.or2 call_len_dK call_len_dT))
theorem meets_len {E : En} : MeetsC E (rLenX E.K) (biV .len) := fun G H H0 xs vs z Q i dx e k => by
  unfold biV at e
  split at e <;> try contradiction
  rename_i x _
  obtain ⟨v, ev, dv⟩ := dens1 dx
  subst ev
  split at e
  · rename_i ds es
    cases e
    obtain ⟨a, ws, h1, h2, h3⟩ := seqV_sq i dv es
    subst h1
    have q := k (.int ds.length) G H (Gr.refl i) rfl
    rw [← h3.length] at q
    exact .inl ⟨a, ws, rfl, h2, q⟩
  · split at e
    · split at e
      · rename_i hz
        cases e
        cases (show v = _ from dv)
        exact .inr (.inl ⟨_, rfl, by rw [line_eq]; exact hz, k _ G H (Gr.refl i) rfl⟩)
      · cases e
    · split at e
      · rename_i ks ek
        cases e
        obtain ⟨a, kvs, h1, h2, h3, h4⟩ := keysK_sq i dv ek
        subst h1
        have q := k (.int ks.length) G H (Gr.refl i) rfl
        rw [← h3, List.length_map] at q
        exact .inr (.inr (.inl ⟨a, kvs, rfl, h2, q⟩))
      · split at e
        · rename_i ks ek
          cases e
          obtain ⟨a, kvs, h1, h2, h3, h4⟩ := keysT_sq i dv ek
          subst h1
          have q := k (.int ks.length) G H (Gr.refl i) rfl
          rw [← h3, List.length_map] at q
          exact .inr (.inr (.inr ⟨a, kvs, rfl, h2, q⟩))
        · cases e
theorem meets_abs {E : En} : MeetsC E (fun xs H Q => ∃ i, xs = [.int i] ∧ Q (.int (if i < 0 then -i else i)) H) (biV .abs) := fun G H H0 xs vs z Q i dx e k => by
  unfold biV at e
  split at e <;> try contradiction
  cases e
  obtain ⟨v, ev, dv⟩ := dens1 dx
  subst ev
  cases (show v = _ from dv)
  exact ⟨_, rfl, k _ G H (Gr.refl i) rfl⟩
theorem meets_int {E : En} : MeetsC E (fun xs H Q => (∃ i, xs = [.int i] ∧ Q (.int i) H) ∨ ∃ k, xs = [.bl k] ∧ Q (.int (if k then 1 else 0)) H) (biV .int) := fun G H H0 xs vs z Q i dx e k => by
  unfold biV at e
  split at e <;> try contradiction
  · cases e
    obtain ⟨v, ev, dv⟩ := dens1 dx
    subst ev
    cases (show v = _ from dv)
    exact .inl ⟨_, rfl, k _ G H (Gr.refl i) rfl⟩
  · cases e
    obtain ⟨v, ev, dv⟩ := dens1 dx
    subst ev
    cases (show v = _ from dv)
    exact .inr ⟨_, rfl, k _ G H (Gr.refl i) rfl⟩
theorem meets_tup {E : En} : MeetsC E (fun xs H Q => ∃ p ys, xs = [.ref p] ∧ ((SqL E.K H p ys ∧ ∀ l, H l = none → Q (.ref l) (upd H l (.tup ys))) ∨ (SqT E.K H p ys ∧ Q (.ref p) H))) (biV .tup) := fun G H H0 xs vs z Q i dx e k => by
  unfold biV at e
  split at e <;> try contradiction
  · cases e
    obtain ⟨v, ev, dv⟩ := dens1 dx
    subst ev
    obtain ⟨a, ws, h1, h2, h3⟩ := dv
    subst h1
    exact ⟨a, ws, rfl, .inr ⟨.inl (.inl (i _ _ h2)), k _ G H (Gr.refl i) ⟨a, ws, rfl, h2, h3⟩⟩⟩
  · rename_i x _
    obtain ⟨v, ev, dv⟩ := dens1 dx
    subst ev
    split at e
    · rename_i ds es
      cases e
      obtain ⟨a, ws, h1, h2, h3⟩ := lstV_sq i dv es
      subst h1
      exact ⟨a, ws, rfl, .inl ⟨h2, fun l hl => k _ _ _ (Gr.frozen i hl) (newT i hl h3)⟩⟩
    · cases e
theorem meets_lst {E : En} : MeetsC E (fun xs H Q => ∃ p ys, xs = [.ref p] ∧ (SqL E.K H p ys ∨ SqT E.K H p ys) ∧ ∀ l, H l = none → Q (.ref l) (upd H l (.lst ys))) (biV .lst) := fun G H H0 xs vs z Q i dx e k => by
  unfold biV at e
  split at e <;> try contradiction
  rename_i x _
  obtain ⟨v, ev, dv⟩ := dens1 dx
  subst ev
  split at e
  · rename_i ds es
    cases e
    obtain ⟨a, ws, h1, h2, h3⟩ := seqV_sq i dv es
    subst h1
    exact ⟨a, ws, rfl, h2, fun l hl => k _ _ _ (Gr.loose i hl) (newL i hl h3)⟩
  · cases e

/-! #### numbers of a list -/
theorem intsD_den : ∀ {ds : List D} {ns : List Int} {vs : List V}, intsD ds = some ns → Dens E G ds vs → vs = ns.map V.int
  | [], ns, vs, e, h => by
    cases e
    exact h
  | d :: ds, ns, vs, e, h => by
    obtain ⟨v, r, h1, h2, h3⟩ := h
    subst h1
    unfold intsD at e
    split at e
    · cases ‹d :: ds = []›
    · rename_i j r' he
      cases he
      split at e
      · rename_i ms em
        cases e
        rw [intsD_den em h3]
        cases (show v = _ from h2)
        rfl
      · cases e
    · cases e
theorem strsD_den : ∀ {ds : List D} {ns : List Str} {vs : List V}, strsD ds = some ns → Dens E G ds vs → vs = ns.map V.str
  | [], ns, vs, e, h => by
    cases e
    exact h
  | d :: ds, ns, vs, e, h => by
    obtain ⟨v, r, h1, h2, h3⟩ := h
    subst h1
    unfold strsD at e
    split at e
    · cases ‹d :: ds = []›
    · rename_i j r' he
      cases he
      split at e
      · rename_i ms em
        cases e
        rw [strsD_den em h3]
        cases (show v = _ from h2)
        rfl
      · cases e
    · cases e
theorem blsD_den : ∀ {ds : List D} {ns : List Bool} {vs : List V}, blsD ds = some ns → Dens E G ds vs → vs = ns.map V.bl
  | [], ns, vs, e, h => by
    cases e
    exact h
  | d :: ds, ns, vs, e, h => by
    obtain ⟨v, r, h1, h2, h3⟩ := h
    subst h1
    unfold blsD at e
    split at e
    · cases ‹d :: ds = []›
    · rename_i j r' he
      cases he
      split at e
      · rename_i ms em
        cases e
        rw [blsD_den em h3]
        cases (show v = _ from h2)
        rfl
      · cases e
    · cases e
theorem lstI_sq {H H0 : Hp} {x : RV} {ns : List Int} {v : V} (i : Ex G H) (h : DenR E G H H0 x v) (e : lstI x = some ns) : ∃ a, v = .ref a ∧ SqL E.K H a (ns.map V.int) := by
  unfold lstI at e
  split at e
  · rename_i ds es
    obtain ⟨a, ws, h1, h2, h3⟩ := lstV_sq i h es
    exact ⟨a, h1, by rw [← intsD_den e h3]; exact h2⟩
  · cases e
theorem lstB_sq {H H0 : Hp} {x : RV} {ns : List Bool} {v : V} (i : Ex G H) (h : DenR E G H H0 x v) (e : lstB x = some ns) : ∃ a, v = .ref a ∧ SqL E.K H a (ns.map V.bl) := by
  unfold lstB at e
  split at e
  · rename_i ds es
    obtain ⟨a, ws, h1, h2, h3⟩ := lstV_sq i h es
    exact ⟨a, h1, by rw [← blsD_den e h3]; exact h2⟩
  · cases e
theorem foldl_max_mem : ∀ (ns : List Int) (n : Int), ns.foldl max n ∈ n :: ns
  | [], n => List.mem_cons_self
  | m :: ns, n => by
    rcases List.mem_cons.mp (foldl_max_mem ns (max n m)) with h | h
    · show (m :: ns).foldl max n ∈ _
      rw [List.foldl_cons, h]
      rcases Int.le_total n m with q | q
      · rw [Int.max_eq_right q]; simp
      · rw [Int.max_eq_left q]; simp
    · show (m :: ns).foldl max n ∈ _
      rw [List.foldl_cons]
      exact List.mem_cons_of_mem _ (List.mem_cons_of_mem _ h)
theorem foldl_max_ge : ∀ (ns : List Int) (n : Int), ∀ y ∈ n :: ns, y ≤ ns.foldl max n
  | [], n, y, hy => by rw [List.mem_singleton.mp hy]; exact Int.le_refl _
  | m :: ns, n, y, hy => by
    rw [List.foldl_cons]
    rcases List.mem_cons.mp hy with h | h
    · subst h
      exact Int.le_trans (Int.le_max_left _ _) (foldl_max_ge ns (max y m) _ List.mem_cons_self)
    · rcases List.mem_cons.mp h with h | h
      · subst h
        exact Int.le_trans (Int.le_max_right _ _) (foldl_max_ge ns (max n y) _ List.mem_cons_self)
      · exact foldl_max_ge ns (max n m) y (List.mem_cons_of_mem _ h)
theorem foldl_min_mem : ∀ (ns : List Int) (n : Int), ns.foldl min n ∈ n :: ns
  | [], n => List.mem_cons_self
  | m :: ns, n => by
    rcases List.mem_cons.mp (foldl_min_mem ns (min n m)) with h | h
    · show (m :: ns).foldl min n ∈ _
      rw [List.foldl_cons, h]
      rcases Int.le_total n m with q | q
      · rw [Int.min_eq_left q]; simp
      · rw [Int.min_eq_right q]; simp
    · show (m :: ns).foldl min n ∈ _
      rw [List.foldl_cons]
      exact List.mem_cons_of_mem _ (List.mem_cons_of_mem _ h)
theorem foldl_min_le : ∀ (ns : List Int) (n : Int), ∀ y ∈ n :: ns, ns.foldl min n ≤ y
  | [], n, y, hy => by rw [List.mem_singleton.mp hy]; exact Int.le_refl _
  | m :: ns, n, y, hy => by
    rw [List.foldl_cons]
    rcases List.mem_cons.mp hy with h | h
    · subst h
      exact Int.le_trans (foldl_min_le ns (min y m) _ List.mem_cons_self) (Int.min_le_left _ _)
    · rcases List.mem_cons.mp h with h | h
      · subst h
        exact Int.le_trans (foldl_min_le ns (min n y) _ List.mem_cons_self) (Int.min_le_right _ _)
      · exact foldl_min_le ns (min n m) y (List.mem_cons_of_mem _ h)
theorem meets_sum {E : En} : MeetsC E (rSum E.K) (biV .sum) := fun G H H0 xs vs z Q i dx e k => by
  unfold biV at e
  split at e <;> try contradiction
  rename_i x _
  obtain ⟨v, ev, dv⟩ := dens1 dx
  subst ev
  unfold sumV at e
  split at e
  · rename_i ns es
    cases e
    obtain ⟨a, h1, h2⟩ := lstI_sq i dv es
    subst h1
    exact ⟨a, ns, rfl, h2, k _ G H (Gr.refl i) rfl⟩
  · cases e
theorem meets_max {E : En} : MeetsC E (rMax E.K) (biV .max) := fun G H H0 xs vs z Q i dx e k => by
  unfold biV at e
  split at e <;> try contradiction
  rename_i x _
  obtain ⟨v, ev, dv⟩ := dens1 dx
  subst ev
  unfold maxV at e
  split at e
  · rename_i n ns es
    cases e
    obtain ⟨a, h1, h2⟩ := lstI_sq i dv es
    subst h1
    refine ⟨a, _, rfl, h2, by simp, fun m hm hy => ?_⟩
    have q : m = ns.foldl max n := Int.le_antisymm (foldl_max_ge ns n m hm) (hy _ (foldl_max_mem ns n))
    rw [q]
    exact k _ G H (Gr.refl i) rfl
  · cases e
theorem meets_min {E : En} : MeetsC E (rMin E.K) (biV .min) := fun G H H0 xs vs z Q i dx e k => by
  unfold biV at e
  split at e <;> try contradiction
  rename_i x _
  obtain ⟨v, ev, dv⟩ := dens1 dx
  subst ev
  unfold minV at e
  split at e
  · rename_i n ns es
    cases e
    obtain ⟨a, h1, h2⟩ := lstI_sq i dv es
    subst h1
    refine ⟨a, _, rfl, h2, by simp, fun m hm hy => ?_⟩
    have q : m = ns.foldl min n := Int.le_antisymm (hy _ (foldl_min_mem ns n)) (foldl_min_le ns n m hm)
    rw [q]
    exact k _ G H (Gr.refl i) rfl
  · cases e
theorem meets_any {E : En} : MeetsC E (rAny E.K) (biV .any) := fun G H H0 xs vs z Q i dx e k => by
  unfold biV at e
  split at e <;> try contradiction
  rename_i x _
  obtain ⟨v, ev, dv⟩ := dens1 dx
  subst ev
  unfold anyV at e
  split at e
  · rename_i ns es
    cases e
    obtain ⟨a, h1, h2⟩ := lstB_sq i dv es
    subst h1
    exact ⟨a, ns, rfl, h2, k _ G H (Gr.refl i) rfl⟩
  · cases e
theorem meets_all {E : En} : MeetsC E (rAll E.K) (biV .all) := fun G H H0 xs vs z Q i dx e k => by
  unfold biV at e
  split at e <;> try contradiction
  rename_i x _
  obtain ⟨v, ev, dv⟩ := dens1 dx
  subst ev
  unfold allV at e
  split at e
  · rename_i ns es
    cases e
    obtain ⟨a, h1, h2⟩ := lstB_sq i dv es
    subst h1
    exact ⟨a, ns, rfl, h2, k _ G H (Gr.refl i) rfl⟩
  · cases e
/-! #### membership -/
theorem any_map_int (i : Int) (ns : List Int) : inV (V.int i) (ns.map V.int) = ns.any fun j => decide (j = i) := by
  unfold inV
  rw [List.any_map]
  rfl
theorem any_map_str (i : Str) (ns : List Str) : inV (V.str i) (ns.map V.str) = ns.any fun j => decide (j = i) := by
  unfold inV
  rw [List.any_map]
  rfl
theorem inL_in {d : D} {ds : List D} {v : V} {vs : List V} {b : Bool} (e : inL d ds = some b) (h : Den E G d v) (hs : Dens E G ds vs) : flatV v = true ∧ vs.all flatV = true ∧ inV v vs = b := by
  unfold inL at e
  split at e
  · split at e
    · rename_i ns en
      cases e
      cases (show v = _ from h)
      rw [intsD_den en hs]
      refine ⟨rfl, ?_, any_map_int _ _⟩
      rw [List.all_map, List.all_eq_true]
      exact fun _ _ => rfl
    · cases e
  · split at e
    · rename_i ns en
      cases e
      cases (show v = _ from h)
      rw [strsD_den en hs]
      refine ⟨rfl, ?_, any_map_str _ _⟩
      rw [List.all_map, List.all_eq_true]
      exact fun _ _ => rfl
    · cases e
  · cases e
theorem inW_in {H H0 : Hp} {x y : RV} {v u : V} {b : Bool} (i : Ex G H) (dx : DenR E G H H0 x v) (dy : DenR E G H H0 y u) (e : inW x y = some b) : ∃ p xs, u = .ref p ∧ (SqL E.K H p xs ∨ SqT E.K H p xs) ∧ flatV v = true ∧ xs.all flatV = true ∧ inV v xs = b := by
  unfold inW at e
  split at e
  · split at e
    · rename_i ds es
      obtain ⟨a, ws, h1, h2, h3⟩ := seqV_sq i dy es
      obtain ⟨f1, f2, f3⟩ := inL_in e dx h3
      exact ⟨a, ws, h1, h2, f1, f2, f3⟩
    · cases e
  · cases e
theorem meets_in {E : En} : Meets2B E (rIn E.K false) inW := fun G H H0 x y v u z Q i dx dy e k => by
  obtain ⟨p, xs, h1, h2, h3, h4, h5⟩ := inW_in i dx dy e
  exact ⟨p, xs, h1, h2, h3, h4, by rw [h5]; exact k⟩
theorem meets_notin {E : En} : Meets2B E (rIn E.K true) fun x y => notV (inW x y) := fun G H H0 x y v u z Q i dx dy e k => by
  obtain ⟨c, e', ez⟩ := notV_some e
  clear e
  subst ez
  obtain ⟨p, xs, h1, h2, h3, h4, h5⟩ := inW_in i dx dy e'
  exact ⟨p, xs, h1, h2, h3, h4, by rw [h5]; exact k⟩

/-! #### sorted -/
theorem allB_all {p : D → Bool} : ∀ {ds : List D}, allB p ds = true → ∀ d ∈ ds, p d = true
  | [], _, d, hd => by cases hd
  | x :: xs, h, d, hd => by
    have h' : (p x && allB p xs) = true := h
    rw [Bool.and_eq_true] at h'
    rcases List.mem_cons.mp hd with e | e
    · rw [e]; exact h'.1
    · exact allB_all h'.2 d e
theorem pyDs_map : ∀ ds : List D, pyDs ds = ds.map pyD
  | [] => rfl
  | d :: ds => by
    show pyD d :: pyDs ds = pyD d :: ds.map pyD
    rw [pyDs_map ds]
theorem sortOk_ok {ds : List D} (h : sortOk ds = true) : okDs ds 60 = true ∧ PySem.W.AllAlike (ds.map pyD) ∧ PySem.W.Sortable (ds.map pyD) := by
  unfold sortOk at h
  rw [Bool.and_eq_true, Bool.and_eq_true, Bool.or_eq_true] at h
  obtain ⟨⟨h1, h2⟩, h3⟩ := h
  refine ⟨h1, fun a ha b hb => ?_, ?_⟩
  · obtain ⟨x, hx, rfl⟩ := List.mem_map.mp ha
    obtain ⟨y, hy, rfl⟩ := List.mem_map.mp hb
    exact allB_all (allB_all h2 x hx) y hy
  · rcases h3 with h3 | h3
    · refine .inl fun a ha => ?_
      obtain ⟨x, hx, rfl⟩ := List.mem_map.mp ha
      have q := allB_all h3 x hx
      cases x with
      | tup xs =>
        cases xs with
        | nil => cases q
        | cons y ys => exact ⟨_, _, rfl⟩
      | _ => cases q
    · refine .inr fun a ha => ?_
      obtain ⟨x, hx, rfl⟩ := List.mem_map.mp ha
      have q := allB_all h3 x hx
      have ok : okD x 60 = true := by
        have : ∀ {l : List D}, okDs l 60 = true → ∀ d ∈ l, okD d 60 = true := by
          intro l
          induction l with
          | nil => intro _ d hd; cases hd
          | cons y ys ih =>
            intro h d hd
            have h' : (okD y 60 && okDs ys 60) = true := h
            rw [Bool.and_eq_true] at h'
            rcases List.mem_cons.mp hd with e | e
            · rw [e]; exact h'.1
            · exact ih h'.2 d e
        exact this h1 x hx
      cases x with
      | tup xs => cases q
      | non => cases q
      | bl _ => exact ⟨(fun z => nomatch z), fun _ z => nomatch z⟩
      | int _ => exact ⟨(fun z => nomatch z), fun _ z => nomatch z⟩
      | str _ => exact ⟨(fun z => nomatch z), fun _ z => nomatch z⟩
      | lst _ => exact ⟨(fun z => nomatch z), fun _ z => nomatch z⟩
      | dicT _ _ => cases ok
      | dicK _ _ => cases ok
      | exc _ _ _ => cases ok
theorem dens_zip {E : En} {G : Hp} : ∀ {ds : List D} {vs : List V}, Dens E G ds vs → ∃ zs : List (D × V), zs.map (·.1) = ds ∧ zs.map (·.2) = vs ∧ ∀ z ∈ zs, Den E G z.1 z.2
  | [], vs, h => ⟨[], rfl, h.symm, fun _ z => nomatch z⟩
  | d :: ds, vs, h => by
    obtain ⟨v, r, h1, h2, h3⟩ := h
    obtain ⟨zs, k1, k2, k3⟩ := dens_zip h3
    refine ⟨(d, v) :: zs, ?_, ?_, fun z hz => ?_⟩
    · show d :: zs.map (·.1) = _
      rw [k1]
    · show v :: zs.map (·.2) = _
      rw [k2, h1]
    · rcases List.mem_cons.mp hz with e | e
      · rw [e]; exact h2
      · exact k3 z e
theorem zip_dens {E : En} {G : Hp} : ∀ {zs : List (D × V)}, (∀ z ∈ zs, Den E G z.1 z.2) → Dens E G (zs.map (·.1)) (zs.map (·.2))
  | [], _ => rfl
  | z :: zs, h => ⟨z.2, zs.map (·.2), rfl, h z (List.mem_cons_self ..), zip_dens fun y hy => h y (List.mem_cons_of_mem _ hy)⟩
theorem each_vals : ∀ {zs : List (D × V)} {us : List Value}, Vals (zs.map (·.2)) us → PySem.W.EachIs (fun u z => RelV z.2 u) us zs
  | [], us, h => by
    cases h
    exact .nil
  | z :: zs, us, h => by
    cases h with
    | cons r t => exact .cons r (each_vals t)
theorem vals_each : ∀ {zs : List (D × V)} {us : List Value}, PySem.W.EachIs (fun u z => RelV z.2 u) us zs → Vals (zs.map (·.2)) us
  | _, _, .nil => .nil
  | _, _, .cons r t => .cons r (vals_each t)
def rSortX (K : PySem.W.Frag) : List V → Hp → VK → Prop := fun xs H Q => ∃ (p : Addr) (zs : List (D × V)), xs = [.ref p] ∧ SqL K H p (zs.map (·.2)) ∧ (∀ z ∈ zs, Dp K H z.2 (pyD z.1)) ∧ sortOk (zs.map (·.1)) = true ∧
  ∀ l, H l = none → Q (.ref l) (upd H l (.lst ((zs.mergeSort fun a b => !PySem.W.dataLt (pyD b.1) (pyD a.1)).map (·.2))))
theorem call_sortX {X : Cx} (hu : X.A.units + 100 < cLine) : CallR X (.builtin "sorted") (rSortX X.K) := by
  intro pins s σ H xs us Q I r h
  obtain ⟨p, zs, rfl, hs, hd, hok, q⟩ := h
  obtain ⟨u, rfl, rx⟩ := vals1 r
  obtain rfl : u = .ref p := rx
  obtain ⟨its, rv, pl, hz⟩ := I.list hs
  obtain ⟨ok1, ok2, ok3⟩ := sortOk_ok hok
  have hlen := rv.length
  rw [List.length_map] at hlen hz
  have emap : (zs.map fun z => pyD z.1) = (zs.map (·.1)).map pyD := by rw [List.map_map] <;> rfl
  have each := each_vals rv
  have reads : PySem.W.EachIs (fun v b => ∃ as, Reads s.heap v (pyD b.1) as) its zs := by
    have go : ∀ {us : List Value} {ys : List (D × V)}, (∀ z ∈ ys, Dp X.K H z.2 (pyD z.1)) → PySem.W.EachIs (fun u (z : D × V) => RelV z.2 u) us ys → PySem.W.EachIs (fun v (b : D × V) => ∃ as, Reads s.heap v (pyD b.1) as) us ys := by
      intro us ys h0 e
      induction e with
      | nil => exact .nil
      | cons r t ih => exact .cons (Dp.reads I _ _ _ (h0 _ (List.mem_cons_self ..)) r) (ih fun y hy => h0 y (List.mem_cons_of_mem _ hy))
    exact go hd each
  have dep : ∀ b, b ∈ zs → X.A.units + 2 + (pyD b.1).depth < cLine := fun b hb => by
    have : okD b.1 60 = true := by
      have all : ∀ {l : List D}, okDs l 60 = true → ∀ d ∈ l, okD d 60 = true := by
        intro l
        induction l with
        | nil => intro _ d hd; cases hd
        | cons y ys ih =>
          intro h d hd
          have h' : (okD y 60 && okDs ys 60) = true := h
          rw [Bool.and_eq_true] at h'
          rcases List.mem_cons.mp hd with e | e
          · rw [e]; exact h'.1
          · exact ih h'.2 d e
      exact all ok1 b.1 (List.mem_map.mpr ⟨b, hb, rfl⟩)
    have := (okD_lay b.1 60 this).2
    omega
  refine PySem.W.sorted_data (R := fun u z => RelV z.2 u) (enc := fun z : D × V => pyD z.1) pl.isList each reads (by rw [emap]; exact ok2) (by rw [emap]; exact ok3) hz dep fun out ho he => ?_
  have el : (zs.mergeSort (PySem.W.dataLe false fun z : D × V => pyD z.1)) = zs.mergeSort fun a b => !PySem.W.dataLt (pyD b.1) (pyD a.1) := rfl
  rw [el] at he
  have rv2 := vals_each he
  -- the new list stands at the heap's end; what the sort laid beside is loose
  have hcp := PySem.W.copyHeap_at s.heap its
  obtain ⟨e', he'⟩ := PyProof.Rows.sortedHeap_at (vs := its) (out := out.toArray) hcp
  have hfr : H (s.heap.objs.size + 1) = none := I.hok.fresh (Nat.le_succ _)
  have keep : ∀ b o, s.heap.get? b = some o → (PyProof.Rows.sortedAll s.heap its out.toArray).get? b = some o := fun b o e => by
    have hb : b < s.heap.objs.size := Heap.lt_size e
    have hsz : (PySem.W.copyHeap s.heap its).objs.size = s.heap.objs.size + 2 := by
      unfold PySem.W.copyHeap
      rw [size_push', Heap.size_update, size_push']
    show (PyProof.Rows.sortedHeap (PySem.W.copyHeap s.heap its) (s.heap.objs.size + 1) its out.toArray).get? b = some o
    rw [PyProof.Rows.sortedHeap_old (Nat.ne_of_lt (Nat.lt_succ_of_lt hb)) (by rw [hsz]; exact Nat.lt_succ_of_lt (Nat.lt_succ_of_lt hb))]
    exact PySem.W.copyHeap_old e
  refine ⟨.ref (s.heap.objs.size + 1), _, I.laid (t' := s.toks) (o := .lst ((zs.mergeSort fun a b => !PySem.W.dataLt (pyD b.1) (pyD a.1)).map (·.2))) keep (Nat.le_succ _) ⟨?_, out, e', rv2, he'⟩, rfl, q _ hfr⟩
  rw [List.length_map, (List.mergeSort_perm _ _).length_eq]
  exact hz
theorem meets_sorted_l {E : En} {G H H0 : Hp} {x : RV} {v : V} {ds : List D} {Q : VK} (i : Ex G H) (dv : DenR E G H H0 x v) (es : lstV x = some ds) (hok : sortOk ds = true)
    (k : ∀ w G' H', Gr G H G' H' → DenR E G' H' H (.fr (.l (sortD ds))) w → Q w H') : rSortX E.K [v] H Q := by
  obtain ⟨a, ws, h1, h2, h3⟩ := lstV_sq i dv es
  subst h1
  obtain ⟨zs, k1, k2, k3⟩ := dens_zip h3
  refine ⟨a, zs, rfl, by rw [k2]; exact h2, fun z hz => ?_, by rw [k1]; exact hok, fun l hl => ?_⟩
  · have all : ∀ {l : List D}, okDs l 60 = true → ∀ d ∈ l, okD d 60 = true := by
      intro l
      induction l with
      | nil => intro _ d hd; cases hd
      | cons y ys ih =>
        intro h d hd
        have h' : (okD y 60 && okDs ys 60) = true := h
        rw [Bool.and_eq_true] at h'
        rcases List.mem_cons.mp hd with e | e
        · rw [e]; exact h'.1
        · exact ih h'.2 d e
    exact Den.dp _ 60 _ (all (sortOk_ok hok).1 _ (by rw [← k1]; exact List.mem_map.mpr ⟨z, hz, rfl⟩)) (Den.mono i _ _ (k3 z hz))
  · refine k _ G _ (Gr.loose i hl) ?_
    have e1 : sortD ds = (zs.mergeSort fun a b => !PySem.W.dataLt (pyD b.1) (pyD a.1)).map (·.1) := by
      unfold sortD
      rw [← k1]
      exact (PySem.W.sort_maps (fun z : D × V => z.1) (fun _ _ _ _ => rfl)).symm
    rw [e1]
    exact newL i hl (zip_dens fun z hz => k3 z ((List.mergeSort_perm _ _).mem_iff.mp hz))
/-- sorted(d), d with tuple keys -/
def rSortT : List V → Hp → VK → Prop := fun xs H Q => ∃ (d : Addr) (kvs : List (List Key × V)), xs = [.ref d] ∧ H d = some (.dT kvs) ∧ sortOk ((kvs.map (·.1)).map tkeyD) = true ∧
  ∀ (l : Addr) (zs : List (D × V)), H l = none → zs.map (·.1) = sortD ((kvs.map (·.1)).map tkeyD) → (∀ z ∈ zs, ∃ k b, z.1 = tkeyD k ∧ z.2 = .ref b ∧ H b = some (.tup (k.map kV))) → Q (.ref l) (upd H l (.lst (zs.map (·.2))))
theorem okDs_mem {n : Nat} : ∀ {l : List D}, okDs l n = true → ∀ d ∈ l, okD d n = true
  | [], _, d, hd => by cases hd
  | y :: ys, h, d, hd => by
    have h' : (okD y n && okDs ys n) = true := h
    rw [Bool.and_eq_true] at h'
    rcases List.mem_cons.mp hd with e | e
    · rw [e]; exact h'.1
    · exact okDs_mem h'.2 d e
theorem dens_key {E : En} {G : Hp} : ∀ k : List Key, Dens E G (k.map keyD) (k.map kV)
  | [] => rfl
  | .inl i :: r => ⟨.int i, r.map kV, rfl, rfl, dens_key r⟩
  | .inr x :: r => ⟨.str x, r.map kV, rfl, rfl, dens_key r⟩
theorem den_tkey {E : En} {G : Hp} {k : List Key} {b : Addr} (h : G b = some (.tup (k.map kV))) : Den E G (tkeyD k) (.ref b) := ⟨b, _, rfl, h, dens_key k⟩
theorem reads_atoms {h : Heap} : ∀ {k : List Key} {us : List Value} {as : List Addr}, ReadsAll h us (pyDs (k.map keyD)) as → as = []
  | [], _, _, r => by cases r; rfl
  | .inl i :: k, _, _, r => by
    cases r with
    | cons a b =>
      cases (show Reads h _ (.int i) _ from a)
      rw [reads_atoms b] <;> rfl
  | .inr x :: k, _, _, r => by
    cases r with
    | cons a b =>
      cases (show Reads h _ (.str x) _ from a)
      rw [reads_atoms b] <;> rfl
theorem reads_key {h : Heap} {k : List Key} {u : Value} {as : List Addr} (r : Reads h u (pyD (tkeyD k)) as) : as = [] := by
  cases (show Reads h u (.tuple (pyDs (k.map keyD))) as from r) with
  | tuple h1 h2 h3 h4 => exact reads_atoms h4
def e0 (K : PySem.W.Frag) : En := ⟨K, fun _ => none, none⟩
theorem call_sortT {X : Cx} (hcalm : X.calm = true) (hu : X.A.units + 100 < cLine) : CallR X (.builtin "sorted") rSortT := by
  intro pins s σ H xs us Q I r h
  obtain ⟨d, kvs, rfl, hd, hok, q⟩ := h
  obtain ⟨u, rfl, rx⟩ := r.one
  cases rx
  obtain ⟨z, hs, ks, pr, o, es, ep, ho, hx, hdt, he, hn⟩ := (show ObjOk X.prog X.w H s.heap d (.dT kvs) from I.hok d _ hd)
  have l1 : es.size = ks.length := size_of_entries he
  have l2 : kvs.length = ks.length := Paired.length pr
  refine Calls.call_function_entry PyProof.Rows.kind_sorted PyProof.Rows.plain_sorted PyProof.Rows.entry_sorted (PyProof.Rows.args_sorted1 _) ?_
  unfold Builtin.«sorted»
  refine wpAny_bind (m := checkCount "sorted" 1 1 _) (wpAny_pure ?_)
  refine wpAny_bind (PySem.W.kdu_collect (A := X.A.in1) (kdl_raw hs hx hdt) (I.ok.hd hcalm) ho (by omega) fun h' tk acc' kp it => ?_)
  have ea : acc'.toList = ks.map fun x => Value.ref x.2.1 := by
    have hl : acc'.toList.length = ks.length := by rw [Array.length_toList, it.1]; exact l1
    apply List.ext_getElem?
    intro j
    rw [List.getElem?_map]
    cases hj : acc'.toList[j]? with
    | none =>
      have h1 := List.getElem?_eq_none_iff.mp hj
      rw [List.getElem?_eq_none (by omega)]
      all_goals rfl
    | some v =>
      obtain ⟨en, hen, hv⟩ := it.2 j v (by rw [← Array.getElem?_toList]; exact hj)
      have qe := entry_at he j
      rw [hen] at qe
      cases hb : ks[j]? with
      | none =>
        rw [hb] at qe
        exact nomatch (show some en = none from qe)
      | some b =>
        rw [hb] at qe
        have e2 : en = entryOfKey (tupleKind (mixKind X.prog X.w)) b := Option.some.inj qe
        rw [hv, e2]
        all_goals rfl
  -- the keys with their tuples
  have hkeys := isKeys_of pr
  have zip : ∀ {kvs : List (List Key × V)} {bs : List Addr}, IsKeys H kvs bs → ∃ zs : List (D × V), zs.map (·.1) = (kvs.map (·.1)).map tkeyD ∧ zs.map (·.2) = bs.map V.ref ∧ ∀ z ∈ zs, ∃ k b, z.1 = tkeyD k ∧ z.2 = .ref b ∧ H b = some (.tup (k.map kV)) := by
    intro kvs bs hk
    unfold IsKeys at hk
    induction hk with
    | nil => exact ⟨[], rfl, rfl, fun _ z => nomatch z⟩
    | @cons p b ps bs h t ih =>
      obtain ⟨zs, k1, k2, k3⟩ := ih
      refine ⟨(tkeyD p.1, .ref b) :: zs, ?_, ?_, fun z hz => ?_⟩
      · show tkeyD p.1 :: zs.map (·.1) = _
        rw [k1] <;> rfl
      · show V.ref b :: zs.map (·.2) = _
        rw [k2] <;> rfl
      · rcases List.mem_cons.mp hz with e | e
        · rw [e]; exact ⟨p.1, b, rfl, rfl, h⟩
        · exact k3 z e
  obtain ⟨zs, k1, k2, k3⟩ := zip hkeys
  have eb : acc'.toList = (ks.map fun x => x.2.1).map Value.ref := by rw [ea, List.map_map]; all_goals rfl
  have rv : Vals (zs.map (·.2)) acc'.toList := by rw [eb, k2]; exact vals_refs _
  have I1 : Inv X pins σ H { s with heap := h', toks := tk } := I.kept kp
  have hal : acc'.toList.length ≤ sizeLine := by rw [ea, List.length_map]; omega
  refine wpAny_bind (wpAny_newList ?_ hal)
  have hoL : (h'.push (seqObj "list" acc'.toList.toArray 0)).get? h'.objs.size = some (seqObj "list" acc'.toList.toArray 0) := Heap.get?_push_size _ rfl
  show wpAny _ _ _ _ _ { s with heap := h'.push (seqObj "list" acc'.toList.toArray 0), toks := tk }
  obtain ⟨ok1, ok2, ok3⟩ := sortOk_ok hok
  rw [← k1] at ok1 ok2 ok3
  have emap : (zs.map fun z => pyD z.1) = (zs.map (·.1)).map pyD := by rw [List.map_map] <;> rfl
  have each := each_vals rv
  have I2 : Inv X pins σ H { s with heap := h'.push (seqObj "list" acc'.toList.toArray 0), toks := tk } := I1.kept (t' := tk) fun b o e => Heap.get?_push_of_some _ e
  have dps : ∀ z ∈ zs, Dp X.K H z.2 (pyD z.1) := fun z hz => by
    obtain ⟨k, b, e1, e2, e3⟩ := k3 z hz
    have hok1 := okDs_mem ok1 z.1 (List.mem_map.mpr ⟨z, hz, rfl⟩)
    rw [e1] at hok1 ⊢
    rw [e2]
    exact Den.dp (E := e0 X.K) _ 60 _ hok1 (den_tkey e3)
  have reads : ∀ {us : List Value} {ys : List (D × V)}, (∀ z ∈ ys, z ∈ zs) → PySem.W.EachIs (fun u (z : D × V) => RelV z.2 u) us ys → PySem.W.EachIs (fun v (b : D × V) => ∃ as, Reads (h'.push (seqObj "list" acc'.toList.toArray 0)) v (pyD b.1) as ∧ h'.objs.size ∉ as) us ys := by
    intro us ys h0 e
    induction e with
    | nil => exact .nil
    | @cons u z us zs' r t ih =>
      refine .cons ?_ (ih fun y hy => h0 y (List.mem_cons_of_mem _ hy))
      obtain ⟨as, q1⟩ := Dp.reads I1 _ _ _ (dps _ (h0 _ (List.mem_cons_self ..))) r
      refine ⟨as, PyProof.Rows.Reads.keeps (fun b o e => Heap.get?_push_of_some _ e) q1, fun hm => ?_⟩
      obtain ⟨k, b, e1, e2, e3⟩ := k3 z (h0 _ (List.mem_cons_self ..))
      rw [e1] at q1
      rw [reads_key q1] at hm
      cases hm
  have dep : ∀ b, b ∈ zs → X.A.in1.units + 1 + (pyD b.1).depth < cLine := fun b hb => by
    have := (okD_lay b.1 60 (okDs_mem ok1 b.1 (List.mem_map.mpr ⟨b, hb, rfl⟩))).2
    show X.A.units + 1 + 1 + (pyD b.1).depth < cLine
    omega
  refine wpAny_bind (wpAny_holding (PySem.W.list_sort_data (R := fun u z => RelV z.2 u) (enc := fun z : D × V => pyD z.1) hoL each (reads (fun _ hz => hz) each) (by rw [emap]; exact ok2) (by rw [emap]; exact ok3) ?_ dep fun out ho he => ?_))
  · have hz := congrArg List.length k2
    rw [List.length_map, List.length_map, List.length_map] at hz
    omega
  · have el : (zs.mergeSort (PySem.W.dataLe false fun z : D × V => pyD z.1)) = zs.mergeSort fun a b => !PySem.W.dataLt (pyD b.1) (pyD a.1) := rfl
    rw [el] at he
    have rv2 := vals_each he
    obtain ⟨e', he'⟩ := PyProof.Rows.sortedHeap_at (vs := acc'.toList) (out := out.toArray) hoL
    have hfr : H h'.objs.size = none := I1.hok.fresh (Nat.le_refl _)
    have keep : ∀ b o, h'.get? b = some o → (PyProof.Rows.sortedHeap (h'.push (seqObj "list" acc'.toList.toArray 0)) h'.objs.size acc'.toList out.toArray).get? b = some o := fun b o e => by
      have hb : b < h'.objs.size := Heap.lt_size e
      rw [PyProof.Rows.sortedHeap_old (Nat.ne_of_lt hb) (by rw [size_push']; exact Nat.lt_succ_of_lt hb)]
      exact Heap.get?_push_of_some _ e
    refine wpAny_pure ⟨_, rfl, .ref h'.objs.size, _, I1.laid (t' := tk) (o := .lst ((zs.mergeSort fun a b => !PySem.W.dataLt (pyD b.1) (pyD a.1)).map (·.2))) keep (Nat.le_refl _) ⟨?_, out, e', rv2, he'⟩, rfl, q _ _ hfr ?_ fun z hz => k3 z ((List.mergeSort_perm _ _).mem_iff.mp hz)⟩
    · rw [List.length_map, (List.mergeSort_perm _ _).length_eq]
      have hz := congrArg List.length k2
      rw [List.length_map, List.length_map, List.length_map] at hz
      omega
    · rw [← k1]
      exact PySem.W.sort_maps (fun z : D × V => z.1) (fun _ _ _ _ => rfl)
def rSortedX (K : PySem.W.Frag) : List V → Hp → VK → Prop := fun xs H Q => rSortT xs H Q ∨ rSortX K xs H Q
theorem call_sortedX {X : Cx} (hcalm : X.calm = true) (hu : X.A.units + 100 < cLine) : CallR X (.builtin "sorted") (rSortedX X.K) := CallR.or2 (call_sortT hcalm hu) (call_sortX hu)
theorem meets_sorted {E : En} : MeetsC E (rSortedX E.K) (biV .sorted) := fun G H H0 xs vs z Q i dx e k => by
  unfold biV at e
  split at e <;> try contradiction
  rename_i x _
  obtain ⟨v, ev, dv⟩ := dens1 dx
  subst ev
  split at e
  · rename_i ks ek
    split at e
    · rename_i hok
      cases e
      obtain ⟨a, kvs, h1, h2, h3, h4⟩ := keysT_sq i dv ek
      subst h1
      subst h3
      refine .inl ⟨a, kvs, rfl, h2, hok, fun l zs hl e1 e2 => ?_⟩
      have g1 := Gr.tups i
      have g2 : Gr (tups G H) H (tups G H) (upd H l (.lst (zs.map (·.2)))) := Gr.loose g1.i hl
      refine k _ _ _ (g1.trans g2) ?_
      rw [← e1]
      refine newL g1.i hl (zip_dens fun z hz => ?_)
      obtain ⟨k, b, q1, q2, q3⟩ := e2 z hz
      rw [q1, q2]
      exact den_tkey (tups_at i q3)
    · cases e
  · split at e
    · rename_i ds es
      split at e
      · rename_i hok
        cases e
        exact .inr (meets_sorted_l i dv es hok k)
      · cases e
    · cases e
end DE

set_option Elab.async false
set_option linter.all false
set_option maxRecDepth 100000
set_option maxHeartbeats 4000000
/-! DE6: where a body runs (Cc), calls, isinstance, an error's fields. -/
namespace DE
open PySem PySem.Spec PyProof.Rows L2

/-- what a class of errors must say -/
structure EcC (K : PySem.W.Frag) (A : Addr) : Prop where
  hcl : (PySem.W.clsIn K A).isSome = true
  hga : PySem.W.findIn K (.ref A) "__getattribute__" = some (some (.builtin "BaseException.__getattribute__"))
  hgt : PySem.W.findIn K (.ref A) "__getattr__" = some none
  hsub : PySem.W.subIn K (.ref A) (.type "BaseException") = some true
  ha : PySem.W.findIn K (.ref A) "__class__" = some (some (.builtin "object.__class__"))
  hn : PySem.W.specialIn K (.builtin "object.__class__") "__get__" = some (some (.builtin "getset_descriptor.__get__"))
  htk : PySem.W.takesIn K (.builtin "object.__class__") = some true
  hm : PySem.W.mroIn K A (.type "object") = some true
  hd : PySem.W.hasDictIn K A = true
/-- the name x stands for the class cx -/
def ClOk (E : En) (x : Str) (cx : V) (cv : Value) : Prop := ClsV cx cv ∧ (E.mg x = some cv ∨ (E.mg x = none ∧ bootBuiltins x = some cv ∧ x ≠ "__name__"))
/-- the built-in names that a text may use -/
def bNames : List Str := ["len", "abs", "int", "tuple", "list", "sorted", "min", "max", "sum", "all", "any", "isinstance", "range", "bool", "str", "dict", "reversed", "ValueError"]
/-- the tables of classes -/
structure Tab (E : En) (C : Cfg) : Prop where
  isa : ∀ c x b, C.isa c x = some b → ∃ A cx cv, E.mg c = some (.ref A) ∧ EcC E.K A ∧ ClOk E x cx cv ∧ PySem.W.kitOne E.K (.ref A) cv = some b ∧ PySem.W.exmOne E.K (.ref A) cv = some b
  fld : ∀ c n, C.fld c n = true → ∃ A, E.mg c = some (.ref A) ∧ EcC E.K A ∧ PySem.W.findIn E.K (.ref A) n = some none
  blt : ∀ x ∈ bNames, E.mg x = none

/-! ### what a def promises, by data -/
def spM (E : En) (fn : Fn) : Sp := fun vs H Q Ee => ∃ ds G, Ex G H ∧ Dens E G ds vs ∧ ds.length = fn.n ∧ QA E (fun cls d _ H' => Ee cls d H') [] G H (fun r G' H' => isBr r = false ∧ ∀ v, DenR E G' H' H r v → Q v H') (fn.m ds)
structure FnFact (P : Program) (w : World) (K : PySem.W.Frag) (mg : Str → Option Value) (base : Heap) (fn : Fn) (k : Nat) : Prop where
  ex : ∃ f fd ps, mg fn.name = some (.ref f) ∧ PySem.W.keepIn K (.ref f) = true ∧ Binds K fd ps [] ∧ FnOk P w K mg base (L2N.CX P w) k f fd ps (spM ⟨K, mg, none⟩ fn)
/-- a def that is called while an exception is handled; it lets none out -/
structure FnHx (P : Program) (w : World) (K : PySem.W.Frag) (mg : Str → Option Value) (base : Heap) (k : Nat) (f : Addr) (fd : FuncData) (ps : List Str) (fn : Fn) : Prop where
  run : ∀ (A : Around) (outer : List Env) (s : Shared) (H : Hp) (args : Args) (us : List Value) (vs : List V) (Q : VK) (p : Addr × Obj) (C dd : Addr), L2H.RoomH k A → L2H.Hot1 A p → L2H.PinOk outer H s p → p.2.cls = .ref C → p.2.dict = some dd → Env0 P w K mg base A outer s H →
    BindsTo s fd args (ps.zip us) → Vals vs us → us.length = ps.length → spM ⟨K, mg, some (p.1, C, dd)⟩ fn vs H Q (fun _ _ _ => False) → codeAny (model P w) A (.call (.ref f) args) (CR (L2N.CX P w) outer P w H s Q (fun _ _ _ => False)) s
  len : ps.length = fn.n
structure FnHFact (P : Program) (w : World) (K : PySem.W.Frag) (mg : Str → Option Value) (base : Heap) (fn : Fn) (k : Nat) : Prop where
  ex : ∃ f fd ps, mg fn.name = some (.ref f) ∧ PySem.W.keepIn K (.ref f) = true ∧ Binds K fd ps [] ∧ FnHx P w K mg base k f fd ps fn

abbrev enX (X : Cx) (px : Option (Addr × Addr × Addr)) : En := ⟨X.K, X.mg, px⟩
/-- the exception at hand is pinned -/
def HotP (X : Cx) (px : Option (Addr × Addr × Addr)) : Prop := ∃ a C dd oe, px = some (a, C, dd) ∧ (a, oe) ∈ X.pn ∧ L2H.Hot1 X.A (a, oe) ∧ oe.cls = .ref C ∧ oe.dict = some dd
inductive Mode (X : Cx) (px : Option (Addr × Addr × Addr)) (C : Cfg) (W : WX) (k : Nat) : Bool → Prop where
  | calm (hc : X.calm = true) (hp : px = none) (r : Room k X.A) (f : ∀ (j : Nat) (fn : Fn), C.T[j]? = some fn → FnFact X.prog X.w X.K X.mg X.base fn k) : Mode X px C W k false
  | hot (hW : W = fun _ _ _ _ => False) (h : HotP X px) (r : L2H.RoomH k X.A) (f : ∀ (j : Nat) (fn : Fn), C.T[j]? = some fn → FnHFact X.prog X.w X.K X.mg X.base fn k) : Mode X px C W k true
structure Cc (X : Cx) (px : Option (Addr × Addr × Addr)) (C : Cfg) (W : WX) (k : Nat) (hh : Bool) : Prop where
  nd : X.N.Nodup
  tk : L2N.Takes X W
  tab : Tab (enX X px) C
  mode : Mode X px C W k hh
section
variable {X : Cx} {px : Option (Addr × Addr × Addr)} {C : Cfg} {W : WX} {k : Nat} {hh : Bool}
theorem Cc.units (c : Cc X px C W k hh) : X.A.units + 100 < cLine := by
  cases c.mode with
  | calm _ _ r _ => have := r.un; omega
  | hot _ _ r _ => have := r.un; omega

/-! ### calls -/
theorem toDs_any {E : En} {G H H0 : Hp} : ∀ {rs : List RV} {vs : List V}, Ex G H → DenRs E G H H0 rs vs → ∃ G2, Ex G G2 ∧ Ex G2 H ∧ Dens E G2 (rs.map RV.d) vs ∧ ∀ a o, G2 a = some o → G a = none → (∀ vs, o ≠ .tup vs) ∧ ∀ fs, o ≠ .xd fs
  | [], vs, i, h => ⟨G, Ex.refl _, i, h, fun a o q1 q2 => by rw [q2] at q1; cases q1⟩
  | r :: rs, vs, i, h => by
    obtain ⟨v, ws, h1, h2, h3⟩ := h
    obtain ⟨G1, a1, a2, a3, a4⟩ := toDs_any i h3
    have hv : ∃ G2, Ex G1 G2 ∧ Ex G2 H ∧ Den E G2 r.d v ∧ ∀ a o, G2 a = some o → G a = none → (∀ vs, o ≠ .tup vs) ∧ ∀ fs, o ≠ .xd fs := by
      have go : ∀ {o : OV} {l : Addr}, v = .ref l → DenO E G H l o → ∃ G2, Ex G1 G2 ∧ Ex G2 H ∧ Den E G2 o.d v ∧ ∀ a o, G2 a = some o → G a = none → (∀ vs, o ≠ .tup vs) ∧ ∀ fs, o ≠ .xd fs := by
        intro o l hv ho
        subst hv
        have ho1 := ho.mono a1 (Ex.refl H)
        cases hg : G1 l with
        | none =>
          obtain ⟨u, k1, k2, k3, k4⟩ := ho1.frz a2 hg
          refine ⟨_, k2, k3, k4, fun a o' q1 q2 => ?_⟩
          by_cases ha : a = l
          · subst ha
            rw [upd_same] at q1
            cases q1
            obtain ⟨o3, m1, m2, m3⟩ := ho1.mb
            rw [k1] at m1
            cases m1
            exact ⟨m2, m3⟩
          · rw [upd_ne ha] at q1
            exact a4 a o' q1 q2
        | some u =>
          have hu := a2 l u hg
          cases o with
          | l ds =>
            obtain ⟨vs', q1, q2⟩ := ho1
            rw [hu] at q1
            cases q1
            exact ⟨G1, Ex.refl _, a2, ⟨l, vs', rfl, .inl (.inl hg), q2⟩, a4⟩
          | tT ks ds =>
            obtain ⟨vs', q1, q2, q3⟩ := ho1
            rw [hu] at q1
            cases q1
            exact ⟨G1, Ex.refl _, a2, ⟨l, vs', rfl, hg, q2, q3⟩, a4⟩
          | tK ks ds =>
            obtain ⟨vs', q1, q2, q3⟩ := ho1
            rw [hu] at q1
            cases q1
            exact ⟨G1, Ex.refl _, a2, ⟨l, vs', rfl, hg, q2, q3⟩, a4⟩
      cases r with
      | dat d => exact ⟨G1, Ex.refl _, a2, Den.mono a1 d v h2, a4⟩
      | fr o =>
        obtain ⟨l, e1, _, _, e2⟩ := h2
        exact go e1 e2
      | br o =>
        obtain ⟨l, e1, _, e2⟩ := h2
        exact go e1 e2
    obtain ⟨G2, b1, b2, b3, b4⟩ := hv
    exact ⟨G2, a1.trans b1, b2, ⟨v, ws, h1, b3, Dens.mono b1 _ _ a3⟩, b4⟩
/-- where no slot's own object is among them, what is frozen stays frozen -/
theorem toDs_new {E : En} {G H G1 H1 : Hp} : ∀ {rs : List RV} {vs : List V}, anyBr rs = false → Gr G H G1 H1 → DenRs E G1 H1 H rs vs → ∃ G2, Gr G H G2 H1 ∧ Ex G1 G2 ∧ Dens E G2 (rs.map RV.d) vs
  | [], vs, _, g, h => ⟨G1, g, Ex.refl _, h⟩
  | r :: rs, vs, hb, g, h => by
    obtain ⟨v, ws, h1, h2, h3⟩ := h
    have hb' : (isBr r || anyBr rs) = false := hb
    rw [Bool.or_eq_false_iff] at hb'
    obtain ⟨G2, a1, a2, a3⟩ := toDs_new hb'.2 g h3
    have go : ∀ {o : OV} {l : Addr}, v = .ref l → H l = none → DenO E G1 H1 l o → ∃ G3, Gr G H G3 H1 ∧ Ex G2 G3 ∧ Den E G3 o.d v := by
      intro o l hv h0 ho
      subst hv
      have ho1 := ho.mono a2 (Ex.refl H1)
      cases hg : G2 l with
      | none =>
        obtain ⟨u, k1, k2, k3, k4⟩ := ho1.frz a1.i hg
        refine ⟨_, ⟨a1.g.trans k2, a1.h, k3, fun b q1 q2 => ?_⟩, k2, k4⟩
        have hne : b ≠ l := fun z => q2.ne (by rw [z]; exact h0)
        rw [upd_ne hne]
        exact a1.n b q1 q2
      | some u =>
        have hu := a1.i l u hg
        cases o with
        | l ds =>
          obtain ⟨vs', q1, q2⟩ := ho1
          rw [hu] at q1
          cases q1
          exact ⟨G2, a1, Ex.refl _, l, vs', rfl, .inl (.inl hg), q2⟩
        | tT ks ds =>
          obtain ⟨vs', q1, q2, q3⟩ := ho1
          rw [hu] at q1
          cases q1
          exact ⟨G2, a1, Ex.refl _, l, vs', rfl, hg, q2, q3⟩
        | tK ks ds =>
          obtain ⟨vs', q1, q2, q3⟩ := ho1
          rw [hu] at q1
          cases q1
          exact ⟨G2, a1, Ex.refl _, l, vs', rfl, hg, q2, q3⟩
    have hv : ∃ G3, Gr G H G3 H1 ∧ Ex G2 G3 ∧ Den E G3 r.d v := by
      cases r with
      | dat d => exact ⟨G2, a1, Ex.refl _, Den.mono a2 d v h2⟩
      | fr o =>
        obtain ⟨l, e1, e0, _, e2⟩ := h2
        exact go e1 e0 e2
      | br o => exact absurd hb'.1 (by simp [isBr])
    obtain ⟨G3, b1, b2, b3⟩ := hv
    exact ⟨G3, b1, a2.trans b2, v, ws, h1, b3, Dens.mono b2 _ _ a3⟩
mutual
theorem flat_any {E : En} {G G' : Hp} (k : ∀ a vs, G a = some (.tup vs) → G' a = some (.tup vs)) : ∀ (d : D) (v : V), flatD d = true → Den E G d v → Den E G' d v
  | .non, v, _, h => h
  | .bl _, v, _, h => h
  | .int _, v, _, h => h
  | .str _, v, _, h => h
  | .tup ds, v, f, h => by
    obtain ⟨a, vs, h1, h2, h3⟩ := h
    exact ⟨a, vs, h1, k _ _ h2, flats_any k ds vs f h3⟩
  | .lst _, _, f, _ => nomatch f
  | .dicT _ _, _, f, _ => nomatch f
  | .dicK _ _, _, f, _ => nomatch f
  | .exc _ _ _, _, f, _ => nomatch f
theorem flats_any {E : En} {G G' : Hp} (k : ∀ a vs, G a = some (.tup vs) → G' a = some (.tup vs)) : ∀ (ds : List D) (vs : List V), flatDs ds = true → Dens E G ds vs → Dens E G' ds vs
  | [], vs, _, h => h
  | d :: ds, vs, f, h => by
    obtain ⟨v, r, h1, h2, h3⟩ := h
    have f' : (flatD d && flatDs ds) = true := f
    rw [Bool.and_eq_true] at f'
    exact ⟨v, r, h1, flat_any k d v f'.1 h2, flats_any k ds r f'.2 h3⟩
end
theorem flatR_any {E : En} {G G' H H0 : Hp} (k : ∀ a vs, G a = some (.tup vs) → G' a = some (.tup vs)) (kn : ∀ a, G a = none → G' a = none) {r : RV} {v : V} (f : flatR r = true) (x : DenR E G H H0 r v) : DenR E G' H H0 r v := by
  cases r with
  | dat d => exact flat_any k d v f x
  | fr o =>
    obtain ⟨l, e1, e0, e2, e3⟩ := x
    refine ⟨l, e1, e0, kn _ e2, ?_⟩
    cases o with
    | l ds => obtain ⟨vs, q1, q2⟩ := e3; exact ⟨vs, q1, flats_any k _ _ f q2⟩
    | tT ks ds => obtain ⟨vs, q1, q2, q3⟩ := e3; exact ⟨vs, q1, q2, flats_any k _ _ f q3⟩
    | tK ks ds => obtain ⟨vs, q1, q2, q3⟩ := e3; exact ⟨vs, q1, q2, flats_any k _ _ f q3⟩
  | br o => cases f
/-- what a call's frozen part had beyond ours is let go -/
def letGo (G1 G2 G' : Hp) : Hp := fun a => match G1 a, G2 a with
  | none, some _ => none
  | _, _ => G' a
theorem letGo_gr {G1 G2 G' H1 H' : Hp} (a1 : Ex G1 G2) (i1 : Ex G1 H1) (g' : Gr G2 H1 G' H') : Gr G1 H1 (letGo G1 G2 G') H' := by
  refine ⟨fun a o q => ?_, g'.h, fun a o q => ?_, fun b q1 q2 => ?_⟩
  · unfold letGo
    rw [q]
    exact g'.g _ _ (a1 _ _ q)
  · unfold letGo at q
    split at q
    · cases q
    · exact g'.i _ _ q
  · unfold letGo
    cases e : G2 b with
    | none => simp only [q1]; exact g'.n b e q2
    | some u => simp only [q1]
theorem letGo_tup {G1 G2 G' H1 H' : Hp} (g' : Gr G2 H1 G' H') (a4 : ∀ a o, G2 a = some o → G1 a = none → (∀ vs, o ≠ .tup vs) ∧ ∀ fs, o ≠ .xd fs) (a : Addr) (u : HO) (hu : (∃ vs, u = .tup vs) ∨ ∃ fs, u = .xd fs) (e : G' a = some u) : letGo G1 G2 G' a = some u := by
  unfold letGo
  split
  · rename_i o q1 q2
    have h := g'.g _ _ q2
    rw [e] at h
    cases h
    obtain ⟨m1, m2⟩ := a4 _ _ q2 q1
    rcases hu with ⟨vs, rfl⟩ | ⟨fs, rfl⟩
    · exact absurd rfl (m1 vs)
    · exact absurd rfl (m2 fs)
  · exact e
/-- the arguments handed to a def whose promise is by data -/
theorem call_go {E : En} {fn : Fn} {σ : L2.St} {G H G1 H1 : Hp} {rs : List RV} {vs : List V} {Q : VK} (g : Gr G H G1 H1) (dv : DenRs E G1 H1 H rs vs) (h : QA E W σ G H (RE E H Q) (callV fn rs)) :
    spM E fn vs H1 Q (fun cls d H' => W cls d σ H') := by
  unfold callV at h
  split at h
  · rename_i hn
    cases hb : anyBr rs with
    | false =>
      obtain ⟨G2, a1, a2, a3⟩ := toDs_new hb g dv
      refine ⟨rs.map RV.d, G2, a1.i, a3, by rw [List.length_map]; exact hn, ?_⟩
      rw [hb] at h
      cases hm : fn.m (rs.map RV.d) with
      | none => rw [hm] at h; exact h.elim
      | some y =>
        rw [hm] at h
        cases y with
        | error e =>
          have h' : QA E W σ G H (RE E H Q) (some (.error e)) := by simpa using h
          intro cls d G' H' g' dx
          exact h' cls d G' H' (a1.trans g') dx
        | ok r =>
          cases hr : isBr r with
          | true => simp only [hr, true_or, if_true] at h; exact h.elim
          | false =>
            have h' : QA E W σ G H (RE E H Q) (some (.ok r)) := by simpa [hr] using h
            intro G' H' g'
            exact ⟨hr, fun v dr => h' G' H' (a1.trans g') v (dr.back g.h)⟩
    | true =>
      obtain ⟨G2, a1, a2, a3, a4⟩ := toDs_any g.i dv
      refine ⟨rs.map RV.d, G2, a2, a3, by rw [List.length_map]; exact hn, ?_⟩
      rw [hb] at h
      cases hm : fn.m (rs.map RV.d) with
      | none => rw [hm] at h; exact h.elim
      | some y =>
        rw [hm] at h
        cases y with
        | error e =>
          cases hs : flatDs e.fs with
          | false => simp only [hs, and_self, if_true] at h; exact h.elim
          | true =>
            have h' : QA E W σ G H (RE E H Q) (some (.error e)) := by simpa [hs] using h
            intro cls d G' H' g' dx
            obtain ⟨K, dd, fs, x1, x2, x3, x4, x5, x6⟩ := dx
            exact h' cls d (letGo G1 G2 G') H' (g.trans (letGo_gr a1 g.i g')) ⟨K, dd, fs, x1, x2, x3, letGo_tup g' a4 _ _ (.inr ⟨_, rfl⟩) x4, x5, flats_any (fun a vs q => letGo_tup g' a4 _ _ (.inl ⟨_, rfl⟩) q) _ _ hs x6⟩
        | ok r =>
          cases hr : isBr r with
          | true => simp only [hr, true_or, if_true] at h; exact h.elim
          | false =>
            cases hs : flatR r with
            | false => simp only [hs, hr, and_self, or_true, if_true] at h; exact h.elim
            | true =>
              have h' : QA E W σ G H (RE E H Q) (some (.ok r)) := by simpa [hr, hs] using h
              intro G' H' g'
              refine ⟨hr, fun v dr => h' (letGo G1 G2 G') H' (g.trans (letGo_gr a1 g.i g')) v (flatR_any (fun a vs q => letGo_tup g' a4 _ _ (.inl ⟨_, rfl⟩) q) (fun a q => ?_) hs (dr.back g.h))⟩
              unfold letGo
              split
              · rfl
              · exact q
  · exact h.elim

/-- a call in the suite -/
theorem run_fnX {X : Cx} {k : Nat} {f C dd : Addr} {fd : FuncData} {ps : List Str} {fn : Fn} {p : Addr × Obj} {pins : List (Addr × Obj)} {σ : L2.St} {H : Hp} {s : Shared} {Q : VK} {us : List Value} {vs : List V} (F : FnHx X.prog X.w X.K X.mg X.base k f fd ps fn) (hr : L2H.RoomH k X.A)
    (hot : L2H.Hot1 X.A p) (hp : p ∈ X.pn) (hC : p.2.cls = .ref C) (hd : p.2.dict = some dd) (hb : Binds X.K fd ps []) (hx : PassesAt (L2N.CX X.prog X.w) X σ (fun _ _ _ => False))
    (I : Inv X pins σ H s) (r : Vals vs us) (h : spM ⟨X.K, X.mg, some (p.1, C, dd)⟩ fn vs H Q (fun _ _ _ => False)) : wpAny (model X.prog X.w) X.A (call (.ref f) us) (EP X pins σ Q) X.xe s := by
  have hl : us.length = ps.length := by
    rw [← r.length, F.len]
    obtain ⟨ds, G, _, h2, h3, _⟩ := h
    rw [← h3]
    exact h2.length
  have b := hb s us I.kIn (by rw [List.append_nil]; exact hl)
  rw [List.append_nil] at b
  have P1 := I.pin p (List.mem_append_left _ hp)
  have hpin : L2H.PinOk X.stack H s p := ⟨P1.1, P1.2.1, fun hm => (List.mem_cons.mp (I.stkSub p.1 hm)).elim P1.2.2.1 P1.2.2.2.1, P1.2.2.2.2⟩
  refine wpAny_call (codeAny_mono (F.run X.A X.stack s H ⟨us, []⟩ us vs Q p C dd hr hot hpin hC hd I.env0 b r hl h) fun r s' hq => ?_)
  cases r with
  | error e => exact hx pins H s e s' I hq
  | ok fl =>
    cases fl with
    | ret u => exact I.after hq
    | next => exact False.elim hq
    | brk => exact False.elim hq
    | cont => exact False.elim hq
/-- f(e, ..), f a def of the text -/
theorem pe_callD (c : Cc X px C W k hh) {j : Nat} {fn : Fn} {e : Expr} {es : List Expr} {p pos : Pos} {f : Rho → Ans (List RV)} (hj : C.T[j]? = some fn) (hg : Gl X fn.name) (hdb : (fn.name == ("__debug__" : Str)) = false) (ha : PA X (e :: es) (cA (enX X px) W f))
    (he : starEach (e :: es) X.env = (false, eval e X.env) :: starEach es X.env) (hpl : (backTo pos (starEach es X.env)).any (·.1) = false) :
    PE X (.Call (.Name fn.name p) (e :: es) [] pos) (cE (enX X px) W fun ρ => bindR (f ρ) fun rs => callV fn rs) := by
  have hx : ∀ σ, PassesAt (L2N.CX X.prog X.w) X σ (L2.WE W σ) := fun σ => L2N.passAt c.tk σ
  have key : ∀ {σ : L2.St} {H : Hp} {Q : VK}, cE (enX X px) W (fun ρ => bindR (f ρ) fun rs => callV fn rs) σ H Q → cA (enX X px) W f σ H fun vs H1 => spM (enX X px) fn vs H1 Q (L2.WE W σ) := by
    intro σ H Q h
    obtain ⟨B, ρ, G, i, rp, h⟩ := h
    exact ⟨B, ρ, G, i, rp, h.bind0.imp fun rs G1 H1 g1 q vs dv => call_go g1 dv q⟩
  cases c.mode with
  | calm hc hp r F =>
    obtain ⟨⟨fa, fd, ps, hm, hk, hb, F⟩⟩ := F j fn hj
    subst hp
    exact pe_imp (pe_callS (E := L2.WE W) F r hg hm hk hb hx ha hdb he hpl) fun σ H Q h => key h
  | hot hW hh r F =>
    obtain ⟨⟨fa, fd, ps, hm, hk, hb, F⟩⟩ := F j fn hj
    obtain ⟨a, K, dd, oe, e1, e2, e3, e4, e5⟩ := hh
    subst hW
    subst e1
    refine ⟨fun pins s σ H Q I h => ?_⟩
    refine wpAny_Call_Name_kw (ld_glob I hg hm ?_ hdb)
    refine PySem.W.callWith_K (h₀ := X.base) I.ok.mod.kin hk (thn (ha.run pos pins s σ H _ I (key h)) fun us s1 ⟨vs, H1, I1, r1, q⟩ => ⟨I1.kIn, ?_⟩) he hpl
    exact run_fnX (p := (a, oe)) F r e3 e2 e4 e5 hb (hx σ) I1 r1 q
end
end DE

set_option Elab.async false
set_option linter.all false
set_option maxRecDepth 100000
set_option maxHeartbeats 4000000
/-! DE6b: isinstance, an error's fields. -/
namespace DE
open PySem PySem.Spec PyProof.Rows L2
section
variable {X : Cx} {px : Option (Addr × Addr × Addr)} {C : Cfg} {W : WX} {k : Nat} {hh : Bool}
theorem Cc.pinned (c : Cc X px C W k hh) {a K dd : Addr} (e : px = some (a, K, dd)) : ∃ oe, (a, oe) ∈ X.pn ∧ L2H.Hot1 X.A (a, oe) ∧ oe.cls = .ref K ∧ oe.dict = some dd := by
  cases c.mode with
  | calm _ hp _ _ => rw [hp] at e; cases e
  | hot _ h _ _ =>
    obtain ⟨a', K', dd', oe, e1, e2, e3, e4, e5⟩ := h
    rw [e1] at e
    cases e
    exact ⟨oe, e2, e3, e4, e5⟩
theorem inst_at {pins : List (Addr × Obj)} {σ : L2.St} {H : Hp} {s : Shared} {a K dd : Addr} {fs : List (Str × V)} (c : Cc X px C W k hh) (e : px = some (a, K, dd)) (I : Inv X pins σ H s) (hd : H dd = some (.xd fs)) :
    ∃ (oe od : Obj) (mA : Str → Option Value), PySem.W.InstAt s.heap a oe K (some od) ∧ (∀ name, PySem.W.lookIn name od = some (mA name)) ∧ ∀ n, RelO (fs.lookup n) (mA n) := by
  obtain ⟨oe, hp, hot, hc, hdd⟩ := c.pinned e
  obtain ⟨ha, _⟩ := I.pin (a, oe) (List.mem_append_left _ hp)
  obtain ⟨_, vs, hv, _⟩ := hot
  have hx : ObjOk X.prog X.w H s.heap dd (.xd fs) := I.hok dd _ hd
  obtain ⟨mA, hns, hr⟩ := hx
  obtain ⟨od, ho, hl⟩ := lookIn_ns hns
  exact ⟨oe, od, mA, ⟨ha, hc, by unfold PySem.W.notCls; rw [hv] <;> rfl, by rw [hdd]; exact ho⟩, hl, hr⟩
/-! ### isinstance -/
def tyVal : Ty → String
  | .non => "NoneType" | .bool => "bool" | .int => "int" | .str => "str" | .tup => "tuple" | .lst => "list" | .dict => "dict"
theorem ty_den {E : En} {G H : Hp} {d : D} {v : V} {t : Ty} (i : Ex G H) (h : Den E G d v) (e : tyD d = some t) : TyX E.K H v (.type (tyVal t)) := by
  cases d with
  | non => cases e; rw [(show v = _ from h)]; exact .base .non
  | bl b => cases e; rw [(show v = _ from h)]; exact .base (.bl b)
  | int b => cases e; rw [(show v = _ from h)]; exact .base (.int b)
  | str b => cases e; rw [(show v = _ from h)]; exact .base (.str b)
  | tup ds => cases e; obtain ⟨a, vs, rfl, h2, _⟩ := h; exact .base (.tup (i _ _ h2))
  | lst ds =>
    cases e
    obtain ⟨a, vs, rfl, h2, _⟩ := h
    rcases h2 with (h2 | ⟨o, h2⟩) | ⟨o, its, n, h2, h3, _⟩
    · exact .base (.lst (i _ _ h2))
    · exact .base (.frz (i _ _ h2))
    · exact .kList h2 h3
  | dicT ks ds => cases e; obtain ⟨a, kvs, rfl, h2, _⟩ := h; exact .base (.dT (i _ _ h2))
  | dicK ks ds => cases e; obtain ⟨a, kvs, rfl, h2, _⟩ := h; exact .base (.dK (i _ _ h2))
  | exc c ns ds => cases e
theorem ty_denR {E : En} {G H H0 : Hp} {x : RV} {v : V} {t : Ty} (i : Ex G H) (h : DenR E G H H0 x v) (e : tyD x.d = some t) : TyX E.K H v (.type (tyVal t)) := by
  have go : ∀ {o : OV} {l : Addr}, v = .ref l → DenO E G H l o → tyD o.d = some t → TyX E.K H v (.type (tyVal t)) := by
    intro o l hv ho e
    subst hv
    cases o with
    | l ds => cases e; obtain ⟨vs, q1, _⟩ := ho; exact .base (.lst q1)
    | tT ks ds => cases e; obtain ⟨vs, q1, _⟩ := ho; exact .base (.dT q1)
    | tK ks ds => cases e; obtain ⟨vs, q1, _⟩ := ho; exact .base (.dK q1)
  cases x with
  | dat d => exact ty_den i h e
  | fr o => obtain ⟨l, e1, _, _, e2⟩ := h; exact go e1 e2 e
  | br o => obtain ⟨l, e1, _, e2⟩ := h; exact go e1 e2 e
def Cl.ty : Cl → String
  | .int => "int" | .bool => "bool" | .str => "str" | .tup => "tuple" | .lst => "list" | .dict => "dict" | .own _ => ""
theorem isTy_kit {t : Ty} {c : Cl} {b : Bool} (e : isTy t c = some b) : kitB (tyVal t) c.ty = some b := by
  cases t <;> cases c <;> (first | (cases e; decide +kernel) | exact nomatch e)
/-- a class's name as a value -/
def tCls (E : En) (y : Str) : TE := fun _ H Q => ∃ cx cv, ClOk E y cx cv ∧ Q cx H
theorem pe_cls {y : Str} {p : Pos} (hg : Gl X y) (hdb : (y == ("__debug__" : Str)) = false) : PE X (.Name y p) (tCls (enX X px) y) := by
  refine ⟨fun pins s σ H Q I h => ?_⟩
  obtain ⟨cx, cv, ⟨hc, ho⟩, q⟩ := h
  have hr : RelV cx cv := by
    cases hc with
    | ty n => rfl
    | own a => rfl
  rcases ho with h | ⟨h1, h2, h3⟩
  · exact (pe_glob hg h hr hdb).run pins s σ H Q I q
  · exact (pe_bltn hg h1 h2 hr h3 hdb).run pins s σ H Q I q
def rIsX0 (E : En) : List V → Hp → VK → Prop := fun xs H Q => ∃ (a K dd : Addr) (fs : List (Str × V)) (c : V) (u : Value) (b : Bool), xs = [.ref a, c] ∧ E.px = some (a, K, dd) ∧ H dd = some (.xd fs) ∧ EcC E.K K ∧ ClsV c u ∧ PySem.W.kitOne E.K (.ref K) u = some b ∧ Q (.bl b) H
def rIsiX (E : En) : List V → Hp → VK → Prop := fun xs H Q => rIsi E.K xs H Q ∨ rIsX0 E xs H Q
theorem call_isiX (c : Cc X px C W k hh) : CallR X (.builtin "isinstance") (rIsiX (enX X px)) := CallR.or2 call_isi fun pins s σ H xs us Q I r h => by
  obtain ⟨a, K, dd, fs, cx, u, b, rfl, e, hd, ec, hc, kk, q⟩ := h
  obtain ⟨u1, u2, rfl, r1, r2⟩ := vals2 r
  cases (show u1 = Value.ref a from r1)
  have e2 := hc.eq r2
  subst e2
  obtain ⟨oe, od, mA, J, _, _⟩ := inst_at c e I hd
  exact PySem.W.kia_one (PySem.W.kitx_exc ec.hcl ec.hga ec.hgt ec.hsub ec.ha ec.hn ec.htk ec.hm) I.kIn J kk (fun z => nomatch z) fun tk => ⟨.bl b, H, I.tok tk, rfl, q⟩
theorem boot_cl {c : Cl} (h : ∀ x, c ≠ .own x) : c.nm ∈ bNames ∧ bootBuiltins c.nm = some (.type c.ty) ∧ c.nm ≠ "__name__" := by
  cases c with
  | own x => exact absurd rfl (h x)
  | _ => exact ⟨by decide +kernel, by decide +kernel, by decide +kernel⟩
theorem isiV_exc {isa : Str → Str → Option Bool} {x : RV} {cl : Cl} {b : Bool} (h : tyD x.d = none) (e : isiV isa x cl = some b) : ∃ kc ns fs cc, x.d = .exc kc ns fs ∧ cl = .own cc ∧ isa kc cc = some b := by
  unfold isiV at e
  rw [h] at e
  simp only at e
  split at e
  · rename_i kc ns fs cc hx
    exact ⟨kc, ns, fs, cc, hx, rfl, e⟩
  · cases e
theorem pe_isi (c : Cc X px C W k hh) {a : Expr} {y : Str} {cl : Cl} {p p2 pos : Pos} {f : Rho → EvR} (hg : Gl X "isinstance") (hgy : Gl X y) (hdb : (y == ("__debug__" : Str)) = false) (hy : cl.nm = y) (ha : PE X a (cE (enX X px) W f))
    (he : starEach [a, .Name y p2] X.env = (false, eval a X.env) :: starEach [.Name y p2] X.env) :
    PE X (.Call (.Name "isinstance" p) [a, .Name y p2] [] pos) (cE (enX X px) W fun ρ => bindR (f ρ) fun x => optR (blR (isiV C.isa x cl))) := by
  have pa : PA X [a, .Name y p2] (tCons (cE (enX X px) W f) (tCons (tCls (enX X px) y) tNil)) := pa_cons ha (pa_cons (pe_cls (px := px) hgy hdb) pa_nil) he
  refine pe_imp (pe_callB (e := a) (es := [.Name y p2]) (call_isiX c) hg (c.tab.blt _ (by decide +kernel)) (by decide +kernel) pa (by decide) (by decide) he rfl) fun σ H Q h => ?_
  obtain ⟨B, ρ, G, i, rp, h⟩ := h
  refine cE_step i rp h fun v x G1 H1 g1 r1 d1 h1 => ?_
  obtain ⟨z, e, q⟩ := h1.opt
  cases eb : isiV C.isa x cl with
  | none => rw [eb] at e; cases e
  | some b =>
    rw [eb] at e
    cases e
    have q0 : Q (.bl b) H1 := q G1 H1 (Gr.refl g1.i) _ rfl
    cases ht : tyD x.d with
    | some t =>
      have e3 : isTy t cl = some b := by
        unfold isiV at eb
        rw [ht] at eb
        exact eb
      have hno : ∀ x, cl ≠ .own x := fun z w => by rw [w] at e3; cases t <;> cases e3
      obtain ⟨b1, b2, b3⟩ := boot_cl hno
      refine ⟨.ty cl.ty, .type cl.ty, ⟨.ty _, .inr ⟨by rw [← hy]; exact c.tab.blt _ b1, by rw [← hy]; exact b2, by rw [← hy]; exact b3⟩⟩, ?_⟩
      exact .inl ⟨v, .ty cl.ty, .type (tyVal t), .type cl.ty, b, rfl, .ty _, ty_denR g1.i d1 ht, kit_ty (isTy_kit e3), q0⟩
    | none =>
      obtain ⟨kc, ns, fs, cc, hx, hcc, eb2⟩ := isiV_exc ht eb
      subst hcc
      obtain ⟨A, cx, cv, t1, t2, t3, t4, t5⟩ := c.tab.isa _ _ _ eb2
      refine ⟨cx, cv, by rw [← hy]; exact t3, ?_⟩
      cases x with
      | dat d =>
        have hx : d = .exc kc ns fs := hx
        subst hx
        obtain ⟨a0, K0, dd, fs', e1, e2, e3, e4, e5, e6⟩ := d1
        subst e1
        have eA : A = K0 := Value.ref.inj (Option.some.inj (t1.symm.trans e3))
        subst eA
        exact .inr ⟨a0, A, dd, fs', cx, cv, b, rfl, e2, g1.i _ _ e4, t2, t3.1, t4, q0⟩
      | fr o => cases o <;> cases hx
      | br o => cases o <;> cases hx
/-! ### an error's field -/
theorem fld_get {E : En} {G : Hp} : ∀ {fs : List (Str × V)} {ds : List D} {f : Str} {d : D}, Dens E G ds (fs.map (·.2)) → fldD (fs.map (·.1)) ds f = some d → ∃ v, fs.lookup f = some v ∧ Den E G d v
  | [], _, _, _, _, e => by simp [fldD] at e
  | (n, v) :: fs, ds, f, d, h, e => by
    cases ds with
    | nil => simp [fldD] at e
    | cons d0 ds =>
      obtain ⟨v', r, h1, h2, h3⟩ := h
      have h1' : v :: fs.map (·.2) = v' :: r := h1
      cases h1'
      have e' : (if f = n then some d0 else fldD (fs.map (·.1)) ds f) = some d := e
      by_cases hf : f = n
      · rw [if_pos hf] at e'
        cases e'
        exact ⟨v, by rw [List.lookup_cons, hf]; simp, h2⟩
      · rw [if_neg hf] at e'
        obtain ⟨w, q1, q2⟩ := fld_get h3 e'
        refine ⟨w, ?_, q2⟩
        rw [List.lookup_cons]
        have : (f == n) = false := by simpa using hf
        rw [this]
        exact q1
theorem pe_attrX (c : Cc X px C W k hh) {e : Expr} {n : Str} {pos : Pos} {f : Rho → EvR} (he : PE X e (cE (enX X px) W f)) (hb : attributeBase e n X.env (eval e X.env) = eval e X.env) :
    PE X (.Attribute e n pos) (cE (enX X px) W fun ρ => bindR (f ρ) fun x => optR (attrV C.fld x n)) := by
  refine ⟨fun pins s σ H Q I h => ?_⟩
  obtain ⟨B, ρ, G, i, rp, h⟩ := h
  refine attr_of hb (thn (he.run pins s σ H _ I (cE_step (Q := fun v H1 => ∃ (x : RV) (G1 : Hp), Ex G1 H1 ∧ DenR (enX X px) G1 H1 H x v ∧ ∃ z, attrV C.fld x n = some z ∧ ∀ u, DenR (enX X px) G1 H1 H z u → Q u H1) i rp h fun v x G1 H1 g1 r1 d1 h1 => by
      obtain ⟨z, e1, q⟩ := h1.opt
      exact ⟨x, G1, g1.i, d1, z, e1, fun u du => q G1 H1 (Gr.refl g1.i) u du⟩)) fun u s1 hh => ?_)
  obtain ⟨v, H1, I1, rv, x, G1, i1, d1, z, e1, q⟩ := hh
  unfold attrV at e1
  split at e1
  · rename_i kc ns fs
    split at e1
    · rename_i hf
      split at e1
      · rename_i d ed
        cases e1
        obtain ⟨a0, K, dd, fs', x1, x2, x3, x4, x5, x6⟩ := d1
        subst x1
        rw [← x5] at ed
        obtain ⟨w, w1, w2⟩ := fld_get x6 ed
        obtain ⟨A, t1, t2, t3⟩ := c.tab.fld _ _ hf
        rw [x3] at t1
        cases t1
        obtain ⟨oe, od, mA, J, hl, hr⟩ := inst_at c x2 I1 (i1 _ _ x4)
        obtain ⟨u', hu, ru⟩ := RelO.some_of (v := w) (o := mA n) (by rw [← w1]; exact hr n)
        obtain rfl : u = Value.ref a0 := rv
        exact HandSPX.exc_get I1.kIn J t2.hga t2.hgt t2.hsub (PySem.W.findObj_own t2.hd t3 rfl (by rw [hl, hu])) (handed_of ru) ⟨w, H1, I1.tok _, ru, q w w2⟩
      · cases e1
    · cases e1
  · cases e1
end
end DE

set_option Elab.async false
set_option linter.all false
set_option maxRecDepth 100000
set_option maxHeartbeats 4000000
/-! DE7: what a tree's look gives: expressions. -/
namespace DE
open PySem PySem.Spec PyProof.Rows L2

/-! ### the looks -/
theorem vis_of {X : Cx} {sc : Scope} {x : Str} (e : X.env.scope = sc) (h : visB sc x = true) : Vis X.env.scope x := by
  unfold visB at h
  rw [e]
  unfold Vis
  split at h
  · rename_i q; exact .inl q
  · rename_i q; exact .inr (.inl q)
  · rename_i q; exact .inr (.inr q)
  · cases h
theorem loc_of {X : Cx} {sc : Scope} {x : Str} (e : X.env.scope = sc) (h : locB sc x = true) : L2.Loc X.env.scope x := by
  unfold locB at h
  rw [e]
  unfold L2.Loc
  split at h
  · rename_i q; exact .inl q
  · rename_i q; exact .inr q
  · cases h
theorem gl_of {X : Cx} {sc : Scope} {x : Str} (e : X.env.scope = sc) (h : glB sc x = true) : Gl X x ∧ (x == ("__debug__" : Str)) = false ∧ x ≠ "__name__" := by
  unfold glB at h
  simp only [Bool.and_eq_true, decide_eq_true_eq, Bool.not_eq_true'] at h
  obtain ⟨⟨h1, h2⟩, h3⟩ := h
  refine ⟨?_, h2, fun z => ?_⟩
  · show X.env.scope.names.lookup x = _
    rw [e]
    exact h1
  · rw [z] at h3
    exact absurd h3 (by decide)
section
variable {N : List Str} {C : Cfg} {h : Bool} {sc : Scope}
theorem ck_star {ie : IE} {e : Expr} (k : ckE N C h sc ie e = true) : notStar e = true := by
  cases e with
  | Starred a b => cases ie <;> simp [ckE] at k
  | _ => rfl
theorem star_cons {e : Expr} {es : List Expr} {env : Env} (k : notStar e = true) : starEach (e :: es) env = (false, eval e env) :: starEach es env := by
  cases e with
  | Starred a b => cases k
  | _ => rfl
theorem ck_slice {ie : IE} {e : Expr} (k : ckE N C h sc ie e = true) : PlainIx e := by
  intro o i
  cases e with
  | Slice a b c d => cases ie <;> simp [ckE] at k
  | _ => rfl
theorem ckA_stars : ∀ {as : IA} {es : List Expr} {env : Env}, ckA N C h sc as es = true → ∀ p ∈ starEach es env, p.1 = false
  | .nil, [], _, _, p, hp => by cases hp
  | .nil, _ :: _, _, k, _, _ => by simp [ckA] at k
  | .cons a r, [], _, k, _, _ => by simp [ckA] at k
  | .cons a r, e :: es, env, k, p, hp => by
    simp only [ckA, Bool.and_eq_true] at k
    rw [star_cons (ck_star k.1)] at hp
    rcases List.mem_cons.mp hp with rfl | hp
    · rfl
    · exact ckA_stars k.2 p hp
theorem plain_args {as : IA} {es : List Expr} {env : Env} {pos : Pos} (k : ckA N C h sc as es = true) : (backTo pos (starEach es env)).any (·.1) = false := by
  rw [List.any_eq_false]
  intro p hp
  unfold backTo at hp
  obtain ⟨⟨b, t⟩, hq, rfl⟩ := List.mem_map.mp hp
  have := ckA_stars k _ hq
  simp only at this ⊢
  rw [this]
  simp
theorem base_of {ie : IE} {e : Expr} {n : Str} {env : Env} (k : ckE N C h sc ie e = true) : attributeBase e n env (eval e env) = eval e env := by
  cases e with
  | Call f as ks pos =>
    cases f with
    | Name id p =>
      cases as with
      | nil => cases ie <;> simp [ckE] at k
      | cons a as => unfold attributeBase; rfl
    | _ => unfold attributeBase; rfl
  | _ => unfold attributeBase; rfl
theorem nomark_ck {ie : IE} {e : Expr} {op : CmpOp} (k : ckE N C h sc ie e = true) : behindInMarks op e = false := by
  cases e with
  | Set a b c => cases ie <;> simp [ckE] at k
  | _ => rfl
end

/-! ### the cases -/
section
variable {X : Cx} {px : Option (Addr × Addr × Addr)} {C : Cfg} {W : WX} {k : Nat} {hh : Bool} {a b d : Expr} {pos : Pos} {f g : Rho → EvR}
abbrev CE' (X : Cx) (px : Option (Addr × Addr × Addr)) (W : WX) (f : Rho → EvR) : TE := cE (enX X px) W f
theorem c_var {i : Nat} {x : Str} (hN : X.N[i]? = some x) (hv : Vis X.env.scope x) (hd : (x == ("__debug__" : Str)) = false) (hc : (x == ("__classdict__" : Str)) = false) : PE X (.Name x pos) (cE (enX X px) W (evE C (.var i))) := by
  refine pe_imp (pe_var hN hv hd hc) fun σ H Q q => ?_
  obtain ⟨B, ρ, G, i', r, q⟩ := q
  unfold evE at q
  split at q
  · rename_i d e
    obtain ⟨v, e1, dv⟩ := r.at_ _ _ e
    exact ⟨v, e1, q G H (Gr.refl i') v dv⟩
  · rename_i o e
    obtain ⟨v, e1, l, e2, e3, e4⟩ := r.at_ _ _ e
    exact ⟨v, e1, q G H (Gr.refl i') v ⟨l, e2, e3, e4⟩⟩
  · exact q.elim
theorem c_const {e : Expr} {v : V} {dd : D} (hp : PE X e (tC v)) (hd : ∀ G : Hp, Den (enX X px) G dd v) {f : Rho → EvR} (hf : ∀ ρ, f ρ = some (.ok (.dat dd))) : PE X e (cE (enX X px) W f) := by
  refine pe_imp hp fun σ H Q q => ?_
  obtain ⟨B, ρ, G, i, r, q⟩ := q
  rw [hf] at q
  exact q G H (Gr.refl i) v (hd G)
theorem c_bin (c : Cc X px C W k hh) {o : BOp} (ha : PE X a (cE (enX X px) W f)) (hb : PE X b (cE (enX X px) W g)) : PE X (.BinOp a o.py b pos) (cE (enX X px) W fun ρ => bindR (f ρ) fun x => bindR (g ρ) fun y => optR (binV o x y)) := by
  cases o with
  | add => exact pe_imp (pe_op op_addX ha hb) fun σ H Q q => cE_op2 (E := enX X px) meets_add q
  | sub => exact pe_imp (pe_op op_sub ha hb) fun σ H Q q => cE_op2 (E := enX X px) meets_sub q
  | mul => exact pe_imp (pe_op op_mul ha hb) fun σ H Q q => cE_op2 (E := enX X px) meets_mul q
  | fdiv => exact pe_imp (pe_op op_fdivN ha hb) fun σ H Q q => cE_op2 (E := enX X px) meets_fdiv q
  | mod => exact pe_imp (pe_op op_modN ha hb) fun σ H Q q => cE_op2 (E := enX X px) meets_mod q
  | pow => exact pe_imp (pe_op op_pow ha hb) fun σ H Q q => cE_op2 (E := enX X px) meets_pow q
theorem c_neg (ha : PE X a (cE (enX X px) W f)) : PE X (.UnaryOp .USub a pos) (cE (enX X px) W fun ρ => bindR (f ρ) fun x => match x with
    | .dat (.int i) => some (.ok (.dat (.int (-i))))
    | _ => none) := by
  refine pe_imp (pe_un un_neg ha) fun σ H Q h => ?_
  obtain ⟨B, ρ, G, i, rp, h⟩ := h
  refine cE_step i rp h fun v x G1 H1 g1 r1 d1 h1 => ?_
  split at h1
  · exact ⟨_, d1, h1 G1 H1 (Gr.refl g1.i) _ rfl⟩
  · exact h1.elim
/-- a comparison's rule, met by data -/
def CmpR (X : Cx) (px : Option (Addr × Addr × Addr)) (o : COp) : Prop := ∃ r : R2, OpR X (compareOp o.py) r ∧ Meets2B (enX X px) r (cmpV o)
theorem no_meets {E : En} : Meets2B E (fun _ _ _ _ => False) fun _ _ => none := fun G H H0 x y v u z Q i dx dy e k => nomatch e
theorem cmp_any (c : Cc X px C W k hh) (o : COp) : CmpR X px o := by
  have hu : X.A.units + 64 < cLine := by have := c.units; omega
  cases o with
  | lt => exact ⟨_, op_ltX hu, meets_lt⟩
  | le => exact ⟨_, op_le, meets_le⟩
  | gt => exact ⟨_, op_gt, meets_gt⟩
  | ge => exact ⟨_, op_ge, meets_ge⟩
  | eq => exact ⟨_, op_eqX hu, meets_eq⟩
  | ne => exact ⟨_, op_neX hu, meets_ne⟩
  | isin => exact ⟨_, op_in_seq, meets_in⟩
  | notin => exact ⟨_, op_notIn_seq, meets_notin⟩
  | is_ => exact ⟨_, op_isX, meets_is⟩
  | isnt => exact ⟨_, op_isntX, meets_isnt⟩
theorem c_cmp (c : Cc X px C W k hh) {o : COp} (ha : PE X a (cE (enX X px) W f)) (hb : PE X b (cE (enX X px) W g)) (hm : behindInMarks o.py b = false) : PE X (.Compare a [o.py] [b] pos) (cE (enX X px) W fun ρ => bindR (f ρ) fun x => bindR (g ρ) fun y => optR (blR (cmpV o x y))) := by
  obtain ⟨r, h1, h2⟩ := cmp_any c o
  exact pe_imp (pe_cmpR h1 ha hb hm) fun σ H Q q => cE_op2 h2.to q
/-- a truth value's answer, from a reading of a value -/
theorem cT_cmp {E : En} {W : WX} {f g : Rho → EvR} {r : R2} {o : RV → RV → Option Bool} (m : Meets2B E r o) {σ : L2.St} {H : Hp} {Q : Bool → Hp → Prop} (h : cT E W (fun ρ => bindR (f ρ) fun x => bindR (g ρ) fun y => optR (o x y)) σ H Q) :
    tTest (tOp r (cE E W f) (cE E W g)) σ H Q := by
  obtain ⟨B, ρ, G, i, rp, h⟩ := h
  refine cE_step i rp h fun v x G1 H1 g1 r1 d1 h1 => ?_
  refine cE_step g1.i r1 h1 fun u y G2 H2 g2 r2 d2 h2 => ?_
  obtain ⟨z, e, q⟩ := h2.opt
  exact m G2 H2 H x y v u z _ g2.i (d1.mono g2) (d2.back g1.h) e ⟨z, rfl, q G2 H2 (Gr.refl g2.i)⟩
theorem t_cmp (c : Cc X px C W k hh) {o : COp} (ha : PE X a (cE (enX X px) W f)) (hb : PE X b (cE (enX X px) W g)) (hm : behindInMarks o.py b = false) : PT X (.Compare a [o.py] [b] pos) (cT (enX X px) W fun ρ => bindR (f ρ) fun x => bindR (g ρ) fun y => optR (cmpV o x y)) := by
  obtain ⟨r, h1, h2⟩ := cmp_any c o
  exact pt_imp (pt_cmpR h1 ha hb hm) fun σ H Q q => cT_cmp h2 q
variable {e' : Rho → EvR}
theorem c_chain (c : Cc X px C W k hh) {o o' : COp} (ha : PE X a (cE (enX X px) W f)) (hb : PE X b (cE (enX X px) W g)) (hd : PE X d (cE (enX X px) W e')) (hm : lastMarks [o.py, o'.py] [b, d] = false) :
    PE X (.Compare a [o.py, o'.py] [b, d] pos) (cE (enX X px) W fun ρ => bindR (f ρ) fun x => bindR (g ρ) fun y => bindR (optR (cmpV o x y)) fun k =>
      match k with
      | true => bindR (e' ρ) fun z => optR (blR (cmpV o' y z))
      | false => some (.ok (.dat (.bl false)))) := by
  obtain ⟨r, h1, h2⟩ := cmp_any c o
  obtain ⟨r', h1', h2'⟩ := cmp_any c o'
  refine pe_imp (pe_chain h1 h1' ha hb hd hm) fun σ H Q h => ?_
  obtain ⟨B, ρ, G, i, rp, h⟩ := h
  refine cE_step i rp h fun v x G1 H1 g1 r1 d1 h1 => ?_
  refine cE_step g1.i r1 h1 fun u y G2 H2 g2 r2 d2 h2q => ?_
  cases q : cmpV o x y with
  | none => rw [q] at h2q; exact h2q.elim
  | some bb =>
    rw [q] at h2q
    refine h2 G2 H2 H x y v u bb _ g2.i (d1.mono g2) (d2.back g1.h) q ⟨bb, rfl, ?_⟩
    cases bb with
    | false =>
      rw [if_neg (by decide)]
      exact (show QA _ _ _ _ _ _ (some (.ok _)) from h2q) G2 H2 (Gr.refl g2.i) _ rfl
    | true =>
      rw [if_pos rfl]
      refine cE_step g2.i r2 (show QA _ _ _ _ _ _ (bindR (e' ρ) _) from h2q) fun w z G3 H3 g3 r3 d3 h3 => ?_
      obtain ⟨z', e, k⟩ := h3.opt
      exact h2'.to G3 H3 H y z u w z' Q g3.i ((d2.mono g3).back g1.h) (d3.back (g1.trans g2).h) e fun w' G' H' g4 dw => k G' H' g4 w' (dw.back ((g1.trans g2).trans g3).h)
theorem t_chain (c : Cc X px C W k hh) {o o' : COp} (ha : PE X a (cE (enX X px) W f)) (hb : PE X b (cE (enX X px) W g)) (hd : PE X d (cE (enX X px) W e')) (hm : lastMarks [o.py, o'.py] [b, d] = false) :
    PT X (.Compare a [o.py, o'.py] [b, d] pos) (cT (enX X px) W fun ρ => bindR (f ρ) fun x => bindR (g ρ) fun y => bindR (optR (cmpV o x y)) fun k =>
      match k with
      | true => bindR (e' ρ) fun z => optR (cmpV o' y z)
      | false => some (.ok false)) := by
  obtain ⟨r, h1, h2⟩ := cmp_any c o
  obtain ⟨r', h1', h2'⟩ := cmp_any c o'
  refine pt_imp (pt_chain h1 h1' ha hb hd hm) fun σ H Q h => ?_
  obtain ⟨B, ρ, G, i, rp, h⟩ := h
  refine cE_step i rp h fun v x G1 H1 g1 r1 d1 h1 => ?_
  refine cE_step g1.i r1 h1 fun u y G2 H2 g2 r2 d2 h2q => ?_
  cases q : cmpV o x y with
  | none => rw [q] at h2q; exact h2q.elim
  | some bb =>
    rw [q] at h2q
    refine h2 G2 H2 H x y v u bb _ g2.i (d1.mono g2) (d2.back g1.h) q ⟨bb, rfl, ?_⟩
    cases bb with
    | false =>
      rw [if_neg (by decide)]
      exact ⟨false, rfl, (show QA _ _ _ _ _ _ (some (.ok _)) from h2q) G2 H2 (Gr.refl g2.i)⟩
    | true =>
      rw [if_pos rfl]
      refine cE_step g2.i r2 (show QA _ _ _ _ _ _ (bindR (e' ρ) _) from h2q) fun w z G3 H3 g3 r3 d3 h3 => ?_
      obtain ⟨z', e, k⟩ := h3.opt
      exact h2' G3 H3 H y z u w z' _ g3.i ((d2.mono g3).back g1.h) (d3.back (g1.trans g2).h) e ⟨z', rfl, k G3 H3 (Gr.refl g3.i)⟩
/-! #### and, or, not, if -/
variable {rest : List Expr} {tf : Rho → Ans Bool}
theorem den_bl {E : En} {G H H0 : Hp} {kk : Bool} {v : V} (h : DenR E G H H0 (.dat (.bl kk)) v) : v = .bl kk := h
theorem c_and (ha : PE X a (cE (enX X px) W f)) (hb : PE X (.BoolOp .And (b :: rest) pos) (cE (enX X px) W g)) : PE X (.BoolOp .And (a :: b :: rest) pos) (cE (enX X px) W fun ρ => bindR (f ρ) fun x => match x with
    | .dat (.bl true) => g ρ
    | .dat (.bl false) => some (.ok (.dat (.bl false)))
    | _ => none) := by
  refine pe_imp (pe_and ha hb) fun σ H Q h => ?_
  obtain ⟨B, ρ, G, i, rp, h⟩ := h
  refine cE_step i rp h fun v x G1 H1 g1 r1 d1 h1 => ?_
  split at h1
  · exact ⟨true, d1, by rw [if_pos rfl]; exact ⟨B, ρ, G1, g1.i, r1, h1.imp fun z G' H' g' q v' dv => q v' (dv.back g1.h)⟩⟩
  · exact ⟨false, d1, by rw [if_neg (by decide)]; exact h1 G1 H1 (Gr.refl g1.i) _ rfl⟩
  · exact h1.elim
theorem c_or (ha : PE X a (cE (enX X px) W f)) (hb : PE X (.BoolOp .Or (b :: rest) pos) (cE (enX X px) W g)) : PE X (.BoolOp .Or (a :: b :: rest) pos) (cE (enX X px) W fun ρ => bindR (f ρ) fun x => match x with
    | .dat (.bl false) => g ρ
    | .dat (.bl true) => some (.ok (.dat (.bl true)))
    | _ => none) := by
  refine pe_imp (pe_or ha hb) fun σ H Q h => ?_
  obtain ⟨B, ρ, G, i, rp, h⟩ := h
  refine cE_step i rp h fun v x G1 H1 g1 r1 d1 h1 => ?_
  split at h1
  · exact ⟨false, d1, by rw [if_neg (by decide)]; exact ⟨B, ρ, G1, g1.i, r1, h1.imp fun z G' H' g' q v' dv => q v' (dv.back g1.h)⟩⟩
  · exact ⟨true, d1, by rw [if_pos rfl]; exact h1 G1 H1 (Gr.refl g1.i) _ rfl⟩
  · exact h1.elim
theorem c_not (ha : PE X a (cE (enX X px) W f)) : PE X (.UnaryOp .Not a pos) (cE (enX X px) W fun ρ => bindR (f ρ) fun x => match x with
    | .dat (.bl b) => some (.ok (.dat (.bl (!b))))
    | _ => none) := by
  refine pe_imp (pe_not ha) fun σ H Q h => ?_
  obtain ⟨B, ρ, G, i, rp, h⟩ := h
  refine cE_step i rp h fun v x G1 H1 g1 r1 d1 h1 => ?_
  split at h1
  · exact ⟨_, d1, h1 G1 H1 (Gr.refl g1.i) _ rfl⟩
  · exact h1.elim
theorem c_ife (ht : PT X d (cT (enX X px) W tf)) (ha : PE X a (cE (enX X px) W f)) (hb : PE X b (cE (enX X px) W g)) : PE X (.IfExp d a b pos) (cE (enX X px) W fun ρ => bindR (tf ρ) fun k => match k with
    | true => f ρ
    | false => g ρ) := by
  refine pe_imp (pe_ifExp ht ha hb) fun σ H Q h => ?_
  obtain ⟨B, ρ, G, i, rp, h⟩ := h
  refine cT_step i rp h fun kk G1 H1 g1 r1 h1 => ?_
  cases kk with
  | true => rw [if_pos rfl]; exact ⟨B, ρ, G1, g1.i, r1, (show QA _ _ _ _ _ _ (f ρ) from h1).imp fun z G' H' g' q v' dv => q v' (dv.back g1.h)⟩
  | false => rw [if_neg (by decide)]; exact ⟨B, ρ, G1, g1.i, r1, (show QA _ _ _ _ _ _ (g ρ) from h1).imp fun z G' H' g' q v' dv => q v' (dv.back g1.h)⟩
variable {tg : Rho → Ans Bool}
theorem w_and1 (ha : PT X a (cT (enX X px) W tf)) : PW X (.BoolOp .And [a] pos) (cT (enX X px) W tf) := pw_and1 ha
theorem w_or1 (ha : PT X a (cT (enX X px) W tf)) : PW X (.BoolOp .Or [a] pos) (cT (enX X px) W tf) := pw_or1 ha
theorem w_and (ha : PT X a (cT (enX X px) W tf)) (hb : PW X (.BoolOp .And (b :: rest) pos) (cT (enX X px) W tg)) : PW X (.BoolOp .And (a :: b :: rest) pos) (cT (enX X px) W fun ρ => bindR (tf ρ) fun k => match k with
    | true => tg ρ
    | false => some (.ok false)) := by
  refine pw_imp (pw_and ha hb) fun σ H Q h => ?_
  obtain ⟨B, ρ, G, i, rp, h⟩ := h
  refine cT_step i rp h fun kk G1 H1 g1 r1 h1 => ?_
  cases kk with
  | true => rw [if_pos rfl]; exact ⟨B, ρ, G1, g1.i, r1, h1⟩
  | false => rw [if_neg (by decide)]; exact h1 G1 H1 (Gr.refl g1.i)
theorem w_or (ha : PT X a (cT (enX X px) W tf)) (hb : PW X (.BoolOp .Or (b :: rest) pos) (cT (enX X px) W tg)) : PW X (.BoolOp .Or (a :: b :: rest) pos) (cT (enX X px) W fun ρ => bindR (tf ρ) fun k => match k with
    | false => tg ρ
    | true => some (.ok true)) := by
  refine pw_imp (pw_or ha hb) fun σ H Q h => ?_
  obtain ⟨B, ρ, G, i, rp, h⟩ := h
  refine cT_step i rp h fun kk G1 H1 g1 r1 h1 => ?_
  cases kk with
  | false => rw [if_neg (by decide)]; exact ⟨B, ρ, G1, g1.i, r1, h1⟩
  | true => rw [if_pos rfl]; exact h1 G1 H1 (Gr.refl g1.i)
theorem t_not (ha : PT X a (cT (enX X px) W tf)) : PT X (.UnaryOp .Not a pos) (cT (enX X px) W fun ρ => bindR (tf ρ) fun k => some (.ok (!k))) := by
  refine pt_imp (pt_not ha) fun σ H Q h => ?_
  obtain ⟨B, ρ, G, i, rp, h⟩ := h
  exact cT_step i rp h fun kk G1 H1 g1 r1 h1 => h1 G1 H1 (Gr.refl g1.i)
/-! #### truth -/
theorem tru_den {E : En} {G H H0 : Hp} {x : RV} {v : V} {b : Bool} (i : Ex G H) (h : DenR E G H H0 x v) (e : truV x = some b) : TruV E.K v H b := by
  have hl : ∀ {ds : List D} {vs : List V}, Dens E G ds vs → (!vs.isEmpty) = !ds.isEmpty := fun h => by rw [h.nil_iff]
  have hk : ∀ {ks : List Key} {kvs : List (Key × V)}, kvs.map (·.1) = ks → (!kvs.isEmpty) = !ks.isEmpty := fun h => by rw [← h]; simp
  have go : ∀ {o : OV} {l : Addr}, v = .ref l → DenO E G H l o → truD o.d = some b → TruV E.K v H b := by
    intro o l hv ho e
    subst hv
    cases o with
    | l ds =>
      obtain ⟨vs, q1, q2⟩ := ho
      cases e
      exact .inl ⟨vs, .inl (.inl q1), (hl q2).symm⟩
    | tT ks ds => cases e
    | tK ks ds =>
      obtain ⟨kvs, q1, q2, q3⟩ := ho
      cases e
      exact .inr (.inr ⟨kvs, q1, (hk q2).symm⟩)
  unfold truV at e
  cases x with
  | fr o => obtain ⟨l, e1, _, _, e2⟩ := h; exact go e1 e2 e
  | br o => obtain ⟨l, e1, _, e2⟩ := h; exact go e1 e2 e
  | dat d =>
    cases d with
    | non => cases e; rw [(show v = _ from h)]; rfl
    | bl _ => cases e; rw [(show v = _ from h)]; rfl
    | int _ => cases e; rw [(show v = _ from h)]; rfl
    | str z =>
      have e : (if z.length ≤ 16777216 then some ((z.length : Int) != 0) else none) = some b := e
      split at e
      · rename_i hz
        cases e
        rw [(show v = _ from h)]
        exact ⟨by rw [line_eq]; exact hz, rfl⟩
      · cases e
    | tup ds => cases e; obtain ⟨a, vs, rfl, h2, h3⟩ := h; exact .inr (.inl ⟨vs, .inl (.inl (i _ _ h2)), (hl h3).symm⟩)
    | lst ds => cases e; obtain ⟨a, vs, rfl, h2, h3⟩ := h; exact .inl ⟨vs, i.sql h2, (hl h3).symm⟩
    | dicT ks ds => cases e
    | dicK ks ds => cases e; obtain ⟨a, kvs, rfl, h2, h3, h4⟩ := h; exact .inr (.inr ⟨kvs, i _ _ h2, (hk h3).symm⟩)
    | exc _ _ _ => cases e
theorem t_tru (ha : PE X a (cE (enX X px) W f)) (he : ∀ whole, isTrue a X.env whole = (do let v ← whole; standAt a.pos; holding [v] (truthy v))) : PT X a (cT (enX X px) W fun ρ => bindR (f ρ) fun x => optR (truV x)) := by
  refine pt_imp (pt_truth ha he) fun σ H Q h => ?_
  obtain ⟨B, ρ, G, i, rp, h⟩ := h
  refine cE_step i rp h fun v x G1 H1 g1 r1 d1 h1 => ?_
  obtain ⟨z, e, q⟩ := h1.opt
  exact ⟨z, tru_den (E := enX X px) g1.i d1 e, q G1 H1 (Gr.refl g1.i)⟩
/-- an isinstance as a test: its bool -/
theorem t_bl {o : Rho → Ans Bool} (ha : PE X a (cE (enX X px) W fun ρ => bindR (o ρ) fun b => some (.ok (.dat (.bl b))))) (he : ∀ whole, isTrue a X.env whole = (do let v ← whole; standAt a.pos; holding [v] (truthy v))) : PT X a (cT (enX X px) W o) := by
  refine pt_imp (pt_val ha he) fun σ H Q h => ?_
  obtain ⟨B, ρ, G, i, rp, h⟩ := h
  refine ⟨B, ρ, G, i, rp, ?_⟩
  show QA _ _ _ _ _ _ (bindR (o ρ) _)
  cases q : o ρ with
  | none => rw [q] at h; exact h.elim
  | some y =>
    rw [q] at h
    cases y with
    | error e => exact h
    | ok b => exact fun G' H' g' v dv => ⟨b, dv, h G' H' g'⟩
/-! #### displays, subscripts, slices -/
theorem toD_den {E : En} {G H G1 H1 : Hp} {r : RV} {d : D} {v : V} (e : toD r = some d) (g : Gr G H G1 H1) (h : DenR E G1 H1 H r v) : ∃ G2, Gr G H G2 H1 ∧ Ex G1 G2 ∧ Den E G2 d v := by
  have hb : ∀ o, r ≠ .br o := fun o z => by rw [z] at e; cases e
  obtain ⟨G2, k1, k2, k3⟩ := DenR.froze g h hb
  have : r.d = d := by
    cases r with
    | dat d => cases e; rfl
    | fr o => cases e; rfl
    | br o => cases e
  rw [this] at k3
  exact ⟨G2, k1, k2, k3⟩
theorem toDs_den {E : En} {G H G1 H1 : Hp} {rs : List RV} {ds : List D} {vs : List V} (e : toDs rs = some ds) (g : Gr G H G1 H1) (h : DenRs E G1 H1 H rs vs) : ∃ G2, Gr G H G2 H1 ∧ Ex G1 G2 ∧ Dens E G2 ds vs := by
  have key : ∀ {rs : List RV} {ds : List D}, toDs rs = some ds → anyBr rs = false ∧ rs.map RV.d = ds := by
    intro rs
    induction rs with
    | nil => intro ds e; cases e; exact ⟨rfl, rfl⟩
    | cons r rs ih =>
      intro ds e
      unfold toDs at e
      split at e
      · rename_i d ds' e1 e2
        cases e
        obtain ⟨h1, h2⟩ := ih e2
        cases r with
        | dat d' => cases e1; exact ⟨h1, by rw [List.map_cons, h2]; rfl⟩
        | fr o => cases e1; exact ⟨h1, by rw [List.map_cons, h2]; rfl⟩
        | br o => cases e1
      · cases e
  obtain ⟨h1, h2⟩ := key e
  obtain ⟨G2, a1, a2, a3⟩ := toDs_new h1 g h
  rw [h2] at a3
  exact ⟨G2, a1, a2, a3⟩
variable {es : List Expr} {fa : Rho → Ans (List RV)}
theorem denRs_ok {E : En} {G H H0 : Hp} {rs : List RV} {vs : List V} {ρ : Rho} (hl : ∀ ρ rs, fa ρ = some (.ok rs) → rs.length ≤ 1000) (e : fa ρ = some (.ok rs)) (h : DenRs E G H H0 rs vs) : vs.length ≤ sizeLine := by
  rw [h.length, line_eq]
  have := hl _ _ e
  omega
/-- the step over arguments, their answer known -/
theorem cA_stepE {E : En} {W : WX} {σ : L2.St} {G H B : Hp} {ρ : Rho} {f : Rho → Ans (List RV)} {Q : List V → Hp → Prop} {β : Type} {S : β → Hp → Hp → Prop} {k : List RV → Ans β} (i : Ex G H) (r : Rep E B G H σ ρ) (h : QA E W σ G H S (bindR (f ρ) k))
    (c : ∀ vs rs G1 H1, f ρ = some (.ok rs) → Gr G H G1 H1 → Rep E B G1 H1 σ ρ → DenRs E G1 H1 H rs vs → QA E W σ G H S (k rs) → Q vs H1) : cA E W f σ H Q := by
  refine ⟨B, ρ, G, i, r, ?_⟩
  cases q : f ρ with
  | none => rw [q] at h; exact h.elim
  | some y =>
    rw [q] at h
    cases y with
    | error e => exact h
    | ok rs => exact fun G1 H1 g1 vs dv => c vs rs G1 H1 q g1 (r.mono g1) dv h
theorem c_tup {x1} (hl : ∀ ρ rs, fa ρ = some (.ok rs) → rs.length ≤ 1000) (ha : PA X es (cA (enX X px) W fa)) : PE X (.Tuple es x1 pos) (cE (enX X px) W fun ρ => bindR (fa ρ) fun rs => match toDs rs with
    | some ds => some (.ok (.dat (.tup ds)))
    | none => none) := by
  refine pe_imp (pe_tup ha) fun σ H Q h => ?_
  obtain ⟨B, ρ, G, i, rp, h⟩ := h
  refine cA_stepE i rp h fun vs rs G1 H1 er g1 r1 d1 h1 => ⟨denRs_ok hl er d1, fun p hp => ?_⟩
  split at h1
  · rename_i ds e
    obtain ⟨G2, b1, b2, b3⟩ := toDs_den e g1 d1
    have gf := Gr.frozen b1.i hp (o := .tup vs)
    exact h1 _ _ (b1.trans gf) _ ⟨p, vs, rfl, upd_same, Dens.mono gf.g _ _ b3⟩
  · exact h1.elim
theorem c_lst (hl : ∀ ρ rs, fa ρ = some (.ok rs) → rs.length ≤ 1000) (ha : PA X es (cA (enX X px) W fa)) : PE X (.List es pos) (cE (enX X px) W fun ρ => bindR (fa ρ) fun rs => match toDs rs with
    | some ds => some (.ok (.fr (.l ds)))
    | none => none) := by
  refine pe_imp (pe_lst ha) fun σ H Q h => ?_
  obtain ⟨B, ρ, G, i, rp, h⟩ := h
  refine cA_stepE i rp h fun vs rs G1 H1 er g1 r1 d1 h1 => ⟨denRs_ok hl er d1, fun p hp => ?_⟩
  split at h1
  · rename_i ds e
    obtain ⟨G2, b1, b2, b3⟩ := toDs_den e g1 d1
    exact h1 _ _ (b1.trans (Gr.loose b1.i hp)) _ ⟨p, rfl, g1.h.free hp, b1.i.free hp, vs, upd_same, b3⟩
  · exact h1.elim
theorem c_dictT : PE X (.Dict [] [] pos) (cE (enX X px) W (evE C .dictT)) := by
  refine pe_imp pe_dnewT fun σ H Q h p hp => ?_
  obtain ⟨B, ρ, G, i, rp, h⟩ := h
  rw [evE] at h
  exact h G _ (Gr.loose i hp) _ ⟨p, rfl, hp, i.free hp, [], upd_same, rfl, rfl⟩
theorem c_dictK : PE X (.Dict [] [] pos) (cE (enX X px) W (evE C .dictK)) := by
  refine pe_imp pe_dnewK fun σ H Q h p hp => ?_
  obtain ⟨B, ρ, G, i, rp, h⟩ := h
  rw [evE] at h
  exact h G _ (Gr.loose i hp) _ ⟨p, rfl, hp, i.free hp, [], upd_same, rfl, rfl⟩
def rIxDct : R2 := fun x y H Q => ∃ a v, x = .ref a ∧ DGet H a y (some v) ∧ Q v H
theorem ix_dct (hu : X.A.units + 1 < cLine) : IxR X rIxDct := by
  intro value slice pins s σ H x y v u Q I rx ry h hs
  obtain ⟨p, z, e, g, q⟩ := h
  subst e
  obtain rfl : v = Value.ref p := rx
  exact tail_any (dict_typeIs I g) PySem.F.slot_dict_getitem.lookup (d_getItem hu I g ry fun w' s3 I3 rw' => ⟨z, H, I3, rw', q⟩) hs
def rIxX (K : PySem.W.Frag) : R2 := fun x y H Q => rIx K x y H Q ∨ rIxDct x y H Q
theorem meets_ixX {E : En} : Meets2 E (rIxX E.K) ixW := fun G H H0 x y v u z Q i dx dy e k => by
  unfold ixW at e
  cases hd : isDic x with
  | false =>
    rw [hd] at e
    exact .inl (meets_ix G H H0 x y v u z Q i dx dy e k)
  | true =>
    rw [hd] at e
    have e : dixV x y = some z := e
    unfold dixV at e
    split at e
    · rename_i kd
      split at e
      · rename_i dd ed
        cases e
        obtain ⟨p, ov, e1, e2, e3, e4⟩ := dict_sq (E := E) i dx dy ed
        obtain ⟨w, e5, e6⟩ : ∃ w, ov = some w ∧ Den E G dd w := by simpa using e4
        subst e5
        exact .inr ⟨p, w, e1, e3, k w G H (Gr.refl i) e6⟩
      · cases e
    · cases e
theorem c_ix (c : Cc X px C W k hh) (hs : PlainIx b) (ha : PE X a (cE (enX X px) W f)) (hb : PE X b (cE (enX X px) W g)) : PE X (.Subscript a b pos) (cE (enX X px) W fun ρ => bindR (f ρ) fun x => bindR (g ρ) fun y => optR (ixW x y)) :=
  pe_imp (pe_ix (ix_seq.or (ix_dct (by have := c.units; omega))) ha hb hs) fun σ H Q q => cE_op2 (E := enX X px) meets_ixX q
theorem c_dix (c : Cc X px C W k hh) (hs : PlainIx b) (ha : PE X a (cE (enX X px) W f)) (hb : PE X b (cE (enX X px) W g)) : PE X (.Subscript a b pos) (cE (enX X px) W fun ρ => bindR (f ρ) fun x => bindR (g ρ) fun y => optR (dixV x y)) := by
  refine pe_imp (pe_dget (by have := c.units; omega) ha hb hs) fun σ H Q h => ?_
  obtain ⟨B, ρ, G, i, rp, h⟩ := h
  refine cE_step i rp h fun v x G1 H1 g1 r1 d1 h1 => ?_
  refine cE_step g1.i r1 h1 fun u y G2 H2 g2 r2 d2 h2 => ?_
  obtain ⟨z, e, q⟩ := h2.opt
  unfold dixV at e
  split at e
  · rename_i kd
    split at e
    · rename_i dd ed
      cases e
      obtain ⟨p, ov, e1, e2, e3, e4⟩ := dict_sq (E := enX X px) g2.i (d1.mono g2) d2 ed
      obtain ⟨w, e5, e6⟩ : ∃ w, ov = some w ∧ Den (enX X px) G2 dd w := by simpa using e4
      subst e5
      exact ⟨p, w, e1, e3, q G2 H2 (Gr.refl g2.i) w e6⟩
    · cases e
  · cases e
variable {lo hi : Option Expr} {fl fh : Rho → Ans (Option Int)}
theorem o_none : PO X none (cO (enX X px) W (evO C .no)) := ⟨fun pins s σ H Q I h => by
  obtain ⟨B, ρ, G, i, rp, h⟩ := h
  rw [evO] at h
  exact po_none.run pins s σ H Q I (h G H (Gr.refl i))⟩
theorem o_some (ha : PE X a (cE (enX X px) W f)) : PO X (some a) (cO (enX X px) W fun ρ => bindR (f ρ) fun x => match x with
    | .dat (.int i) => some (.ok (some i))
    | _ => none) := ⟨fun pins s σ H Q I h => by
  refine (po_some ha).run pins s σ H Q I ?_
  obtain ⟨B, ρ, G, i, rp, h⟩ := h
  refine cE_step i rp h fun v x G1 H1 g1 r1 d1 h1 => ?_
  split at h1
  · exact ⟨_, d1, h1 G1 H1 (Gr.refl g1.i)⟩
  · exact h1.elim⟩
theorem c_sl {p2} (ha : PE X a (cE (enX X px) W f)) (hl : PO X lo (cO (enX X px) W fl)) (hh : PO X hi (cO (enX X px) W fh)) : PE X (.Subscript a (.Slice lo hi none p2) pos) (cE (enX X px) W fun ρ => bindR (f ρ) fun x => bindR (fl ρ) fun l => bindR (fh ρ) fun u => optR (slV x l u)) := by
  refine pe_imp (pe_slice sl_X ha hl hh) fun σ H Q h => ?_
  obtain ⟨B, ρ, G, i, rp, h⟩ := h
  refine cE_step i rp h fun v x G1 H1 g1 r1 d1 h1 => ?_
  refine cO_step g1.i r1 h1 fun l G2 H2 g2 r2 h2 => ?_
  refine cO_step g2.i r2 h2 fun u G3 H3 g3 r3 h3 => ?_
  obtain ⟨z, e, q⟩ := h3.opt
  exact meets_sl (E := enX X px) (H0 := H) g3.i ((d1.mono g2).mono g3) e fun w G' H' g4 dw => q G' H' g4 w (dw.back ((g1.trans g2).trans g3).h)
theorem dic_is {E : En} {G H H0 : Hp} {x : RV} {v : V} (i : Ex G H) (h : DenR E G H H0 x v) (e : isDic x = true) : ∃ a, v = .ref a ∧ IsD H a := by
  cases x with
  | dat d =>
    cases d with
    | dicT ks ds => obtain ⟨a, kvs, rfl, h2, _⟩ := h; exact ⟨a, rfl, .inr ⟨_, .inl (i _ _ h2)⟩⟩
    | dicK ks ds => obtain ⟨a, kvs, rfl, h2, _⟩ := h; exact ⟨a, rfl, .inl ⟨_, .inl (i _ _ h2)⟩⟩
    | _ => cases e
  | fr o =>
    obtain ⟨l, rfl, _, _, h⟩ := h
    cases o with
    | l ds => cases e
    | tT ks ds => obtain ⟨kvs, h2, _⟩ := h; exact ⟨l, rfl, .inr ⟨_, .inl h2⟩⟩
    | tK ks ds => obtain ⟨kvs, h2, _⟩ := h; exact ⟨l, rfl, .inl ⟨_, .inl h2⟩⟩
  | br o =>
    obtain ⟨l, rfl, _, h⟩ := h
    cases o with
    | l ds => cases e
    | tT ks ds => obtain ⟨kvs, h2, _⟩ := h; exact ⟨l, rfl, .inr ⟨_, .inl h2⟩⟩
    | tK ks ds => obtain ⟨kvs, h2, _⟩ := h; exact ⟨l, rfl, .inl ⟨_, .inl h2⟩⟩
theorem c_get (c : Cc X px C W k hh) {o e1 e2 : Expr} {ap : Pos} {fd fk fx : Rho → EvR} (ho : PE X o (cE (enX X px) W fd)) (hk : PE X e1 (cE (enX X px) W fk)) (hx : PE X e2 (cE (enX X px) W fx)) (m : M2 X o "get" ap e1 e2 pos) :
    PE X (.Call (.Attribute o "get" ap) [e1, e2] [] pos) (cE (enX X px) W fun ρ => bindR (fd ρ) fun d => bindR (optR (dicV d)) fun d => bindR (fk ρ) fun k => bindR (fx ρ) fun x => optR (getV d k x)) := by
  refine pe_imp (pe_dget2 (by have := c.units; omega) ho hk hx m) fun σ H Q h => ?_
  obtain ⟨B, ρ, G, i, rp, h⟩ := h
  refine cE_step i rp h fun v x G1 H1 g1 r1 d1 h1 => ?_
  cases hd : isDic x with
  | false =>
    have e : dicV x = none := by unfold dicV; rw [hd]
    rw [e] at h1
    exact h1.elim
  | true =>
    have e : dicV x = some x := by unfold dicV; rw [hd]
    rw [e] at h1
    obtain ⟨a, rfl, hD⟩ := dic_is g1.i d1 hd
    refine ⟨a, rfl, hD, ?_⟩
    refine cE_step g1.i r1 (show QA _ _ _ _ _ _ (bindR (fk ρ) _) from h1) fun u y G2 H2 g2 r2 d2 h2 => ?_
    refine cE_step g2.i r2 h2 fun w z G3 H3 g3 r3 d3 h3 => ?_
    obtain ⟨rz, e, q⟩ := h3.opt
    unfold getV at e
    split at e
    · rename_i kd xd
      have dk : Den (enX X px) G3 kd u := Den.mono g3.g _ _ d2
      split at e
      · rename_i vv ed
        cases e
        obtain ⟨p, ov, x1, x2, x3, x4⟩ := dict_sq (E := enX X px) g3.i ((d1.mono g2).mono g3) dk ed
        cases x1
        obtain ⟨w', x5, x6⟩ : ∃ w', ov = some w' ∧ Den (enX X px) G3 vv w' := by simpa using x4
        subst x5
        exact ⟨_, x3, q G3 H3 (Gr.refl g3.i) w' x6⟩
      · rename_i ed
        cases e
        obtain ⟨p, ov, x1, x2, x3, x4⟩ := dict_sq (E := enX X px) g3.i ((d1.mono g2).mono g3) dk ed
        cases x1
        have x5 : ov = none := by simpa using x4
        subst x5
        exact ⟨_, x3, q G3 H3 (Gr.refl g3.i) w d3⟩
      · cases e
    · cases e
end
end DE

set_option Elab.async false
set_option linter.all false
set_option maxRecDepth 100000
set_option maxHeartbeats 4000000
/-! DE7b: targets, what is walked, list comprehensions, built-ins. -/
namespace DE
open PySem PySem.Spec PyProof.Rows L2

/-! ### targets -/
/-- σ' is σ but for the slots is -/
def Off (is : List Nat) (σ σ' : L2.St) : Prop := σ'.length = σ.length ∧ ∀ j, j ∉ is → σ'[j]? = σ[j]?
theorem Off.refl {is : List Nat} {σ : L2.St} : Off is σ σ := ⟨rfl, fun _ _ => rfl⟩
theorem Off.trans {is js : List Nat} {σ σ1 σ2 : L2.St} (a : Off is σ σ1) (b : Off js σ1 σ2) : Off (is ++ js) σ σ2 :=
  ⟨b.1.trans a.1, fun j h => by rw [b.2 j fun z => h (List.mem_append_right _ z), a.2 j fun z => h (List.mem_append_left _ z)]⟩
theorem Off.mono {is js : List Nat} {σ σ' : L2.St} (a : Off is σ σ') (h : ∀ i ∈ is, i ∈ js) : Off js σ σ' := ⟨a.1, fun j hj => a.2 j fun z => hj (h j z)⟩
theorem Off.set {i : Nat} {σ : L2.St} {w : Option V} : Off [i] σ (σ.set i w) := ⟨List.length_set, fun j hj => by
  have : i ≠ j := fun z => hj (by rw [z]; exact List.mem_singleton_self j)
  rw [List.getElem?_set_ne this]⟩
def gX (E : En) (g : Tg) : TG := fun v σ H Q => ∃ B ρ G d ρ', Ex G H ∧ Rep E B G H σ ρ ∧ Den E G d v ∧ setG g d ρ = some ρ' ∧ ∀ σ', Rep E B G H σ' ρ' → Off g.slots σ σ' → Q σ' H
section
variable {X : Cx} {px : Option (Addr × Addr × Addr)} {C : Cfg} {W : WX} {k : Nat} {hh : Bool}
theorem pg_imp {e : Expr} {t t' : TG} (h : PG X e t) (k : ∀ v σ H Q, t' v σ H Q → t v σ H Q) : PG X e t' := ⟨fun pins s σ H v u Q I r q => h.run pins s σ H v u Q I r (k v σ H Q q)⟩
theorem pgs_imp {e : List Expr} {t t' : TGs} (h : PGs X e t) (k : ∀ v σ H Q, t' v σ H Q → t v σ H Q) : PGs X e t' := ⟨fun pins s σ H v u Q I r q => h.run pins s σ H v u Q I r (k v σ H Q q)⟩
def gXs (E : En) (is : List Nat) : TGs := fun vs σ H Q => ∃ B ρ G ds ρ', Ex G H ∧ Rep E B G H σ ρ ∧ Dens E G ds vs ∧ setT is ds ρ = some ρ' ∧ ∀ σ', Rep E B G H σ' ρ' → Off is σ σ' → Q σ' H
theorem tgB_of {N : List Str} {sc : Scope} {i : Nat} {x : Str} (h : tgB N sc i x = true) : N[i]? = some x ∧ locB sc x = true := by
  unfold tgB at h
  simpa using h
/-- what the look calls local may be set -/
def SetS (X : Cx) (sc : Scope) : Prop := ∀ x, locB sc x = true → L2.Loc X.env.scope x ∧ (X.fn x = true ∨ X.env.scope.names.lookup x = some .local)
theorem pgs_of (hN : X.N.Nodup) {sc : Scope} (hf : SetS X sc) {E : En} : ∀ {is : List Nat} {es : List Expr}, tgsB X.N sc is es = true → PGs X es (gXs E is)
  | [], [], _ => pgs_imp pgs_nil fun vs σ H Q q => by
    obtain ⟨B, ρ, G, ds, ρ', i, r, d, e, q⟩ := q
    cases ds with
    | nil => cases e; exact ⟨d, q σ r Off.refl⟩
    | cons d ds => cases e
  | [], _ :: _, h => by simp [tgsB] at h
  | i :: is, [], h => by simp [tgsB] at h
  | i :: is, e :: es, h => by
    cases e with
    | Name x p =>
      have h' : (tgB X.N sc i x && tgsB X.N sc is es) = true := h
      rw [Bool.and_eq_true] at h'
      obtain ⟨h1, h2⟩ := tgB_of h'.1
      refine pgs_imp (pgs_cons (pg_name hN h1 (hf x h2).1 (hf x h2).2) (pgs_of (E := E) hN hf h'.2)) fun vs σ H Q q => ?_
      obtain ⟨B, ρ, G, ds, ρ', i', r, d, e, q⟩ := q
      cases ds with
      | nil => cases e
      | cons d0 ds =>
        obtain ⟨v, rr, e1, dv, dr⟩ := d
        refine ⟨v, rr, e1, B, ρ.set i (some (.dat d0)), G, ds, ρ', i', r.setD dv, dr, e, fun σ' r' o => q σ' r' ?_⟩
        exact (Off.set.trans o).mono fun j hj => hj
    | _ => simp [tgsB] at h
theorem pg_of (hN : X.N.Nodup) (hc : X.calm = true) {sc : Scope} (hf : SetS X sc) {E : En} (hE : E.K = X.K) {g : Tg} {e : Expr} (h : ckG X.N sc g e = true) : PG X e (gX E g) := by
  cases g with
  | n i =>
    cases e with
    | Name x p =>
      obtain ⟨h1, h2⟩ := tgB_of (show tgB _ _ i x = true from h)
      refine pg_imp (pg_name hN h1 (hf x h2).1 (hf x h2).2) fun v σ H Q q => ?_
      obtain ⟨B, ρ, G, d, ρ', i', r, dv, e, q⟩ := q
      cases e
      exact q _ (r.setD dv) Off.set
    | _ => simp [ckG] at h
  | t is =>
    cases e with
    | Tuple es kk p =>
      have h' : tgsB X.N sc is es = true := h
      have hl : ∀ {is : List Nat} {es : List Expr}, tgsB X.N sc is es = true → es.length = is.length ∧ (assignEach es X.env).length = is.length ∧ (assignEach es X.env).findIdx? (·.1) = none := by
        intro is
        induction is with
        | nil =>
          intro es h
          cases es with
          | nil => exact ⟨rfl, rfl, rfl⟩
          | cons e es => simp [tgsB] at h
        | cons i is ih =>
          intro es h
          cases es with
          | nil => simp [tgsB] at h
          | cons e es =>
            cases e with
            | Name x p =>
              have h' : (tgB X.N sc i x && tgsB X.N sc is es) = true := h
              rw [Bool.and_eq_true] at h'
              obtain ⟨a1, a2, a3⟩ := ih h'.2
              refine ⟨by simp [a1], ?_, ?_⟩
              · show (_ :: assignEach es X.env).length = _
                simp [a2]
              · show ((false, _) :: assignEach es X.env).findIdx? (·.1) = none
                rw [List.findIdx?_cons]
                simp [a3]
            | _ => simp [tgsB] at h
      obtain ⟨l1, l2, l3⟩ := hl h'
      refine pg_imp (pg_tup (n := is.length) hc (pgs_of (E := E) hN hf h') l2 l3) fun v σ H Q q => ?_
      obtain ⟨B, ρ, G, d, ρ', i', r, dv, e, q⟩ := q
      cases d with
      | tup ds =>
        obtain ⟨a, vs, e1, e2, e3⟩ := dv
        have hd : ds.length = is.length := by
          have : ∀ {is : List Nat} {ds : List D} {ρ ρ' : Rho}, setT is ds ρ = some ρ' → ds.length = is.length := by
            intro is
            induction is with
            | nil => intro ds ρ ρ' e; cases ds with
              | nil => rfl
              | cons d ds => cases e
            | cons i is ih => intro ds ρ ρ' e; cases ds with
              | nil => cases e
              | cons d ds => rw [List.length_cons, List.length_cons, ih e]
          exact this (show setT is ds ρ = some ρ' from e)
        refine ⟨a, vs, e1, .inl (.inl (i' _ _ e2)), by rw [e3.length, hd], B, ρ, G, ds, ρ', i', r, e3, e, q⟩
      | _ => cases e
    | _ => simp [ckG] at h

/-! ### what is walked -/
/-- in H, J walks the items xs -/
structure Sq (J : It) (xs : List V) (H : Hp) : Prop where
  go : ∀ i, i < xs.length → J.go i H
  yld : ∀ i x H', i < xs.length → J.yld i H x H' → H' = H ∧ xs[i]? = some x
  stop : ∀ i, xs.length ≤ i → J.stop i H
theorem sq_l {K : PySem.W.Frag} {a : Addr} {xs : List V} {H : Hp} (h : SqL K H a xs) : Sq (Itl K a) xs H := ⟨fun i hi => ⟨xs, xs[i], h, by simp [hi]⟩, fun i x H' _ y => ⟨y.1, y.2 xs h⟩, fun i hi => ⟨xs, h, hi⟩⟩
theorem sq_t {K : PySem.W.Frag} {a : Addr} {xs : List V} {H : Hp} (h : SqT K H a xs) : Sq (Itt K a) xs H := ⟨fun i hi => ⟨xs, xs[i], h, by simp [hi]⟩, fun i x H' _ y => ⟨y.1, y.2 xs h⟩, fun i hi => ⟨xs, h, hi⟩⟩
theorem rangeD_len : ∀ (n : Nat) (lo : Int), (rangeD lo n).length = n
  | 0, _ => rfl
  | n + 1, lo => by unfold rangeD; rw [List.length_cons, rangeD_len n]
theorem rangeD_get : ∀ (n : Nat) (lo : Int) (i : Nat), i < n → (rangeD lo n)[i]? = some (.int (lo + i))
  | 0, _, _, h => absurd h (by omega)
  | n + 1, lo, 0, _ => by unfold rangeD; simp
  | n + 1, lo, i + 1, h => by
    unfold rangeD
    rw [List.getElem?_cons_succ, rangeD_get n (lo + 1) i (by omega)]
    congr 2
    push_cast
    omega
def rangeV' (lo : Int) (n : Nat) : List V := (rangeD lo n).map fun d => match d with
  | .int i => .int i
  | _ => .non
theorem rangeV_len {lo : Int} {n : Nat} : (rangeV' lo n).length = n := by unfold rangeV'; rw [List.length_map, rangeD_len]
theorem rangeD_dens {E : En} {G : Hp} : ∀ (n : Nat) (lo : Int), Dens E G (rangeD lo n) (rangeV' lo n)
  | 0, _ => rfl
  | n + 1, lo => ⟨.int lo, rangeV' (lo + 1) n, rfl, rfl, rangeD_dens n (lo + 1)⟩
theorem rangeV_get {lo : Int} {n i : Nat} (h : i < n) : (rangeV' lo n)[i]? = some (.int (lo + i)) := by
  unfold rangeV'
  rw [List.getElem?_map, rangeD_get n lo i h]
  rfl
theorem sq_r {lo : Int} {n : Nat} {H : Hp} : Sq (Itr lo n) (rangeV' lo n) H := by
  refine ⟨fun i hi => by rw [rangeV_len] at hi; exact hi, fun i x H' hi y => ?_, fun i hi => by rw [rangeV_len] at hi; exact hi⟩
  obtain ⟨e, y⟩ := y
  rw [rangeV_len] at hi
  exact ⟨e, by rw [rangeV_get hi, y]⟩
/-- over a list or a tuple, whichever stands there -/
theorem pi_seq {tg l : Expr} {tl : TE} (hl : PE X l tl) : PI X tg l (fun σ H R => tl σ H fun x H1 => ∃ (a : Addr) (xs : List V), x = .ref a ∧ ((SqL X.K H1 a xs ∧ R (Itl X.K a) H1) ∨ (SqT X.K H1 a xs ∧ R (Itt X.K a) H1))) := by
  refine ⟨fun pins s σ H R I h => ?_⟩
  refine thn (hl.run pins s σ H _ I h) fun v s1 ⟨x, H1, I1, r1, a, xs, e, q⟩ => ?_
  subst e
  cases r1
  have fp : ∀ b ∈ [s1.heap.objs.size], FpOk X pins H1 b := fun b hb => by
    have e : b = s1.heap.objs.size := by simpa using hb
    subst e
    exact I1.fpOk (Nat.le_refl _) (I1.hok.fresh (Nat.le_refl _))
  rcases q with ⟨hq, q⟩ | ⟨hq, q⟩
  · obtain ⟨its, rv, p, hz⟩ := I1.list hq
    exact wpAny_pyIter_list p.isList ⟨_, [s1.heap.objs.size], _, _, H1, rfl, I1.kept (t' := s1.toks) fun b o e => Heap.get?_push_of_some _ e, turn_list a _, ⟨_, Heap.get?_push_size _ rfl, rfl, rfl⟩, fp, q⟩
  · obtain ⟨its, rv, p, hz⟩ := I1.tuple hq
    exact wpAny_pyIter_tuple (show s1.heap.IsTuple a its.toArray from p) ⟨_, [s1.heap.objs.size], _, _, H1, rfl, I1.kept (t' := s1.toks) fun b o e => Heap.get?_push_of_some _ e, turn_tuple a _, ⟨_, Heap.get?_push_size _ rfl, rfl, rfl⟩, fp, q⟩
/-- a walk of ds, good as long as P -/
def iX (E : En) (W : WX) (f : Rho → Ans (List D)) (P : Hp → Hp → Hp → Prop) : TI := fun σ H R => ∃ B ρ G, Ex G H ∧ Rep E B G H σ ρ ∧ QA E W σ G H (fun ds G1 H1 => ∀ J xs, Dens E G1 ds xs → (∀ H', P G1 H1 H' → Sq J xs H') → R J H1) (f ρ)
theorem pi_imp {tg l : Expr} {t t' : TI} (h : PI X tg l t) (k : ∀ σ H R, t' σ H R → t σ H R) : PI X tg l t' := ⟨fun pins s σ H R I q => h.run pins s σ H R I (k σ H R q)⟩
/-- in a comprehension: the heap only grows -/
theorem i_seq {tg a : Expr} {f : Rho → EvR} (ha : PE X a (cE (enX X px) W f)) : PI X tg a (iX (enX X px) W (fun ρ => bindR (f ρ) fun x => optR (seqV x)) fun _ H1 H' => Ex H1 H') := by
  refine pi_imp (pi_seq ha) fun σ H R h => ?_
  obtain ⟨B, ρ, G, i, rp, h⟩ := h
  refine cE_step i rp h fun v x G1 H1 g1 r1 d1 h1 => ?_
  obtain ⟨ds, e, q⟩ := h1.opt
  obtain ⟨a, xs, e1, e2, e3⟩ := seqV_sq (E := enX X px) g1.i d1 e
  refine ⟨a, xs, e1, ?_⟩
  rcases e2 with e2 | e2
  · exact .inl ⟨e2, q G1 H1 (Gr.refl g1.i) _ xs e3 fun H' x => sq_l (x.sql e2)⟩
  · exact .inr ⟨e2, q G1 H1 (Gr.refl g1.i) _ xs e3 fun H' x => sq_t (by
      rcases e2 with e2 | e2
      · exact .inl (x.rd e2)
      · exact .inr e2)⟩
theorem ints62_of {i : Int} (h : ints62 i = true) : -(2 ^ 62) ≤ i ∧ i < 2 ^ 62 := by
  unfold ints62 at h
  simpa using h
theorem i_range1 {tg a : Expr} {fa : Rho → Ans (List RV)} {p pos : Pos} {P : Hp → Hp → Hp → Prop} (hg : Gl X "range") (hm : X.mg "range" = none) (hs : starEach [a] X.env = [(false, eval a X.env)]) (ha : PA X [a] (cA (enX X px) W fa)) (hl : ∀ ρ rs, fa ρ = some (.ok rs) → rs.length = 1) :
    PI X tg (.Call (.Name "range" p) [a] [] pos) (iX (enX X px) W (fun ρ => bindR (fa ρ) fun rs => optR (rangeV rs)) P) := by
  refine pi_imp (pi_range1 hg hm ha hs) fun σ H R h => ?_
  obtain ⟨B, ρ, G, i, rp, h⟩ := h
  refine cA_stepE i rp h fun vs rs G1 H1 er g1 r1 d1 h1 => ?_
  obtain ⟨ds, e, q⟩ := h1.opt
  have hl := hl _ _ er
  unfold rangeV at e
  split at e
  · split at e
    · rename_i hb
      cases e
      obtain ⟨v, ev, dv⟩ := dens1 d1
      subst ev
      cases (show v = _ from dv)
      obtain ⟨b1, b2⟩ := ints62_of hb
      exact ⟨_, rfl, b1, b2, q G1 H1 g1 _ _ (rangeD_dens _ _) fun H' _ => sq_r⟩
    · cases e
  · simp at hl
  · cases e
theorem i_range2 {tg a b : Expr} {fa : Rho → Ans (List RV)} {p pos : Pos} {P : Hp → Hp → Hp → Prop} (hg : Gl X "range") (hm : X.mg "range" = none) (hs : starEach [a, b] X.env = [(false, eval a X.env), (false, eval b X.env)]) (hs2 : starEach [b] X.env = [(false, eval b X.env)]) (ha : PA X [a, b] (cA (enX X px) W fa)) (hl : ∀ ρ rs, fa ρ = some (.ok rs) → rs.length = 2) :
    PI X tg (.Call (.Name "range" p) [a, b] [] pos) (iX (enX X px) W (fun ρ => bindR (fa ρ) fun rs => optR (rangeV rs)) P) := by
  refine pi_imp (pi_range2 hg hm ha hs hs2) fun σ H R h => ?_
  obtain ⟨B, ρ, G, i, rp, h⟩ := h
  refine cA_stepE i rp h fun vs rs G1 H1 er g1 r1 d1 h1 => ?_
  obtain ⟨ds, e, q⟩ := h1.opt
  have hl := hl _ _ er
  unfold rangeV at e
  split at e
  · simp at hl
  · split at e
    · rename_i hb
      cases e
      obtain ⟨v, w, ev, dv, v2, w2, ev2, dv2, hw⟩ := d1
      subst ev
      subst ev2
      cases (show w2 = [] from hw)
      cases (show v = _ from dv)
      cases (show v2 = _ from dv2)
      obtain ⟨b1, b2⟩ := ints62_of hb.1
      obtain ⟨b3, b4⟩ := ints62_of hb.2
      exact ⟨_, _, rfl, ⟨b1, b2, b3, b4⟩, q G1 H1 g1 _ _ (rangeD_dens _ _) fun H' _ => sq_r⟩
    · cases e
  · cases e
end
end DE

set_option Elab.async false
set_option linter.all false
set_option maxRecDepth 100000
set_option maxHeartbeats 4000000
/-! DE7c: list comprehensions, built-ins. -/
namespace DE
open PySem PySem.Spec PyProof.Rows L2
abbrev WF : WX := fun _ _ _ _ => False
theorem ownOf_slots {N : List Str} : ∀ is : List Nat, (ownOf N is).map (·.2) = is
  | [] => rfl
  | i :: is => by unfold ownOf; rw [List.map_cons, ownOf_slots is]
def wipeR (ρ : Rho) : List Nat → Rho
  | [] => ρ
  | v :: vs => (wipeR ρ vs).set v none
theorem rep_wipe {E : En} {B G H : Hp} {σ : L2.St} {ρ : Rho} (r : Rep E B G H σ ρ) : ∀ vs, Rep E B G H (wipe σ vs) (wipeR ρ vs)
  | [] => r
  | v :: vs => (rep_wipe r vs).setN
theorem wipeR_len {ρ : Rho} : ∀ vs, (wipeR ρ vs).length = ρ.length
  | [] => rfl
  | v :: vs => by unfold wipeR; rw [List.length_set, wipeR_len vs]
theorem wipeR_off {ρ : Rho} {j : Nat} : ∀ {vs : List Nat}, j ∉ vs → (wipeR ρ vs)[j]? = ρ[j]?
  | [], _ => rfl
  | v :: vs, h => by
    unfold wipeR
    rw [List.getElem?_set_ne (fun z => h (by rw [z]; exact List.mem_cons_self)), wipeR_off fun z => h (List.mem_cons_of_mem _ z)]
theorem wipe_off {σ : L2.St} {j : Nat} : ∀ {vs : List Nat}, j ∉ vs → (wipe σ vs)[j]? = σ[j]?
  | [], _ => rfl
  | v :: vs, h => by
    unfold wipe
    rw [List.getElem?_set_ne (fun z => h (by rw [z]; exact List.mem_cons_self)), wipe_off fun z => h (List.mem_cons_of_mem _ z)]
theorem wipe_on {σ : L2.St} {j : Nat} : ∀ {vs : List Nat}, j ∈ vs → j < σ.length → (wipe σ vs)[j]? = some none
  | v :: vs, h, hl => by
    unfold wipe
    by_cases e : v = j
    · subst e
      rw [List.getElem?_set_self (by rw [wipe_length]; exact hl)]
    · rw [List.getElem?_set_ne e]
      exact wipe_on ((List.mem_cons.mp h).elim (fun z => absurd z.symm e) id) hl
theorem wipe_eq {σ σ2 : L2.St} {vs : List Nat} (o : Off vs (wipe σ vs) σ2) : wipe σ2 vs = wipe σ vs := by
  refine List.ext_getElem? fun j => ?_
  by_cases h : j ∈ vs
  · by_cases hl : j < σ.length
    · rw [wipe_on h hl, wipe_on h (by rw [o.1, wipe_length]; exact hl)]
    · rw [List.getElem?_eq_none (by rw [wipe_length, o.1, wipe_length]; omega), List.getElem?_eq_none (by rw [wipe_length]; omega)]
  · rw [wipe_off h, o.2 j h]
theorem setT_wipe : ∀ {is : List Nat} {ds : List D} {ρ ρ2 : Rho}, ρ2.length = ρ.length → (∀ j, j ∉ is → ρ2[j]? = ρ[j]?) → setT is ds ρ2 = setT is ds ρ
  | [], [], ρ, ρ2, hl, h => by
    unfold setT
    rw [List.ext_getElem? fun j => h j (by simp)]
  | [], _ :: _, _, _, _, _ => rfl
  | i :: is, [], _, _, _, _ => rfl
  | i :: is, d :: ds, ρ, ρ2, hl, h => by
    show setT is ds (ρ2.set i _) = setT is ds (ρ.set i _)
    refine setT_wipe (by rw [List.length_set, List.length_set, hl]) fun j hj => ?_
    by_cases e : i = j
    · subst e
      by_cases hi : i < ρ.length
      · rw [List.getElem?_set_self hi, List.getElem?_set_self (by rw [hl]; exact hi)]
      · rw [List.getElem?_eq_none (by rw [List.length_set]; omega), List.getElem?_eq_none (by rw [List.length_set]; omega)]
    · rw [List.getElem?_set_ne e, List.getElem?_set_ne e]
      exact h j fun z => (List.mem_cons.mp z).elim (fun w => e w.symm) hj
theorem setG_wipe {g : Tg} {d : D} {ρ : Rho} : setG g d (wipeR ρ g.slots) = setG g d ρ := by
  cases g with
  | n i =>
    show some ((wipeR ρ [i]).set i _) = some (ρ.set i _)
    show some ((ρ.set i none).set i _) = _
    rw [List.set_set]
  | t is =>
    cases d with
    | tup ds => exact setT_wipe (wipeR_len _) fun j hj => wipeR_off hj
    | _ => rfl
theorem compL_ok {step : D → Ans (Option D)} : ∀ {ds : List D} {y : Except Er (List D)}, compL step ds = some y → ∃ rs, y = .ok rs
  | [], y, e => by cases e; exact ⟨_, rfl⟩
  | d :: ds, y, e => by
    unfold compL at e
    split at e
    · split at e
      · cases e; exact ⟨_, rfl⟩
      · cases e
    · cases e
theorem compL_cons {step : D → Ans (Option D)} {d : D} {ds rs : List D} (e : compL step (d :: ds) = some (.ok rs)) : ∃ o r, step d = some (.ok o) ∧ compL step ds = some (.ok r) ∧ rs = (match o with | some x => x :: r | none => r) := by
  unfold compL at e
  split at e
  · rename_i o e1
    split at e
    · rename_i r e2
      cases e
      exact ⟨o, r, e1, e2, rfl⟩
    · cases e
  · cases e
theorem bind_ok {α β : Type} {x : Ans α} {f : α → Ans β} {b : β} (e : bindR x f = some (.ok b)) : ∃ a, x = some (.ok a) ∧ f a = some (.ok b) := by
  cases x with
  | none => cases e
  | some y =>
    cases y with
    | error e' => cases e
    | ok a => exact ⟨a, rfl, e⟩
/-- a comprehension's turn -/
def turnL (g : Tg) (fi : Rho → Ans Bool) (fe : Rho → EvR) (ρ : Rho) (d : D) : Ans (Option D) :=
  match setG g d ρ with
  | some ρ' => bindR (fi ρ') fun k => match k with
    | true => bindR (fe ρ') fun x => match toD x with
      | some y => some (.ok (some y))
      | none => none
    | false => some (.ok none)
  | none => none
section
variable {X : Cx} {px : Option (Addr × Addr × Addr)} {C : Cfg} {W : WX} {k : Nat} {hh : Bool}
theorem setS_blk {s : Shared} {H : Hp} {scope : Scope} {C' : Addr} {cl : List (Str × Addr)} {fp : List Addr} : SetS (X.blk s H scope (compEnvC scope cl C' X.env) fp) scope := by
  intro x hx
  unfold locB at hx
  split at hx
  · rename_i q
    have e : (relS scope X.env.scope).names.lookup x = some .local := lookup_relS_keep (by decide) q
    exact ⟨.inl e, .inr e⟩
  · rename_i q
    have e : (relS scope X.env.scope).names.lookup x = some .cell := lookup_relS_keep (by decide) q
    refine ⟨.inr e, .inl ?_⟩
    show (scope.names.lookup x == some .cell) = true
    rw [q]
    rfl
  · cases hx
theorem cc_blk (c : Cc X px C W k false) {s : Shared} {H : Hp} {scope : Scope} {C' : Addr} {cl : List (Str × Addr)} {fp : List Addr} : Cc (X.blk s H scope (compEnvC scope cl C' X.env) fp) px C WF k false := by
  refine ⟨c.nd, fun u s' x => ?_, c.tab, ?_⟩
  · obtain ⟨a, B, sI, pins, σ, H, cls, d, e, I, nb, up, sky, na, os, ag, w⟩ := x
    exact w
  · cases c.mode with
    | calm hc hp r f => exact .calm hc hp r f
theorem c_lc (c : Cc X px C W k false) {g : Tg} {elt tg iter : Expr} {ifs : List Expr} {scope : Scope} {pos : Pos} {fs : Rho → Ans (List D)} {fi : Rho → Ans Bool} {fe : Rho → EvR}
    (hi : PI X tg iter (iX (enX X px) W fs fun _ H1 H' => Ex H1 H')) (hg : ckG X.N scope g tg = true)
    (ht : ∀ (s : Shared) (H : Hp) (C : Addr) (cl : List (Str × Addr)) (fp : List Addr), PTs (X.blk s H scope (compEnvC scope cl C X.env) fp) ifs (cT (enX X px) WF fi))
    (he : ∀ (s : Shared) (H : Hp) (C : Addr) (cl : List (Str × Addr)) (fp : List Addr), PE (X.blk s H scope (compEnvC scope cl C X.env) fp) elt (cE (enX X px) WF fe)) :
    ∀ σ H Q, cE (enX X px) W (fun ρ => bindR (fs ρ) fun ds => bindR (optR (szV ds)) fun ds => bindR (compL (turnL g fi fe ρ) ds) fun rs => some (.ok (.fr (.l rs)))) σ H Q →
      tLc (iX (enX X px) W fs fun _ H1 H' => Ex H1 H') (gX (enX X px) g) (cT (enX X px) WF fi) (cE (enX X px) WF fe) ((ownOf X.N g.slots).map (·.2)) σ H Q := by
  intro σ H Q h
  rw [ownOf_slots]
  obtain ⟨B, ρ, G, i, rp, h⟩ := h
  refine ⟨B, ρ, G, i, rp, h.bind.imp fun ds0 G1 H1 g1 q J xs dx sq D hD => ?_⟩
  obtain ⟨ds, hz, q⟩ : ∃ ds, szV ds0 = some ds ∧ QA (enX X px) W σ G1 H1 (RE (enX X px) H Q) (bindR (compL (turnL g fi fe ρ) ds) fun rs => some (.ok (.fr (.l rs)))) := by
    cases e : szV ds0 with
    | none => rw [e] at q; exact q.elim
    | some ds => rw [e] at q; exact ⟨ds, rfl, q⟩
  have hz' : ds0 = ds ∧ ds.length ≤ 16777216 := by
    unfold szV at hz
    split at hz
    · rename_i h; cases hz; exact ⟨rfl, h⟩
    · cases hz
  obtain ⟨rfl, hz'⟩ := hz'
  have hlen : xs.length = ds0.length := dx.length
  cases et : compL (turnL g fi fe ρ) ds0 with
  | none => rw [et] at q; exact q.elim
  | some y =>
    obtain ⟨total, rfl⟩ := compL_ok et
    rw [et] at q
    have q : ∀ G' H', Gr G1 H1 G' H' → ∀ v, DenR (enX X px) G' H' H (.fr (.l total)) v → Q v H' := q
    have hG : G1 D = none := g1.i.free hD
    refine ⟨fun i m Hc => m = xs.length - i ∧ i ≤ xs.length ∧ ∃ G2 acc out rest, Gr G1 H1 G2 Hc ∧ G2 D = none ∧ Hc D = some (.lst acc) ∧ Dens (enX X px) G2 out acc ∧ acc.length ≤ i ∧ compL (turnL g fi fe ρ) (ds0.drop i) = some (.ok rest) ∧ out ++ rest = total,
      ⟨xs.length, by omega, Nat.zero_le _, G1, [], [], total, Gr.loose g1.i hD, hG, upd_same, rfl, Nat.le_refl _, by rw [List.drop_zero]; exact et, rfl⟩, ?_⟩
    rintro j m Hc ⟨hm, hj, G2, acc, out, rest, gr, gD, hacc, dacc, lacc, er, eo⟩
    have sqc := sq Hc gr.h
    by_cases hlt : j < xs.length
    · refine .inr ⟨sqc.go j hlt, _, fun H' p' => ⟨xs.length - (j + 1), by omega, p'⟩, fun x H' y => ?_⟩
      obtain ⟨e1, e2⟩ := sqc.yld j x H' hlt y
      subst e1
      obtain ⟨d, ed, dd⟩ := dx.get' e2
      have edrop : ds0.drop j = d :: ds0.drop (j + 1) := by
        have hj2 : j < ds0.length := by omega
        rw [List.drop_eq_getElem_cons hj2]
        congr 1
        rw [List.getElem?_eq_getElem hj2] at ed
        exact Option.some.inj ed
      rw [edrop] at er
      obtain ⟨o, r, s1, s2, s3⟩ := compL_cons er
      unfold turnL at s1
      cases eg : setG g d ρ with
      | none => rw [eg] at s1; cases s1
      | some ρ' =>
        rw [eg] at s1
        obtain ⟨kk, f1, s1⟩ := bind_ok s1
        refine ⟨B, wipeR ρ g.slots, G2, d, ρ', gr.i, rep_wipe ((rp.mono g1).mono gr) _, Den.mono gr.g _ _ dd, by rw [setG_wipe]; exact eg, fun σ2 r2 off => ⟨wipe_eq off, ?_⟩⟩
        refine ⟨B, ρ', G2, gr.i, r2, ?_⟩
        rw [f1]
        intro G3 H3 g3
        have gD3 : ∀ {G4 H4 : Hp}, Gr G2 H' G4 H4 → G4 D = none := fun g => g.n D gD ⟨.lst acc, hacc, (fun _ z => HO.noConfusion z), (fun _ z => HO.noConfusion z)⟩
        cases kk with
        | false =>
          cases s1
          show _ = _ ∧ _
          exact ⟨rfl, hlt, G3, acc, out, rest, gr.trans g3, gD3 g3, g3.h _ _ hacc, Dens.mono g3.g _ _ dacc, by omega, by rw [s3]; exact s2, eo⟩
        | true =>
          obtain ⟨xr, f2, s1⟩ := bind_ok s1
          show cE _ _ _ _ _ _
          refine ⟨B, ρ', G3, g3.i, r2.mono g3, ?_⟩
          rw [f2]
          intro G4 H4 g4 v dv
          cases ey : toD xr with
          | none => rw [ey] at s1; cases s1
          | some yv =>
            rw [ey] at s1
            cases s1
            obtain ⟨G5, g5, x5, d5⟩ := toD_den ey g4 dv
            have g6 := g3.trans g5
            refine ⟨acc, g6.h _ _ hacc, by rw [line_eq]; omega, rfl, hlt, G5, acc ++ [v], out ++ [yv], r, ⟨(gr.trans g6).g, Ex.mut (gr.trans g6).h hD, fun a u qa => ?_, (gr.trans g6).n⟩, gD3 g6, upd_same, (Dens.mono g6.g _ _ dacc).append (Dens.one d5), by rw [List.length_append, List.length_singleton]; omega, s2, by rw [List.append_assoc]; rw [← eo, s3]; rfl⟩
            have hne : a ≠ D := fun z => by
              rw [z, gD3 g6] at qa
              cases qa
            rw [upd_ne hne]
            exact g6.i _ _ qa
    · have ej : j = xs.length := by omega
      subst ej
      refine .inl ⟨sqc.stop _ (Nat.le_refl _), ?_⟩
      rw [List.drop_eq_nil_of_le (by omega)] at er
      cases er
      rw [List.append_nil] at eo
      subst eo
      exact q G2 Hc gr _ ⟨D, rfl, g1.h.free hD, gD, acc, hacc, dacc⟩
end
end DE

set_option Elab.async false
set_option linter.all false
set_option maxRecDepth 100000
set_option maxHeartbeats 4000000
/-! DE7d: the look's gift, for all expressions. -/
namespace DE
open PySem PySem.Spec PyProof.Rows L2
section
variable {X : Cx} {px : Option (Addr × Addr × Addr)} {C : Cfg} {W : WX} {k : Nat} {hh : Bool}
/-! ### built-ins -/
theorem cB {r : List V → Hp → VK → Prop} {b : Bi} {fa : Rho → Ans (List RV)} (m : MeetsC (enX X px) r (biV b)) {t : TE} (ht : t = tCB r (cA (enX X px) W fa)) : ∀ σ H Q, cE (enX X px) W (fun ρ => bindR (fa ρ) fun rs => optR (biV b rs)) σ H Q → t σ H Q := fun σ H Q h => by
  subst ht
  obtain ⟨B, ρ, G, i, rp, h⟩ := h
  refine cA_stepE i rp h fun vs rs G1 H1 er g1 r1 d1 h1 => ?_
  obtain ⟨z, e, q⟩ := h1.opt
  exact m G1 H1 H rs vs z Q g1.i d1 e fun w G' H' g' dw => q G' H' (g1.trans g') w (dw.back g1.h)
theorem meets_no {E : En} {g : List RV → Option RV} (h : ∀ rs, g rs = none) : MeetsC E (fun _ _ _ => False) g := fun G H H0 xs vs z Q i dx e k => by
  rw [h] at e
  cases e
theorem call_no {f : Value} : CallR X f (fun _ _ _ => False) := fun _ _ _ _ _ _ _ _ _ q => q.elim
theorem c_bi (c : Cc X px C W k hh) {b : Bi} {e : Expr} {es : List Expr} {p pos : Pos} {fa : Rho → Ans (List RV)} (hcm : calmBi hh b = true) (hg : Gl X b.nm) (ha : PA X (e :: es) (cA (enX X px) W fa))
    (he : starEach (e :: es) X.env = (false, eval e X.env) :: starEach es X.env) (hpl : (backTo pos (starEach es X.env)).any (·.1) = false) :
    PE X (.Call (.Name b.nm p) (e :: es) [] pos) (cE (enX X px) W fun ρ => bindR (fa ρ) fun rs => optR (biV b rs)) := by
  have hb : ∀ x ∈ bNames, X.mg x = none := c.tab.blt
  have hu : X.A.units + 100 < cLine := c.units
  cases b with
  | len => exact pe_imp (pe_callB (id := "len") call_lenX hg (hb _ (by decide +kernel)) (by decide +kernel) ha (by decide) (by decide) he hpl) (cB meets_len rfl)
  | abs => exact pe_imp (pe_callB (id := "abs") call_abs hg (hb _ (by decide +kernel)) (by decide +kernel) ha (by decide) (by decide) he hpl) (cB meets_abs rfl)
  | int => exact pe_imp (pe_callTy (T := "int") call_int1 hg (hb _ (by decide +kernel)) (by decide +kernel) ha (by decide) (by decide) he hpl) (cB meets_int rfl)
  | tup => exact pe_imp (pe_callTy (T := "tuple") call_tuple_of hg (hb _ (by decide +kernel)) (by decide +kernel) ha (by decide) (by decide) he hpl) (cB meets_tup rfl)
  | lst => exact pe_imp (pe_callTy (T := "list") call_list_of hg (hb _ (by decide +kernel)) (by decide +kernel) ha (by decide) (by decide) he hpl) (cB meets_lst rfl)
  | sorted =>
    have hcalm : X.calm = true := by
      cases c.mode with
      | calm hc _ _ _ => exact hc
      | hot _ _ _ _ => cases hcm
    exact pe_imp (pe_callB (id := "sorted") (call_sortedX hcalm hu) hg (hb _ (by decide +kernel)) (by decide +kernel) ha (by decide) (by decide) he hpl) (cB meets_sorted rfl)
  | min =>
    have hcalm : X.calm = true := by
      cases c.mode with
      | calm hc _ _ _ => exact hc
      | hot _ _ _ _ => cases hcm
    exact pe_imp (pe_callB (id := "min") (cr_min hcalm) hg (hb _ (by decide +kernel)) (by decide +kernel) ha (by decide) (by decide) he hpl) (cB meets_min rfl)
  | max =>
    have hcalm : X.calm = true := by
      cases c.mode with
      | calm hc _ _ _ => exact hc
      | hot _ _ _ _ => cases hcm
    exact pe_imp (pe_callB (id := "max") (cr_max hcalm) hg (hb _ (by decide +kernel)) (by decide +kernel) ha (by decide) (by decide) he hpl) (cB meets_max rfl)
  | sum =>
    have hcalm : X.calm = true := by
      cases c.mode with
      | calm hc _ _ _ => exact hc
      | hot _ _ _ _ => cases hcm
    exact pe_imp (pe_callB (id := "sum") (cr_sum hcalm) hg (hb _ (by decide +kernel)) (by decide +kernel) ha (by decide) (by decide) he hpl) (cB meets_sum rfl)
  | all =>
    have hcalm : X.calm = true := by
      cases c.mode with
      | calm hc _ _ _ => exact hc
      | hot _ _ _ _ => cases hcm
    exact pe_imp (pe_callB (id := "all") (cr_all hcalm) hg (hb _ (by decide +kernel)) (by decide +kernel) ha (by decide) (by decide) he hpl) (cB meets_all rfl)
  | any =>
    have hcalm : X.calm = true := by
      cases c.mode with
      | calm hc _ _ _ => exact hc
      | hot _ _ _ _ => cases hcm
    exact pe_imp (pe_callB (id := "any") (cr_any hcalm) hg (hb _ (by decide +kernel)) (by decide +kernel) ha (by decide) (by decide) he hpl) (cB meets_any rfl)
/-! ### arguments -/
theorem a_nil : PA X [] (cA (enX X px) W (evA C .nil)) := ⟨fun pos pins s σ H Q I h => by
  obtain ⟨B, ρ, G, i, rp, h⟩ := h
  rw [evA] at h
  exact pa_nil.run pos pins s σ H Q I (h G H (Gr.refl i) [] rfl)⟩
theorem a_cons {e : Expr} {es : List Expr} {f : Rho → EvR} {fa : Rho → Ans (List RV)} (ha : PE X e (cE (enX X px) W f)) (hr : PA X es (cA (enX X px) W fa)) (hs : starEach (e :: es) X.env = (false, eval e X.env) :: starEach es X.env) :
    PA X (e :: es) (cA (enX X px) W fun ρ => bindR (f ρ) fun x => bindR (fa ρ) fun rs => some (.ok (x :: rs))) := by
  refine pa_imp (pa_cons ha hr hs) fun σ H Q h => ?_
  obtain ⟨B, ρ, G, i, rp, h⟩ := h
  refine cE_step i rp h fun v x G1 H1 g1 r1 d1 h1 => ?_
  refine cA_step g1.i r1 h1 fun vs rs G2 H2 g2 r2 d2 h2 => ?_
  exact (show QA _ _ _ _ _ _ (some (.ok (x :: rs))) from h2) G2 H2 (Gr.refl g2.i) (v :: vs) ⟨v, vs, rfl, d1.mono g2, d2.back g1.h⟩
def IA.len : IA → Nat
  | .nil => 0
  | .cons _ r => r.len + 1
theorem evA_len : ∀ {as : IA} {ρ : Rho} {rs : List RV}, evA C as ρ = some (.ok rs) → rs.length = as.len
  | .nil, ρ, rs, e => by
    rw [evA] at e
    cases e
    rfl
  | .cons a r, ρ, rs, e => by
    rw [evA] at e
    obtain ⟨x, e1, e⟩ := bind_ok e
    obtain ⟨rs', e2, e⟩ := bind_ok e
    cases e
    rw [List.length_cons, evA_len e2]
    rfl
theorem ckA_len {N : List Str} {h : Bool} {sc : Scope} : ∀ {as : IA} {es : List Expr}, ckA N C h sc as es = true → as.len = es.length
  | .nil, [], _ => rfl
  | .nil, _ :: _, k => by simp [ckA] at k
  | .cons a r, [], k => by simp [ckA] at k
  | .cons a r, e :: es, k => by
    simp only [ckA, Bool.and_eq_true] at k
    show r.len + 1 = es.length + 1
    rw [ckA_len k.2]
end

/-! ### the claims -/
def SE (C : Cfg) (hh : Bool) (ie : IE) : Prop := ∀ (X : Cx) (px : Option (Addr × Addr × Addr)) (W : WX) (k : Nat), Cc X px C W k hh → ∀ e, ckE X.N C hh X.env.scope ie e = true → PE X e (cE (enX X px) W (evE C ie))
def ST (C : Cfg) (hh : Bool) (ie : IE) : Prop := ∀ (X : Cx) (px : Option (Addr × Addr × Addr)) (W : WX) (k : Nat), Cc X px C W k hh → ∀ e, ckE X.N C hh X.env.scope ie e = true → PT X e (cT (enX X px) W (evT C ie))
def SA (C : Cfg) (hh : Bool) (as : IA) : Prop := ∀ (X : Cx) (px : Option (Addr × Addr × Addr)) (W : WX) (k : Nat), Cc X px C W k hh → ∀ es, ckA X.N C hh X.env.scope as es = true → PA X es (cA (enX X px) W (evA C as))
def SB (C : Cfg) (hh : Bool) (as : IA) (op : BoolOp) (f : Rho → EvR) (t : Rho → Ans Bool) : Prop := ∀ (X : Cx) (px : Option (Addr × Addr × Addr)) (W : WX) (k : Nat), Cc X px C W k hh → ∀ es pos, ckA X.N C hh X.env.scope as es = true → PE X (.BoolOp op es pos) (cE (enX X px) W f) ∧ PW X (.BoolOp op es pos) (cT (enX X px) W t)
def SO_ (C : Cfg) (hh : Bool) (o : IO) : Prop := ∀ (X : Cx) (px : Option (Addr × Addr × Addr)) (W : WX) (k : Nat), Cc X px C W k hh → (∀ e, ckO X.N C hh X.env.scope o e = true → PO X e (cO (enX X px) W (evO C o))) ∧ ∀ es, ckIf X.N C hh X.env.scope o es = true → PTs X es (cT (enX X px) W (evIf C o))
def SS (C : Cfg) (hh : Bool) (o : ISrc) : Prop := ∀ (X : Cx) (px : Option (Addr × Addr × Addr)) (W : WX) (k : Nat), Cc X px C W k hh → ∀ e tg, ckSrc X.N C hh X.env.scope o e = true → PI X tg e (iX (enX X px) W (evSrc C o) fun _ H1 H' => Ex H1 H') ∧ ∀ x, foldedSetIterable e X.env x = pure x
section
variable {C : Cfg} {hh : Bool}
/-- a test that never answers -/
theorem t_none {X : Cx} {px : Option (Addr × Addr × Addr)} {W : WX} {e : Expr} {t : Rho → Ans Bool} (h : ∀ ρ, t ρ = none) : PT X e (cT (enX X px) W t) := ⟨fun pins s σ H Q I q => by
  obtain ⟨B, ρ, G, i, rp, q⟩ := q
  rw [h] at q
  exact q.elim⟩
theorem e_none {X : Cx} {px : Option (Addr × Addr × Addr)} {W : WX} {e : Expr} {t : Rho → EvR} (h : ∀ ρ, t ρ = none) : PE X e (cE (enX X px) W t) := ⟨fun pins s σ H Q I q => by
  obtain ⟨B, ρ, G, i, rp, q⟩ := q
  rw [h] at q
  exact q.elim⟩
theorem pe_fn {X : Cx} {px : Option (Addr × Addr × Addr)} {W : WX} {e : Expr} {f g : Rho → EvR} (h : PE X e (cE (enX X px) W f)) (q : ∀ ρ, g ρ = f ρ) : PE X e (cE (enX X px) W g) := by
  have : g = f := funext q
  rw [this]
  exact h
theorem pt_fn {X : Cx} {px : Option (Addr × Addr × Addr)} {W : WX} {e : Expr} {f g : Rho → Ans Bool} (h : PT X e (cT (enX X px) W f)) (q : ∀ ρ, g ρ = f ρ) : PT X e (cT (enX X px) W g) := by
  have : g = f := funext q
  rw [this]
  exact h
end
end DE

set_option Elab.async false
set_option linter.all false
set_option maxRecDepth 100000
set_option maxHeartbeats 8000000
/-! DE7e: the recursion over the tree. -/
namespace DE
open PySem PySem.Spec PyProof.Rows L2
theorem nmB_of {X : Cx} {i : Nat} {x : Str} (h : nmB X.N X.env.scope i x = true) : X.N[i]? = some x ∧ Vis X.env.scope x ∧ (x == ("__debug__" : Str)) = false ∧ (x == ("__classdict__" : Str)) = false := by
  unfold nmB at h
  simp only [Bool.and_eq_true, decide_eq_true_eq, Bool.not_eq_true'] at h
  exact ⟨h.1.1.1, vis_of rfl h.1.1.2, h.1.2, h.2⟩
theorem lastm {op op' : CmpOp} {b d : Expr} (h : behindInMarks op' d = false) : lastMarks [op, op'] [b, d] = false := h
theorem m2_of {X : Cx} {o e f : Expr} {ap cp : Pos} (hb : attributeBase o "get" X.env (eval o X.env) = eval o X.env) (hl : (ap.endLine == cp.line) = true) (he : notStar e = true) (hf : notStar f = true) : M2 X o "get" ap e f cp := by
  have s1 : starEach [e, f] X.env = [(false, eval e X.env), (false, eval f X.env)] := by
    rw [star_cons he, star_cons hf]
    rfl
  refine ⟨hb, ?_, hl, ?_⟩
  · rw [s1]
    rfl
  · rw [s1]
    rfl
theorem fold_of {N : List Str} {C : Cfg} {h : Bool} {sc : Scope} {ie : IE} {e : Expr} {env : Env} (k : ckE N C h sc ie e = true) : ∀ x, foldedSetIterable e env x = pure x := by
  intro x
  cases e with
  | Set a b c => cases ie <;> simp [ckE] at k
  | _ => rfl
section
variable {C : Cfg} {hh : Bool}
theorem s_const {ie : IE} (he : SE C hh ie) (ht : ∀ ρ, evT C ie ρ = none) : SE C hh ie ∧ ST C hh ie := ⟨he, fun X px W k c e h => t_none ht⟩
mutual
theorem sE (C : Cfg) (hh : Bool) : ∀ ie : IE, SE C hh ie ∧ ST C hh ie
  | .var i => by
    have key : SE C hh (.var i) := fun X px W k c e h => by
      cases e with
      | Name x p =>
        obtain ⟨h1, h2, h3, h4⟩ := nmB_of (show nmB X.N X.env.scope i x = true from h)
        exact c_var h1 h2 h3 h4
      | _ => simp [ckE] at h
    refine ⟨key, fun X px W k c e h => ?_⟩
    have k1 := key X px W k c e h
    cases e with
    | Name x p => exact pt_fn (t_tru k1 fun _ => rfl) fun ρ => by rw [evT]
    | _ => simp [ckE] at h
  | .int n => s_const (fun X px W k c e h => by
      cases e with
      | Constant v a p =>
        cases v with
        | int m =>
          have h' : n = m := by simpa [ckE] using h
          subst h'
          exact c_const pe_int (dd := .int n) (fun _ => rfl) fun ρ => by rw [evE]
        | _ => simp [ckE] at h
      | _ => simp [ckE] at h) fun ρ => by rw [evT] <;> simp
  | .str n => s_const (fun X px W k c e h => by
      cases e with
      | Constant v a p =>
        cases v with
        | str m =>
          have h' : n = m := by simpa [ckE] using h
          subst h'
          exact c_const pe_str (dd := .str n) (fun _ => rfl) fun ρ => by rw [evE]
        | _ => simp [ckE] at h
      | _ => simp [ckE] at h) fun ρ => by rw [evT] <;> simp
  | .bl b => by
    have key : SE C hh (.bl b) := fun X px W k c e h => by
      cases e with
      | Constant v a p =>
        cases v with
        | bool m =>
          have h' : b = m := by simpa [ckE] using h
          subst h'
          exact c_const pe_bl (dd := .bl b) (fun _ => rfl) fun ρ => by rw [evE]
        | _ => simp [ckE] at h
      | _ => simp [ckE] at h
    refine ⟨key, fun X px W k c e h => ?_⟩
    have k1 := key X px W k c e h
    cases e with
    | Constant v a p => exact pt_fn (t_tru k1 fun _ => rfl) fun ρ => by rw [evT]
    | _ => simp [ckE] at h
  | .non => s_const (fun X px W k c e h => by
      cases e with
      | Constant v a p =>
        cases v with
        | none => exact c_const pe_non (dd := .non) (fun _ => rfl) fun ρ => by rw [evE]
        | _ => simp [ckE] at h
      | _ => simp [ckE] at h) fun ρ => by rw [evT] <;> simp
  | .bin o a b => s_const (fun X px W k c e h => by
      cases e with
      | BinOp x p y pos =>
        simp only [ckE, Bool.and_eq_true, decide_eq_true_eq] at h
        obtain ⟨⟨h1, h2⟩, h3⟩ := h
        subst h1
        exact pe_fn (c_bin c ((sE C hh a).1 X px W k c x h2) ((sE C hh b).1 X px W k c y h3)) fun ρ => by rw [evE]
      | _ => simp [ckE] at h) fun ρ => by rw [evT] <;> simp
  | .neg a => s_const (fun X px W k c e h => by
      cases e with
      | UnaryOp p x pos =>
        cases p with
        | USub =>
          simp only [ckE] at h
          exact pe_fn (c_neg ((sE C hh a).1 X px W k c x h)) fun ρ => by rw [evE] <;> rfl
        | _ => simp [ckE] at h
      | _ => simp [ckE] at h) fun ρ => by rw [evT] <;> simp
  | .cmp o a b => ⟨fun X px W k c e h => by
      cases e with
      | Compare x ops ys pos =>
        match ops, ys, h with
        | [p], [y], h =>
          simp only [ckE, Bool.and_eq_true, decide_eq_true_eq] at h
          obtain ⟨⟨h1, h2⟩, h3⟩ := h
          subst h1
          exact pe_fn (c_cmp c ((sE C hh a).1 X px W k c x h2) ((sE C hh b).1 X px W k c y h3) (nomark_ck h3)) fun ρ => by rw [evE]
        | [], _, h => simp [ckE] at h
        | [_], [], h => simp [ckE] at h
        | [_], _ :: _ :: _, h => simp [ckE] at h
        | _ :: _ :: _, _, h => simp [ckE] at h
      | _ => simp [ckE] at h, fun X px W k c e h => by
      cases e with
      | Compare x ops ys pos =>
        match ops, ys, h with
        | [p], [y], h =>
          simp only [ckE, Bool.and_eq_true, decide_eq_true_eq] at h
          obtain ⟨⟨h1, h2⟩, h3⟩ := h
          subst h1
          exact pt_fn (t_cmp c ((sE C hh a).1 X px W k c x h2) ((sE C hh b).1 X px W k c y h3) (nomark_ck h3)) fun ρ => by rw [evT]
        | [], _, h => simp [ckE] at h
        | [_], [], h => simp [ckE] at h
        | [_], _ :: _ :: _, h => simp [ckE] at h
        | _ :: _ :: _, _, h => simp [ckE] at h
      | _ => simp [ckE] at h⟩
  | .chain o o' a b d => ⟨fun X px W k c e h => by
      cases e with
      | Compare x ops ys pos =>
        match ops, ys, h with
        | [p, p'], [y, z], h =>
          simp only [ckE, Bool.and_eq_true, decide_eq_true_eq] at h
          obtain ⟨⟨⟨⟨h1, h2⟩, h3⟩, h4⟩, h5⟩ := h
          subst h1 h2
          exact pe_fn (c_chain c ((sE C hh a).1 X px W k c x h3) ((sE C hh b).1 X px W k c y h4) ((sE C hh d).1 X px W k c z h5) (lastm (nomark_ck h5))) fun ρ => by rw [evE] <;> rfl
        | [], _, h => simp [ckE] at h
        | [_], _, h => simp [ckE] at h
        | [_, _], [], h => simp [ckE] at h
        | [_, _], [_], h => simp [ckE] at h
        | [_, _], _ :: _ :: _ :: _, h => simp [ckE] at h
        | _ :: _ :: _ :: _, _, h => simp [ckE] at h
      | _ => simp [ckE] at h, fun X px W k c e h => by
      cases e with
      | Compare x ops ys pos =>
        match ops, ys, h with
        | [p, p'], [y, z], h =>
          simp only [ckE, Bool.and_eq_true, decide_eq_true_eq] at h
          obtain ⟨⟨⟨⟨h1, h2⟩, h3⟩, h4⟩, h5⟩ := h
          subst h1 h2
          exact pt_fn (t_chain c ((sE C hh a).1 X px W k c x h3) ((sE C hh b).1 X px W k c y h4) ((sE C hh d).1 X px W k c z h5) (lastm (nomark_ck h5))) fun ρ => by rw [evT] <;> rfl
        | [], _, h => simp [ckE] at h
        | [_], _, h => simp [ckE] at h
        | [_, _], [], h => simp [ckE] at h
        | [_, _], [_], h => simp [ckE] at h
        | [_, _], _ :: _ :: _ :: _, h => simp [ckE] at h
        | _ :: _ :: _ :: _, _, h => simp [ckE] at h
      | _ => simp [ckE] at h⟩
  | .andd as => ⟨fun X px W k c e h => by
      cases e with
      | BoolOp op es pos =>
        cases op with
        | And => exact pe_fn ((sA C hh as).2.1 X px W k c es pos (by simpa [ckE] using h)).1 fun ρ => by rw [evE]
        | Or => simp [ckE] at h
      | _ => simp [ckE] at h, fun X px W k c e h => by
      cases e with
      | BoolOp op es pos =>
        cases op with
        | And => exact pt_fn ((sA C hh as).2.1 X px W k c es pos (by simpa [ckE] using h)).2.pt fun ρ => by rw [evT]
        | Or => simp [ckE] at h
      | _ => simp [ckE] at h⟩
  | .orr as => ⟨fun X px W k c e h => by
      cases e with
      | BoolOp op es pos =>
        cases op with
        | Or => exact pe_fn ((sA C hh as).2.2 X px W k c es pos (by simpa [ckE] using h)).1 fun ρ => by rw [evE]
        | And => simp [ckE] at h
      | _ => simp [ckE] at h, fun X px W k c e h => by
      cases e with
      | BoolOp op es pos =>
        cases op with
        | Or => exact pt_fn ((sA C hh as).2.2 X px W k c es pos (by simpa [ckE] using h)).2.pt fun ρ => by rw [evT]
        | And => simp [ckE] at h
      | _ => simp [ckE] at h⟩
  | .nott a => ⟨fun X px W k c e h => by
      cases e with
      | UnaryOp p x pos =>
        cases p with
        | Not => exact pe_fn (c_not ((sE C hh a).1 X px W k c x (by simpa [ckE] using h))) fun ρ => by rw [evE] <;> rfl
        | _ => simp [ckE] at h
      | _ => simp [ckE] at h, fun X px W k c e h => by
      cases e with
      | UnaryOp p x pos =>
        cases p with
        | Not => exact pt_fn (t_not ((sE C hh a).2 X px W k c x (by simpa [ckE] using h))) fun ρ => by rw [evT]
        | _ => simp [ckE] at h
      | _ => simp [ckE] at h⟩
  | .ife a b d => s_const (fun X px W k c e h => by
      cases e with
      | IfExp x y z pos =>
        simp only [ckE, Bool.and_eq_true] at h
        exact pe_fn (c_ife ((sE C hh a).2 X px W k c x h.1.1) ((sE C hh b).1 X px W k c y h.1.2) ((sE C hh d).1 X px W k c z h.2)) fun ρ => by rw [evE] <;> rfl
      | _ => simp [ckE] at h) fun ρ => by rw [evT] <;> simp
  | .tup as => s_const (fun X px W k c e h => by
      cases e with
      | Tuple es x1 pos =>
        simp only [ckE, Bool.and_eq_true, decide_eq_true_eq] at h
        exact pe_fn (c_tup (fun ρ rs e => by rw [evA_len e, ckA_len h.2]; exact h.1) ((sA C hh as).1 X px W k c es h.2)) fun ρ => by rw [evE] <;> rfl
      | _ => simp [ckE] at h) fun ρ => by rw [evT] <;> simp
  | .lst as => s_const (fun X px W k c e h => by
      cases e with
      | List es pos =>
        simp only [ckE, Bool.and_eq_true, decide_eq_true_eq] at h
        exact pe_fn (c_lst (fun ρ rs e => by rw [evA_len e, ckA_len h.2]; exact h.1) ((sA C hh as).1 X px W k c es h.2)) fun ρ => by rw [evE] <;> rfl
      | _ => simp [ckE] at h) fun ρ => by rw [evT] <;> simp
  | .dictT => s_const (fun X px W k c e h => by
      cases e with
      | Dict ks vs pos =>
        match ks, vs, h with
        | [], [], h => exact c_dictT
        | [], _ :: _, h => simp [ckE] at h
        | _ :: _, _, h => simp [ckE] at h
      | _ => simp [ckE] at h) fun ρ => by rw [evT] <;> simp
  | .dictK => s_const (fun X px W k c e h => by
      cases e with
      | Dict ks vs pos =>
        match ks, vs, h with
        | [], [], h => exact c_dictK
        | [], _ :: _, h => simp [ckE] at h
        | _ :: _, _, h => simp [ckE] at h
      | _ => simp [ckE] at h) fun ρ => by rw [evT] <;> simp
  | .ix a i => by
    have key : SE C hh (.ix a i) := fun X px W k c e h => by
      cases e with
      | Subscript x y pos =>
        simp only [ckE, Bool.and_eq_true] at h
        exact pe_fn (c_ix c (ck_slice h.2) ((sE C hh a).1 X px W k c x h.1) ((sE C hh i).1 X px W k c y h.2)) fun ρ => by rw [evE]
      | _ => simp [ckE] at h
    refine ⟨key, fun X px W k c e h => ?_⟩
    have k1 := key X px W k c e h
    cases e with
    | Subscript x y pos => exact pt_fn (t_tru k1 fun _ => rfl) fun ρ => by rw [evT, evE]
    | _ => simp [ckE] at h
  | .dix a i => s_const (fun X px W k c e h => by
      cases e with
      | Subscript x y pos =>
        simp only [ckE, Bool.and_eq_true] at h
        exact pe_fn (c_dix c (ck_slice h.2) ((sE C hh a).1 X px W k c x h.1) ((sE C hh i).1 X px W k c y h.2)) fun ρ => by rw [evE]
      | _ => simp [ckE] at h) fun ρ => by rw [evT] <;> simp
  | .sl a lo hi => s_const (fun X px W k c e h => by
      cases e with
      | Subscript x y pos =>
        cases y with
        | Slice l u st p2 =>
          cases st with
          | none =>
            simp only [ckE, Bool.and_eq_true] at h
            exact pe_fn (c_sl ((sE C hh a).1 X px W k c x h.1.1) ((sO C hh lo X px W k c).1 l h.1.2) ((sO C hh hi X px W k c).1 u h.2)) fun ρ => by rw [evE]
          | some _ => simp [ckE] at h
        | _ => simp [ckE] at h
      | _ => simp [ckE] at h) fun ρ => by rw [evT] <;> simp
  | .call j as => by
    have key : SE C hh (.call j as) := fun X px W k c e h => by
      cases e with
      | Call f es ks pos =>
        cases f with
        | Name x p =>
          match as, es, ks, h with
          | .cons a r, e :: es, [], h =>
            simp only [ckE, Bool.and_eq_true, decide_eq_true_eq] at h
            obtain ⟨⟨⟨h1, h2⟩, h3⟩, h4⟩ := h
            obtain ⟨g1, g2, g3⟩ := gl_of rfl h1
            cases q : C.T[j]? with
            | none => rw [q] at h2; simp at h2
            | some fn =>
              rw [q] at h2
              have h2 : fn.name = x := by simpa using h2
              subst h2
              have pa : PA X (e :: es) (cA (enX X px) W (evA C (.cons a r))) := (sA C hh (.cons a r)).1 X px W k c (e :: es) (by simp only [ckA, Bool.and_eq_true]; exact ⟨h3, h4⟩)
              exact pe_fn (pe_callD c q g1 g2 pa (star_cons (ck_star h3)) (plain_args h4)) fun ρ => by rw [evE, q]
          | .cons _ _, _ :: _, _ :: _, h => simp [ckE] at h
          | .cons _ _, [], _, h => simp [ckE] at h
          | .nil, _, _, h => simp [ckE] at h
        | _ => simp [ckE] at h
      | _ => simp [ckE] at h
    refine ⟨key, fun X px W k c e h => ?_⟩
    have k1 := key X px W k c e h
    cases e with
    | Call f es ks pos => exact pt_fn (t_tru k1 fun _ => rfl) fun ρ => by rw [evT, evE]
    | _ => simp [ckE] at h
  | .bi b as => s_const (fun X px W k c e h => by
      cases e with
      | Call f es ks pos =>
        cases f with
        | Name x p =>
          match as, es, ks, h with
          | .cons a r, e :: es, [], h =>
            simp only [ckE, Bool.and_eq_true, decide_eq_true_eq] at h
            obtain ⟨⟨⟨⟨h0, h1⟩, h2⟩, h3⟩, h4⟩ := h
            obtain ⟨g1, g2, g3⟩ := gl_of rfl h1
            subst h2
            have pa : PA X (e :: es) (cA (enX X px) W (evA C (.cons a r))) := (sA C hh (.cons a r)).1 X px W k c (e :: es) (by simp only [ckA, Bool.and_eq_true]; exact ⟨h3, h4⟩)
            exact pe_fn (c_bi c h0 g1 pa (star_cons (ck_star h3)) (plain_args h4)) fun ρ => by rw [evE]
          | .cons _ _, _ :: _, _ :: _, h => simp [ckE] at h
          | .cons _ _, [], _, h => simp [ckE] at h
          | .nil, _, _, h => simp [ckE] at h
        | _ => simp [ckE] at h
      | _ => simp [ckE] at h) fun ρ => by rw [evT] <;> simp
  | .get d kk z => s_const (fun X px W k c e h => by
      cases e with
      | Call f es ks pos =>
        cases f with
        | Attribute o n ap =>
          match es, ks, h with
          | [e, f], [], h =>
            simp only [ckE, Bool.and_eq_true, decide_eq_true_eq] at h
            obtain ⟨⟨⟨⟨h0, h1⟩, h2⟩, h3⟩, h4⟩ := h
            subst h0
            exact pe_fn (c_get c ((sE C hh d).1 X px W k c o h2) ((sE C hh kk).1 X px W k c e h3) ((sE C hh z).1 X px W k c f h4) (m2_of (base_of h2) h1 (ck_star h3) (ck_star h4))) fun ρ => by rw [evE]
          | [_, _], _ :: _, h => simp [ckE] at h
          | [], _, h => simp [ckE] at h
          | [_], _, h => simp [ckE] at h
          | _ :: _ :: _ :: _, _, h => simp [ckE] at h
        | _ => simp [ckE] at h
      | _ => simp [ckE] at h) fun ρ => by rw [evT] <;> simp
  | .attr a n => s_const (fun X px W k c e h => by
      cases e with
      | Attribute o m pos =>
        simp only [ckE, Bool.and_eq_true, decide_eq_true_eq] at h
        obtain ⟨h1, h2⟩ := h
        subst h1
        exact pe_fn (pe_attrX c ((sE C hh a).1 X px W k c o h2) (base_of h2)) fun ρ => by rw [evE]
      | _ => simp [ckE] at h) fun ρ => by rw [evT] <;> simp
  | .isi a cl => by
    have key : SE C hh (.isi a cl) := fun X px W k c e h => by
      cases e with
      | Call f es ks pos =>
        cases f with
        | Name x p =>
          match es, ks, h with
          | [e, y], [], h =>
            cases y with
            | Name y p2 =>
              simp only [ckE, Bool.and_eq_true, decide_eq_true_eq] at h
              obtain ⟨⟨⟨⟨h1, h2⟩, h3⟩, h4⟩, h5⟩ := h
              subst h2
              obtain ⟨g1, _, _⟩ := gl_of rfl h1
              obtain ⟨g2, g3, _⟩ := gl_of rfl h4
              exact pe_fn (pe_isi c g1 g2 g3 h5 ((sE C hh a).1 X px W k c e h3) (star_cons (ck_star h3))) fun ρ => by rw [evE]
            | _ => simp [ckE] at h
          | [_, y], _ :: _, h => cases y <;> simp [ckE] at h
          | [], _, h => simp [ckE] at h
          | [_], _, h => simp [ckE] at h
          | _ :: _ :: _ :: _, _, h => simp [ckE] at h
        | _ => simp [ckE] at h
      | _ => simp [ckE] at h
    refine ⟨key, fun X px W k c e h => ?_⟩
    have k1 := key X px W k c e h
    cases e with
    | Call f es ks pos =>
      refine pt_fn (t_bl (o := fun ρ => bindR (evE C a ρ) fun x => optR (isiV C.isa x cl)) (pe_fn k1 fun ρ => ?_) fun _ => rfl) fun ρ => by rw [evT]
      rw [evE]
      cases evE C a ρ with
      | none => rfl
      | some y =>
        cases y with
        | error e => rfl
        | ok x =>
          show bindR (optR (isiV C.isa x cl)) _ = optR (blR (isiV C.isa x cl))
          cases isiV C.isa x cl with
          | none => rfl
          | some b => rfl
    | _ => simp [ckE] at h
  | .lc elt g src ifs => s_const (fun X px W k c e h => by
      cases e with
      | ListComp el gens scope pos =>
        match gens, h with
        | [⟨tg, it, fs, asy⟩], h =>
          simp only [ckE, Bool.and_eq_true, Bool.not_eq_true', decide_eq_true_eq] at h
          obtain ⟨⟨⟨⟨⟨⟨ha, h0⟩, h1⟩, h2⟩, h3⟩, h4⟩, h5⟩ := h
          subst h0
          subst ha
          have hs := sS C false src X px W k c it tg h1
          have hcalm : X.calm = true := by
            cases c.mode with
            | calm hc _ _ _ => exact hc
          refine pe_fn (f := fun ρ => bindR (evSrc C src ρ) fun ds => bindR (optR (szV ds)) fun ds => bindR (compL (turnL g (evIf C ifs) (evE C elt) ρ) ds) fun rs => some (.ok (.fr (.l rs)))) (pe_imp (pe_lc hcalm c.nd hs.1 (blkOk_by h2) (fun s H C' cl fp => pg_of (X := X.blk s H scope (compEnvC scope cl C' X.env) fp) (E := enX X px) c.nd hcalm setS_blk rfl h3)
            (fun s H C' cl fp => (sO C false ifs _ px WF k (cc_blk c)).2 fs h4) (fun s H C' cl fp => (sE C false elt).1 _ px WF k (cc_blk c) el h5) hs.2) (c_lc (pos := pos) c hs.1 h3 (fun s H C' cl fp => (sO C false ifs _ px WF k (cc_blk c)).2 fs h4) (fun s H C' cl fp => (sE C false elt).1 _ px WF k (cc_blk c) el h5))) fun ρ => ?_
          rw [evE]
          rfl
        | [], h => simp [ckE] at h
        | _ :: _ :: _, h => simp [ckE] at h
      | _ => simp [ckE] at h) fun ρ => by rw [evT] <;> simp
theorem sA (C : Cfg) (hh : Bool) : ∀ as : IA, SA C hh as ∧ SB C hh as .And (evAnd C as) (evAndT C as) ∧ SB C hh as .Or (evOr C as) (evOrT C as)
  | .nil => ⟨fun X px W k c es h => by
      cases es with
      | nil => exact a_nil
      | cons e es => simp [ckA] at h, fun X px W k c es pos h => ⟨e_none fun ρ => by rw [evAnd], ⟨fun wh pins s σ H Q I q => by
      obtain ⟨B, ρ, G, i, rp, q⟩ := q
      rw [evAndT] at q
      exact q.elim⟩⟩, fun X px W k c es pos h => ⟨e_none fun ρ => by rw [evOr], ⟨fun wh pins s σ H Q I q => by
      obtain ⟨B, ρ, G, i, rp, q⟩ := q
      rw [evOrT] at q
      exact q.elim⟩⟩⟩
  | .cons a .nil => ⟨fun X px W k c es h => by
      cases es with
      | nil => simp [ckA] at h
      | cons e es =>
        simp only [ckA, Bool.and_eq_true] at h
        have r := (sA C hh .nil).1 X px W k c es h.2
        have q := a_cons ((sE C hh a).1 X px W k c e h.1) r (star_cons (ck_star h.1))
        have e : evA C (.cons a .nil) = fun ρ => bindR (evE C a ρ) fun x => bindR (evA C .nil ρ) fun rs => some (.ok (x :: rs)) := funext fun ρ => by conv => lhs; rw [evA]
        rw [e]
        exact q, fun X px W k c es pos h => by
      cases es with
      | nil => simp [ckA] at h
      | cons e es =>
        cases es with
        | nil =>
          simp only [ckA, Bool.and_eq_true] at h
          refine ⟨pe_fn (pe_one ((sE C hh a).1 X px W k c e h.1)) fun ρ => by rw [evAnd], ?_⟩
          have e1 : evAndT C (.cons a .nil) = evT C a := funext fun ρ => by rw [evAndT]
          rw [e1]
          exact pw_and1 ((sE C hh a).2 X px W k c e h.1)
        | cons e2 es => simp [ckA] at h, fun X px W k c es pos h => by
      cases es with
      | nil => simp [ckA] at h
      | cons e es =>
        cases es with
        | nil =>
          simp only [ckA, Bool.and_eq_true] at h
          refine ⟨pe_fn (pe_one ((sE C hh a).1 X px W k c e h.1)) fun ρ => by rw [evOr], ?_⟩
          have e1 : evOrT C (.cons a .nil) = evT C a := funext fun ρ => by rw [evOrT]
          rw [e1]
          exact pw_or1 ((sE C hh a).2 X px W k c e h.1)
        | cons e2 es => simp [ckA] at h⟩
  | .cons a (.cons b r) => ⟨fun X px W k c es h => by
      cases es with
      | nil => simp [ckA] at h
      | cons e es =>
        have h : (ckE X.N C hh X.env.scope a e && ckA X.N C hh X.env.scope (.cons b r) es) = true := by rw [ckA] at h; exact h
        rw [Bool.and_eq_true] at h
        have r' := (sA C hh (.cons b r)).1 X px W k c es h.2
        have q := a_cons ((sE C hh a).1 X px W k c e h.1) r' (star_cons (ck_star h.1))
        have e : evA C (.cons a (.cons b r)) = fun ρ => bindR (evE C a ρ) fun x => bindR (evA C (.cons b r) ρ) fun rs => some (.ok (x :: rs)) := funext fun ρ => by conv => lhs; rw [evA]
        rw [e]
        exact q, fun X px W k c es pos h => by
      cases es with
      | nil => simp [ckA] at h
      | cons e es =>
        have h : (ckE X.N C hh X.env.scope a e && ckA X.N C hh X.env.scope (.cons b r) es) = true := by rw [ckA] at h; exact h
        rw [Bool.and_eq_true] at h
        cases es with
        | nil => simp [ckA] at h
        | cons e2 es =>
          obtain ⟨q1, q2⟩ := (sA C hh (.cons b r)).2.1 X px W k c (e2 :: es) pos h.2
          refine ⟨pe_fn (c_and ((sE C hh a).1 X px W k c e h.1) q1) fun ρ => by rw [evAnd] <;> rfl, ?_⟩
          have e1 : evAndT C (.cons a (.cons b r)) = fun ρ => bindR (evT C a ρ) fun k => match k with
            | true => evAndT C (.cons b r) ρ
            | false => some (.ok false) := funext fun ρ => by rw [evAndT] <;> rfl
          rw [e1]
          exact w_and ((sE C hh a).2 X px W k c e h.1) q2, fun X px W k c es pos h => by
      cases es with
      | nil => simp [ckA] at h
      | cons e es =>
        have h : (ckE X.N C hh X.env.scope a e && ckA X.N C hh X.env.scope (.cons b r) es) = true := by rw [ckA] at h; exact h
        rw [Bool.and_eq_true] at h
        cases es with
        | nil => simp [ckA] at h
        | cons e2 es =>
          obtain ⟨q1, q2⟩ := (sA C hh (.cons b r)).2.2 X px W k c (e2 :: es) pos h.2
          refine ⟨pe_fn (c_or ((sE C hh a).1 X px W k c e h.1) q1) fun ρ => by rw [evOr] <;> rfl, ?_⟩
          have e1 : evOrT C (.cons a (.cons b r)) = fun ρ => bindR (evT C a ρ) fun k => match k with
            | false => evOrT C (.cons b r) ρ
            | true => some (.ok true) := funext fun ρ => by rw [evOrT] <;> rfl
          rw [e1]
          exact w_or ((sE C hh a).2 X px W k c e h.1) q2⟩
theorem sO (C : Cfg) (hh : Bool) : ∀ o : IO, SO_ C hh o
  | .no => fun X px W k c => ⟨fun e h => by
      cases e with
      | none => exact o_none
      | some e => simp [ckO] at h, fun es h => by
      cases es with
      | nil => exact ⟨fun pins s σ H Q I q => by
          obtain ⟨B, ρ, G, i, rp, q⟩ := q
          rw [evIf] at q
          exact pts_nil.run pins s σ H Q I (q G H (Gr.refl i))⟩
      | cons e es => simp [ckIf] at h⟩
  | .so a => fun X px W k c => ⟨fun e h => by
      cases e with
      | none => simp [ckO] at h
      | some e =>
        have q := o_some ((sE C hh a).1 X px W k c e (by simpa [ckO] using h))
        have e1 : evO C (.so a) = fun ρ => bindR (evE C a ρ) fun x => match x with
          | .dat (.int i) => some (.ok (some i))
          | _ => none := funext fun ρ => by rw [evO] <;> rfl
        rw [e1]
        exact q, fun es h => by
      match es, h with
      | [], h => simp [ckIf] at h
      | [e], h =>
        have q := (sE C hh a).2 X px W k c e (by simpa [ckIf] using h)
        have e1 : evIf C (.so a) = evT C a := funext fun ρ => by rw [evIf]
        rw [e1]
        exact pts_one q
      | _ :: _ :: _, h => simp [ckIf] at h⟩
theorem sS (C : Cfg) (hh : Bool) : ∀ o : ISrc, SS C hh o
  | .it a => fun X px W k c e tg h => by
    have h : ckE X.N C hh X.env.scope a e = true := by simpa [ckSrc] using h
    refine ⟨?_, fold_of h⟩
    have e1 : evSrc C (.it a) = fun ρ => bindR (evE C a ρ) fun x => optR (seqV x) := funext fun ρ => by rw [evSrc]
    rw [e1]
    exact i_seq ((sE C hh a).1 X px W k c e h)
  | .range (.cons a .nil) => fun X px W k c e tg h => by
    cases e with
    | Call f es ks pos =>
      cases f with
      | Name x p =>
        match es, ks, h with
        | [e], [], h =>
          simp only [ckSrc, Bool.and_eq_true, decide_eq_true_eq] at h
          obtain ⟨⟨h1, h2⟩, h3⟩ := h
          subst h2
          have e1 : evSrc C (.range (.cons a .nil)) = fun ρ => bindR (evA C (.cons a .nil) ρ) fun rs => optR (rangeV rs) := funext fun ρ => by rw [evSrc]
          rw [e1]
          exact ⟨i_range1 (gl_of rfl h1).1 (c.tab.blt _ (by decide +kernel)) (star_cons (ck_star h3)) ((sA C hh (.cons a .nil)).1 X px W k c [e] (by simp only [ckA, Bool.and_eq_true]; exact ⟨h3, trivial⟩)) fun ρ rs e => evA_len e, fun _ => rfl⟩
        | [_], _ :: _, h => simp [ckSrc] at h
        | [], _, h => simp [ckSrc] at h
        | _ :: _ :: _, _, h => simp [ckSrc] at h
      | _ => simp [ckSrc] at h
    | _ => simp [ckSrc] at h
  | .range (.cons a (.cons b .nil)) => fun X px W k c e tg h => by
    cases e with
    | Call f es ks pos =>
      cases f with
      | Name x p =>
        match es, ks, h with
        | [e, e2], [], h =>
          simp only [ckSrc, Bool.and_eq_true, decide_eq_true_eq] at h
          obtain ⟨⟨⟨h1, h2⟩, h3⟩, h4⟩ := h
          subst h2
          have e1 : evSrc C (.range (.cons a (.cons b .nil))) = fun ρ => bindR (evA C (.cons a (.cons b .nil)) ρ) fun rs => optR (rangeV rs) := funext fun ρ => by rw [evSrc]
          rw [e1]
          exact ⟨i_range2 (gl_of rfl h1).1 (c.tab.blt _ (by decide +kernel)) (by rw [star_cons (ck_star h3), star_cons (ck_star h4)]; rfl) (star_cons (ck_star h4)) ((sA C hh (.cons a (.cons b .nil))).1 X px W k c [e, e2] (by simp only [ckA, Bool.and_eq_true]; exact ⟨h3, h4, trivial⟩)) fun ρ rs e => evA_len e, fun _ => rfl⟩
        | [_, _], _ :: _, h => simp [ckSrc] at h
        | [], _, h => simp [ckSrc] at h
        | [_], _, h => simp [ckSrc] at h
        | _ :: _ :: _ :: _, _, h => simp [ckSrc] at h
      | _ => simp [ckSrc] at h
    | _ => simp [ckSrc] at h
  | .range .nil => fun X px W k c e tg h => by cases e <;> simp [ckSrc] at h
  | .range (.cons _ (.cons _ (.cons _ _))) => fun X px W k c e tg h => by cases e <;> simp [ckSrc] at h
end
end
end DE

set_option Elab.async false
set_option linter.all false
set_option maxRecDepth 100000
set_option maxHeartbeats 4000000
/-! DE8: statements. -/
namespace DE
open PySem PySem.Spec PyProof.Rows L2

/-- the answer of a statement by data, as what is wanted; σ0: the slots ahead -/
def RS (E : En) (W : WX) (G0 H0 : Hp) (tch : List Nat) (σ0 : L2.St) (D : Ends) : SR → Prop
  | none => False
  | some (.nx ρ') => ∀ σ' G' H', Gr G0 H0 G' H' → Rep E H0 G' H' σ' ρ' → Off tch σ0 σ' → D.nx σ' H'
  | some (.bk ρ') => ∀ σ' G' H', Gr G0 H0 G' H' → Rep E H0 G' H' σ' ρ' → Off tch σ0 σ' → D.bk σ' H'
  | some (.ct ρ') => ∀ σ' G' H', Gr G0 H0 G' H' → Rep E H0 G' H' σ' ρ' → Off tch σ0 σ' → D.ct σ' H'
  | some (.rt r) => ∀ v G' H', Gr G0 H0 G' H' → DenR E G' H' H0 r v → isBr r = false → D.rt v H'
  | some (.er e ρ') => ∀ cls d σ' G' H', Gr G0 H0 G' H' → Rep E H0 G' H' σ' ρ' → Off tch σ0 σ' → DenX E G' e cls d → W cls d σ' H'
def cS (E : En) (W : WX) (G0 H0 : Hp) (tch : List Nat) (f : Rho → SR) : TS := fun D σ H => ∃ ρ G, Gr G0 H0 G H ∧ Rep E H0 G H σ ρ ∧ RS E W G0 H0 tch σ D (f ρ)
theorem Off.same {t : List Nat} {σ σ1 σ2 : L2.St} (a : Off t σ σ1) (b : Off t σ1 σ2) : Off t σ σ2 := (a.trans b).mono fun i h => (List.mem_append.mp h).elim id id
section
variable {E : En} {W : WX} {G0 H0 : Hp} {tch : List Nat} {σ0 σ1 : L2.St} {D : Ends}
theorem RS.off {r : SR} (h : RS E W G0 H0 tch σ0 D r) (o : Off tch σ0 σ1) : RS E W G0 H0 tch σ1 D r := by
  cases r with
  | none => exact h
  | some s =>
    cases s with
    | nx ρ => exact fun σ' G' H' a b c => h σ' G' H' a b (o.same c)
    | bk ρ => exact fun σ' G' H' a b c => h σ' G' H' a b (o.same c)
    | ct ρ => exact fun σ' G' H' a b c => h σ' G' H' a b (o.same c)
    | rt r => exact h
    | er e ρ => exact fun cls d σ' G' H' a b c => h cls d σ' G' H' a b (o.same c)
/-- an expression, then the rest -/
theorem rs_expr {α : Type} {x : Ans α} {ρ : Rho} {k : α → SR} {σ : L2.St} {G H : Hp} (g0 : Gr G0 H0 G H) (r : Rep E H0 G H σ ρ) (h : RS E W G0 H0 tch σ D (liftS x ρ k)) :
    QA E W σ G H (fun a _ _ => RS E W G0 H0 tch σ D (k a)) x := by
  cases x with
  | none => exact h
  | some y =>
    cases y with
    | error e => exact fun cls d G' H' g dx => h cls d σ G' H' (g0.trans g) (r.mono g) Off.refl dx
    | ok a => exact fun G' H' g => h
theorem cS_expr {ρ : Rho} {k : RV → SR} {f : Rho → EvR} {σ : L2.St} {G H : Hp} {Q : VK} (g0 : Gr G0 H0 G H) (r : Rep E H0 G H σ ρ) (h : RS E W G0 H0 tch σ D (liftS (f ρ) ρ k))
    (c : ∀ v rv G1 H1, Gr G H G1 H1 → Gr G0 H0 G1 H1 → Rep E H0 G1 H1 σ ρ → DenR E G1 H1 H rv v → RS E W G0 H0 tch σ D (k rv) → Q v H1) : cE E W f σ H Q :=
  ⟨H0, ρ, G, g0.i, r, (rs_expr g0 r h).imp fun rv G1 H1 g1 q v dv => c v rv G1 H1 g1 (g0.trans g1) (r.mono g1) dv q⟩
theorem cS_test {ρ : Rho} {k : Bool → SR} {f : Rho → Ans Bool} {σ : L2.St} {G H : Hp} {Q : Bool → Hp → Prop} (g0 : Gr G0 H0 G H) (r : Rep E H0 G H σ ρ) (h : RS E W G0 H0 tch σ D (liftS (f ρ) ρ k))
    (c : ∀ b G1 H1, Gr G0 H0 G1 H1 → Rep E H0 G1 H1 σ ρ → RS E W G0 H0 tch σ D (k b) → Q b H1) : cT E W f σ H Q :=
  ⟨H0, ρ, G, g0.i, r, (rs_expr g0 r h).imp fun b G1 H1 g1 q => c b G1 H1 (g0.trans g1) (r.mono g1) q⟩
end
section
variable {X : Cx} {px : Option (Addr × Addr × Addr)} {C : Cfg} {W : WX} {k : Nat} {hh : Bool} {G0 H0 : Hp} {tch : List Nat} {e : Expr} {pos : Pos} {f : Rho → EvR}
/-- where a body runs -/
structure Cs (X : Cx) (px : Option (Addr × Addr × Addr)) (C : Cfg) (W : WX) (k : Nat) (hh : Bool) : Prop extends Cc X px C W k hh where
  kd : X.env.scope.kind = .function
  sets : SetS X X.env.scope
  own : PassesOwn (model X.prog X.w) X.A X.env X.xe
  stk : X.stack = X.env :: X.outer
  frm : X.env.frame = some X.env.locals
  hotF : hh = false → ∀ (j : Nat) (fn : Fn), C.H[j]? = some fn → FnHFact X.prog X.w X.K X.mg X.base fn k
theorem swaps_no {e : Expr} {t : Option Expr} {l : Nat} {env : Env} (h : notComp e = true) : swapsWith e t l env = pure false := by
  cases e with
  | ListComp _ _ _ _ => cases h
  | SetComp _ _ _ _ => cases h
  | DictComp _ _ _ _ _ => cases h
  | _ => unfold swapsWith; rfl
/-- what is set by a name -/
theorem set_go {i : Nat} : ∀ D σ H, cS (enX X px) W G0 H0 tch (fun ρ => liftS (f ρ) ρ fun r => match r with
    | .dat d => some (.nx (ρ.set i (some (.dat d))))
    | .fr o => some (.nx (ρ.set i (some (.own o))))
    | .br _ => none) D σ H → i ∈ tch → tAsg (cE (enX X px) W f) (gName i) D σ H := by
  intro D σ H h hi
  obtain ⟨ρ, G, g0, r, h⟩ := h
  refine cS_expr g0 r h fun v rv G1 H1 g1 g2 r1 dv q => ?_
  have off : Off tch σ (σ.set i (some v)) := Off.set.mono fun j hj => by rw [List.mem_singleton.mp hj]; exact hi
  cases rv with
  | dat d => exact q _ G1 H1 g2 (r1.setD dv) off
  | fr o =>
    obtain ⟨l, e1, e2, e3, e4⟩ := dv
    subst e1
    exact q _ G1 H1 g2 (r1.setO (g0.h.free e2) e3 e4 fun j o' _ ej => r.fresh e2 j o' ej) off
  | br o => exact q.elim
theorem s_asg (c : Cs X px C W k hh) {i : Nat} {x : Str} {p : Pos} (hi : i ∈ tch) (ht : tgB X.N X.env.scope i x = true) (he : PE X e (cE (enX X px) W f)) (hn : notComp e = true) : PS X (.Assign [.Name x p] e pos) (cS (enX X px) W G0 H0 tch (fun ρ => liftS (f ρ) ρ fun r => match r with
    | .dat d => some (.nx (ρ.set i (some (.dat d))))
    | .fr o => some (.nx (ρ.set i (some (.own o))))
    | .br _ => none)) := by
  obtain ⟨h1, h2⟩ := tgB_of ht
  exact ps_imp (ps_set c.nd h1 (c.sets x h2).1 he (swaps_no hn) (c.sets x h2).2) fun D σ H h => set_go D σ H h hi
theorem s_asgT (c : Cs X px C W k hh) (hcalm : X.calm = true) {is : List Nat} {es : List Expr} {kk p} (hi : ∀ i ∈ is, i ∈ tch) (ht : tgsB X.N X.env.scope is es = true) (he : PE X e (cE (enX X px) W f)) (hn : notComp e = true) (hnt : ∀ a b d, e ≠ .Tuple a b d) :
    PS X (.Assign [.Tuple es kk p] e pos) (cS (enX X px) W G0 H0 tch (fun ρ => liftS (f ρ) ρ fun r => match r with
      | .dat (.tup ds) => match setT is ds ρ with
        | some ρ' => some (.nx ρ')
        | none => none
      | _ => none)) := by
  have hw : swappedStores [.Tuple es kk p] e X.env = pure none := by
    cases e with
    | Tuple a b d => exact absurd rfl (hnt a b d)
    | _ => unfold swappedStores; rfl
  refine ps_imp (ps_asg he (pg_of (g := .t is) (E := enX X px) c.nd hcalm c.sets rfl ht) (by unfold swapsWithSole; exact swaps_no hn) hw) fun D σ H h => ?_
  obtain ⟨ρ, G, g0, r, h⟩ := h
  refine cS_expr g0 r h fun v rv G1 H1 g1 g2 r1 dv q => ?_
  cases rv with
  | dat d =>
    cases d with
    | tup ds =>
      have q : RS (enX X px) W G0 H0 tch σ D (match setT is ds ρ with | some ρ' => some (.nx ρ') | none => none) := q
      cases es2 : setT is ds ρ with
      | none => rw [es2] at q; exact q.elim
      | some ρ' =>
        rw [es2] at q
        exact ⟨H0, ρ, G1, .tup ds, ρ', g2.i, r1, dv, es2, fun σ' r' o => q σ' G1 H1 g2 r' (o.mono hi)⟩
    | _ => exact q.elim
  | fr o => exact q.elim
  | br o => exact q.elim
theorem var_go {E : En} {B G H : Hp} {σ : L2.St} {ρ : Rho} {i : Nat} {o : OV} (r : Rep E B G H σ ρ) (e : ρ[i]? = some (some (.own o))) : ∃ l, σ[i]? = some (some (.ref l)) ∧ G l = none ∧ DenO E G H l o := by
  obtain ⟨v, e1, l, e2, e3, e4⟩ := r.at_ _ _ e
  subst e2
  exact ⟨l, e1, e3, e4⟩
theorem upd_gr {G H G1 : Hp} {l : Addr} {u : HO} (g : Gr G0 H0 G H) (h0 : H0 l = none) (hg : G l = none) : Gr G0 H0 G (upd H l u) := ⟨g.g, Ex.mut g.h h0, Ex.mut g.i hg, g.n⟩
variable {g : Rho → EvR} {kx : Expr}
theorem asg_ix {N : List Str} {h : Bool} {sc : Scope} {ie : IE} {o kx : Expr} {env : Env} (hk : ckE N C h sc ie kx = true) : ∀ v, assign (.Subscript o kx pos) env v = (do
    let ov ← holding [v] (eval o env)
    let iv ← holding [v, ov] (eval kx env)
    standAt pos
    holding [v, ov, iv] (setItem ov iv v)
    release [v, ov, iv] []) := by
  intro v
  rw [PySem.arm_assign_Subscript]
  cases kx with
  | Slice a b d p => cases ie <;> simp [ckE] at hk
  | _ => rfl
/-- a store into a slot's own list or dict, by values -/
theorem put_go {E : En} {D : Ends} {σ : L2.St} {ρ : Rho} {G4 H4 : Hp} {i : Nat} {o : OV} {d : DE.D} {v w : V} {rw : RV} {l : Addr} {H : Hp} (ei : ρ[i]? = some (some (.own o))) (e1 : σ[i]? = some (some (.ref l))) (g6 : Gr G0 H0 G4 H4) (r4 : Rep E H0 G4 H4 σ ρ) (d4 : Den E G4 d v) (dw : DenR E G4 H4 H rw w)
    (q : RS E W G0 H0 tch σ D (putX i ρ d o rw)) : rSetL (.ref l) w v H4 (fun H5 => D.nx σ H5) ∨ ∃ a H5, V.ref l = .ref a ∧ DPut H4 a w v H5 ∧ D.nx σ H5 := by
  obtain ⟨l', e1', e2', e3'⟩ := var_go r4 ei
  rw [e1] at e1'
  cases e1'
  have h0 : H0 l = none := r4.new i _ l ei e1
  cases o with
  | l ds =>
    cases rw with
    | dat kd =>
      cases kd with
      | int j =>
        have q : RS E W G0 H0 tch σ D (match ixN ds.length j with
          | some n => some (.nx (ρ.set i (some (.own (.l (ds.set n d))))))
          | none => none) := q
        split at q
        · rename_i n en
          obtain ⟨vs, q1, q2⟩ := e3'
          refine .inl ⟨l, vs, j, n, rfl, dw, q1, by rw [q2.length]; exact en, ?_⟩
          exact q σ G4 _ (upd_gr (G1 := G4) g6 h0 e2') (r4.write ei e1 g6.i ⟨_, upd_same, q2.set n d4⟩) Off.refl
        · exact q.elim
      | _ => exact q.elim
    | fr _ => exact q.elim
    | br _ => exact q.elim
  | tT ks vs =>
    cases rw with
    | dat kd =>
      have q : RS E W G0 H0 tch σ D (match tkeyOf kd with
        | some q => if ks.length < 16777216 then
            some (.nx (ρ.set i (some (.own (if hasK ks q = true then .tT ks (dputV ks vs q d) else .tT (ks ++ [q]) (vs ++ [d])))))) else none
        | none => none) := q
      split at q
      · rename_i qk eq
        split at q
        · rename_i hl
          obtain ⟨kvs, q1, q2, q3⟩ := e3'
          subst q2
          obtain ⟨b, hb1, hb2⟩ := tkeyOf_den eq (show Den E G4 kd w from dw)
          subst hb1
          rw [List.length_map] at hl
          refine .inr ⟨l, _, rfl, DPut.t q1 (g6.i _ _ hb2) (by rw [line_eq]; exact hl), ?_⟩
          have z := dput_dens qk q3 d4
          refine q σ G4 _ (upd_gr (G1 := G4) g6 h0 e2') (r4.write ei e1 g6.i ?_) Off.refl
          split at z
          · rename_i hh
            rw [if_pos hh]
            exact ⟨_, upd_same, z.1, z.2⟩
          · rename_i hh
            rw [if_neg hh]
            exact ⟨_, upd_same, z.1, z.2⟩
        · exact q.elim
      · exact q.elim
    | fr _ => exact q.elim
    | br _ => exact q.elim
  | tK ks vs =>
    cases rw with
    | dat kd =>
      have q : RS E W G0 H0 tch σ D (match keyOf kd with
        | some q => if ks.length < 16777216 then
            some (.nx (ρ.set i (some (.own (if hasK ks q = true then .tK ks (dputV ks vs q d) else .tK (ks ++ [q]) (vs ++ [d])))))) else none
        | none => none) := q
      split at q
      · rename_i qk eq
        split at q
        · rename_i hl
          obtain ⟨kvs, q1, q2, q3⟩ := e3'
          subst q2
          have hb1 := keyOf_den eq (show Den E G4 kd w from dw)
          subst hb1
          rw [List.length_map] at hl
          refine .inr ⟨l, _, rfl, DPut.k q1 (by rw [line_eq]; exact hl), ?_⟩
          have z := dput_dens qk q3 d4
          refine q σ G4 _ (upd_gr (G1 := G4) g6 h0 e2') (r4.write ei e1 g6.i ?_) Off.refl
          split at z
          · rename_i hh
            rw [if_pos hh]
            exact ⟨_, upd_same, z.1, z.2⟩
          · rename_i hh
            rw [if_neg hh]
            exact ⟨_, upd_same, z.1, z.2⟩
        · exact q.elim
      · exact q.elim
    | fr _ => exact q.elim
    | br _ => exact q.elim
def rSetX : V → V → V → Hp → (Hp → Prop) → Prop := fun o i v H Q => rSetL o i v H Q ∨ ∃ a H5, o = .ref a ∧ DPut H a i v H5 ∧ Q H5
theorem set_X (hu : X.A.units + 1 < cLine) : PSet X rSetX := by
  intro pins s σ H o i v ov iv u Q I ro ri rv h
  rcases h with h | ⟨a, H5, e, g, q⟩
  · exact set_list pins s σ H o i v ov iv u Q I ro ri rv h
  · subst e
    obtain rfl : ov = Value.ref a := ro
    exact d_setItem hu I g ri rv fun s4 I4 => ⟨H5, I4, q⟩
theorem s_setL (c : Cs X px C W k hh) {i : Nat} {x : Str} {p1 p2 : Pos} {ie : IE} (hi : i ∈ tch) (ht : nmB X.N X.env.scope i x = true) (hck : ckE X.N C hh X.env.scope ie kx = true) (hk : PE X kx (cE (enX X px) W g)) (he : PE X e (cE (enX X px) W f)) (hn : notComp e = true) :
    PS X (.Assign [.Subscript (.Name x p1) kx p2] e pos) (cS (enX X px) W G0 H0 tch (fun ρ => liftS (f ρ) ρ fun r => match toD r, ρ[i]? with
      | some d, some (some (.own o)) => liftS (g ρ) ρ fun j => putX i ρ d o j
      | _, _ => none)) := by
  obtain ⟨h1, h2, h3, h4⟩ := nmB_of ht
  refine ps_imp (ps_asg he (pg_sub (pe_var h1 h2 h3 h4) hk (set_X (by have := c.toCc.units; omega)) (asg_ix hck)) (by unfold swapsWithSole; exact swaps_no hn) (by unfold swappedStores; rfl)) fun D σ H h => ?_
  obtain ⟨ρ, G, g0, r, h⟩ := h
  refine cS_expr g0 r h fun v rv G1 H1 g1 g2 r1 dv q => ?_
  split at q
  · rename_i d o ed ei
    obtain ⟨G2, g3, x3, d3⟩ := toD_den ed g1 dv
    have g4 := g0.trans g3
    have r2 := r.mono g3
    obtain ⟨l, e1, e2, e3⟩ := var_go r2 ei
    refine ⟨_, e1, ?_⟩
    refine cS_expr g4 r2 q fun w rw G4 H4 g5 g6 r4 dw q => ?_
    exact put_go ei e1 g6 r4 (Den.mono g5.g _ _ d3) dw q
  · exact q.elim
theorem s_setD (c : Cs X px C W k hh) {i : Nat} {x : Str} {p1 p2 : Pos} (hi : i ∈ tch) (ht : nmB X.N X.env.scope i x = true) (hk : PE X kx (cE (enX X px) W g)) (he : PE X e (cE (enX X px) W f)) (hn : notComp e = true) :
    PS X (.Assign [.Subscript (.Name x p1) kx p2] e pos) (cS (enX X px) W G0 H0 tch (fun ρ => liftS (f ρ) ρ fun r => match toD r, ρ[i]? with
      | some d, some (some (.own o)) => liftS (g ρ) ρ fun j => putD i ρ d o j
      | _, _ => none)) := by
  obtain ⟨h1, h2, h3, h4⟩ := nmB_of ht
  refine ps_imp (ps_dput (by have := c.toCc.units; omega) (pe_var h1 h2 h3 h4) hk he (swaps_no hn)) fun D σ H h => ?_
  obtain ⟨ρ, G, g0, r, h⟩ := h
  refine cS_expr g0 r h fun v rv G1 H1 g1 g2 r1 dv q => ?_
  split at q
  · rename_i d o ed ei
    obtain ⟨G2, g3, x3, d3⟩ := toD_den ed g1 dv
    have g4 := g0.trans g3
    have r2 := r.mono g3
    obtain ⟨l, e1, e2, e3⟩ := var_go r2 ei
    refine ⟨_, e1, ?_⟩
    refine cS_expr g4 r2 q fun w rw G4 H4 g5 g6 r4 dw q => ?_
    obtain ⟨l', e1', e2', e3'⟩ := var_go r4 ei
    rw [e1] at e1'
    cases e1'
    have h0 : H0 l = none := r4.new i _ l ei e1
    have d4 : Den (enX X px) G4 d v := Den.mono g5.g _ _ d3
    cases o with
    | l ds => cases rw <;> exact q.elim
    | tT ks vs =>
      cases rw with
      | dat kd =>
        have q : RS (enX X px) W G0 H0 tch σ D (match tkeyOf kd with
          | some q => if ks.length < 16777216 then
              some (.nx (ρ.set i (some (.own (if hasK ks q = true then .tT ks (dputV ks vs q d) else .tT (ks ++ [q]) (vs ++ [d])))))) else none
          | none => none) := q
        split at q
        · rename_i qk eq
          split at q
          · rename_i hl
            obtain ⟨kvs, q1, q2, q3⟩ := e3'
            subst q2
            obtain ⟨b, hb1, hb2⟩ := tkeyOf_den eq (show Den (enX X px) G4 kd w from dw)
            subst hb1
            rw [List.length_map] at hl
            refine ⟨l, _, rfl, DPut.t q1 (g6.i _ _ hb2) (by rw [line_eq]; exact hl), ?_⟩
            have z := dput_dens qk q3 d4
            refine q σ G4 _ (upd_gr (G1 := G4) g6 h0 e2') (r4.write ei e1 g6.i ?_) Off.refl
            split at z
            · rename_i hh
              rw [if_pos hh]
              exact ⟨_, upd_same, z.1, z.2⟩
            · rename_i hh
              rw [if_neg hh]
              exact ⟨_, upd_same, z.1, z.2⟩
          · exact q.elim
        · exact q.elim
      | fr _ => exact q.elim
      | br _ => exact q.elim
    | tK ks vs =>
      cases rw with
      | dat kd =>
        have q : RS (enX X px) W G0 H0 tch σ D (match keyOf kd with
          | some q => if ks.length < 16777216 then
              some (.nx (ρ.set i (some (.own (if hasK ks q = true then .tK ks (dputV ks vs q d) else .tK (ks ++ [q]) (vs ++ [d])))))) else none
          | none => none) := q
        split at q
        · rename_i qk eq
          split at q
          · rename_i hl
            obtain ⟨kvs, q1, q2, q3⟩ := e3'
            subst q2
            have hb1 := keyOf_den eq (show Den (enX X px) G4 kd w from dw)
            subst hb1
            rw [List.length_map] at hl
            refine ⟨l, _, rfl, DPut.k q1 (by rw [line_eq]; exact hl), ?_⟩
            have z := dput_dens qk q3 d4
            refine q σ G4 _ (upd_gr (G1 := G4) g6 h0 e2') (r4.write ei e1 g6.i ?_) Off.refl
            split at z
            · rename_i hh
              rw [if_pos hh]
              exact ⟨_, upd_same, z.1, z.2⟩
            · rename_i hh
              rw [if_neg hh]
              exact ⟨_, upd_same, z.1, z.2⟩
          · exact q.elim
        · exact q.elim
      | fr _ => exact q.elim
      | br _ => exact q.elim
  · exact q.elim
theorem s_app (c : Cs X px C W k hh) {i : Nat} {x : Str} {p1 ap cp : Pos} {ie : IE} (hi : i ∈ tch) (ht : nmB X.N X.env.scope i x = true) (hline : (ap.endLine == cp.line) = true) (hck : ckE X.N C hh X.env.scope ie e = true) (he : PE X e (cE (enX X px) W f)) :
    PS X (.Expr (.Call (.Attribute (.Name x p1) "append" ap) [e] [] cp) pos) (cS (enX X px) W G0 H0 tch (fun ρ => match ρ[i]? with
      | some (some (.own (.l ds))) => liftS (f ρ) ρ fun r => match toD r with
        | some d => if ds.length < 16777216 then some (.nx (ρ.set i (some (.own (.l (ds ++ [d])))))) else none
        | none => none
      | _ => none)) := by
  obtain ⟨h1, h2, h3, h4⟩ := nmB_of ht
  have s1 : starEach [e] X.env = (false, eval e X.env) :: starEach [] X.env := star_cons (ck_star hck)
  have few : ((backTo cp (starEach [e] X.env)).all (fun x => !x.1) && (backToKw cp (keywordEach [] X.env)).all (fun x => x.1.isSome) && decide (([e] : List Expr).length + ([] : List Keyword).length + (if ([] : List Keyword).isEmpty then 0 else 1) < 30)) = true := by
    rw [s1]
    rfl
  refine ps_imp (ps_expr (pe_bm PySem.F.plainAttrs_list PySem.F.slot_list_append PySem.F.type_list_append (fun pins s σ H x xs v us Q I rx rs q => mt_append pins s σ H x xs v us Q I rx rs q) (pe_var h1 h2 h3 h4) (pa_cons he pa_nil s1) rfl few hline s1 rfl) (swaps_no rfl)) fun D σ H h => ?_
  obtain ⟨ρ, G, g0, r, h⟩ := h
  dsimp only at h
  split at h
  · rename_i ds ei
    obtain ⟨l, e1, e2, e3⟩ := var_go r ei
    obtain ⟨vs, q1, q2⟩ := e3
    refine ⟨_, e1, .inl ⟨rfl, vs, .inl (.inl q1)⟩, ?_⟩
    refine cS_expr g0 r h fun v rv G1 H1 g1 g2 r1 dv q => ?_
    split at q
    · rename_i d ed
      split at q
      · rename_i hl
        obtain ⟨G2, g3, x3, d3⟩ := toD_den ed g1 dv
        have g4 := g0.trans g3
        have r2 := r.mono g3
        obtain ⟨l', e1', e2', ws, q1', q2'⟩ := var_go r2 ei
        rw [e1] at e1'
        cases e1'
        have h0 : H0 l = none := r2.new i _ l ei e1
        refine ⟨l, ws, v, rfl, rfl, q1', by rw [line_eq, q2'.length]; exact hl, ?_⟩
        exact q σ G2 _ (upd_gr (G1 := G2) g4 h0 e2') (r2.write ei e1 g4.i ⟨_, upd_same, q2'.append (Dens.one d3)⟩) Off.refl
      · exact q.elim
    · exact q.elim
  · exact h.elim
theorem s_expr (he : PE X e (cE (enX X px) W f)) (hn : notComp e = true) : PS X (.Expr e pos) (cS (enX X px) W G0 H0 tch (fun ρ => liftS (f ρ) ρ fun _ => some (.nx ρ))) := by
  refine ps_imp (ps_expr he (swaps_no hn)) fun D σ H h => ?_
  obtain ⟨ρ, G, g0, r, h⟩ := h
  exact cS_expr g0 r h fun v rv G1 H1 g1 g2 r1 dv q => q σ G1 H1 g2 r1 Off.refl
theorem s_iff {t : Rho → Ans Bool} {a b : List Stmt} {ra rb : Rho → SR} {cx : Expr} (ht : PT X cx (cT (enX X px) W t)) (ha : PSs X a (cS (enX X px) W G0 H0 tch ra)) (hb : PSs X b (cS (enX X px) W G0 H0 tch rb)) :
    PS X (.If cx a b pos) (cS (enX X px) W G0 H0 tch (fun ρ => liftS (t ρ) ρ fun k => match k with
      | true => ra ρ
      | false => rb ρ)) := by
  refine ps_imp (ps_if ht ha hb) fun D σ H h => ?_
  obtain ⟨ρ, G, g0, r, h⟩ := h
  refine cS_test g0 r h fun kk G1 H1 g1 r1 q => ?_
  cases kk with
  | true => exact ⟨ρ, G1, g1, r1, q⟩
  | false => exact ⟨ρ, G1, g1, r1, q⟩
theorem s_ret (he : PE X e (cE (enX X px) W f)) : PS X (.Return (some e) pos) (cS (enX X px) W G0 H0 tch (fun ρ => liftS (f ρ) ρ fun r => match r with
    | .br _ => none
    | r => some (.rt r))) := by
  refine ps_imp (ps_ret he) fun D σ H h => ?_
  obtain ⟨ρ, G, g0, r, h⟩ := h
  refine cS_expr g0 r h fun v rv G1 H1 g1 g2 r1 dv q => ?_
  cases rv with
  | dat d => exact q v G1 H1 g2 (dv.back g0.h) rfl
  | fr o => exact q v G1 H1 g2 (dv.back g0.h) rfl
  | br o => exact q.elim
theorem s_retV {i : Nat} {x : Str} {p : Pos} (ht : nmB X.N X.env.scope i x = true) : PS X (.Return (some (.Name x p)) pos) (cS (enX X px) W G0 H0 tch (fun ρ => match ρ[i]? with
    | some (some (.dat d)) => some (.rt (.dat d))
    | some (some (.own o)) => some (.rt (.fr o))
    | _ => none)) := by
  obtain ⟨h1, h2, h3, h4⟩ := nmB_of ht
  refine ps_imp (ps_ret (pe_var h1 h2 h3 h4)) fun D σ H h => ?_
  obtain ⟨ρ, G, g0, r, h⟩ := h
  dsimp only at h
  split at h
  · rename_i d ei
    obtain ⟨v, e1, dv⟩ := r.at_ _ _ ei
    exact ⟨v, e1, h v G H g0 dv rfl⟩
  · rename_i o ei
    obtain ⟨l, e1, e2, e3⟩ := var_go r ei
    exact ⟨_, e1, h _ G H g0 ⟨l, rfl, r.new i _ l ei e1, e2, e3⟩ rfl⟩
  · exact h.elim
theorem s_retN : PS X (.Return none pos) (cS (enX X px) W G0 H0 tch (fun _ => some (.rt (.dat .non)))) := ps_imp ps_retN fun D σ H h => by
  obtain ⟨ρ, G, g0, r, h⟩ := h
  exact h _ G H g0 rfl rfl
theorem s_brk : PS X (.Break pos) (cS (enX X px) W G0 H0 tch (fun ρ => some (.bk ρ))) := ps_imp ps_break fun D σ H h => by
  obtain ⟨ρ, G, g0, r, h⟩ := h
  exact h σ G H g0 r Off.refl
theorem s_cnt : PS X (.Continue pos) (cS (enX X px) W G0 H0 tch (fun ρ => some (.ct ρ))) := ps_imp ps_continue fun D σ H h => by
  obtain ⟨ρ, G, g0, r, h⟩ := h
  exact h σ G H g0 r Off.refl
theorem s_pas : PS X (.Pass pos) (cS (enX X px) W G0 H0 tch (fun ρ => some (.nx ρ))) := ps_imp ps_pass fun D σ H h => by
  obtain ⟨ρ, G, g0, r, h⟩ := h
  exact h σ G H g0 r Off.refl
theorem ss_nil : PSs X [] (cS (enX X px) W G0 H0 tch (fun ρ => some (.nx ρ))) := pss_imp pss_nil fun D σ H h => by
  obtain ⟨ρ, G, g0, r, h⟩ := h
  exact h σ G H g0 r Off.refl
theorem ss_cons {st : Stmt} {rest : List Stmt} {a b : Rho → SR} (ha : PS X st (cS (enX X px) W G0 H0 tch a)) (hb : PSs X rest (cS (enX X px) W G0 H0 tch b)) :
    PSs X (st :: rest) (cS (enX X px) W G0 H0 tch (fun ρ => match a ρ with
      | some (.nx ρ') => b ρ'
      | o => o)) := by
  refine pss_imp (pss_cons ha hb) fun D σ H h => ?_
  obtain ⟨ρ, G, g0, r, h⟩ := h
  refine ⟨ρ, G, g0, r, ?_⟩
  dsimp only at h
  cases q : a ρ with
  | none => rw [q] at h; exact h
  | some y =>
    rw [q] at h
    cases y with
    | nx ρ' => exact fun σ' G' H' g' r' o => ⟨ρ', G', g', r', h.off o⟩
    | bk ρ' => exact h
    | ct ρ' => exact h
    | rt r => exact h
    | er e ρ' => exact h
theorem ss_frz {i : Nat} {rest : List Stmt} {b : Rho → SR} (hb : PSs X rest (cS (enX X px) W G0 H0 tch b)) : PSs X rest (cS (enX X px) W G0 H0 tch (fun ρ => match ρ[i]? with
    | some (some (.own o)) => b (ρ.set i (some (.dat o.d)))
    | _ => b ρ)) := by
  refine pss_imp hb fun D σ H h => ?_
  obtain ⟨ρ, G, g0, r, h⟩ := h
  dsimp only at h
  split at h
  · rename_i o ei
    obtain ⟨G', k1, k2, k3, k4⟩ := r.frz g0.i ei
    exact ⟨_, G', ⟨g0.g.trans k1, g0.h, k2, fun b q1 q2 => k3 b (g0.n b q1 q2) q2.ne⟩, k4, h⟩
  · exact ⟨ρ, G, g0, r, h⟩
end
end DE

set_option Elab.async false
set_option linter.all false
set_option maxRecDepth 100000
set_option maxHeartbeats 4000000
/-! DE8b: loops. -/
namespace DE
open PySem PySem.Spec PyProof.Rows L2

/-! ### what a body leaves alone -/
def soR : SO → Option Rho
  | .nx ρ => some ρ
  | .bk ρ => some ρ
  | .ct ρ => some ρ
  | .er _ ρ => some ρ
  | .rt _ => none
def Same (t : List Nat) (ρ ρ' : Rho) : Prop := ∀ j, j ∉ t → ρ'[j]? = ρ[j]?
theorem Same.refl {t : List Nat} {ρ : Rho} : Same t ρ ρ := fun _ _ => rfl
theorem Same.trans {t : List Nat} {a b c : Rho} (h : Same t a b) (h' : Same t b c) : Same t a c := fun j hj => (h' j hj).trans (h j hj)
theorem Same.mono {t u : List Nat} {a b : Rho} (h : Same t a b) (s : ∀ i ∈ t, i ∈ u) : Same u a b := fun j hj => h j fun z => hj (s j z)
theorem Same.set {t : List Nat} {ρ : Rho} {i : Nat} {w : Option LV} (h : i ∈ t) : Same t ρ (ρ.set i w) := fun j hj => by
  rw [List.getElem?_set_ne (fun z => hj (by rw [← z]; exact h))]
def Keeps (t : List Nat) (ρ : Rho) (r : SR) : Prop := ∀ o ρ', r = some o → soR o = some ρ' → Same t ρ ρ'
theorem Keeps.mono {t u : List Nat} {ρ : Rho} {r : SR} (h : Keeps t ρ r) (s : ∀ i ∈ t, i ∈ u) : Keeps u ρ r := fun o ρ' e1 e2 => (h o ρ' e1 e2).mono s
theorem Keeps.pre {t : List Nat} {ρ ρ1 : Rho} {r : SR} (s : Same t ρ ρ1) (h : Keeps t ρ1 r) : Keeps t ρ r := fun o ρ' e1 e2 => s.trans (h o ρ' e1 e2)
theorem keeps_none {t : List Nat} {ρ : Rho} : Keeps t ρ none := fun o ρ' e => nomatch e
theorem keeps_nx {t : List Nat} {ρ ρ1 : Rho} (s : Same t ρ ρ1) : Keeps t ρ (some (.nx ρ1)) := fun o ρ' e1 e2 => by cases e1; cases e2; exact s
theorem keeps_bk {t : List Nat} {ρ ρ1 : Rho} (s : Same t ρ ρ1) : Keeps t ρ (some (.bk ρ1)) := fun o ρ' e1 e2 => by cases e1; cases e2; exact s
theorem keeps_ct {t : List Nat} {ρ ρ1 : Rho} (s : Same t ρ ρ1) : Keeps t ρ (some (.ct ρ1)) := fun o ρ' e1 e2 => by cases e1; cases e2; exact s
theorem keeps_er {t : List Nat} {ρ ρ1 : Rho} {e : Er} (s : Same t ρ ρ1) : Keeps t ρ (some (.er e ρ1)) := fun o ρ' e1 e2 => by cases e1; cases e2; exact s
theorem keeps_rt {t : List Nat} {ρ : Rho} {r : RV} : Keeps t ρ (some (.rt r)) := fun o ρ' e1 e2 => by cases e1; cases e2
theorem keeps_lift {α : Type} {t : List Nat} {ρ : Rho} {x : Ans α} {k : α → SR} (h : ∀ a, Keeps t ρ (k a)) : Keeps t ρ (liftS x ρ k) := by
  cases x with
  | none => exact keeps_none
  | some y =>
    cases y with
    | error e => exact keeps_er Same.refl
    | ok a => exact h a
theorem same_setT {t : List Nat} : ∀ {is : List Nat} {ds : List D} {ρ ρ' : Rho}, setT is ds ρ = some ρ' → (∀ i ∈ is, i ∈ t) → Same t ρ ρ'
  | [], [], _, _, e, _ => by cases e; exact Same.refl
  | [], _ :: _, _, _, e, _ => nomatch e
  | _ :: _, [], _, _, e, _ => nomatch e
  | i :: is, d :: ds, ρ, ρ', e, h => (Same.set (h i List.mem_cons_self)).trans (same_setT (show setT is ds _ = some ρ' from e) fun j hj => h j (List.mem_cons_of_mem _ hj))
theorem same_setG {t : List Nat} {g : Tg} {d : D} {ρ ρ' : Rho} (e : setG g d ρ = some ρ') (h : ∀ i ∈ g.slots, i ∈ t) : Same t ρ ρ' := by
  cases g with
  | n i => cases e; exact Same.set (h i (List.mem_singleton_self i))
  | t is =>
    cases d with
    | tup ds => exact same_setT e h
    | _ => cases e
theorem keeps_for {t : List Nat} {step : D → Rho → SR} (h : ∀ d ρ, Keeps t ρ (step d ρ)) : ∀ ds ρ, Keeps t ρ (forL step ds ρ)
  | [], ρ => keeps_nx Same.refl
  | d :: ds, ρ => by
    unfold forL
    have hd := h d ρ
    split
    · rename_i ρ' e; exact (keeps_for h ds ρ').pre (hd _ _ e rfl)
    · rename_i ρ' e; exact (keeps_for h ds ρ').pre (hd _ _ e rfl)
    · rename_i ρ' e; exact keeps_nx (hd _ _ e rfl)
    · exact keeps_rt
    · rename_i e' ρ' e; exact keeps_er (hd _ _ e rfl)
    · exact keeps_none
theorem keeps_while {t : List Nat} {c : Rho → Ans Bool} {b : Rho → SR} (h : ∀ ρ, Keeps t ρ (b ρ)) : ∀ n ρ, Keeps t ρ (whileL c b n ρ)
  | 0, ρ => keeps_none
  | n + 1, ρ => by
    unfold whileL
    refine keeps_lift fun k => ?_
    cases k with
    | false => exact keeps_nx Same.refl
    | true =>
      have hd := h ρ
      show Keeps t ρ (match b ρ with
        | some (.nx ρ') => whileL c b n ρ'
        | some (.ct ρ') => whileL c b n ρ'
        | some (.bk ρ') => some (.nx ρ')
        | some (.rt r) => some (.rt r)
        | some (.er e ρ') => some (.er e ρ')
        | none => none)
      split
      · rename_i ρ' e; exact (keeps_while h n ρ').pre (hd _ _ e rfl)
      · rename_i ρ' e; exact (keeps_while h n ρ').pre (hd _ _ e rfl)
      · rename_i ρ' e; exact keeps_nx (hd _ _ e rfl)
      · exact keeps_rt
      · rename_i e' ρ' e; exact keeps_er (hd _ _ e rfl)
      · exact keeps_none
theorem keeps_end {t : List Nat} {i : Nat} {ρ : Rho} {r : SR} (hi : i ∈ t) (h : Keeps t ρ r) : Keeps t ρ (endS i r) := by
  unfold endS
  split
  · rename_i ρ'
    split
    · exact keeps_nx ((h _ _ rfl rfl).trans (Same.set hi))
    · exact keeps_none
  · rename_i ρ'
    split
    · exact keeps_bk ((h _ _ rfl rfl).trans (Same.set hi))
    · exact keeps_none
  · rename_i ρ'
    split
    · exact keeps_ct ((h _ _ rfl rfl).trans (Same.set hi))
    · exact keeps_none
  · split
    · exact keeps_rt
    · exact keeps_none
  · exact keeps_none
theorem keeps_match {t : List Nat} {ρ : Rho} {r : SR} {k : Rho → SR} : Keeps t ρ r → (∀ ρ', Same t ρ ρ' → Keeps t ρ (k ρ')) → Keeps t ρ (match r with
    | some (.nx ρ') => k ρ'
    | o => o) := by
  intro h hk
  cases r with
  | none => exact h
  | some y =>
    cases y with
    | nx ρ' => exact hk ρ' (h _ _ rfl rfl)
    | _ => exact h
theorem keeps_putD {i : Nat} {ρ : Rho} {d : D} {o : OV} {j : RV} : Keeps [i] ρ (putD i ρ d o j) := by
  unfold putD
  split
  · split
    · split
      · exact keeps_nx (Same.set (List.mem_singleton_self i))
      · exact keeps_none
    · exact keeps_none
  · split
    · split
      · exact keeps_nx (Same.set (List.mem_singleton_self i))
      · exact keeps_none
    · exact keeps_none
  · exact keeps_none
theorem keeps_putX {i : Nat} {ρ : Rho} {d : D} {o : OV} {j : RV} : Keeps [i] ρ (putX i ρ d o j) := by
  unfold putX
  split
  · unfold putL
    split
    · split
      · exact keeps_nx (Same.set (List.mem_singleton_self i))
      · exact keeps_none
    · exact keeps_none
  · exact keeps_putD
mutual
theorem keepsS : ∀ (s : IS) (C : Cfg) (ρ : Rho), Keeps (tchS s) ρ (runS C s ρ)
  | .asg i e, C, ρ => by
    rw [runS]
    refine keeps_lift fun r => ?_
    cases r with
    | dat d => exact keeps_nx (Same.set (List.mem_singleton_self i))
    | fr o => exact keeps_nx (Same.set (List.mem_singleton_self i))
    | br o => exact keeps_none
  | .asgT is e, C, ρ => by
    rw [runS]
    refine keeps_lift fun r => ?_
    split
    · split
      · rename_i e; exact keeps_nx (same_setT e fun i h => h)
      · exact keeps_none
    · exact keeps_none
  | .setL i k e, C, ρ => by
    rw [runS]
    refine keeps_lift fun r => ?_
    split
    · refine keeps_lift fun j => ?_
      exact keeps_putX
    · exact keeps_none
  | .setD i k e, C, ρ => by
    rw [runS]
    refine keeps_lift fun r => ?_
    split
    · refine keeps_lift fun j => ?_
      exact keeps_putD
    · exact keeps_none
  | .app i e, C, ρ => by
    rw [runS]
    split
    · refine keeps_lift fun r => ?_
      split
      · split
        · exact keeps_nx (Same.set (List.mem_singleton_self i))
        · exact keeps_none
      · exact keeps_none
    · exact keeps_none
  | .expr e, C, ρ => by
    rw [runS]
    exact keeps_lift fun r => keeps_nx Same.refl
  | .iff c a b, C, ρ => by
    rw [runS]
    refine keeps_lift fun k => ?_
    cases k with
    | true => exact (keepsB a C ρ).mono fun i h => List.mem_append_left _ h
    | false => exact (keepsB b C ρ).mono fun i h => List.mem_append_right _ h
  | .forr g src b, C, ρ => by
    rw [runS]
    refine keeps_lift fun ds => keeps_for (fun d ρ => ?_) ds ρ
    split
    · rename_i ρ' e
      exact ((keepsB b C ρ').mono fun i h => List.mem_append_right _ h).pre (same_setG e fun i h => List.mem_append_left _ h)
    · exact keeps_none
  | .whil c b, C, ρ => by
    rw [runS]
    exact keeps_while (fun ρ => keepsB b C ρ) C.fuel ρ
  | .ret e, C, ρ => by
    rw [runS]
    refine keeps_lift fun r => ?_
    cases r with
    | dat d => exact keeps_rt
    | fr o => exact keeps_rt
    | br o => exact keeps_none
  | .retV i, C, ρ => by
    rw [runS]
    split
    · exact keeps_rt
    · exact keeps_rt
    · exact keeps_none
  | .retN, C, ρ => by rw [runS]; exact keeps_rt
  | .rais c as, C, ρ => by
    rw [runS]
    split
    · refine keeps_lift fun rs => ?_
      unfold erS
      split
      · split
        · exact keeps_er Same.refl
        · exact keeps_none
      · exact keeps_none
    · exact keeps_none
  | .tri b c i s, C, ρ => by
    rw [runS]
    have hb := (keepsB b C ρ).mono (u := tchS (.tri b c i s)) fun j h => List.mem_cons_of_mem _ (List.mem_append_left _ h)
    split
    · rename_i e ρ' er
      have h1 := hb _ _ er rfl
      split
      · refine keeps_end List.mem_cons_self ?_
        exact ((keepsB s C.hot _).mono fun j h => List.mem_cons_of_mem _ (List.mem_append_right _ h)).pre (h1.trans (Same.set List.mem_cons_self))
      · exact keeps_er h1
      · exact keeps_none
    · exact hb
  | .brk, C, ρ => by rw [runS]; exact keeps_bk Same.refl
  | .cnt, C, ρ => by rw [runS]; exact keeps_ct Same.refl
  | .pas, C, ρ => by rw [runS]; exact keeps_nx Same.refl
theorem keepsB : ∀ (b : IB) (C : Cfg) (ρ : Rho), Keeps (tchB b) ρ (runB C b ρ)
  | .nil, C, ρ => by rw [runB]; exact keeps_nx Same.refl
  | .cons s r, C, ρ => by
    rw [runB]
    exact keeps_match ((keepsS s C ρ).mono fun i h => List.mem_append_left _ h) fun ρ' sm => ((keepsB r C ρ').mono fun i h => List.mem_append_right _ h).pre sm
  | .frz i r, C, ρ => by
    rw [runB]
    split
    · exact ((keepsB r C _).mono fun j h => List.mem_cons_of_mem _ h).pre (Same.set List.mem_cons_self)
    · exact (keepsB r C ρ).mono fun j h => List.mem_cons_of_mem _ h
end
end DE

set_option Elab.async false
set_option linter.all false
set_option maxRecDepth 100000
set_option maxHeartbeats 4000000
/-! DE8c: for, while. -/
namespace DE
open PySem PySem.Spec PyProof.Rows L2
theorem gr_up {G0 H0 G1 H1 G' H' : Hp} (a : Gr G0 H0 G1 H1) (b : Gr G1 H0 G' H') : Gr G0 H0 G' H' := ⟨a.g.trans b.g, b.h, b.i, fun x q1 q2 => b.n x (a.n x q1 q2) q2⟩
theorem gr_down {G0 H0 G1 G' H' : Hp} (a : Ex G0 G1) (e : Ex G1 G') (b : Gr G0 H0 G' H') : Gr G1 H0 G' H' := ⟨e, b.h, b.i, fun x q1 q2 => b.n x (by
  cases h : G0 x with
  | none => rfl
  | some o => rw [a x o h] at q1; cases q1) q2⟩
/-- J walks ds as long as the slots js alone are touched -/
def Wk (E : En) (H0 : Hp) (J : It) (ds : List D) (G1 : Hp) (js : List Nat) (σ1 : L2.St) (ρ1 : Rho) : Prop := ∀ σ' ρ' G' H', Ex G1 G' → Ex G' H' → Rep E H0 G' H' σ' ρ' → Off js σ1 σ' → Same js ρ1 ρ' → ∃ xs, Dens E G' ds xs ∧ Sq J xs H'
def wF (E : En) (W : WX) (G0 H0 : Hp) (js : List Nat) (f : Rho → Ans (List D)) : TI := fun σ H R => ∃ ρ G, Gr G0 H0 G H ∧ Rep E H0 G H σ ρ ∧ QA E W σ G H (fun ds G1 H1 => ∀ J, Wk E H0 J ds G1 js σ ρ → R J H1) (f ρ)
section
variable {X : Cx} {px : Option (Addr × Addr × Addr)} {C : Cfg} {W : WX} {k : Nat} {hh : Bool} {G0 H0 : Hp} {tch js : List Nat} {e tg : Expr} {pos : Pos} {f : Rho → EvR}
theorem seqV_d {x : RV} {ds : List D} (e : seqV x = some ds) : x.d = .lst ds ∨ x.d = .tup ds := by
  unfold seqV at e
  split at e <;> first | (cases e; exact .inl rfl) | (cases e; exact .inr rfl) | cases e
theorem walk_d {E : En} {G : Hp} {d : D} {ds : List D} {v : V} (h : Den E G d v) (e : d = .lst ds ∨ d = .tup ds) : ∃ a xs, v = .ref a ∧ Dens E G ds xs ∧ (SqL E.K G a xs ∨ SqT E.K G a xs) := by
  rcases e with rfl | rfl
  · obtain ⟨a, vs, h1, h2, h3⟩ := h
    exact ⟨a, vs, h1, h3, .inl h2⟩
  · obtain ⟨a, vs, h1, h2, h3⟩ := h
    exact ⟨a, vs, h1, h3, .inr (.inl (.inl h2))⟩
theorem sqT_ex {K : PySem.W.Frag} {H H' : Hp} {a : Addr} {xs : List V} (e : Ex H H') (h : SqT K H a xs) : SqT K H' a xs := by
  rcases h with h | h
  · exact .inl (e.rd h)
  · exact .inr h
/-- data is walked -/
theorem wk_d {E : En} {H1 G1 : Hp} {d : D} {ds : List D} {v : V} {σ : L2.St} {ρ : Rho} {R : It → Hp → Prop} (i : Ex G1 H1) (h : Den E G1 d v) (e : d = .lst ds ∨ d = .tup ds) (q : ∀ J, Wk E H0 J ds G1 js σ ρ → R J H1) :
    ∃ (a : Addr) (xs : List V), v = .ref a ∧ ((SqL E.K H1 a xs ∧ R (Itl E.K a) H1) ∨ (SqT E.K H1 a xs ∧ R (Itt E.K a) H1)) := by
  obtain ⟨a, xs, e1, e2, e3⟩ := walk_d h e
  refine ⟨a, xs, e1, ?_⟩
  rcases e3 with e3 | e3
  · exact .inl ⟨i.sql e3, q _ fun σ' ρ' G' H' x1 x2 _ _ _ => ⟨xs, Dens.mono x1 _ _ e2, sq_l (x2.sql (x1.sql e3))⟩⟩
  · exact .inr ⟨sqT_ex i e3, q _ fun σ' ρ' G' H' x1 x2 _ _ _ => ⟨xs, Dens.mono x1 _ _ e2, sq_t (sqT_ex x2 (sqT_ex x1 e3))⟩⟩
theorem f_it {a : IE} (hv : ∀ j, a ≠ .var j) (ha : PE X e (cE (enX X px) W (evE C a))) : PI X tg e (wF (enX X px) W G0 H0 js (evFor C (.it a) js)) := by
  refine pi_imp (pi_seq ha) fun σ H R h => ?_
  obtain ⟨ρ, G, g0, r, h⟩ := h
  have ef : evFor C (.it a) js ρ = bindR (evE C a ρ) fun x => match isBr x with
    | false => optR (seqV x)
    | true => none := by
    unfold evFor
    cases a with
    | var j => exact absurd rfl (hv j)
    | _ => rfl
  rw [ef] at h
  refine ⟨H0, ρ, G, g0.i, r, h.bind0.imp fun x G1 H1 g1 q v dv => ?_⟩
  cases hb : isBr x with
  | true => rw [hb] at q; exact q.elim
  | false =>
    rw [hb] at q
    obtain ⟨ds, e1, q⟩ := q.opt
    obtain ⟨G2, g2, x2, d2⟩ := DenR.froze g1 dv (fun o z => by rw [z] at hb; cases hb)
    exact wk_d g2.i d2 (seqV_d e1) fun J w => q G2 H1 g2 J w
theorem f_var {j : Nat} {x : Str} {p : Pos} (ht : nmB X.N X.env.scope j x = true) : PI X tg (.Name x p) (wF (enX X px) W G0 H0 js (evFor C (.it (.var j)) js)) := by
  obtain ⟨h1, h2, h3, h4⟩ := nmB_of ht
  refine pi_imp (pi_seq (pe_var h1 h2 h3 h4)) fun σ H R h => ?_
  obtain ⟨ρ, G, g0, r, h⟩ := h
  have ef : evFor C (.it (.var j)) js ρ = bindR (evE C (.var j) ρ) fun x => match isBr x with
    | false => optR (seqV x)
    | true => match js.contains j with
      | false => optR (seqV x)
      | true => none := rfl
  rw [ef, evE] at h
  cases ej : ρ[j]? with
  | none => rw [ej] at h; exact h.elim
  | some w =>
    rw [ej] at h
    cases w with
    | none => exact h.elim
    | some lv =>
      obtain ⟨v, e1, dv⟩ := r.at_ _ _ ej
      cases lv with
      | dat d =>
        have h : QA (enX X px) W σ G H _ (optR (seqV (.dat d))) := h
        obtain ⟨ds, e2, q⟩ := h.opt
        exact ⟨v, e1, wk_d g0.i dv (seqV_d e2) (q G H (Gr.refl g0.i))⟩
      | own o =>
        have h : QA (enX X px) W σ G H _ (match js.contains j with
          | false => optR (seqV (.br o))
          | true => none) := h
        cases hc : js.contains j with
        | true => rw [hc] at h; exact h.elim
        | false =>
          rw [hc] at h
          obtain ⟨ds, e2, q⟩ := h.opt
          have hj : j ∉ js := fun z => by
            have := List.contains_iff_mem.mpr z
            rw [hc] at this
            cases this
          cases o with
          | l ds' =>
            cases e2
            obtain ⟨l, k1, k2, vs, k3, k4⟩ := dv
            subst k1
            refine ⟨_, e1, l, vs, rfl, .inl ⟨.inl (.inl k3), q G H (Gr.refl g0.i) _ fun σ' ρ' G' H' x1 x2 r' o' s' => ?_⟩⟩
            obtain ⟨l', m1, m2, ws, m3, m4⟩ := var_go r' ((s' j hj).trans ej)
            have m5 := (o'.2 j hj).trans e1
            rw [m1] at m5
            cases m5
            exact ⟨ws, m4, sq_l (.inl (.inl m3))⟩
          | tT ks vs => cases e2
          | tK ks vs => cases e2
theorem f_range {as : IA} (P : PI X tg e (iX (enX X px) W (evSrc C (.range as)) fun _ _ _ => True)) : PI X tg e (wF (enX X px) W G0 H0 js (evFor C (.range as) js)) := by
  refine pi_imp P fun σ H R h => ?_
  obtain ⟨ρ, G, g0, r, h⟩ := h
  refine ⟨H0, ρ, G, g0.i, r, (show QA _ _ _ _ _ _ (evSrc C (.range as) ρ) from h).imp fun ds G1 H1 g1 q J xs dx sq => q J fun σ' ρ' G' H' x1 _ _ _ _ => ⟨xs, Dens.mono x1 _ _ dx, sq H' trivial⟩⟩
/-- a loop's turn -/
def stepL (g : Tg) (rb : Rho → SR) (d : D) (ρ : Rho) : SR :=
  match setG g d ρ with
  | some ρ' => rb ρ'
  | none => none
theorem s_for (c : Cs X px C W k hh) (hcalm : X.calm = true) {g : Tg} {fd : Rho → Ans (List D)} {body : List Stmt} {rb : Rho → SR} (hjs : ∀ i ∈ js, i ∈ tch) (hg : ∀ i ∈ g.slots, i ∈ js) (hk : ∀ ρ, Keeps js ρ (rb ρ))
    (hi : PI X tg e (wF (enX X px) W G0 H0 js fd)) (ht : ckG X.N X.env.scope g tg = true) (hb : ∀ G1, PSs X body (cS (enX X px) W G1 H0 js rb)) (hs : ∀ x, foldedSetIterable e X.env x = pure x) :
    PS X (.For tg e body [] pos) (cS (enX X px) W G0 H0 tch (fun ρ => liftS (fd ρ) ρ fun ds => forL (stepL g rb) ds ρ)) := by
  have hB : PSs X body (fun D σ H => ∃ G1, cS (enX X px) W G1 H0 js rb D σ H) := ⟨fun pins s σ H D I ⟨G1, q⟩ => (hb G1).run pins s σ H D I q⟩
  refine ps_imp (ps_for c.own hcalm hi (pg_of (E := enX X px) c.nd hcalm c.sets rfl ht) hB hs) fun D σ H h => ?_
  obtain ⟨ρ, G, g0, r, h⟩ := h
  refine ⟨ρ, G, g0, r, (rs_expr g0 r h).imp fun ds G1 H1 g1 q J wk => ?_⟩
  have gg := g0.trans g1
  have r1 := r.mono g1
  refine ⟨fun i m σi Hi => m = ds.length - i ∧ i ≤ ds.length ∧ ∃ ρi Gi, Ex G1 Gi ∧ Gr G0 H0 Gi Hi ∧ Rep (enX X px) H0 Gi Hi σi ρi ∧ Off js σ σi ∧ Same js ρ ρi ∧ RS (enX X px) W G0 H0 tch σi D (forL (stepL g rb) (ds.drop i) ρi),
    ⟨ds.length, by omega, Nat.zero_le _, ρ, G1, Ex.refl _, gg, r1, Off.refl, Same.refl, by rw [List.drop_zero]; exact q⟩, ?_⟩
  rintro i m σi Hi ⟨hm, hi', ρi, Gi, x1, gi, ri, oi, si, qi⟩
  obtain ⟨xs, dx, sq⟩ := wk σi ρi Gi Hi x1 gi.i ri oi si
  have hlen : xs.length = ds.length := dx.length
  by_cases hlt : i < ds.length
  · refine .inr ⟨sq.go i (by omega), _, fun σ' H' p' => ⟨ds.length - (i + 1), by omega, p'⟩, fun x H' y => ?_⟩
    obtain ⟨e1, e2⟩ := sq.yld i x H' (by omega) y
    subst e1
    obtain ⟨d, ed, dd⟩ := dx.get' e2
    have edrop : ds.drop i = d :: ds.drop (i + 1) := by
      rw [List.drop_eq_getElem_cons hlt]
      congr 1
      rw [List.getElem?_eq_getElem hlt] at ed
      exact Option.some.inj ed
    rw [edrop] at qi
    unfold forL at qi
    cases eg : setG g d ρi with
    | none =>
      have es : stepL g rb d ρi = none := by unfold stepL; rw [eg]
      rw [es] at qi
      exact qi.elim
    | some ρ' =>
      have es : stepL g rb d ρi = rb ρ' := by unfold stepL; rw [eg]
      rw [es] at qi
      refine ⟨H0, ρi, Gi, d, ρ', gi.i, ri, dd, eg, fun σ2 r2 off2 => ⟨G1, ρ', Gi, gr_down gg.g x1 gi, r2, ?_⟩⟩
      have off2' : Off js σi σ2 := off2.mono hg
      have oo : ∀ {σ' : L2.St}, Off js σ2 σ' → Off js σi σ' := fun o => off2'.same o
      have s2 : Same js ρi ρ' := same_setG eg hg
      have kp := hk ρ'
      cases eb : rb ρ' with
      | none => rw [eb] at qi; exact qi.elim
      | some y =>
        rw [eb] at qi
        cases y with
        | nx ρ'' => exact fun σ' G' H' a b o => ⟨rfl, hlt, ρ'', G', a.g, gr_up gg a, b, oi.same (oo o), (si.trans s2).trans (kp _ _ eb rfl), RS.off (show RS _ _ _ _ _ _ _ (forL (stepL g rb) (ds.drop (i + 1)) ρ'') from qi) ((oo o).mono hjs)⟩
        | ct ρ'' => exact fun σ' G' H' a b o => ⟨rfl, hlt, ρ'', G', a.g, gr_up gg a, b, oi.same (oo o), (si.trans s2).trans (kp _ _ eb rfl), RS.off (show RS _ _ _ _ _ _ _ (forL (stepL g rb) (ds.drop (i + 1)) ρ'') from qi) ((oo o).mono hjs)⟩
        | bk ρ'' => exact fun σ' G' H' a b o => (show RS _ _ _ _ _ _ _ (some (.nx ρ'')) from qi) σ' G' H' (gr_up gg a) b ((oo o).mono hjs)
        | rt rv => exact fun v G' H' a b nb => (show RS _ _ _ _ _ _ _ (some (.rt rv)) from qi) v G' H' (gr_up gg a) b nb
        | er ee ρ'' => exact fun cls d σ' G' H' a b o dx => (show RS _ _ _ _ _ _ _ (some (.er ee ρ'')) from qi) cls d σ' G' H' (gr_up gg a) b ((oo o).mono hjs) dx
  · have ei : i = ds.length := by omega
    subst ei
    rw [List.drop_eq_nil_of_le (Nat.le_refl _)] at qi
    exact .inl ⟨sq.stop _ (by omega), qi σi Gi Hi gi ri Off.refl⟩
theorem s_while (c : Cs X px C W k hh) {t : Rho → Ans Bool} {body : List Stmt} {rb : Rho → SR} {n : Nat} (ht : PT X e (cT (enX X px) W t)) (hb : PSs X body (cS (enX X px) W G0 H0 tch rb)) :
    PS X (.While e body [] pos) (cS (enX X px) W G0 H0 tch (fun ρ => whileL t rb n ρ)) := by
  refine ps_imp (ps_while c.own ht hb) fun D σ H h => ?_
  obtain ⟨ρ, G, g0, r, h⟩ := h
  refine ⟨fun m σi Hi => ∃ ρi Gi, Gr G0 H0 Gi Hi ∧ Rep (enX X px) H0 Gi Hi σi ρi ∧ RS (enX X px) W G0 H0 tch σi D (whileL t rb m ρi), ⟨n, ρ, G, g0, r, h⟩, ?_⟩
  rintro m σi Hi ⟨ρi, Gi, gi, ri, qi⟩
  cases m with
  | zero => exact qi.elim
  | succ m =>
    unfold whileL at qi
    refine cS_test gi ri qi fun kk G1 H1 g1 r1 q => ?_
    cases kk with
    | false => exact q σi G1 H1 g1 r1 Off.refl
    | true =>
      refine ⟨_, fun σ' H' p' => ⟨m, Nat.lt_succ_self m, p'⟩, ρi, G1, g1, r1, ?_⟩
      have q : RS (enX X px) W G0 H0 tch σi D (match rb ρi with
        | some (.nx ρ') => whileL t rb m ρ'
        | some (.ct ρ') => whileL t rb m ρ'
        | some (.bk ρ') => some (.nx ρ')
        | some (.rt r) => some (.rt r)
        | some (.er e ρ') => some (.er e ρ')
        | none => none) := q
      cases eb : rb ρi with
      | none => rw [eb] at q; exact q.elim
      | some y =>
        rw [eb] at q
        cases y with
        | nx ρ'' => exact fun σ' G' H' a b o => ⟨ρ'', G', a, b, RS.off (show RS _ _ _ _ _ _ _ (whileL t rb m ρ'') from q) o⟩
        | ct ρ'' => exact fun σ' G' H' a b o => ⟨ρ'', G', a, b, RS.off (show RS _ _ _ _ _ _ _ (whileL t rb m ρ'') from q) o⟩
        | bk ρ'' => exact q
        | rt rv => exact q
        | er ee ρ'' => exact q
end
end DE

set_option Elab.async false
set_option linter.all false
set_option maxRecDepth 100000
set_option maxHeartbeats 4000000
/-! DE8d: the text's own error classes. -/
namespace DE
open PySem PySem.Spec PyProof.Rows L2

/-- what the making of an error at a leaves -/
def Made (H H3 : Hp) (a C dx : Addr) (fs : List (Str × V)) : Prop := H3 a = some (exo a C (some dx)) ∧ H3 dx = some (exd dx fs) ∧ dx ≠ a ∧ H dx = none ∧ ∀ b, b ≠ a → b ≠ dx → H3 b = H b
/-- TableError.__init__(self, text, word) -/
def spI0 (K : PySem.W.Frag) : Sp := fun vs H Q _ => ∃ (a C : Addr) (t w : Str), vs = [.ref a, .str t, .str w] ∧ OexC K C ∧ PySem.W.findIn K (.ref C) "word" = some none ∧ H a = some (exo a C none) ∧ ∀ dx H3, Made H H3 a C dx [(("word" : Str), V.str w)] → Q .non H3
/-- the others: their fields by the arguments -/
def spIn (C : Addr) (fields : List Str) (w : Str) : Sp := fun vs H Q _ => ∃ (a : Addr) (xs : List V), vs = .ref a :: xs ∧ xs.length = fields.length ∧ H a = some (exo a C none) ∧ ∀ dx H3, Made H H3 a C dx ((fields.zip xs).reverse ++ [(("word" : Str), V.str w)]) → Q .non H3

/-! ### the looks -/
def isI0 (sc : Scope) : List Stmt → Bool
  | [.Expr (.Call (.Attribute (.Name v p1) i p2) [.Name s p3, .Name t p4] [] p5) p6, .Assign [.Attribute (.Name s2 p7) w p8] (.Name w2 p9) p10] =>
    (p2.endLine == p5.line) && decide (v = "ValueError") && glB sc v && decide (i = "__init__") && nmB ["self", "text", "word"] sc 0 s && nmB ["self", "text", "word"] sc 1 t && nmB ["self", "text", "word"] sc 0 s2 && decide (w = "word") && nmB ["self", "text", "word"] sc 2 w2
  | _ => false
def isFl (N : List Str) (sc : Scope) : Nat → List Str → List Stmt → Bool
  | _, [], [] => true
  | i, f :: fs, .Assign [.Attribute (.Name s _) g _] (.Name x _) _ :: r => nmB N sc 0 s && decide (f = g) && nmB N sc i x && isFl N sc (i + 1) fs r
  | _, _, _ => false
def isIn (N : List Str) (sc : Scope) (base word : Str) (fields : List Str) : List Stmt → Bool
  | .Expr (.Call (.Attribute (.Name v p1) i p2) [.Name s p3, .Constant (.str t) k1 p4, .Constant (.str w) k2 p7] [] p5) p6 :: r =>
    (p2.endLine == p5.line) && decide (v = base) && glB sc v && decide (i = "__init__") && nmB N sc 0 s && decide (w = word) && isFl N sc 1 fields r
  | _ => false

section
variable {X : Cx} {o e : Expr} {es : List Expr} {ta : TA} {f : Str} {p p' p1 p2 pos : Pos}
/-- what a class must say, that its __init__ is called as Base.__init__(self, ..) -/
structure BaseI (K : PySem.W.Frag) (T fI : Addr) : Prop where
  sp : PySem.W.specialIn K (.ref T) "__getattribute__" = some (some (.builtin "type.__getattribute__"))
  rd : PySem.W.readsIn K T (.type "type") = true
  fc : PySem.W.findCls K (.ref T) (.type "type") "__init__" = some (.val (.ref fI))
  kp : PySem.W.keepIn K (.ref fI) = true
theorem pe_binit {CX : CXT} {k : Nat} {fd : FuncData} {ps : List Str} {sp : Sp} {T fI : Addr} {nm : Str} {pl : Sem Bool} (F : FnOk X.prog X.w X.K X.mg X.base CX k fI fd ps sp) (hr : Room k X.A) (hx : Passes CX X (fun _ _ _ => False)) (hb : Binds X.K fd ps []) (B : BaseI X.K T fI)
    (hg : Gl X nm) (hdb : (nm == ("__debug__" : Str)) = false) (hm : X.mg nm = some (.ref T)) (ha : PA X (e :: es) ta)
    (hc : eval (.Call (.Attribute (.Name nm p1) "__init__" p2) (e :: es) [] pos) X.env = (do
      let ov ← eval (.Name nm p1) X.env
      standAt p2.atName
      let (f, first) ← holding [ov] (getMethod ov "__init__" pl)
      callWith pos f first (backTo pos (starEach (e :: es) X.env)) (backToKw pos (keywordEach [] X.env))) := by rfl)
    (he : starEach (e :: es) X.env = (false, eval e X.env) :: starEach es X.env := by rfl) (hpl : (backTo pos (starEach es X.env)).any (·.1) = false := by rfl) :
    PE X (.Call (.Attribute (.Name nm p1) "__init__" p2) (e :: es) [] pos) (fun σ H Q => ta σ H fun vs H1 => sp vs H1 Q (fun _ _ _ => False)) := by
  refine ⟨fun pins s σ H Q I h => ?_⟩
  refine PySem.W.methodCall_KW (ld_glob I hg hm ?_ hdb) hc
  refine PySem.W.method_cls I.kIn B.sp (PySem.W.cls_value I.kIn B.rd B.fc rfl ?_)
  show wpAny _ _ (callWith pos (Value.ref fI) [] (backTo pos (starEach (e :: es) X.env)) []) _ _ _
  refine PySem.W.callWith_K (first := []) (h₀ := X.base) I.ok.mod.kin B.kp (thn (ha.run pos pins _ σ H _ (I.tok _) h) fun us s1 ⟨vs, H1, I1, r, q⟩ => ⟨I1.kIn, ?_⟩) he hpl
  exact run_fn (dvs := []) (us := us) (vs := vs) F hr hb .nil hx I1 r (by rw [List.append_nil]; exact q)
theorem mcall {o : Expr} {name : Str} {apos pos : Pos} {args : List Expr} {env : Env} (hb : attributeBase o name env (eval o env) = eval o env) (hl : (apos.endLine == pos.line) = true) (hf : methodCallForm (args.length + ([] : List Keyword).length) (backTo pos (starEach args env)) (backToKw pos (keywordEach [] env)) = true) :
    eval (.Call (.Attribute o name apos) args [] pos) env = (do
      let ov ← eval o env
      standAt apos.atName
      let (f, first) ← holding [ov] (getMethod ov name (do return (← importBound o env).getD true))
      callWith pos f first (backTo pos (starEach args env)) (backToKw pos (keywordEach [] env))) := by
  rw [PySem.arm_eval_Call, hb]
  unfold methodCall methodCallPos calleeOf
  simp only [hf, hl, if_true, Bool.or_true, pure_bind]
/-- the fields' stores -/
def tFl (K : PySem.W.Frag) : Nat → List Str → TS
  | _, [] => tNext
  | i, f :: fs => tSeq (tOst K f (tVar 0) (tVar i)) (tFl K (i + 1) fs)
theorem pss_fl : ∀ {i : Nat} {fs : List Str} {st : List Stmt}, isFl X.N X.env.scope i fs st = true → PSs X st (tFl X.K i fs)
  | _, [], [], _ => pss_nil
  | _, [], _ :: _, h => by simp [isFl] at h
  | _, _ :: _, [], h => by simp [isFl] at h
  | i, f :: fs, st :: r, h => by
    cases st with
    | Assign ts v pos =>
      cases ts with
      | nil => simp [isFl] at h
      | cons t0 ts =>
        cases ts with
        | cons _ _ => simp [isFl] at h
        | nil =>
          cases t0 with
          | Attribute t1 g p2 =>
            cases t1 with
            | Name s p1 =>
              cases v with
              | Name x p3 =>
                simp only [isFl, Bool.and_eq_true, decide_eq_true_eq] at h
                obtain ⟨⟨⟨h1, h2⟩, h3⟩, h4⟩ := h
                subst h2
                obtain ⟨a1, a2, a3, a4⟩ := nmB_of h1
                obtain ⟨b1, b2, b3, b4⟩ := nmB_of h3
                exact pss_cons (ps_ost (pe_var a1 a2 a3 a4) (pe_var b1 b2 b3 b4)) (pss_fl h4)
              | _ => simp [isFl] at h
            | _ => simp [isFl] at h
          | _ => simp [isFl] at h
    | _ => simp [isFl] at h
theorem fl_go {K : PySem.W.Frag} {a C dx : Addr} {H : Hp} (T : OexC K C) (hne : dx ≠ a) : ∀ {fields : List Str} {i : Nat} {xs : List V} {fs : List (Str × V)} {H2 : Hp} {D : Ends} {σ : L2.St}, xs.length = fields.length → (∀ f ∈ fields, PySem.W.findIn K (.ref C) f = some none) → fs.length + fields.length ≤ 900 →
    σ[0]? = some (some (.ref a)) → (∀ n x, xs[n]? = some x → σ[i + n]? = some (some x)) → H2 a = some (exo a C (some dx)) → H2 dx = some (exd dx fs) → (∀ b, b ≠ a → b ≠ dx → H2 b = H b) →
    (∀ H3, H3 a = some (exo a C (some dx)) → H3 dx = some (exd dx ((fields.zip xs).reverse ++ fs)) → (∀ b, b ≠ a → b ≠ dx → H3 b = H b) → D.nx σ H3) → tFl K i fields D σ H2
  | [], i, xs, fs, H2, D, σ, _, _, _, _, _, h1, h2, h3, q => q H2 h1 (by simpa using h2) h3
  | f :: fields, i, [], fs, H2, D, σ, hl, _, _, _, _, _, _, _, _ => by simp at hl
  | f :: fields, i, x :: xs, fs, H2, D, σ, hl, hf, hn, h0, hx, h1, h2, h3, q => by
    show tOst K f (tVar 0) (tVar i) { D with nx := tFl K (i + 1) fields D } σ H2
    refine ⟨x, by simpa using hx 0 x rfl, _, h0, a, C, rfl, T, hf f List.mem_cons_self, .inr ⟨dx, fs, h1, h2, by simp at hn; omega, ?_⟩⟩
    refine fl_go T hne (xs := xs) (by simpa using hl) (fun g hg => hf g (List.mem_cons_of_mem _ hg)) (by simp at hn ⊢; omega) h0 (fun n y hy => ?_) (by rw [upd_ne (Ne.symm hne)]; exact h1) upd_same (fun b b1 b2 => by rw [upd_ne b2]; exact h3 b b1 b2) fun H3 k1 k2 k3 => q H3 k1 ?_ k3
    · have := hx (n + 1) y (by simpa using hy)
      rw [show i + 1 + n = i + (n + 1) by omega]
      exact this
    · rw [k2]
      simp
end

/-! ### the makers -/
section
variable {P : Program} {w : World} {K : PySem.W.Frag} {mg : Str → Option Value} {base : Heap} {f : Addr} {name qual : Str} {params : Arguments} {body : List Stmt} {scope : Scope} {dV kV doc pm cdv ct oc : Value} {an od : Option Addr} {osl : Array (Option Value)}
theorem passes_no {X : Cx} {W : WX} (tk : L2N.Takes X W) : Passes (L2N.CX X.prog X.w) X (fun _ _ _ => False) := L2N.passes_call tk fun _ _ _ _ h => h.elim
theorem takes_cx {k : Nat} {N : List Str} {A : Around} {outer : List Env} {s : Shared} {H : Hp} {E : XK} : L2N.Takes (cxOf (L2N.CX P w) P w K mg base N qual scope f cdv A outer s H E) (fun cls d _ H' => E cls d H') := L2N.takes_of (X := cxOf (L2N.CX P w) P w K mg base N qual scope f cdv A outer s H E) (E := E) (E₁ := fun e' s'' => L2N.CX P w outer H s E e' s'') rfl rfl rfl rfl
/-- TableError's -/
theorem init0 (lk : K.lookup f = some ⟨oc, od, .func (PySem.W.fnOf name qual params body scope dV kV doc pm an cdv ct), osl⟩) (hcd : PySem.W.codeIn K cdv qual = true) (S : FnScope ["self", "text", "word"] ["self", "text", "word"] scope) (hB : isI0 scope body = true)
    (hm : mg "ValueError" = none) (vV : PySem.W.findCls K (.type "ValueError") (.type "type") "__init__" = some (.val (.builtin "ValueError.__init__"))) :
    FnOk P w K mg base (L2N.CX P w) 1 f (PySem.W.fnOf name qual params body scope dV kV doc pm an cdv ct) ["self", "text", "word"] (spI0 K) := by
  refine fn_of lk hcd S (fun vs H Q E h => ?_) fun A outer s H vs Q E hr h => ?_
  · obtain ⟨a, C, t, w, e, _⟩ := h
    rw [e] <;> rfl
  · unfold isI0 at hB
    split at hB
    · rename_i v p1 i p2 s0 p3 t p4 p5 p6 s2 p7 w0 p8 w2 p9 p10
      simp only [Bool.and_eq_true, decide_eq_true_eq] at hB
      obtain ⟨⟨⟨⟨⟨⟨⟨⟨e0, e1⟩, e2⟩, e3⟩, e4⟩, e5⟩, e6⟩, e7⟩, e8⟩ := hB
      subst e1 e3 e7
      let X := cxOf (L2N.CX P w) P w K mg base ["self", "text", "word"] qual scope f cdv A outer s H E
      obtain ⟨a1, a2, a3, a4⟩ := nmB_of (X := X) e4
      obtain ⟨b1, b2, b3, b4⟩ := nmB_of (X := X) e5
      obtain ⟨c1, c2, c3, c4⟩ := nmB_of (X := X) e6
      obtain ⟨d1, d2, d3, d4⟩ := nmB_of (X := X) e8
      refine ⟨_, pss_cons (ps_expr (pe_veinit (X := X) (gl_of rfl e2).1 hm vV (pa_cons (pe_var a1 a2 a3 a4) (pa_cons (pe_var b1 b2 b3 b4) pa_nil)) (mcall rfl e0 rfl))) (pss_one (ps_ost (pe_var c1 c2 c3 c4) (pe_var d1 d2 d3 d4))), ?_⟩
      obtain ⟨a, C, t, w, e, T, hw, ha, q⟩ := h
      subst e
      refine ⟨_, rfl, _, rfl, a, C, [.str t], rfl, by simp, T, ha, ?_⟩
      refine ⟨_, rfl, _, rfl, a, C, rfl, T, hw, .inl ⟨ha, fun dx h1 h2 => q dx _ ⟨upd_same, ?_, h2, h1, fun b q1 q2 => ?_⟩⟩⟩
      · rw [upd_ne h2, upd_same]
      · rw [upd_ne q1, upd_ne q2]
    · cases hB
/-- the others' -/
theorem initN {N : List Str} {fields : List Str} {bnm word : Str} {C T fB : Addr} {fdB : FuncData} (lk : K.lookup f = some ⟨oc, od, .func (PySem.W.fnOf name qual params body scope dV kV doc pm an cdv ct), osl⟩) (hcd : PySem.W.codeIn K cdv qual = true) (S : FnScope N N scope) (hB : isIn N scope bnm word fields body = true)
    (hN : N.length = fields.length + 1) (hfl : fields.length ≤ 100) (hm : mg bnm = some (.ref T)) (hdb : (bnm == ("__debug__" : Str)) = false) (B : BaseI K T fB) (F : FnOk P w K mg base (L2N.CX P w) 1 fB fdB ["self", "text", "word"] (spI0 K)) (hb : Binds K fdB ["self", "text", "word"] [])
    (TC : OexC K C) (hw : PySem.W.findIn K (.ref C) "word" = some none) (hfs : ∀ f ∈ fields, PySem.W.findIn K (.ref C) f = some none) :
    FnOk P w K mg base (L2N.CX P w) 2 f (PySem.W.fnOf name qual params body scope dV kV doc pm an cdv ct) N (spIn C fields word) := by
  refine fn_of lk hcd S (fun vs H Q E h => ?_) fun A outer s H vs Q E hr h => ?_
  · obtain ⟨a, xs, e, hx, _⟩ := h
    rw [e, hN, List.length_cons, hx]
  · unfold isIn at hB
    split at hB
    · rename_i v p1 i p2 s0 p3 t k1 p4 w0 k2 p7 p5 p6 r
      simp only [Bool.and_eq_true, decide_eq_true_eq] at hB
      obtain ⟨⟨⟨⟨⟨⟨e0, e1⟩, e2⟩, e3⟩, e4⟩, e5⟩, e6⟩ := hB
      subst e1 e3 e5
      let X := cxOf (L2N.CX P w) P w K mg base N qual scope f cdv A outer s H E
      obtain ⟨a1, a2, a3, a4⟩ := nmB_of (X := X) e4
      refine ⟨_, pss_cons (ps_expr (pe_binit (X := X) F hr (passes_no (takes_cx (k := 0))) hb B (gl_of rfl e2).1 hdb hm (pa_cons (pe_var a1 a2 a3 a4) (pa_cons pe_str (pa_cons pe_str pa_nil))) (mcall rfl e0 rfl))) (pss_fl (X := X) e6), ?_⟩
      obtain ⟨a, xs, e, hx, ha, q⟩ := h
      subst e
      have hst : L2.start N (.ref a :: xs) = some (.ref a) :: xs.map some := by
        unfold L2.start
        rw [List.length_cons, hN, hx, Nat.sub_self, List.replicate_zero, List.append_nil, List.map_cons]
      rw [hst]
      refine ⟨_, rfl, a, C, t, w0, rfl, TC, hw, ha, fun dx H3 m => ?_⟩
      refine fl_go TC m.2.2.1 (H := H) hx hfs (by simp; omega) rfl (fun n x hn => ?_) m.1 m.2.1 m.2.2.2.2 fun H4 k1 k2 k3 => q dx H4 ⟨k1, k2, m.2.2.1, m.2.2.2.1, k3⟩
      rw [Nat.add_comm, List.getElem?_cons_succ, List.getElem?_map, hn]
      rfl
    · cases hB
end
end DE

set_option Elab.async false
set_option linter.all false
set_option maxRecDepth 100000
set_option maxHeartbeats 4000000
/-! DE8e: raise, try. -/
namespace DE
open PySem PySem.Spec PyProof.Rows L2
/-- the maker of an error, by data -/
def mkEr (c : Str) (fields : List Str) (word : Str) (ds : List D) : Option Er := if ds.length = fields.length then some ⟨c, fields.reverse ++ [(("word" : Str))], ds.reverse ++ [.str word]⟩ else none
structure ErrC (P : Program) (w : World) (K : PySem.W.Frag) (mg : Str → Option Value) (base : Heap) (nm : Str) (fields : List Str) (word : Str) (k : Nat) : Prop where
  ex : ∃ (C fI : Addr) (fd : FuncData) (ps : List Str), mg nm = some (.ref C) ∧ OexC K C ∧ PySem.W.findIn K (.ref C) "__init__" = some (some (.ref fI)) ∧ PySem.W.typeIn K (.ref fI) = some (.type "function") ∧ FnOk P w K mg base (L2N.CX P w) k fI fd ps (spIn C fields word) ∧ Binds K fd ps []
theorem Dens.rev {E : En} {G : Hp} : ∀ {ds : List D} {vs : List V}, Dens E G ds vs → Dens E G ds.reverse vs.reverse
  | [], vs, h => by
    have e : vs = [] := h
    rw [e]
    exact rfl
  | d :: ds, vs, h => by
    obtain ⟨v, r, h1, h2, h3⟩ := h
    rw [h1, List.reverse_cons, List.reverse_cons]
    exact (Dens.rev h3).append (Dens.one h2)
section
variable {X : Cx} {W : WX} {E : En} {e : Expr} {es : List Expr} {ta : TA} {p pos : Pos}
/-- C(..): from the values of the arguments on -/
theorem make_go {C fI : Addr} {k : Nat} {fd : FuncData} {ps : List Str} {fields : List Str} {word : Str} {pins : List (Addr × Obj)} {σ : L2.St} {H1 : Hp} {Q : XK} {us : List Value} {vs : List V} {s1 : Shared} (T : OexC X.K C) (iC : PySem.W.findIn X.K (.ref C) "__init__" = some (some (.ref fI)))
    (tI : PySem.W.typeIn X.K (.ref fI) = some (.type "function")) (F1 : FnOk X.prog X.w X.K X.mg X.base (L2N.CX X.prog X.w) k fI fd ps (spIn C fields word)) (hr : Room (k + 1) X.A) (hb : Binds X.K fd ps []) (hx : Passes (L2N.CX X.prog X.w) X (fun _ _ _ => False))
    (I1 : Inv X pins σ H1 s1) (r1 : Vals vs us) (hl : vs.length = fields.length) (hz : fields.length ≤ 100) (q : ∀ d, H1 d = none → Q (.ref C) (some d) (upd H1 d (.xd ((fields.zip vs).reverse ++ [(("word" : Str), V.str word)])))) :
    wpAny (model X.prog X.w) X.A (call (.ref C) us) (L2N.MkP X pins σ Q) X.xe s1 := by
  obtain ⟨nm, q0, N, bs, bm, sn, sub, ab, col, dd, k0, k1, k2, k3, k5, hC, hbm⟩ := T.cls
  obtain ⟨hp, g, dr, tk, os⟩ := s1
  have hsz : hp.objs.size ≤ hp.objs.size + 1 := Nat.le_succ _
  have hn : H1 (hp.objs.size + 1) = none := I1.hok.fresh hsz
  have hq : spIn C fields word (.ref (hp.objs.size + 1) :: vs) (upd H1 (hp.objs.size + 1) (exo (hp.objs.size + 1) C none)) (fun v H2 => v = .non ∧ ∃ (d : Addr) (fs : List (Str × V)), H2 (hp.objs.size + 1) = some (exo (hp.objs.size + 1) C (some d)) ∧ H2 d = some (exd d fs) ∧ H1 d = none ∧ Q (.ref C) (some d) (upd (del H2 (hp.objs.size + 1)) d (.xd fs))) (fun _ _ _ => False) := by
    refine ⟨_, vs, rfl, hl, upd_same, fun dx H3 m => ⟨rfl, dx, _, m.1, m.2.1, ?_, ?_⟩⟩
    · have z := m.2.2.2.1
      rw [upd_ne m.2.2.1] at z
      exact z
    · have hd1 : H1 dx = none := by
        have z := m.2.2.2.1
        rw [upd_ne m.2.2.1] at z
        exact z
      have e : upd (del H3 (hp.objs.size + 1)) dx (.xd ((fields.zip vs).reverse ++ [(("word" : Str), V.str word)])) = upd H1 dx (.xd ((fields.zip vs).reverse ++ [(("word" : Str), V.str word)])) := by
        funext b
        by_cases hbd : b = dx
        · rw [hbd, upd_same, upd_same]
        · rw [upd_ne hbd, upd_ne hbd]
          by_cases hba : b = hp.objs.size + 1
          · rw [hba, del_same, hn]
          · rw [del_ne hba, m.2.2.2.2 b hba hbd, upd_ne hba]
      rw [e]
      exact q dx hd1
  have kk : ∀ b o, hp.get? b = some o → ((hp.push (PySem.W.kdv_tup us)).push (PySem.HandSPX.excO C hp.objs.size)).get? b = some o := fun b o e => Heap.get?_push_of_some _ (Heap.get?_push_of_some _ e)
  have hget : ((hp.push (PySem.W.kdv_tup us)).push (PySem.HandSPX.excO C hp.objs.size)).get? (hp.objs.size + 1) = some (PySem.HandSPX.excO C hp.objs.size) := by heap_get
  have I2 : Inv X pins σ (upd H1 (hp.objs.size + 1) (exo (hp.objs.size + 1) C none)) ⟨(hp.push (PySem.W.kdv_tup us)).push (PySem.HandSPX.excO C hp.objs.size), g, dr, tk, os⟩ :=
    I1.laid (t' := tk) (a := hp.objs.size + 1) (o := exo (hp.objs.size + 1) C none) (h' := (hp.push (PySem.W.kdv_tup us)).push (PySem.HandSPX.excO C hp.objs.size)) kk hsz (exo_ok hget)
  have r2 : Vals (V.ref (hp.objs.size + 1) :: vs) (Value.ref (hp.objs.size + 1) :: us) := .cons rfl r1
  have hlen : (Value.ref (hp.objs.size + 1) :: us ++ []).length = ps.length := by
    have e := r2.length
    rw [F1.len _ _ _ _ hq] at e
    rw [List.append_nil]
    exact e.symm
  have hus : us.length ≤ sizeLine := by
    rw [← Paired.length r1, sizeLine_eq, hl]
    omega
  have b2 := hb _ (Value.ref (hp.objs.size + 1) :: us) I2.kIn hlen
  rw [List.append_nil] at b2
  refine wpAny_call (PySem.HandSPX.call_own F.excBase_ValueError (fun Y => PySem.HandSPX.refsVE_contains Y bm hbm) (I1.kIn _ _ hC) (PySem.W.looks_findIn I1.kIn iC) (fun self => PySem.W.bind_fn I1.kIn self tI) hus
    (codeAny_mono (F1.run _ X.stack _ _ ⟨Value.ref (hp.objs.size + 1) :: us, []⟩ (Value.ref (hp.objs.size + 1) :: us) _ _ (fun _ _ _ => False) (hr.make C us []) (I2.env0.make C us []) b2 r2 hq) fun r s' hq' => ?_))
  cases r with
  | error er => exact hx pins σ _ _ er s' I2 hq'
  | ok fl =>
    cases fl with
    | ret u =>
      obtain ⟨v, H2, os2, bare2, un2, hok2, rv, ev, d, fs, ea, ed, hd1, q2⟩ := hq'
      subst ev
      obtain ⟨h2, g2, d2, t2, os'⟩ := s'
      obtain ⟨t0, G, J, kG, ge, hoe, na⟩ := mk_end0 (d2 := d2) (t2 := t2) I1 hsz kk un2 hok2 os2 bare2 ea ed hd1
      refine ⟨rv, hp.objs.size + 1, _, _, ⟨G, g2, d2, t2, os'⟩, _, .ref C, some d, rfl, J, kG, ge, hoe, ⟨rfl, rfl, fun vs hv => ?_⟩, rfl, rfl, na, rfl, bare2, raises_own T.exC T.tyC, q2⟩
      cases hv
      rfl
    | next => exact False.elim hq'
    | brk => exact False.elim hq'
    | cont => exact False.elim hq'
def tMk (C : Addr) (fields : List Str) (word : Str) (ta : TA) : L2.St → Hp → XK → Prop := fun σ H Q => ta σ H fun vs H1 => vs.length = fields.length ∧ ∀ d, H1 d = none → Q (.ref C) (some d) (upd H1 d (.xd ((fields.zip vs).reverse ++ [(("word" : Str), V.str word)])))
/-- C(e, ..) as what is raised -/
theorem pmkN {C fI : Addr} {nm : Str} {k : Nat} {fd : FuncData} {ps : List Str} {fields : List Str} {word : Str} (T : OexC X.K C) (iC : PySem.W.findIn X.K (.ref C) "__init__" = some (some (.ref fI)))
    (tI : PySem.W.typeIn X.K (.ref fI) = some (.type "function")) (F1 : FnOk X.prog X.w X.K X.mg X.base (L2N.CX X.prog X.w) k fI fd ps (spIn C fields word)) (hr : Room (k + 1) X.A) (hb : Binds X.K fd ps []) (hx : Passes (L2N.CX X.prog X.w) X (fun _ _ _ => False))
    (hg : Gl X nm) (hm : X.mg nm = some (.ref C)) (hdb : (nm == ("__debug__" : Str)) = false) (hz : fields.length ≤ 100) (ha : PA X (e :: es) ta) (hst : starEach (e :: es) X.env = (false, eval e X.env) :: starEach es X.env) (hpl : (backTo pos (starEach es X.env)).any (·.1) = false) :
    L2N.PMk X (.Call (.Name nm p) (e :: es) [] pos) (tMk C fields word ta) := by
  intro pins s σ H Q I h
  refine wpAny_Call_Name_kw (ld_glob I hg hm ?_ hdb)
  refine PySem.W.callWith_K (h₀ := X.base) I.ok.mod.kin T.kC (thn (ha.run pos pins s σ H _ I h) fun us s1 ⟨vs, H1, I1, r1, hl, q1⟩ => ⟨I1.kIn, ?_⟩) hst hpl
  exact make_go T iC tI F1 hr hb hx I1 r1 hl hz q1
theorem pmkN0 {C fI : Addr} {nm : Str} {k : Nat} {fd : FuncData} {ps : List Str} {fields : List Str} {word : Str} (T : OexC X.K C) (iC : PySem.W.findIn X.K (.ref C) "__init__" = some (some (.ref fI)))
    (tI : PySem.W.typeIn X.K (.ref fI) = some (.type "function")) (F1 : FnOk X.prog X.w X.K X.mg X.base (L2N.CX X.prog X.w) k fI fd ps (spIn C fields word)) (hr : Room (k + 1) X.A) (hb : Binds X.K fd ps []) (hx : Passes (L2N.CX X.prog X.w) X (fun _ _ _ => False))
    (hg : Gl X nm) (hm : X.mg nm = some (.ref C)) (hdb : (nm == ("__debug__" : Str)) = false) (hz : fields.length ≤ 100) :
    L2N.PMk X (.Call (.Name nm p) [] [] pos) (tMk C fields word tNil) := by
  intro pins s σ H Q I h
  refine wpAny_Call_Name_kw (ld_glob I hg hm ?_ hdb)
  exact PySem.W.callWith_K0 I.kIn T.kC (make_go (vs := []) (us := []) T iC tI F1 hr hb hx I .nil h.1 hz h.2)
end
section
variable {X : Cx} {px : Option (Addr × Addr × Addr)} {C : Cfg} {W : WX} {k : Nat} {hh : Bool} {G0 H0 : Hp} {tch : List Nat} {e : Expr} {es : List Expr} {p pos : Pos}
/-- the makers that a body may use -/
structure Mks (X : Cx) (C : Cfg) (k : Nat) : Prop where
  of : ∀ c f, C.mkE c = some f → ∃ (fields : List Str) (word : Str) (j : Nat), f = mkEr c fields word ∧ fields.length ≤ 100 ∧ j + 1 ≤ k ∧ ErrC X.prog X.w X.K X.mg X.base c fields word j
theorem map_fst_zip {fs : List Str} {vs : List V} (h : vs.length = fs.length) : (fs.zip vs).map (·.1) = fs := by rw [List.map_fst_zip]; omega
theorem map_snd_zip {fs : List Str} {vs : List V} (h : vs.length = fs.length) : (fs.zip vs).map (·.2) = vs := by rw [List.map_snd_zip]; omega
/-- from the arguments' data -/
theorem rais_go {E : En} {D : Ends} {σ : L2.St} {ρ : Rho} {G H G1 H1 : Hp} {rs : List RV} {vs : List V} {c : Str} {CA : Addr} {fields : List Str} {word : Str} (hm : E.mg c = some (.ref CA)) (g0 : Gr G0 H0 G H) (r : Rep E H0 G H σ ρ) (g1 : Gr G H G1 H1) (dv : DenRs E G1 H1 H rs vs)
    (q : RS E W G0 H0 tch σ D (erS (mkEr c fields word) rs ρ)) : vs.length = fields.length ∧ ∀ d, H1 d = none → W (.ref CA) (some d) σ (upd H1 d (.xd ((fields.zip vs).reverse ++ [(("word" : Str), V.str word)]))) := by
  unfold erS at q
  cases ed : toDs rs with
  | none => rw [ed] at q; exact q.elim
  | some ds =>
    rw [ed] at q
    have q : RS E W G0 H0 tch σ D (match mkEr c fields word ds with
      | some e => some (.er e ρ)
      | none => none) := q
    unfold mkEr at q
    by_cases hl : ds.length = fields.length
    · rw [if_pos hl] at q
      obtain ⟨G2, b1, b2, b3⟩ := toDs_den ed g1 dv
      have hv : vs.length = fields.length := by rw [b3.length, hl]
      refine ⟨hv, fun d hd => ?_⟩
      have gf := Gr.frozen b1.i hd (o := .xd ((fields.zip vs).reverse ++ [(("word" : Str), V.str word)]))
      have gg := b1.trans gf
      refine q (.ref CA) (some d) σ _ _ (g0.trans gg) (r.mono gg) Off.refl ⟨CA, d, _, hm, rfl, rfl, upd_same, ?_, ?_⟩
      · rw [List.map_append, List.map_reverse, map_fst_zip hv]
        rfl
      · rw [List.map_append, List.map_reverse, map_snd_zip hv]
        exact (Dens.mono gf.g _ _ b3).rev.append (Dens.one rfl)
    · rw [if_neg hl] at q
      exact q.elim
theorem s_never {st : Stmt} : PS X st (cS (enX X px) W G0 H0 tch (fun _ => none)) := ps_imp (t := tNever) ps_never fun D σ H h => by
  obtain ⟨ρ, G, g0, r, h⟩ := h
  exact h.elim
theorem s_rais (c : Cs X px C W k hh) (hcalm : X.calm = true) (hr : Room k X.A) (M : Mks X C k) {nm : Str} {f : List DE.D → Option Er} {fa : Rho → Ans (List RV)} (hC : C.mkE nm = some f) (hg : Gl X nm) (hdb : (nm == ("__debug__" : Str)) = false) (ha : PA X (e :: es) (cA (enX X px) W fa)) (hst : starEach (e :: es) X.env = (false, eval e X.env) :: starEach es X.env) (hpl : ∀ pos, (backTo pos (starEach es X.env)).any (·.1) = false) {p2 : Pos} :
    PS X (.Raise (some (.Call (.Name nm p) (e :: es) [] p2)) none pos) (cS (enX X px) W G0 H0 tch (fun ρ => liftS (fa ρ) ρ fun rs => erS f rs ρ)) := by
  obtain ⟨fields, word, j, rfl, hz, hj, ⟨CA, fI, fd, ps, e1, T, iC, tI, F, hb⟩⟩ := M.of _ _ hC
  refine ps_imp (L2N.ps_raise hcalm c.tk (pmkN T iC tI F (hr.mono hj) hb (passes_no c.tk) hg e1 hdb hz ha hst (hpl p2))) fun D σ H h => ?_
  obtain ⟨ρ, G, g0, r, h⟩ := h
  exact ⟨H0, ρ, G, g0.i, r, (rs_expr g0 r h).imp fun rs G1 H1 g1 q vs dv => rais_go e1 g0 r g1 dv q⟩
theorem s_rais0 (c : Cs X px C W k hh) (hcalm : X.calm = true) (hr : Room k X.A) (M : Mks X C k) {nm : Str} {f : List DE.D → Option Er} (hC : C.mkE nm = some f) (hg : Gl X nm) (hdb : (nm == ("__debug__" : Str)) = false) {p2 : Pos} :
    PS X (.Raise (some (.Call (.Name nm p) [] [] p2)) none pos) (cS (enX X px) W G0 H0 tch (fun ρ => erS f [] ρ)) := by
  obtain ⟨fields, word, j, rfl, hz, hj, ⟨CA, fI, fd, ps, e1, T, iC, tI, F, hb⟩⟩ := M.of _ _ hC
  refine ps_imp (L2N.ps_raise hcalm c.tk (pmkN0 T iC tI F (hr.mono hj) hb (passes_no c.tk) hg e1 hdb hz)) fun D σ H h => ?_
  obtain ⟨ρ, G, g0, r, h⟩ := h
  exact rais_go (rs := []) e1 g0 r (Gr.refl g0.i) rfl h
/-! ### try -/
mutual
theorem Den.pin {E E' : En} (hK : E'.K = E.K) (hm : E'.mg = E.mg) (hp : E.px = none) {G : Hp} : ∀ (d : DE.D) (v : V), Den E G d v → Den E' G d v
  | .non, v, h => h
  | .bl _, v, h => h
  | .int _, v, h => h
  | .str _, v, h => h
  | .tup ds, v, h => by
    obtain ⟨a, vs, h1, h2, h3⟩ := h
    exact ⟨a, vs, h1, h2, Dens.pin hK hm hp ds vs h3⟩
  | .lst ds, v, h => by
    obtain ⟨a, vs, h1, h2, h3⟩ := h
    exact ⟨a, vs, h1, by rw [hK]; exact h2, Dens.pin hK hm hp ds vs h3⟩
  | .dicT ks ds, v, h => by
    obtain ⟨a, kvs, h1, h2, h3, h4⟩ := h
    exact ⟨a, kvs, h1, h2, h3, Dens.pin hK hm hp ds _ h4⟩
  | .dicK ks ds, v, h => by
    obtain ⟨a, kvs, h1, h2, h3, h4⟩ := h
    exact ⟨a, kvs, h1, h2, h3, Dens.pin hK hm hp ds _ h4⟩
  | .exc c ns ds, v, h => by
    obtain ⟨a, C, dd, fs, h1, h2, _⟩ := h
    rw [hp] at h2
    cases h2
theorem Dens.pin {E E' : En} (hK : E'.K = E.K) (hm : E'.mg = E.mg) (hp : E.px = none) {G : Hp} : ∀ (ds : List DE.D) (vs : List V), Dens E G ds vs → Dens E' G ds vs
  | [], vs, h => h
  | d :: ds, vs, h => by
    obtain ⟨v, r, h1, h2, h3⟩ := h
    exact ⟨v, r, h1, Den.pin hK hm hp d v h2, Dens.pin hK hm hp ds r h3⟩
end
mutual
/-- what holds no error needs no pin -/
theorem Den.unpin {E E' : En} (hK : E'.K = E.K) {G : Hp} : ∀ (d : DE.D) (v : V), noExc d = true → Den E G d v → Den E' G d v
  | .non, v, _, h => h
  | .bl _, v, _, h => h
  | .int _, v, _, h => h
  | .str _, v, _, h => h
  | .tup ds, v, n, h => by
    obtain ⟨a, vs, h1, h2, h3⟩ := h
    exact ⟨a, vs, h1, h2, Dens.unpin hK ds vs n h3⟩
  | .lst ds, v, n, h => by
    obtain ⟨a, vs, h1, h2, h3⟩ := h
    exact ⟨a, vs, h1, by rw [hK]; exact h2, Dens.unpin hK ds vs n h3⟩
  | .dicT ks ds, v, n, h => by
    obtain ⟨a, kvs, h1, h2, h3, h4⟩ := h
    exact ⟨a, kvs, h1, h2, h3, Dens.unpin hK ds _ n h4⟩
  | .dicK ks ds, v, n, h => by
    obtain ⟨a, kvs, h1, h2, h3, h4⟩ := h
    exact ⟨a, kvs, h1, h2, h3, Dens.unpin hK ds _ n h4⟩
  | .exc c ns ds, v, n, h => nomatch n
theorem Dens.unpin {E E' : En} (hK : E'.K = E.K) {G : Hp} : ∀ (ds : List DE.D) (vs : List V), noExcs ds = true → Dens E G ds vs → Dens E' G ds vs
  | [], vs, _, h => h
  | d :: ds, vs, n, h => by
    obtain ⟨v, r, h1, h2, h3⟩ := h
    have n' : (noExc d && noExcs ds) = true := n
    rw [Bool.and_eq_true] at n'
    exact ⟨v, r, h1, Den.unpin hK d v n'.1 h2, Dens.unpin hK ds r n'.2 h3⟩
end
theorem DenO.to {E E' : En} {G H : Hp} {l : Addr} {o : OV} (k : ∀ ds vs, (match o with | .l x => x | .tT _ x => x | .tK _ x => x) = ds → Dens E G ds vs → Dens E' G ds vs) (h : DenO E G H l o) : DenO E' G H l o := by
  cases o with
  | l ds => obtain ⟨vs, q1, q2⟩ := h; exact ⟨vs, q1, k _ _ rfl q2⟩
  | tT ks ds => obtain ⟨kvs, q1, q2, q3⟩ := h; exact ⟨kvs, q1, q2, k _ _ rfl q3⟩
  | tK ks ds => obtain ⟨kvs, q1, q2, q3⟩ := h; exact ⟨kvs, q1, q2, k _ _ rfl q3⟩
theorem Rep.pin {E E' : En} {B G H : Hp} {σ : L2.St} {ρ : Rho} (hK : E'.K = E.K) (hm : E'.mg = E.mg) (hp : E.px = none) (r : Rep E B G H σ ρ) : Rep E' B G H σ ρ := by
  refine ⟨r.len, fun i lv e => ?_, r.new, r.sep⟩
  obtain ⟨v, h1, h2⟩ := r.at_ i lv e
  refine ⟨v, h1, ?_⟩
  cases lv with
  | dat d => exact Den.pin hK hm hp d v h2
  | own o =>
    obtain ⟨l, q1, q2, q3⟩ := h2
    exact ⟨l, q1, q2, q3.to fun ds vs _ h => Dens.pin hK hm hp ds vs h⟩
theorem noExcR_at : ∀ {ρ : Rho} {i : Nat} {lv : LV}, noExcR ρ = true → ρ[i]? = some (some lv) → noExcL (some lv) = true
  | [], _, _, _, e => by simp at e
  | l :: r, 0, lv, h, e => by
    have h' : (noExcL l && noExcR r) = true := h
    rw [Bool.and_eq_true] at h'
    have e' : l = some lv := by simpa using e
    rw [← e']
    exact h'.1
  | l :: r, i + 1, lv, h, e => by
    have h' : (noExcL l && noExcR r) = true := h
    rw [Bool.and_eq_true] at h'
    exact noExcR_at h'.2 (by simpa using e)
theorem Rep.unpin {E E' : En} {B G H : Hp} {σ : L2.St} {ρ : Rho} (hK : E'.K = E.K) (n : noExcR ρ = true) (r : Rep E B G H σ ρ) : Rep E' B G H σ ρ := by
  refine ⟨r.len, fun i lv e => ?_, r.new, r.sep⟩
  obtain ⟨v, h1, h2⟩ := r.at_ i lv e
  have n1 := noExcR_at n e
  refine ⟨v, h1, ?_⟩
  cases lv with
  | dat d => exact Den.unpin hK d v n1 h2
  | own o =>
    obtain ⟨l, q1, q2, q3⟩ := h2
    refine ⟨l, q1, q2, q3.to fun ds vs e h => Dens.unpin hK ds vs ?_ h⟩
    subst e
    cases o <;> exact n1
theorem DenR.unpin {E E' : En} {G H H1 : Hp} {r : RV} {v : V} (hK : E'.K = E.K) (n : noExcV r = true) (h : DenR E G H H1 r v) : DenR E' G H H1 r v := by
  cases r with
  | dat d => exact Den.unpin hK d v n h
  | fr o =>
    obtain ⟨l, q1, q0, q2, q3⟩ := h
    refine ⟨l, q1, q0, q2, q3.to fun ds vs e h => Dens.unpin hK ds vs ?_ h⟩
    subst e
    cases o <;> exact n
  | br o =>
    obtain ⟨l, q1, q2, q3⟩ := h
    refine ⟨l, q1, q2, q3.to fun ds vs e h => Dens.unpin hK ds vs ?_ h⟩
    subst e
    cases o <;> exact n
end
end DE

set_option Elab.async false
set_option linter.all false
set_option maxRecDepth 100000
set_option maxHeartbeats 8000000
/-! DE8f: try; the recursion over statements. -/
namespace DE
open PySem PySem.Spec PyProof.Rows L2
theorem cl_same {E : En} {x : Str} {a b : V} {u v : Value} (h : ClOk E x a u) (h' : ClOk E x b v) : u = v := by
  rcases h.2 with h | ⟨h1, h2, _⟩ <;> rcases h'.2 with h' | ⟨h1', h2', _⟩
  · rw [h] at h'; exact Option.some.inj h'
  · rw [h] at h1'; cases h1'
  · rw [h'] at h1; cases h1
  · rw [h2] at h2'; exact Option.some.inj h2'
section
variable {X : Cx} {px : Option (Addr × Addr × Addr)} {C : Cfg} {W : WX} {k : Nat} {hh : Bool} {G0 H0 : Hp} {tch : List Nat} {e : Expr} {es : List Expr} {p pos : Pos}
theorem Cs.calm (c : Cs X px C W k false) : X.calm = true ∧ px = none ∧ Room k X.A := by
  cases c.mode with
  | calm hc hp r f => exact ⟨hc, hp, r⟩
def tsX (X : Cx) (G0 H0 : Hp) (tch : List Nat) (rs : Rho → SR) (a : Addr) (cls : Value) (d : Option Addr) : TS := fun D σ H => ∃ CA dd, cls = .ref CA ∧ d = some dd ∧ cS (enX X (some (a, CA, dd))) WF G0 H0 tch rs D σ H
theorem s_tri (c : Cs X none C W k false) {i : Nat} {cn n : Str} {body st : List Stmt} {s0 : Stmt} {rb rs : Rho → SR} {p1 p2 : Pos} (hi : i ∈ tch) (hs : C.isa cn cn = some true) (hg : Gl X cn) (hdb : (cn == ("__debug__" : Str)) = false) (hN : X.N[i]? = some n) (hln : X.env.scope.names.lookup n = some .local)
    (hbody : ∀ (W : WX) (pn : List (Addr × Obj)) (xe : Value → Shared → Prop), Cs (X.tr pn xe) none C W k false → PSs (X.tr pn xe) body (cS (enX X none) W G0 H0 tch rb))
    (hsuite : ∀ (a CA dd : Addr) (oe : Obj) (pn : List (Addr × Obj)), Cs (X.suite a ((a, oe) :: pn)) (some (a, CA, dd)) C.hot WF k true → PSs (X.suite a ((a, oe) :: pn)) (s0 :: st) (cS (enX X (some (a, CA, dd))) WF G0 H0 tch rs)) :
    PS X (.Try body [.ExceptHandler (some (.Name cn p1)) (some n) (s0 :: st) p2] [] [] pos) (cS (enX X none) W G0 H0 tch (fun ρ => match rb ρ with
      | some (.er e ρ') => match C.isa e.c cn with
        | some true => endS i (rs (ρ'.set i (some (.dat (.exc e.c e.ns e.fs)))))
        | some false => some (.er e ρ')
        | none => none
      | r => r)) := by
  obtain ⟨A0, cx, cv, t1, t2, t3, t4, t5⟩ := c.tab.isa _ _ _ hs
  have nm : Names X cn cv := ⟨hg, hdb, t3.2⟩
  obtain ⟨hcalm, _, hroom⟩ := c.calm
  have hf : ∀ (j : Nat) (fn : Fn), C.T[j]? = some fn → FnFact X.prog X.w X.K X.mg X.base fn k := by
    cases c.mode with
    | calm _ _ _ f => exact f
  refine ps_imp (L2N.ps_try_as (ts := tsX X G0 H0 tch rs) (tb := fun W' => cS (enX X none) W' G0 H0 tch rb) c.stk c.frm c.nd hN hln nm c.tk (fun W' pn xe tk own => hbody W' pn xe ⟨⟨c.nd, tk, c.tab, .calm hcalm rfl hroom hf⟩, c.kd, c.sets, own, c.stk, c.frm, c.hotF⟩) (fun a oe cls d pn hz hv => ⟨fun pins s σ H D I h => ?_⟩)) fun D σ H h => ?_
  · obtain ⟨CA, dd, e1, e2, q⟩ := h
    subst e1
    subst e2
    obtain ⟨vs, hv⟩ := hv
    refine (hsuite a CA dd oe pn ⟨⟨c.nd, fun u s' x => ?_, ⟨c.tab.isa, c.tab.fld, c.tab.blt⟩, .hot rfl ⟨a, CA, dd, oe, rfl, List.mem_cons_self, ⟨rfl, vs, hv, hz.2.2 vs hv⟩, hz.1, hz.2.1⟩ (L2H.roomH_mark hroom _) (fun j fn h => c.hotF rfl j fn h)⟩, c.kd, c.sets, PassesOwn.never, c.stk, c.frm, fun z => nomatch z⟩).run pins s σ H D I q
    obtain ⟨_, _, _, _, _, _, _, _, _, _, _, _, _, _, _, _, w⟩ := x
    exact w
  · obtain ⟨ρ, G, g0, r, h⟩ := h
    refine ⟨ρ, G, g0, r, ?_⟩
    dsimp only at h
    cases eb : rb ρ with
    | none => rw [eb] at h; exact h
    | some y =>
      rw [eb] at h
      cases y with
      | nx ρ' => exact h
      | bk ρ' => exact h
      | ct ρ' => exact h
      | rt r' => exact h
      | er e ρ' =>
        have h : RS (enX X none) W G0 H0 tch σ D (match C.isa e.c cn with
          | some true => endS i (rs (ρ'.set i (some (.dat (.exc e.c e.ns e.fs)))))
          | some false => some (.er e ρ')
          | none => none) := h
        intro cls d σ' G' H' gr r' off dx
        obtain ⟨CA, dd, fs, x1, x2, x3, x4, x5, x6⟩ := dx
        cases eisa : C.isa e.c cn with
        | none => rw [eisa] at h; exact h.elim
        | some b =>
          obtain ⟨A1, cx1, cv1, u1, u2, u3, u4, u5⟩ := c.tab.isa _ _ _ eisa
          have ecv := cl_same u3 t3
          subst ecv
          have eA : CA = A1 := Value.ref.inj (Option.some.inj (x1.symm.trans u1))
          subst eA
          refine ⟨b, by rw [x2]; exact u5, fun hb a ha => ?_, fun hb => ?_⟩
          · subst hb
            rw [eisa] at h
            have h : RS (enX X none) W G0 H0 tch σ D (endS i (rs (ρ'.set i (some (.dat (.exc e.c e.ns e.fs)))))) := h
            have dE : Den (enX X (some (a, CA, dd))) G' (.exc e.c e.ns e.fs) (.ref a) := ⟨a, CA, dd, fs, rfl, rfl, x1, x4, x5, Dens.pin (E := enX X none) (E' := enX X (some (a, CA, dd))) rfl rfl rfl _ _ x6⟩
            refine ⟨CA, dd, x2, x3, _, G', gr, (Rep.pin (E := enX X none) (E' := enX X (some (a, CA, dd))) rfl rfl rfl r').setD dE, ?_⟩
            have offs : ∀ {σ3 : L2.St}, Off tch (σ'.set i (some (.ref a))) σ3 → Off tch σ (σ3.set i none) := fun o => by
              have i1 : Off tch σ' (σ'.set i (some (.ref a))) := Off.set.mono fun j hj => by rw [List.mem_singleton.mp hj]; exact hi
              have i2 : ∀ {τ : L2.St}, Off tch τ (τ.set i none) := Off.set.mono fun j hj => by rw [List.mem_singleton.mp hj]; exact hi
              exact ((off.same i1).same o).same i2
            cases er : rs (ρ'.set i (some (.dat (.exc e.c e.ns e.fs)))) with
            | none => rw [er] at h; exact h.elim
            | some y =>
              rw [er] at h
              cases y with
              | nx ρ3 =>
                intro σ3 G3 H3 a3 b3 o3
                have h : RS (enX X none) W G0 H0 tch σ D (if noExcR (ρ3.set i none) = true then some (.nx (ρ3.set i none)) else none) := h
                split at h
                · rename_i hn
                  exact h _ G3 H3 a3 (Rep.unpin (E := enX X (some (a, CA, dd))) rfl hn b3.setN) (offs o3)
                · exact h.elim
              | bk ρ3 =>
                intro σ3 G3 H3 a3 b3 o3
                have h : RS (enX X none) W G0 H0 tch σ D (if noExcR (ρ3.set i none) = true then some (.bk (ρ3.set i none)) else none) := h
                split at h
                · rename_i hn
                  exact h _ G3 H3 a3 (Rep.unpin (E := enX X (some (a, CA, dd))) rfl hn b3.setN) (offs o3)
                · exact h.elim
              | ct ρ3 =>
                intro σ3 G3 H3 a3 b3 o3
                have h : RS (enX X none) W G0 H0 tch σ D (if noExcR (ρ3.set i none) = true then some (.ct (ρ3.set i none)) else none) := h
                split at h
                · rename_i hn
                  exact h _ G3 H3 a3 (Rep.unpin (E := enX X (some (a, CA, dd))) rfl hn b3.setN) (offs o3)
                · exact h.elim
              | rt rv =>
                intro v G3 H3 a3 d3 nb
                have h : RS (enX X none) W G0 H0 tch σ D (if noExcV rv = true then some (.rt rv) else none) := h
                split at h
                · rename_i hn
                  exact h v G3 H3 a3 (DenR.unpin (E := enX X (some (a, CA, dd))) rfl hn d3) nb
                · exact h.elim
              | er e' ρ3 => exact h.elim
          · subst hb
            rw [eisa] at h
            exact h cls d σ' G' H' gr r' off ⟨CA, dd, fs, x1, x2, x3, x4, x5, x6⟩
end
end DE

set_option Elab.async false
set_option linter.all false
set_option maxRecDepth 100000
set_option maxHeartbeats 8000000
/-! DE8g: the recursion over statements. -/
namespace DE
open PySem PySem.Spec PyProof.Rows L2
theorem ps_fn {X : Cx} {E : En} {W : WX} {G0 H0 : Hp} {tch : List Nat} {st : Stmt} {f g : Rho → SR} (h : PS X st (cS E W G0 H0 tch f)) (q : ∀ ρ, g ρ = f ρ) : PS X st (cS E W G0 H0 tch g) := by
  have : g = f := funext q
  rw [this]
  exact h
theorem pss_fn {X : Cx} {E : En} {W : WX} {G0 H0 : Hp} {tch : List Nat} {st : List Stmt} {f g : Rho → SR} (h : PSs X st (cS E W G0 H0 tch f)) (q : ∀ ρ, g ρ = f ρ) : PSs X st (cS E W G0 H0 tch g) := by
  have : g = f := funext q
  rw [this]
  exact h
def SSt (s : IS) : Prop := ∀ (C : Cfg) (hh : Bool) (X : Cx) (px : Option (Addr × Addr × Addr)) (W : WX) (k : Nat) (G0 H0 : Hp) (tch : List Nat), Cs X px C W k hh → (hh = false → Mks X C k) → ∀ st, (∀ i ∈ tchS s, i ∈ tch) → ckS X.N C hh X.env.scope s st = true → PS X st (cS (enX X px) W G0 H0 tch (runS C s))
def SBl (b : IB) : Prop := ∀ (C : Cfg) (hh : Bool) (X : Cx) (px : Option (Addr × Addr × Addr)) (W : WX) (k : Nat) (G0 H0 : Hp) (tch : List Nat), Cs X px C W k hh → (hh = false → Mks X C k) → ∀ st, (∀ i ∈ tchB b, i ∈ tch) → ckB X.N C hh X.env.scope b st = true → PSs X st (cS (enX X px) W G0 H0 tch (runB C b))
/-- name = [..] -/
theorem s_asgLc {X : Cx} {px : Option (Addr × Addr × Addr)} {C : Cfg} {W : WX} {k : Nat} {G0 H0 : Hp} {tch : List Nat} (c : Cs X px C W k false) {i : Nat} {y : Str} {py pos spos : Pos} {elt : IE} {g : Tg} {src : ISrc} {ifs : IO} {el tg it : Expr} {fs : List Expr} {scope : Scope}
    (hi : i ∈ tch) (ht : tgB X.N X.env.scope i y = true) (hsw : swapB X.env.scope y py (.ListComp el [⟨tg, it, fs, 0⟩] scope pos) = true) (hck : ckE X.N C false X.env.scope (.lc elt g src ifs) (.ListComp el [⟨tg, it, fs, 0⟩] scope pos) = true) :
    PS X (.Assign [.Name y py] (.ListComp el [⟨tg, it, fs, 0⟩] scope pos) spos) (cS (enX X px) W G0 H0 tch (runS C (.asg i (.lc elt g src ifs)))) := by
  obtain ⟨a1, a2⟩ := tgB_of ht
  have hsw : (decide (X.env.scope.names.lookup y = some .local) && (py.line == pos.line) && !(scope.names.any fun (n, k) => n == y && (k == .local || k == .cell))) = true := hsw
  simp only [Bool.and_eq_true, decide_eq_true_eq, Bool.not_eq_true'] at hsw
  obtain ⟨⟨s1, s2⟩, s3⟩ := hsw
  simp only [ckE, Bool.and_eq_true, Bool.not_eq_true', decide_eq_true_eq] at hck
  obtain ⟨⟨⟨⟨⟨⟨_, _⟩, h1⟩, h2⟩, h3⟩, h4⟩, h5⟩ := hck
  have hs := sS C false src X px W k c.toCc it tg h1
  obtain ⟨hcalm, _, _⟩ := c.calm
  have ht' : ∀ (s : Shared) (H : Hp) (C' : Addr) (cl : List (Str × Addr)) (fp : List Addr), PTs (X.blk s H scope (compEnvC scope cl C' X.env) fp) fs (cT (enX X px) WF (evIf C ifs)) := fun s H C' cl fp => (sO C false ifs _ px WF k (cc_blk c.toCc (s := s) (H := H) (scope := scope) (C' := C') (cl := cl) (fp := fp))).2 fs h4
  have he' : ∀ (s : Shared) (H : Hp) (C' : Addr) (cl : List (Str × Addr)) (fp : List Addr), PE (X.blk s H scope (compEnvC scope cl C' X.env) fp) el (cE (enX X px) WF (evE C elt)) := fun s H C' cl fp => (sE C false elt).1 _ px WF k (cc_blk c.toCc (s := s) (H := H) (scope := scope) (C' := C') (cl := cl) (fp := fp)) el h5
  have main := ps_setLc (spos := spos) hcalm c.nd a1 s1 (sw_true (gs := [⟨tg, it, fs, 0⟩]) (l := spos.line) c.kd s1 s2 s3) hs.1 (blkOk_by h2) (fun s H C' cl fp => pg_of (X := X.blk s H scope (compEnvC scope cl C' X.env) fp) (E := enX X px) c.nd hcalm setS_blk rfl h3) ht' he' hs.2
  refine ps_imp main fun D σ H h => ?_
  have h2' : cS (enX X px) W G0 H0 tch (fun ρ => liftS ((bindR (evSrc C src ρ) fun ds => bindR (optR (szV ds)) fun ds => bindR (compL (turnL g (evIf C ifs) (evE C elt) ρ) ds) fun rs => some (.ok (RV.fr (.l rs)))) : EvR) ρ fun r => match r with
    | .dat d => some (.nx (ρ.set i (some (.dat d))))
    | .fr o => some (.nx (ρ.set i (some (.own o))))
    | .br _ => none) D σ H := by
    obtain ⟨ρ, G, g0, r, h⟩ := h
    refine ⟨ρ, G, g0, r, ?_⟩
    rw [runS, evE] at h
    exact h
  have := set_go (f := fun ρ => bindR (evSrc C src ρ) fun ds => bindR (optR (szV ds)) fun ds => bindR (compL (turnL g (evIf C ifs) (evE C elt) ρ) ds) fun rs => some (.ok (.fr (.l rs)))) D σ H h2' hi
  exact c_lc (pos := pos) c.toCc hs.1 h3 ht' he' σ H _ this
section
theorem f_src {C : Cfg} {hh : Bool} {X : Cx} {px : Option (Addr × Addr × Addr)} {W : WX} {k : Nat} {G0 H0 : Hp} {js : List Nat} (c : Cc X px C W k hh) {tg e : Expr} : ∀ {src : ISrc}, ckSrc X.N C hh X.env.scope src e = true → PI X tg e (wF (enX X px) W G0 H0 js (evFor C src js)) ∧ ∀ x, foldedSetIterable e X.env x = pure x
  | .it a, h => by
    have h' : ckE X.N C hh X.env.scope a e = true := by simpa [ckSrc] using h
    refine ⟨?_, fold_of h'⟩
    by_cases hv : ∃ j, a = .var j
    · obtain ⟨j, rfl⟩ := hv
      cases e with
      | Name x p => exact f_var (show nmB X.N X.env.scope j x = true from h')
      | _ => simp [ckE] at h'
    · exact f_it (fun j z => hv ⟨j, z⟩) ((sE C hh a).1 X px W k c e h')
  | .range (.cons a .nil), h => by
    cases e with
    | Call f es ks pos =>
      cases f with
      | Name x p =>
        match es, ks, h with
        | [e], [], h =>
          simp only [ckSrc, Bool.and_eq_true, decide_eq_true_eq] at h
          obtain ⟨⟨h1, h2⟩, h3⟩ := h
          subst h2
          refine ⟨f_range ?_, fun _ => rfl⟩
          have e1 : evSrc C (.range (.cons a .nil)) = fun ρ => bindR (evA C (.cons a .nil) ρ) fun rs => optR (rangeV rs) := funext fun ρ => by rw [evSrc]
          rw [e1]
          exact i_range1 (gl_of rfl h1).1 (c.tab.blt _ (by decide +kernel)) (star_cons (ck_star h3)) ((sA C hh (.cons a .nil)).1 X px W k c [e] (by simp only [ckA, Bool.and_eq_true]; exact ⟨h3, trivial⟩)) fun ρ rs e => evA_len e
        | [_], _ :: _, h => simp [ckSrc] at h
        | [], _, h => simp [ckSrc] at h
        | _ :: _ :: _, _, h => simp [ckSrc] at h
      | _ => simp [ckSrc] at h
    | _ => simp [ckSrc] at h
  | .range (.cons a (.cons b .nil)), h => by
    cases e with
    | Call f es ks pos =>
      cases f with
      | Name x p =>
        match es, ks, h with
        | [e, e2], [], h =>
          simp only [ckSrc, Bool.and_eq_true, decide_eq_true_eq] at h
          obtain ⟨⟨⟨h1, h2⟩, h3⟩, h4⟩ := h
          subst h2
          refine ⟨f_range ?_, fun _ => rfl⟩
          have e1 : evSrc C (.range (.cons a (.cons b .nil))) = fun ρ => bindR (evA C (.cons a (.cons b .nil)) ρ) fun rs => optR (rangeV rs) := funext fun ρ => by rw [evSrc]
          rw [e1]
          exact i_range2 (gl_of rfl h1).1 (c.tab.blt _ (by decide +kernel)) (by rw [star_cons (ck_star h3), star_cons (ck_star h4)]; rfl) (star_cons (ck_star h4)) ((sA C hh (.cons a (.cons b .nil))).1 X px W k c [e, e2] (by simp only [ckA, Bool.and_eq_true]; exact ⟨h3, h4, trivial⟩)) fun ρ rs e => evA_len e
        | [_, _], _ :: _, h => simp [ckSrc] at h
        | [], _, h => simp [ckSrc] at h
        | [_], _, h => simp [ckSrc] at h
        | _ :: _ :: _ :: _, _, h => simp [ckSrc] at h
      | _ => simp [ckSrc] at h
    | _ => simp [ckSrc] at h
  | .range .nil, h => by cases e <;> simp [ckSrc] at h
  | .range (.cons _ (.cons _ (.cons _ _))), h => by cases e <;> simp [ckSrc] at h
mutual
theorem sSt : ∀ s : IS, SSt s
  | .asg i e => fun C hh X px W k G0 H0 tch c M st ht h => by
    rw [ckS] at h
    cases hv : vName st with
    | none => rw [hv] at h; cases h
    | some t =>
      obtain ⟨x, p, v⟩ := t
      rw [hv] at h
      obtain ⟨pos, rfl⟩ := vName_eq hv
      simp only [Bool.and_eq_true, Bool.or_eq_true] at h
      obtain ⟨⟨h1, h2⟩, h3⟩ := h
      have hi : i ∈ tch := ht i (List.mem_singleton_self i)
      cases hn : notComp v with
      | true => exact ps_fn (s_asg c hi h1 ((sE C hh e).1 X px W k c.toCc v h2) hn) fun ρ => by rw [runS] <;> rfl
      | false =>
        rw [hn] at h3
        have h3 : swapB X.env.scope x p v = true := by simpa using h3
        cases v with
        | ListComp el gens scope pos2 =>
          cases e with
          | lc elt g src ifs =>
            match gens, h2, h3 with
            | [⟨tg, it, fs, asy⟩], h2, h3 =>
              have h2c := h2
              simp only [ckE, Bool.and_eq_true, Bool.not_eq_true', decide_eq_true_eq] at h2c
              obtain ⟨⟨⟨⟨⟨⟨ha, h0⟩, _⟩, _⟩, _⟩, _⟩, _⟩ := h2c
              subst ha
              subst h0
              exact s_asgLc c hi h1 h3 h2
            | [], h2, _ => simp [ckE] at h2
            | _ :: _ :: _, h2, _ => simp [ckE] at h2
          | _ => simp [ckE] at h2
        | _ => simp [swapB] at h3
  | .asgT is e => fun C hh X px W k G0 H0 tch c M st ht h => by
    rw [ckS] at h
    cases hv : vTup st with
    | none => rw [hv] at h; cases h
    | some t =>
      obtain ⟨es, v⟩ := t
      rw [hv] at h
      obtain ⟨a, b, pos, rfl⟩ := vTup_eq hv
      simp only [Bool.and_eq_true, Bool.not_eq_true'] at h
      obtain ⟨⟨⟨⟨h0, h1⟩, h2⟩, h3⟩, h4⟩ := h
      subst h0
      exact ps_fn (s_asgT c c.calm.1 (fun i hi => ht i hi) h1 ((sE C false e).1 X px W k c.toCc v h2) h3 (fun a b d z => by rw [z] at h4; cases h4)) fun ρ => by rw [runS] <;> rfl
  | .setL i kx e => fun C hh X px W k G0 H0 tch c M st ht h => by
    rw [ckS] at h
    cases hv : vSub st with
    | none => rw [hv] at h; cases h
    | some t =>
      obtain ⟨x, y, v⟩ := t
      rw [hv] at h
      obtain ⟨a, b, pos, rfl⟩ := vSub_eq hv
      simp only [Bool.and_eq_true] at h
      obtain ⟨⟨⟨h1, h2⟩, h3⟩, h4⟩ := h
      exact ps_fn (s_setL c (ht i (List.mem_singleton_self i)) h1 h2 ((sE C hh kx).1 X px W k c.toCc y h2) ((sE C hh e).1 X px W k c.toCc v h3) h4) fun ρ => by rw [runS] <;> rfl
  | .setD i kx e => fun C hh X px W k G0 H0 tch c M st ht h => by
    rw [ckS] at h
    cases hv : vSub st with
    | none => rw [hv] at h; cases h
    | some t =>
      obtain ⟨x, y, v⟩ := t
      rw [hv] at h
      obtain ⟨a, b, pos, rfl⟩ := vSub_eq hv
      simp only [Bool.and_eq_true] at h
      obtain ⟨⟨⟨h1, h2⟩, h3⟩, h4⟩ := h
      exact ps_fn (s_setD c (ht i (List.mem_singleton_self i)) h1 ((sE C hh kx).1 X px W k c.toCc y h2) ((sE C hh e).1 X px W k c.toCc v h3) h4) fun ρ => by rw [runS] <;> rfl
  | .app i e => fun C hh X px W k G0 H0 tch c M st ht h => by
    rw [ckS] at h
    cases hv : vApp st with
    | none => rw [hv] at h; cases h
    | some t =>
      obtain ⟨x, m, ap, v, cp⟩ := t
      rw [hv] at h
      obtain ⟨a, pos, rfl⟩ := vApp_eq hv
      simp only [Bool.and_eq_true, decide_eq_true_eq] at h
      obtain ⟨⟨⟨h1, h2⟩, h3⟩, h4⟩ := h
      subst h2
      exact ps_fn (s_app c (ht i (List.mem_singleton_self i)) h1 h3 h4 ((sE C hh e).1 X px W k c.toCc v h4)) fun ρ => by rw [runS] <;> rfl
  | .expr e => fun C hh X px W k G0 H0 tch c M st ht h => by
    rw [ckS] at h
    cases hv : vExpr st with
    | none => rw [hv] at h; cases h
    | some v =>
      rw [hv] at h
      obtain ⟨pos, rfl⟩ := vExpr_eq hv
      simp only [Bool.and_eq_true] at h
      exact ps_fn (s_expr ((sE C hh e).1 X px W k c.toCc v h.1) h.2) fun ρ => by rw [runS]
  | .iff cx a b => fun C hh X px W k G0 H0 tch c M st ht h => by
    rw [ckS] at h
    cases hv : vIf st with
    | none => rw [hv] at h; cases h
    | some t =>
      obtain ⟨x, sa, sb⟩ := t
      rw [hv] at h
      obtain ⟨pos, rfl⟩ := vIf_eq hv
      simp only [Bool.and_eq_true] at h
      obtain ⟨⟨h1, h2⟩, h3⟩ := h
      exact ps_fn (s_iff ((sE C hh cx).2 X px W k c.toCc x h1) (sBl a C hh X px W k G0 H0 tch c M sa (fun i hi => ht i (List.mem_append_left _ hi)) h2) (sBl b C hh X px W k G0 H0 tch c M sb (fun i hi => ht i (List.mem_append_right _ hi)) h3)) fun ρ => by rw [runS] <;> rfl
  | .forr g src b => fun C hh X px W k G0 H0 tch c M st ht h => by
    rw [ckS] at h
    cases hv : vFor st with
    | none => rw [hv] at h; cases h
    | some t =>
      obtain ⟨tg, it, s⟩ := t
      rw [hv] at h
      obtain ⟨pos, rfl⟩ := vFor_eq hv
      simp only [Bool.and_eq_true, Bool.not_eq_true'] at h
      obtain ⟨⟨⟨h0, h1⟩, h2⟩, h3⟩ := h
      subst h0
      obtain ⟨f1, f2⟩ := f_src (G0 := G0) (H0 := H0) (js := g.slots ++ tchB b) c.toCc (tg := tg) h2
      exact ps_fn (s_for c c.calm.1 (js := g.slots ++ tchB b) (rb := runB C b) (fun i hi => ht i hi) (fun i hi => List.mem_append_left _ hi) (fun ρ => (keepsB b C ρ).mono fun i hi => List.mem_append_right _ hi) f1 h1
        (fun G1 => sBl b C false X px W k G1 H0 (g.slots ++ tchB b) c M s (fun i hi => List.mem_append_right _ hi) h3) f2) fun ρ => by rw [runS] <;> rfl
  | .whil cx b => fun C hh X px W k G0 H0 tch c M st ht h => by
    rw [ckS] at h
    cases hv : vWhile st with
    | none => rw [hv] at h; cases h
    | some t =>
      obtain ⟨x, s⟩ := t
      rw [hv] at h
      obtain ⟨pos, rfl⟩ := vWhile_eq hv
      simp only [Bool.and_eq_true] at h
      exact ps_fn (s_while (n := C.fuel) c ((sE C hh cx).2 X px W k c.toCc x h.1) (sBl b C hh X px W k G0 H0 tch c M s (fun i hi => ht i hi) h.2)) fun ρ => by rw [runS]
  | .ret e => fun C hh X px W k G0 H0 tch c M st ht h => by
    rw [ckS] at h
    cases hv : vRet st with
    | none => rw [hv] at h; cases h
    | some t =>
      rw [hv] at h
      obtain ⟨pos, rfl⟩ := vRet_eq hv
      cases t with
      | none => cases h
      | some v => exact ps_fn (s_ret ((sE C hh e).1 X px W k c.toCc v h)) fun ρ => by rw [runS] <;> rfl
  | .retV i => fun C hh X px W k G0 H0 tch c M st ht h => by
    rw [ckS] at h
    cases hv : vRetN st with
    | none => rw [hv] at h; cases h
    | some x =>
      rw [hv] at h
      obtain ⟨p, pos, rfl⟩ := vRetN_eq hv
      exact ps_fn (s_retV h) fun ρ => by rw [runS] <;> rfl
  | .retN => fun C hh X px W k G0 H0 tch c M st ht h => by
    rw [ckS] at h
    cases hv : vRet st with
    | none => rw [hv] at h; cases h
    | some t =>
      rw [hv] at h
      obtain ⟨pos, rfl⟩ := vRet_eq hv
      cases t with
      | none => exact ps_fn s_retN fun ρ => by rw [runS]
      | some v => cases h
  | .rais cn as => fun C hh X px W k G0 H0 tch c M st ht h => by
    rw [ckS] at h
    cases hv : vRais st with
    | none => rw [hv] at h; cases h
    | some t =>
      obtain ⟨x, es⟩ := t
      rw [hv] at h
      obtain ⟨a, b, pos, rfl⟩ := vRais_eq hv
      simp only [Bool.and_eq_true, Bool.not_eq_true', decide_eq_true_eq] at h
      obtain ⟨⟨⟨h0, h1⟩, h2⟩, h3⟩ := h
      subst h0
      subst h2
      obtain ⟨g1, g2, _⟩ := gl_of rfl h1
      cases hC : C.mkE cn with
      | none => exact ps_fn s_never fun ρ => by rw [runS, hC]
      | some f =>
        cases es with
        | nil =>
          cases as with
          | nil => exact ps_fn (s_rais0 c c.calm.1 c.calm.2.2 (M rfl) hC g1 g2) fun ρ => by rw [runS, hC, evA] <;> rfl
          | cons a r => simp [ckA] at h3
        | cons e es =>
          cases as with
          | nil => simp [ckA] at h3
          | cons a2 r =>
            have h3' := h3
            rw [ckA, Bool.and_eq_true] at h3'
            exact ps_fn (s_rais c c.calm.1 c.calm.2.2 (M rfl) hC g1 g2 ((sA C false (.cons a2 r)).1 X px W k c.toCc (e :: es) h3) (star_cons (ck_star h3'.1)) (fun pos => plain_args h3'.2)) fun ρ => by rw [runS, hC]
  | .tri b cn i s => fun C hh X px W k G0 H0 tch c M st ht h => by
    rw [ckS] at h
    cases hv : vTry st with
    | none => rw [hv] at h; cases h
    | some t =>
      obtain ⟨body, x, n, s0, r⟩ := t
      rw [hv] at h
      obtain ⟨p1, p2, pos, rfl⟩ := vTry_eq hv
      simp only [Bool.and_eq_true, Bool.not_eq_true', decide_eq_true_eq] at h
      obtain ⟨⟨⟨⟨⟨⟨⟨h0, h1⟩, h2⟩, h3⟩, h4⟩, h5⟩, h6⟩, h7⟩ := h
      subst h0
      subst h4
      obtain ⟨g1, g2, _⟩ := gl_of rfl h3
      obtain ⟨_, hp, _⟩ := c.calm
      subst hp
      exact ps_fn (s_tri c (rb := runB C b) (rs := runB C.hot s) (ht i List.mem_cons_self) h1 g1 g2 h5 h6
        (fun W' pn xe c' => sBl b C false (X.tr pn xe) none W' k G0 H0 tch c' (fun _ => ⟨(M rfl).of⟩) body (fun j hj => ht j (List.mem_cons_of_mem _ (List.mem_append_left _ hj))) h2)
        (fun a CA dd oe pn c' => sBl s C.hot true (X.suite a ((a, oe) :: pn)) (some (a, CA, dd)) WF k G0 H0 tch c' (fun z => nomatch z) (s0 :: r) (fun j hj => ht j (List.mem_cons_of_mem _ (List.mem_append_right _ hj))) h7)) fun ρ => by rw [runS] <;> rfl
  | .brk => fun C hh X px W k G0 H0 tch c M st ht h => by
    rw [ckS] at h
    obtain ⟨pos, rfl⟩ := vBrk_eq h
    exact ps_fn s_brk fun ρ => by rw [runS]
  | .cnt => fun C hh X px W k G0 H0 tch c M st ht h => by
    rw [ckS] at h
    obtain ⟨pos, rfl⟩ := vCnt_eq h
    exact ps_fn s_cnt fun ρ => by rw [runS]
  | .pas => fun C hh X px W k G0 H0 tch c M st ht h => by
    rw [ckS] at h
    obtain ⟨pos, rfl⟩ := vPas_eq h
    exact ps_fn s_pas fun ρ => by rw [runS]
theorem sBl : ∀ b : IB, SBl b
  | .nil => fun C hh X px W k G0 H0 tch c M st ht h => by
    unfold ckB at h
    cases st with
    | nil => exact pss_fn ss_nil fun ρ => by rw [runB]
    | cons s r => cases h
  | .cons s r => fun C hh X px W k G0 H0 tch c M st ht h => by
    unfold ckB at h
    cases st with
    | nil => cases h
    | cons t ts =>
      simp only [Bool.and_eq_true] at h
      exact pss_fn (ss_cons (sSt s C hh X px W k G0 H0 tch c M t (fun i hi => ht i (List.mem_append_left _ hi)) h.1) (sBl r C hh X px W k G0 H0 tch c M ts (fun i hi => ht i (List.mem_append_right _ hi)) h.2)) fun ρ => by rw [runB] <;> rfl
  | .frz i r => fun C hh X px W k G0 H0 tch c M st ht h0 => by
    have h : ckB X.N C hh X.env.scope r st = true := by
      unfold ckB at h0
      exact h0
    exact pss_fn (ss_frz (sBl r C hh X px W k G0 H0 tch c M st (fun j hj => ht j (List.mem_cons_of_mem _ hj)) h)) fun ρ => by rw [runB] <;> rfl
end
end
end DE

set_option Elab.async false
set_option linter.all false
set_option maxRecDepth 100000
set_option maxHeartbeats 8000000
/-! DE9: defs by their bodies. -/
namespace DE
open PySem PySem.Spec PyProof.Rows L2
theorem FnFact.mono {P : Program} {w : World} {K : PySem.W.Frag} {mg : Str → Option Value} {base : Heap} {fn : Fn} {j k : Nat} (F : FnFact P w K mg base fn j) (h : j ≤ k) : FnFact P w K mg base fn k := by
  obtain ⟨f, fd, ps, h1, h2, h3, h4⟩ := F.ex
  exact ⟨f, fd, ps, h1, h2, h3, h4.mono h⟩
theorem FnHFact.mono {P : Program} {w : World} {K : PySem.W.Frag} {mg : Str → Option Value} {base : Heap} {fn : Fn} {j k : Nat} (F : FnHFact P w K mg base fn j) (h : j ≤ k) : FnHFact P w K mg base fn k := by
  obtain ⟨f, fd, ps, h1, h2, h3, h4⟩ := F.ex
  exact ⟨f, fd, ps, h1, h2, h3, ⟨fun A outer s H args us vs Q p C dd hr => h4.run A outer s H args us vs Q p C dd (hr.mono h), h4.len⟩⟩
/-- what all bodies of a text lean on -/
structure Txt (P : Program) (w : World) (K : PySem.W.Frag) (mg : Str → Option Value) (base : Heap) (C : Cfg) (k : Nat) : Prop where
  tab : Tab ⟨K, mg, none⟩ C
  T : ∀ (j : Nat) (fn : Fn), C.T[j]? = some fn → FnFact P w K mg base fn k
  H : ∀ (j : Nat) (fn : Fn), C.H[j]? = some fn → FnHFact P w K mg base fn k
  M : ∀ c f, C.mkE c = some f → ∃ (fields : List Str) (word : Str) (j : Nat), f = mkEr c fields word ∧ fields.length ≤ 100 ∧ j + 1 ≤ k ∧ ErrC P w K mg base c fields word j
theorem rep_start {E : En} {G H : Hp} {N ps : List Str} {vs : List V} {ds : List D} (hl : ds.length = ps.length) (hN : ps.length ≤ N.length) (dd : Dens E G ds vs) : Rep E H G H (L2.start N vs) (ds.map (fun d => some (.dat d)) ++ List.replicate (N.length - ps.length) none) := by
  have hv : vs.length = ds.length := dd.length
  refine ⟨?_, fun i lv e => ?_, fun i o l e => ?_, fun i j o o' v _ e => ?_⟩
  · unfold L2.start
    rw [List.length_append, List.length_append, List.length_map, List.length_map, List.length_replicate, List.length_replicate]
    omega
  · have key : ∃ d, lv = .dat d ∧ ds[i]? = some d := by
      by_cases hi : i < ds.length
      · rw [List.getElem?_append_left (by simpa using hi), List.getElem?_map] at e
        cases q : ds[i]? with
        | none => rw [q] at e; cases e
        | some d => rw [q] at e; cases e; exact ⟨d, rfl, rfl⟩
      · rw [List.getElem?_append_right (by simpa using hi), List.getElem?_replicate] at e
        split at e <;> cases e
    obtain ⟨d, rfl, ed⟩ := key
    obtain ⟨v, e1, e2⟩ := dd.get ed
    refine ⟨v, ?_, e2⟩
    have hi : i < vs.length := by
      have := (List.getElem?_eq_some_iff.mp e1).1
      exact this
    unfold L2.start
    rw [List.getElem?_append_left (by simpa using hi), List.getElem?_map, e1]
    rfl
  · exfalso
    by_cases hi : i < ds.length
    · rw [List.getElem?_append_left (by simpa using hi), List.getElem?_map] at e
      cases q : ds[i]? with
      | none => rw [q] at e; cases e
      | some d => rw [q] at e; cases e
    · rw [List.getElem?_append_right (by simpa using hi), List.getElem?_replicate] at e
      split at e <;> cases e
  · exfalso
    by_cases hi : i < ds.length
    · rw [List.getElem?_append_left (by simpa using hi), List.getElem?_map] at e
      cases q : ds[i]? with
      | none => rw [q] at e; cases e
      | some d => rw [q] at e; cases e
    · rw [List.getElem?_append_right (by simpa using hi), List.getElem?_replicate] at e
      split at e <;> cases e
section
variable {P : Program} {w : World} {K : PySem.W.Frag} {mg : Str → Option Value} {base : Heap} {f : Addr} {fname name qual : Str} {params : Arguments} {body : List Stmt} {scope : Scope} {dV kV doc pm cdv ct oc : Value} {an od : Option Addr} {osl : Array (Option Value)} {C : Cfg} {k n : Nat} {N ps : List Str} {b : IB}
/-- the end of a body by data -/
theorem body_rs {E : En} {W : WX} {G H : Hp} {σ : L2.St} {Q : VK} {Ee : XK} {ds : List D} {tch : List Nat} (hW : ∀ cls d σ H', Ee cls d H' → W cls d σ H')
    (q : QA E (fun cls d _ H' => Ee cls d H') [] G H (fun r G' H' => isBr r = false ∧ ∀ v, DenR E G' H' H r v → Q v H') ((mkFn C fname n N.length b).m ds)) :
    RS E W G H tch σ { nx := fun _ H' => Q .non H', rt := Q } (runB C b (ds.map (fun d => some (.dat d)) ++ List.replicate (N.length - n) none)) := by
  unfold mkFn at q
  dsimp only at q
  cases e : runB C b (ds.map (fun d => some (.dat d)) ++ List.replicate (N.length - n) none) with
  | none => rw [e] at q; exact q.elim
  | some y =>
    rw [e] at q
    cases y with
    | nx ρ' => exact fun σ' G' H' a b o => (q G' H' a).2 _ rfl
    | bk ρ' => exact q.elim
    | ct ρ' => exact q.elim
    | rt r => exact fun v G' H' a d nb => (q G' H' a).2 v d
    | er e ρ' => exact fun cls d σ' G' H' a b o dx => hW _ _ _ _ (q cls d G' H' a dx)
theorem fn_ok (lk : K.lookup f = some ⟨oc, od, .func (PySem.W.fnOf name qual params body scope dV kV doc pm an cdv ct), osl⟩) (hcd : PySem.W.codeIn K cdv qual = true) (S : FnScope N ps scope) (hn : ps.length = n) (hck : ckB N C false scope b body = true) (T : Txt P w K mg base C k) : FnOk P w K mg base (L2N.CX P w) (k + 1) f (PySem.W.fnOf name qual params body scope dV kV doc pm an cdv ct) ps (spM ⟨K, mg, none⟩ (mkFn C fname n N.length b)) := by
  have hpl : ps.length ≤ N.length := by have := congrArg List.length S.pre; rw [List.length_take] at this; omega
  refine fn_of lk hcd S (fun vs H Q E h => ?_) fun A outer s H vs Q E hr h => ?_
  · obtain ⟨ds, G, _, h2, h3, _⟩ := h
    rw [h2.length, h3]
    exact hn.symm
  · obtain ⟨ds, G, i, dd, hl, q⟩ := h
    have hl : ds.length = n := hl
    let X := cxOf (L2N.CX P w) P w K mg base N qual scope f cdv A outer s H E
    have hX : L2N.Takes X (fun cls d _ H' => E cls d H') := takes_cx (k := 0)
    have c : Cs X none C (fun cls d _ H' => E cls d H') k false := ⟨⟨S.nd, hX, ⟨T.tab.isa, T.tab.fld, T.tab.blt⟩, .calm rfl rfl hr T.T⟩, S.kind, fun x hx => ⟨loc_of rfl hx, .inl rfl⟩, passes_of (X := X) (K := fun e s'' => L2N.CX P w outer H s E e s'') (E₁ := fun e s'' => L2N.CX P w outer H s E e s'') rfl, rfl, rfl, fun _ => T.H⟩
    refine ⟨_, sBl b C false X none _ k G H (tchB b) c (fun _ => ⟨T.M⟩) body (fun i h => h) hck, ?_⟩
    refine ⟨_, G, Gr.refl i, rep_start (N := N) (ps := ps) (by omega) hpl dd, ?_⟩
    rw [hn]
    exact body_rs (fun _ _ _ _ h => h) q
theorem fn_fact (lk : K.lookup f = some ⟨oc, od, .func (PySem.W.fnOf name qual params body scope dV kV doc pm an cdv ct), osl⟩) (hcd : PySem.W.codeIn K cdv qual = true) (S : FnScope N ps scope) (hm : mg fname = some (.ref f)) (hk : PySem.W.keepIn K (.ref f) = true)
    (hb : Binds K (PySem.W.fnOf name qual params body scope dV kV doc pm an cdv ct) ps []) (hn : ps.length = n) (hck : ckB N C false scope b body = true) (T : Txt P w K mg base C k) : FnFact P w K mg base (mkFn C fname n N.length b) (k + 1) :=
  ⟨f, _, ps, hm, hk, hb, fn_ok lk hcd S hn hck T⟩
theorem fnH_fact (lk : K.lookup f = some ⟨oc, od, .func (PySem.W.fnOf name qual params body scope dV kV doc pm an cdv ct), osl⟩) (hcd : PySem.W.codeIn K cdv qual = true) (S : FnScope N ps scope) (hm : mg fname = some (.ref f)) (hk : PySem.W.keepIn K (.ref f) = true)
    (hb : Binds K (PySem.W.fnOf name qual params body scope dV kV doc pm an cdv ct) ps []) (hn : ps.length = n) (hck : ckB N C.hot true scope b body = true) (T : Txt P w K mg base C k) : FnHFact P w K mg base (mkFn C.hot fname n N.length b) (k + 1) := by
  have hpl : ps.length ≤ N.length := by have := congrArg List.length S.pre; rw [List.length_take] at this; omega
  refine ⟨f, _, ps, hm, hk, hb, ⟨fun A outer s H args us vs Q p CA dd hr hot hpin hC hd e0 hbt r hus h => ?_, hn⟩⟩
  obtain ⟨ds, G, i, dn, hl, q⟩ := h
  have hl : ds.length = n := hl
  have hvl : vs.length = ps.length := by rw [r.length]; exact hus
  have KX : K.In s.heap := e0.mod.kin.keeps fun b o e => (e0.bs b o e).1
  have lim : s.heap.NoLimit := e0.mod.nolimit.keeps fun b o e => (e0.bs b o e).1
  have hkind : ∀ y ∈ ps.zip us, scope.names.lookup y.1 = some .local ∨ (scope.names.lookup y.1 = some .cell ∧ ((cellsFrom (s.heap.objs.size + 1) scope.names []).lookup y.1).isSome = true) := fun ⟨n, v⟩ hy => by
    rcases S.par n (List.of_mem_zip hy).1 with q | q
    · exact .inl q
    · exact .inr ⟨q, PySem.W.cellsFrom_some _ _ _ (.inl q)⟩
  refine codeAny_call_function hr.depth (KX _ _ lk) rfl S.co S.gen rfl (PySem.W.codeRec_of KX hcd) (hbt _ _ _ _ ?_)
  refine wpAny_newFunctionEnv_cells S.kind hkind fun env he s1 x => ?_
  subst he
  refine ⟨lim.keeps x.toInCall.keep, codeAny_func ?_⟩
  let X := L2H.cxH (L2N.CX P w) P w K mg base N qual scope f cdv A outer s H (fun _ _ _ => False) p
  have I : Inv X [] (L2.start N vs) H s1 := L2H.inv_startH S hpin e0 hvl r x
  have c : Cs X (some (p.1, CA, dd)) C.hot WF k true := ⟨⟨S.nd, fun u s' x => by
      obtain ⟨_, _, _, _, _, _, _, _, _, _, _, _, _, _, _, _, w⟩ := x
      exact (show False from w).elim, ⟨T.tab.isa, T.tab.fld, T.tab.blt⟩, .hot rfl ⟨p.1, CA, dd, p.2, rfl, List.mem_singleton_self p, ⟨hot.1, hot.2⟩, hC, hd⟩ (hr.deeper _) T.H⟩, S.kind, fun x hx => ⟨loc_of rfl hx, .inl rfl⟩, passes_of (X := X) (K := fun e s'' => L2N.CX P w outer H s (fun _ _ _ => False) e s'') (E₁ := fun e s'' => L2N.CX P w outer H s (fun _ _ _ => False) e s'') rfl, rfl, rfl, fun z => nomatch z⟩
  have ht := sBl b C.hot true X (some (p.1, CA, dd)) WF k G H (tchB b) c (fun z => nomatch z) body (fun i h => h) hck
  have hq : cS (enX X (some (p.1, CA, dd))) WF G H (tchB b) (runB C.hot b) { nx := fun _ H' => Q .non H', rt := Q } (L2.start N vs) H := by
    refine ⟨_, G, Gr.refl i, rep_start (N := N) (ps := ps) (by omega) hpl dn, ?_⟩
    rw [hn]
    exact body_rs (Ee := fun _ _ _ => False) (fun _ _ _ _ h => h) q
  refine wpAny_mono (ht.run [] s1 (L2.start N vs) H _ I hq) (fun fl s' hs => ?_) fun e s' hs => hs
  have fin : ∀ {σ' : L2.St} {H' : Hp} {v : V} {u : Value}, Inv X [] σ' H' s' → RelV v u → Q v H' → CE outer P w H s Q u s' := fun {σ' H' v u} J rv q => ⟨v, H', J.os, J.bare, J.base, J.hok, rv, q⟩
  cases fl with
  | ret u =>
    obtain ⟨v, σ', H', J, rv, q⟩ := hs
    exact fin J rv q
  | next =>
    obtain ⟨σ', H', J, q⟩ := hs
    exact fin (v := V.non) (u := Value.none) J rfl q
  | brk =>
    obtain ⟨_, _, _, q⟩ := hs
    exact False.elim q
  | cont =>
    obtain ⟨_, _, _, q⟩ := hs
    exact False.elim q
end
end DE

set_option Elab.async false
set_option linter.all false
set_option maxRecDepth 100000
set_option maxHeartbeats 8000000
/-! DE10: a law's text: its classes, its defs, its end. -/
namespace DE
open PySem PySem.Spec PyProof.Rows L2
/-! ### tables -/
def initOf : Stmt → Stmt
  | .ClassDef _ _ _ b _ _ _ _ _ _ _ => b.getD 0 (.Pass ⟨0, 0, 0, 0⟩)
  | s => s
theorem all_nil {α : Type} {p : α → Prop} : ∀ x ∈ ([] : List α), p x := fun _ h => nomatch h
theorem all_cons {α : Type} {p : α → Prop} {a : α} {l : List α} (h : p a) (t : ∀ x ∈ l, p x) : ∀ x ∈ a :: l, p x := fun x hx => (List.mem_cons.mp hx).elim (fun e => e ▸ h) (t x)
def cfg (isa : List (Str × Str × Bool)) (mk : List (Str × List Str × Str)) (fld : List (Str × Str)) (fuel : Nat) (T H : List Fn) : Cfg where
  T := T
  H := H
  isa := fun c x => (isa.find? fun p => decide (p.1 = c) && decide (p.2.1 = x)).map (·.2.2)
  mkE := fun c => (mk.find? fun p => decide (p.1 = c)).map fun p => mkEr p.1 p.2.1 p.2.2
  fld := fun c x => fld.any fun p => decide (p.1 = c) && decide (p.2 = x)
  fuel := fuel
section
variable {P : Program} {w : World} {K : PySem.W.Frag} {mg : Str → Option Value} {base : Heap}
/-- what the classes' tables lean on -/
def IsaOk (K : PySem.W.Frag) (mg : Str → Option Value) (p : Str × Str × Bool) : Prop := ∃ A cx cv, mg p.1 = some (.ref A) ∧ EcC K A ∧ ClOk ⟨K, mg, none⟩ p.2.1 cx cv ∧ PySem.W.kitOne K (.ref A) cv = some p.2.2 ∧ PySem.W.exmOne K (.ref A) cv = some p.2.2
def FldOk (K : PySem.W.Frag) (mg : Str → Option Value) (p : Str × Str) : Prop := ∃ A, mg p.1 = some (.ref A) ∧ EcC K A ∧ PySem.W.findIn K (.ref A) p.2 = some none
def MkOk (P : Program) (w : World) (K : PySem.W.Frag) (mg : Str → Option Value) (base : Heap) (p : Str × List Str × Str) : Prop := p.2.1.length ≤ 100 ∧ ErrC P w K mg base p.1 p.2.1 p.2.2 2
theorem find_mem {α : Type} {p : α → Bool} {l : List α} {a : α} (h : l.find? p = some a) : a ∈ l ∧ p a = true := ⟨List.mem_of_find?_eq_some h, List.find?_some h⟩
theorem txt_of {isa : List (Str × Str × Bool)} {mk : List (Str × List Str × Str)} {fld : List (Str × Str)} {fuel : Nat} {T H : List Fn} {k : Nat} (h1 : ∀ p ∈ isa, IsaOk K mg p) (h2 : ∀ p ∈ mk, MkOk P w K mg base p) (h3 : ∀ p ∈ fld, FldOk K mg p) (hb : ∀ x ∈ bNames, mg x = none) (hk : 3 ≤ k)
    (hT : ∀ fn ∈ T, FnFact P w K mg base fn k) (hH : ∀ fn ∈ H, FnHFact P w K mg base fn k) : Txt P w K mg base (cfg isa mk fld fuel T H) k := by
  refine ⟨⟨fun c x b h => ?_, fun c n h => ?_, hb⟩, fun j fn h => hT fn (List.mem_of_getElem? h), fun j fn h => hH fn (List.mem_of_getElem? h), fun c f h => ?_⟩
  · have h : (isa.find? fun p => decide (p.1 = c) && decide (p.2.1 = x)).map (·.2.2) = some b := h
    cases q : isa.find? fun p => decide (p.1 = c) && decide (p.2.1 = x) with
    | none => rw [q] at h; cases h
    | some p =>
      rw [q] at h
      obtain ⟨m1, m2⟩ := find_mem q
      simp only [Bool.and_eq_true, decide_eq_true_eq] at m2
      obtain ⟨e1, e2⟩ := m2
      have e3 : p.2.2 = b := Option.some.inj h
      have z := h1 p m1
      unfold IsaOk at z
      rw [e1, e2, e3] at z
      exact z
  · have h : (fld.any fun p => decide (p.1 = c) && decide (p.2 = n)) = true := h
    obtain ⟨p, m1, m2⟩ := List.any_eq_true.mp h
    simp only [Bool.and_eq_true, decide_eq_true_eq] at m2
    obtain ⟨e1, e2⟩ := m2
    have z := h3 p m1
    unfold FldOk at z
    rw [e1, e2] at z
    exact z
  · have h' : ((mk.find? fun p => decide (p.1 = c)).map fun p => mkEr p.1 p.2.1 p.2.2) = some f := h
    cases q : mk.find? fun p => decide (p.1 = c) with
    | none => rw [q] at h'; cases h'
    | some p =>
      rw [q] at h'
      obtain ⟨m1, m2⟩ := find_mem q
      have e1 : p.1 = c := of_decide_eq_true m2
      subst e1
      have e3 := Option.some.inj h'
      exact ⟨p.2.1, p.2.2, 2, e3.symm, (h2 p m1).1, hk, (h2 p m1).2⟩
theorem isa_own {c x : Str} {b : Bool} {A B : Addr} (h1 : mg c = some (.ref A)) (h2 : EcC K A) (h3 : mg x = some (.ref B)) (h4 : PySem.W.isClsIn K B = true) (h5 : PySem.W.typeIn K (.ref B) = some (.type "type")) (h6 : PySem.W.subIn K (.ref A) (.ref B) = some b) (h7 : PySem.W.subIn K (.ref B) (.type "BaseException") = some true) (h8 : A = B → b = true) : IsaOk K mg (c, x, b) := by
  have e2 : ((PySem.W.clsIn K B).isSome && PySem.W.typeIn K (.ref B) == some (.type "type")) = true := by
    have h4' : (PySem.W.clsIn K B).isSome = true := h4
    rw [h4', h5] <;> rfl
  have kc : PySem.W.kitCls K (.ref A) (.ref B) = some b := by
    show (if ((PySem.W.clsIn K B).isSome && PySem.W.typeIn K (.ref B) == some (.type "type")) = true then PySem.W.subIn K (.ref A) (.ref B) else none) = some b
    rw [if_pos e2]
    exact h6
  refine ⟨A, .ref B, .ref B, h1, h2, ⟨.own B, .inl h3⟩, ?_, ?_⟩
  · unfold PySem.W.kitOne
    by_cases hab : A = B
    · rw [h8 hab, hab]
      simp
    · rw [if_neg (by simpa using hab)]
      exact kc
  · unfold PySem.W.exmOne
    rw [h7]
    exact kc
theorem isa_ve {c : Str} {b : Bool} {A : Addr} {T : String} (h1 : mg c = some (.ref A)) (h2 : EcC K A) (h3 : mg (Str.ofString T) = none) (h4 : bootBuiltins (Str.ofString T) = some (.type T)) (h5 : Str.ofString T ≠ "__name__") (h6 : PySem.W.subIn K (.ref A) (.type T) = some b) (h7 : PySem.W.subIn K (.type T) (.type "BaseException") = some true) (h8 : PySem.W.kitMeta T = true) : IsaOk K mg (c, Str.ofString T, b) := by
  have kc : PySem.W.kitCls K (.ref A) (.type T) = some b := by
    show (if PySem.W.kitMeta T = true then PySem.W.subIn K (.ref A) (.type T) else none) = some b
    rw [if_pos h8]
    exact h6
  refine ⟨A, .ty T, .type T, h1, h2, ⟨.ty T, .inr ⟨h3, h4, h5⟩⟩, ?_, ?_⟩
  · unfold PySem.W.kitOne
    rw [if_neg (by simp)]
    exact kc
  · unfold PySem.W.exmOne
    rw [h7]
    exact kc
/-! ### errors -/
theorem err_ok {T fB C fI : Addr} {sB sC : Stmt} {bnm nm word qB q : Str} {fields N : List Str} {oB cdB ctB kB dB pB oC2 cdC ctC kC2 dC2 pC2 : Value} {odd : Option Addr} {anB anC : Option Addr} {slB slC : Array (Option Value)} {odC : Option Addr}
    (gT : mg bnm = some (.ref T)) (hdb : (bnm == ("__debug__" : Str)) = false) (B : BaseI K T fB) (lB : K.lookup fB = some ⟨oB, odd, .func (PySem.W.fnOf "__init__" qB (defArgs sB) (defBody sB) (defScope sB) .none kB dB pB anB cdB ctB), slB⟩) (cB : PySem.W.codeIn K cdB qB = true)
    (SB : FnScope ["self", "text", "word"] ["self", "text", "word"] (defScope sB)) (iB : isI0 (defScope sB) (defBody sB) = true) (hve : mg "ValueError" = none) (vV : PySem.W.findCls K (.type "ValueError") (.type "type") "__init__" = some (.val (.builtin "ValueError.__init__")))
    (bB : ∀ (kV doc pm : Value) (an : Option Addr) (cdv ct : Value) (us : List Value), us.length = (["self", "text", "word"] : List Str).length → bindArgs (PySem.W.fnOf "__init__" qB (defArgs sB) (defBody sB) (defScope sB) .none kV doc pm an cdv ct) ⟨us, []⟩ = pure ((["self", "text", "word"] : List Str).zip us))
    (gC : mg nm = some (.ref C)) (TC : OexC K C) (fi : PySem.W.findIn K (.ref C) "__init__" = some (some (.ref fI))) (ti : PySem.W.typeIn K (.ref fI) = some (.type "function"))
    (lC : K.lookup fI = some ⟨oC2, odC, .func (PySem.W.fnOf "__init__" q (defArgs sC) (defBody sC) (defScope sC) .none kC2 dC2 pC2 anC cdC ctC), slC⟩) (cC : PySem.W.codeIn K cdC q = true)
    (SC : FnScope N N (defScope sC)) (iC : isIn N (defScope sC) bnm word fields (defBody sC) = true) (hN : N.length = fields.length + 1) (hfl : fields.length ≤ 100)
    (hw : PySem.W.findIn K (.ref C) "word" = some none) (hfs : ∀ f ∈ fields, PySem.W.findIn K (.ref C) f = some none)
    (bC : ∀ (kV doc pm : Value) (an : Option Addr) (cdv ct : Value) (us : List Value), us.length = N.length → bindArgs (PySem.W.fnOf "__init__" q (defArgs sC) (defBody sC) (defScope sC) .none kV doc pm an cdv ct) ⟨us, []⟩ = pure (N.zip us)) :
    MkOk P w K mg base (nm, fields, word) := by
  have F0 := init0 (P := P) (w := w) (mg := mg) (base := base) lB cB SB iB hve vV
  have FN := initN (P := P) (w := w) (mg := mg) (base := base) lC cC SC iC hN hfl gT hdb B F0 (.all (bB _ _ _ _ _ _)) TC hw hfs
  exact ⟨hfl, C, fI, _, N, gC, TC, fi, ti, FN, .all (bC _ _ _ _ _ _)⟩
/-! ### defs -/
variable {f : Addr} {fd : FuncData} {nm : Str} {st : Stmt} {C : Cfg} {k n : Nat} {N ps : List Str} {b : IB}
theorem fn_okD (F : L2.Fun K nm nm st f fd) (hm : mg nm = some (.ref f)) (S : FnScope N ps (defScope st)) (hn : ps.length = n)
    (hb : ∀ (kV doc pm : Value) (an : Option Addr) (cdv ct : Value) (us : List Value), us.length = ps.length → bindArgs (PySem.W.fnOf nm nm (defArgs st) (defBody st) (defScope st) .none kV doc pm an cdv ct) ⟨us, []⟩ = pure (ps.zip us))
    (hck : ckB N C false (defScope st) b (defBody st) = true) (T : Txt P w K mg base C k) : FnFact P w K mg base (mkFn C nm n N.length b) (k + 1) := by
  obtain ⟨oc, od, kV, doc, pm, an, cdv, ct, osl, rfl, lk, hcd⟩ := F.ex
  exact fn_fact lk hcd S hm F.kp (.all (hb _ _ _ _ _ _)) hn hck T
theorem fnH_okD (F : L2.Fun K nm nm st f fd) (hm : mg nm = some (.ref f)) (S : FnScope N ps (defScope st)) (hn : ps.length = n)
    (hb : ∀ (kV doc pm : Value) (an : Option Addr) (cdv ct : Value) (us : List Value), us.length = ps.length → bindArgs (PySem.W.fnOf nm nm (defArgs st) (defBody st) (defScope st) .none kV doc pm an cdv ct) ⟨us, []⟩ = pure (ps.zip us))
    (hck : ckB N C.hot true (defScope st) b (defBody st) = true) (T : Txt P w K mg base C k) : FnHFact P w K mg base (mkFn C.hot nm n N.length b) (k + 1) := by
  obtain ⟨oc, od, kV, doc, pm, an, cdv, ct, osl, rfl, lk, hcd⟩ := F.ex
  exact fnH_fact lk hcd S hm F.kp (.all (hb _ _ _ _ _ _)) hn hck T
/-! ### the end -/
def spLaw (K : PySem.W.Frag) : Sp := fun vs H Q _ => ∃ (a : Addr) (ns : List Int), vs = [.ref a] ∧ ns.length ≤ 63 ∧ SqL K H a (ns.map V.int) ∧ ∀ H', Q (.bl true) H'
theorem law_sp {fn : Fn} (hn : fn.n = 1) (h : ∀ ns : List Int, ns.length ≤ 63 → fn.m [.lst (ns.map D.int)] = some (.ok (.dat (.bl true)))) : ∀ vs H Q E, spLaw K vs H Q E → spM ⟨K, mg, none⟩ fn vs H Q E := by
  intro vs H Q E q
  obtain ⟨a, ns, e, hl, hs, q⟩ := q
  subst e
  refine ⟨[.lst (ns.map D.int)], fun b => if b = a then H b else none, fun b o e => ?_, ⟨.ref a, [], rfl, ⟨a, ns.map V.int, rfl, ?_, Dens.ints ns⟩, rfl⟩, hn.symm, ?_⟩
  · have e : (if b = a then H b else none) = some o := e
    split at e
    · exact e
    · cases e
  · rcases hs with (hs | ⟨o, hs⟩) | hs
    · exact .inl (.inl (by show (if a = a then H a else none) = _; rw [if_pos rfl]; exact hs))
    · exact .inl (.inr ⟨o, by show (if a = a then H a else none) = _; rw [if_pos rfl]; exact hs⟩)
    · exact .inr hs
  · rw [h ns hl]
    intro G' H' g
    refine ⟨rfl, fun v dv => ?_⟩
    cases (show v = _ from dv)
    exact q H'
theorem law_ok (F : L2.Fun K nm nm st f fd) (hm : mg nm = some (.ref f)) (S : FnScope N ps (defScope st)) (hn : ps.length = 1)
    (hb : ∀ (kV doc pm : Value) (an : Option Addr) (cdv ct : Value) (us : List Value), us.length = ps.length → bindArgs (PySem.W.fnOf nm nm (defArgs st) (defBody st) (defScope st) .none kV doc pm an cdv ct) ⟨us, []⟩ = pure (ps.zip us))
    (hck : ckB N C false (defScope st) b (defBody st) = true) (T : Txt P w K mg base C k) (h : ∀ ns : List Int, ns.length ≤ 63 → (mkFn C nm 1 N.length b).m [.lst (ns.map D.int)] = some (.ok (.dat (.bl true)))) : FnOk P w K mg base (L2N.CX P w) (k + 1) f fd ps (spLaw K) := by
  obtain ⟨oc, od, kV, doc, pm, an, cdv, ct, osl, rfl, lk, hcd⟩ := F.ex
  exact (fn_ok (fname := nm) lk hcd S hn hck T).imp (law_sp (K := K) (mg := mg) rfl h)
end
end DE

set_option Elab.async false
set_option linter.all false
set_option maxRecDepth 100000
set_option maxHeartbeats 4000000
/-! DE11: plain tools: computation rules, loops, places and rows. -/
namespace DE
open PySem L2
/-! ### computation -/
theorem bindR_ok {α β : Type} (a : α) (k : α → Ans β) : bindR (some (.ok a)) k = k a := rfl
theorem bindR_er {α β : Type} (e : Er) (k : α → Ans β) : bindR (some (.error e)) k = some (.error e) := rfl
theorem optR_some {α : Type} (a : α) : optR (some a) = some (.ok a) := rfl
theorem liftS_ok {α : Type} (a : α) (ρ : Rho) (k : α → SR) : liftS (some (.ok a)) ρ k = k a := rfl
theorem liftS_er {α : Type} (e : Er) (ρ : Rho) (k : α → SR) : liftS (some (.error e)) ρ k = some (.er e ρ) := rfl
theorem blR_some (b : Bool) : blR (some b) = some (.dat (.bl b)) := rfl
theorem bin_add (i j : Int) : binV .add (.dat (.int i)) (.dat (.int j)) = some (.dat (.int (i + j))) := rfl
theorem bin_sub (i j : Int) : binV .sub (.dat (.int i)) (.dat (.int j)) = some (.dat (.int (i - j))) := rfl
theorem bin_mul {i j : Int} (h : small i = true ∨ small j = true) : binV .mul (.dat (.int i)) (.dat (.int j)) = some (.dat (.int (i * j))) := by
  show (if small i = true ∨ small j = true then _ else _) = _
  rw [if_pos h]
theorem bin_mod {i j : Int} (h : j ≠ 0) : binV .mod (.dat (.int i)) (.dat (.int j)) = some (.dat (.int (i.fmod j))) := by
  show (if j ≠ 0 then _ else _) = _
  rw [if_pos h]
theorem bin_fdiv {i j : Int} (h : j ≠ 0 ∧ j.natAbs < 1073741824) : binV .fdiv (.dat (.int i)) (.dat (.int j)) = some (.dat (.int (i.fdiv j))) := by
  show (if j ≠ 0 ∧ j.natAbs < 1073741824 then _ else _) = _
  rw [if_pos h]
theorem bin_pow {i j : Int} (h : 0 ≤ j ∧ j ≤ 1000000 ∧ i.natAbs < 2 ^ 64) : binV .pow (.dat (.int i)) (.dat (.int j)) = some (.dat (.int (i ^ j.toNat))) := by
  show (if 0 ≤ j ∧ j ≤ 1000000 ∧ i.natAbs < 2 ^ 64 then _ else _) = _
  rw [if_pos h]
theorem cmp_lt (i j : Int) : cmpV .lt (.dat (.int i)) (.dat (.int j)) = some (decide (i < j)) := rfl
theorem cmp_le (i j : Int) : cmpV .le (.dat (.int i)) (.dat (.int j)) = some (decide (i ≤ j)) := rfl
theorem cmp_gt (i j : Int) : cmpV .gt (.dat (.int i)) (.dat (.int j)) = some (decide (j < i)) := rfl
theorem cmp_ge (i j : Int) : cmpV .ge (.dat (.int i)) (.dat (.int j)) = some (decide (j ≤ i)) := rfl
theorem cmp_eq (i j : Int) : cmpV .eq (.dat (.int i)) (.dat (.int j)) = some (decide (i = j)) := rfl
theorem cmp_ne (i j : Int) : cmpV .ne (.dat (.int i)) (.dat (.int j)) = some (!decide (i = j)) := rfl
theorem cmp_eqs (i j : Str) : cmpV .eq (.dat (.str i)) (.dat (.str j)) = some (decide (i = j)) := rfl
theorem cmp_nes (i j : Str) : cmpV .ne (.dat (.str i)) (.dat (.str j)) = some (!decide (i = j)) := rfl
theorem bi_int (i : Int) : biV .int [.dat (.int i)] = some (.dat (.int i)) := rfl
theorem bi_lenl (ds : List D) : biV .len [.dat (.lst ds)] = some (.dat (.int ds.length)) := rfl
theorem bi_lent (ds : List D) : biV .len [.dat (.tup ds)] = some (.dat (.int ds.length)) := rfl
theorem bi_lenb (ds : List D) : biV .len [.br (.l ds)] = some (.dat (.int ds.length)) := rfl
theorem bi_lenf (ds : List D) : biV .len [.fr (.l ds)] = some (.dat (.int ds.length)) := rfl
theorem ix_l {ds : List D} {i : Int} {d : D} (h : atI ds i = some d) : ixW (.dat (.lst ds)) (.dat (.int i)) = some (.dat d) := by
  show (match atI ds i with | some d => some (RV.dat d) | none => none) = _
  rw [h]
theorem ix_t {ds : List D} {i : Int} {d : D} (h : atI ds i = some d) : ixW (.dat (.tup ds)) (.dat (.int i)) = some (.dat d) := by
  show (match atI ds i with | some d => some (RV.dat d) | none => none) = _
  rw [h]
theorem ix_b {ds : List D} {i : Int} {d : D} (h : atI ds i = some d) : ixW (.br (.l ds)) (.dat (.int i)) = some (.dat d) := by
  show (match atI ds i with | some d => some (RV.dat d) | none => none) = _
  rw [h]
theorem ix_f {ds : List D} {i : Int} {d : D} (h : atI ds i = some d) : ixW (.fr (.l ds)) (.dat (.int i)) = some (.dat d) := by
  show (match atI ds i with | some d => some (RV.dat d) | none => none) = _
  rw [h]
theorem atI_nat {α : Type} (xs : List α) (n : Nat) : atI xs (n : Int) = xs[n]? := by
  unfold atI ixN
  rw [if_pos (Int.natCast_nonneg n)]
  by_cases h : n < xs.length
  · rw [if_pos (by exact_mod_cast h)]
    rfl
  · rw [if_neg (by exact_mod_cast h), List.getElem?_eq_none (by omega)]
    rfl
theorem atI_get {α : Type} {xs : List α} {i : Int} {x : α} (h0 : 0 ≤ i) (h : xs[i.toNat]? = some x) : atI xs i = some x := by
  have e : i = (i.toNat : Int) := by omega
  rw [e, atI_nat]
  exact h
/-! ### loops -/
def outS : SO → Bool
  | .rt _ => true
  | .er _ _ => true
  | _ => false
theorem forL_go {step : D → Rho → SR} {P : Nat → Rho → Prop} {R : Nat → SO → Prop} : ∀ (ds : List D) (i0 : Nat) (ρ : Rho), P i0 ρ →
    (∀ i d ρ, ds[i]? = some d → P (i0 + i) ρ → (∃ ρ', (step d ρ = some (.nx ρ') ∨ step d ρ = some (.ct ρ')) ∧ P (i0 + i + 1) ρ') ∨ ∃ o, step d ρ = some o ∧ outS o = true ∧ R (i0 + i) o) →
    (∃ ρ', forL step ds ρ = some (.nx ρ') ∧ P (i0 + ds.length) ρ') ∨ ∃ i o, forL step ds ρ = some o ∧ outS o = true ∧ R i o
  | [], i0, ρ, h, _ => .inl ⟨ρ, rfl, h⟩
  | d :: ds, i0, ρ, h, hs => by
    have again := fun ρ' (h' : P (i0 + 1) ρ') => forL_go ds (i0 + 1) ρ' h' fun i d' ρ e p => by
      have := hs (i + 1) d' ρ (by simpa using e) (by rw [show i0 + (i + 1) = i0 + 1 + i by omega]; exact p)
      rw [show i0 + (i + 1) = i0 + 1 + i by omega] at this
      exact this
    have len : i0 + (d :: ds).length = i0 + 1 + ds.length := by rw [List.length_cons]; omega
    rw [len]
    rcases hs 0 d ρ rfl h with ⟨ρ', e, p⟩ | ⟨o, e, ho, r⟩
    · have hf : forL step (d :: ds) ρ = forL step ds ρ' := by
        unfold forL
        rcases e with e | e <;> rw [e]
        all_goals cases ds <;> rfl
      rw [hf]
      exact again ρ' p
    · refine .inr ⟨i0, o, ?_, ho, r⟩
      unfold forL
      rw [e]
      cases o with
      | rt r => rfl
      | er e ρ => rfl
      | _ => cases ho
/-- a loop that runs to its end -/
theorem forL_inv {step : D → Rho → SR} {P : Nat → Rho → Prop} {ds : List D} {ρ : Rho} (h : P 0 ρ) (hs : ∀ i d ρ, ds[i]? = some d → P i ρ → ∃ ρ', (step d ρ = some (.nx ρ') ∨ step d ρ = some (.ct ρ')) ∧ P (i + 1) ρ') :
    ∃ ρ', forL step ds ρ = some (.nx ρ') ∧ P ds.length ρ' := by
  rcases forL_go (P := P) (R := fun _ _ => False) ds 0 ρ h fun i d ρ e p => .inl (by
    rw [Nat.zero_add] at p ⊢
    exact hs i d ρ e p) with ⟨ρ', e, p⟩ | ⟨i, o, _, _, r⟩
  · rw [Nat.zero_add] at p
    exact ⟨ρ', e, p⟩
  · exact r.elim
theorem forL_out {step : D → Rho → SR} {P : Nat → Rho → Prop} {R : Nat → SO → Prop} {ds : List D} {ρ : Rho} (h : P 0 ρ) (hs : ∀ i d ρ, ds[i]? = some d → P i ρ → (∃ ρ', (step d ρ = some (.nx ρ') ∨ step d ρ = some (.ct ρ')) ∧ P (i + 1) ρ') ∨ ∃ o, step d ρ = some o ∧ outS o = true ∧ R i o) :
    (∃ ρ', forL step ds ρ = some (.nx ρ') ∧ P ds.length ρ') ∨ ∃ i o, forL step ds ρ = some o ∧ outS o = true ∧ R i o := by
  have := forL_go (P := P) (R := R) ds 0 ρ h fun i d ρ e p => by
    rw [Nat.zero_add] at p ⊢
    exact hs i d ρ e p
  rw [Nat.zero_add] at this
  exact this
theorem rng_get {lo : Int} {n i : Nat} {d : D} (e : (rangeD lo n)[i]? = some d) : i < n ∧ d = .int (lo + i) := by
  have h : i < n := by
    have := (List.getElem?_eq_some_iff.mp e).1
    rw [rangeD_len] at this
    exact this
  rw [rangeD_get n lo i h] at e
  exact ⟨h, (Option.some.inj e).symm⟩
/-- a comprehension that drops nothing -/
theorem compL_map {step : D → Ans (Option D)} {f : D → D} : ∀ {ds : List D}, (∀ d ∈ ds, step d = some (.ok (some (f d)))) → compL step ds = some (.ok (ds.map f))
  | [], _ => rfl
  | d :: ds, h => by
    unfold compL
    rw [h d List.mem_cons_self, compL_map fun d hd => h d (List.mem_cons_of_mem _ hd)]
    rfl
theorem compL_fm {step : D → Ans (Option D)} {f : D → Option D} : ∀ {ds : List D}, (∀ d ∈ ds, step d = some (.ok (f d))) → compL step ds = some (.ok (ds.filterMap f))
  | [], _ => rfl
  | d :: ds, h => by
    unfold compL
    rw [h d List.mem_cons_self, compL_fm fun d hd => h d (List.mem_cons_of_mem _ hd)]
    cases q : f d with
    | none => simp [List.filterMap_cons, q]
    | some x => simp [List.filterMap_cons, q]
theorem compL_of {α : Type} {step : D → Ans (Option D)} {g h : α → D} : ∀ {xs : List α}, (∀ x ∈ xs, step (g x) = some (.ok (some (h x)))) → compL step (xs.map g) = some (.ok (xs.map h))
  | [], _ => rfl
  | x :: xs, hh => by
    show compL step (g x :: xs.map g) = _
    unfold compL
    rw [hh x List.mem_cons_self, compL_of fun d hd => hh d (List.mem_cons_of_mem _ hd)]
    rfl
theorem compL_if {α : Type} {step : D → Ans (Option D)} {g : α → D} {h : α → Option D} : ∀ {xs : List α}, (∀ x ∈ xs, step (g x) = some (.ok (h x))) → compL step (xs.map g) = some (.ok (xs.filterMap h))
  | [], _ => rfl
  | x :: xs, hh => by
    show compL step (g x :: xs.map g) = _
    unfold compL
    rw [hh x List.mem_cons_self, compL_if fun d hd => hh d (List.mem_cons_of_mem _ hd)]
    cases q : h x with
    | none => simp [List.filterMap_cons, q]
    | some y => simp [List.filterMap_cons, q]
/-! ### drawn numbers -/
def Drawn : List Int → List Int → Prop
  | [], [] => True
  | x :: xs, s :: ss => (0 ≤ x ∧ x < s) ∧ Drawn xs ss
  | _, _ => False
theorem drawn_cons {xs ss : List Int} {s : Int} (h : Drawn xs (s :: ss)) : ∃ x r, xs = x :: r ∧ 0 ≤ x ∧ x < s ∧ Drawn r ss := by
  cases xs with
  | nil => exact h.elim
  | cons x r => exact ⟨x, r, rfl, h.1.1, h.1.2, h.2⟩
theorem drawn_nil {xs : List Int} (h : Drawn xs []) : xs = [] := by
  cases xs with
  | nil => rfl
  | cons x r => exact h.elim
theorem drawn_snoc : ∀ {xs ss : List Int} {x s : Int}, Drawn xs ss → 0 ≤ x → x < s → Drawn (xs ++ [x]) (ss ++ [s])
  | [], [], x, s, _, h1, h2 => ⟨⟨h1, h2⟩, trivial⟩
  | [], _ :: _, _, _, h, _, _ => h.elim
  | _ :: _, [], _, _, h, _, _ => h.elim
  | a :: xs, b :: ss, x, s, h, h1, h2 => ⟨h.1, drawn_snoc h.2 h1 h2⟩
theorem drawn_len : ∀ {xs ss : List Int}, Drawn xs ss → xs.length = ss.length
  | [], [], _ => rfl
  | [], _ :: _, h => h.elim
  | _ :: _, [], h => h.elim
  | _ :: xs, _ :: ss, h => by rw [List.length_cons, List.length_cons, drawn_len h.2]
theorem fmod_bd {a b : Int} (h : 0 < b) : 0 ≤ a.fmod b ∧ a.fmod b < b := ⟨Int.fmod_nonneg_of_pos a h, Int.fmod_lt_of_pos a h⟩
end DE

set_option Elab.async false
set_option linter.all false
set_option maxRecDepth 100000
set_option maxHeartbeats 4000000
/-! DE12: places, rows, sums, by data. -/
namespace DE
open PySem L2
abbrev Pl := List Int
abbrev Ent := Pl × Int
def pD (p : Pl) : D := .tup (p.map D.int)
def eD (e : Ent) : D := .tup [pD e.1, .int e.2]
def kI (p : Pl) : List Key := p.map Sum.inl
theorem keysOf_ints (p : Pl) : keysOf (p.map D.int) = some (kI p) := by
  induction p with
  | nil => rfl
  | cons x p ih =>
    show (match keyOf (.int x), keysOf (p.map D.int) with | some k, some ks => some (k :: ks) | _, _ => none) = _
    rw [ih]
    rfl
theorem tkeyOf_pD (p : Pl) : tkeyOf (pD p) = some (kI p) := keysOf_ints p
theorem tkeyD_kI (p : Pl) : tkeyD (kI p) = pD p := by
  unfold tkeyD kI pD
  rw [List.map_map]
  rfl
theorem kI_inj {p q : Pl} (h : kI p = kI q) : p = q := by
  unfold kI at h
  exact List.map_inj_right (fun a b => Sum.inl.inj) |>.mp h
/-! ### sums -/
def putA : List Ent → Pl → Int → List Ent
  | [], p, n => [(p, n)]
  | e :: r, p, n => if e.1 = p then (e.1, n) :: r else e :: putA r p n
def getA : List Ent → Pl → Option Int
  | [], _ => none
  | e :: r, p => if e.1 = p then some e.2 else getA r p
abbrev ksA (as : List Ent) : List (List Key) := as.map fun e => kI e.1
abbrev vsA (as : List Ent) : List D := as.map fun e => .int e.2
theorem dget_A (p : Pl) : ∀ as : List Ent, dget (ksA as) (vsA as) (kI p) = (getA as p).map D.int
  | [] => rfl
  | e :: r => by
    show (if kI e.1 = kI p then some (D.int e.2) else dget (ksA r) (vsA r) (kI p)) = (if e.1 = p then some e.2 else getA r p).map D.int
    by_cases h : e.1 = p
    · rw [if_pos h, if_pos (by rw [h])]
      rfl
    · rw [if_neg h, if_neg (fun z => h (kI_inj z)), dget_A p r]
theorem hasK_A (p : Pl) : ∀ as : List Ent, hasK (ksA as) (kI p) = (getA as p).isSome
  | [] => rfl
  | e :: r => by
    show (decide (kI e.1 = kI p) || hasK (ksA r) (kI p)) = (if e.1 = p then some e.2 else getA r p).isSome
    by_cases h : e.1 = p
    · rw [if_pos h, decide_eq_true (by rw [h])]
      rfl
    · rw [if_neg h, decide_eq_false (fun z => h (kI_inj z)), hasK_A p r]
      rfl
theorem put_has (p : Pl) (n : Int) : ∀ as : List Ent, (getA as p).isSome = true → (as.map (·.1)).Nodup → ksA (putA as p n) = ksA as ∧ vsA (putA as p n) = dputV (ksA as) (vsA as) (kI p) (.int n)
  | [], h, _ => by cases h
  | e :: r, h, nd => by
    by_cases hp : e.1 = p
    · have e1 : putA (e :: r) p n = (e.1, n) :: r := by unfold putA; rw [if_pos hp]
      rw [e1]
      refine ⟨rfl, ?_⟩
      show D.int n :: vsA r = (if kI e.1 = kI p then D.int n else D.int e.2) :: dputV (ksA r) (vsA r) (kI p) (.int n)
      rw [if_pos (by rw [hp])]
      congr 1
      have nin : p ∉ r.map (·.1) := by
        rw [List.map_cons, List.nodup_cons, hp] at nd
        exact nd.1
      clear h nd e1
      induction r with
      | nil => rfl
      | cons a r ih =>
        rw [List.map_cons, List.mem_cons, not_or] at nin
        show D.int a.2 :: vsA r = (if kI a.1 = kI p then D.int n else D.int a.2) :: dputV (ksA r) (vsA r) (kI p) (.int n)
        rw [if_neg (fun z => nin.1 (kI_inj z).symm), ← ih nin.2]
    · have e1 : putA (e :: r) p n = e :: putA r p n := by
        show (if e.1 = p then _ else _) = _
        rw [if_neg hp]
      rw [e1]
      have h' : (getA r p).isSome = true := by
        unfold getA at h
        rw [if_neg hp] at h
        exact h
      rw [List.map_cons, List.nodup_cons] at nd
      obtain ⟨i1, i2⟩ := put_has p n r h' nd.2
      refine ⟨?_, ?_⟩
      · show kI e.1 :: ksA (putA r p n) = kI e.1 :: ksA r
        rw [i1]
      · show D.int e.2 :: vsA (putA r p n) = (if kI e.1 = kI p then D.int n else D.int e.2) :: dputV (ksA r) (vsA r) (kI p) (.int n)
        rw [if_neg (fun z => hp (kI_inj z)), i2]
theorem put_new (p : Pl) (n : Int) : ∀ as : List Ent, (getA as p).isSome = false → putA as p n = as ++ [(p, n)]
  | [], _ => rfl
  | e :: r, h => by
    by_cases hp : e.1 = p
    · unfold getA at h
      rw [if_pos hp] at h
      cases h
    · unfold getA at h
      rw [if_neg hp] at h
      unfold putA
      rw [if_neg hp, put_new p n r h]
      rfl
theorem put_keys (p : Pl) (n : Int) : ∀ as : List Ent, ∀ q ∈ (putA as p n).map (·.1), q = p ∨ q ∈ as.map (·.1)
  | [], q, h => .inl (by simpa [putA] using h)
  | e :: r, q, h => by
    by_cases hp : e.1 = p
    · unfold putA at h
      rw [if_pos hp] at h
      exact .inr (by simpa using h)
    · unfold putA at h
      rw [if_neg hp] at h
      rcases List.mem_cons.mp h with h | h
      · exact .inr (by rw [h]; simp)
      · rcases put_keys p n r q h with h | h
        · exact .inl h
        · exact .inr (List.mem_cons_of_mem _ h)
theorem put_nodup (p : Pl) (n : Int) : ∀ as : List Ent, (as.map (·.1)).Nodup → ((putA as p n).map (·.1)).Nodup
  | [], _ => by simp [putA]
  | e :: r, nd => by
    by_cases hp : e.1 = p
    · unfold putA
      rw [if_pos hp]
      exact nd
    · unfold putA
      rw [if_neg hp]
      rw [List.map_cons, List.nodup_cons] at nd ⊢
      refine ⟨fun h => ?_, put_nodup p n r nd.2⟩
      rcases put_keys p n r _ h with h | h
      · exact hp h
      · exact nd.1 h
theorem put_len (p : Pl) (n : Int) : ∀ as : List Ent, (putA as p n).length ≤ as.length + 1
  | [] => by simp [putA]
  | e :: r => by
    unfold putA
    split
    · simp
    · rw [List.length_cons, List.length_cons]
      have := put_len p n r
      omega
def sumA (es : List Ent) : List Ent := es.foldl (fun as e => putA as e.1 ((getA as e.1).getD 0 + e.2)) []
theorem sumA_snoc (es : List Ent) (e : Ent) : sumA (es ++ [e]) = putA (sumA es) e.1 ((getA (sumA es) e.1).getD 0 + e.2) := by
  unfold sumA
  rw [List.foldl_append]
  rfl
theorem snoc_ind {α : Type} {p : List α → Prop} (h0 : p []) (hs : ∀ l a, p l → p (l ++ [a])) : ∀ l, p l := by
  have : ∀ l : List α, p l.reverse := by
    intro l
    induction l with
    | nil => exact h0
    | cons a l ih =>
      rw [List.reverse_cons]
      exact hs _ _ ih
  intro l
  have := this l.reverse
  rwa [List.reverse_reverse] at this
theorem sumA_nodup : ∀ es : List Ent, ((sumA es).map (·.1)).Nodup := snoc_ind (by simp [sumA]) fun l a ih => by
  rw [sumA_snoc]
  exact put_nodup _ _ _ ih
theorem sumA_keys : ∀ es : List Ent, ∀ q ∈ (sumA es).map (·.1), q ∈ es.map (·.1) := snoc_ind (by simp [sumA]) fun l a ih q h => by
  rw [sumA_snoc] at h
  rw [List.map_append, List.mem_append]
  rcases put_keys _ _ _ q h with h | h
  · exact .inr (by simp [h])
  · exact .inl (ih q h)
theorem sumA_len : ∀ es : List Ent, (sumA es).length ≤ es.length := snoc_ind (by simp [sumA]) fun l a ih => by
  rw [sumA_snoc, List.length_append]
  have := put_len a.1 ((getA (sumA l) a.1).getD 0 + a.2) (sumA l)
  simp
  omega
/-- the step of a sum, by the evaluator -/
theorem putD_A {i : Nat} {ρ : Rho} {as : List Ent} {p : Pl} {n : Int} (nd : (as.map (·.1)).Nodup) (hl : as.length < 16777216) : putX i ρ (.int n) (.tT (ksA as) (vsA as)) (.dat (pD p)) = some (.nx (ρ.set i (some (.own (.tT (ksA (putA as p n)) (vsA (putA as p n))))))) := by
  show (match tkeyOf (pD p) with
    | some q => if (ksA as).length < 16777216 then some (SO.nx (ρ.set i (some (.own (if hasK (ksA as) q = true then OV.tT (ksA as) (dputV (ksA as) (vsA as) q (D.int n)) else OV.tT (ksA as ++ [q]) (vsA as ++ [D.int n])))))) else none
    | none => none) = _
  rw [tkeyOf_pD]
  show (if (ksA as).length < 16777216 then _ else _) = _
  rw [if_pos (by rw [List.length_map]; exact hl), hasK_A]
  cases h : (getA as p).isSome with
  | true =>
    obtain ⟨h1, h2⟩ := put_has p n as h nd
    rw [if_pos rfl, h1, h2]
  | false =>
    rw [if_neg (by decide), put_new p n as h]
    simp [ksA, vsA]
theorem get_A (as : List Ent) (p : Pl) : getV (.br (.tT (ksA as) (vsA as))) (.dat (pD p)) (.dat (.int 0)) = some (.dat (.int ((getA as p).getD 0))) := by
  show (match dictV (.br (.tT (ksA as) (vsA as))) (pD p) with
    | some (some v) => some (RV.dat v)
    | some none => some (.dat (.int 0))
    | none => none) = _
  have e : dictV (.br (.tT (ksA as) (vsA as))) (pD p) = some ((getA as p).map D.int) := by
    show (match some (ksA as), tkeyOf (pD p) with
      | some ks, some q => some (dget ks (vsA as) q)
      | _, _ => _) = _
    rw [tkeyOf_pD]
    show some (dget (ksA as) (vsA as) (kI p)) = _
    rw [dget_A]
  rw [e]
  cases getA as p with
  | none => rfl
  | some v => rfl
/-! ### order -/
theorem pyD_ints (p : Pl) : pyDs (p.map D.int) = p.map PyData.int := by
  induction p with
  | nil => rfl
  | cons x p ih =>
    show PyData.int x :: pyDs (p.map D.int) = _
    rw [ih]
    rfl
theorem pyD_pD (p : Pl) : pyD (pD p) = .tuple (p.map .int) := by
  show PyData.tuple (pyDs (p.map D.int)) = _
  rw [pyD_ints]
theorem lt_pD (p q : Pl) : PySem.W.dataLt (pyD (pD p)) (pyD (pD q)) = decide (p < q) := by
  rw [pyD_pD, pyD_pD, PySem.W.dataLt_tuple]
  exact PySem.W.dataLt_ints p q
theorem okDs_ints (p : Pl) (n : Nat) : okDs (p.map D.int) n = true := by
  induction p with
  | nil => rfl
  | cons x p ih =>
    show (okD (.int x) n && okDs (p.map D.int) n) = true
    rw [ih]
    rfl
theorem okD_pD (p : Pl) (n : Nat) : okD (pD p) (n + 1) = true := okDs_ints p n
theorem alike_ints : ∀ p q : Pl, PySem.W.alikeAll (p.map PyData.int) (q.map PyData.int) = true
  | [], _ => by cases ‹Pl› <;> rfl
  | _ :: _, [] => rfl
  | x :: p, y :: q => by
    show (PySem.W.alike (.int x) (.int y) && PySem.W.alikeAll (p.map PyData.int) (q.map PyData.int)) = true
    rw [alike_ints p q]
    rfl
theorem alike_pD (p q : Pl) : alikeD (pD p) (pD q) = true := by
  unfold alikeD
  rw [pyD_pD, pyD_pD]
  exact alike_ints p q
theorem ltD_pD (p q : Pl) : ltD (pD p) (pD q) = some (decide (p < q)) := by
  have h : ltD (pD p) (pD q) = if okD (pD p) 60 = true ∧ okD (pD q) 60 = true ∧ PySem.W.alike (pyD (pD p)) (pyD (pD q)) = true then some (PySem.W.dataLt (pyD (pD p)) (pyD (pD q))) else none := rfl
  rw [h, if_pos ⟨okD_pD p 59, okD_pD q 59, alike_pD p q⟩, lt_pD]
def sortP (ps : List Pl) : List Pl := ps.mergeSort fun a b => !decide (b < a)
theorem sortD_P (ps : List Pl) : sortD (ps.map pD) = (sortP ps).map pD := by
  unfold sortD sortP
  exact (List.map_mergeSort fun a _ b _ => by rw [lt_pD]).symm
theorem okDs_ps : ∀ (ps : List Pl) (n : Nat), okDs (ps.map pD) (n + 1) = true
  | [], _ => rfl
  | p :: ps, n => by
    show (okD (pD p) (n + 1) && okDs (ps.map pD) (n + 1)) = true
    rw [okD_pD, okDs_ps ps n]
    rfl
theorem allB_of {p : D → Bool} : ∀ {ds : List D}, (∀ d ∈ ds, p d = true) → allB p ds = true
  | [], _ => rfl
  | d :: ds, h => by
    show (p d && allB p ds) = true
    rw [h d List.mem_cons_self, allB_of fun d hd => h d (List.mem_cons_of_mem _ hd)]
    rfl
theorem sortOk_P (ps : List Pl) (h : ∀ p ∈ ps, p ≠ []) : sortOk (ps.map pD) = true := by
  unfold sortOk
  rw [okDs_ps ps 59]
  have h1 : allB (fun x => allB (fun y => alikeD x y) (ps.map pD)) (ps.map pD) = true := allB_of fun x hx => allB_of fun y hy => by
    obtain ⟨p, _, rfl⟩ := List.mem_map.mp hx
    obtain ⟨q, _, rfl⟩ := List.mem_map.mp hy
    exact alike_pD p q
  rw [h1, Bool.true_and, Bool.true_and]
  refine (Bool.or_eq_true _ _).mpr (.inl (allB_of fun x hx => ?_))
  obtain ⟨p, hp, rfl⟩ := List.mem_map.mp hx
  cases p with
  | nil => exact absurd rfl (h [] hp)
  | cons a p => rfl
theorem sortP_mem {ps : List Pl} {p : Pl} : p ∈ sortP ps ↔ p ∈ ps := List.mem_mergeSort
theorem sortP_pw (ps : List Pl) (nd : ps.Nodup) : (sortP ps).Pairwise fun a b => a < b := by
  have h1 : (sortP ps).Pairwise fun a b => (!decide (b < a)) = true := List.pairwise_mergeSort (fun a b c hab hbc => by
    simp only [Bool.not_eq_true', decide_eq_false_iff_not] at hab hbc ⊢
    exact fun h => hab (List.lt_of_le_of_lt (by simpa using hbc) h)) (fun a b => by
    simp only [Bool.or_eq_true, Bool.not_eq_true', decide_eq_false_iff_not]
    by_cases h : b < a
    · exact .inr (fun z => absurd (List.lt_trans h z) (List.lt_irrefl _))
    · exact .inl h) ps
  have h2 : (sortP ps).Pairwise fun a b => a ≠ b := (List.mergeSort_perm ps _).nodup_iff.mpr nd
  refine (h1.and h2).imp fun {a b} h => ?_
  obtain ⟨x, y⟩ := h
  have x : ¬ b < a := by simpa using x
  by_cases z : a < b
  · exact z
  · exact absurd (List.le_antisymm (by simpa using x) (by simpa using z)) y
end DE

set_option Elab.async false
set_option linter.all false
set_option maxRecDepth 100000
set_option maxHeartbeats 4000000
/-! DE13: the evaluator by steps: a name for each step, so that nothing is looked at before its parts are known. -/
namespace DE
open PySem L2
section
variable {C : Cfg} {ρ : Rho}
def u1 (f : RV → Option RV) (x : EvR) : EvR := bindR x fun x => optR (f x)
def u2 (f : RV → RV → Option RV) (x y : EvR) : EvR := bindR x fun x => bindR y fun y => optR (f x y)
def v2 (f : RV → RV → Option Bool) (x y : EvR) : Ans Bool := bindR x fun x => bindR y fun y => optR (f x y)
def v1 (f : RV → Option Bool) (x : EvR) : Ans Bool := bindR x fun x => optR (f x)
def ac (x : EvR) (xs : Ans (List RV)) : Ans (List RV) := bindR x fun x => bindR xs fun xs => some (.ok (x :: xs))
theorem u1_ok {f : RV → Option RV} {x : RV} : u1 f (some (.ok x)) = optR (f x) := rfl
theorem u2_ok {f : RV → RV → Option RV} {x y : RV} : u2 f (some (.ok x)) (some (.ok y)) = optR (f x y) := rfl
theorem v2_ok {f : RV → RV → Option Bool} {x y : RV} : v2 f (some (.ok x)) (some (.ok y)) = optR (f x y) := rfl
theorem v1_ok {f : RV → Option Bool} {x : RV} : v1 f (some (.ok x)) = optR (f x) := rfl
theorem ac_ok {x : RV} {xs : List RV} : ac (some (.ok x)) (some (.ok xs)) = some (.ok (x :: xs)) := rfl
def varV (x : Option (Option LV)) : EvR :=
  match x with
  | some (some (.dat d)) => some (.ok (.dat d))
  | some (some (.own o)) => some (.ok (.br o))
  | _ => none
theorem var_dat {d : D} : varV (some (some (.dat d))) = some (.ok (.dat d)) := rfl
theorem var_own {o : OV} : varV (some (some (.own o))) = some (.ok (.br o)) := rfl
theorem ev_var {i : Nat} : evE C (.var i) ρ = varV ρ[i]? := by rw [evE]; rfl
theorem ev_int {n : Int} : evE C (.int n) ρ = some (.ok (.dat (.int n))) := by rw [evE]
theorem ev_str {n : Str} : evE C (.str n) ρ = some (.ok (.dat (.str n))) := by rw [evE]
theorem ev_bl {n : Bool} : evE C (.bl n) ρ = some (.ok (.dat (.bl n))) := by rw [evE]
theorem ev_non : evE C .non ρ = some (.ok (.dat .non)) := by rw [evE]
theorem ev_bin {o : BOp} {a b : IE} : evE C (.bin o a b) ρ = u2 (binV o) (evE C a ρ) (evE C b ρ) := by rw [evE]; rfl
def negV (x : RV) : Option RV := match x with | .dat (.int i) => some (.dat (.int (-i))) | _ => none
theorem neg_int (i : Int) : negV (.dat (.int i)) = some (.dat (.int (-i))) := rfl
theorem ev_neg {a : IE} : evE C (.neg a) ρ = u1 negV (evE C a ρ) := by
  rw [evE]
  show bindR _ _ = bindR _ _
  congr 1
  funext x
  cases x with
  | dat d => cases d <;> rfl
  | _ => rfl
theorem ev_cmp {o : COp} {a b : IE} : evE C (.cmp o a b) ρ = u2 (fun x y => blR (cmpV o x y)) (evE C a ρ) (evE C b ρ) := by rw [evE]; rfl
theorem ev_ix {a b : IE} : evE C (.ix a b) ρ = u2 ixW (evE C a ρ) (evE C b ρ) := by rw [evE]; rfl
def notB (x : RV) : Option RV := match x with | .dat (.bl b) => some (.dat (.bl (!b))) | _ => none
theorem not_bl (b : Bool) : notB (.dat (.bl b)) = some (.dat (.bl (!b))) := rfl
theorem ev_nott {a : IE} : evE C (.nott a) ρ = u1 notB (evE C a ρ) := by
  rw [evE]
  show bindR _ _ = bindR _ _
  congr 1
  funext x
  cases x with
  | dat d => cases d <;> rfl
  | _ => rfl
def tupV (rs : Ans (List RV)) : EvR := bindR rs fun rs => match toDs rs with | some ds => some (.ok (.dat (.tup ds))) | none => none
theorem tup_ok {rs : List RV} {ds : List D} (h : toDs rs = some ds) : tupV (some (.ok rs)) = some (.ok (.dat (.tup ds))) := by
  show (match toDs rs with | some ds => some (Except.ok (RV.dat (.tup ds))) | none => none) = _
  rw [h]
def lstU (rs : Ans (List RV)) : EvR := bindR rs fun rs => match toDs rs with | some ds => some (.ok (.fr (.l ds))) | none => none
theorem lst_ok {rs : List RV} {ds : List D} (h : toDs rs = some ds) : lstU (some (.ok rs)) = some (.ok (.fr (.l ds))) := by
  show (match toDs rs with | some ds => some (Except.ok (RV.fr (.l ds))) | none => none) = _
  rw [h]
theorem ev_tup {as : IA} : evE C (.tup as) ρ = tupV (evA C as ρ) := by rw [evE]; rfl
theorem ev_lst {as : IA} : evE C (.lst as) ρ = lstU (evA C as ρ) := by rw [evE]; rfl
theorem ev_dictT : evE C .dictT ρ = some (.ok (.fr (.tT [] []))) := by rw [evE]
theorem ev_dictK : evE C .dictK ρ = some (.ok (.fr (.tK [] []))) := by rw [evE]
theorem toDs_nil : toDs [] = some [] := rfl
theorem toDs_dat {d : D} {rs : List RV} {ds : List D} (h : toDs rs = some ds) : toDs (.dat d :: rs) = some (d :: ds) := by
  show (match toD (.dat d), toDs rs with | some d, some ds => some (d :: ds) | _, _ => none) = _
  rw [h]
  rfl
theorem toDs_fr {o : OV} {rs : List RV} {ds : List D} (h : toDs rs = some ds) : toDs (.fr o :: rs) = some (o.d :: ds) := by
  show (match toD (.fr o), toDs rs with | some d, some ds => some (d :: ds) | _, _ => none) = _
  rw [h]
  rfl
theorem ea_nil : evA C .nil ρ = some (.ok []) := by rw [evA]
theorem ea_cons {a : IE} {r : IA} : evA C (.cons a r) ρ = ac (evE C a ρ) (evA C r ρ) := by rw [evA]; rfl
def biU (b : Bi) (rs : Ans (List RV)) : EvR := bindR rs fun rs => optR (biV b rs)
theorem bi_ok {b : Bi} {rs : List RV} : biU b (some (.ok rs)) = optR (biV b rs) := rfl
theorem ev_bi {b : Bi} {as : IA} : evE C (.bi b as) ρ = biU b (evA C as ρ) := by rw [evE]; rfl
def callU (f : Option Fn) (rs : Ans (List RV)) : EvR := bindR rs fun rs => match f with | some fn => callV fn rs | none => none
theorem call_ok {fn : Fn} {rs : List RV} : callU (some fn) (some (.ok rs)) = callV fn rs := rfl
theorem ev_call {j : Nat} {as : IA} : evE C (.call j as) ρ = callU C.T[j]? (evA C as ρ) := by rw [evE]; rfl
/-- a call, by what the def gives -/
theorem callV_ok {fn : Fn} {rs : List RV} {r : RV} (hn : rs.length = fn.n) (h : fn.m (rs.map RV.d) = some (.ok r)) (hb : isBr r = false) (hf : anyBr rs = true → flatR r = true) : callV fn rs = some (.ok r) := by
  unfold callV
  rw [if_pos hn, h]
  show (if isBr r = true ∨ (anyBr rs = true ∧ flatR r = false) then _ else _) = _
  rw [if_neg]
  rintro (z | ⟨z1, z2⟩)
  · rw [hb] at z; cases z
  · rw [hf z1] at z2; cases z2
theorem callV_er {fn : Fn} {rs : List RV} {e : Er} (hn : rs.length = fn.n) (h : fn.m (rs.map RV.d) = some (.error e)) (hf : anyBr rs = true → flatDs e.fs = true) : callV fn rs = some (.error e) := by
  unfold callV
  rw [if_pos hn, h]
  show (if anyBr rs = true ∧ flatDs e.fs = false then _ else _) = _
  rw [if_neg]
  rintro ⟨z1, z2⟩
  rw [hf z1] at z2
  cases z2
def slU (x : EvR) (lo hi : Ans (Option Int)) : EvR := bindR x fun x => bindR lo fun l => bindR hi fun u => optR (slV x l u)
theorem sl_ok {x : RV} {l u : Option Int} : slU (some (.ok x)) (some (.ok l)) (some (.ok u)) = optR (slV x l u) := rfl
theorem ev_sl {a : IE} {lo hi : IO} : evE C (.sl a lo hi) ρ = slU (evE C a ρ) (evO C lo ρ) (evO C hi ρ) := by rw [evE]; rfl
theorem eo_no : evO C .no ρ = some (.ok none) := by rw [evO]
def soU (x : EvR) : Ans (Option Int) := bindR x fun x => match x with | .dat (.int i) => some (.ok (some i)) | _ => none
theorem so_ok {i : Int} : soU (some (.ok (.dat (.int i)))) = some (.ok (some i)) := rfl
theorem eo_so {a : IE} : evO C (.so a) ρ = soU (evE C a ρ) := by rw [evO]; rfl
def getU (d k x : EvR) : EvR := bindR d fun d => bindR (optR (dicV d)) fun d => bindR k fun k => bindR x fun x => optR (getV d k x)
theorem get_ok {d k x : RV} (h : isDic d = true) : getU (some (.ok d)) (some (.ok k)) (some (.ok x)) = optR (getV d k x) := by
  have e : dicV d = some d := by unfold dicV; rw [h]
  show bindR (optR (dicV d)) _ = _
  rw [e]
  rfl
theorem ev_get {d k x : IE} : evE C (.get d k x) ρ = getU (evE C d ρ) (evE C k ρ) (evE C x ρ) := by rw [evE]; rfl
theorem ev_attr {a : IE} {n : Str} : evE C (.attr a n) ρ = u1 (fun x => attrV C.fld x n) (evE C a ρ) := by rw [evE]; rfl
theorem ev_isi {a : IE} {c : Cl} : evE C (.isi a c) ρ = u1 (fun x => blR (isiV C.isa x c)) (evE C a ρ) := by rw [evE]; rfl
def iteE (t : Ans Bool) (a b : Rho → EvR) (ρ : Rho) : EvR := bindR t fun k => match k with | true => a ρ | false => b ρ
theorem iteE_t {a b : Rho → EvR} : iteE (some (.ok true)) a b ρ = a ρ := rfl
theorem iteE_f {a b : Rho → EvR} : iteE (some (.ok false)) a b ρ = b ρ := rfl
theorem ev_ife {c a b : IE} : evE C (.ife c a b) ρ = iteE (evT C c ρ) (evE C a) (evE C b) ρ := by rw [evE]; rfl
/-- and, or: the rest only where it is asked -/
def andU (x : EvR) (r : Rho → EvR) (ρ : Rho) : EvR := bindR x fun x => match x with | .dat (.bl true) => r ρ | .dat (.bl false) => some (.ok (.dat (.bl false))) | _ => none
def orU (x : EvR) (r : Rho → EvR) (ρ : Rho) : EvR := bindR x fun x => match x with | .dat (.bl false) => r ρ | .dat (.bl true) => some (.ok (.dat (.bl true))) | _ => none
theorem andU_t {r : Rho → EvR} : andU (some (.ok (.dat (.bl true)))) r ρ = r ρ := rfl
theorem andU_f {r : Rho → EvR} : andU (some (.ok (.dat (.bl false)))) r ρ = some (.ok (.dat (.bl false))) := rfl
theorem orU_t {r : Rho → EvR} : orU (some (.ok (.dat (.bl true)))) r ρ = some (.ok (.dat (.bl true))) := rfl
theorem orU_f {r : Rho → EvR} : orU (some (.ok (.dat (.bl false)))) r ρ = r ρ := rfl
theorem ev_andd {as : IA} : evE C (.andd as) ρ = evAnd C as ρ := by rw [evE]
theorem ev_orr {as : IA} : evE C (.orr as) ρ = evOr C as ρ := by rw [evE]
theorem en_1 {a : IE} : evAnd C (.cons a .nil) ρ = evE C a ρ := by rw [evAnd]
theorem en_2 {a b : IE} {r : IA} : evAnd C (.cons a (.cons b r)) ρ = andU (evE C a ρ) (evAnd C (.cons b r)) ρ := by rw [evAnd] <;> rfl
theorem er_1 {a : IE} : evOr C (.cons a .nil) ρ = evE C a ρ := by rw [evOr]
theorem er_2 {a b : IE} {r : IA} : evOr C (.cons a (.cons b r)) ρ = orU (evE C a ρ) (evOr C (.cons b r)) ρ := by rw [evOr] <;> rfl
/-! ### tests -/
def andT (x : Ans Bool) (r : Rho → Ans Bool) (ρ : Rho) : Ans Bool := bindR x fun k => match k with | true => r ρ | false => some (.ok false)
def orT (x : Ans Bool) (r : Rho → Ans Bool) (ρ : Rho) : Ans Bool := bindR x fun k => match k with | false => r ρ | true => some (.ok true)
theorem andT_t {r : Rho → Ans Bool} : andT (some (.ok true)) r ρ = r ρ := rfl
theorem andT_f {r : Rho → Ans Bool} : andT (some (.ok false)) r ρ = some (.ok false) := rfl
theorem orT_t {r : Rho → Ans Bool} : orT (some (.ok true)) r ρ = some (.ok true) := rfl
theorem orT_f {r : Rho → Ans Bool} : orT (some (.ok false)) r ρ = r ρ := rfl
def notT (x : Ans Bool) : Ans Bool := bindR x fun k => some (.ok (!k))
theorem notT_ok {k : Bool} : notT (some (.ok k)) = some (.ok (!k)) := rfl
theorem et_andd {as : IA} : evT C (.andd as) ρ = evAndT C as ρ := by rw [evT]
theorem et_orr {as : IA} : evT C (.orr as) ρ = evOrT C as ρ := by rw [evT]
theorem et_nott {a : IE} : evT C (.nott a) ρ = notT (evT C a ρ) := by rw [evT]; rfl
theorem et_cmp {o : COp} {a b : IE} : evT C (.cmp o a b) ρ = v2 (cmpV o) (evE C a ρ) (evE C b ρ) := by rw [evT]; rfl
theorem et_var {i : Nat} : evT C (.var i) ρ = v1 truV (varV ρ[i]?) := by rw [evT, ev_var]; rfl
theorem et_isi {a : IE} {c : Cl} : evT C (.isi a c) ρ = v1 (fun x => isiV C.isa x c) (evE C a ρ) := by rw [evT]; rfl
theorem et_call {j : Nat} {as : IA} : evT C (.call j as) ρ = v1 truV (callU C.T[j]? (evA C as ρ)) := by rw [evT]; rfl
theorem et_ix {a b : IE} : evT C (.ix a b) ρ = v1 truV (u2 ixW (evE C a ρ) (evE C b ρ)) := by rw [evT]; rfl
def chT (o o' : COp) (a b : EvR) (c : Rho → EvR) (ρ : Rho) : Ans Bool := bindR a fun x => bindR b fun y => bindR (optR (cmpV o x y)) fun k => match k with | true => bindR (c ρ) fun z => optR (cmpV o' y z) | false => some (.ok false)
theorem chT_ok {o o' : COp} {x y : RV} {c : Rho → EvR} : chT o o' (some (.ok x)) (some (.ok y)) c ρ = andT (optR (cmpV o x y)) (fun ρ => v1 (cmpV o' y) (c ρ)) ρ := rfl
theorem et_chain {o o' : COp} {a b c : IE} : evT C (.chain o o' a b c) ρ = chT o o' (evE C a ρ) (evE C b ρ) (evE C c) ρ := by rw [evT] <;> rfl
theorem tru_bl (b : Bool) : truV (.dat (.bl b)) = some b := rfl
theorem ent_1 {a : IE} : evAndT C (.cons a .nil) ρ = evT C a ρ := by rw [evAndT]
theorem ent_2 {a b : IE} {r : IA} : evAndT C (.cons a (.cons b r)) ρ = andT (evT C a ρ) (evAndT C (.cons b r)) ρ := by rw [evAndT] <;> rfl
theorem ert_1 {a : IE} : evOrT C (.cons a .nil) ρ = evT C a ρ := by rw [evOrT]
theorem ert_2 {a b : IE} {r : IA} : evOrT C (.cons a (.cons b r)) ρ = orT (evT C a ρ) (evOrT C (.cons b r)) ρ := by rw [evOrT] <;> rfl
/-! ### comprehensions -/
def lcU (ds : Ans (List D)) (step : D → Ans (Option D)) : EvR := bindR ds fun ds => bindR (optR (szV ds)) fun ds => bindR (compL step ds) fun rs => some (.ok (.fr (.l rs)))
theorem lc_ok {ds rs : List D} {step : D → Ans (Option D)} (hz : ds.length ≤ 16777216) (h : compL step ds = some (.ok rs)) : lcU (some (.ok ds)) step = some (.ok (.fr (.l rs))) := by
  have e : szV ds = some ds := by unfold szV; rw [if_pos hz]
  show bindR (optR (szV ds)) _ = _
  rw [e]
  show bindR (compL step ds) _ = _
  rw [h]
  rfl
theorem ev_lc {elt : IE} {g : Tg} {src : ISrc} {ifs : IO} : evE C (.lc elt g src ifs) ρ = lcU (evSrc C src ρ) (turnL g (evIf C ifs) (evE C elt) ρ) := by rw [evE]; rfl
def itU (x : EvR) : Ans (List D) := bindR x fun x => optR (seqV x)
theorem it_ok {x : RV} {ds : List D} (h : seqV x = some ds) : itU (some (.ok x)) = some (.ok ds) := by
  show optR (seqV x) = _
  rw [h]
  rfl
def rgU (x : Ans (List RV)) : Ans (List D) := bindR x fun x => optR (rangeV x)
theorem it_fr {ds : List D} : itU (some (.ok (.fr (.l ds)))) = some (.ok ds) := rfl
theorem it_dl {ds : List D} : itU (some (.ok (.dat (.lst ds)))) = some (.ok ds) := rfl
theorem it_dt {ds : List D} : itU (some (.ok (.dat (.tup ds)))) = some (.ok ds) := rfl
theorem it_br {ds : List D} : itU (some (.ok (.br (.l ds)))) = some (.ok ds) := rfl
theorem rg_1 {n : Int} (h : ints62 n = true) : rgU (some (.ok [.dat (.int n)])) = some (.ok (rangeD 0 n.toNat)) := by
  show optR (if ints62 n = true then _ else _) = _
  rw [if_pos h]
  rfl
theorem rg_2 {a b : Int} (h : ints62 a = true ∧ ints62 b = true) : rgU (some (.ok [.dat (.int a), .dat (.int b)])) = some (.ok (rangeD a (b - a).toNat)) := by
  show optR (if ints62 a = true ∧ ints62 b = true then _ else _) = _
  rw [if_pos h]
  rfl
theorem es_it {a : IE} : evSrc C (.it a) ρ = itU (evE C a ρ) := by rw [evSrc]; rfl
theorem es_rg {as : IA} : evSrc C (.range as) ρ = rgU (evA C as ρ) := by rw [evSrc]; rfl
/-- a comprehension's turn: no test -/
theorem turn_no {g : Tg} {elt : IE} {d : D} {ρ' : Rho} {x : RV} {y : D} (h : setG g d ρ = some ρ') (hx : evE C elt ρ' = some (.ok x)) (hy : toD x = some y) : turnL g (evIf C .no) (evE C elt) ρ d = some (.ok (some y)) := by
  unfold turnL
  rw [h]
  show bindR (evIf C .no ρ') _ = _
  have e : evIf C .no ρ' = some (.ok true) := by rw [evIf]
  rw [e]
  show bindR (evE C elt ρ') _ = _
  rw [hx]
  show (match toD x with | some y => some (Except.ok (some y)) | none => none) = _
  rw [hy]
theorem turn_so {g : Tg} {elt c : IE} {d : D} {ρ' : Rho} {k : Bool} {x : RV} {y : D} (h : setG g d ρ = some ρ') (hc : evT C c ρ' = some (.ok k)) (hx : k = true → evE C elt ρ' = some (.ok x)) (hy : k = true → toD x = some y) : turnL g (evIf C (.so c)) (evE C elt) ρ d = some (.ok (if k = true then some y else none)) := by
  unfold turnL
  rw [h]
  show bindR (evIf C (.so c) ρ') _ = _
  have e : evIf C (.so c) ρ' = evT C c ρ' := by rw [evIf]
  rw [e, hc]
  cases k with
  | false => rfl
  | true =>
    show bindR (evE C elt ρ') _ = _
    rw [hx rfl]
    show (match toD x with | some y => some (Except.ok (some y)) | none => none) = _
    rw [hy rfl]
    rfl
theorem toDs_cd {d : D} {rs : List RV} : toDs (.dat d :: rs) = (toDs rs).map fun ds => d :: ds := by
  cases h : toDs rs with
  | none =>
    show (match toD (.dat d), toDs rs with | some d, some ds => some (d :: ds) | _, _ => none) = _
    rw [h]
    rfl
  | some ds => exact toDs_dat h
theorem toDs_cf {o : OV} {rs : List RV} : toDs (.fr o :: rs) = (toDs rs).map fun ds => o.d :: ds := by
  cases h : toDs rs with
  | none =>
    show (match toD (.fr o), toDs rs with | some d, some ds => some (d :: ds) | _, _ => none) = _
    rw [h]
    rfl
  | some ds => exact toDs_fr h
def tupM (o : Option (List D)) : EvR := match o with | some ds => some (.ok (.dat (.tup ds))) | none => none
theorem tupV_ok {rs : List RV} : tupV (some (.ok rs)) = tupM (toDs rs) := rfl
theorem tupM_ok {ds : List D} : tupM (some ds) = some (.ok (.dat (.tup ds))) := rfl
def lstM (o : Option (List D)) : EvR := match o with | some ds => some (.ok (.fr (.l ds))) | none => none
theorem lstU_ok {rs : List RV} : lstU (some (.ok rs)) = lstM (toDs rs) := rfl
theorem lstM_ok {ds : List D} : lstM (some ds) = some (.ok (.fr (.l ds))) := rfl
theorem get_br {ks : List (List Key)} {vs : List D} {k x : RV} : getU (some (.ok (.br (.tT ks vs)))) (some (.ok k)) (some (.ok x)) = optR (getV (.br (.tT ks vs)) k x) := get_ok rfl
theorem get_dat {ks : List (List Key)} {vs : List D} {k x : RV} : getU (some (.ok (.dat (.dicT ks vs)))) (some (.ok k)) (some (.ok x)) = optR (getV (.dat (.dicT ks vs)) k x) := get_ok rfl
/-! ### statements -/
def nxt (o : SR) (k : Rho → SR) : SR := match o with | some (.nx ρ') => k ρ' | o => o
theorem nxt_nx {ρ' : Rho} {k : Rho → SR} : nxt (some (.nx ρ')) k = k ρ' := rfl
theorem nxt_rt {r : RV} {k : Rho → SR} : nxt (some (.rt r)) k = some (.rt r) := rfl
theorem nxt_er {e : Er} {ρ' : Rho} {k : Rho → SR} : nxt (some (.er e ρ')) k = some (.er e ρ') := rfl
theorem nxt_bk {ρ' : Rho} {k : Rho → SR} : nxt (some (.bk ρ')) k = some (.bk ρ') := rfl
theorem nxt_ct {ρ' : Rho} {k : Rho → SR} : nxt (some (.ct ρ')) k = some (.ct ρ') := rfl
theorem rb_nil : runB C .nil ρ = some (.nx ρ) := by rw [runB]
theorem rb_cons {s : IS} {r : IB} : runB C (.cons s r) ρ = nxt (runS C s ρ) (runB C r) := by
  rw [runB]
  unfold nxt
  cases runS C s ρ with
  | none => rfl
  | some o => cases o <;> rfl
def frzS (i : Nat) (x : Option (Option LV)) (ρ : Rho) : Rho := match x with | some (some (.own o)) => ρ.set i (some (.dat o.d)) | _ => ρ
theorem frz_own {i : Nat} {o : OV} : frzS i (some (some (.own o))) ρ = ρ.set i (some (.dat o.d)) := rfl
theorem frz_dat {i : Nat} {d : D} : frzS i (some (some (.dat d))) ρ = ρ := rfl
theorem frz_no {i : Nat} : frzS i (some none) ρ = ρ := rfl
theorem rb_frz {i : Nat} {r : IB} : runB C (.frz i r) ρ = runB C r (frzS i ρ[i]? ρ) := by
  rw [runB]
  unfold frzS
  cases ρ[i]? with
  | none => rfl
  | some x =>
    cases x with
    | none => rfl
    | some v => cases v <;> rfl
def asgS (i : Nat) (ρ : Rho) (x : EvR) : SR := liftS x ρ fun r => match r with | .dat d => some (.nx (ρ.set i (some (.dat d)))) | .fr o => some (.nx (ρ.set i (some (.own o)))) | .br _ => none
theorem asg_dat {i : Nat} {d : D} : asgS i ρ (some (.ok (.dat d))) = some (.nx (ρ.set i (some (.dat d)))) := rfl
theorem asg_fr {i : Nat} {o : OV} : asgS i ρ (some (.ok (.fr o))) = some (.nx (ρ.set i (some (.own o)))) := rfl
theorem asg_er {i : Nat} {e : Er} : asgS i ρ (some (.error e)) = some (.er e ρ) := rfl
theorem rs_asg {i : Nat} {e : IE} : runS C (.asg i e) ρ = asgS i ρ (evE C e ρ) := by rw [runS]; rfl
def asgTS (is : List Nat) (ρ : Rho) (x : EvR) : SR := liftS x ρ fun r => match r with | .dat (.tup ds) => (match setT is ds ρ with | some ρ' => some (.nx ρ') | none => none) | _ => none
theorem asgT_ok {is : List Nat} {ds : List D} {ρ' : Rho} (h : setT is ds ρ = some ρ') : asgTS is ρ (some (.ok (.dat (.tup ds)))) = some (.nx ρ') := by
  show (match setT is ds ρ with | some ρ' => some (SO.nx ρ') | none => none) = _
  rw [h]
theorem rs_asgT {is : List Nat} {e : IE} : runS C (.asgT is e) ρ = asgTS is ρ (evE C e ρ) := by
  rw [runS]
  rfl
def appS (i : Nat) (ρ : Rho) (s : Option (Option LV)) (x : EvR) : SR := match s with
  | some (some (.own (.l ds))) => liftS x ρ fun r => (match toD r with | some d => if ds.length < 16777216 then some (.nx (ρ.set i (some (.own (.l (ds ++ [d])))))) else none | none => none)
  | _ => none
theorem app_ok {i : Nat} {ds : List D} {r : RV} {d : D} (h : toD r = some d) (hl : ds.length < 16777216) : appS i ρ (some (some (.own (.l ds)))) (some (.ok r)) = some (.nx (ρ.set i (some (.own (.l (ds ++ [d])))))) := by
  show (match toD r with | some d => if ds.length < 16777216 then some (SO.nx (ρ.set i (some (.own (.l (ds ++ [d])))))) else none | none => none) = _
  rw [h]
  exact if_pos hl
theorem app_dat {i : Nat} {ds : List D} {d : D} : appS i ρ (some (some (.own (.l ds)))) (some (.ok (.dat d))) = if ds.length < 16777216 then some (.nx (ρ.set i (some (.own (.l (ds ++ [d])))))) else none := rfl
theorem app_fr {i : Nat} {ds : List D} {o : OV} : appS i ρ (some (some (.own (.l ds)))) (some (.ok (.fr o))) = if ds.length < 16777216 then some (.nx (ρ.set i (some (.own (.l (ds ++ [o.d])))))) else none := rfl
theorem rs_app {i : Nat} {e : IE} : runS C (.app i e) ρ = appS i ρ ρ[i]? (evE C e ρ) := by
  rw [runS]
  unfold appS
  rfl
def setS (i : Nat) (ρ : Rho) (x : EvR) (s : Option (Option LV)) (k : EvR) : SR := liftS x ρ fun r => match toD r, s with
  | some d, some (some (.own o)) => liftS k ρ fun j => putX i ρ d o j
  | _, _ => none
theorem set_ok {i : Nat} {r : RV} {d : D} {o : OV} {j : RV} (h : toD r = some d) : setS i ρ (some (.ok r)) (some (some (.own o))) (some (.ok j)) = putX i ρ d o j := by
  show (match toD r, some (some (LV.own o)) with | some d, some (some (.own o)) => liftS (some (.ok j)) ρ fun j => putX i ρ d o j | _, _ => none) = _
  rw [h]
  rfl
theorem set_dat {i : Nat} {d : D} {o : OV} {j : RV} : setS i ρ (some (.ok (.dat d))) (some (some (.own o))) (some (.ok j)) = putX i ρ d o j := rfl
theorem rs_setL {i : Nat} {k e : IE} : runS C (.setL i k e) ρ = setS i ρ (evE C e ρ) ρ[i]? (evE C k ρ) := by
  rw [runS]
  rfl
def iteS (t : Ans Bool) (a b : Rho → SR) (ρ : Rho) : SR := liftS t ρ fun k => match k with | true => a ρ | false => b ρ
theorem iteS_t {a b : Rho → SR} : iteS (some (.ok true)) a b ρ = a ρ := rfl
theorem iteS_f {a b : Rho → SR} : iteS (some (.ok false)) a b ρ = b ρ := rfl
theorem rs_iff {c : IE} {a b : IB} : runS C (.iff c a b) ρ = iteS (evT C c ρ) (runB C a) (runB C b) ρ := by rw [runS]; rfl
def forS (ds : Ans (List D)) (step : D → Rho → SR) (ρ : Rho) : SR := liftS ds ρ fun ds => forL step ds ρ
theorem for_ok {ds : List D} {step : D → Rho → SR} : forS (some (.ok ds)) step ρ = forL step ds ρ := rfl
theorem rs_for {g : Tg} {src : ISrc} {b : IB} : runS C (.forr g src b) ρ = forS (evFor C src (g.slots ++ tchB b) ρ) (stepL g (runB C b)) ρ := by rw [runS]; rfl
theorem rs_while {c : IE} {b : IB} : runS C (.whil c b) ρ = whileL (evT C c) (runB C b) C.fuel ρ := by rw [runS]
theorem ef_rg {as : IA} {js : List Nat} : evFor C (.range as) js ρ = rgU (evA C as ρ) := by
  show evSrc C (.range as) ρ = _
  rw [es_rg]
def itF (x : EvR) : Ans (List D) := bindR x fun x => match isBr x with | false => optR (seqV x) | true => none
/-- a for over a name -/
theorem ef_var {i : Nat} {js : List Nat} {d : D} {ds : List D} (h : ρ[i]? = some (some (.dat d))) (hs : seqV (.dat d) = some ds) : evFor C (.it (.var i)) js ρ = some (.ok ds) := by
  show bindR (evE C (.var i) ρ) _ = _
  rw [ev_var, h]
  show optR (seqV (.dat d)) = _
  rw [hs]
  rfl
theorem ef_own {i : Nat} {js : List Nat} {ds : List D} (h : ρ[i]? = some (some (.own (.l ds)))) (hj : js.contains i = false) : evFor C (.it (.var i)) js ρ = some (.ok ds) := by
  show bindR (evE C (.var i) ρ) _ = _
  rw [ev_var, h]
  show (match js.contains i with | false => optR (seqV (.br (.l ds))) | true => none) = _
  rw [hj]
  rfl
def retS (ρ : Rho) (x : EvR) : SR := liftS x ρ fun r => match r with | .br _ => none | r => some (.rt r)
theorem ret_dat {d : D} : retS ρ (some (.ok (.dat d))) = some (.rt (.dat d)) := rfl
theorem ret_fr {o : OV} : retS ρ (some (.ok (.fr o))) = some (.rt (.fr o)) := rfl
theorem ret_er {e : Er} : retS ρ (some (.error e)) = some (.er e ρ) := rfl
theorem rs_ret {e : IE} : runS C (.ret e) ρ = retS ρ (evE C e ρ) := by
  rw [runS]
  unfold retS
  congr 1
def retVS (s : Option (Option LV)) : SR := match s with | some (some (.dat d)) => some (.rt (.dat d)) | some (some (.own o)) => some (.rt (.fr o)) | _ => none
theorem retV_dat {d : D} : retVS (some (some (.dat d))) = some (.rt (.dat d)) := rfl
theorem retV_own {o : OV} : retVS (some (some (.own o))) = some (.rt (.fr o)) := rfl
theorem rs_retV {i : Nat} : runS C (.retV i) ρ = retVS ρ[i]? := by rw [runS]; rfl
theorem rs_retN : runS C .retN ρ = some (.rt (.dat .non)) := by rw [runS]
theorem rs_brk : runS C .brk ρ = some (.bk ρ) := by rw [runS]
theorem rs_cnt : runS C .cnt ρ = some (.ct ρ) := by rw [runS]
theorem rs_pas : runS C .pas ρ = some (.nx ρ) := by rw [runS]
def dropS (ρ : Rho) (x : EvR) : SR := liftS x ρ fun _ => some (.nx ρ)
theorem drop_ok {r : RV} : dropS ρ (some (.ok r)) = some (.nx ρ) := rfl
theorem drop_er {e : Er} : dropS ρ (some (.error e)) = some (.er e ρ) := rfl
theorem rn_expr {e : IE} : runS C (.expr e) ρ = dropS ρ (evE C e ρ) := by rw [runS]; rfl
def raiS (f : Option (List D → Option Er)) (rs : Ans (List RV)) (ρ : Rho) : SR := match f with | some f => liftS rs ρ fun rs => erS f rs ρ | none => none
theorem rai_ok {f : List D → Option Er} {rs : List RV} {ds : List D} {e : Er} (h : toDs rs = some ds) (he : f ds = some e) : raiS (some f) (some (.ok rs)) ρ = some (.er e ρ) := by
  show erS f rs ρ = _
  unfold erS
  rw [h]
  show (match f ds with | some e => some (SO.er e ρ) | none => none) = _
  rw [he]
theorem rai_f {f : List D → Option Er} {rs : List RV} : raiS (some f) (some (.ok rs)) ρ = erS f rs ρ := rfl
theorem rs_rais {c : Str} {as : IA} : runS C (.rais c as) ρ = raiS (C.mkE c) (evA C as ρ) ρ := by rw [runS]; rfl
def triS (C : Cfg) (o : SR) (c : Str) (i : Nat) (s : Rho → SR) : SR := match o with
  | some (.er e ρ') => (match C.isa e.c c with | some true => endS i (s (ρ'.set i (some (.dat (.exc e.c e.ns e.fs))))) | some false => some (.er e ρ') | none => none)
  | r => r
theorem tri_nx {c : Str} {i : Nat} {s : Rho → SR} {ρ' : Rho} : triS C (some (.nx ρ')) c i s = some (.nx ρ') := rfl
theorem tri_rt {c : Str} {i : Nat} {s : Rho → SR} {r : RV} : triS C (some (.rt r)) c i s = some (.rt r) := rfl
theorem tri_er {c : Str} {i : Nat} {s : Rho → SR} {ρ' : Rho} {e : Er} (h : C.isa e.c c = some true) : triS C (some (.er e ρ')) c i s = endS i (s (ρ'.set i (some (.dat (.exc e.c e.ns e.fs))))) := by
  show (match C.isa e.c c with | some true => endS i (s (ρ'.set i (some (.dat (.exc e.c e.ns e.fs))))) | some false => some (.er e ρ') | none => none) = _
  rw [h]
theorem rs_tri {b s : IB} {c : Str} {i : Nat} : runS C (.tri b c i s) ρ = triS C (runB C b ρ) c i (runB C.hot s) := by
  rw [runS]
  unfold triS
  cases runB C b ρ with
  | none => rfl
  | some o => cases o <;> rfl
/-- a def's answer from its body's -/
def endF (o : SR) : EvR := match o with | some (.nx _) => some (.ok (.dat .non)) | some (.rt r) => some (.ok r) | some (.er e _) => some (.error e) | _ => none
theorem endF_rt {r : RV} : endF (some (.rt r)) = some (.ok r) := rfl
theorem endF_nx : endF (some (.nx ρ)) = some (.ok (.dat .non)) := rfl
theorem endF_er {e : Er} : endF (some (.er e ρ)) = some (.error e) := rfl
theorem mk_m {name : Str} {n m : Nat} {b : IB} {ds : List D} : (mkFn C name n m b).m ds = endF (runB C b (ds.map (fun d => some (.dat d)) ++ List.replicate (m - n) none)) := rfl
theorem isi_exc {isa : Str → Str → Option Bool} {c x : Str} {ns : List Str} {fs : List D} : isiV isa (.dat (.exc c ns fs)) (.own x) = isa c x := rfl
theorem attr_ok {fld : Str → Str → Bool} {c f : Str} {ns : List Str} {fs : List D} {d : D} (h : fld c f = true) (h2 : fldD ns fs f = some d) : attrV fld (.dat (.exc c ns fs)) f = some (.dat d) := by
  show (if fld c f = true then (match fldD ns fs f with | some d => some (RV.dat d) | none => none) else none) = _
  rw [if_pos h, h2]
/-! ### items by written places -/
theorem ixl_0 {a0 : D} {ds : List D} : ixW (.dat (.lst (a0 :: ds))) (.dat (.int 0)) = some (.dat a0) := ix_l (atI_get (by decide) rfl)
theorem ixt_0 {a0 : D} {ds : List D} : ixW (.dat (.tup (a0 :: ds))) (.dat (.int 0)) = some (.dat a0) := ix_t (atI_get (by decide) rfl)
theorem ixb_0 {a0 : D} {ds : List D} : ixW (.br (.l (a0 :: ds))) (.dat (.int 0)) = some (.dat a0) := ix_b (atI_get (by decide) rfl)
theorem ixf_0 {a0 : D} {ds : List D} : ixW (.fr (.l (a0 :: ds))) (.dat (.int 0)) = some (.dat a0) := ix_f (atI_get (by decide) rfl)
theorem ixl_1 {a0 a1 : D} {ds : List D} : ixW (.dat (.lst (a0 :: a1 :: ds))) (.dat (.int 1)) = some (.dat a1) := ix_l (atI_get (by decide) rfl)
theorem ixt_1 {a0 a1 : D} {ds : List D} : ixW (.dat (.tup (a0 :: a1 :: ds))) (.dat (.int 1)) = some (.dat a1) := ix_t (atI_get (by decide) rfl)
theorem ixb_1 {a0 a1 : D} {ds : List D} : ixW (.br (.l (a0 :: a1 :: ds))) (.dat (.int 1)) = some (.dat a1) := ix_b (atI_get (by decide) rfl)
theorem ixf_1 {a0 a1 : D} {ds : List D} : ixW (.fr (.l (a0 :: a1 :: ds))) (.dat (.int 1)) = some (.dat a1) := ix_f (atI_get (by decide) rfl)
theorem ixl_2 {a0 a1 a2 : D} {ds : List D} : ixW (.dat (.lst (a0 :: a1 :: a2 :: ds))) (.dat (.int 2)) = some (.dat a2) := ix_l (atI_get (by decide) rfl)
theorem ixt_2 {a0 a1 a2 : D} {ds : List D} : ixW (.dat (.tup (a0 :: a1 :: a2 :: ds))) (.dat (.int 2)) = some (.dat a2) := ix_t (atI_get (by decide) rfl)
theorem ixb_2 {a0 a1 a2 : D} {ds : List D} : ixW (.br (.l (a0 :: a1 :: a2 :: ds))) (.dat (.int 2)) = some (.dat a2) := ix_b (atI_get (by decide) rfl)
theorem ixf_2 {a0 a1 a2 : D} {ds : List D} : ixW (.fr (.l (a0 :: a1 :: a2 :: ds))) (.dat (.int 2)) = some (.dat a2) := ix_f (atI_get (by decide) rfl)
theorem ixl_3 {a0 a1 a2 a3 : D} {ds : List D} : ixW (.dat (.lst (a0 :: a1 :: a2 :: a3 :: ds))) (.dat (.int 3)) = some (.dat a3) := ix_l (atI_get (by decide) rfl)
theorem ixt_3 {a0 a1 a2 a3 : D} {ds : List D} : ixW (.dat (.tup (a0 :: a1 :: a2 :: a3 :: ds))) (.dat (.int 3)) = some (.dat a3) := ix_t (atI_get (by decide) rfl)
theorem ixb_3 {a0 a1 a2 a3 : D} {ds : List D} : ixW (.br (.l (a0 :: a1 :: a2 :: a3 :: ds))) (.dat (.int 3)) = some (.dat a3) := ix_b (atI_get (by decide) rfl)
theorem ixf_3 {a0 a1 a2 a3 : D} {ds : List D} : ixW (.fr (.l (a0 :: a1 :: a2 :: a3 :: ds))) (.dat (.int 3)) = some (.dat a3) := ix_f (atI_get (by decide) rfl)
theorem ixl_4 {a0 a1 a2 a3 a4 : D} {ds : List D} : ixW (.dat (.lst (a0 :: a1 :: a2 :: a3 :: a4 :: ds))) (.dat (.int 4)) = some (.dat a4) := ix_l (atI_get (by decide) rfl)
theorem ixt_4 {a0 a1 a2 a3 a4 : D} {ds : List D} : ixW (.dat (.tup (a0 :: a1 :: a2 :: a3 :: a4 :: ds))) (.dat (.int 4)) = some (.dat a4) := ix_t (atI_get (by decide) rfl)
theorem ixb_4 {a0 a1 a2 a3 a4 : D} {ds : List D} : ixW (.br (.l (a0 :: a1 :: a2 :: a3 :: a4 :: ds))) (.dat (.int 4)) = some (.dat a4) := ix_b (atI_get (by decide) rfl)
theorem ixf_4 {a0 a1 a2 a3 a4 : D} {ds : List D} : ixW (.fr (.l (a0 :: a1 :: a2 :: a3 :: a4 :: ds))) (.dat (.int 4)) = some (.dat a4) := ix_f (atI_get (by decide) rfl)
theorem ixl_5 {a0 a1 a2 a3 a4 a5 : D} {ds : List D} : ixW (.dat (.lst (a0 :: a1 :: a2 :: a3 :: a4 :: a5 :: ds))) (.dat (.int 5)) = some (.dat a5) := ix_l (atI_get (by decide) rfl)
theorem ixt_5 {a0 a1 a2 a3 a4 a5 : D} {ds : List D} : ixW (.dat (.tup (a0 :: a1 :: a2 :: a3 :: a4 :: a5 :: ds))) (.dat (.int 5)) = some (.dat a5) := ix_t (atI_get (by decide) rfl)
theorem ixb_5 {a0 a1 a2 a3 a4 a5 : D} {ds : List D} : ixW (.br (.l (a0 :: a1 :: a2 :: a3 :: a4 :: a5 :: ds))) (.dat (.int 5)) = some (.dat a5) := ix_b (atI_get (by decide) rfl)
theorem ixf_5 {a0 a1 a2 a3 a4 a5 : D} {ds : List D} : ixW (.fr (.l (a0 :: a1 :: a2 :: a3 :: a4 :: a5 :: ds))) (.dat (.int 5)) = some (.dat a5) := ix_f (atI_get (by decide) rfl)
theorem ixl_6 {a0 a1 a2 a3 a4 a5 a6 : D} {ds : List D} : ixW (.dat (.lst (a0 :: a1 :: a2 :: a3 :: a4 :: a5 :: a6 :: ds))) (.dat (.int 6)) = some (.dat a6) := ix_l (atI_get (by decide) rfl)
theorem ixt_6 {a0 a1 a2 a3 a4 a5 a6 : D} {ds : List D} : ixW (.dat (.tup (a0 :: a1 :: a2 :: a3 :: a4 :: a5 :: a6 :: ds))) (.dat (.int 6)) = some (.dat a6) := ix_t (atI_get (by decide) rfl)
theorem ixb_6 {a0 a1 a2 a3 a4 a5 a6 : D} {ds : List D} : ixW (.br (.l (a0 :: a1 :: a2 :: a3 :: a4 :: a5 :: a6 :: ds))) (.dat (.int 6)) = some (.dat a6) := ix_b (atI_get (by decide) rfl)
theorem ixf_6 {a0 a1 a2 a3 a4 a5 a6 : D} {ds : List D} : ixW (.fr (.l (a0 :: a1 :: a2 :: a3 :: a4 :: a5 :: a6 :: ds))) (.dat (.int 6)) = some (.dat a6) := ix_f (atI_get (by decide) rfl)
theorem ixl_7 {a0 a1 a2 a3 a4 a5 a6 a7 : D} {ds : List D} : ixW (.dat (.lst (a0 :: a1 :: a2 :: a3 :: a4 :: a5 :: a6 :: a7 :: ds))) (.dat (.int 7)) = some (.dat a7) := ix_l (atI_get (by decide) rfl)
theorem ixt_7 {a0 a1 a2 a3 a4 a5 a6 a7 : D} {ds : List D} : ixW (.dat (.tup (a0 :: a1 :: a2 :: a3 :: a4 :: a5 :: a6 :: a7 :: ds))) (.dat (.int 7)) = some (.dat a7) := ix_t (atI_get (by decide) rfl)
theorem ixb_7 {a0 a1 a2 a3 a4 a5 a6 a7 : D} {ds : List D} : ixW (.br (.l (a0 :: a1 :: a2 :: a3 :: a4 :: a5 :: a6 :: a7 :: ds))) (.dat (.int 7)) = some (.dat a7) := ix_b (atI_get (by decide) rfl)
theorem ixf_7 {a0 a1 a2 a3 a4 a5 a6 a7 : D} {ds : List D} : ixW (.fr (.l (a0 :: a1 :: a2 :: a3 :: a4 :: a5 :: a6 :: a7 :: ds))) (.dat (.int 7)) = some (.dat a7) := ix_f (atI_get (by decide) rfl)
theorem ixl_8 {a0 a1 a2 a3 a4 a5 a6 a7 a8 : D} {ds : List D} : ixW (.dat (.lst (a0 :: a1 :: a2 :: a3 :: a4 :: a5 :: a6 :: a7 :: a8 :: ds))) (.dat (.int 8)) = some (.dat a8) := ix_l (atI_get (by decide) rfl)
theorem ixt_8 {a0 a1 a2 a3 a4 a5 a6 a7 a8 : D} {ds : List D} : ixW (.dat (.tup (a0 :: a1 :: a2 :: a3 :: a4 :: a5 :: a6 :: a7 :: a8 :: ds))) (.dat (.int 8)) = some (.dat a8) := ix_t (atI_get (by decide) rfl)
theorem ixb_8 {a0 a1 a2 a3 a4 a5 a6 a7 a8 : D} {ds : List D} : ixW (.br (.l (a0 :: a1 :: a2 :: a3 :: a4 :: a5 :: a6 :: a7 :: a8 :: ds))) (.dat (.int 8)) = some (.dat a8) := ix_b (atI_get (by decide) rfl)
theorem ixf_8 {a0 a1 a2 a3 a4 a5 a6 a7 a8 : D} {ds : List D} : ixW (.fr (.l (a0 :: a1 :: a2 :: a3 :: a4 :: a5 :: a6 :: a7 :: a8 :: ds))) (.dat (.int 8)) = some (.dat a8) := ix_f (atI_get (by decide) rfl)
theorem ixl_9 {a0 a1 a2 a3 a4 a5 a6 a7 a8 a9 : D} {ds : List D} : ixW (.dat (.lst (a0 :: a1 :: a2 :: a3 :: a4 :: a5 :: a6 :: a7 :: a8 :: a9 :: ds))) (.dat (.int 9)) = some (.dat a9) := ix_l (atI_get (by decide) rfl)
theorem ixt_9 {a0 a1 a2 a3 a4 a5 a6 a7 a8 a9 : D} {ds : List D} : ixW (.dat (.tup (a0 :: a1 :: a2 :: a3 :: a4 :: a5 :: a6 :: a7 :: a8 :: a9 :: ds))) (.dat (.int 9)) = some (.dat a9) := ix_t (atI_get (by decide) rfl)
theorem ixb_9 {a0 a1 a2 a3 a4 a5 a6 a7 a8 a9 : D} {ds : List D} : ixW (.br (.l (a0 :: a1 :: a2 :: a3 :: a4 :: a5 :: a6 :: a7 :: a8 :: a9 :: ds))) (.dat (.int 9)) = some (.dat a9) := ix_b (atI_get (by decide) rfl)
theorem ixf_9 {a0 a1 a2 a3 a4 a5 a6 a7 a8 a9 : D} {ds : List D} : ixW (.fr (.l (a0 :: a1 :: a2 :: a3 :: a4 :: a5 :: a6 :: a7 :: a8 :: a9 :: ds))) (.dat (.int 9)) = some (.dat a9) := ix_f (atI_get (by decide) rfl)
theorem ixl_10 {a0 a1 a2 a3 a4 a5 a6 a7 a8 a9 a10 : D} {ds : List D} : ixW (.dat (.lst (a0 :: a1 :: a2 :: a3 :: a4 :: a5 :: a6 :: a7 :: a8 :: a9 :: a10 :: ds))) (.dat (.int 10)) = some (.dat a10) := ix_l (atI_get (by decide) rfl)
theorem ixt_10 {a0 a1 a2 a3 a4 a5 a6 a7 a8 a9 a10 : D} {ds : List D} : ixW (.dat (.tup (a0 :: a1 :: a2 :: a3 :: a4 :: a5 :: a6 :: a7 :: a8 :: a9 :: a10 :: ds))) (.dat (.int 10)) = some (.dat a10) := ix_t (atI_get (by decide) rfl)
theorem ixb_10 {a0 a1 a2 a3 a4 a5 a6 a7 a8 a9 a10 : D} {ds : List D} : ixW (.br (.l (a0 :: a1 :: a2 :: a3 :: a4 :: a5 :: a6 :: a7 :: a8 :: a9 :: a10 :: ds))) (.dat (.int 10)) = some (.dat a10) := ix_b (atI_get (by decide) rfl)
theorem ixf_10 {a0 a1 a2 a3 a4 a5 a6 a7 a8 a9 a10 : D} {ds : List D} : ixW (.fr (.l (a0 :: a1 :: a2 :: a3 :: a4 :: a5 :: a6 :: a7 :: a8 :: a9 :: a10 :: ds))) (.dat (.int 10)) = some (.dat a10) := ix_f (atI_get (by decide) rfl)
theorem ixl_11 {a0 a1 a2 a3 a4 a5 a6 a7 a8 a9 a10 a11 : D} {ds : List D} : ixW (.dat (.lst (a0 :: a1 :: a2 :: a3 :: a4 :: a5 :: a6 :: a7 :: a8 :: a9 :: a10 :: a11 :: ds))) (.dat (.int 11)) = some (.dat a11) := ix_l (atI_get (by decide) rfl)
theorem ixt_11 {a0 a1 a2 a3 a4 a5 a6 a7 a8 a9 a10 a11 : D} {ds : List D} : ixW (.dat (.tup (a0 :: a1 :: a2 :: a3 :: a4 :: a5 :: a6 :: a7 :: a8 :: a9 :: a10 :: a11 :: ds))) (.dat (.int 11)) = some (.dat a11) := ix_t (atI_get (by decide) rfl)
theorem ixb_11 {a0 a1 a2 a3 a4 a5 a6 a7 a8 a9 a10 a11 : D} {ds : List D} : ixW (.br (.l (a0 :: a1 :: a2 :: a3 :: a4 :: a5 :: a6 :: a7 :: a8 :: a9 :: a10 :: a11 :: ds))) (.dat (.int 11)) = some (.dat a11) := ix_b (atI_get (by decide) rfl)
theorem ixf_11 {a0 a1 a2 a3 a4 a5 a6 a7 a8 a9 a10 a11 : D} {ds : List D} : ixW (.fr (.l (a0 :: a1 :: a2 :: a3 :: a4 :: a5 :: a6 :: a7 :: a8 :: a9 :: a10 :: a11 :: ds))) (.dat (.int 11)) = some (.dat a11) := ix_f (atI_get (by decide) rfl)
theorem ixl_12 {a0 a1 a2 a3 a4 a5 a6 a7 a8 a9 a10 a11 a12 : D} {ds : List D} : ixW (.dat (.lst (a0 :: a1 :: a2 :: a3 :: a4 :: a5 :: a6 :: a7 :: a8 :: a9 :: a10 :: a11 :: a12 :: ds))) (.dat (.int 12)) = some (.dat a12) := ix_l (atI_get (by decide) rfl)
theorem ixt_12 {a0 a1 a2 a3 a4 a5 a6 a7 a8 a9 a10 a11 a12 : D} {ds : List D} : ixW (.dat (.tup (a0 :: a1 :: a2 :: a3 :: a4 :: a5 :: a6 :: a7 :: a8 :: a9 :: a10 :: a11 :: a12 :: ds))) (.dat (.int 12)) = some (.dat a12) := ix_t (atI_get (by decide) rfl)
theorem ixb_12 {a0 a1 a2 a3 a4 a5 a6 a7 a8 a9 a10 a11 a12 : D} {ds : List D} : ixW (.br (.l (a0 :: a1 :: a2 :: a3 :: a4 :: a5 :: a6 :: a7 :: a8 :: a9 :: a10 :: a11 :: a12 :: ds))) (.dat (.int 12)) = some (.dat a12) := ix_b (atI_get (by decide) rfl)
theorem ixf_12 {a0 a1 a2 a3 a4 a5 a6 a7 a8 a9 a10 a11 a12 : D} {ds : List D} : ixW (.fr (.l (a0 :: a1 :: a2 :: a3 :: a4 :: a5 :: a6 :: a7 :: a8 :: a9 :: a10 :: a11 :: a12 :: ds))) (.dat (.int 12)) = some (.dat a12) := ix_f (atI_get (by decide) rfl)
theorem ixl_13 {a0 a1 a2 a3 a4 a5 a6 a7 a8 a9 a10 a11 a12 a13 : D} {ds : List D} : ixW (.dat (.lst (a0 :: a1 :: a2 :: a3 :: a4 :: a5 :: a6 :: a7 :: a8 :: a9 :: a10 :: a11 :: a12 :: a13 :: ds))) (.dat (.int 13)) = some (.dat a13) := ix_l (atI_get (by decide) rfl)
theorem ixt_13 {a0 a1 a2 a3 a4 a5 a6 a7 a8 a9 a10 a11 a12 a13 : D} {ds : List D} : ixW (.dat (.tup (a0 :: a1 :: a2 :: a3 :: a4 :: a5 :: a6 :: a7 :: a8 :: a9 :: a10 :: a11 :: a12 :: a13 :: ds))) (.dat (.int 13)) = some (.dat a13) := ix_t (atI_get (by decide) rfl)
theorem ixb_13 {a0 a1 a2 a3 a4 a5 a6 a7 a8 a9 a10 a11 a12 a13 : D} {ds : List D} : ixW (.br (.l (a0 :: a1 :: a2 :: a3 :: a4 :: a5 :: a6 :: a7 :: a8 :: a9 :: a10 :: a11 :: a12 :: a13 :: ds))) (.dat (.int 13)) = some (.dat a13) := ix_b (atI_get (by decide) rfl)
theorem ixf_13 {a0 a1 a2 a3 a4 a5 a6 a7 a8 a9 a10 a11 a12 a13 : D} {ds : List D} : ixW (.fr (.l (a0 :: a1 :: a2 :: a3 :: a4 :: a5 :: a6 :: a7 :: a8 :: a9 :: a10 :: a11 :: a12 :: a13 :: ds))) (.dat (.int 13)) = some (.dat a13) := ix_f (atI_get (by decide) rfl)
theorem ixl_14 {a0 a1 a2 a3 a4 a5 a6 a7 a8 a9 a10 a11 a12 a13 a14 : D} {ds : List D} : ixW (.dat (.lst (a0 :: a1 :: a2 :: a3 :: a4 :: a5 :: a6 :: a7 :: a8 :: a9 :: a10 :: a11 :: a12 :: a13 :: a14 :: ds))) (.dat (.int 14)) = some (.dat a14) := ix_l (atI_get (by decide) rfl)
theorem ixt_14 {a0 a1 a2 a3 a4 a5 a6 a7 a8 a9 a10 a11 a12 a13 a14 : D} {ds : List D} : ixW (.dat (.tup (a0 :: a1 :: a2 :: a3 :: a4 :: a5 :: a6 :: a7 :: a8 :: a9 :: a10 :: a11 :: a12 :: a13 :: a14 :: ds))) (.dat (.int 14)) = some (.dat a14) := ix_t (atI_get (by decide) rfl)
theorem ixb_14 {a0 a1 a2 a3 a4 a5 a6 a7 a8 a9 a10 a11 a12 a13 a14 : D} {ds : List D} : ixW (.br (.l (a0 :: a1 :: a2 :: a3 :: a4 :: a5 :: a6 :: a7 :: a8 :: a9 :: a10 :: a11 :: a12 :: a13 :: a14 :: ds))) (.dat (.int 14)) = some (.dat a14) := ix_b (atI_get (by decide) rfl)
theorem ixf_14 {a0 a1 a2 a3 a4 a5 a6 a7 a8 a9 a10 a11 a12 a13 a14 : D} {ds : List D} : ixW (.fr (.l (a0 :: a1 :: a2 :: a3 :: a4 :: a5 :: a6 :: a7 :: a8 :: a9 :: a10 :: a11 :: a12 :: a13 :: a14 :: ds))) (.dat (.int 14)) = some (.dat a14) := ix_f (atI_get (by decide) rfl)
theorem ixl_15 {a0 a1 a2 a3 a4 a5 a6 a7 a8 a9 a10 a11 a12 a13 a14 a15 : D} {ds : List D} : ixW (.dat (.lst (a0 :: a1 :: a2 :: a3 :: a4 :: a5 :: a6 :: a7 :: a8 :: a9 :: a10 :: a11 :: a12 :: a13 :: a14 :: a15 :: ds))) (.dat (.int 15)) = some (.dat a15) := ix_l (atI_get (by decide) rfl)
theorem ixt_15 {a0 a1 a2 a3 a4 a5 a6 a7 a8 a9 a10 a11 a12 a13 a14 a15 : D} {ds : List D} : ixW (.dat (.tup (a0 :: a1 :: a2 :: a3 :: a4 :: a5 :: a6 :: a7 :: a8 :: a9 :: a10 :: a11 :: a12 :: a13 :: a14 :: a15 :: ds))) (.dat (.int 15)) = some (.dat a15) := ix_t (atI_get (by decide) rfl)
theorem ixb_15 {a0 a1 a2 a3 a4 a5 a6 a7 a8 a9 a10 a11 a12 a13 a14 a15 : D} {ds : List D} : ixW (.br (.l (a0 :: a1 :: a2 :: a3 :: a4 :: a5 :: a6 :: a7 :: a8 :: a9 :: a10 :: a11 :: a12 :: a13 :: a14 :: a15 :: ds))) (.dat (.int 15)) = some (.dat a15) := ix_b (atI_get (by decide) rfl)
theorem ixf_15 {a0 a1 a2 a3 a4 a5 a6 a7 a8 a9 a10 a11 a12 a13 a14 a15 : D} {ds : List D} : ixW (.fr (.l (a0 :: a1 :: a2 :: a3 :: a4 :: a5 :: a6 :: a7 :: a8 :: a9 :: a10 :: a11 :: a12 :: a13 :: a14 :: a15 :: ds))) (.dat (.int 15)) = some (.dat a15) := ix_f (atI_get (by decide) rfl)
end
end DE

set_option Elab.async false
set_option linter.all false
set_option maxRecDepth 100000
set_option maxHeartbeats 4000000
/-! DE14: rows of sums by the evaluator, equal data. -/
namespace DE
open PySem L2
/-- entries of one size -/
def Sized (s : Int) (es : List Ent) : Prop := ∀ e ∈ es, (e.1.length : Int) = s
theorem flat_p (p : Pl) : flatDs (p.map D.int) = true := by
  induction p with
  | nil => rfl
  | cons x p ih =>
    show (flatD (.int x) && flatDs (p.map D.int)) = true
    rw [ih]
    rfl
theorem flat_e (e : Ent) : flatD (eD e) = true := by
  show (flatDs (e.1.map D.int) && (flatD (.int e.2) && true)) = true
  rw [flat_p]
  rfl
theorem flat_es : ∀ es : List Ent, flatDs (es.map eD) = true
  | [] => rfl
  | e :: es => by
    show (flatD (eD e) && flatDs (es.map eD)) = true
    rw [flat_e, flat_es es]
    rfl
/-! ### equal data -/
theorem eqv_ints : ∀ p : Pl, PyData.eqvAll (p.map PyData.int) (p.map PyData.int) = true
  | [] => rfl
  | x :: p => by
    show (PyData.eqv (.int x) (.int x) && PyData.eqvAll (p.map PyData.int) (p.map PyData.int)) = true
    rw [eqv_ints p]
    show (x == x && true) = true
    simp
theorem pyD_eD (e : Ent) : pyD (eD e) = .tuple [.tuple (e.1.map .int), .int e.2] := by
  show PyData.tuple [pyD (pD e.1), .int e.2] = _
  rw [pyD_pD]
theorem eqv_e (e : Ent) : PyData.eqv (pyD (eD e)) (pyD (eD e)) = true := by
  rw [pyD_eD]
  show (PyData.eqvAll (e.1.map PyData.int) (e.1.map PyData.int) && ((e.2 == e.2) && true)) = true
  rw [eqv_ints]
  simp
theorem eqv_es : ∀ es : List Ent, PyData.eqvAll (pyDs (es.map eD)) (pyDs (es.map eD)) = true
  | [] => rfl
  | e :: es => by
    show (PyData.eqv (pyD (eD e)) (pyD (eD e)) && PyData.eqvAll (pyDs (es.map eD)) (pyDs (es.map eD))) = true
    rw [eqv_e, eqv_es es]
    rfl
theorem okD_e (e : Ent) (n : Nat) : okD (eD e) (n + 2) = true := by
  show (okD (pD e.1) (n + 1) && (okD (.int e.2) (n + 1) && true)) = true
  rw [okD_pD]
  rfl
theorem okDs_es : ∀ (es : List Ent) (n : Nat), okDs (es.map eD) (n + 2) = true
  | [], _ => rfl
  | e :: es, n => by
    show (okD (eD e) (n + 2) && okDs (es.map eD) (n + 2)) = true
    rw [okD_e, okDs_es es n]
    rfl
theorem eqV_rows (es : List Ent) : eqV (.lst (es.map eD)) (.lst (es.map eD)) = some true := by
  have h : eqV (.lst (es.map eD)) (.lst (es.map eD)) = if okD (.lst (es.map eD)) 60 = true ∧ okD (.lst (es.map eD)) 60 = true then some (PyData.eqv (pyD (.lst (es.map eD))) (pyD (.lst (es.map eD)))) else none := rfl
  have ok : okD (.lst (es.map eD)) 60 = true := okDs_es es 57
  rw [h, if_pos ⟨ok, ok⟩]
  exact congrArg some (eqv_es es)
/-! ### rows of sums -/
def rowOf (as : List Ent) : List Ent := (sortP (as.map (·.1))).filterMap fun p => if (getA as p).getD 0 = 0 then none else some (p, (getA as p).getD 0)
theorem get_mem : ∀ {as : List Ent} {p : Pl}, p ∈ as.map (·.1) → ∃ n, getA as p = some n
  | [], p, h => by simp at h
  | e :: r, p, h => by
    by_cases hp : e.1 = p
    · exact ⟨e.2, by show (if e.1 = p then some e.2 else getA r p) = _; rw [if_pos hp]⟩
    · obtain ⟨n, hn⟩ := get_mem (as := r) (p := p) ((List.mem_cons.mp h).elim (fun z => absurd z.symm hp) id)
      exact ⟨n, by show (if e.1 = p then some e.2 else getA r p) = _; rw [if_neg hp]; exact hn⟩
theorem dix_A {x : RV} {as : List Ent} {p : Pl} {n : Int} (hd : isDic x = true) (hk : keysT x = some (ksA as)) (hv : valsT x = vsA as) (h : getA as p = some n) : ixW x (.dat (pD p)) = some (.dat (.int n)) := by
  unfold ixW
  rw [hd]
  show (match dictV x (pD p) with | some (some d) => some (RV.dat d) | _ => none) = _
  have e : dictV x (pD p) = some (some (.int n)) := by
    unfold dictV
    rw [hk, tkeyOf_pD, hv]
    show some (dget (ksA as) (vsA as) (kI p)) = _
    rw [dget_A, h]
    rfl
  rw [e]
theorem sorted_A {x : RV} {as : List Ent} (hk : keysT x = some (ksA as)) (hne : ∀ p ∈ as.map (·.1), p ≠ []) : biV .sorted [x] = some (.fr (.l ((sortP (as.map (·.1))).map pD))) := by
  have e : (ksA as).map tkeyD = (as.map (·.1)).map pD := by
    rw [List.map_map, List.map_map]
    exact List.map_congr_left fun a _ => tkeyD_kI a.1
  show (match keysT x with
    | some ks => if sortOk (ks.map tkeyD) = true then some (RV.fr (.l (sortD (ks.map tkeyD)))) else none
    | none => _) = _
  rw [hk]
  show (if sortOk ((ksA as).map tkeyD) = true then some (RV.fr (.l (sortD ((ksA as).map tkeyD)))) else none) = _
  rw [e, if_pos (sortOk_P _ hne), sortD_P]
/-- [(place, sums[place]) for place in sorted(sums) if sums[place] != 0] -/
theorem lc_rows {C : Cfg} {ρ : Rho} {i j : Nat} {x : RV} {as : List Ent} (hv : varV ρ[i]? = some (.ok x)) (hij : i ≠ j) (hj : j < ρ.length) (hd : isDic x = true) (hk : keysT x = some (ksA as)) (hvs : valsT x = vsA as) :
    compL (turnL (.n j) (evIf C (.so (.cmp .ne (.ix (.var i) (.var j)) (.int 0)))) (evE C (.tup (.cons (.var j) (.cons (.ix (.var i) (.var j)) .nil)))) ρ) ((sortP (as.map (·.1))).map pD) = some (.ok ((rowOf as).map eD)) := by
  have h := compL_if (step := turnL (.n j) (evIf C (.so (.cmp .ne (.ix (.var i) (.var j)) (.int 0)))) (evE C (.tup (.cons (.var j) (.cons (.ix (.var i) (.var j)) .nil)))) ρ) (g := pD) (h := fun p => if (!decide ((getA as p).getD 0 = 0)) = true then some (eD (p, (getA as p).getD 0)) else none) (xs := sortP (as.map (·.1))) fun p hp => by
    obtain ⟨n, hn⟩ := get_mem (sortP_mem.mp hp)
    have hx := dix_A (p := p) hd hk hvs hn
    have e1 : varV (ρ.set j (some (.dat (pD p))))[i]? = some (.ok x) := by rw [List.getElem?_set_ne (Ne.symm hij)]; exact hv
    have e2 : varV (ρ.set j (some (.dat (pD p))))[j]? = some (.ok (.dat (pD p))) := by rw [List.getElem?_set_self hj]; rfl
    rw [hn]
    refine turn_so (ρ' := ρ.set j (some (.dat (pD p)))) (k := !decide (n = 0)) (x := .dat (eD (p, n))) rfl ?_ (fun _ => ?_) fun _ => rfl
    · rw [et_cmp, ev_ix, ev_var, ev_var, ev_int, e1, e2, u2_ok, hx, optR_some, v2_ok, cmp_ne, optR_some]
    · rw [ev_tup, ea_cons, ea_cons, ea_nil, ev_ix, ev_var, ev_var, e1, e2, u2_ok, hx, optR_some, ac_ok, ac_ok, tupV_ok, toDs_cd, toDs_cd, toDs_nil]
      rfl
  rw [h]
  congr 2
  unfold rowOf
  rw [List.map_filterMap]
  congr 1
  funext p
  by_cases z : (getA as p).getD 0 = 0
  · rw [if_pos z, if_neg (by simp [z])]
    rfl
  · rw [if_neg z, if_pos (by simp [z])]
    rfl
/-- the loop that adds up -/
theorem sum_loop {C : Cfg} {ρ : Rho} {b : IB} {i j k : Nat} {es : List Ent} (hl : es.length < 16777216) (hi : ρ[i]? = some (some (.own (.tT [] [])))) (hne : i ≠ j ∧ i ≠ k ∧ j ≠ k) (hb : i < ρ.length ∧ j < ρ.length ∧ k < ρ.length)
    (hB : b = .cons (.setL i (.var j) (.bin .add (.get (.var i) (.var j) (.int 0)) (.var k))) .nil) :
    ∃ ρ', forL (stepL (.t [j, k]) (runB C b)) (es.map eD) ρ = some (.nx ρ') ∧ ρ'.length = ρ.length ∧ ρ'[i]? = some (some (.own (.tT (ksA (sumA es)) (vsA (sumA es))))) ∧ ∀ m, m ≠ i → m ≠ j → m ≠ k → ρ'[m]? = ρ[m]? := by
  obtain ⟨ρ', e, h⟩ := forL_inv (step := stepL (.t [j, k]) (runB C b)) (ds := es.map eD) (ρ := ρ)
    (P := fun n ρ' => ρ'.length = ρ.length ∧ ρ'[i]? = some (some (.own (.tT (ksA (sumA (es.take n))) (vsA (sumA (es.take n)))))) ∧ ∀ m, m ≠ i → m ≠ j → m ≠ k → ρ'[m]? = ρ[m]?)
    ⟨rfl, hi, fun _ _ _ _ => rfl⟩ (by
      intro n d ρ1 hd ⟨q1, q2, q3⟩
      rw [List.getElem?_map] at hd
      cases he : es[n]? with
      | none => rw [he] at hd; cases hd
      | some e =>
        rw [he] at hd
        cases hd
        have hn : n < es.length := (List.getElem?_eq_some_iff.mp he).1
        have t1 : es.take (n + 1) = es.take n ++ [e] := by rw [List.take_succ, he]; rfl
        have hlen : (sumA (es.take n)).length < 16777216 := by
          have := sumA_len (es.take n)
          rw [List.length_take] at this
          omega
        let ρ2 := (ρ1.set j (some (.dat (pD e.1)))).set k (some (.dat (.int e.2)))
        have l2 : ρ2.length = ρ.length := by rw [List.length_set, List.length_set, q1]
        have gi : ρ2[i]? = some (some (.own (.tT (ksA (sumA (es.take n))) (vsA (sumA (es.take n)))))) := by
          rw [List.getElem?_set_ne (Ne.symm hne.2.1), List.getElem?_set_ne (Ne.symm hne.1)]
          exact q2
        have gj : ρ2[j]? = some (some (.dat (pD e.1))) := by
          rw [List.getElem?_set_ne (Ne.symm hne.2.2), List.getElem?_set_self (by rw [q1]; exact hb.2.1)]
        have gk : ρ2[k]? = some (some (.dat (.int e.2))) := List.getElem?_set_self (by rw [List.length_set, q1]; exact hb.2.2)
        have st : stepL (.t [j, k]) (runB C b) (eD e) ρ1 = runB C b ρ2 := rfl
        refine ⟨ρ2.set i (some (.own (.tT (ksA (sumA (es.take (n + 1)))) (vsA (sumA (es.take (n + 1))))))), .inl ?_, by rw [List.length_set, l2], List.getElem?_set_self (by rw [l2]; exact hb.1), fun m m1 m2 m3 => ?_⟩
        · rw [st, hB, rb_cons, rs_setL, ev_bin, ev_get, ev_var, ev_var, ev_var, ev_int, gi, gj, gk, var_own, var_dat, var_dat, get_br, get_A, optR_some, u2_ok, bin_add, optR_some, set_dat, putD_A (sumA_nodup _) hlen, nxt_nx, rb_nil, t1, sumA_snoc]
        · rw [List.getElem?_set_ne (Ne.symm m1), List.getElem?_set_ne (Ne.symm m3), List.getElem?_set_ne (Ne.symm m2)]
          exact q3 m m1 m2 m3)
  refine ⟨ρ', e, h.1, ?_, h.2.2⟩
  have := h.2.1
  rw [List.length_map, List.take_length] at this
  exact this
/-! ### what a row of sums is -/
theorem rowOf_mem {as : List Ent} {e : Ent} (h : e ∈ rowOf as) : e.1 ∈ as.map (·.1) ∧ e.2 ≠ 0 := by
  unfold rowOf at h
  obtain ⟨p, hp, e1⟩ := List.mem_filterMap.mp h
  split at e1
  · cases e1
  · rename_i hz
    cases e1
    exact ⟨sortP_mem.mp hp, hz⟩
theorem rowOf_pw {as : List Ent} (nd : (as.map (·.1)).Nodup) : (rowOf as).Pairwise fun a b => a.1 < b.1 := by
  unfold rowOf
  rw [List.pairwise_filterMap]
  refine (sortP_pw _ nd).imp fun {a b} h x hx y hy => ?_
  split at hx
  · cases hx
  · split at hy
    · cases hy
    · cases hx
      cases hy
      exact h
end DE

set_option Elab.async false
set_option linter.all false
set_option maxRecDepth 100000
set_option maxHeartbeats 8000000
namespace LW
open PySem PySem.Spec PyProof.Rows L2 DE
abbrev pw : Program := PySem.Challenge.pw_owntables_k01_make_row
def stn (i : Nat) : Stmt := pw.main.body.getD i (.Pass ⟨0, 0, 0, 0⟩)
def isaT : List (Str × Str × Bool) := [("BadPlace", "TableError", true), ("BadPlace", "ValueError", true), ("BadPlace", "OneDirectionOnly", false), ("BadPlace", "ZeroRow", false), ("BadPlace", "MixedDimensions", false), ("BadPlace", "BadPlace", true), ("MixedDimensions", "TableError", true), ("MixedDimensions", "ValueError", true), ("MixedDimensions", "OneDirectionOnly", false), ("MixedDimensions", "ZeroRow", false), ("MixedDimensions", "MixedDimensions", true), ("MixedDimensions", "BadPlace", false), ("TableError", "TableError", true), ("TableError", "ValueError", true), ("TableError", "OneDirectionOnly", false), ("TableError", "ZeroRow", false), ("TableError", "MixedDimensions", false), ("TableError", "BadPlace", false)]
def mkT : List (Str × List Str × Str) := [("BadPlace", ["index"], "BadPlace"), ("MixedDimensions", [], "MixedDimensions")]
def fldT : List (Str × Str) := [("BadPlace", "word"), ("BadPlace", "index"), ("MixedDimensions", "word")]
def fuel : Nat := 1000000
abbrev cf : List Fn → List Fn → Cfg := cfg isaT mkT fldT fuel
-- row_of_sums
def b_row_of_sums : IB := .cons (.ret (.lc (.tup (.cons (.var 1) (.cons (.ix (.var 0) (.var 1)) .nil))) (.n 1) (.it (.bi .sorted (.cons (.var 0) .nil))) (.so (.cmp .ne (.ix (.var 0) (.var 1)) (.int 0))))) .nil
def N_row_of_sums : List Str := ["sums", "place"]
def c_row_of_sums : Cfg := cf [] []
def f_row_of_sums : Fn := mkFn c_row_of_sums "row_of_sums" 1 2 b_row_of_sums
-- common_dimension
def L_common_dimension_1 : IB := .cons (.iff (.var 2) (.cons (.asg 3 (.bi .len (.cons (.ix (.ix (.var 2) (.int 0)) (.int 0)) .nil))) (.frz 3 (.cons (.iff (.andd (.cons (.cmp .ne (.var 1) (.int 0)) (.cons (.cmp .ne (.var 3) (.var 1)) .nil))) (.cons (.rais "MixedDimensions" .nil) .nil) (.nil)) (.cons (.asg 1 (.var 3)) .nil)))) (.nil)) .nil
def b_common_dimension : IB := .cons (.asg 1 (.int 0)) (.cons (.forr (.n 2) (.it (.var 0)) L_common_dimension_1) (.cons (.retV 1) .nil))
def N_common_dimension : List Str := ["rows", "found", "row", "size"]
def c_common_dimension : Cfg := cf [] []
def f_common_dimension : Fn := mkFn c_common_dimension "common_dimension" 1 4 b_common_dimension
-- _law_cell
def b_l_cell : IB := .cons (.iff (.cmp .lt (.var 1) (.bi .len (.cons (.var 0) .nil))) (.cons (.ret (.ix (.var 0) (.var 1))) .nil) (.nil)) (.cons (.iff (.cmp .eq (.bi .len (.cons (.var 0) .nil)) (.int 0)) (.cons (.ret (.bin .add (.bin .mul (.int 101) (.var 1)) (.int 7))) .nil) (.nil)) (.cons (.ret (.bin .mod (.bi .int (.cons (.bin .add (.bin .add (.bin .mul (.ix (.var 0) (.bin .mod (.bi .int (.cons (.var 1) .nil)) (.bi .len (.cons (.var 0) .nil)))) (.int 48271)) (.bin .mul (.int 69621) (.var 1))) (.int 11)) .nil)) (.int 2147483647))) .nil))
def N_l_cell : List Str := ["_law_script", "_law_k"]
def c_l_cell : Cfg := cf [] []
def f_l_cell : Fn := mkFn c_l_cell "_law_cell" 2 2 b_l_cell
-- _law_draws
def L_l_draws_1 : IB := .cons (.iff (.cmp .ge (.var 0) (.bin .pow (.int 10) (.int 18))) (.cons (.app 2 (.bin .mod (.bi .int (.cons (.var 3) .nil)) (.ix (.var 1) (.var 4)))) (.cons (.asg 3 (.bin .fdiv (.var 3) (.ix (.var 1) (.var 4)))) .nil)) (.cons (.asg 5 (.bin .mod (.bi .int (.cons (.bin .add (.bin .add (.var 0) (.bin .mul (.int 7919) (.var 4))) (.int 13)) .nil)) (.int 2147483647))) (.cons (.asg 5 (.bin .mod (.bi .int (.cons (.bin .mul (.var 5) (.bin .add (.var 5) (.int 48271))) .nil)) (.int 2147483629))) (.cons (.asg 5 (.bin .mod (.bi .int (.cons (.bin .add (.bin .mul (.var 5) (.bin .add (.var 5) (.int 69621))) (.bin .mul (.int 31) (.var 4))) .nil)) (.int 2147483647))) (.cons (.app 2 (.bin .mod (.bi .int (.cons (.bin .fdiv (.var 5) (.int 9)) .nil)) (.ix (.var 1) (.var 4)))) .nil))))) .nil
def b_l_draws : IB := .cons (.asg 2 (.lst (.nil))) (.cons (.asg 3 (.bin .sub (.var 0) (.bin .pow (.int 10) (.int 18)))) (.cons (.forr (.n 4) (.range (.cons (.bi .len (.cons (.var 1) .nil)) .nil)) L_l_draws_1) (.cons (.retV 2) .nil)))
def N_l_draws : List Str := ["_law_cell_here", "_law_sizes", "_law_draws_here", "_law_rest", "_law_k", "_law_mixed"]
def c_l_draws : Cfg := cf [] []
def f_l_draws : Fn := mkFn c_l_draws "_law_draws" 2 6 b_l_draws
-- _law_is_integer
def b_l_is_integer : IB := .cons (.ret (.andd (.cons (.isi (.var 0) .int) (.cons (.nott (.isi (.var 0) .bool)) .nil)))) .nil
def N_l_is_integer : List Str := ["_law_actual"]
def c_l_is_integer : Cfg := cf [] []
def f_l_is_integer : Fn := mkFn c_l_is_integer "_law_is_integer" 1 1 b_l_is_integer
def k_l_is_integer : Cfg := cf [] []
def h_l_is_integer : Fn := mkFn k_l_is_integer.hot "_law_is_integer" 1 1 b_l_is_integer
-- _law_back
def b_l_back : IB := .cons (.ret (.bi .tup (.cons (.lc (.neg (.var 1)) (.n 1) (.it (.var 0)) .no) .nil))) .nil
def N_l_back : List Str := ["_law_place", "_law_x"]
def c_l_back : Cfg := cf [] []
def f_l_back : Fn := mkFn c_l_back "_law_back" 1 2 b_l_back
-- _law_row
def L_l_row_1 : IB := .cons (.setL 1 (.var 2) (.bin .add (.get (.var 1) (.var 2) (.int 0)) (.var 3))) .nil
def b_l_row : IB := .cons (.asg 1 (.dictT)) (.cons (.forr (.t [2, 3]) (.it (.var 0)) L_l_row_1) (.cons (.ret (.lc (.tup (.cons (.var 2) (.cons (.ix (.var 1) (.var 2)) .nil))) (.n 2) (.it (.bi .sorted (.cons (.var 1) .nil))) (.so (.cmp .ne (.ix (.var 1) (.var 2)) (.int 0))))) .nil))
def N_l_row : List Str := ["_law_pairs_here", "_law_sums", "_law_place", "_law_number"]
def c_l_row : Cfg := cf [] []
def f_l_row : Fn := mkFn c_l_row "_law_row" 1 4 b_l_row
-- _law_is_error
def b_l_is_error : IB := .cons (.ret (.andd (.cons (.isi (.var 0) (.own "TableError")) (.cons (.isi (.var 0) (.own "ValueError")) (.cons (.isi (.attr (.var 0) "word") .str) (.cons (.cmp .eq (.attr (.var 0) "word") (.var 1)) .nil)))))) .nil
def N_l_is_error : List Str := ["_law_e", "_law_word"]
def c_l_is_error : Cfg := cf [] []
def f_l_is_error : Fn := mkFn c_l_is_error "_law_is_error" 2 2 b_l_is_error
def k_l_is_error : Cfg := cf [] []
def h_l_is_error : Fn := mkFn k_l_is_error.hot "_law_is_error" 2 2 b_l_is_error
-- _law_pair
def b_l_pair : IB := .cons (.asg 3 (.tup (.cons (.bin .sub (.ix (.var 0) (.int 2)) (.int 2)) (.cons (.bin .sub (.ix (.var 0) (.int 3)) (.int 2)) (.cons (.bin .sub (.ix (.var 0) (.int 4)) (.int 2)) .nil))))) (.cons (.iff (.cmp .eq (.ix (.var 0) (.int 1)) (.int 3)) (.cons (.asg 3 (.tup (.cons (.bin .sub (.ix (.var 0) (.int 5)) (.int 1000)) (.cons (.bin .sub (.ix (.var 0) (.int 6)) (.int 1000)) (.cons (.bin .sub (.ix (.var 0) (.int 7)) (.int 1000)) .nil))))) .nil) (.nil)) (.cons (.asg 4 (.bin .sub (.ix (.var 0) (.int 9)) (.int 3))) (.cons (.iff (.cmp .eq (.ix (.var 0) (.int 8)) (.int 7)) (.cons (.asg 4 (.bin .sub (.bin .pow (.int 10) (.int 12)) (.ix (.var 0) (.int 10)))) .nil) (.nil)) (.cons (.iff (.cmp .eq (.ix (.var 0) (.int 8)) (.int 8)) (.cons (.asg 4 (.bin .sub (.ix (.var 0) (.int 10)) (.bin .pow (.int 10) (.int 12)))) .nil) (.nil)) (.cons (.iff (.orr (.cons (.cmp .eq (.bi .len (.cons (.var 2) .nil)) (.int 0)) (.cons (.cmp .gt (.ix (.var 0) (.int 0)) (.int 1)) .nil))) (.cons (.ret (.tup (.cons (.sl (.var 3) .no (.so (.var 1))) (.cons (.var 4) .nil)))) .nil) (.nil)) (.cons (.asg 5 (.ix (.var 2) (.bin .mod (.bi .int (.cons (.ix (.var 0) (.int 11)) .nil)) (.bi .len (.cons (.var 2) .nil))))) (.cons (.iff (.cmp .eq (.ix (.var 0) (.int 0)) (.int 1)) (.cons (.asg 4 (.neg (.ix (.var 5) (.int 1)))) .nil) (.nil)) (.frz 4 (.cons (.ret (.tup (.cons (.ix (.var 5) (.int 0)) (.cons (.var 4) .nil)))) .nil)))))))))
def N_l_pair : List Str := ["_law_draws_here", "_law_size", "_law_pairs_here", "_law_place", "_law_number", "_law_earlier"]
def c_l_pair : Cfg := cf [] []
def f_l_pair : Fn := mkFn c_l_pair "_law_pair" 3 6 b_l_pair
-- _law_spoilt
def b_l_spoilt : IB := .cons (.asg 3 (.bi .lst (.cons (.var 0) .nil))) (.cons (.iff (.cmp .eq (.bi .len (.cons (.var 0) .nil)) (.int 0)) (.cons (.retV 3) .nil) (.nil)) (.cons (.asg 4 (.ix (.var 2) (.int 0))) (.cons (.asg 5 (.bin .mod (.bi .int (.cons (.ix (.var 2) (.int 1)) .nil)) (.bi .len (.cons (.var 0) .nil)))) (.cons (.asg 6 (.bin .mod (.bi .int (.cons (.ix (.var 2) (.int 2)) .nil)) (.bi .len (.cons (.var 0) .nil)))) (.cons (.asg 8 (.bi .tup (.cons (.lc (.bin .sub (.var 7) (.int 1)) (.n 7) (.range (.cons (.ix (.lst (.cons (.int 0) (.cons (.int 4) (.cons (.int 5) (.cons (.int 6) .nil))))) (.ix (.var 2) (.int 3))) .nil)) .no) .nil))) (.frz 8 (.cons (.asg 9 (.bi .tup (.cons (.lc (.var 7) (.n 7) (.range (.cons (.bin .add (.int 1) (.bin .mod (.bi .int (.cons (.bin .add (.var 1) (.ix (.var 2) (.int 4))) .nil)) (.int 3))) .nil)) .no) .nil))) (.frz 9 (.cons (.iff (.cmp .eq (.var 4) (.int 4)) (.cons (.setL 3 (.var 6) (.tup (.cons (.tup (.nil)) (.cons (.ix (.ix (.var 0) (.var 6)) (.int 1)) .nil)))) .nil) (.nil)) (.cons (.iff (.orr (.cons (.cmp .eq (.var 4) (.int 5)) (.cons (.cmp .eq (.var 4) (.int 7)) .nil))) (.cons (.setL 3 (.var 6) (.tup (.cons (.var 9) (.cons (.ix (.ix (.var 0) (.var 6)) (.int 1)) .nil)))) .nil) (.nil)) (.cons (.iff (.cmp .eq (.var 4) (.int 6)) (.cons (.setL 3 (.var 6) (.tup (.cons (.var 9) (.cons (.int 0) .nil)))) .nil) (.nil)) (.cons (.iff (.andd (.cons (.cmp .eq (.var 4) (.int 6)) (.cons (.cmp .gt (.ix (.var 2) (.int 3)) (.int 1)) .nil))) (.cons (.asg 3 (.bin .add (.bi .lst (.cons (.var 0) .nil)) (.lst (.cons (.tup (.cons (.var 9) (.cons (.int 3) .nil))) (.cons (.tup (.cons (.var 9) (.cons (.neg (.int 3)) .nil))) .nil))))) .nil) (.nil)) (.cons (.iff (.orr (.cons (.cmp .eq (.var 4) (.int 3)) (.cons (.cmp .eq (.var 4) (.int 4)) (.cons (.cmp .eq (.var 4) (.int 7)) .nil)))) (.cons (.setL 3 (.var 5) (.tup (.cons (.var 8) (.cons (.ix (.ix (.var 0) (.var 5)) (.int 1)) .nil)))) .nil) (.nil)) (.cons (.retV 3) .nil))))))))))))))
def N_l_spoilt : List Str := ["_law_pairs_here", "_law_size", "_law_draws_here", "_law_spoilt_here", "_law_mode", "_law_first", "_law_second", "_law_k", "_law_bad", "_law_other"]
def c_l_spoilt : Cfg := cf [] []
def f_l_spoilt : Fn := mkFn c_l_spoilt "_law_spoilt" 3 10 b_l_spoilt
-- common_place_dimensi
def L_common_place_dimension_1 : IB := .cons (.iff (.andd (.cons (.cmp .ne (.var 2) (.int 0)) (.cons (.cmp .ne (.bi .len (.cons (.var 3) .nil)) (.var 2)) .nil))) (.cons (.rais "MixedDimensions" .nil) .nil) (.nil)) (.cons (.asg 2 (.bi .len (.cons (.var 3) .nil))) .nil)
def b_common_place_dimension : IB := .cons (.asg 2 (.call 0 (.cons (.var 0) .nil))) (.cons (.forr (.n 3) (.it (.var 1)) L_common_place_dimension_1) (.cons (.retV 2) .nil))
def N_common_place_dimension : List Str := ["rows", "places", "found", "place"]
def c_common_place_dimension : Cfg := cf [f_common_dimension] []
def f_common_place_dimension : Fn := mkFn c_common_place_dimension "common_place_dimension" 2 4 b_common_place_dimension
-- _law_is_place
def L_l_is_place_1 : IB := .cons (.iff (.nott (.call 0 (.cons (.var 1) .nil))) (.cons (.ret (.bl false)) .nil) (.nil)) .nil
def b_l_is_place : IB := .cons (.iff (.orr (.cons (.nott (.isi (.var 0) .tup)) (.cons (.cmp .lt (.bi .len (.cons (.var 0) .nil)) (.int 1)) (.cons (.cmp .gt (.bi .len (.cons (.var 0) .nil)) (.int 3)) .nil)))) (.cons (.ret (.bl false)) .nil) (.nil)) (.cons (.forr (.n 1) (.it (.var 0)) L_l_is_place_1) (.cons (.ret (.bl true)) .nil))
def N_l_is_place : List Str := ["_law_actual", "_law_x"]
def c_l_is_place : Cfg := cf [f_l_is_integer] []
def f_l_is_place : Fn := mkFn c_l_is_place "_law_is_place" 1 2 b_l_is_place
-- _law_pairs
def L_l_pairs_1 : IB := .cons (.asg 5 (.call 0 (.cons (.call 1 (.cons (.var 0) (.cons (.bin .add (.int 1) (.var 4)) .nil))) (.cons (.lst (.cons (.int 6) (.cons (.int 4) (.cons (.int 5) (.cons (.int 5) (.cons (.int 5) (.cons (.int 2001) (.cons (.int 2001) (.cons (.int 2001) (.cons (.int 9) (.cons (.int 7) (.cons (.int 10) (.cons (.int 9) .nil))))))))))))) .nil)))) (.frz 5 (.cons (.app 3 (.call 2 (.cons (.var 5) (.cons (.var 1) (.cons (.var 3) .nil))))) .nil))
def b_l_pairs : IB := .cons (.asg 3 (.lst (.nil))) (.cons (.forr (.n 4) (.range (.cons (.var 2) .nil)) L_l_pairs_1) (.cons (.retV 3) .nil))
def N_l_pairs : List Str := ["_law_script", "_law_size", "_law_count", "_law_pairs_here", "_law_k", "_law_draws_here"]
def c_l_pairs : Cfg := cf [f_l_draws, f_l_cell, f_l_pair] []
def f_l_pairs : Fn := mkFn c_l_pairs "_law_pairs" 3 6 b_l_pairs
-- _law_due
def L_l_due_1 : IB := .cons (.iff (.orr (.cons (.cmp .lt (.bi .len (.cons (.ix (.ix (.var 0) (.var 1)) (.int 0)) .nil)) (.int 1)) (.cons (.cmp .gt (.bi .len (.cons (.ix (.ix (.var 0) (.var 1)) (.int 0)) .nil)) (.int 3)) .nil))) (.cons (.ret (.tup (.cons (.str "BadPlace") (.cons (.var 1) .nil)))) .nil) (.nil)) .nil
def L_l_due_2 : IB := .cons (.iff (.cmp .ne (.bi .len (.cons (.ix (.ix (.var 0) (.var 1)) (.int 0)) .nil)) (.bi .len (.cons (.ix (.ix (.var 0) (.int 0)) (.int 0)) .nil))) (.cons (.ret (.tup (.cons (.str "MixedDimensions") (.cons (.int 0) .nil)))) .nil) (.nil)) .nil
def b_l_due : IB := .cons (.forr (.n 1) (.range (.cons (.bi .len (.cons (.var 0) .nil)) .nil)) L_l_due_1) (.cons (.forr (.n 1) (.range (.cons (.bi .len (.cons (.var 0) .nil)) .nil)) L_l_due_2) (.cons (.ret (.tup (.cons (.str "row") (.cons (.call 0 (.cons (.var 0) .nil)) .nil)))) .nil))
def N_l_due : List Str := ["_law_pairs_here", "_law_k"]
def c_l_due : Cfg := cf [f_l_row] []
def f_l_due : Fn := mkFn c_l_due "_law_due" 1 2 b_l_due
-- _law_refused
def b_l_refused : IB := .cons (.iff (.orr (.cons (.isi (.var 0) (.own "OneDirectionOnly")) (.cons (.isi (.var 0) (.own "ZeroRow")) (.cons (.nott (.call 0 (.cons (.var 0) (.cons (.ix (.var 1) (.int 0)) .nil)))) .nil)))) (.cons (.ret (.bl false)) .nil) (.nil)) (.cons (.iff (.cmp .eq (.ix (.var 1) (.int 0)) (.str "BadPlace")) (.cons (.iff (.orr (.cons (.nott (.isi (.var 0) (.own "BadPlace"))) (.cons (.isi (.var 0) (.own "MixedDimensions")) .nil))) (.cons (.ret (.bl false)) .nil) (.nil)) (.cons (.ret (.andd (.cons (.call 1 (.cons (.attr (.var 0) "index") .nil)) (.cons (.cmp .eq (.attr (.var 0) "index") (.ix (.var 1) (.int 1))) .nil)))) .nil)) (.nil)) (.cons (.ret (.andd (.cons (.isi (.var 0) (.own "MixedDimensions")) (.cons (.nott (.isi (.var 0) (.own "BadPlace"))) .nil)))) .nil))
def N_l_refused : List Str := ["_law_e", "_law_due_here"]
def c_l_refused : Cfg := cf [f_l_is_error, f_l_is_integer] []
def f_l_refused : Fn := mkFn c_l_refused "_law_refused" 2 2 b_l_refused
def k_l_refused : Cfg := cf [] [h_l_is_error, h_l_is_integer]
def h_l_refused : Fn := mkFn k_l_refused.hot "_law_refused" 2 2 b_l_refused
-- make_row
def L_make_row_1 : IB := .cons (.iff (.nott (.chain .le .le (.int 1) (.bi .len (.cons (.ix (.ix (.var 0) (.var 1)) (.int 0)) .nil)) (.int 3))) (.cons (.rais "BadPlace" (.cons (.var 1) .nil)) .nil) (.nil)) .nil
def L_make_row_2 : IB := .cons (.setL 3 (.var 4) (.bin .add (.get (.var 3) (.var 4) (.int 0)) (.var 5))) .nil
def b_make_row : IB := .cons (.forr (.n 1) (.range (.cons (.bi .len (.cons (.var 0) .nil)) .nil)) L_make_row_1) (.cons (.expr (.call 0 (.cons (.lst (.nil)) (.cons (.lc (.ix (.var 2) (.int 0)) (.n 2) (.it (.var 0)) .no) .nil)))) (.cons (.asg 3 (.dictT)) (.cons (.forr (.t [4, 5]) (.it (.var 0)) L_make_row_2) (.frz 3 (.cons (.ret (.call 1 (.cons (.var 3) .nil))) .nil)))))
def N_make_row : List Str := ["entries", "k", "entry", "sums", "place", "number"]
def c_make_row : Cfg := cf [f_common_place_dimension, f_row_of_sums] []
def f_make_row : Fn := mkFn c_make_row "make_row" 1 6 b_make_row
-- _law_is_row
def L_l_is_row_1 : IB := .cons (.asg 2 (.ix (.var 0) (.var 1))) (.cons (.iff (.orr (.cons (.nott (.isi (.var 2) .tup)) (.cons (.cmp .ne (.bi .len (.cons (.var 2) .nil)) (.int 2)) .nil))) (.cons (.ret (.bl false)) .nil) (.nil)) (.cons (.iff (.orr (.cons (.nott (.call 0 (.cons (.ix (.var 2) (.int 0)) .nil))) (.cons (.nott (.call 1 (.cons (.ix (.var 2) (.int 1)) .nil))) (.cons (.cmp .eq (.ix (.var 2) (.int 1)) (.int 0)) .nil)))) (.cons (.ret (.bl false)) .nil) (.nil)) (.cons (.iff (.cmp .ne (.bi .len (.cons (.ix (.var 2) (.int 0)) .nil)) (.bi .len (.cons (.ix (.ix (.var 0) (.int 0)) (.int 0)) .nil))) (.cons (.ret (.bl false)) .nil) (.nil)) (.cons (.iff (.andd (.cons (.cmp .gt (.var 1) (.int 0)) (.cons (.nott (.cmp .lt (.ix (.ix (.var 0) (.bin .sub (.var 1) (.int 1))) (.int 0)) (.ix (.var 2) (.int 0)))) .nil))) (.cons (.ret (.bl false)) .nil) (.nil)) .nil))))
def b_l_is_row : IB := .cons (.iff (.nott (.isi (.var 0) .lst)) (.cons (.ret (.bl false)) .nil) (.nil)) (.cons (.forr (.n 1) (.range (.cons (.bi .len (.cons (.var 0) .nil)) .nil)) L_l_is_row_1) (.cons (.ret (.bl true)) .nil))
def N_l_is_row : List Str := ["_law_actual", "_law_k", "_law_entry"]
def c_l_is_row : Cfg := cf [f_l_is_place, f_l_is_integer] []
def f_l_is_row : Fn := mkFn c_l_is_row "_law_is_row" 1 3 b_l_is_row
-- _law_same
def b_l_same : IB := .cons (.ret (.andd (.cons (.call 0 (.cons (.var 0) .nil)) (.cons (.cmp .eq (.var 0) (.var 1)) .nil)))) .nil
def N_l_same : List Str := ["_law_actual", "_law_expected"]
def c_l_same : Cfg := cf [f_l_is_row] []
def f_l_same : Fn := mkFn c_l_same "_law_same" 2 2 b_l_same
-- _law_asked
def b_l_asked : IB := .cons (.asg 2 (.bi .lst (.cons (.var 0) .nil))) (.frz 2 (.cons (.tri (.cons (.asg 3 (.call 0 (.cons (.var 2) .nil))) .nil) "TableError" 4 (.cons (.ret (.andd (.cons (.cmp .ne (.ix (.var 1) (.int 0)) (.str "row")) (.cons (.cmp .eq (.var 2) (.var 0)) (.cons (.call 0 (.cons (.var 4) (.cons (.var 1) .nil))) .nil))))) .nil)) (.cons (.iff (.orr (.cons (.cmp .ne (.ix (.var 1) (.int 0)) (.str "row")) (.cons (.nott (.call 1 (.cons (.var 3) (.cons (.ix (.var 1) (.int 1)) .nil)))) (.cons (.cmp .ne (.var 2) (.var 0)) .nil)))) (.cons (.ret (.bl false)) .nil) (.nil)) (.cons (.app 3 (.tup (.cons (.tup (.cons (.int 0) .nil)) (.cons (.int 1) .nil)))) (.cons (.ret (.cmp .eq (.var 2) (.var 0))) .nil)))))
def N_l_asked : List Str := ["_law_pairs_here", "_law_due_here", "_law_handed", "_law_actual", "_law_e"]
def c_l_asked : Cfg := cf [f_make_row, f_l_same] [h_l_refused]
def f_l_asked : Fn := mkFn c_l_asked "_law_asked" 2 5 b_l_asked
-- law
def L_law_1 : IB := .cons (.iff (.nott (.call 5 (.cons (.var 5) (.cons (.call 6 (.cons (.var 5) .nil)) .nil)))) (.cons (.ret (.bl false)) .nil) (.nil)) (.cons (.iff (.nott (.call 5 (.cons (.var 3) (.cons (.tup (.cons (.str "row") (.cons (.call 7 (.cons (.var 3) .nil)) .nil))) .nil)))) (.cons (.ret (.bl false)) .nil) (.nil)) .nil)
def b_law : IB := .cons (.asg 1 (.call 0 (.cons (.call 1 (.cons (.var 0) (.cons (.int 0) .nil))) (.cons (.lst (.cons (.int 3) (.cons (.int 10) (.cons (.int 8) (.cons (.int 36) (.cons (.int 36) (.cons (.int 4) (.cons (.int 2) (.cons (.int 8) .nil))))))))) .nil)))) (.cons (.asg 2 (.bin .add (.int 1) (.ix (.var 1) (.int 0)))) (.frz 2 (.cons (.asg 3 (.call 2 (.cons (.var 0) (.cons (.var 2) (.cons (.ix (.var 1) (.int 1)) .nil))))) (.cons (.iff (.cmp .eq (.ix (.var 1) (.int 7)) (.int 7)) (.cons (.asg 3 (.bin .add (.var 3) (.lc (.tup (.cons (.call 3 (.cons (.ix (.var 4) (.int 0)) .nil)) (.cons (.ix (.var 4) (.int 1)) .nil))) (.n 4) (.it (.var 3)) .no))) (.cons (.asg 3 (.bin .add (.var 3) (.var 3))) .nil)) (.nil)) (.frz 3 (.cons (.asg 5 (.call 4 (.cons (.var 3) (.cons (.var 2) (.cons (.sl (.var 1) (.so (.int 2)) (.so (.int 7))) .nil))))) (.frz 5 (.cons (.forr (.n 6) (.range (.cons (.int 2) .nil)) L_law_1) (.cons (.ret (.bl true)) .nil)))))))))
def N_law : List Str := ["_law_script", "_law_draws_here", "_law_size", "_law_pairs_here", "_law_pair_here", "_law_spoilt_here", "_law_turn"]
def c_law : Cfg := cf [f_l_draws, f_l_cell, f_l_pairs, f_l_back, f_l_spoilt, f_l_asked, f_l_due, f_l_row] []
def f_law : Fn := mkFn c_law "law" 1 7 b_law
/-! ### the tables of each def -/
theorem M_common_dimension_MixedDimensions : c_common_dimension.mkE "MixedDimensions" = some (mkEr "MixedDimensions" [] "MixedDimensions") := rfl
theorem T_common_place_dimension_0 : c_common_place_dimension.T[0]? = some f_common_dimension := rfl
theorem M_common_place_dimension_MixedDimensions : c_common_place_dimension.mkE "MixedDimensions" = some (mkEr "MixedDimensions" [] "MixedDimensions") := rfl
theorem T_l_is_place_0 : c_l_is_place.T[0]? = some f_l_is_integer := rfl
theorem T_l_pairs_0 : c_l_pairs.T[0]? = some f_l_draws := rfl
theorem T_l_pairs_1 : c_l_pairs.T[1]? = some f_l_cell := rfl
theorem T_l_pairs_2 : c_l_pairs.T[2]? = some f_l_pair := rfl
theorem T_l_due_0 : c_l_due.T[0]? = some f_l_row := rfl
theorem T_l_refused_0 : c_l_refused.T[0]? = some f_l_is_error := rfl
theorem T_l_refused_1 : c_l_refused.T[1]? = some f_l_is_integer := rfl
theorem TH_l_refused_0 : k_l_refused.hot.T[0]? = some h_l_is_error := rfl
theorem TH_l_refused_1 : k_l_refused.hot.T[1]? = some h_l_is_integer := rfl
theorem T_make_row_0 : c_make_row.T[0]? = some f_common_place_dimension := rfl
theorem T_make_row_1 : c_make_row.T[1]? = some f_row_of_sums := rfl
theorem M_make_row_BadPlace : c_make_row.mkE "BadPlace" = some (mkEr "BadPlace" ["index"] "BadPlace") := rfl
theorem T_l_is_row_0 : c_l_is_row.T[0]? = some f_l_is_place := rfl
theorem T_l_is_row_1 : c_l_is_row.T[1]? = some f_l_is_integer := rfl
theorem T_l_same_0 : c_l_same.T[0]? = some f_l_is_row := rfl
theorem T_l_asked_0 : c_l_asked.T[0]? = some f_make_row := rfl
theorem T_l_asked_1 : c_l_asked.T[1]? = some f_l_same := rfl
theorem TS_l_asked_0 : c_l_asked.hot.T[0]? = some h_l_refused := rfl
theorem T_law_0 : c_law.T[0]? = some f_l_draws := rfl
theorem T_law_1 : c_law.T[1]? = some f_l_cell := rfl
theorem T_law_2 : c_law.T[2]? = some f_l_pairs := rfl
theorem T_law_3 : c_law.T[3]? = some f_l_back := rfl
theorem T_law_4 : c_law.T[4]? = some f_l_spoilt := rfl
theorem T_law_5 : c_law.T[5]? = some f_l_asked := rfl
theorem T_law_6 : c_law.T[6]? = some f_l_due := rfl
theorem T_law_7 : c_law.T[7]? = some f_l_row := rfl
/-! ### the looks -/
theorem ck_row_of_sums : ckB N_row_of_sums c_row_of_sums false (defScope (stn 7)) b_row_of_sums (defBody (stn 7)) = true := by decide +kernel
theorem S_row_of_sums : FnScope N_row_of_sums ["sums"] (defScope (stn 7)) := ⟨rfl, rfl, rfl, by decide +kernel, by decide +kernel, by decide +kernel, by decide +kernel⟩
theorem B_row_of_sums (kV doc pm : Value) (an : Option Addr) (cdv ct : Value) (us : List Value) (hl : us.length = (["sums"] : List Str).length) : bindArgs (PySem.W.fnOf "row_of_sums" "row_of_sums" (defArgs (stn 7)) (defBody (stn 7)) (defScope (stn 7)) .none kV doc pm an cdv ct) ⟨us, []⟩ = pure ((["sums"] : List Str).zip us) := match us, hl with | [_], _ => rfl
theorem ck_common_dimension : ckB N_common_dimension c_common_dimension false (defScope (stn 8)) b_common_dimension (defBody (stn 8)) = true := by decide +kernel
theorem S_common_dimension : FnScope N_common_dimension ["rows"] (defScope (stn 8)) := ⟨rfl, rfl, rfl, by decide +kernel, by decide +kernel, by decide +kernel, by decide +kernel⟩
theorem B_common_dimension (kV doc pm : Value) (an : Option Addr) (cdv ct : Value) (us : List Value) (hl : us.length = (["rows"] : List Str).length) : bindArgs (PySem.W.fnOf "common_dimension" "common_dimension" (defArgs (stn 8)) (defBody (stn 8)) (defScope (stn 8)) .none kV doc pm an cdv ct) ⟨us, []⟩ = pure ((["rows"] : List Str).zip us) := match us, hl with | [_], _ => rfl
theorem ck_l_cell : ckB N_l_cell c_l_cell false (defScope (stn 13)) b_l_cell (defBody (stn 13)) = true := by decide +kernel
theorem S_l_cell : FnScope N_l_cell ["_law_script", "_law_k"] (defScope (stn 13)) := ⟨rfl, rfl, rfl, by decide +kernel, by decide +kernel, by decide +kernel, by decide +kernel⟩
theorem B_l_cell (kV doc pm : Value) (an : Option Addr) (cdv ct : Value) (us : List Value) (hl : us.length = (["_law_script", "_law_k"] : List Str).length) : bindArgs (PySem.W.fnOf "_law_cell" "_law_cell" (defArgs (stn 13)) (defBody (stn 13)) (defScope (stn 13)) .none kV doc pm an cdv ct) ⟨us, []⟩ = pure ((["_law_script", "_law_k"] : List Str).zip us) := match us, hl with | [_, _], _ => rfl
theorem ck_l_draws : ckB N_l_draws c_l_draws false (defScope (stn 14)) b_l_draws (defBody (stn 14)) = true := by decide +kernel
theorem S_l_draws : FnScope N_l_draws ["_law_cell_here", "_law_sizes"] (defScope (stn 14)) := ⟨rfl, rfl, rfl, by decide +kernel, by decide +kernel, by decide +kernel, by decide +kernel⟩
theorem B_l_draws (kV doc pm : Value) (an : Option Addr) (cdv ct : Value) (us : List Value) (hl : us.length = (["_law_cell_here", "_law_sizes"] : List Str).length) : bindArgs (PySem.W.fnOf "_law_draws" "_law_draws" (defArgs (stn 14)) (defBody (stn 14)) (defScope (stn 14)) .none kV doc pm an cdv ct) ⟨us, []⟩ = pure ((["_law_cell_here", "_law_sizes"] : List Str).zip us) := match us, hl with | [_, _], _ => rfl
theorem ck_l_is_integer : ckB N_l_is_integer c_l_is_integer false (defScope (stn 15)) b_l_is_integer (defBody (stn 15)) = true := by decide +kernel
theorem kh_l_is_integer : ckB N_l_is_integer k_l_is_integer.hot true (defScope (stn 15)) b_l_is_integer (defBody (stn 15)) = true := by decide +kernel
theorem S_l_is_integer : FnScope N_l_is_integer ["_law_actual"] (defScope (stn 15)) := ⟨rfl, rfl, rfl, by decide +kernel, by decide +kernel, by decide +kernel, by decide +kernel⟩
theorem B_l_is_integer (kV doc pm : Value) (an : Option Addr) (cdv ct : Value) (us : List Value) (hl : us.length = (["_law_actual"] : List Str).length) : bindArgs (PySem.W.fnOf "_law_is_integer" "_law_is_integer" (defArgs (stn 15)) (defBody (stn 15)) (defScope (stn 15)) .none kV doc pm an cdv ct) ⟨us, []⟩ = pure ((["_law_actual"] : List Str).zip us) := match us, hl with | [_], _ => rfl
theorem ck_l_back : ckB N_l_back c_l_back false (defScope (stn 19)) b_l_back (defBody (stn 19)) = true := by decide +kernel
theorem S_l_back : FnScope N_l_back ["_law_place"] (defScope (stn 19)) := ⟨rfl, rfl, rfl, by decide +kernel, by decide +kernel, by decide +kernel, by decide +kernel⟩
theorem B_l_back (kV doc pm : Value) (an : Option Addr) (cdv ct : Value) (us : List Value) (hl : us.length = (["_law_place"] : List Str).length) : bindArgs (PySem.W.fnOf "_law_back" "_law_back" (defArgs (stn 19)) (defBody (stn 19)) (defScope (stn 19)) .none kV doc pm an cdv ct) ⟨us, []⟩ = pure ((["_law_place"] : List Str).zip us) := match us, hl with | [_], _ => rfl
theorem ck_l_row : ckB N_l_row c_l_row false (defScope (stn 20)) b_l_row (defBody (stn 20)) = true := by decide +kernel
theorem S_l_row : FnScope N_l_row ["_law_pairs_here"] (defScope (stn 20)) := ⟨rfl, rfl, rfl, by decide +kernel, by decide +kernel, by decide +kernel, by decide +kernel⟩
theorem B_l_row (kV doc pm : Value) (an : Option Addr) (cdv ct : Value) (us : List Value) (hl : us.length = (["_law_pairs_here"] : List Str).length) : bindArgs (PySem.W.fnOf "_law_row" "_law_row" (defArgs (stn 20)) (defBody (stn 20)) (defScope (stn 20)) .none kV doc pm an cdv ct) ⟨us, []⟩ = pure ((["_law_pairs_here"] : List Str).zip us) := match us, hl with | [_], _ => rfl
theorem ck_l_is_error : ckB N_l_is_error c_l_is_error false (defScope (stn 21)) b_l_is_error (defBody (stn 21)) = true := by decide +kernel
theorem kh_l_is_error : ckB N_l_is_error k_l_is_error.hot true (defScope (stn 21)) b_l_is_error (defBody (stn 21)) = true := by decide +kernel
theorem S_l_is_error : FnScope N_l_is_error ["_law_e", "_law_word"] (defScope (stn 21)) := ⟨rfl, rfl, rfl, by decide +kernel, by decide +kernel, by decide +kernel, by decide +kernel⟩
theorem B_l_is_error (kV doc pm : Value) (an : Option Addr) (cdv ct : Value) (us : List Value) (hl : us.length = (["_law_e", "_law_word"] : List Str).length) : bindArgs (PySem.W.fnOf "_law_is_error" "_law_is_error" (defArgs (stn 21)) (defBody (stn 21)) (defScope (stn 21)) .none kV doc pm an cdv ct) ⟨us, []⟩ = pure ((["_law_e", "_law_word"] : List Str).zip us) := match us, hl with | [_, _], _ => rfl
theorem ck_l_pair : ckB N_l_pair c_l_pair false (defScope (stn 22)) b_l_pair (defBody (stn 22)) = true := by decide +kernel
theorem S_l_pair : FnScope N_l_pair ["_law_draws_here", "_law_size", "_law_pairs_here"] (defScope (stn 22)) := ⟨rfl, rfl, rfl, by decide +kernel, by decide +kernel, by decide +kernel, by decide +kernel⟩
theorem B_l_pair (kV doc pm : Value) (an : Option Addr) (cdv ct : Value) (us : List Value) (hl : us.length = (["_law_draws_here", "_law_size", "_law_pairs_here"] : List Str).length) : bindArgs (PySem.W.fnOf "_law_pair" "_law_pair" (defArgs (stn 22)) (defBody (stn 22)) (defScope (stn 22)) .none kV doc pm an cdv ct) ⟨us, []⟩ = pure ((["_law_draws_here", "_law_size", "_law_pairs_here"] : List Str).zip us) := match us, hl with | [_, _, _], _ => rfl
theorem ck_l_spoilt : ckB N_l_spoilt c_l_spoilt false (defScope (stn 24)) b_l_spoilt (defBody (stn 24)) = true := by decide +kernel
theorem S_l_spoilt : FnScope N_l_spoilt ["_law_pairs_here", "_law_size", "_law_draws_here"] (defScope (stn 24)) := ⟨rfl, rfl, rfl, by decide +kernel, by decide +kernel, by decide +kernel, by decide +kernel⟩
theorem B_l_spoilt (kV doc pm : Value) (an : Option Addr) (cdv ct : Value) (us : List Value) (hl : us.length = (["_law_pairs_here", "_law_size", "_law_draws_here"] : List Str).length) : bindArgs (PySem.W.fnOf "_law_spoilt" "_law_spoilt" (defArgs (stn 24)) (defBody (stn 24)) (defScope (stn 24)) .none kV doc pm an cdv ct) ⟨us, []⟩ = pure ((["_law_pairs_here", "_law_size", "_law_draws_here"] : List Str).zip us) := match us, hl with | [_, _, _], _ => rfl
theorem ck_common_place_dimension : ckB N_common_place_dimension c_common_place_dimension false (defScope (stn 9)) b_common_place_dimension (defBody (stn 9)) = true := by decide +kernel
theorem S_common_place_dimension : FnScope N_common_place_dimension ["rows", "places"] (defScope (stn 9)) := ⟨rfl, rfl, rfl, by decide +kernel, by decide +kernel, by decide +kernel, by decide +kernel⟩
theorem B_common_place_dimension (kV doc pm : Value) (an : Option Addr) (cdv ct : Value) (us : List Value) (hl : us.length = (["rows", "places"] : List Str).length) : bindArgs (PySem.W.fnOf "common_place_dimension" "common_place_dimension" (defArgs (stn 9)) (defBody (stn 9)) (defScope (stn 9)) .none kV doc pm an cdv ct) ⟨us, []⟩ = pure ((["rows", "places"] : List Str).zip us) := match us, hl with | [_, _], _ => rfl
theorem ck_l_is_place : ckB N_l_is_place c_l_is_place false (defScope (stn 16)) b_l_is_place (defBody (stn 16)) = true := by decide +kernel
theorem S_l_is_place : FnScope N_l_is_place ["_law_actual"] (defScope (stn 16)) := ⟨rfl, rfl, rfl, by decide +kernel, by decide +kernel, by decide +kernel, by decide +kernel⟩
theorem B_l_is_place (kV doc pm : Value) (an : Option Addr) (cdv ct : Value) (us : List Value) (hl : us.length = (["_law_actual"] : List Str).length) : bindArgs (PySem.W.fnOf "_law_is_place" "_law_is_place" (defArgs (stn 16)) (defBody (stn 16)) (defScope (stn 16)) .none kV doc pm an cdv ct) ⟨us, []⟩ = pure ((["_law_actual"] : List Str).zip us) := match us, hl with | [_], _ => rfl
theorem ck_l_pairs : ckB N_l_pairs c_l_pairs false (defScope (stn 23)) b_l_pairs (defBody (stn 23)) = true := by decide +kernel
theorem S_l_pairs : FnScope N_l_pairs ["_law_script", "_law_size", "_law_count"] (defScope (stn 23)) := ⟨rfl, rfl, rfl, by decide +kernel, by decide +kernel, by decide +kernel, by decide +kernel⟩
theorem B_l_pairs (kV doc pm : Value) (an : Option Addr) (cdv ct : Value) (us : List Value) (hl : us.length = (["_law_script", "_law_size", "_law_count"] : List Str).length) : bindArgs (PySem.W.fnOf "_law_pairs" "_law_pairs" (defArgs (stn 23)) (defBody (stn 23)) (defScope (stn 23)) .none kV doc pm an cdv ct) ⟨us, []⟩ = pure ((["_law_script", "_law_size", "_law_count"] : List Str).zip us) := match us, hl with | [_, _, _], _ => rfl
theorem ck_l_due : ckB N_l_due c_l_due false (defScope (stn 25)) b_l_due (defBody (stn 25)) = true := by decide +kernel
theorem S_l_due : FnScope N_l_due ["_law_pairs_here"] (defScope (stn 25)) := ⟨rfl, rfl, rfl, by decide +kernel, by decide +kernel, by decide +kernel, by decide +kernel⟩
theorem B_l_due (kV doc pm : Value) (an : Option Addr) (cdv ct : Value) (us : List Value) (hl : us.length = (["_law_pairs_here"] : List Str).length) : bindArgs (PySem.W.fnOf "_law_due" "_law_due" (defArgs (stn 25)) (defBody (stn 25)) (defScope (stn 25)) .none kV doc pm an cdv ct) ⟨us, []⟩ = pure ((["_law_pairs_here"] : List Str).zip us) := match us, hl with | [_], _ => rfl
theorem ck_l_refused : ckB N_l_refused c_l_refused false (defScope (stn 26)) b_l_refused (defBody (stn 26)) = true := by decide +kernel
theorem kh_l_refused : ckB N_l_refused k_l_refused.hot true (defScope (stn 26)) b_l_refused (defBody (stn 26)) = true := by decide +kernel
theorem S_l_refused : FnScope N_l_refused ["_law_e", "_law_due_here"] (defScope (stn 26)) := ⟨rfl, rfl, rfl, by decide +kernel, by decide +kernel, by decide +kernel, by decide +kernel⟩
theorem B_l_refused (kV doc pm : Value) (an : Option Addr) (cdv ct : Value) (us : List Value) (hl : us.length = (["_law_e", "_law_due_here"] : List Str).length) : bindArgs (PySem.W.fnOf "_law_refused" "_law_refused" (defArgs (stn 26)) (defBody (stn 26)) (defScope (stn 26)) .none kV doc pm an cdv ct) ⟨us, []⟩ = pure ((["_law_e", "_law_due_here"] : List Str).zip us) := match us, hl with | [_, _], _ => rfl
theorem ck_make_row : ckB N_make_row c_make_row false (defScope (stn 11)) b_make_row (defBody (stn 11)) = true := by decide +kernel
theorem S_make_row : FnScope N_make_row ["entries"] (defScope (stn 11)) := ⟨rfl, rfl, rfl, by decide +kernel, by decide +kernel, by decide +kernel, by decide +kernel⟩
theorem B_make_row (kV doc pm : Value) (an : Option Addr) (cdv ct : Value) (us : List Value) (hl : us.length = (["entries"] : List Str).length) : bindArgs (PySem.W.fnOf "make_row" "make_row" (defArgs (stn 11)) (defBody (stn 11)) (defScope (stn 11)) .none kV doc pm an cdv ct) ⟨us, []⟩ = pure ((["entries"] : List Str).zip us) := match us, hl with | [_], _ => rfl
theorem ck_l_is_row : ckB N_l_is_row c_l_is_row false (defScope (stn 17)) b_l_is_row (defBody (stn 17)) = true := by decide +kernel
theorem S_l_is_row : FnScope N_l_is_row ["_law_actual"] (defScope (stn 17)) := ⟨rfl, rfl, rfl, by decide +kernel, by decide +kernel, by decide +kernel, by decide +kernel⟩
theorem B_l_is_row (kV doc pm : Value) (an : Option Addr) (cdv ct : Value) (us : List Value) (hl : us.length = (["_law_actual"] : List Str).length) : bindArgs (PySem.W.fnOf "_law_is_row" "_law_is_row" (defArgs (stn 17)) (defBody (stn 17)) (defScope (stn 17)) .none kV doc pm an cdv ct) ⟨us, []⟩ = pure ((["_law_actual"] : List Str).zip us) := match us, hl with | [_], _ => rfl
theorem ck_l_same : ckB N_l_same c_l_same false (defScope (stn 18)) b_l_same (defBody (stn 18)) = true := by decide +kernel
theorem S_l_same : FnScope N_l_same ["_law_actual", "_law_expected"] (defScope (stn 18)) := ⟨rfl, rfl, rfl, by decide +kernel, by decide +kernel, by decide +kernel, by decide +kernel⟩
theorem B_l_same (kV doc pm : Value) (an : Option Addr) (cdv ct : Value) (us : List Value) (hl : us.length = (["_law_actual", "_law_expected"] : List Str).length) : bindArgs (PySem.W.fnOf "_law_same" "_law_same" (defArgs (stn 18)) (defBody (stn 18)) (defScope (stn 18)) .none kV doc pm an cdv ct) ⟨us, []⟩ = pure ((["_law_actual", "_law_expected"] : List Str).zip us) := match us, hl with | [_, _], _ => rfl
theorem ck_l_asked : ckB N_l_asked c_l_asked false (defScope (stn 27)) b_l_asked (defBody (stn 27)) = true := by decide +kernel
theorem S_l_asked : FnScope N_l_asked ["_law_pairs_here", "_law_due_here"] (defScope (stn 27)) := ⟨rfl, rfl, rfl, by decide +kernel, by decide +kernel, by decide +kernel, by decide +kernel⟩
theorem B_l_asked (kV doc pm : Value) (an : Option Addr) (cdv ct : Value) (us : List Value) (hl : us.length = (["_law_pairs_here", "_law_due_here"] : List Str).length) : bindArgs (PySem.W.fnOf "_law_asked" "_law_asked" (defArgs (stn 27)) (defBody (stn 27)) (defScope (stn 27)) .none kV doc pm an cdv ct) ⟨us, []⟩ = pure ((["_law_pairs_here", "_law_due_here"] : List Str).zip us) := match us, hl with | [_, _], _ => rfl
theorem ck_law : ckB N_law c_law false (defScope (stn 28)) b_law (defBody (stn 28)) = true := by decide +kernel
theorem S_law : FnScope N_law ["_law_script"] (defScope (stn 28)) := ⟨rfl, rfl, rfl, by decide +kernel, by decide +kernel, by decide +kernel, by decide +kernel⟩
theorem B_law (kV doc pm : Value) (an : Option Addr) (cdv ct : Value) (us : List Value) (hl : us.length = (["_law_script"] : List Str).length) : bindArgs (PySem.W.fnOf "law" "law" (defArgs (stn 28)) (defBody (stn 28)) (defScope (stn 28)) .none kV doc pm an cdv ct) ⟨us, []⟩ = pure ((["_law_script"] : List Str).zip us) := match us, hl with | [_], _ => rfl
theorem SI_TableError : FnScope ["self", "text", "word"] ["self", "text", "word"] (defScope (initOf (stn 1))) := ⟨rfl, rfl, rfl, by decide +kernel, by decide +kernel, by decide +kernel, by decide +kernel⟩
theorem BI_TableError (kV doc pm : Value) (an : Option Addr) (cdv ct : Value) (us : List Value) (hl : us.length = (["self", "text", "word"] : List Str).length) : bindArgs (PySem.W.fnOf "__init__" "TableError.__init__" (defArgs (initOf (stn 1))) (defBody (initOf (stn 1))) (defScope (initOf (stn 1))) .none kV doc pm an cdv ct) ⟨us, []⟩ = pure ((["self", "text", "word"] : List Str).zip us) := match us, hl with | [_, _, _], _ => rfl
theorem II_TableError : isI0 (defScope (initOf (stn 1))) (defBody (initOf (stn 1))) = true := by decide +kernel
theorem SI_BadPlace : FnScope ["self", "index"] ["self", "index"] (defScope (initOf (stn 2))) := ⟨rfl, rfl, rfl, by decide +kernel, by decide +kernel, by decide +kernel, by decide +kernel⟩
theorem BI_BadPlace (kV doc pm : Value) (an : Option Addr) (cdv ct : Value) (us : List Value) (hl : us.length = (["self", "index"] : List Str).length) : bindArgs (PySem.W.fnOf "__init__" "BadPlace.__init__" (defArgs (initOf (stn 2))) (defBody (initOf (stn 2))) (defScope (initOf (stn 2))) .none kV doc pm an cdv ct) ⟨us, []⟩ = pure ((["self", "index"] : List Str).zip us) := match us, hl with | [_, _], _ => rfl
theorem II_BadPlace : isIn ["self", "index"] (defScope (initOf (stn 2))) "TableError" "BadPlace" ["index"] (defBody (initOf (stn 2))) = true := by decide +kernel
theorem SI_MixedDimensions : FnScope ["self"] ["self"] (defScope (initOf (stn 3))) := ⟨rfl, rfl, rfl, by decide +kernel, by decide +kernel, by decide +kernel, by decide +kernel⟩
theorem BI_MixedDimensions (kV doc pm : Value) (an : Option Addr) (cdv ct : Value) (us : List Value) (hl : us.length = (["self"] : List Str).length) : bindArgs (PySem.W.fnOf "__init__" "MixedDimensions.__init__" (defArgs (initOf (stn 3))) (defBody (initOf (stn 3))) (defScope (initOf (stn 3))) .none kV doc pm an cdv ct) ⟨us, []⟩ = pure ((["self"] : List Str).zip us) := match us, hl with | [_], _ => rfl
theorem II_MixedDimensions : isIn ["self"] (defScope (initOf (stn 3))) "TableError" "MixedDimensions" [] (defBody (initOf (stn 3))) = true := by decide +kernel
theorem all_mk {P : Program} {w : World} {K : PySem.W.Frag} {h : Heap} {mg : Str → Option Value} {fa : Addr} (X : K.In h) (G : h.Ns mainGlobals mg) (hfa : mg "law" = some (.ref fa))
    {C_TableError : Addr}
    {fI_TableError : Addr} {o_TableError k_TableError d_TableError p_TableError cd_TableError ct_TableError : Value} {od_TableError an_TableError : Option Addr} {sl_TableError : Array (Option Value)}
    {C_BadPlace : Addr}
    {fI_BadPlace : Addr} {o_BadPlace k_BadPlace d_BadPlace p_BadPlace cd_BadPlace ct_BadPlace : Value} {od_BadPlace an_BadPlace : Option Addr} {sl_BadPlace : Array (Option Value)}
    {nm_BadPlace q_BadPlace : Str} {N_BadPlace : Addr} {bs_BadPlaceL bm_BadPlace : List Value} {sn_BadPlace : List Str} {su_BadPlace : List Value} {ab_BadPlace : Bool} {co_BadPlace : Option Bool} {dd_BadPlace : Option Addr} {m0_BadPlace m1_BadPlace m2_BadPlace m3_BadPlace m5_BadPlace : Option Value}
    {C_MixedDimensions : Addr}
    {fI_MixedDimensions : Addr} {o_MixedDimensions k_MixedDimensions d_MixedDimensions p_MixedDimensions cd_MixedDimensions ct_MixedDimensions : Value} {od_MixedDimensions an_MixedDimensions : Option Addr} {sl_MixedDimensions : Array (Option Value)}
    {nm_MixedDimensions q_MixedDimensions : Str} {N_MixedDimensions : Addr} {bs_MixedDimensionsL bm_MixedDimensions : List Value} {sn_MixedDimensions : List Str} {su_MixedDimensions : List Value} {ab_MixedDimensions : Bool} {co_MixedDimensions : Option Bool} {dd_MixedDimensions : Option Addr} {m0_MixedDimensions m1_MixedDimensions m2_MixedDimensions m3_MixedDimensions m5_MixedDimensions : Option Value}
    {C_OneDirectionOnly : Addr}
    {C_ZeroRow : Addr}
    {A_row_of_sums : Addr} {o_row_of_sums k_row_of_sumsV d_row_of_sums p_row_of_sums cd_row_of_sums ct_row_of_sums : Value} {od_row_of_sums an_row_of_sums : Option Addr} {sl_row_of_sums : Array (Option Value)}
    {A_common_dimension : Addr} {o_common_dimension k_common_dimensionV d_common_dimension p_common_dimension cd_common_dimension ct_common_dimension : Value} {od_common_dimension an_common_dimension : Option Addr} {sl_common_dimension : Array (Option Value)}
    {A_l_cell : Addr} {o_l_cell k_l_cellV d_l_cell p_l_cell cd_l_cell ct_l_cell : Value} {od_l_cell an_l_cell : Option Addr} {sl_l_cell : Array (Option Value)}
    {A_l_draws : Addr} {o_l_draws k_l_drawsV d_l_draws p_l_draws cd_l_draws ct_l_draws : Value} {od_l_draws an_l_draws : Option Addr} {sl_l_draws : Array (Option Value)}
    {A_l_is_integer : Addr} {o_l_is_integer k_l_is_integerV d_l_is_integer p_l_is_integer cd_l_is_integer ct_l_is_integer : Value} {od_l_is_integer an_l_is_integer : Option Addr} {sl_l_is_integer : Array (Option Value)}
    {A_l_back : Addr} {o_l_back k_l_backV d_l_back p_l_back cd_l_back ct_l_back : Value} {od_l_back an_l_back : Option Addr} {sl_l_back : Array (Option Value)}
    {A_l_row : Addr} {o_l_row k_l_rowV d_l_row p_l_row cd_l_row ct_l_row : Value} {od_l_row an_l_row : Option Addr} {sl_l_row : Array (Option Value)}
    {A_l_is_error : Addr} {o_l_is_error k_l_is_errorV d_l_is_error p_l_is_error cd_l_is_error ct_l_is_error : Value} {od_l_is_error an_l_is_error : Option Addr} {sl_l_is_error : Array (Option Value)}
    {A_l_pair : Addr} {o_l_pair k_l_pairV d_l_pair p_l_pair cd_l_pair ct_l_pair : Value} {od_l_pair an_l_pair : Option Addr} {sl_l_pair : Array (Option Value)}
    {A_l_spoilt : Addr} {o_l_spoilt k_l_spoiltV d_l_spoilt p_l_spoilt cd_l_spoilt ct_l_spoilt : Value} {od_l_spoilt an_l_spoilt : Option Addr} {sl_l_spoilt : Array (Option Value)}
    {A_common_place_dimension : Addr} {o_common_place_dimension k_common_place_dimensionV d_common_place_dimension p_common_place_dimension cd_common_place_dimension ct_common_place_dimension : Value} {od_common_place_dimension an_common_place_dimension : Option Addr} {sl_common_place_dimension : Array (Option Value)}
    {A_l_is_place : Addr} {o_l_is_place k_l_is_placeV d_l_is_place p_l_is_place cd_l_is_place ct_l_is_place : Value} {od_l_is_place an_l_is_place : Option Addr} {sl_l_is_place : Array (Option Value)}
    {A_l_pairs : Addr} {o_l_pairs k_l_pairsV d_l_pairs p_l_pairs cd_l_pairs ct_l_pairs : Value} {od_l_pairs an_l_pairs : Option Addr} {sl_l_pairs : Array (Option Value)}
    {A_l_due : Addr} {o_l_due k_l_dueV d_l_due p_l_due cd_l_due ct_l_due : Value} {od_l_due an_l_due : Option Addr} {sl_l_due : Array (Option Value)}
    {A_l_refused : Addr} {o_l_refused k_l_refusedV d_l_refused p_l_refused cd_l_refused ct_l_refused : Value} {od_l_refused an_l_refused : Option Addr} {sl_l_refused : Array (Option Value)}
    {A_make_row : Addr} {o_make_row k_make_rowV d_make_row p_make_row cd_make_row ct_make_row : Value} {od_make_row an_make_row : Option Addr} {sl_make_row : Array (Option Value)}
    {A_l_is_row : Addr} {o_l_is_row k_l_is_rowV d_l_is_row p_l_is_row cd_l_is_row ct_l_is_row : Value} {od_l_is_row an_l_is_row : Option Addr} {sl_l_is_row : Array (Option Value)}
    {A_l_same : Addr} {o_l_same k_l_sameV d_l_same p_l_same cd_l_same ct_l_same : Value} {od_l_same an_l_same : Option Addr} {sl_l_same : Array (Option Value)}
    {A_l_asked : Addr} {o_l_asked k_l_askedV d_l_asked p_l_asked cd_l_asked ct_l_asked : Value} {od_l_asked an_l_asked : Option Addr} {sl_l_asked : Array (Option Value)}
    {A_law : Addr} {o_law k_lawV d_law p_law cd_law ct_law : Value} {od_law an_law : Option Addr} {sl_law : Array (Option Value)}
    (z_len : PySem.W.nsIn K mainGlobals "len" = some none)
    (z_abs : PySem.W.nsIn K mainGlobals "abs" = some none)
    (z_int : PySem.W.nsIn K mainGlobals "int" = some none)
    (z_tuple : PySem.W.nsIn K mainGlobals "tuple" = some none)
    (z_list : PySem.W.nsIn K mainGlobals "list" = some none)
    (z_sorted : PySem.W.nsIn K mainGlobals "sorted" = some none)
    (z_min : PySem.W.nsIn K mainGlobals "min" = some none)
    (z_max : PySem.W.nsIn K mainGlobals "max" = some none)
    (z_sum : PySem.W.nsIn K mainGlobals "sum" = some none)
    (z_all : PySem.W.nsIn K mainGlobals "all" = some none)
    (z_any : PySem.W.nsIn K mainGlobals "any" = some none)
    (z_isinstance : PySem.W.nsIn K mainGlobals "isinstance" = some none)
    (z_range : PySem.W.nsIn K mainGlobals "range" = some none)
    (z_bool : PySem.W.nsIn K mainGlobals "bool" = some none)
    (z_str : PySem.W.nsIn K mainGlobals "str" = some none)
    (z_dict : PySem.W.nsIn K mainGlobals "dict" = some none)
    (z_reversed : PySem.W.nsIn K mainGlobals "reversed" = some none)
    (z_ValueError : PySem.W.nsIn K mainGlobals "ValueError" = some none)
    (w1 : PySem.W.specialIn K (.builtin "object.__class__") "__get__" = some (some (.builtin "getset_descriptor.__get__")))
    (w2 : PySem.W.takesIn K (.builtin "object.__class__") = some true)
    (w3 : PySem.W.findCls K (.type "ValueError") (.type "type") "__init__" = some (.val (.builtin "ValueError.__init__")))
    (w4 : PySem.W.subIn K (.type "ValueError") (.type "BaseException") = some true)
    (g_TableError : PySem.W.nsIn K mainGlobals "TableError" = some (some (.ref C_TableError)))
    (i_TableError : PySem.W.isClsIn K C_TableError = true)
    (t_TableError : PySem.W.typeIn K (.ref C_TableError) = some (.type "type"))
    (s_TableError : PySem.W.subIn K (.ref C_TableError) (.type "BaseException") = some true)
    (ga_TableError : PySem.W.findIn K (.ref C_TableError) "__getattribute__" = some (some (.builtin "BaseException.__getattribute__")))
    (gt_TableError : PySem.W.findIn K (.ref C_TableError) "__getattr__" = some none)
    (cl_TableError : PySem.W.findIn K (.ref C_TableError) "__class__" = some (some (.builtin "object.__class__")))
    (mr_TableError : PySem.W.mroIn K C_TableError (.type "object") = some true)
    (hd_TableError : PySem.W.hasDictIn K C_TableError = true)
    (bs_TableError : PySem.W.specialIn K (.ref C_TableError) "__getattribute__" = some (some (.builtin "type.__getattribute__")))
    (br_TableError : PySem.W.readsIn K C_TableError (.type "type") = true)
    (bf_TableError : PySem.W.findCls K (.ref C_TableError) (.type "type") "__init__" = some (.val (.ref fI_TableError)))
    (bk_TableError : PySem.W.keepIn K (.ref fI_TableError) = true)
    (l_TableError : K.lookup fI_TableError = some ⟨o_TableError, od_TableError, .func (PySem.W.fnOf "__init__" "TableError.__init__" (defArgs (initOf (stn 1))) (defBody (initOf (stn 1))) (defScope (initOf (stn 1))) .none k_TableError d_TableError p_TableError an_TableError cd_TableError ct_TableError), sl_TableError⟩)
    (c_TableError : PySem.W.codeIn K cd_TableError "TableError.__init__" = true)
    (g_BadPlace : PySem.W.nsIn K mainGlobals "BadPlace" = some (some (.ref C_BadPlace)))
    (i_BadPlace : PySem.W.isClsIn K C_BadPlace = true)
    (t_BadPlace : PySem.W.typeIn K (.ref C_BadPlace) = some (.type "type"))
    (s_BadPlace : PySem.W.subIn K (.ref C_BadPlace) (.type "BaseException") = some true)
    (ga_BadPlace : PySem.W.findIn K (.ref C_BadPlace) "__getattribute__" = some (some (.builtin "BaseException.__getattribute__")))
    (gt_BadPlace : PySem.W.findIn K (.ref C_BadPlace) "__getattr__" = some none)
    (cl_BadPlace : PySem.W.findIn K (.ref C_BadPlace) "__class__" = some (some (.builtin "object.__class__")))
    (mr_BadPlace : PySem.W.mroIn K C_BadPlace (.type "object") = some true)
    (hd_BadPlace : PySem.W.hasDictIn K C_BadPlace = true)
    (fi_BadPlace : PySem.W.findIn K (.ref C_BadPlace) "__init__" = some (some (.ref fI_BadPlace)))
    (l_BadPlace : K.lookup fI_BadPlace = some ⟨o_BadPlace, od_BadPlace, .func (PySem.W.fnOf "__init__" "BadPlace.__init__" (defArgs (initOf (stn 2))) (defBody (initOf (stn 2))) (defScope (initOf (stn 2))) .none k_BadPlace d_BadPlace p_BadPlace an_BadPlace cd_BadPlace ct_BadPlace), sl_BadPlace⟩)
    (c_BadPlace : PySem.W.codeIn K cd_BadPlace "BadPlace.__init__" = true)
    (xL_BadPlace : K.lookup C_BadPlace = some (excClassObj nm_BadPlace q_BadPlace C_BadPlace N_BadPlace bs_BadPlaceL bm_BadPlace true sn_BadPlace su_BadPlace ab_BadPlace co_BadPlace dd_BadPlace m0_BadPlace m1_BadPlace m2_BadPlace m3_BadPlace m5_BadPlace "ValueError.__new__"))
    (rv_BadPlace : PySem.HandSPX.refsVE bm_BadPlace = true)
    (sa_BadPlace : PySem.W.findIn K (.ref C_BadPlace) "__setattr__" = some (some (.builtin "object.__setattr__")))
    (kC_BadPlace : PySem.W.keepIn K (.ref C_BadPlace) = true)
    (ti_BadPlace : PySem.W.typeIn K (.ref fI_BadPlace) = some (.type "function"))
    (f_BadPlace_word : PySem.W.findIn K (.ref C_BadPlace) "word" = some none)
    (f_BadPlace_index : PySem.W.findIn K (.ref C_BadPlace) "index" = some none)
    (g_MixedDimensions : PySem.W.nsIn K mainGlobals "MixedDimensions" = some (some (.ref C_MixedDimensions)))
    (i_MixedDimensions : PySem.W.isClsIn K C_MixedDimensions = true)
    (t_MixedDimensions : PySem.W.typeIn K (.ref C_MixedDimensions) = some (.type "type"))
    (s_MixedDimensions : PySem.W.subIn K (.ref C_MixedDimensions) (.type "BaseException") = some true)
    (ga_MixedDimensions : PySem.W.findIn K (.ref C_MixedDimensions) "__getattribute__" = some (some (.builtin "BaseException.__getattribute__")))
    (gt_MixedDimensions : PySem.W.findIn K (.ref C_MixedDimensions) "__getattr__" = some none)
    (cl_MixedDimensions : PySem.W.findIn K (.ref C_MixedDimensions) "__class__" = some (some (.builtin "object.__class__")))
    (mr_MixedDimensions : PySem.W.mroIn K C_MixedDimensions (.type "object") = some true)
    (hd_MixedDimensions : PySem.W.hasDictIn K C_MixedDimensions = true)
    (fi_MixedDimensions : PySem.W.findIn K (.ref C_MixedDimensions) "__init__" = some (some (.ref fI_MixedDimensions)))
    (l_MixedDimensions : K.lookup fI_MixedDimensions = some ⟨o_MixedDimensions, od_MixedDimensions, .func (PySem.W.fnOf "__init__" "MixedDimensions.__init__" (defArgs (initOf (stn 3))) (defBody (initOf (stn 3))) (defScope (initOf (stn 3))) .none k_MixedDimensions d_MixedDimensions p_MixedDimensions an_MixedDimensions cd_MixedDimensions ct_MixedDimensions), sl_MixedDimensions⟩)
    (c_MixedDimensions : PySem.W.codeIn K cd_MixedDimensions "MixedDimensions.__init__" = true)
    (xL_MixedDimensions : K.lookup C_MixedDimensions = some (excClassObj nm_MixedDimensions q_MixedDimensions C_MixedDimensions N_MixedDimensions bs_MixedDimensionsL bm_MixedDimensions true sn_MixedDimensions su_MixedDimensions ab_MixedDimensions co_MixedDimensions dd_MixedDimensions m0_MixedDimensions m1_MixedDimensions m2_MixedDimensions m3_MixedDimensions m5_MixedDimensions "ValueError.__new__"))
    (rv_MixedDimensions : PySem.HandSPX.refsVE bm_MixedDimensions = true)
    (sa_MixedDimensions : PySem.W.findIn K (.ref C_MixedDimensions) "__setattr__" = some (some (.builtin "object.__setattr__")))
    (kC_MixedDimensions : PySem.W.keepIn K (.ref C_MixedDimensions) = true)
    (ti_MixedDimensions : PySem.W.typeIn K (.ref fI_MixedDimensions) = some (.type "function"))
    (f_MixedDimensions_word : PySem.W.findIn K (.ref C_MixedDimensions) "word" = some none)
    (g_OneDirectionOnly : PySem.W.nsIn K mainGlobals "OneDirectionOnly" = some (some (.ref C_OneDirectionOnly)))
    (i_OneDirectionOnly : PySem.W.isClsIn K C_OneDirectionOnly = true)
    (t_OneDirectionOnly : PySem.W.typeIn K (.ref C_OneDirectionOnly) = some (.type "type"))
    (s_OneDirectionOnly : PySem.W.subIn K (.ref C_OneDirectionOnly) (.type "BaseException") = some true)
    (g_ZeroRow : PySem.W.nsIn K mainGlobals "ZeroRow" = some (some (.ref C_ZeroRow)))
    (i_ZeroRow : PySem.W.isClsIn K C_ZeroRow = true)
    (t_ZeroRow : PySem.W.typeIn K (.ref C_ZeroRow) = some (.type "type"))
    (s_ZeroRow : PySem.W.subIn K (.ref C_ZeroRow) (.type "BaseException") = some true)
    (u_BadPlace_TableError : PySem.W.subIn K (.ref C_BadPlace) (.ref C_TableError) = some true)
    (n_BadPlace_TableError : C_BadPlace = C_TableError → true = true)
    (u_BadPlace_ValueError : PySem.W.subIn K (.ref C_BadPlace) (.type "ValueError") = some true)
    (u_BadPlace_OneDirectionOnly : PySem.W.subIn K (.ref C_BadPlace) (.ref C_OneDirectionOnly) = some false)
    (n_BadPlace_OneDirectionOnly : C_BadPlace = C_OneDirectionOnly → false = true)
    (u_BadPlace_ZeroRow : PySem.W.subIn K (.ref C_BadPlace) (.ref C_ZeroRow) = some false)
    (n_BadPlace_ZeroRow : C_BadPlace = C_ZeroRow → false = true)
    (u_BadPlace_MixedDimensions : PySem.W.subIn K (.ref C_BadPlace) (.ref C_MixedDimensions) = some false)
    (n_BadPlace_MixedDimensions : C_BadPlace = C_MixedDimensions → false = true)
    (u_BadPlace_BadPlace : PySem.W.subIn K (.ref C_BadPlace) (.ref C_BadPlace) = some true)
    (u_MixedDimensions_TableError : PySem.W.subIn K (.ref C_MixedDimensions) (.ref C_TableError) = some true)
    (n_MixedDimensions_TableError : C_MixedDimensions = C_TableError → true = true)
    (u_MixedDimensions_ValueError : PySem.W.subIn K (.ref C_MixedDimensions) (.type "ValueError") = some true)
    (u_MixedDimensions_OneDirectionOnly : PySem.W.subIn K (.ref C_MixedDimensions) (.ref C_OneDirectionOnly) = some false)
    (n_MixedDimensions_OneDirectionOnly : C_MixedDimensions = C_OneDirectionOnly → false = true)
    (u_MixedDimensions_ZeroRow : PySem.W.subIn K (.ref C_MixedDimensions) (.ref C_ZeroRow) = some false)
    (n_MixedDimensions_ZeroRow : C_MixedDimensions = C_ZeroRow → false = true)
    (u_MixedDimensions_MixedDimensions : PySem.W.subIn K (.ref C_MixedDimensions) (.ref C_MixedDimensions) = some true)
    (u_MixedDimensions_BadPlace : PySem.W.subIn K (.ref C_MixedDimensions) (.ref C_BadPlace) = some false)
    (n_MixedDimensions_BadPlace : C_MixedDimensions = C_BadPlace → false = true)
    (u_TableError_TableError : PySem.W.subIn K (.ref C_TableError) (.ref C_TableError) = some true)
    (u_TableError_ValueError : PySem.W.subIn K (.ref C_TableError) (.type "ValueError") = some true)
    (u_TableError_OneDirectionOnly : PySem.W.subIn K (.ref C_TableError) (.ref C_OneDirectionOnly) = some false)
    (n_TableError_OneDirectionOnly : C_TableError = C_OneDirectionOnly → false = true)
    (u_TableError_ZeroRow : PySem.W.subIn K (.ref C_TableError) (.ref C_ZeroRow) = some false)
    (n_TableError_ZeroRow : C_TableError = C_ZeroRow → false = true)
    (u_TableError_MixedDimensions : PySem.W.subIn K (.ref C_TableError) (.ref C_MixedDimensions) = some false)
    (n_TableError_MixedDimensions : C_TableError = C_MixedDimensions → false = true)
    (u_TableError_BadPlace : PySem.W.subIn K (.ref C_TableError) (.ref C_BadPlace) = some false)
    (n_TableError_BadPlace : C_TableError = C_BadPlace → false = true)
    (a_row_of_sums : PySem.W.nsIn K mainGlobals "row_of_sums" = some (some (.ref A_row_of_sums)))
    (l_row_of_sums : K.lookup A_row_of_sums = some ⟨o_row_of_sums, od_row_of_sums, .func (PySem.W.fnOf "row_of_sums" "row_of_sums" (defArgs (stn 7)) (defBody (stn 7)) (defScope (stn 7)) .none k_row_of_sumsV d_row_of_sums p_row_of_sums an_row_of_sums cd_row_of_sums ct_row_of_sums), sl_row_of_sums⟩)
    (e_row_of_sums : PySem.W.codeIn K cd_row_of_sums "row_of_sums" = true)
    (q_row_of_sums : PySem.W.keepIn K (.ref A_row_of_sums) = true)
    (a_common_dimension : PySem.W.nsIn K mainGlobals "common_dimension" = some (some (.ref A_common_dimension)))
    (l_common_dimension : K.lookup A_common_dimension = some ⟨o_common_dimension, od_common_dimension, .func (PySem.W.fnOf "common_dimension" "common_dimension" (defArgs (stn 8)) (defBody (stn 8)) (defScope (stn 8)) .none k_common_dimensionV d_common_dimension p_common_dimension an_common_dimension cd_common_dimension ct_common_dimension), sl_common_dimension⟩)
    (e_common_dimension : PySem.W.codeIn K cd_common_dimension "common_dimension" = true)
    (q_common_dimension : PySem.W.keepIn K (.ref A_common_dimension) = true)
    (a_l_cell : PySem.W.nsIn K mainGlobals "_law_cell" = some (some (.ref A_l_cell)))
    (l_l_cell : K.lookup A_l_cell = some ⟨o_l_cell, od_l_cell, .func (PySem.W.fnOf "_law_cell" "_law_cell" (defArgs (stn 13)) (defBody (stn 13)) (defScope (stn 13)) .none k_l_cellV d_l_cell p_l_cell an_l_cell cd_l_cell ct_l_cell), sl_l_cell⟩)
    (e_l_cell : PySem.W.codeIn K cd_l_cell "_law_cell" = true)
    (q_l_cell : PySem.W.keepIn K (.ref A_l_cell) = true)
    (a_l_draws : PySem.W.nsIn K mainGlobals "_law_draws" = some (some (.ref A_l_draws)))
    (l_l_draws : K.lookup A_l_draws = some ⟨o_l_draws, od_l_draws, .func (PySem.W.fnOf "_law_draws" "_law_draws" (defArgs (stn 14)) (defBody (stn 14)) (defScope (stn 14)) .none k_l_drawsV d_l_draws p_l_draws an_l_draws cd_l_draws ct_l_draws), sl_l_draws⟩)
    (e_l_draws : PySem.W.codeIn K cd_l_draws "_law_draws" = true)
    (q_l_draws : PySem.W.keepIn K (.ref A_l_draws) = true)
    (a_l_is_integer : PySem.W.nsIn K mainGlobals "_law_is_integer" = some (some (.ref A_l_is_integer)))
    (l_l_is_integer : K.lookup A_l_is_integer = some ⟨o_l_is_integer, od_l_is_integer, .func (PySem.W.fnOf "_law_is_integer" "_law_is_integer" (defArgs (stn 15)) (defBody (stn 15)) (defScope (stn 15)) .none k_l_is_integerV d_l_is_integer p_l_is_integer an_l_is_integer cd_l_is_integer ct_l_is_integer), sl_l_is_integer⟩)
    (e_l_is_integer : PySem.W.codeIn K cd_l_is_integer "_law_is_integer" = true)
    (q_l_is_integer : PySem.W.keepIn K (.ref A_l_is_integer) = true)
    (a_l_back : PySem.W.nsIn K mainGlobals "_law_back" = some (some (.ref A_l_back)))
    (l_l_back : K.lookup A_l_back = some ⟨o_l_back, od_l_back, .func (PySem.W.fnOf "_law_back" "_law_back" (defArgs (stn 19)) (defBody (stn 19)) (defScope (stn 19)) .none k_l_backV d_l_back p_l_back an_l_back cd_l_back ct_l_back), sl_l_back⟩)
    (e_l_back : PySem.W.codeIn K cd_l_back "_law_back" = true)
    (q_l_back : PySem.W.keepIn K (.ref A_l_back) = true)
    (a_l_row : PySem.W.nsIn K mainGlobals "_law_row" = some (some (.ref A_l_row)))
    (l_l_row : K.lookup A_l_row = some ⟨o_l_row, od_l_row, .func (PySem.W.fnOf "_law_row" "_law_row" (defArgs (stn 20)) (defBody (stn 20)) (defScope (stn 20)) .none k_l_rowV d_l_row p_l_row an_l_row cd_l_row ct_l_row), sl_l_row⟩)
    (e_l_row : PySem.W.codeIn K cd_l_row "_law_row" = true)
    (q_l_row : PySem.W.keepIn K (.ref A_l_row) = true)
    (a_l_is_error : PySem.W.nsIn K mainGlobals "_law_is_error" = some (some (.ref A_l_is_error)))
    (l_l_is_error : K.lookup A_l_is_error = some ⟨o_l_is_error, od_l_is_error, .func (PySem.W.fnOf "_law_is_error" "_law_is_error" (defArgs (stn 21)) (defBody (stn 21)) (defScope (stn 21)) .none k_l_is_errorV d_l_is_error p_l_is_error an_l_is_error cd_l_is_error ct_l_is_error), sl_l_is_error⟩)
    (e_l_is_error : PySem.W.codeIn K cd_l_is_error "_law_is_error" = true)
    (q_l_is_error : PySem.W.keepIn K (.ref A_l_is_error) = true)
    (a_l_pair : PySem.W.nsIn K mainGlobals "_law_pair" = some (some (.ref A_l_pair)))
    (l_l_pair : K.lookup A_l_pair = some ⟨o_l_pair, od_l_pair, .func (PySem.W.fnOf "_law_pair" "_law_pair" (defArgs (stn 22)) (defBody (stn 22)) (defScope (stn 22)) .none k_l_pairV d_l_pair p_l_pair an_l_pair cd_l_pair ct_l_pair), sl_l_pair⟩)
    (e_l_pair : PySem.W.codeIn K cd_l_pair "_law_pair" = true)
    (q_l_pair : PySem.W.keepIn K (.ref A_l_pair) = true)
    (a_l_spoilt : PySem.W.nsIn K mainGlobals "_law_spoilt" = some (some (.ref A_l_spoilt)))
    (l_l_spoilt : K.lookup A_l_spoilt = some ⟨o_l_spoilt, od_l_spoilt, .func (PySem.W.fnOf "_law_spoilt" "_law_spoilt" (defArgs (stn 24)) (defBody (stn 24)) (defScope (stn 24)) .none k_l_spoiltV d_l_spoilt p_l_spoilt an_l_spoilt cd_l_spoilt ct_l_spoilt), sl_l_spoilt⟩)
    (e_l_spoilt : PySem.W.codeIn K cd_l_spoilt "_law_spoilt" = true)
    (q_l_spoilt : PySem.W.keepIn K (.ref A_l_spoilt) = true)
    (a_common_place_dimension : PySem.W.nsIn K mainGlobals "common_place_dimension" = some (some (.ref A_common_place_dimension)))
    (l_common_place_dimension : K.lookup A_common_place_dimension = some ⟨o_common_place_dimension, od_common_place_dimension, .func (PySem.W.fnOf "common_place_dimension" "common_place_dimension" (defArgs (stn 9)) (defBody (stn 9)) (defScope (stn 9)) .none k_common_place_dimensionV d_common_place_dimension p_common_place_dimension an_common_place_dimension cd_common_place_dimension ct_common_place_dimension), sl_common_place_dimension⟩)
    (e_common_place_dimension : PySem.W.codeIn K cd_common_place_dimension "common_place_dimension" = true)
    (q_common_place_dimension : PySem.W.keepIn K (.ref A_common_place_dimension) = true)
    (a_l_is_place : PySem.W.nsIn K mainGlobals "_law_is_place" = some (some (.ref A_l_is_place)))
    (l_l_is_place : K.lookup A_l_is_place = some ⟨o_l_is_place, od_l_is_place, .func (PySem.W.fnOf "_law_is_place" "_law_is_place" (defArgs (stn 16)) (defBody (stn 16)) (defScope (stn 16)) .none k_l_is_placeV d_l_is_place p_l_is_place an_l_is_place cd_l_is_place ct_l_is_place), sl_l_is_place⟩)
    (e_l_is_place : PySem.W.codeIn K cd_l_is_place "_law_is_place" = true)
    (q_l_is_place : PySem.W.keepIn K (.ref A_l_is_place) = true)
    (a_l_pairs : PySem.W.nsIn K mainGlobals "_law_pairs" = some (some (.ref A_l_pairs)))
    (l_l_pairs : K.lookup A_l_pairs = some ⟨o_l_pairs, od_l_pairs, .func (PySem.W.fnOf "_law_pairs" "_law_pairs" (defArgs (stn 23)) (defBody (stn 23)) (defScope (stn 23)) .none k_l_pairsV d_l_pairs p_l_pairs an_l_pairs cd_l_pairs ct_l_pairs), sl_l_pairs⟩)
    (e_l_pairs : PySem.W.codeIn K cd_l_pairs "_law_pairs" = true)
    (q_l_pairs : PySem.W.keepIn K (.ref A_l_pairs) = true)
    (a_l_due : PySem.W.nsIn K mainGlobals "_law_due" = some (some (.ref A_l_due)))
    (l_l_due : K.lookup A_l_due = some ⟨o_l_due, od_l_due, .func (PySem.W.fnOf "_law_due" "_law_due" (defArgs (stn 25)) (defBody (stn 25)) (defScope (stn 25)) .none k_l_dueV d_l_due p_l_due an_l_due cd_l_due ct_l_due), sl_l_due⟩)
    (e_l_due : PySem.W.codeIn K cd_l_due "_law_due" = true)
    (q_l_due : PySem.W.keepIn K (.ref A_l_due) = true)
    (a_l_refused : PySem.W.nsIn K mainGlobals "_law_refused" = some (some (.ref A_l_refused)))
    (l_l_refused : K.lookup A_l_refused = some ⟨o_l_refused, od_l_refused, .func (PySem.W.fnOf "_law_refused" "_law_refused" (defArgs (stn 26)) (defBody (stn 26)) (defScope (stn 26)) .none k_l_refusedV d_l_refused p_l_refused an_l_refused cd_l_refused ct_l_refused), sl_l_refused⟩)
    (e_l_refused : PySem.W.codeIn K cd_l_refused "_law_refused" = true)
    (q_l_refused : PySem.W.keepIn K (.ref A_l_refused) = true)
    (a_make_row : PySem.W.nsIn K mainGlobals "make_row" = some (some (.ref A_make_row)))
    (l_make_row : K.lookup A_make_row = some ⟨o_make_row, od_make_row, .func (PySem.W.fnOf "make_row" "make_row" (defArgs (stn 11)) (defBody (stn 11)) (defScope (stn 11)) .none k_make_rowV d_make_row p_make_row an_make_row cd_make_row ct_make_row), sl_make_row⟩)
    (e_make_row : PySem.W.codeIn K cd_make_row "make_row" = true)
    (q_make_row : PySem.W.keepIn K (.ref A_make_row) = true)
    (a_l_is_row : PySem.W.nsIn K mainGlobals "_law_is_row" = some (some (.ref A_l_is_row)))
    (l_l_is_row : K.lookup A_l_is_row = some ⟨o_l_is_row, od_l_is_row, .func (PySem.W.fnOf "_law_is_row" "_law_is_row" (defArgs (stn 17)) (defBody (stn 17)) (defScope (stn 17)) .none k_l_is_rowV d_l_is_row p_l_is_row an_l_is_row cd_l_is_row ct_l_is_row), sl_l_is_row⟩)
    (e_l_is_row : PySem.W.codeIn K cd_l_is_row "_law_is_row" = true)
    (q_l_is_row : PySem.W.keepIn K (.ref A_l_is_row) = true)
    (a_l_same : PySem.W.nsIn K mainGlobals "_law_same" = some (some (.ref A_l_same)))
    (l_l_same : K.lookup A_l_same = some ⟨o_l_same, od_l_same, .func (PySem.W.fnOf "_law_same" "_law_same" (defArgs (stn 18)) (defBody (stn 18)) (defScope (stn 18)) .none k_l_sameV d_l_same p_l_same an_l_same cd_l_same ct_l_same), sl_l_same⟩)
    (e_l_same : PySem.W.codeIn K cd_l_same "_law_same" = true)
    (q_l_same : PySem.W.keepIn K (.ref A_l_same) = true)
    (a_l_asked : PySem.W.nsIn K mainGlobals "_law_asked" = some (some (.ref A_l_asked)))
    (l_l_asked : K.lookup A_l_asked = some ⟨o_l_asked, od_l_asked, .func (PySem.W.fnOf "_law_asked" "_law_asked" (defArgs (stn 27)) (defBody (stn 27)) (defScope (stn 27)) .none k_l_askedV d_l_asked p_l_asked an_l_asked cd_l_asked ct_l_asked), sl_l_asked⟩)
    (e_l_asked : PySem.W.codeIn K cd_l_asked "_law_asked" = true)
    (q_l_asked : PySem.W.keepIn K (.ref A_l_asked) = true)
    (a_law : PySem.W.nsIn K mainGlobals "law" = some (some (.ref A_law)))
    (l_law : K.lookup A_law = some ⟨o_law, od_law, .func (PySem.W.fnOf "law" "law" (defArgs (stn 28)) (defBody (stn 28)) (defScope (stn 28)) .none k_lawV d_law p_law an_law cd_law ct_law), sl_law⟩)
    (e_law : PySem.W.codeIn K cd_law "law" = true)
    (q_law : PySem.W.keepIn K (.ref A_law) = true)
    (plain : ∀ ns : List Int, ns.length ≤ 63 → f_law.m [.lst (ns.map D.int)] = some (.ok (.dat (.bl true)))) :
    ∃ fd : FuncData, (∀ (s : Shared) (v : Value), BindsTo s fd ⟨[v], []⟩ [("_law_script", v)]) ∧ ∀ base : Heap, K.In base → base.Ns mainGlobals mg → FnOk P w K mg base (L2N.CX P w) 9 fa fd ["_law_script"] (DE.spLaw K) := by
  have e := hfa.symm.trans (PySem.W.mg_of X G a_law)
  cases e
  refine ⟨PySem.W.fnOf "law" "law" (defArgs (stn 28)) (defBody (stn 28)) (defScope (stn 28)) .none k_lawV d_law p_law an_law cd_law ct_law, fun s v => .of_eq rfl, fun base _ _ => ?_⟩
  have bn : ∀ x ∈ bNames, mg x = none := all_cons (PySem.W.mg_none_of X G z_len) (all_cons (PySem.W.mg_none_of X G z_abs) (all_cons (PySem.W.mg_none_of X G z_int) (all_cons (PySem.W.mg_none_of X G z_tuple) (all_cons (PySem.W.mg_none_of X G z_list) (all_cons (PySem.W.mg_none_of X G z_sorted) (all_cons (PySem.W.mg_none_of X G z_min) (all_cons (PySem.W.mg_none_of X G z_max) (all_cons (PySem.W.mg_none_of X G z_sum) (all_cons (PySem.W.mg_none_of X G z_all) (all_cons (PySem.W.mg_none_of X G z_any) (all_cons (PySem.W.mg_none_of X G z_isinstance) (all_cons (PySem.W.mg_none_of X G z_range) (all_cons (PySem.W.mg_none_of X G z_bool) (all_cons (PySem.W.mg_none_of X G z_str) (all_cons (PySem.W.mg_none_of X G z_dict) (all_cons (PySem.W.mg_none_of X G z_reversed) (all_cons (PySem.W.mg_none_of X G z_ValueError) (all_nil))))))))))))))))))
  have G_TableError := PySem.W.mg_of X G g_TableError
  have E_TableError : EcC K C_TableError := ⟨i_TableError, ga_TableError, gt_TableError, s_TableError, cl_TableError, w1, w2, mr_TableError, hd_TableError⟩
  have G_BadPlace := PySem.W.mg_of X G g_BadPlace
  have E_BadPlace : EcC K C_BadPlace := ⟨i_BadPlace, ga_BadPlace, gt_BadPlace, s_BadPlace, cl_BadPlace, w1, w2, mr_BadPlace, hd_BadPlace⟩
  have O_BadPlace : OexC K C_BadPlace := ⟨⟨_, _, _, _, _, _, _, _, _, _, _, _, _, _, _, xL_BadPlace, rv_BadPlace⟩, sa_BadPlace, s_BadPlace, t_BadPlace, kC_BadPlace⟩
  have G_MixedDimensions := PySem.W.mg_of X G g_MixedDimensions
  have E_MixedDimensions : EcC K C_MixedDimensions := ⟨i_MixedDimensions, ga_MixedDimensions, gt_MixedDimensions, s_MixedDimensions, cl_MixedDimensions, w1, w2, mr_MixedDimensions, hd_MixedDimensions⟩
  have O_MixedDimensions : OexC K C_MixedDimensions := ⟨⟨_, _, _, _, _, _, _, _, _, _, _, _, _, _, _, xL_MixedDimensions, rv_MixedDimensions⟩, sa_MixedDimensions, s_MixedDimensions, t_MixedDimensions, kC_MixedDimensions⟩
  have G_OneDirectionOnly := PySem.W.mg_of X G g_OneDirectionOnly
  have G_ZeroRow := PySem.W.mg_of X G g_ZeroRow
  have h1 : ∀ p ∈ isaT, IsaOk K mg p := all_cons (isa_own G_BadPlace E_BadPlace G_TableError i_TableError t_TableError u_BadPlace_TableError s_TableError n_BadPlace_TableError) (all_cons (isa_ve (T := "ValueError") G_BadPlace E_BadPlace (PySem.W.mg_none_of X G z_ValueError) (by decide +kernel) (by decide +kernel) u_BadPlace_ValueError w4 (by decide +kernel)) (all_cons (isa_own G_BadPlace E_BadPlace G_OneDirectionOnly i_OneDirectionOnly t_OneDirectionOnly u_BadPlace_OneDirectionOnly s_OneDirectionOnly n_BadPlace_OneDirectionOnly) (all_cons (isa_own G_BadPlace E_BadPlace G_ZeroRow i_ZeroRow t_ZeroRow u_BadPlace_ZeroRow s_ZeroRow n_BadPlace_ZeroRow) (all_cons (isa_own G_BadPlace E_BadPlace G_MixedDimensions i_MixedDimensions t_MixedDimensions u_BadPlace_MixedDimensions s_MixedDimensions n_BadPlace_MixedDimensions) (all_cons (isa_own G_BadPlace E_BadPlace G_BadPlace i_BadPlace t_BadPlace u_BadPlace_BadPlace s_BadPlace (fun _ => rfl)) (all_cons (isa_own G_MixedDimensions E_MixedDimensions G_TableError i_TableError t_TableError u_MixedDimensions_TableError s_TableError n_MixedDimensions_TableError) (all_cons (isa_ve (T := "ValueError") G_MixedDimensions E_MixedDimensions (PySem.W.mg_none_of X G z_ValueError) (by decide +kernel) (by decide +kernel) u_MixedDimensions_ValueError w4 (by decide +kernel)) (all_cons (isa_own G_MixedDimensions E_MixedDimensions G_OneDirectionOnly i_OneDirectionOnly t_OneDirectionOnly u_MixedDimensions_OneDirectionOnly s_OneDirectionOnly n_MixedDimensions_OneDirectionOnly) (all_cons (isa_own G_MixedDimensions E_MixedDimensions G_ZeroRow i_ZeroRow t_ZeroRow u_MixedDimensions_ZeroRow s_ZeroRow n_MixedDimensions_ZeroRow) (all_cons (isa_own G_MixedDimensions E_MixedDimensions G_MixedDimensions i_MixedDimensions t_MixedDimensions u_MixedDimensions_MixedDimensions s_MixedDimensions (fun _ => rfl)) (all_cons (isa_own G_MixedDimensions E_MixedDimensions G_BadPlace i_BadPlace t_BadPlace u_MixedDimensions_BadPlace s_BadPlace n_MixedDimensions_BadPlace) (all_cons (isa_own G_TableError E_TableError G_TableError i_TableError t_TableError u_TableError_TableError s_TableError (fun _ => rfl)) (all_cons (isa_ve (T := "ValueError") G_TableError E_TableError (PySem.W.mg_none_of X G z_ValueError) (by decide +kernel) (by decide +kernel) u_TableError_ValueError w4 (by decide +kernel)) (all_cons (isa_own G_TableError E_TableError G_OneDirectionOnly i_OneDirectionOnly t_OneDirectionOnly u_TableError_OneDirectionOnly s_OneDirectionOnly n_TableError_OneDirectionOnly) (all_cons (isa_own G_TableError E_TableError G_ZeroRow i_ZeroRow t_ZeroRow u_TableError_ZeroRow s_ZeroRow n_TableError_ZeroRow) (all_cons (isa_own G_TableError E_TableError G_MixedDimensions i_MixedDimensions t_MixedDimensions u_TableError_MixedDimensions s_MixedDimensions n_TableError_MixedDimensions) (all_cons (isa_own G_TableError E_TableError G_BadPlace i_BadPlace t_BadPlace u_TableError_BadPlace s_BadPlace n_TableError_BadPlace) (all_nil))))))))))))))))))
  have h2 : ∀ p ∈ mkT, MkOk P w K mg base p := all_cons (err_ok (base := base) G_TableError (by decide +kernel) ⟨bs_TableError, br_TableError, bf_TableError, bk_TableError⟩ l_TableError c_TableError SI_TableError II_TableError (PySem.W.mg_none_of X G z_ValueError) w3 BI_TableError G_BadPlace O_BadPlace fi_BadPlace ti_BadPlace l_BadPlace c_BadPlace SI_BadPlace II_BadPlace rfl (by decide) f_BadPlace_word (all_cons f_BadPlace_index (all_nil)) BI_BadPlace) (all_cons (err_ok (base := base) G_TableError (by decide +kernel) ⟨bs_TableError, br_TableError, bf_TableError, bk_TableError⟩ l_TableError c_TableError SI_TableError II_TableError (PySem.W.mg_none_of X G z_ValueError) w3 BI_TableError G_MixedDimensions O_MixedDimensions fi_MixedDimensions ti_MixedDimensions l_MixedDimensions c_MixedDimensions SI_MixedDimensions II_MixedDimensions rfl (by decide) f_MixedDimensions_word (all_nil) BI_MixedDimensions) (all_nil))
  have h3 : ∀ p ∈ fldT, FldOk K mg p := all_cons ⟨_, G_BadPlace, E_BadPlace, f_BadPlace_word⟩ (all_cons ⟨_, G_BadPlace, E_BadPlace, f_BadPlace_index⟩ (all_cons ⟨_, G_MixedDimensions, E_MixedDimensions, f_MixedDimensions_word⟩ (all_nil)))
  have U_row_of_sums := fun_mk (x := "row_of_sums") (qual := "row_of_sums") (st := stn 7) l_row_of_sums e_row_of_sums q_row_of_sums
  have M_row_of_sums := PySem.W.mg_of X G a_row_of_sums
  have T_row_of_sums : Txt P w K mg base c_row_of_sums 3 := txt_of h1 h2 h3 bn (by decide) (all_nil) (all_nil)
  have F_row_of_sums : FnFact P w K mg base f_row_of_sums 4 := fn_okD U_row_of_sums M_row_of_sums S_row_of_sums rfl B_row_of_sums ck_row_of_sums T_row_of_sums
  have U_common_dimension := fun_mk (x := "common_dimension") (qual := "common_dimension") (st := stn 8) l_common_dimension e_common_dimension q_common_dimension
  have M_common_dimension := PySem.W.mg_of X G a_common_dimension
  have T_common_dimension : Txt P w K mg base c_common_dimension 3 := txt_of h1 h2 h3 bn (by decide) (all_nil) (all_nil)
  have F_common_dimension : FnFact P w K mg base f_common_dimension 4 := fn_okD U_common_dimension M_common_dimension S_common_dimension rfl B_common_dimension ck_common_dimension T_common_dimension
  have U_l_cell := fun_mk (x := "_law_cell") (qual := "_law_cell") (st := stn 13) l_l_cell e_l_cell q_l_cell
  have M_l_cell := PySem.W.mg_of X G a_l_cell
  have T_l_cell : Txt P w K mg base c_l_cell 3 := txt_of h1 h2 h3 bn (by decide) (all_nil) (all_nil)
  have F_l_cell : FnFact P w K mg base f_l_cell 4 := fn_okD U_l_cell M_l_cell S_l_cell rfl B_l_cell ck_l_cell T_l_cell
  have U_l_draws := fun_mk (x := "_law_draws") (qual := "_law_draws") (st := stn 14) l_l_draws e_l_draws q_l_draws
  have M_l_draws := PySem.W.mg_of X G a_l_draws
  have T_l_draws : Txt P w K mg base c_l_draws 3 := txt_of h1 h2 h3 bn (by decide) (all_nil) (all_nil)
  have F_l_draws : FnFact P w K mg base f_l_draws 4 := fn_okD U_l_draws M_l_draws S_l_draws rfl B_l_draws ck_l_draws T_l_draws
  have U_l_is_integer := fun_mk (x := "_law_is_integer") (qual := "_law_is_integer") (st := stn 15) l_l_is_integer e_l_is_integer q_l_is_integer
  have M_l_is_integer := PySem.W.mg_of X G a_l_is_integer
  have T_l_is_integer : Txt P w K mg base c_l_is_integer 3 := txt_of h1 h2 h3 bn (by decide) (all_nil) (all_nil)
  have F_l_is_integer : FnFact P w K mg base f_l_is_integer 4 := fn_okD U_l_is_integer M_l_is_integer S_l_is_integer rfl B_l_is_integer ck_l_is_integer T_l_is_integer
  have TH_l_is_integer : Txt P w K mg base k_l_is_integer 3 := txt_of h1 h2 h3 bn (by decide) all_nil (all_nil)
  have K_l_is_integer : FnHFact P w K mg base h_l_is_integer 4 := fnH_okD U_l_is_integer M_l_is_integer S_l_is_integer rfl B_l_is_integer kh_l_is_integer TH_l_is_integer
  have U_l_back := fun_mk (x := "_law_back") (qual := "_law_back") (st := stn 19) l_l_back e_l_back q_l_back
  have M_l_back := PySem.W.mg_of X G a_l_back
  have T_l_back : Txt P w K mg base c_l_back 3 := txt_of h1 h2 h3 bn (by decide) (all_nil) (all_nil)
  have F_l_back : FnFact P w K mg base f_l_back 4 := fn_okD U_l_back M_l_back S_l_back rfl B_l_back ck_l_back T_l_back
  have U_l_row := fun_mk (x := "_law_row") (qual := "_law_row") (st := stn 20) l_l_row e_l_row q_l_row
  have M_l_row := PySem.W.mg_of X G a_l_row
  have T_l_row : Txt P w K mg base c_l_row 3 := txt_of h1 h2 h3 bn (by decide) (all_nil) (all_nil)
  have F_l_row : FnFact P w K mg base f_l_row 4 := fn_okD U_l_row M_l_row S_l_row rfl B_l_row ck_l_row T_l_row
  have U_l_is_error := fun_mk (x := "_law_is_error") (qual := "_law_is_error") (st := stn 21) l_l_is_error e_l_is_error q_l_is_error
  have M_l_is_error := PySem.W.mg_of X G a_l_is_error
  have T_l_is_error : Txt P w K mg base c_l_is_error 3 := txt_of h1 h2 h3 bn (by decide) (all_nil) (all_nil)
  have F_l_is_error : FnFact P w K mg base f_l_is_error 4 := fn_okD U_l_is_error M_l_is_error S_l_is_error rfl B_l_is_error ck_l_is_error T_l_is_error
  have TH_l_is_error : Txt P w K mg base k_l_is_error 3 := txt_of h1 h2 h3 bn (by decide) all_nil (all_nil)
  have K_l_is_error : FnHFact P w K mg base h_l_is_error 4 := fnH_okD U_l_is_error M_l_is_error S_l_is_error rfl B_l_is_error kh_l_is_error TH_l_is_error
  have U_l_pair := fun_mk (x := "_law_pair") (qual := "_law_pair") (st := stn 22) l_l_pair e_l_pair q_l_pair
  have M_l_pair := PySem.W.mg_of X G a_l_pair
  have T_l_pair : Txt P w K mg base c_l_pair 3 := txt_of h1 h2 h3 bn (by decide) (all_nil) (all_nil)
  have F_l_pair : FnFact P w K mg base f_l_pair 4 := fn_okD U_l_pair M_l_pair S_l_pair rfl B_l_pair ck_l_pair T_l_pair
  have U_l_spoilt := fun_mk (x := "_law_spoilt") (qual := "_law_spoilt") (st := stn 24) l_l_spoilt e_l_spoilt q_l_spoilt
  have M_l_spoilt := PySem.W.mg_of X G a_l_spoilt
  have T_l_spoilt : Txt P w K mg base c_l_spoilt 3 := txt_of h1 h2 h3 bn (by decide) (all_nil) (all_nil)
  have F_l_spoilt : FnFact P w K mg base f_l_spoilt 4 := fn_okD U_l_spoilt M_l_spoilt S_l_spoilt rfl B_l_spoilt ck_l_spoilt T_l_spoilt
  have U_common_place_dimension := fun_mk (x := "common_place_dimension") (qual := "common_place_dimension") (st := stn 9) l_common_place_dimension e_common_place_dimension q_common_place_dimension
  have M_common_place_dimension := PySem.W.mg_of X G a_common_place_dimension
  have T_common_place_dimension : Txt P w K mg base c_common_place_dimension 4 := txt_of h1 h2 h3 bn (by decide) (all_cons (F_common_dimension.mono (by decide)) (all_nil)) (all_nil)
  have F_common_place_dimension : FnFact P w K mg base f_common_place_dimension 5 := fn_okD U_common_place_dimension M_common_place_dimension S_common_place_dimension rfl B_common_place_dimension ck_common_place_dimension T_common_place_dimension
  have U_l_is_place := fun_mk (x := "_law_is_place") (qual := "_law_is_place") (st := stn 16) l_l_is_place e_l_is_place q_l_is_place
  have M_l_is_place := PySem.W.mg_of X G a_l_is_place
  have T_l_is_place : Txt P w K mg base c_l_is_place 4 := txt_of h1 h2 h3 bn (by decide) (all_cons (F_l_is_integer.mono (by decide)) (all_nil)) (all_nil)
  have F_l_is_place : FnFact P w K mg base f_l_is_place 5 := fn_okD U_l_is_place M_l_is_place S_l_is_place rfl B_l_is_place ck_l_is_place T_l_is_place
  have U_l_pairs := fun_mk (x := "_law_pairs") (qual := "_law_pairs") (st := stn 23) l_l_pairs e_l_pairs q_l_pairs
  have M_l_pairs := PySem.W.mg_of X G a_l_pairs
  have T_l_pairs : Txt P w K mg base c_l_pairs 4 := txt_of h1 h2 h3 bn (by decide) (all_cons (F_l_draws.mono (by decide)) (all_cons (F_l_cell.mono (by decide)) (all_cons (F_l_pair.mono (by decide)) (all_nil)))) (all_nil)
  have F_l_pairs : FnFact P w K mg base f_l_pairs 5 := fn_okD U_l_pairs M_l_pairs S_l_pairs rfl B_l_pairs ck_l_pairs T_l_pairs
  have U_l_due := fun_mk (x := "_law_due") (qual := "_law_due") (st := stn 25) l_l_due e_l_due q_l_due
  have M_l_due := PySem.W.mg_of X G a_l_due
  have T_l_due : Txt P w K mg base c_l_due 4 := txt_of h1 h2 h3 bn (by decide) (all_cons (F_l_row.mono (by decide)) (all_nil)) (all_nil)
  have F_l_due : FnFact P w K mg base f_l_due 5 := fn_okD U_l_due M_l_due S_l_due rfl B_l_due ck_l_due T_l_due
  have U_l_refused := fun_mk (x := "_law_refused") (qual := "_law_refused") (st := stn 26) l_l_refused e_l_refused q_l_refused
  have M_l_refused := PySem.W.mg_of X G a_l_refused
  have T_l_refused : Txt P w K mg base c_l_refused 4 := txt_of h1 h2 h3 bn (by decide) (all_cons (F_l_is_error.mono (by decide)) (all_cons (F_l_is_integer.mono (by decide)) (all_nil))) (all_nil)
  have F_l_refused : FnFact P w K mg base f_l_refused 5 := fn_okD U_l_refused M_l_refused S_l_refused rfl B_l_refused ck_l_refused T_l_refused
  have TH_l_refused : Txt P w K mg base k_l_refused 4 := txt_of h1 h2 h3 bn (by decide) all_nil (all_cons (K_l_is_error.mono (by decide)) (all_cons (K_l_is_integer.mono (by decide)) (all_nil)))
  have K_l_refused : FnHFact P w K mg base h_l_refused 5 := fnH_okD U_l_refused M_l_refused S_l_refused rfl B_l_refused kh_l_refused TH_l_refused
  have U_make_row := fun_mk (x := "make_row") (qual := "make_row") (st := stn 11) l_make_row e_make_row q_make_row
  have M_make_row := PySem.W.mg_of X G a_make_row
  have T_make_row : Txt P w K mg base c_make_row 5 := txt_of h1 h2 h3 bn (by decide) (all_cons (F_common_place_dimension.mono (by decide)) (all_cons (F_row_of_sums.mono (by decide)) (all_nil))) (all_nil)
  have F_make_row : FnFact P w K mg base f_make_row 6 := fn_okD U_make_row M_make_row S_make_row rfl B_make_row ck_make_row T_make_row
  have U_l_is_row := fun_mk (x := "_law_is_row") (qual := "_law_is_row") (st := stn 17) l_l_is_row e_l_is_row q_l_is_row
  have M_l_is_row := PySem.W.mg_of X G a_l_is_row
  have T_l_is_row : Txt P w K mg base c_l_is_row 5 := txt_of h1 h2 h3 bn (by decide) (all_cons (F_l_is_place.mono (by decide)) (all_cons (F_l_is_integer.mono (by decide)) (all_nil))) (all_nil)
  have F_l_is_row : FnFact P w K mg base f_l_is_row 6 := fn_okD U_l_is_row M_l_is_row S_l_is_row rfl B_l_is_row ck_l_is_row T_l_is_row
  have U_l_same := fun_mk (x := "_law_same") (qual := "_law_same") (st := stn 18) l_l_same e_l_same q_l_same
  have M_l_same := PySem.W.mg_of X G a_l_same
  have T_l_same : Txt P w K mg base c_l_same 6 := txt_of h1 h2 h3 bn (by decide) (all_cons (F_l_is_row.mono (by decide)) (all_nil)) (all_nil)
  have F_l_same : FnFact P w K mg base f_l_same 7 := fn_okD U_l_same M_l_same S_l_same rfl B_l_same ck_l_same T_l_same
  have U_l_asked := fun_mk (x := "_law_asked") (qual := "_law_asked") (st := stn 27) l_l_asked e_l_asked q_l_asked
  have M_l_asked := PySem.W.mg_of X G a_l_asked
  have T_l_asked : Txt P w K mg base c_l_asked 7 := txt_of h1 h2 h3 bn (by decide) (all_cons (F_make_row.mono (by decide)) (all_cons (F_l_same.mono (by decide)) (all_nil))) (all_cons (K_l_refused.mono (by decide)) (all_nil))
  have F_l_asked : FnFact P w K mg base f_l_asked 8 := fn_okD U_l_asked M_l_asked S_l_asked rfl B_l_asked ck_l_asked T_l_asked
  have U_law := fun_mk (x := "law") (qual := "law") (st := stn 28) l_law e_law q_law
  have M_law := PySem.W.mg_of X G a_law
  have T_law : Txt P w K mg base c_law 8 := txt_of h1 h2 h3 bn (by decide) (all_cons (F_l_draws.mono (by decide)) (all_cons (F_l_cell.mono (by decide)) (all_cons (F_l_pairs.mono (by decide)) (all_cons (F_l_back.mono (by decide)) (all_cons (F_l_spoilt.mono (by decide)) (all_cons (F_l_asked.mono (by decide)) (all_cons (F_l_due.mono (by decide)) (all_cons (F_l_row.mono (by decide)) (all_nil))))))))) (all_nil)
  exact law_ok U_law M_law S_law rfl B_law ck_law T_law plain
end LW

set_option Elab.async false
set_option linter.all false
set_option maxRecDepth 100000
set_option maxHeartbeats 4000000
namespace LW
open PySem L2 DE
theorem is_integer_int (i : Int) : f_l_is_integer.m [.int i] = some (.ok (.dat (.bl true))) := by
  simp [f_l_is_integer, b_l_is_integer, mk_m, rb_nil, rb_cons, rb_frz, frz_own, frz_dat, frz_no, nxt_nx, nxt_rt, nxt_er, nxt_bk, nxt_ct, rs_asg, asg_dat, asg_fr, asg_er, rs_app, app_dat, app_fr, rs_setL, set_dat, rs_iff, iteS_t, iteS_f, rs_for, for_ok, ef_rg, rs_ret, ret_dat, ret_fr, ret_er, rs_retV, retV_dat, retV_own, rs_retN, rs_brk, rs_cnt, rs_pas, rn_expr, drop_ok, drop_er, rs_rais, rs_tri, tri_nx, tri_rt, endF_rt, endF_nx, endF_er, ev_var, var_dat, var_own, ev_int, ev_str, ev_bl, ev_non, ev_bin, ev_neg, neg_int, ev_cmp, ev_ix, ev_nott, not_bl, ev_tup, tupV_ok, tupM_ok, ev_lst, lstU_ok, lstM_ok, toDs_nil, toDs_cd, toDs_cf, Option.map_some, ev_dictT, ea_nil, ea_cons, ac_ok, ev_bi, bi_ok, ev_call, call_ok, ev_sl, sl_ok, eo_no, eo_so, so_ok, ev_get, get_br, get_dat, ev_attr, ev_isi, ev_ife, iteE_t, iteE_f, ev_andd, ev_orr, en_1, en_2, er_1, er_2, andU_t, andU_f, orU_t, orU_f, et_andd, et_orr, et_nott, notT_ok, et_cmp, et_var, et_isi, et_call, et_ix, et_chain, chT_ok, tru_bl, ent_1, ent_2, ert_1, ert_2, andT_t, andT_f, orT_t, orT_f, ev_lc, it_fr, it_dl, it_dt, it_br, rai_f, es_it, es_rg, u1_ok, u2_ok, v1_ok, v2_ok, optR_some, blR_some, bin_add, bin_sub, cmp_lt, cmp_le, cmp_gt, cmp_ge, cmp_eq, cmp_ne, cmp_eqs, cmp_nes, bi_int, bi_lenl, bi_lent, bi_lenb, bi_lenf, List.getElem?_cons_zero, List.getElem?_cons_succ, List.set_cons_zero, List.set_cons_succ, List.cons_append, List.nil_append, List.map_cons, List.map_nil, List.replicate, List.length_map, isiV, tyD, isTy, RV.d]
theorem cell_spec (ns : List Int) (k : Int) (hk : 0 ≤ k) : ∃ c : Int, f_l_cell.m [.lst (ns.map D.int), .int k] = some (.ok (.dat (.int c))) := by
  have s1 : small 101 = true := by decide
  have s2 : small 48271 = true := by decide
  have s3 : small 69621 = true := by decide
  have h0 : ¬ k < 0 := by omega
  by_cases h1 : k < ns.length
  · have e : atI (ns.map D.int) k = some (.int (ns[k.toNat]'(by omega))) := atI_get hk (by simp)
    exact ⟨_, by simp [f_l_cell, b_l_cell, mk_m, rb_nil, rb_cons, rb_frz, frz_own, frz_dat, frz_no, nxt_nx, nxt_rt, nxt_er, nxt_bk, nxt_ct, rs_asg, asg_dat, asg_fr, asg_er, rs_app, app_dat, app_fr, rs_setL, set_dat, rs_iff, iteS_t, iteS_f, rs_for, for_ok, ef_rg, rs_ret, ret_dat, ret_fr, ret_er, rs_retV, retV_dat, retV_own, rs_retN, rs_brk, rs_cnt, rs_pas, rn_expr, drop_ok, drop_er, rs_rais, rs_tri, tri_nx, tri_rt, endF_rt, endF_nx, endF_er, ev_var, var_dat, var_own, ev_int, ev_str, ev_bl, ev_non, ev_bin, ev_neg, neg_int, ev_cmp, ev_ix, ev_nott, not_bl, ev_tup, tupV_ok, tupM_ok, ev_lst, lstU_ok, lstM_ok, toDs_nil, toDs_cd, toDs_cf, Option.map_some, ev_dictT, ea_nil, ea_cons, ac_ok, ev_bi, bi_ok, ev_call, call_ok, ev_sl, sl_ok, eo_no, eo_so, so_ok, ev_get, get_br, get_dat, ev_attr, ev_isi, ev_ife, iteE_t, iteE_f, ev_andd, ev_orr, en_1, en_2, er_1, er_2, andU_t, andU_f, orU_t, orU_f, et_andd, et_orr, et_nott, notT_ok, et_cmp, et_var, et_isi, et_call, et_ix, et_chain, chT_ok, tru_bl, ent_1, ent_2, ert_1, ert_2, andT_t, andT_f, orT_t, orT_f, ev_lc, it_fr, it_dl, it_dt, it_br, rai_f, es_it, es_rg, u1_ok, u2_ok, v1_ok, v2_ok, optR_some, blR_some, bin_add, bin_sub, cmp_lt, cmp_le, cmp_gt, cmp_ge, cmp_eq, cmp_ne, cmp_eqs, cmp_nes, bi_int, bi_lenl, bi_lent, bi_lenb, bi_lenf, List.getElem?_cons_zero, List.getElem?_cons_succ, List.set_cons_zero, List.set_cons_succ, List.cons_append, List.nil_append, List.map_cons, List.map_nil, List.replicate, List.length_map, h1, ix_l e]; rfl⟩
  · by_cases h2 : ns.length = 0
    · exact ⟨101 * k + 7, by simp [f_l_cell, b_l_cell, mk_m, rb_nil, rb_cons, rb_frz, frz_own, frz_dat, frz_no, nxt_nx, nxt_rt, nxt_er, nxt_bk, nxt_ct, rs_asg, asg_dat, asg_fr, asg_er, rs_app, app_dat, app_fr, rs_setL, set_dat, rs_iff, iteS_t, iteS_f, rs_for, for_ok, ef_rg, rs_ret, ret_dat, ret_fr, ret_er, rs_retV, retV_dat, retV_own, rs_retN, rs_brk, rs_cnt, rs_pas, rn_expr, drop_ok, drop_er, rs_rais, rs_tri, tri_nx, tri_rt, endF_rt, endF_nx, endF_er, ev_var, var_dat, var_own, ev_int, ev_str, ev_bl, ev_non, ev_bin, ev_neg, neg_int, ev_cmp, ev_ix, ev_nott, not_bl, ev_tup, tupV_ok, tupM_ok, ev_lst, lstU_ok, lstM_ok, toDs_nil, toDs_cd, toDs_cf, Option.map_some, ev_dictT, ea_nil, ea_cons, ac_ok, ev_bi, bi_ok, ev_call, call_ok, ev_sl, sl_ok, eo_no, eo_so, so_ok, ev_get, get_br, get_dat, ev_attr, ev_isi, ev_ife, iteE_t, iteE_f, ev_andd, ev_orr, en_1, en_2, er_1, er_2, andU_t, andU_f, orU_t, orU_f, et_andd, et_orr, et_nott, notT_ok, et_cmp, et_var, et_isi, et_call, et_ix, et_chain, chT_ok, tru_bl, ent_1, ent_2, ert_1, ert_2, andT_t, andT_f, orT_t, orT_f, ev_lc, it_fr, it_dl, it_dt, it_br, rai_f, es_it, es_rg, u1_ok, u2_ok, v1_ok, v2_ok, optR_some, blR_some, bin_add, bin_sub, cmp_lt, cmp_le, cmp_gt, cmp_ge, cmp_eq, cmp_ne, cmp_eqs, cmp_nes, bi_int, bi_lenl, bi_lent, bi_lenb, bi_lenf, List.getElem?_cons_zero, List.getElem?_cons_succ, List.set_cons_zero, List.set_cons_succ, List.cons_append, List.nil_append, List.map_cons, List.map_nil, List.replicate, List.length_map, h0, h2, bin_mul (.inl s1)]⟩
    · have hp : (0 : Int) < ns.length := by omega
      obtain ⟨b1, b2⟩ := fmod_bd (a := k) hp
      have e : atI (ns.map D.int) (k.fmod ns.length) = some (.int (ns[(k.fmod ns.length).toNat]'(by omega))) := atI_get b1 (by simp)
      have h3 : (ns.length : Int) ≠ 0 := by omega
      exact ⟨_, by simp [f_l_cell, b_l_cell, mk_m, rb_nil, rb_cons, rb_frz, frz_own, frz_dat, frz_no, nxt_nx, nxt_rt, nxt_er, nxt_bk, nxt_ct, rs_asg, asg_dat, asg_fr, asg_er, rs_app, app_dat, app_fr, rs_setL, set_dat, rs_iff, iteS_t, iteS_f, rs_for, for_ok, ef_rg, rs_ret, ret_dat, ret_fr, ret_er, rs_retV, retV_dat, retV_own, rs_retN, rs_brk, rs_cnt, rs_pas, rn_expr, drop_ok, drop_er, rs_rais, rs_tri, tri_nx, tri_rt, endF_rt, endF_nx, endF_er, ev_var, var_dat, var_own, ev_int, ev_str, ev_bl, ev_non, ev_bin, ev_neg, neg_int, ev_cmp, ev_ix, ev_nott, not_bl, ev_tup, tupV_ok, tupM_ok, ev_lst, lstU_ok, lstM_ok, toDs_nil, toDs_cd, toDs_cf, Option.map_some, ev_dictT, ea_nil, ea_cons, ac_ok, ev_bi, bi_ok, ev_call, call_ok, ev_sl, sl_ok, eo_no, eo_so, so_ok, ev_get, get_br, get_dat, ev_attr, ev_isi, ev_ife, iteE_t, iteE_f, ev_andd, ev_orr, en_1, en_2, er_1, er_2, andU_t, andU_f, orU_t, orU_f, et_andd, et_orr, et_nott, notT_ok, et_cmp, et_var, et_isi, et_call, et_ix, et_chain, chT_ok, tru_bl, ent_1, ent_2, ert_1, ert_2, andT_t, andT_f, orT_t, orT_f, ev_lc, it_fr, it_dl, it_dt, it_br, rai_f, es_it, es_rg, u1_ok, u2_ok, v1_ok, v2_ok, optR_some, blR_some, bin_add, bin_sub, cmp_lt, cmp_le, cmp_gt, cmp_ge, cmp_eq, cmp_ne, cmp_eqs, cmp_nes, bi_int, bi_lenl, bi_lent, bi_lenb, bi_lenf, List.getElem?_cons_zero, List.getElem?_cons_succ, List.set_cons_zero, List.set_cons_succ, List.cons_append, List.nil_append, List.map_cons, List.map_nil, List.replicate, List.length_map, h1, h2, bin_mod h3, ix_l e, bin_mul (.inr s2), bin_mul (.inl s3), bin_mod (j := 2147483647) (by decide)]; rfl⟩
theorem p18 : binV .pow (.dat (.int 10)) (.dat (.int 18)) = some (.dat (.int 1000000000000000000)) := bin_pow (by decide)
theorem p12 : binV .pow (.dat (.int 10)) (.dat (.int 12)) = some (.dat (.int 1000000000000)) := bin_pow (by decide)
theorem small_of {i : Int} (h1 : -1000000000000000 < i) (h2 : i < 1000000000000000) : small i = true := by
  unfold small
  simp
  omega
theorem small_fm {a b : Int} (h : 0 < b) (h2 : b < 100000000000) : small (a.fmod b) = true := by
  obtain ⟨h3, h4⟩ := fmod_bd (a := a) h
  exact small_of (by omega) (by omega)
theorem draws_spec (c : Int) (ss : List Int) (hs : ∀ s ∈ ss, 0 < s ∧ s < 536870912) (hl : ss.length < 1000) : ∃ xs, f_l_draws.m [.int c, .lst (ss.map D.int)] = some (.ok (.fr (.l (xs.map D.int)))) ∧ Drawn xs ss := by
  have hr : ints62 (ss.length : Int) = true := by unfold ints62; simp; omega
  have s7 : small 7919 = true := by decide
  have s31 : small 31 = true := by decide
  obtain ⟨ρ', e, acc, rest, w4, w5, rfl, hd, _⟩ := forL_inv (step := stepL (.n 4) (runB c_l_draws L_l_draws_1))
    (P := fun i ρ => ∃ acc rest w4 w5, ρ = [some (.dat (.int c)), some (.dat (.lst (ss.map D.int))), some (.own (.l (acc.map D.int))), some (.dat (.int rest)), w4, w5] ∧ Drawn acc (ss.take i) ∧ i ≤ ss.length)
    (ds := rangeD 0 ss.length) (ρ := [some (.dat (.int c)), some (.dat (.lst (ss.map D.int))), some (.own (.l [])), some (.dat (.int (c - 1000000000000000000))), none, none])
    ⟨[], c - 1000000000000000000, none, none, rfl, trivial, Nat.zero_le _⟩ (by
      intro i d ρ hd ⟨acc, rest, w4, w5, hρ, hdr, hi⟩
      obtain ⟨hlt, rfl⟩ := rng_get hd
      subst hρ
      rw [Int.zero_add]
      have hlen : acc.length = i := by rw [drawn_len hdr, List.length_take]; omega
      have hg : ss[i]? = some ss[i] := List.getElem?_eq_getElem hlt
      have e : atI (ss.map D.int) (i : Int) = some (.int ss[i]) := by rw [DE.atI_nat, List.getElem?_map, hg]; rfl
      obtain ⟨p1, p2⟩ := hs ss[i] (List.getElem_mem hlt)
      have t1 : ss.take (i + 1) = ss.take i ++ [ss[i]] := by rw [List.take_succ, hg]; rfl
      have hz : acc.length < 16777216 := by omega
      have hne : ss[i] ≠ 0 := by omega
      have hfd : ss[i] ≠ 0 ∧ ss[i].natAbs < 1073741824 := ⟨hne, by omega⟩
      by_cases hc : (1000000000000000000 : Int) ≤ c
      · refine ⟨[some (.dat (.int c)), some (.dat (.lst (ss.map D.int))), some (.own (.l ((acc ++ [rest.fmod ss[i]]).map D.int))), some (.dat (.int (rest.fdiv ss[i]))), some (.dat (.int i)), w5], .inl (by simp [stepL, setG, L_l_draws_1, mk_m, rb_nil, rb_cons, rb_frz, frz_own, frz_dat, frz_no, nxt_nx, nxt_rt, nxt_er, nxt_bk, nxt_ct, rs_asg, asg_dat, asg_fr, asg_er, rs_app, app_dat, app_fr, rs_setL, set_dat, rs_iff, iteS_t, iteS_f, rs_for, for_ok, ef_rg, rs_ret, ret_dat, ret_fr, ret_er, rs_retV, retV_dat, retV_own, rs_retN, rs_brk, rs_cnt, rs_pas, rn_expr, drop_ok, drop_er, rs_rais, rs_tri, tri_nx, tri_rt, endF_rt, endF_nx, endF_er, ev_var, var_dat, var_own, ev_int, ev_str, ev_bl, ev_non, ev_bin, ev_neg, neg_int, ev_cmp, ev_ix, ev_nott, not_bl, ev_tup, tupV_ok, tupM_ok, ev_lst, lstU_ok, lstM_ok, toDs_nil, toDs_cd, toDs_cf, Option.map_some, ev_dictT, ea_nil, ea_cons, ac_ok, ev_bi, bi_ok, ev_call, call_ok, ev_sl, sl_ok, eo_no, eo_so, so_ok, ev_get, get_br, get_dat, ev_attr, ev_isi, ev_ife, iteE_t, iteE_f, ev_andd, ev_orr, en_1, en_2, er_1, er_2, andU_t, andU_f, orU_t, orU_f, et_andd, et_orr, et_nott, notT_ok, et_cmp, et_var, et_isi, et_call, et_ix, et_chain, chT_ok, tru_bl, ent_1, ent_2, ert_1, ert_2, andT_t, andT_f, orT_t, orT_f, ev_lc, it_fr, it_dl, it_dt, it_br, rai_f, es_it, es_rg, u1_ok, u2_ok, v1_ok, v2_ok, optR_some, blR_some, bin_add, bin_sub, cmp_lt, cmp_le, cmp_gt, cmp_ge, cmp_eq, cmp_ne, cmp_eqs, cmp_nes, bi_int, bi_lenl, bi_lent, bi_lenb, bi_lenf, List.getElem?_cons_zero, List.getElem?_cons_succ, List.set_cons_zero, List.set_cons_succ, List.cons_append, List.nil_append, List.map_cons, List.map_nil, List.replicate, List.length_map, p18, hc, ix_l e, bin_mod hne, bin_fdiv hfd, hz]), acc ++ [rest.fmod ss[i]], rest.fdiv ss[i], some (.dat (.int i)), w5, rfl, ?_, hlt⟩
        rw [t1]
        exact drawn_snoc hdr (fmod_bd p1).1 (fmod_bd p1).2
      · have key : ∃ m1 m2 : Int, stepL (.n 4) (runB c_l_draws L_l_draws_1) (.int i) [some (.dat (.int c)), some (.dat (.lst (ss.map D.int))), some (.own (.l (acc.map D.int))), some (.dat (.int rest)), w4, w5] = some (.nx [some (.dat (.int c)), some (.dat (.lst (ss.map D.int))), some (.own (.l ((acc ++ [m2.fmod ss[i]]).map D.int))), some (.dat (.int rest)), some (.dat (.int i)), some (.dat (.int m1))]) :=
          ⟨_, _, by simp [stepL, setG, L_l_draws_1, mk_m, rb_nil, rb_cons, rb_frz, frz_own, frz_dat, frz_no, nxt_nx, nxt_rt, nxt_er, nxt_bk, nxt_ct, rs_asg, asg_dat, asg_fr, asg_er, rs_app, app_dat, app_fr, rs_setL, set_dat, rs_iff, iteS_t, iteS_f, rs_for, for_ok, ef_rg, rs_ret, ret_dat, ret_fr, ret_er, rs_retV, retV_dat, retV_own, rs_retN, rs_brk, rs_cnt, rs_pas, rn_expr, drop_ok, drop_er, rs_rais, rs_tri, tri_nx, tri_rt, endF_rt, endF_nx, endF_er, ev_var, var_dat, var_own, ev_int, ev_str, ev_bl, ev_non, ev_bin, ev_neg, neg_int, ev_cmp, ev_ix, ev_nott, not_bl, ev_tup, tupV_ok, tupM_ok, ev_lst, lstU_ok, lstM_ok, toDs_nil, toDs_cd, toDs_cf, Option.map_some, ev_dictT, ea_nil, ea_cons, ac_ok, ev_bi, bi_ok, ev_call, call_ok, ev_sl, sl_ok, eo_no, eo_so, so_ok, ev_get, get_br, get_dat, ev_attr, ev_isi, ev_ife, iteE_t, iteE_f, ev_andd, ev_orr, en_1, en_2, er_1, er_2, andU_t, andU_f, orU_t, orU_f, et_andd, et_orr, et_nott, notT_ok, et_cmp, et_var, et_isi, et_call, et_ix, et_chain, chT_ok, tru_bl, ent_1, ent_2, ert_1, ert_2, andT_t, andT_f, orT_t, orT_f, ev_lc, it_fr, it_dl, it_dt, it_br, rai_f, es_it, es_rg, u1_ok, u2_ok, v1_ok, v2_ok, optR_some, blR_some, bin_add, bin_sub, cmp_lt, cmp_le, cmp_gt, cmp_ge, cmp_eq, cmp_ne, cmp_eqs, cmp_nes, bi_int, bi_lenl, bi_lent, bi_lenb, bi_lenf, List.getElem?_cons_zero, List.getElem?_cons_succ, List.set_cons_zero, List.set_cons_succ, List.cons_append, List.nil_append, List.map_cons, List.map_nil, List.replicate, List.length_map, p18, hc, ix_l e, bin_mod hne, hz, bin_mul (.inl s7), bin_mul (.inl s31), bin_mod (j := 2147483647) (by decide), bin_mod (j := 2147483629) (by decide), bin_mul (.inl (small_fm (b := 2147483647) (by decide) (by decide))), bin_mul (.inl (small_fm (b := 2147483629) (by decide) (by decide))), bin_fdiv (j := 9) (by decide)] <;> exact ⟨rfl, rfl⟩⟩
        obtain ⟨m1, m2, k⟩ := key
        refine ⟨_, .inl k, acc ++ [m2.fmod ss[i]], rest, some (.dat (.int i)), some (.dat (.int m1)), rfl, ?_, hlt⟩
        rw [t1]
        exact drawn_snoc hdr (fmod_bd p1).1 (fmod_bd p1).2)
  refine ⟨acc, ?_, ?_⟩
  · simp [f_l_draws, b_l_draws, mk_m, rb_nil, rb_cons, rb_frz, frz_own, frz_dat, frz_no, nxt_nx, nxt_rt, nxt_er, nxt_bk, nxt_ct, rs_asg, asg_dat, asg_fr, asg_er, rs_app, app_dat, app_fr, rs_setL, set_dat, rs_iff, iteS_t, iteS_f, rs_for, for_ok, ef_rg, rs_ret, ret_dat, ret_fr, ret_er, rs_retV, retV_dat, retV_own, rs_retN, rs_brk, rs_cnt, rs_pas, rn_expr, drop_ok, drop_er, rs_rais, rs_tri, tri_nx, tri_rt, endF_rt, endF_nx, endF_er, ev_var, var_dat, var_own, ev_int, ev_str, ev_bl, ev_non, ev_bin, ev_neg, neg_int, ev_cmp, ev_ix, ev_nott, not_bl, ev_tup, tupV_ok, tupM_ok, ev_lst, lstU_ok, lstM_ok, toDs_nil, toDs_cd, toDs_cf, Option.map_some, ev_dictT, ea_nil, ea_cons, ac_ok, ev_bi, bi_ok, ev_call, call_ok, ev_sl, sl_ok, eo_no, eo_so, so_ok, ev_get, get_br, get_dat, ev_attr, ev_isi, ev_ife, iteE_t, iteE_f, ev_andd, ev_orr, en_1, en_2, er_1, er_2, andU_t, andU_f, orU_t, orU_f, et_andd, et_orr, et_nott, notT_ok, et_cmp, et_var, et_isi, et_call, et_ix, et_chain, chT_ok, tru_bl, ent_1, ent_2, ert_1, ert_2, andT_t, andT_f, orT_t, orT_f, ev_lc, it_fr, it_dl, it_dt, it_br, rai_f, es_it, es_rg, u1_ok, u2_ok, v1_ok, v2_ok, optR_some, blR_some, bin_add, bin_sub, cmp_lt, cmp_le, cmp_gt, cmp_ge, cmp_eq, cmp_ne, cmp_eqs, cmp_nes, bi_int, bi_lenl, bi_lent, bi_lenb, bi_lenf, List.getElem?_cons_zero, List.getElem?_cons_succ, List.set_cons_zero, List.set_cons_succ, List.cons_append, List.nil_append, List.map_cons, List.map_nil, List.replicate, List.length_map, p18, rg_1 hr, e]
  · rw [rangeD_len, List.take_length] at hd
    exact hd
theorem call_draws (c : Int) (ss : List Int) (hs : ∀ s ∈ ss, 0 < s ∧ s < 536870912) (hl : ss.length < 1000) : ∃ xs, callV f_l_draws [.dat (.int c), .fr (.l (ss.map D.int))] = some (.ok (.fr (.l (xs.map D.int)))) ∧ Drawn xs ss := by
  obtain ⟨xs, e, h⟩ := draws_spec c ss hs hl
  exact ⟨xs, callV_ok rfl e rfl (fun z => nomatch z), h⟩
theorem call_cell (ns : List Int) (k : Int) (hk : 0 ≤ k) : ∃ c : Int, callV f_l_cell [.dat (.lst (ns.map D.int)), .dat (.int k)] = some (.ok (.dat (.int c))) := by
  obtain ⟨c, e⟩ := cell_spec ns k hk
  exact ⟨c, callV_ok rfl e rfl (fun z => nomatch z)⟩
theorem back_spec (p : Pl) (hp : p.length ≤ 1000) : f_l_back.m [pD p] = some (.ok (.dat (pD (p.map fun x => -x)))) := by
  have h : lcU (some (.ok (p.map D.int))) (turnL (.n 1) (evIf c_l_back .no) (evE c_l_back (.neg (.var 1))) [some (.dat (pD p)), none]) = some (.ok (.fr (.l (p.map fun x => D.int (-x))))) :=
    lc_ok (by simp; omega) (compL_of fun x _ => turn_no (x := .dat (.int (-x))) (ρ' := [some (.dat (pD p)), some (.dat (.int x))]) rfl (by simp [mk_m, rb_nil, rb_cons, rb_frz, frz_own, frz_dat, frz_no, nxt_nx, nxt_rt, nxt_er, nxt_bk, nxt_ct, rs_asg, asg_dat, asg_fr, asg_er, rs_app, app_dat, app_fr, rs_setL, set_dat, rs_iff, iteS_t, iteS_f, rs_for, for_ok, ef_rg, rs_ret, ret_dat, ret_fr, ret_er, rs_retV, retV_dat, retV_own, rs_retN, rs_brk, rs_cnt, rs_pas, rn_expr, drop_ok, drop_er, rs_rais, rs_tri, tri_nx, tri_rt, endF_rt, endF_nx, endF_er, ev_var, var_dat, var_own, ev_int, ev_str, ev_bl, ev_non, ev_bin, ev_neg, neg_int, ev_cmp, ev_ix, ev_nott, not_bl, ev_tup, tupV_ok, tupM_ok, ev_lst, lstU_ok, lstM_ok, toDs_nil, toDs_cd, toDs_cf, Option.map_some, ev_dictT, ea_nil, ea_cons, ac_ok, ev_bi, bi_ok, ev_call, call_ok, ev_sl, sl_ok, eo_no, eo_so, so_ok, ev_get, get_br, get_dat, ev_attr, ev_isi, ev_ife, iteE_t, iteE_f, ev_andd, ev_orr, en_1, en_2, er_1, er_2, andU_t, andU_f, orU_t, orU_f, et_andd, et_orr, et_nott, notT_ok, et_cmp, et_var, et_isi, et_call, et_ix, et_chain, chT_ok, tru_bl, ent_1, ent_2, ert_1, ert_2, andT_t, andT_f, orT_t, orT_f, ev_lc, it_fr, it_dl, it_dt, it_br, rai_f, es_it, es_rg, u1_ok, u2_ok, v1_ok, v2_ok, optR_some, blR_some, bin_add, bin_sub, cmp_lt, cmp_le, cmp_gt, cmp_ge, cmp_eq, cmp_ne, cmp_eqs, cmp_nes, bi_int, bi_lenl, bi_lent, bi_lenb, bi_lenf, List.getElem?_cons_zero, List.getElem?_cons_succ, List.set_cons_zero, List.set_cons_succ, List.cons_append, List.nil_append, List.map_cons, List.map_nil, List.replicate, List.length_map]) rfl)
  have hs : itU (some (.ok (.dat (pD p)))) = some (.ok (p.map D.int)) := it_ok rfl
  simp [f_l_back, b_l_back, mk_m, rb_nil, rb_cons, rb_frz, frz_own, frz_dat, frz_no, nxt_nx, nxt_rt, nxt_er, nxt_bk, nxt_ct, rs_asg, asg_dat, asg_fr, asg_er, rs_app, app_dat, app_fr, rs_setL, set_dat, rs_iff, iteS_t, iteS_f, rs_for, for_ok, ef_rg, rs_ret, ret_dat, ret_fr, ret_er, rs_retV, retV_dat, retV_own, rs_retN, rs_brk, rs_cnt, rs_pas, rn_expr, drop_ok, drop_er, rs_rais, rs_tri, tri_nx, tri_rt, endF_rt, endF_nx, endF_er, ev_var, var_dat, var_own, ev_int, ev_str, ev_bl, ev_non, ev_bin, ev_neg, neg_int, ev_cmp, ev_ix, ev_nott, not_bl, ev_tup, tupV_ok, tupM_ok, ev_lst, lstU_ok, lstM_ok, toDs_nil, toDs_cd, toDs_cf, Option.map_some, ev_dictT, ea_nil, ea_cons, ac_ok, ev_bi, bi_ok, ev_call, call_ok, ev_sl, sl_ok, eo_no, eo_so, so_ok, ev_get, get_br, get_dat, ev_attr, ev_isi, ev_ife, iteE_t, iteE_f, ev_andd, ev_orr, en_1, en_2, er_1, er_2, andU_t, andU_f, orU_t, orU_f, et_andd, et_orr, et_nott, notT_ok, et_cmp, et_var, et_isi, et_call, et_ix, et_chain, chT_ok, tru_bl, ent_1, ent_2, ert_1, ert_2, andT_t, andT_f, orT_t, orT_f, ev_lc, it_fr, it_dl, it_dt, it_br, rai_f, es_it, es_rg, u1_ok, u2_ok, v1_ok, v2_ok, optR_some, blR_some, bin_add, bin_sub, cmp_lt, cmp_le, cmp_gt, cmp_ge, cmp_eq, cmp_ne, cmp_eqs, cmp_nes, bi_int, bi_lenl, bi_lent, bi_lenb, bi_lenf, List.getElem?_cons_zero, List.getElem?_cons_succ, List.set_cons_zero, List.set_cons_succ, List.cons_append, List.nil_append, List.map_cons, List.map_nil, List.replicate, List.length_map, hs, h, biV, lstV]
  unfold pD
  rw [List.map_map]
  rfl
theorem cut3 (a b c : D) (s : Int) (h1 : 1 ≤ s) (h3 : s ≤ 3) : ∃ ds : List D, slV (.dat (.tup [a, b, c])) none (some s) = some (.dat (.tup ds)) ∧ ds = [a, b, c].take s.toNat := by
  refine ⟨_, rfl, ?_⟩
  rcases (by omega : s = 1 ∨ s = 2 ∨ s = 3) with rfl | rfl | rfl <;> rfl
theorem pair_spec (d0 d1 d2 d3 d4 d5 d6 d7 d8 d9 d10 d11 s : Int) (es : List Ent) (h1 : 1 ≤ s) (h3 : s ≤ 3) (hes : ∀ e ∈ es, (e.1.length : Int) = s) (hl : es.length < 1000) :
    ∃ e : Ent, f_l_pair.m [.lst [.int d0, .int d1, .int d2, .int d3, .int d4, .int d5, .int d6, .int d7, .int d8, .int d9, .int d10, .int d11], .int s, .lst (es.map eD)] = some (.ok (.dat (eD e))) ∧ (e.1.length : Int) = s := by
  have cutd : ∀ a b c : Int, ∃ p : Pl, slV (.dat (.tup [.int a, .int b, .int c])) none (some s) = some (.dat (pD p)) ∧ (p.length : Int) = s := fun a b c => by
    obtain ⟨ds, e, hd⟩ := cut3 (.int a) (.int b) (.int c) s h1 h3
    refine ⟨[a, b, c].take s.toNat, ?_, by rw [List.length_take]; simp; omega⟩
    rw [e, hd]
    unfold pD
    rw [List.map_take]
    rfl
  obtain ⟨pA, eA, hA⟩ := cutd (d2 - 2) (d3 - 2) (d4 - 2)
  obtain ⟨pB, eB, hB⟩ := cutd (d5 - 1000) (d6 - 1000) (d7 - 1000)
  have num : ∃ (p : Pl) (n : Int), f_l_pair.m [.lst [.int d0, .int d1, .int d2, .int d3, .int d4, .int d5, .int d6, .int d7, .int d8, .int d9, .int d10, .int d11], .int s, .lst (es.map eD)] = some (.ok (.dat (.tup [pD p, .int n]))) ∧ (p.length : Int) = s := by
    cases es with
    | nil =>
      by_cases c1 : d1 = 3 <;> by_cases c7 : d8 = 7
      · exact ⟨pB, _, by simp [f_l_pair, b_l_pair, mk_m, rb_nil, rb_cons, rb_frz, frz_own, frz_dat, frz_no, nxt_nx, nxt_rt, nxt_er, nxt_bk, nxt_ct, rs_asg, asg_dat, asg_fr, asg_er, rs_app, app_dat, app_fr, rs_setL, set_dat, rs_iff, iteS_t, iteS_f, rs_for, for_ok, ef_rg, rs_ret, ret_dat, ret_fr, ret_er, rs_retV, retV_dat, retV_own, rs_retN, rs_brk, rs_cnt, rs_pas, rn_expr, drop_ok, drop_er, rs_rais, rs_tri, tri_nx, tri_rt, endF_rt, endF_nx, endF_er, ev_var, var_dat, var_own, ev_int, ev_str, ev_bl, ev_non, ev_bin, ev_neg, neg_int, ev_cmp, ev_ix, ev_nott, not_bl, ev_tup, tupV_ok, tupM_ok, ev_lst, lstU_ok, lstM_ok, toDs_nil, toDs_cd, toDs_cf, Option.map_some, ev_dictT, ea_nil, ea_cons, ac_ok, ev_bi, bi_ok, ev_call, call_ok, ev_sl, sl_ok, eo_no, eo_so, so_ok, ev_get, get_br, get_dat, ev_attr, ev_isi, ev_ife, iteE_t, iteE_f, ev_andd, ev_orr, en_1, en_2, er_1, er_2, andU_t, andU_f, orU_t, orU_f, et_andd, et_orr, et_nott, notT_ok, et_cmp, et_var, et_isi, et_call, et_ix, et_chain, chT_ok, tru_bl, ent_1, ent_2, ert_1, ert_2, andT_t, andT_f, orT_t, orT_f, ev_lc, it_fr, it_dl, it_dt, it_br, rai_f, es_it, es_rg, u1_ok, u2_ok, v1_ok, v2_ok, optR_some, blR_some, bin_add, bin_sub, cmp_lt, cmp_le, cmp_gt, cmp_ge, cmp_eq, cmp_ne, cmp_eqs, cmp_nes, bi_int, bi_lenl, bi_lent, bi_lenb, bi_lenf, List.getElem?_cons_zero, List.getElem?_cons_succ, List.set_cons_zero, List.set_cons_succ, List.cons_append, List.nil_append, List.map_cons, List.map_nil, List.replicate, List.length_map, ixl_0, ixt_0, ixb_0, ixf_0, ixl_1, ixt_1, ixb_1, ixf_1, ixl_2, ixt_2, ixb_2, ixf_2, ixl_3, ixt_3, ixb_3, ixf_3, ixl_4, ixt_4, ixb_4, ixf_4, ixl_5, ixt_5, ixb_5, ixf_5, ixl_6, ixt_6, ixb_6, ixf_6, ixl_7, ixt_7, ixb_7, ixf_7, ixl_8, ixt_8, ixb_8, ixf_8, ixl_9, ixt_9, ixb_9, ixf_9, ixl_10, ixt_10, ixb_10, ixf_10, ixl_11, ixt_11, ixb_11, ixf_11, ixl_12, ixt_12, ixb_12, ixf_12, ixl_13, ixt_13, ixb_13, ixf_13, ixl_14, ixt_14, ixb_14, ixf_14, ixl_15, ixt_15, ixb_15, ixf_15, c1, c7, eB, p12]; rfl, hB⟩
      · by_cases c8 : d8 = 8
        · exact ⟨pB, _, by simp [f_l_pair, b_l_pair, mk_m, rb_nil, rb_cons, rb_frz, frz_own, frz_dat, frz_no, nxt_nx, nxt_rt, nxt_er, nxt_bk, nxt_ct, rs_asg, asg_dat, asg_fr, asg_er, rs_app, app_dat, app_fr, rs_setL, set_dat, rs_iff, iteS_t, iteS_f, rs_for, for_ok, ef_rg, rs_ret, ret_dat, ret_fr, ret_er, rs_retV, retV_dat, retV_own, rs_retN, rs_brk, rs_cnt, rs_pas, rn_expr, drop_ok, drop_er, rs_rais, rs_tri, tri_nx, tri_rt, endF_rt, endF_nx, endF_er, ev_var, var_dat, var_own, ev_int, ev_str, ev_bl, ev_non, ev_bin, ev_neg, neg_int, ev_cmp, ev_ix, ev_nott, not_bl, ev_tup, tupV_ok, tupM_ok, ev_lst, lstU_ok, lstM_ok, toDs_nil, toDs_cd, toDs_cf, Option.map_some, ev_dictT, ea_nil, ea_cons, ac_ok, ev_bi, bi_ok, ev_call, call_ok, ev_sl, sl_ok, eo_no, eo_so, so_ok, ev_get, get_br, get_dat, ev_attr, ev_isi, ev_ife, iteE_t, iteE_f, ev_andd, ev_orr, en_1, en_2, er_1, er_2, andU_t, andU_f, orU_t, orU_f, et_andd, et_orr, et_nott, notT_ok, et_cmp, et_var, et_isi, et_call, et_ix, et_chain, chT_ok, tru_bl, ent_1, ent_2, ert_1, ert_2, andT_t, andT_f, orT_t, orT_f, ev_lc, it_fr, it_dl, it_dt, it_br, rai_f, es_it, es_rg, u1_ok, u2_ok, v1_ok, v2_ok, optR_some, blR_some, bin_add, bin_sub, cmp_lt, cmp_le, cmp_gt, cmp_ge, cmp_eq, cmp_ne, cmp_eqs, cmp_nes, bi_int, bi_lenl, bi_lent, bi_lenb, bi_lenf, List.getElem?_cons_zero, List.getElem?_cons_succ, List.set_cons_zero, List.set_cons_succ, List.cons_append, List.nil_append, List.map_cons, List.map_nil, List.replicate, List.length_map, ixl_0, ixt_0, ixb_0, ixf_0, ixl_1, ixt_1, ixb_1, ixf_1, ixl_2, ixt_2, ixb_2, ixf_2, ixl_3, ixt_3, ixb_3, ixf_3, ixl_4, ixt_4, ixb_4, ixf_4, ixl_5, ixt_5, ixb_5, ixf_5, ixl_6, ixt_6, ixb_6, ixf_6, ixl_7, ixt_7, ixb_7, ixf_7, ixl_8, ixt_8, ixb_8, ixf_8, ixl_9, ixt_9, ixb_9, ixf_9, ixl_10, ixt_10, ixb_10, ixf_10, ixl_11, ixt_11, ixb_11, ixf_11, ixl_12, ixt_12, ixb_12, ixf_12, ixl_13, ixt_13, ixb_13, ixf_13, ixl_14, ixt_14, ixb_14, ixf_14, ixl_15, ixt_15, ixb_15, ixf_15, c1, c8, eB, p12]; rfl, hB⟩
        · exact ⟨pB, _, by simp [f_l_pair, b_l_pair, mk_m, rb_nil, rb_cons, rb_frz, frz_own, frz_dat, frz_no, nxt_nx, nxt_rt, nxt_er, nxt_bk, nxt_ct, rs_asg, asg_dat, asg_fr, asg_er, rs_app, app_dat, app_fr, rs_setL, set_dat, rs_iff, iteS_t, iteS_f, rs_for, for_ok, ef_rg, rs_ret, ret_dat, ret_fr, ret_er, rs_retV, retV_dat, retV_own, rs_retN, rs_brk, rs_cnt, rs_pas, rn_expr, drop_ok, drop_er, rs_rais, rs_tri, tri_nx, tri_rt, endF_rt, endF_nx, endF_er, ev_var, var_dat, var_own, ev_int, ev_str, ev_bl, ev_non, ev_bin, ev_neg, neg_int, ev_cmp, ev_ix, ev_nott, not_bl, ev_tup, tupV_ok, tupM_ok, ev_lst, lstU_ok, lstM_ok, toDs_nil, toDs_cd, toDs_cf, Option.map_some, ev_dictT, ea_nil, ea_cons, ac_ok, ev_bi, bi_ok, ev_call, call_ok, ev_sl, sl_ok, eo_no, eo_so, so_ok, ev_get, get_br, get_dat, ev_attr, ev_isi, ev_ife, iteE_t, iteE_f, ev_andd, ev_orr, en_1, en_2, er_1, er_2, andU_t, andU_f, orU_t, orU_f, et_andd, et_orr, et_nott, notT_ok, et_cmp, et_var, et_isi, et_call, et_ix, et_chain, chT_ok, tru_bl, ent_1, ent_2, ert_1, ert_2, andT_t, andT_f, orT_t, orT_f, ev_lc, it_fr, it_dl, it_dt, it_br, rai_f, es_it, es_rg, u1_ok, u2_ok, v1_ok, v2_ok, optR_some, blR_some, bin_add, bin_sub, cmp_lt, cmp_le, cmp_gt, cmp_ge, cmp_eq, cmp_ne, cmp_eqs, cmp_nes, bi_int, bi_lenl, bi_lent, bi_lenb, bi_lenf, List.getElem?_cons_zero, List.getElem?_cons_succ, List.set_cons_zero, List.set_cons_succ, List.cons_append, List.nil_append, List.map_cons, List.map_nil, List.replicate, List.length_map, ixl_0, ixt_0, ixb_0, ixf_0, ixl_1, ixt_1, ixb_1, ixf_1, ixl_2, ixt_2, ixb_2, ixf_2, ixl_3, ixt_3, ixb_3, ixf_3, ixl_4, ixt_4, ixb_4, ixf_4, ixl_5, ixt_5, ixb_5, ixf_5, ixl_6, ixt_6, ixb_6, ixf_6, ixl_7, ixt_7, ixb_7, ixf_7, ixl_8, ixt_8, ixb_8, ixf_8, ixl_9, ixt_9, ixb_9, ixf_9, ixl_10, ixt_10, ixb_10, ixf_10, ixl_11, ixt_11, ixb_11, ixf_11, ixl_12, ixt_12, ixb_12, ixf_12, ixl_13, ixt_13, ixb_13, ixf_13, ixl_14, ixt_14, ixb_14, ixf_14, ixl_15, ixt_15, ixb_15, ixf_15, c1, c7, c8, eB, p12]; rfl, hB⟩
      · exact ⟨pA, _, by simp [f_l_pair, b_l_pair, mk_m, rb_nil, rb_cons, rb_frz, frz_own, frz_dat, frz_no, nxt_nx, nxt_rt, nxt_er, nxt_bk, nxt_ct, rs_asg, asg_dat, asg_fr, asg_er, rs_app, app_dat, app_fr, rs_setL, set_dat, rs_iff, iteS_t, iteS_f, rs_for, for_ok, ef_rg, rs_ret, ret_dat, ret_fr, ret_er, rs_retV, retV_dat, retV_own, rs_retN, rs_brk, rs_cnt, rs_pas, rn_expr, drop_ok, drop_er, rs_rais, rs_tri, tri_nx, tri_rt, endF_rt, endF_nx, endF_er, ev_var, var_dat, var_own, ev_int, ev_str, ev_bl, ev_non, ev_bin, ev_neg, neg_int, ev_cmp, ev_ix, ev_nott, not_bl, ev_tup, tupV_ok, tupM_ok, ev_lst, lstU_ok, lstM_ok, toDs_nil, toDs_cd, toDs_cf, Option.map_some, ev_dictT, ea_nil, ea_cons, ac_ok, ev_bi, bi_ok, ev_call, call_ok, ev_sl, sl_ok, eo_no, eo_so, so_ok, ev_get, get_br, get_dat, ev_attr, ev_isi, ev_ife, iteE_t, iteE_f, ev_andd, ev_orr, en_1, en_2, er_1, er_2, andU_t, andU_f, orU_t, orU_f, et_andd, et_orr, et_nott, notT_ok, et_cmp, et_var, et_isi, et_call, et_ix, et_chain, chT_ok, tru_bl, ent_1, ent_2, ert_1, ert_2, andT_t, andT_f, orT_t, orT_f, ev_lc, it_fr, it_dl, it_dt, it_br, rai_f, es_it, es_rg, u1_ok, u2_ok, v1_ok, v2_ok, optR_some, blR_some, bin_add, bin_sub, cmp_lt, cmp_le, cmp_gt, cmp_ge, cmp_eq, cmp_ne, cmp_eqs, cmp_nes, bi_int, bi_lenl, bi_lent, bi_lenb, bi_lenf, List.getElem?_cons_zero, List.getElem?_cons_succ, List.set_cons_zero, List.set_cons_succ, List.cons_append, List.nil_append, List.map_cons, List.map_nil, List.replicate, List.length_map, ixl_0, ixt_0, ixb_0, ixf_0, ixl_1, ixt_1, ixb_1, ixf_1, ixl_2, ixt_2, ixb_2, ixf_2, ixl_3, ixt_3, ixb_3, ixf_3, ixl_4, ixt_4, ixb_4, ixf_4, ixl_5, ixt_5, ixb_5, ixf_5, ixl_6, ixt_6, ixb_6, ixf_6, ixl_7, ixt_7, ixb_7, ixf_7, ixl_8, ixt_8, ixb_8, ixf_8, ixl_9, ixt_9, ixb_9, ixf_9, ixl_10, ixt_10, ixb_10, ixf_10, ixl_11, ixt_11, ixb_11, ixf_11, ixl_12, ixt_12, ixb_12, ixf_12, ixl_13, ixt_13, ixb_13, ixf_13, ixl_14, ixt_14, ixb_14, ixf_14, ixl_15, ixt_15, ixb_15, ixf_15, c1, c7, eA, p12]; rfl, hA⟩
      · by_cases c8 : d8 = 8
        · exact ⟨pA, _, by simp [f_l_pair, b_l_pair, mk_m, rb_nil, rb_cons, rb_frz, frz_own, frz_dat, frz_no, nxt_nx, nxt_rt, nxt_er, nxt_bk, nxt_ct, rs_asg, asg_dat, asg_fr, asg_er, rs_app, app_dat, app_fr, rs_setL, set_dat, rs_iff, iteS_t, iteS_f, rs_for, for_ok, ef_rg, rs_ret, ret_dat, ret_fr, ret_er, rs_retV, retV_dat, retV_own, rs_retN, rs_brk, rs_cnt, rs_pas, rn_expr, drop_ok, drop_er, rs_rais, rs_tri, tri_nx, tri_rt, endF_rt, endF_nx, endF_er, ev_var, var_dat, var_own, ev_int, ev_str, ev_bl, ev_non, ev_bin, ev_neg, neg_int, ev_cmp, ev_ix, ev_nott, not_bl, ev_tup, tupV_ok, tupM_ok, ev_lst, lstU_ok, lstM_ok, toDs_nil, toDs_cd, toDs_cf, Option.map_some, ev_dictT, ea_nil, ea_cons, ac_ok, ev_bi, bi_ok, ev_call, call_ok, ev_sl, sl_ok, eo_no, eo_so, so_ok, ev_get, get_br, get_dat, ev_attr, ev_isi, ev_ife, iteE_t, iteE_f, ev_andd, ev_orr, en_1, en_2, er_1, er_2, andU_t, andU_f, orU_t, orU_f, et_andd, et_orr, et_nott, notT_ok, et_cmp, et_var, et_isi, et_call, et_ix, et_chain, chT_ok, tru_bl, ent_1, ent_2, ert_1, ert_2, andT_t, andT_f, orT_t, orT_f, ev_lc, it_fr, it_dl, it_dt, it_br, rai_f, es_it, es_rg, u1_ok, u2_ok, v1_ok, v2_ok, optR_some, blR_some, bin_add, bin_sub, cmp_lt, cmp_le, cmp_gt, cmp_ge, cmp_eq, cmp_ne, cmp_eqs, cmp_nes, bi_int, bi_lenl, bi_lent, bi_lenb, bi_lenf, List.getElem?_cons_zero, List.getElem?_cons_succ, List.set_cons_zero, List.set_cons_succ, List.cons_append, List.nil_append, List.map_cons, List.map_nil, List.replicate, List.length_map, ixl_0, ixt_0, ixb_0, ixf_0, ixl_1, ixt_1, ixb_1, ixf_1, ixl_2, ixt_2, ixb_2, ixf_2, ixl_3, ixt_3, ixb_3, ixf_3, ixl_4, ixt_4, ixb_4, ixf_4, ixl_5, ixt_5, ixb_5, ixf_5, ixl_6, ixt_6, ixb_6, ixf_6, ixl_7, ixt_7, ixb_7, ixf_7, ixl_8, ixt_8, ixb_8, ixf_8, ixl_9, ixt_9, ixb_9, ixf_9, ixl_10, ixt_10, ixb_10, ixf_10, ixl_11, ixt_11, ixb_11, ixf_11, ixl_12, ixt_12, ixb_12, ixf_12, ixl_13, ixt_13, ixb_13, ixf_13, ixl_14, ixt_14, ixb_14, ixf_14, ixl_15, ixt_15, ixb_15, ixf_15, c1, c8, eA, p12]; rfl, hA⟩
        · exact ⟨pA, _, by simp [f_l_pair, b_l_pair, mk_m, rb_nil, rb_cons, rb_frz, frz_own, frz_dat, frz_no, nxt_nx, nxt_rt, nxt_er, nxt_bk, nxt_ct, rs_asg, asg_dat, asg_fr, asg_er, rs_app, app_dat, app_fr, rs_setL, set_dat, rs_iff, iteS_t, iteS_f, rs_for, for_ok, ef_rg, rs_ret, ret_dat, ret_fr, ret_er, rs_retV, retV_dat, retV_own, rs_retN, rs_brk, rs_cnt, rs_pas, rn_expr, drop_ok, drop_er, rs_rais, rs_tri, tri_nx, tri_rt, endF_rt, endF_nx, endF_er, ev_var, var_dat, var_own, ev_int, ev_str, ev_bl, ev_non, ev_bin, ev_neg, neg_int, ev_cmp, ev_ix, ev_nott, not_bl, ev_tup, tupV_ok, tupM_ok, ev_lst, lstU_ok, lstM_ok, toDs_nil, toDs_cd, toDs_cf, Option.map_some, ev_dictT, ea_nil, ea_cons, ac_ok, ev_bi, bi_ok, ev_call, call_ok, ev_sl, sl_ok, eo_no, eo_so, so_ok, ev_get, get_br, get_dat, ev_attr, ev_isi, ev_ife, iteE_t, iteE_f, ev_andd, ev_orr, en_1, en_2, er_1, er_2, andU_t, andU_f, orU_t, orU_f, et_andd, et_orr, et_nott, notT_ok, et_cmp, et_var, et_isi, et_call, et_ix, et_chain, chT_ok, tru_bl, ent_1, ent_2, ert_1, ert_2, andT_t, andT_f, orT_t, orT_f, ev_lc, it_fr, it_dl, it_dt, it_br, rai_f, es_it, es_rg, u1_ok, u2_ok, v1_ok, v2_ok, optR_some, blR_some, bin_add, bin_sub, cmp_lt, cmp_le, cmp_gt, cmp_ge, cmp_eq, cmp_ne, cmp_eqs, cmp_nes, bi_int, bi_lenl, bi_lent, bi_lenb, bi_lenf, List.getElem?_cons_zero, List.getElem?_cons_succ, List.set_cons_zero, List.set_cons_succ, List.cons_append, List.nil_append, List.map_cons, List.map_nil, List.replicate, List.length_map, ixl_0, ixt_0, ixb_0, ixf_0, ixl_1, ixt_1, ixb_1, ixf_1, ixl_2, ixt_2, ixb_2, ixf_2, ixl_3, ixt_3, ixb_3, ixf_3, ixl_4, ixt_4, ixb_4, ixf_4, ixl_5, ixt_5, ixb_5, ixf_5, ixl_6, ixt_6, ixb_6, ixf_6, ixl_7, ixt_7, ixb_7, ixf_7, ixl_8, ixt_8, ixb_8, ixf_8, ixl_9, ixt_9, ixb_9, ixf_9, ixl_10, ixt_10, ixb_10, ixf_10, ixl_11, ixt_11, ixb_11, ixf_11, ixl_12, ixt_12, ixb_12, ixf_12, ixl_13, ixt_13, ixb_13, ixf_13, ixl_14, ixt_14, ixb_14, ixf_14, ixl_15, ixt_15, ixb_15, ixf_15, c1, c7, c8, eA, p12]; rfl, hA⟩
    | cons e r =>
      have hne : ¬ ((r.length : Int) + 1 = 0) := by omega
      obtain ⟨b1, b2⟩ := fmod_bd (a := d11) (b := (r.length : Int) + 1) (by omega)
      have hx : ((d11.fmod ((r.length : Int) + 1)).toNat) < (e :: r).length := by rw [List.length_cons]; omega
      have ex : atI ((e :: r).map eD) (d11.fmod ((r.length : Int) + 1)) = some (eD ((e :: r)[(d11.fmod ((r.length : Int) + 1)).toNat])) := atI_get b1 (by rw [List.getElem?_map, List.getElem?_eq_getElem hx]; rfl)
      have hm := hes _ (List.getElem_mem hx)
      generalize (e :: r)[(d11.fmod ((r.length : Int) + 1)).toNat] = x at ex hm
      rw [List.map_cons] at ex
      have ex' : ixW (.dat (.lst (eD e :: r.map eD))) (.dat (.int (d11.fmod ((r.length : Int) + 1)))) = some (.dat (.tup [pD x.1, .int x.2])) := ix_l ex
      by_cases c0 : 1 < d0
      · by_cases c1 : d1 = 3 <;> by_cases c7 : d8 = 7
        · exact ⟨pB, _, by simp [f_l_pair, b_l_pair, mk_m, rb_nil, rb_cons, rb_frz, frz_own, frz_dat, frz_no, nxt_nx, nxt_rt, nxt_er, nxt_bk, nxt_ct, rs_asg, asg_dat, asg_fr, asg_er, rs_app, app_dat, app_fr, rs_setL, set_dat, rs_iff, iteS_t, iteS_f, rs_for, for_ok, ef_rg, rs_ret, ret_dat, ret_fr, ret_er, rs_retV, retV_dat, retV_own, rs_retN, rs_brk, rs_cnt, rs_pas, rn_expr, drop_ok, drop_er, rs_rais, rs_tri, tri_nx, tri_rt, endF_rt, endF_nx, endF_er, ev_var, var_dat, var_own, ev_int, ev_str, ev_bl, ev_non, ev_bin, ev_neg, neg_int, ev_cmp, ev_ix, ev_nott, not_bl, ev_tup, tupV_ok, tupM_ok, ev_lst, lstU_ok, lstM_ok, toDs_nil, toDs_cd, toDs_cf, Option.map_some, ev_dictT, ea_nil, ea_cons, ac_ok, ev_bi, bi_ok, ev_call, call_ok, ev_sl, sl_ok, eo_no, eo_so, so_ok, ev_get, get_br, get_dat, ev_attr, ev_isi, ev_ife, iteE_t, iteE_f, ev_andd, ev_orr, en_1, en_2, er_1, er_2, andU_t, andU_f, orU_t, orU_f, et_andd, et_orr, et_nott, notT_ok, et_cmp, et_var, et_isi, et_call, et_ix, et_chain, chT_ok, tru_bl, ent_1, ent_2, ert_1, ert_2, andT_t, andT_f, orT_t, orT_f, ev_lc, it_fr, it_dl, it_dt, it_br, rai_f, es_it, es_rg, u1_ok, u2_ok, v1_ok, v2_ok, optR_some, blR_some, bin_add, bin_sub, cmp_lt, cmp_le, cmp_gt, cmp_ge, cmp_eq, cmp_ne, cmp_eqs, cmp_nes, bi_int, bi_lenl, bi_lent, bi_lenb, bi_lenf, List.getElem?_cons_zero, List.getElem?_cons_succ, List.set_cons_zero, List.set_cons_succ, List.cons_append, List.nil_append, List.map_cons, List.map_nil, List.replicate, List.length_map, ixl_0, ixt_0, ixb_0, ixf_0, ixl_1, ixt_1, ixb_1, ixf_1, ixl_2, ixt_2, ixb_2, ixf_2, ixl_3, ixt_3, ixb_3, ixf_3, ixl_4, ixt_4, ixb_4, ixf_4, ixl_5, ixt_5, ixb_5, ixf_5, ixl_6, ixt_6, ixb_6, ixf_6, ixl_7, ixt_7, ixb_7, ixf_7, ixl_8, ixt_8, ixb_8, ixf_8, ixl_9, ixt_9, ixb_9, ixf_9, ixl_10, ixt_10, ixb_10, ixf_10, ixl_11, ixt_11, ixb_11, ixf_11, ixl_12, ixt_12, ixb_12, ixf_12, ixl_13, ixt_13, ixb_13, ixf_13, ixl_14, ixt_14, ixb_14, ixf_14, ixl_15, ixt_15, ixb_15, ixf_15, c1, c7, eB, p12, c0, hne]; rfl, hB⟩
        · by_cases c8 : d8 = 8
          · exact ⟨pB, _, by simp [f_l_pair, b_l_pair, mk_m, rb_nil, rb_cons, rb_frz, frz_own, frz_dat, frz_no, nxt_nx, nxt_rt, nxt_er, nxt_bk, nxt_ct, rs_asg, asg_dat, asg_fr, asg_er, rs_app, app_dat, app_fr, rs_setL, set_dat, rs_iff, iteS_t, iteS_f, rs_for, for_ok, ef_rg, rs_ret, ret_dat, ret_fr, ret_er, rs_retV, retV_dat, retV_own, rs_retN, rs_brk, rs_cnt, rs_pas, rn_expr, drop_ok, drop_er, rs_rais, rs_tri, tri_nx, tri_rt, endF_rt, endF_nx, endF_er, ev_var, var_dat, var_own, ev_int, ev_str, ev_bl, ev_non, ev_bin, ev_neg, neg_int, ev_cmp, ev_ix, ev_nott, not_bl, ev_tup, tupV_ok, tupM_ok, ev_lst, lstU_ok, lstM_ok, toDs_nil, toDs_cd, toDs_cf, Option.map_some, ev_dictT, ea_nil, ea_cons, ac_ok, ev_bi, bi_ok, ev_call, call_ok, ev_sl, sl_ok, eo_no, eo_so, so_ok, ev_get, get_br, get_dat, ev_attr, ev_isi, ev_ife, iteE_t, iteE_f, ev_andd, ev_orr, en_1, en_2, er_1, er_2, andU_t, andU_f, orU_t, orU_f, et_andd, et_orr, et_nott, notT_ok, et_cmp, et_var, et_isi, et_call, et_ix, et_chain, chT_ok, tru_bl, ent_1, ent_2, ert_1, ert_2, andT_t, andT_f, orT_t, orT_f, ev_lc, it_fr, it_dl, it_dt, it_br, rai_f, es_it, es_rg, u1_ok, u2_ok, v1_ok, v2_ok, optR_some, blR_some, bin_add, bin_sub, cmp_lt, cmp_le, cmp_gt, cmp_ge, cmp_eq, cmp_ne, cmp_eqs, cmp_nes, bi_int, bi_lenl, bi_lent, bi_lenb, bi_lenf, List.getElem?_cons_zero, List.getElem?_cons_succ, List.set_cons_zero, List.set_cons_succ, List.cons_append, List.nil_append, List.map_cons, List.map_nil, List.replicate, List.length_map, ixl_0, ixt_0, ixb_0, ixf_0, ixl_1, ixt_1, ixb_1, ixf_1, ixl_2, ixt_2, ixb_2, ixf_2, ixl_3, ixt_3, ixb_3, ixf_3, ixl_4, ixt_4, ixb_4, ixf_4, ixl_5, ixt_5, ixb_5, ixf_5, ixl_6, ixt_6, ixb_6, ixf_6, ixl_7, ixt_7, ixb_7, ixf_7, ixl_8, ixt_8, ixb_8, ixf_8, ixl_9, ixt_9, ixb_9, ixf_9, ixl_10, ixt_10, ixb_10, ixf_10, ixl_11, ixt_11, ixb_11, ixf_11, ixl_12, ixt_12, ixb_12, ixf_12, ixl_13, ixt_13, ixb_13, ixf_13, ixl_14, ixt_14, ixb_14, ixf_14, ixl_15, ixt_15, ixb_15, ixf_15, c1, c8, eB, p12, c0, hne]; rfl, hB⟩
          · exact ⟨pB, _, by simp [f_l_pair, b_l_pair, mk_m, rb_nil, rb_cons, rb_frz, frz_own, frz_dat, frz_no, nxt_nx, nxt_rt, nxt_er, nxt_bk, nxt_ct, rs_asg, asg_dat, asg_fr, asg_er, rs_app, app_dat, app_fr, rs_setL, set_dat, rs_iff, iteS_t, iteS_f, rs_for, for_ok, ef_rg, rs_ret, ret_dat, ret_fr, ret_er, rs_retV, retV_dat, retV_own, rs_retN, rs_brk, rs_cnt, rs_pas, rn_expr, drop_ok, drop_er, rs_rais, rs_tri, tri_nx, tri_rt, endF_rt, endF_nx, endF_er, ev_var, var_dat, var_own, ev_int, ev_str, ev_bl, ev_non, ev_bin, ev_neg, neg_int, ev_cmp, ev_ix, ev_nott, not_bl, ev_tup, tupV_ok, tupM_ok, ev_lst, lstU_ok, lstM_ok, toDs_nil, toDs_cd, toDs_cf, Option.map_some, ev_dictT, ea_nil, ea_cons, ac_ok, ev_bi, bi_ok, ev_call, call_ok, ev_sl, sl_ok, eo_no, eo_so, so_ok, ev_get, get_br, get_dat, ev_attr, ev_isi, ev_ife, iteE_t, iteE_f, ev_andd, ev_orr, en_1, en_2, er_1, er_2, andU_t, andU_f, orU_t, orU_f, et_andd, et_orr, et_nott, notT_ok, et_cmp, et_var, et_isi, et_call, et_ix, et_chain, chT_ok, tru_bl, ent_1, ent_2, ert_1, ert_2, andT_t, andT_f, orT_t, orT_f, ev_lc, it_fr, it_dl, it_dt, it_br, rai_f, es_it, es_rg, u1_ok, u2_ok, v1_ok, v2_ok, optR_some, blR_some, bin_add, bin_sub, cmp_lt, cmp_le, cmp_gt, cmp_ge, cmp_eq, cmp_ne, cmp_eqs, cmp_nes, bi_int, bi_lenl, bi_lent, bi_lenb, bi_lenf, List.getElem?_cons_zero, List.getElem?_cons_succ, List.set_cons_zero, List.set_cons_succ, List.cons_append, List.nil_append, List.map_cons, List.map_nil, List.replicate, List.length_map, ixl_0, ixt_0, ixb_0, ixf_0, ixl_1, ixt_1, ixb_1, ixf_1, ixl_2, ixt_2, ixb_2, ixf_2, ixl_3, ixt_3, ixb_3, ixf_3, ixl_4, ixt_4, ixb_4, ixf_4, ixl_5, ixt_5, ixb_5, ixf_5, ixl_6, ixt_6, ixb_6, ixf_6, ixl_7, ixt_7, ixb_7, ixf_7, ixl_8, ixt_8, ixb_8, ixf_8, ixl_9, ixt_9, ixb_9, ixf_9, ixl_10, ixt_10, ixb_10, ixf_10, ixl_11, ixt_11, ixb_11, ixf_11, ixl_12, ixt_12, ixb_12, ixf_12, ixl_13, ixt_13, ixb_13, ixf_13, ixl_14, ixt_14, ixb_14, ixf_14, ixl_15, ixt_15, ixb_15, ixf_15, c1, c7, c8, eB, p12, c0, hne]; rfl, hB⟩
        · exact ⟨pA, _, by simp [f_l_pair, b_l_pair, mk_m, rb_nil, rb_cons, rb_frz, frz_own, frz_dat, frz_no, nxt_nx, nxt_rt, nxt_er, nxt_bk, nxt_ct, rs_asg, asg_dat, asg_fr, asg_er, rs_app, app_dat, app_fr, rs_setL, set_dat, rs_iff, iteS_t, iteS_f, rs_for, for_ok, ef_rg, rs_ret, ret_dat, ret_fr, ret_er, rs_retV, retV_dat, retV_own, rs_retN, rs_brk, rs_cnt, rs_pas, rn_expr, drop_ok, drop_er, rs_rais, rs_tri, tri_nx, tri_rt, endF_rt, endF_nx, endF_er, ev_var, var_dat, var_own, ev_int, ev_str, ev_bl, ev_non, ev_bin, ev_neg, neg_int, ev_cmp, ev_ix, ev_nott, not_bl, ev_tup, tupV_ok, tupM_ok, ev_lst, lstU_ok, lstM_ok, toDs_nil, toDs_cd, toDs_cf, Option.map_some, ev_dictT, ea_nil, ea_cons, ac_ok, ev_bi, bi_ok, ev_call, call_ok, ev_sl, sl_ok, eo_no, eo_so, so_ok, ev_get, get_br, get_dat, ev_attr, ev_isi, ev_ife, iteE_t, iteE_f, ev_andd, ev_orr, en_1, en_2, er_1, er_2, andU_t, andU_f, orU_t, orU_f, et_andd, et_orr, et_nott, notT_ok, et_cmp, et_var, et_isi, et_call, et_ix, et_chain, chT_ok, tru_bl, ent_1, ent_2, ert_1, ert_2, andT_t, andT_f, orT_t, orT_f, ev_lc, it_fr, it_dl, it_dt, it_br, rai_f, es_it, es_rg, u1_ok, u2_ok, v1_ok, v2_ok, optR_some, blR_some, bin_add, bin_sub, cmp_lt, cmp_le, cmp_gt, cmp_ge, cmp_eq, cmp_ne, cmp_eqs, cmp_nes, bi_int, bi_lenl, bi_lent, bi_lenb, bi_lenf, List.getElem?_cons_zero, List.getElem?_cons_succ, List.set_cons_zero, List.set_cons_succ, List.cons_append, List.nil_append, List.map_cons, List.map_nil, List.replicate, List.length_map, ixl_0, ixt_0, ixb_0, ixf_0, ixl_1, ixt_1, ixb_1, ixf_1, ixl_2, ixt_2, ixb_2, ixf_2, ixl_3, ixt_3, ixb_3, ixf_3, ixl_4, ixt_4, ixb_4, ixf_4, ixl_5, ixt_5, ixb_5, ixf_5, ixl_6, ixt_6, ixb_6, ixf_6, ixl_7, ixt_7, ixb_7, ixf_7, ixl_8, ixt_8, ixb_8, ixf_8, ixl_9, ixt_9, ixb_9, ixf_9, ixl_10, ixt_10, ixb_10, ixf_10, ixl_11, ixt_11, ixb_11, ixf_11, ixl_12, ixt_12, ixb_12, ixf_12, ixl_13, ixt_13, ixb_13, ixf_13, ixl_14, ixt_14, ixb_14, ixf_14, ixl_15, ixt_15, ixb_15, ixf_15, c1, c7, eA, p12, c0, hne]; rfl, hA⟩
        · by_cases c8 : d8 = 8
          · exact ⟨pA, _, by simp [f_l_pair, b_l_pair, mk_m, rb_nil, rb_cons, rb_frz, frz_own, frz_dat, frz_no, nxt_nx, nxt_rt, nxt_er, nxt_bk, nxt_ct, rs_asg, asg_dat, asg_fr, asg_er, rs_app, app_dat, app_fr, rs_setL, set_dat, rs_iff, iteS_t, iteS_f, rs_for, for_ok, ef_rg, rs_ret, ret_dat, ret_fr, ret_er, rs_retV, retV_dat, retV_own, rs_retN, rs_brk, rs_cnt, rs_pas, rn_expr, drop_ok, drop_er, rs_rais, rs_tri, tri_nx, tri_rt, endF_rt, endF_nx, endF_er, ev_var, var_dat, var_own, ev_int, ev_str, ev_bl, ev_non, ev_bin, ev_neg, neg_int, ev_cmp, ev_ix, ev_nott, not_bl, ev_tup, tupV_ok, tupM_ok, ev_lst, lstU_ok, lstM_ok, toDs_nil, toDs_cd, toDs_cf, Option.map_some, ev_dictT, ea_nil, ea_cons, ac_ok, ev_bi, bi_ok, ev_call, call_ok, ev_sl, sl_ok, eo_no, eo_so, so_ok, ev_get, get_br, get_dat, ev_attr, ev_isi, ev_ife, iteE_t, iteE_f, ev_andd, ev_orr, en_1, en_2, er_1, er_2, andU_t, andU_f, orU_t, orU_f, et_andd, et_orr, et_nott, notT_ok, et_cmp, et_var, et_isi, et_call, et_ix, et_chain, chT_ok, tru_bl, ent_1, ent_2, ert_1, ert_2, andT_t, andT_f, orT_t, orT_f, ev_lc, it_fr, it_dl, it_dt, it_br, rai_f, es_it, es_rg, u1_ok, u2_ok, v1_ok, v2_ok, optR_some, blR_some, bin_add, bin_sub, cmp_lt, cmp_le, cmp_gt, cmp_ge, cmp_eq, cmp_ne, cmp_eqs, cmp_nes, bi_int, bi_lenl, bi_lent, bi_lenb, bi_lenf, List.getElem?_cons_zero, List.getElem?_cons_succ, List.set_cons_zero, List.set_cons_succ, List.cons_append, List.nil_append, List.map_cons, List.map_nil, List.replicate, List.length_map, ixl_0, ixt_0, ixb_0, ixf_0, ixl_1, ixt_1, ixb_1, ixf_1, ixl_2, ixt_2, ixb_2, ixf_2, ixl_3, ixt_3, ixb_3, ixf_3, ixl_4, ixt_4, ixb_4, ixf_4, ixl_5, ixt_5, ixb_5, ixf_5, ixl_6, ixt_6, ixb_6, ixf_6, ixl_7, ixt_7, ixb_7, ixf_7, ixl_8, ixt_8, ixb_8, ixf_8, ixl_9, ixt_9, ixb_9, ixf_9, ixl_10, ixt_10, ixb_10, ixf_10, ixl_11, ixt_11, ixb_11, ixf_11, ixl_12, ixt_12, ixb_12, ixf_12, ixl_13, ixt_13, ixb_13, ixf_13, ixl_14, ixt_14, ixb_14, ixf_14, ixl_15, ixt_15, ixb_15, ixf_15, c1, c8, eA, p12, c0, hne]; rfl, hA⟩
          · exact ⟨pA, _, by simp [f_l_pair, b_l_pair, mk_m, rb_nil, rb_cons, rb_frz, frz_own, frz_dat, frz_no, nxt_nx, nxt_rt, nxt_er, nxt_bk, nxt_ct, rs_asg, asg_dat, asg_fr, asg_er, rs_app, app_dat, app_fr, rs_setL, set_dat, rs_iff, iteS_t, iteS_f, rs_for, for_ok, ef_rg, rs_ret, ret_dat, ret_fr, ret_er, rs_retV, retV_dat, retV_own, rs_retN, rs_brk, rs_cnt, rs_pas, rn_expr, drop_ok, drop_er, rs_rais, rs_tri, tri_nx, tri_rt, endF_rt, endF_nx, endF_er, ev_var, var_dat, var_own, ev_int, ev_str, ev_bl, ev_non, ev_bin, ev_neg, neg_int, ev_cmp, ev_ix, ev_nott, not_bl, ev_tup, tupV_ok, tupM_ok, ev_lst, lstU_ok, lstM_ok, toDs_nil, toDs_cd, toDs_cf, Option.map_some, ev_dictT, ea_nil, ea_cons, ac_ok, ev_bi, bi_ok, ev_call, call_ok, ev_sl, sl_ok, eo_no, eo_so, so_ok, ev_get, get_br, get_dat, ev_attr, ev_isi, ev_ife, iteE_t, iteE_f, ev_andd, ev_orr, en_1, en_2, er_1, er_2, andU_t, andU_f, orU_t, orU_f, et_andd, et_orr, et_nott, notT_ok, et_cmp, et_var, et_isi, et_call, et_ix, et_chain, chT_ok, tru_bl, ent_1, ent_2, ert_1, ert_2, andT_t, andT_f, orT_t, orT_f, ev_lc, it_fr, it_dl, it_dt, it_br, rai_f, es_it, es_rg, u1_ok, u2_ok, v1_ok, v2_ok, optR_some, blR_some, bin_add, bin_sub, cmp_lt, cmp_le, cmp_gt, cmp_ge, cmp_eq, cmp_ne, cmp_eqs, cmp_nes, bi_int, bi_lenl, bi_lent, bi_lenb, bi_lenf, List.getElem?_cons_zero, List.getElem?_cons_succ, List.set_cons_zero, List.set_cons_succ, List.cons_append, List.nil_append, List.map_cons, List.map_nil, List.replicate, List.length_map, ixl_0, ixt_0, ixb_0, ixf_0, ixl_1, ixt_1, ixb_1, ixf_1, ixl_2, ixt_2, ixb_2, ixf_2, ixl_3, ixt_3, ixb_3, ixf_3, ixl_4, ixt_4, ixb_4, ixf_4, ixl_5, ixt_5, ixb_5, ixf_5, ixl_6, ixt_6, ixb_6, ixf_6, ixl_7, ixt_7, ixb_7, ixf_7, ixl_8, ixt_8, ixb_8, ixf_8, ixl_9, ixt_9, ixb_9, ixf_9, ixl_10, ixt_10, ixb_10, ixf_10, ixl_11, ixt_11, ixb_11, ixf_11, ixl_12, ixt_12, ixb_12, ixf_12, ixl_13, ixt_13, ixb_13, ixf_13, ixl_14, ixt_14, ixb_14, ixf_14, ixl_15, ixt_15, ixb_15, ixf_15, c1, c7, c8, eA, p12, c0, hne]; rfl, hA⟩
      · by_cases c1 : d1 = 3 <;> by_cases c7 : d8 = 7 <;> by_cases c8 : d8 = 8 <;> by_cases cd : d0 = 1
        · omega
        · omega
        · exact ⟨x.1, _, by simp [f_l_pair, b_l_pair, mk_m, rb_nil, rb_cons, rb_frz, frz_own, frz_dat, frz_no, nxt_nx, nxt_rt, nxt_er, nxt_bk, nxt_ct, rs_asg, asg_dat, asg_fr, asg_er, rs_app, app_dat, app_fr, rs_setL, set_dat, rs_iff, iteS_t, iteS_f, rs_for, for_ok, ef_rg, rs_ret, ret_dat, ret_fr, ret_er, rs_retV, retV_dat, retV_own, rs_retN, rs_brk, rs_cnt, rs_pas, rn_expr, drop_ok, drop_er, rs_rais, rs_tri, tri_nx, tri_rt, endF_rt, endF_nx, endF_er, ev_var, var_dat, var_own, ev_int, ev_str, ev_bl, ev_non, ev_bin, ev_neg, neg_int, ev_cmp, ev_ix, ev_nott, not_bl, ev_tup, tupV_ok, tupM_ok, ev_lst, lstU_ok, lstM_ok, toDs_nil, toDs_cd, toDs_cf, Option.map_some, ev_dictT, ea_nil, ea_cons, ac_ok, ev_bi, bi_ok, ev_call, call_ok, ev_sl, sl_ok, eo_no, eo_so, so_ok, ev_get, get_br, get_dat, ev_attr, ev_isi, ev_ife, iteE_t, iteE_f, ev_andd, ev_orr, en_1, en_2, er_1, er_2, andU_t, andU_f, orU_t, orU_f, et_andd, et_orr, et_nott, notT_ok, et_cmp, et_var, et_isi, et_call, et_ix, et_chain, chT_ok, tru_bl, ent_1, ent_2, ert_1, ert_2, andT_t, andT_f, orT_t, orT_f, ev_lc, it_fr, it_dl, it_dt, it_br, rai_f, es_it, es_rg, u1_ok, u2_ok, v1_ok, v2_ok, optR_some, blR_some, bin_add, bin_sub, cmp_lt, cmp_le, cmp_gt, cmp_ge, cmp_eq, cmp_ne, cmp_eqs, cmp_nes, bi_int, bi_lenl, bi_lent, bi_lenb, bi_lenf, List.getElem?_cons_zero, List.getElem?_cons_succ, List.set_cons_zero, List.set_cons_succ, List.cons_append, List.nil_append, List.map_cons, List.map_nil, List.replicate, List.length_map, ixl_0, ixt_0, ixb_0, ixf_0, ixl_1, ixt_1, ixb_1, ixf_1, ixl_2, ixt_2, ixb_2, ixf_2, ixl_3, ixt_3, ixb_3, ixf_3, ixl_4, ixt_4, ixb_4, ixf_4, ixl_5, ixt_5, ixb_5, ixf_5, ixl_6, ixt_6, ixb_6, ixf_6, ixl_7, ixt_7, ixb_7, ixf_7, ixl_8, ixt_8, ixb_8, ixf_8, ixl_9, ixt_9, ixb_9, ixf_9, ixl_10, ixt_10, ixb_10, ixf_10, ixl_11, ixt_11, ixb_11, ixf_11, ixl_12, ixt_12, ixb_12, ixf_12, ixl_13, ixt_13, ixb_13, ixf_13, ixl_14, ixt_14, ixb_14, ixf_14, ixl_15, ixt_15, ixb_15, ixf_15, c1, c7, cd, p12, hne, ex', bin_mod hne]; rfl, hm⟩
        · exact ⟨x.1, _, by simp [f_l_pair, b_l_pair, mk_m, rb_nil, rb_cons, rb_frz, frz_own, frz_dat, frz_no, nxt_nx, nxt_rt, nxt_er, nxt_bk, nxt_ct, rs_asg, asg_dat, asg_fr, asg_er, rs_app, app_dat, app_fr, rs_setL, set_dat, rs_iff, iteS_t, iteS_f, rs_for, for_ok, ef_rg, rs_ret, ret_dat, ret_fr, ret_er, rs_retV, retV_dat, retV_own, rs_retN, rs_brk, rs_cnt, rs_pas, rn_expr, drop_ok, drop_er, rs_rais, rs_tri, tri_nx, tri_rt, endF_rt, endF_nx, endF_er, ev_var, var_dat, var_own, ev_int, ev_str, ev_bl, ev_non, ev_bin, ev_neg, neg_int, ev_cmp, ev_ix, ev_nott, not_bl, ev_tup, tupV_ok, tupM_ok, ev_lst, lstU_ok, lstM_ok, toDs_nil, toDs_cd, toDs_cf, Option.map_some, ev_dictT, ea_nil, ea_cons, ac_ok, ev_bi, bi_ok, ev_call, call_ok, ev_sl, sl_ok, eo_no, eo_so, so_ok, ev_get, get_br, get_dat, ev_attr, ev_isi, ev_ife, iteE_t, iteE_f, ev_andd, ev_orr, en_1, en_2, er_1, er_2, andU_t, andU_f, orU_t, orU_f, et_andd, et_orr, et_nott, notT_ok, et_cmp, et_var, et_isi, et_call, et_ix, et_chain, chT_ok, tru_bl, ent_1, ent_2, ert_1, ert_2, andT_t, andT_f, orT_t, orT_f, ev_lc, it_fr, it_dl, it_dt, it_br, rai_f, es_it, es_rg, u1_ok, u2_ok, v1_ok, v2_ok, optR_some, blR_some, bin_add, bin_sub, cmp_lt, cmp_le, cmp_gt, cmp_ge, cmp_eq, cmp_ne, cmp_eqs, cmp_nes, bi_int, bi_lenl, bi_lent, bi_lenb, bi_lenf, List.getElem?_cons_zero, List.getElem?_cons_succ, List.set_cons_zero, List.set_cons_succ, List.cons_append, List.nil_append, List.map_cons, List.map_nil, List.replicate, List.length_map, ixl_0, ixt_0, ixb_0, ixf_0, ixl_1, ixt_1, ixb_1, ixf_1, ixl_2, ixt_2, ixb_2, ixf_2, ixl_3, ixt_3, ixb_3, ixf_3, ixl_4, ixt_4, ixb_4, ixf_4, ixl_5, ixt_5, ixb_5, ixf_5, ixl_6, ixt_6, ixb_6, ixf_6, ixl_7, ixt_7, ixb_7, ixf_7, ixl_8, ixt_8, ixb_8, ixf_8, ixl_9, ixt_9, ixb_9, ixf_9, ixl_10, ixt_10, ixb_10, ixf_10, ixl_11, ixt_11, ixb_11, ixf_11, ixl_12, ixt_12, ixb_12, ixf_12, ixl_13, ixt_13, ixb_13, ixf_13, ixl_14, ixt_14, ixb_14, ixf_14, ixl_15, ixt_15, ixb_15, ixf_15, c1, c7, cd, p12, c0, hne, ex', bin_mod hne]; rfl, hm⟩
        · exact ⟨x.1, _, by simp [f_l_pair, b_l_pair, mk_m, rb_nil, rb_cons, rb_frz, frz_own, frz_dat, frz_no, nxt_nx, nxt_rt, nxt_er, nxt_bk, nxt_ct, rs_asg, asg_dat, asg_fr, asg_er, rs_app, app_dat, app_fr, rs_setL, set_dat, rs_iff, iteS_t, iteS_f, rs_for, for_ok, ef_rg, rs_ret, ret_dat, ret_fr, ret_er, rs_retV, retV_dat, retV_own, rs_retN, rs_brk, rs_cnt, rs_pas, rn_expr, drop_ok, drop_er, rs_rais, rs_tri, tri_nx, tri_rt, endF_rt, endF_nx, endF_er, ev_var, var_dat, var_own, ev_int, ev_str, ev_bl, ev_non, ev_bin, ev_neg, neg_int, ev_cmp, ev_ix, ev_nott, not_bl, ev_tup, tupV_ok, tupM_ok, ev_lst, lstU_ok, lstM_ok, toDs_nil, toDs_cd, toDs_cf, Option.map_some, ev_dictT, ea_nil, ea_cons, ac_ok, ev_bi, bi_ok, ev_call, call_ok, ev_sl, sl_ok, eo_no, eo_so, so_ok, ev_get, get_br, get_dat, ev_attr, ev_isi, ev_ife, iteE_t, iteE_f, ev_andd, ev_orr, en_1, en_2, er_1, er_2, andU_t, andU_f, orU_t, orU_f, et_andd, et_orr, et_nott, notT_ok, et_cmp, et_var, et_isi, et_call, et_ix, et_chain, chT_ok, tru_bl, ent_1, ent_2, ert_1, ert_2, andT_t, andT_f, orT_t, orT_f, ev_lc, it_fr, it_dl, it_dt, it_br, rai_f, es_it, es_rg, u1_ok, u2_ok, v1_ok, v2_ok, optR_some, blR_some, bin_add, bin_sub, cmp_lt, cmp_le, cmp_gt, cmp_ge, cmp_eq, cmp_ne, cmp_eqs, cmp_nes, bi_int, bi_lenl, bi_lent, bi_lenb, bi_lenf, List.getElem?_cons_zero, List.getElem?_cons_succ, List.set_cons_zero, List.set_cons_succ, List.cons_append, List.nil_append, List.map_cons, List.map_nil, List.replicate, List.length_map, ixl_0, ixt_0, ixb_0, ixf_0, ixl_1, ixt_1, ixb_1, ixf_1, ixl_2, ixt_2, ixb_2, ixf_2, ixl_3, ixt_3, ixb_3, ixf_3, ixl_4, ixt_4, ixb_4, ixf_4, ixl_5, ixt_5, ixb_5, ixf_5, ixl_6, ixt_6, ixb_6, ixf_6, ixl_7, ixt_7, ixb_7, ixf_7, ixl_8, ixt_8, ixb_8, ixf_8, ixl_9, ixt_9, ixb_9, ixf_9, ixl_10, ixt_10, ixb_10, ixf_10, ixl_11, ixt_11, ixb_11, ixf_11, ixl_12, ixt_12, ixb_12, ixf_12, ixl_13, ixt_13, ixb_13, ixf_13, ixl_14, ixt_14, ixb_14, ixf_14, ixl_15, ixt_15, ixb_15, ixf_15, c1, c8, cd, p12, hne, ex', bin_mod hne]; rfl, hm⟩
        · exact ⟨x.1, _, by simp [f_l_pair, b_l_pair, mk_m, rb_nil, rb_cons, rb_frz, frz_own, frz_dat, frz_no, nxt_nx, nxt_rt, nxt_er, nxt_bk, nxt_ct, rs_asg, asg_dat, asg_fr, asg_er, rs_app, app_dat, app_fr, rs_setL, set_dat, rs_iff, iteS_t, iteS_f, rs_for, for_ok, ef_rg, rs_ret, ret_dat, ret_fr, ret_er, rs_retV, retV_dat, retV_own, rs_retN, rs_brk, rs_cnt, rs_pas, rn_expr, drop_ok, drop_er, rs_rais, rs_tri, tri_nx, tri_rt, endF_rt, endF_nx, endF_er, ev_var, var_dat, var_own, ev_int, ev_str, ev_bl, ev_non, ev_bin, ev_neg, neg_int, ev_cmp, ev_ix, ev_nott, not_bl, ev_tup, tupV_ok, tupM_ok, ev_lst, lstU_ok, lstM_ok, toDs_nil, toDs_cd, toDs_cf, Option.map_some, ev_dictT, ea_nil, ea_cons, ac_ok, ev_bi, bi_ok, ev_call, call_ok, ev_sl, sl_ok, eo_no, eo_so, so_ok, ev_get, get_br, get_dat, ev_attr, ev_isi, ev_ife, iteE_t, iteE_f, ev_andd, ev_orr, en_1, en_2, er_1, er_2, andU_t, andU_f, orU_t, orU_f, et_andd, et_orr, et_nott, notT_ok, et_cmp, et_var, et_isi, et_call, et_ix, et_chain, chT_ok, tru_bl, ent_1, ent_2, ert_1, ert_2, andT_t, andT_f, orT_t, orT_f, ev_lc, it_fr, it_dl, it_dt, it_br, rai_f, es_it, es_rg, u1_ok, u2_ok, v1_ok, v2_ok, optR_some, blR_some, bin_add, bin_sub, cmp_lt, cmp_le, cmp_gt, cmp_ge, cmp_eq, cmp_ne, cmp_eqs, cmp_nes, bi_int, bi_lenl, bi_lent, bi_lenb, bi_lenf, List.getElem?_cons_zero, List.getElem?_cons_succ, List.set_cons_zero, List.set_cons_succ, List.cons_append, List.nil_append, List.map_cons, List.map_nil, List.replicate, List.length_map, ixl_0, ixt_0, ixb_0, ixf_0, ixl_1, ixt_1, ixb_1, ixf_1, ixl_2, ixt_2, ixb_2, ixf_2, ixl_3, ixt_3, ixb_3, ixf_3, ixl_4, ixt_4, ixb_4, ixf_4, ixl_5, ixt_5, ixb_5, ixf_5, ixl_6, ixt_6, ixb_6, ixf_6, ixl_7, ixt_7, ixb_7, ixf_7, ixl_8, ixt_8, ixb_8, ixf_8, ixl_9, ixt_9, ixb_9, ixf_9, ixl_10, ixt_10, ixb_10, ixf_10, ixl_11, ixt_11, ixb_11, ixf_11, ixl_12, ixt_12, ixb_12, ixf_12, ixl_13, ixt_13, ixb_13, ixf_13, ixl_14, ixt_14, ixb_14, ixf_14, ixl_15, ixt_15, ixb_15, ixf_15, c1, c8, cd, p12, c0, hne, ex', bin_mod hne]; rfl, hm⟩
        · exact ⟨x.1, _, by simp [f_l_pair, b_l_pair, mk_m, rb_nil, rb_cons, rb_frz, frz_own, frz_dat, frz_no, nxt_nx, nxt_rt, nxt_er, nxt_bk, nxt_ct, rs_asg, asg_dat, asg_fr, asg_er, rs_app, app_dat, app_fr, rs_setL, set_dat, rs_iff, iteS_t, iteS_f, rs_for, for_ok, ef_rg, rs_ret, ret_dat, ret_fr, ret_er, rs_retV, retV_dat, retV_own, rs_retN, rs_brk, rs_cnt, rs_pas, rn_expr, drop_ok, drop_er, rs_rais, rs_tri, tri_nx, tri_rt, endF_rt, endF_nx, endF_er, ev_var, var_dat, var_own, ev_int, ev_str, ev_bl, ev_non, ev_bin, ev_neg, neg_int, ev_cmp, ev_ix, ev_nott, not_bl, ev_tup, tupV_ok, tupM_ok, ev_lst, lstU_ok, lstM_ok, toDs_nil, toDs_cd, toDs_cf, Option.map_some, ev_dictT, ea_nil, ea_cons, ac_ok, ev_bi, bi_ok, ev_call, call_ok, ev_sl, sl_ok, eo_no, eo_so, so_ok, ev_get, get_br, get_dat, ev_attr, ev_isi, ev_ife, iteE_t, iteE_f, ev_andd, ev_orr, en_1, en_2, er_1, er_2, andU_t, andU_f, orU_t, orU_f, et_andd, et_orr, et_nott, notT_ok, et_cmp, et_var, et_isi, et_call, et_ix, et_chain, chT_ok, tru_bl, ent_1, ent_2, ert_1, ert_2, andT_t, andT_f, orT_t, orT_f, ev_lc, it_fr, it_dl, it_dt, it_br, rai_f, es_it, es_rg, u1_ok, u2_ok, v1_ok, v2_ok, optR_some, blR_some, bin_add, bin_sub, cmp_lt, cmp_le, cmp_gt, cmp_ge, cmp_eq, cmp_ne, cmp_eqs, cmp_nes, bi_int, bi_lenl, bi_lent, bi_lenb, bi_lenf, List.getElem?_cons_zero, List.getElem?_cons_succ, List.set_cons_zero, List.set_cons_succ, List.cons_append, List.nil_append, List.map_cons, List.map_nil, List.replicate, List.length_map, ixl_0, ixt_0, ixb_0, ixf_0, ixl_1, ixt_1, ixb_1, ixf_1, ixl_2, ixt_2, ixb_2, ixf_2, ixl_3, ixt_3, ixb_3, ixf_3, ixl_4, ixt_4, ixb_4, ixf_4, ixl_5, ixt_5, ixb_5, ixf_5, ixl_6, ixt_6, ixb_6, ixf_6, ixl_7, ixt_7, ixb_7, ixf_7, ixl_8, ixt_8, ixb_8, ixf_8, ixl_9, ixt_9, ixb_9, ixf_9, ixl_10, ixt_10, ixb_10, ixf_10, ixl_11, ixt_11, ixb_11, ixf_11, ixl_12, ixt_12, ixb_12, ixf_12, ixl_13, ixt_13, ixb_13, ixf_13, ixl_14, ixt_14, ixb_14, ixf_14, ixl_15, ixt_15, ixb_15, ixf_15, c1, c7, c8, cd, p12, hne, ex', bin_mod hne]; rfl, hm⟩
        · exact ⟨x.1, _, by simp [f_l_pair, b_l_pair, mk_m, rb_nil, rb_cons, rb_frz, frz_own, frz_dat, frz_no, nxt_nx, nxt_rt, nxt_er, nxt_bk, nxt_ct, rs_asg, asg_dat, asg_fr, asg_er, rs_app, app_dat, app_fr, rs_setL, set_dat, rs_iff, iteS_t, iteS_f, rs_for, for_ok, ef_rg, rs_ret, ret_dat, ret_fr, ret_er, rs_retV, retV_dat, retV_own, rs_retN, rs_brk, rs_cnt, rs_pas, rn_expr, drop_ok, drop_er, rs_rais, rs_tri, tri_nx, tri_rt, endF_rt, endF_nx, endF_er, ev_var, var_dat, var_own, ev_int, ev_str, ev_bl, ev_non, ev_bin, ev_neg, neg_int, ev_cmp, ev_ix, ev_nott, not_bl, ev_tup, tupV_ok, tupM_ok, ev_lst, lstU_ok, lstM_ok, toDs_nil, toDs_cd, toDs_cf, Option.map_some, ev_dictT, ea_nil, ea_cons, ac_ok, ev_bi, bi_ok, ev_call, call_ok, ev_sl, sl_ok, eo_no, eo_so, so_ok, ev_get, get_br, get_dat, ev_attr, ev_isi, ev_ife, iteE_t, iteE_f, ev_andd, ev_orr, en_1, en_2, er_1, er_2, andU_t, andU_f, orU_t, orU_f, et_andd, et_orr, et_nott, notT_ok, et_cmp, et_var, et_isi, et_call, et_ix, et_chain, chT_ok, tru_bl, ent_1, ent_2, ert_1, ert_2, andT_t, andT_f, orT_t, orT_f, ev_lc, it_fr, it_dl, it_dt, it_br, rai_f, es_it, es_rg, u1_ok, u2_ok, v1_ok, v2_ok, optR_some, blR_some, bin_add, bin_sub, cmp_lt, cmp_le, cmp_gt, cmp_ge, cmp_eq, cmp_ne, cmp_eqs, cmp_nes, bi_int, bi_lenl, bi_lent, bi_lenb, bi_lenf, List.getElem?_cons_zero, List.getElem?_cons_succ, List.set_cons_zero, List.set_cons_succ, List.cons_append, List.nil_append, List.map_cons, List.map_nil, List.replicate, List.length_map, ixl_0, ixt_0, ixb_0, ixf_0, ixl_1, ixt_1, ixb_1, ixf_1, ixl_2, ixt_2, ixb_2, ixf_2, ixl_3, ixt_3, ixb_3, ixf_3, ixl_4, ixt_4, ixb_4, ixf_4, ixl_5, ixt_5, ixb_5, ixf_5, ixl_6, ixt_6, ixb_6, ixf_6, ixl_7, ixt_7, ixb_7, ixf_7, ixl_8, ixt_8, ixb_8, ixf_8, ixl_9, ixt_9, ixb_9, ixf_9, ixl_10, ixt_10, ixb_10, ixf_10, ixl_11, ixt_11, ixb_11, ixf_11, ixl_12, ixt_12, ixb_12, ixf_12, ixl_13, ixt_13, ixb_13, ixf_13, ixl_14, ixt_14, ixb_14, ixf_14, ixl_15, ixt_15, ixb_15, ixf_15, c1, c7, c8, cd, p12, c0, hne, ex', bin_mod hne]; rfl, hm⟩
        · omega
        · omega
        · exact ⟨x.1, _, by simp [f_l_pair, b_l_pair, mk_m, rb_nil, rb_cons, rb_frz, frz_own, frz_dat, frz_no, nxt_nx, nxt_rt, nxt_er, nxt_bk, nxt_ct, rs_asg, asg_dat, asg_fr, asg_er, rs_app, app_dat, app_fr, rs_setL, set_dat, rs_iff, iteS_t, iteS_f, rs_for, for_ok, ef_rg, rs_ret, ret_dat, ret_fr, ret_er, rs_retV, retV_dat, retV_own, rs_retN, rs_brk, rs_cnt, rs_pas, rn_expr, drop_ok, drop_er, rs_rais, rs_tri, tri_nx, tri_rt, endF_rt, endF_nx, endF_er, ev_var, var_dat, var_own, ev_int, ev_str, ev_bl, ev_non, ev_bin, ev_neg, neg_int, ev_cmp, ev_ix, ev_nott, not_bl, ev_tup, tupV_ok, tupM_ok, ev_lst, lstU_ok, lstM_ok, toDs_nil, toDs_cd, toDs_cf, Option.map_some, ev_dictT, ea_nil, ea_cons, ac_ok, ev_bi, bi_ok, ev_call, call_ok, ev_sl, sl_ok, eo_no, eo_so, so_ok, ev_get, get_br, get_dat, ev_attr, ev_isi, ev_ife, iteE_t, iteE_f, ev_andd, ev_orr, en_1, en_2, er_1, er_2, andU_t, andU_f, orU_t, orU_f, et_andd, et_orr, et_nott, notT_ok, et_cmp, et_var, et_isi, et_call, et_ix, et_chain, chT_ok, tru_bl, ent_1, ent_2, ert_1, ert_2, andT_t, andT_f, orT_t, orT_f, ev_lc, it_fr, it_dl, it_dt, it_br, rai_f, es_it, es_rg, u1_ok, u2_ok, v1_ok, v2_ok, optR_some, blR_some, bin_add, bin_sub, cmp_lt, cmp_le, cmp_gt, cmp_ge, cmp_eq, cmp_ne, cmp_eqs, cmp_nes, bi_int, bi_lenl, bi_lent, bi_lenb, bi_lenf, List.getElem?_cons_zero, List.getElem?_cons_succ, List.set_cons_zero, List.set_cons_succ, List.cons_append, List.nil_append, List.map_cons, List.map_nil, List.replicate, List.length_map, ixl_0, ixt_0, ixb_0, ixf_0, ixl_1, ixt_1, ixb_1, ixf_1, ixl_2, ixt_2, ixb_2, ixf_2, ixl_3, ixt_3, ixb_3, ixf_3, ixl_4, ixt_4, ixb_4, ixf_4, ixl_5, ixt_5, ixb_5, ixf_5, ixl_6, ixt_6, ixb_6, ixf_6, ixl_7, ixt_7, ixb_7, ixf_7, ixl_8, ixt_8, ixb_8, ixf_8, ixl_9, ixt_9, ixb_9, ixf_9, ixl_10, ixt_10, ixb_10, ixf_10, ixl_11, ixt_11, ixb_11, ixf_11, ixl_12, ixt_12, ixb_12, ixf_12, ixl_13, ixt_13, ixb_13, ixf_13, ixl_14, ixt_14, ixb_14, ixf_14, ixl_15, ixt_15, ixb_15, ixf_15, c1, c7, cd, p12, hne, ex', bin_mod hne]; rfl, hm⟩
        · exact ⟨x.1, _, by simp [f_l_pair, b_l_pair, mk_m, rb_nil, rb_cons, rb_frz, frz_own, frz_dat, frz_no, nxt_nx, nxt_rt, nxt_er, nxt_bk, nxt_ct, rs_asg, asg_dat, asg_fr, asg_er, rs_app, app_dat, app_fr, rs_setL, set_dat, rs_iff, iteS_t, iteS_f, rs_for, for_ok, ef_rg, rs_ret, ret_dat, ret_fr, ret_er, rs_retV, retV_dat, retV_own, rs_retN, rs_brk, rs_cnt, rs_pas, rn_expr, drop_ok, drop_er, rs_rais, rs_tri, tri_nx, tri_rt, endF_rt, endF_nx, endF_er, ev_var, var_dat, var_own, ev_int, ev_str, ev_bl, ev_non, ev_bin, ev_neg, neg_int, ev_cmp, ev_ix, ev_nott, not_bl, ev_tup, tupV_ok, tupM_ok, ev_lst, lstU_ok, lstM_ok, toDs_nil, toDs_cd, toDs_cf, Option.map_some, ev_dictT, ea_nil, ea_cons, ac_ok, ev_bi, bi_ok, ev_call, call_ok, ev_sl, sl_ok, eo_no, eo_so, so_ok, ev_get, get_br, get_dat, ev_attr, ev_isi, ev_ife, iteE_t, iteE_f, ev_andd, ev_orr, en_1, en_2, er_1, er_2, andU_t, andU_f, orU_t, orU_f, et_andd, et_orr, et_nott, notT_ok, et_cmp, et_var, et_isi, et_call, et_ix, et_chain, chT_ok, tru_bl, ent_1, ent_2, ert_1, ert_2, andT_t, andT_f, orT_t, orT_f, ev_lc, it_fr, it_dl, it_dt, it_br, rai_f, es_it, es_rg, u1_ok, u2_ok, v1_ok, v2_ok, optR_some, blR_some, bin_add, bin_sub, cmp_lt, cmp_le, cmp_gt, cmp_ge, cmp_eq, cmp_ne, cmp_eqs, cmp_nes, bi_int, bi_lenl, bi_lent, bi_lenb, bi_lenf, List.getElem?_cons_zero, List.getElem?_cons_succ, List.set_cons_zero, List.set_cons_succ, List.cons_append, List.nil_append, List.map_cons, List.map_nil, List.replicate, List.length_map, ixl_0, ixt_0, ixb_0, ixf_0, ixl_1, ixt_1, ixb_1, ixf_1, ixl_2, ixt_2, ixb_2, ixf_2, ixl_3, ixt_3, ixb_3, ixf_3, ixl_4, ixt_4, ixb_4, ixf_4, ixl_5, ixt_5, ixb_5, ixf_5, ixl_6, ixt_6, ixb_6, ixf_6, ixl_7, ixt_7, ixb_7, ixf_7, ixl_8, ixt_8, ixb_8, ixf_8, ixl_9, ixt_9, ixb_9, ixf_9, ixl_10, ixt_10, ixb_10, ixf_10, ixl_11, ixt_11, ixb_11, ixf_11, ixl_12, ixt_12, ixb_12, ixf_12, ixl_13, ixt_13, ixb_13, ixf_13, ixl_14, ixt_14, ixb_14, ixf_14, ixl_15, ixt_15, ixb_15, ixf_15, c1, c7, cd, p12, c0, hne, ex', bin_mod hne]; rfl, hm⟩
        · exact ⟨x.1, _, by simp [f_l_pair, b_l_pair, mk_m, rb_nil, rb_cons, rb_frz, frz_own, frz_dat, frz_no, nxt_nx, nxt_rt, nxt_er, nxt_bk, nxt_ct, rs_asg, asg_dat, asg_fr, asg_er, rs_app, app_dat, app_fr, rs_setL, set_dat, rs_iff, iteS_t, iteS_f, rs_for, for_ok, ef_rg, rs_ret, ret_dat, ret_fr, ret_er, rs_retV, retV_dat, retV_own, rs_retN, rs_brk, rs_cnt, rs_pas, rn_expr, drop_ok, drop_er, rs_rais, rs_tri, tri_nx, tri_rt, endF_rt, endF_nx, endF_er, ev_var, var_dat, var_own, ev_int, ev_str, ev_bl, ev_non, ev_bin, ev_neg, neg_int, ev_cmp, ev_ix, ev_nott, not_bl, ev_tup, tupV_ok, tupM_ok, ev_lst, lstU_ok, lstM_ok, toDs_nil, toDs_cd, toDs_cf, Option.map_some, ev_dictT, ea_nil, ea_cons, ac_ok, ev_bi, bi_ok, ev_call, call_ok, ev_sl, sl_ok, eo_no, eo_so, so_ok, ev_get, get_br, get_dat, ev_attr, ev_isi, ev_ife, iteE_t, iteE_f, ev_andd, ev_orr, en_1, en_2, er_1, er_2, andU_t, andU_f, orU_t, orU_f, et_andd, et_orr, et_nott, notT_ok, et_cmp, et_var, et_isi, et_call, et_ix, et_chain, chT_ok, tru_bl, ent_1, ent_2, ert_1, ert_2, andT_t, andT_f, orT_t, orT_f, ev_lc, it_fr, it_dl, it_dt, it_br, rai_f, es_it, es_rg, u1_ok, u2_ok, v1_ok, v2_ok, optR_some, blR_some, bin_add, bin_sub, cmp_lt, cmp_le, cmp_gt, cmp_ge, cmp_eq, cmp_ne, cmp_eqs, cmp_nes, bi_int, bi_lenl, bi_lent, bi_lenb, bi_lenf, List.getElem?_cons_zero, List.getElem?_cons_succ, List.set_cons_zero, List.set_cons_succ, List.cons_append, List.nil_append, List.map_cons, List.map_nil, List.replicate, List.length_map, ixl_0, ixt_0, ixb_0, ixf_0, ixl_1, ixt_1, ixb_1, ixf_1, ixl_2, ixt_2, ixb_2, ixf_2, ixl_3, ixt_3, ixb_3, ixf_3, ixl_4, ixt_4, ixb_4, ixf_4, ixl_5, ixt_5, ixb_5, ixf_5, ixl_6, ixt_6, ixb_6, ixf_6, ixl_7, ixt_7, ixb_7, ixf_7, ixl_8, ixt_8, ixb_8, ixf_8, ixl_9, ixt_9, ixb_9, ixf_9, ixl_10, ixt_10, ixb_10, ixf_10, ixl_11, ixt_11, ixb_11, ixf_11, ixl_12, ixt_12, ixb_12, ixf_12, ixl_13, ixt_13, ixb_13, ixf_13, ixl_14, ixt_14, ixb_14, ixf_14, ixl_15, ixt_15, ixb_15, ixf_15, c1, c8, cd, p12, hne, ex', bin_mod hne]; rfl, hm⟩
        · exact ⟨x.1, _, by simp [f_l_pair, b_l_pair, mk_m, rb_nil, rb_cons, rb_frz, frz_own, frz_dat, frz_no, nxt_nx, nxt_rt, nxt_er, nxt_bk, nxt_ct, rs_asg, asg_dat, asg_fr, asg_er, rs_app, app_dat, app_fr, rs_setL, set_dat, rs_iff, iteS_t, iteS_f, rs_for, for_ok, ef_rg, rs_ret, ret_dat, ret_fr, ret_er, rs_retV, retV_dat, retV_own, rs_retN, rs_brk, rs_cnt, rs_pas, rn_expr, drop_ok, drop_er, rs_rais, rs_tri, tri_nx, tri_rt, endF_rt, endF_nx, endF_er, ev_var, var_dat, var_own, ev_int, ev_str, ev_bl, ev_non, ev_bin, ev_neg, neg_int, ev_cmp, ev_ix, ev_nott, not_bl, ev_tup, tupV_ok, tupM_ok, ev_lst, lstU_ok, lstM_ok, toDs_nil, toDs_cd, toDs_cf, Option.map_some, ev_dictT, ea_nil, ea_cons, ac_ok, ev_bi, bi_ok, ev_call, call_ok, ev_sl, sl_ok, eo_no, eo_so, so_ok, ev_get, get_br, get_dat, ev_attr, ev_isi, ev_ife, iteE_t, iteE_f, ev_andd, ev_orr, en_1, en_2, er_1, er_2, andU_t, andU_f, orU_t, orU_f, et_andd, et_orr, et_nott, notT_ok, et_cmp, et_var, et_isi, et_call, et_ix, et_chain, chT_ok, tru_bl, ent_1, ent_2, ert_1, ert_2, andT_t, andT_f, orT_t, orT_f, ev_lc, it_fr, it_dl, it_dt, it_br, rai_f, es_it, es_rg, u1_ok, u2_ok, v1_ok, v2_ok, optR_some, blR_some, bin_add, bin_sub, cmp_lt, cmp_le, cmp_gt, cmp_ge, cmp_eq, cmp_ne, cmp_eqs, cmp_nes, bi_int, bi_lenl, bi_lent, bi_lenb, bi_lenf, List.getElem?_cons_zero, List.getElem?_cons_succ, List.set_cons_zero, List.set_cons_succ, List.cons_append, List.nil_append, List.map_cons, List.map_nil, List.replicate, List.length_map, ixl_0, ixt_0, ixb_0, ixf_0, ixl_1, ixt_1, ixb_1, ixf_1, ixl_2, ixt_2, ixb_2, ixf_2, ixl_3, ixt_3, ixb_3, ixf_3, ixl_4, ixt_4, ixb_4, ixf_4, ixl_5, ixt_5, ixb_5, ixf_5, ixl_6, ixt_6, ixb_6, ixf_6, ixl_7, ixt_7, ixb_7, ixf_7, ixl_8, ixt_8, ixb_8, ixf_8, ixl_9, ixt_9, ixb_9, ixf_9, ixl_10, ixt_10, ixb_10, ixf_10, ixl_11, ixt_11, ixb_11, ixf_11, ixl_12, ixt_12, ixb_12, ixf_12, ixl_13, ixt_13, ixb_13, ixf_13, ixl_14, ixt_14, ixb_14, ixf_14, ixl_15, ixt_15, ixb_15, ixf_15, c1, c8, cd, p12, c0, hne, ex', bin_mod hne]; rfl, hm⟩
        · exact ⟨x.1, _, by simp [f_l_pair, b_l_pair, mk_m, rb_nil, rb_cons, rb_frz, frz_own, frz_dat, frz_no, nxt_nx, nxt_rt, nxt_er, nxt_bk, nxt_ct, rs_asg, asg_dat, asg_fr, asg_er, rs_app, app_dat, app_fr, rs_setL, set_dat, rs_iff, iteS_t, iteS_f, rs_for, for_ok, ef_rg, rs_ret, ret_dat, ret_fr, ret_er, rs_retV, retV_dat, retV_own, rs_retN, rs_brk, rs_cnt, rs_pas, rn_expr, drop_ok, drop_er, rs_rais, rs_tri, tri_nx, tri_rt, endF_rt, endF_nx, endF_er, ev_var, var_dat, var_own, ev_int, ev_str, ev_bl, ev_non, ev_bin, ev_neg, neg_int, ev_cmp, ev_ix, ev_nott, not_bl, ev_tup, tupV_ok, tupM_ok, ev_lst, lstU_ok, lstM_ok, toDs_nil, toDs_cd, toDs_cf, Option.map_some, ev_dictT, ea_nil, ea_cons, ac_ok, ev_bi, bi_ok, ev_call, call_ok, ev_sl, sl_ok, eo_no, eo_so, so_ok, ev_get, get_br, get_dat, ev_attr, ev_isi, ev_ife, iteE_t, iteE_f, ev_andd, ev_orr, en_1, en_2, er_1, er_2, andU_t, andU_f, orU_t, orU_f, et_andd, et_orr, et_nott, notT_ok, et_cmp, et_var, et_isi, et_call, et_ix, et_chain, chT_ok, tru_bl, ent_1, ent_2, ert_1, ert_2, andT_t, andT_f, orT_t, orT_f, ev_lc, it_fr, it_dl, it_dt, it_br, rai_f, es_it, es_rg, u1_ok, u2_ok, v1_ok, v2_ok, optR_some, blR_some, bin_add, bin_sub, cmp_lt, cmp_le, cmp_gt, cmp_ge, cmp_eq, cmp_ne, cmp_eqs, cmp_nes, bi_int, bi_lenl, bi_lent, bi_lenb, bi_lenf, List.getElem?_cons_zero, List.getElem?_cons_succ, List.set_cons_zero, List.set_cons_succ, List.cons_append, List.nil_append, List.map_cons, List.map_nil, List.replicate, List.length_map, ixl_0, ixt_0, ixb_0, ixf_0, ixl_1, ixt_1, ixb_1, ixf_1, ixl_2, ixt_2, ixb_2, ixf_2, ixl_3, ixt_3, ixb_3, ixf_3, ixl_4, ixt_4, ixb_4, ixf_4, ixl_5, ixt_5, ixb_5, ixf_5, ixl_6, ixt_6, ixb_6, ixf_6, ixl_7, ixt_7, ixb_7, ixf_7, ixl_8, ixt_8, ixb_8, ixf_8, ixl_9, ixt_9, ixb_9, ixf_9, ixl_10, ixt_10, ixb_10, ixf_10, ixl_11, ixt_11, ixb_11, ixf_11, ixl_12, ixt_12, ixb_12, ixf_12, ixl_13, ixt_13, ixb_13, ixf_13, ixl_14, ixt_14, ixb_14, ixf_14, ixl_15, ixt_15, ixb_15, ixf_15, c1, c7, c8, cd, p12, hne, ex', bin_mod hne]; rfl, hm⟩
        · exact ⟨x.1, _, by simp [f_l_pair, b_l_pair, mk_m, rb_nil, rb_cons, rb_frz, frz_own, frz_dat, frz_no, nxt_nx, nxt_rt, nxt_er, nxt_bk, nxt_ct, rs_asg, asg_dat, asg_fr, asg_er, rs_app, app_dat, app_fr, rs_setL, set_dat, rs_iff, iteS_t, iteS_f, rs_for, for_ok, ef_rg, rs_ret, ret_dat, ret_fr, ret_er, rs_retV, retV_dat, retV_own, rs_retN, rs_brk, rs_cnt, rs_pas, rn_expr, drop_ok, drop_er, rs_rais, rs_tri, tri_nx, tri_rt, endF_rt, endF_nx, endF_er, ev_var, var_dat, var_own, ev_int, ev_str, ev_bl, ev_non, ev_bin, ev_neg, neg_int, ev_cmp, ev_ix, ev_nott, not_bl, ev_tup, tupV_ok, tupM_ok, ev_lst, lstU_ok, lstM_ok, toDs_nil, toDs_cd, toDs_cf, Option.map_some, ev_dictT, ea_nil, ea_cons, ac_ok, ev_bi, bi_ok, ev_call, call_ok, ev_sl, sl_ok, eo_no, eo_so, so_ok, ev_get, get_br, get_dat, ev_attr, ev_isi, ev_ife, iteE_t, iteE_f, ev_andd, ev_orr, en_1, en_2, er_1, er_2, andU_t, andU_f, orU_t, orU_f, et_andd, et_orr, et_nott, notT_ok, et_cmp, et_var, et_isi, et_call, et_ix, et_chain, chT_ok, tru_bl, ent_1, ent_2, ert_1, ert_2, andT_t, andT_f, orT_t, orT_f, ev_lc, it_fr, it_dl, it_dt, it_br, rai_f, es_it, es_rg, u1_ok, u2_ok, v1_ok, v2_ok, optR_some, blR_some, bin_add, bin_sub, cmp_lt, cmp_le, cmp_gt, cmp_ge, cmp_eq, cmp_ne, cmp_eqs, cmp_nes, bi_int, bi_lenl, bi_lent, bi_lenb, bi_lenf, List.getElem?_cons_zero, List.getElem?_cons_succ, List.set_cons_zero, List.set_cons_succ, List.cons_append, List.nil_append, List.map_cons, List.map_nil, List.replicate, List.length_map, ixl_0, ixt_0, ixb_0, ixf_0, ixl_1, ixt_1, ixb_1, ixf_1, ixl_2, ixt_2, ixb_2, ixf_2, ixl_3, ixt_3, ixb_3, ixf_3, ixl_4, ixt_4, ixb_4, ixf_4, ixl_5, ixt_5, ixb_5, ixf_5, ixl_6, ixt_6, ixb_6, ixf_6, ixl_7, ixt_7, ixb_7, ixf_7, ixl_8, ixt_8, ixb_8, ixf_8, ixl_9, ixt_9, ixb_9, ixf_9, ixl_10, ixt_10, ixb_10, ixf_10, ixl_11, ixt_11, ixb_11, ixf_11, ixl_12, ixt_12, ixb_12, ixf_12, ixl_13, ixt_13, ixb_13, ixf_13, ixl_14, ixt_14, ixb_14, ixf_14, ixl_15, ixt_15, ixb_15, ixf_15, c1, c7, c8, cd, p12, c0, hne, ex', bin_mod hne]; rfl, hm⟩
  obtain ⟨p, n, e1, e2⟩ := num
  exact ⟨(p, n), e1, e2⟩
theorem pairs_spec (ns : List Int) (s : Int) (cnt : Nat) (h1 : 1 ≤ s) (h3 : s ≤ 3) (hc : cnt < 100) : ∃ es : List Ent, f_l_pairs.m [.lst (ns.map D.int), .int s, .int cnt] = some (.ok (.fr (.l (es.map eD)))) ∧ Sized s es ∧ es.length = cnt := by
  have hr : ints62 (cnt : Int) = true := by unfold ints62; simp; omega
  obtain ⟨ρ', e, es, w4, w5, rfl, hd, hl⟩ := forL_inv (step := stepL (.n 4) (runB c_l_pairs L_l_pairs_1))
    (P := fun i ρ => ∃ (es : List Ent) (w4 w5 : Option LV), ρ = [some (.dat (.lst (ns.map D.int))), some (.dat (.int s)), some (.dat (.int cnt)), some (.own (.l (es.map eD))), w4, w5] ∧ Sized s es ∧ es.length = i)
    (ds := rangeD 0 cnt) (ρ := [some (.dat (.lst (ns.map D.int))), some (.dat (.int s)), some (.dat (.int cnt)), some (.own (.l [])), none, none])
    ⟨[], none, none, rfl, (fun _ h => nomatch h), rfl⟩ (by
      intro i d ρ hd ⟨es, w4, w5, hρ, hs, hi⟩
      obtain ⟨hlt, rfl⟩ := rng_get hd
      subst hρ
      rw [Int.zero_add]
      obtain ⟨c, ec⟩ := call_cell ns (1 + (i : Int)) (by omega)
      obtain ⟨xs, ed, dr⟩ := call_draws c [6, 4, 5, 5, 5, 2001, 2001, 2001, 9, 7, 10, 9] (by decide) (by decide)
      obtain ⟨d0, r, rfl, _, _, dr⟩ := drawn_cons dr
      obtain ⟨d1, r, rfl, _, _, dr⟩ := drawn_cons dr
      obtain ⟨d2, r, rfl, _, _, dr⟩ := drawn_cons dr
      obtain ⟨d3, r, rfl, _, _, dr⟩ := drawn_cons dr
      obtain ⟨d4, r, rfl, _, _, dr⟩ := drawn_cons dr
      obtain ⟨d5, r, rfl, _, _, dr⟩ := drawn_cons dr
      obtain ⟨d6, r, rfl, _, _, dr⟩ := drawn_cons dr
      obtain ⟨d7, r, rfl, _, _, dr⟩ := drawn_cons dr
      obtain ⟨d8, r, rfl, _, _, dr⟩ := drawn_cons dr
      obtain ⟨d9, r, rfl, _, _, dr⟩ := drawn_cons dr
      obtain ⟨d10, r, rfl, _, _, dr⟩ := drawn_cons dr
      obtain ⟨d11, r, rfl, _, _, dr⟩ := drawn_cons dr
      cases drawn_nil dr
      obtain ⟨e, ep, he⟩ := pair_spec d0 d1 d2 d3 d4 d5 d6 d7 d8 d9 d10 d11 s es h1 h3 hs (by omega)
      have ep' : callV f_l_pair [.dat (.lst [.int d0, .int d1, .int d2, .int d3, .int d4, .int d5, .int d6, .int d7, .int d8, .int d9, .int d10, .int d11]), .dat (.int s), .br (.l (es.map eD))] = some (.ok (.dat (eD e))) := callV_ok rfl ep rfl fun _ => flat_e e
      have hz : es.length < 16777216 := by omega
      simp only [List.map_cons, List.map_nil] at ed
      refine ⟨[some (.dat (.lst (ns.map D.int))), some (.dat (.int s)), some (.dat (.int cnt)), some (.own (.l ((es ++ [e]).map eD))), some (.dat (.int i)), some (.dat (.lst [.int d0, .int d1, .int d2, .int d3, .int d4, .int d5, .int d6, .int d7, .int d8, .int d9, .int d10, .int d11]))], .inl ?_, es ++ [e], _, _, rfl, ?_, by rw [List.length_append, hi]; rfl⟩
      · simp [stepL, setG, L_l_pairs_1, mk_m, rb_nil, rb_cons, rb_frz, frz_own, frz_dat, frz_no, nxt_nx, nxt_rt, nxt_er, nxt_bk, nxt_ct, rs_asg, asg_dat, asg_fr, asg_er, rs_app, app_dat, app_fr, rs_setL, set_dat, rs_iff, iteS_t, iteS_f, rs_for, for_ok, ef_rg, rs_ret, ret_dat, ret_fr, ret_er, rs_retV, retV_dat, retV_own, rs_retN, rs_brk, rs_cnt, rs_pas, rn_expr, drop_ok, drop_er, rs_rais, rs_tri, tri_nx, tri_rt, endF_rt, endF_nx, endF_er, ev_var, var_dat, var_own, ev_int, ev_str, ev_bl, ev_non, ev_bin, ev_neg, neg_int, ev_cmp, ev_ix, ev_nott, not_bl, ev_tup, tupV_ok, tupM_ok, ev_lst, lstU_ok, lstM_ok, toDs_nil, toDs_cd, toDs_cf, Option.map_some, ev_dictT, ea_nil, ea_cons, ac_ok, ev_bi, bi_ok, ev_call, call_ok, ev_sl, sl_ok, eo_no, eo_so, so_ok, ev_get, get_br, get_dat, ev_attr, ev_isi, ev_ife, iteE_t, iteE_f, ev_andd, ev_orr, en_1, en_2, er_1, er_2, andU_t, andU_f, orU_t, orU_f, et_andd, et_orr, et_nott, notT_ok, et_cmp, et_var, et_isi, et_call, et_ix, et_chain, chT_ok, tru_bl, ent_1, ent_2, ert_1, ert_2, andT_t, andT_f, orT_t, orT_f, ev_lc, it_fr, it_dl, it_dt, it_br, rai_f, es_it, es_rg, u1_ok, u2_ok, v1_ok, v2_ok, optR_some, blR_some, bin_add, bin_sub, cmp_lt, cmp_le, cmp_gt, cmp_ge, cmp_eq, cmp_ne, cmp_eqs, cmp_nes, bi_int, bi_lenl, bi_lent, bi_lenb, bi_lenf, List.getElem?_cons_zero, List.getElem?_cons_succ, List.set_cons_zero, List.set_cons_succ, List.cons_append, List.nil_append, List.map_cons, List.map_nil, List.replicate, List.length_map, T_l_pairs_0, T_l_pairs_1, T_l_pairs_2, ec, ed, ep', OV.d, hz]
      · intro e' h'
        rcases List.mem_append.mp h' with h' | h'
        · exact hs e' h'
        · rw [List.mem_singleton.mp h']; exact he)
  refine ⟨es, ?_, hd, by rw [hl, rangeD_len]⟩
  simp [f_l_pairs, b_l_pairs, mk_m, rb_nil, rb_cons, rb_frz, frz_own, frz_dat, frz_no, nxt_nx, nxt_rt, nxt_er, nxt_bk, nxt_ct, rs_asg, asg_dat, asg_fr, asg_er, rs_app, app_dat, app_fr, rs_setL, set_dat, rs_iff, iteS_t, iteS_f, rs_for, for_ok, ef_rg, rs_ret, ret_dat, ret_fr, ret_er, rs_retV, retV_dat, retV_own, rs_retN, rs_brk, rs_cnt, rs_pas, rn_expr, drop_ok, drop_er, rs_rais, rs_tri, tri_nx, tri_rt, endF_rt, endF_nx, endF_er, ev_var, var_dat, var_own, ev_int, ev_str, ev_bl, ev_non, ev_bin, ev_neg, neg_int, ev_cmp, ev_ix, ev_nott, not_bl, ev_tup, tupV_ok, tupM_ok, ev_lst, lstU_ok, lstM_ok, toDs_nil, toDs_cd, toDs_cf, Option.map_some, ev_dictT, ea_nil, ea_cons, ac_ok, ev_bi, bi_ok, ev_call, call_ok, ev_sl, sl_ok, eo_no, eo_so, so_ok, ev_get, get_br, get_dat, ev_attr, ev_isi, ev_ife, iteE_t, iteE_f, ev_andd, ev_orr, en_1, en_2, er_1, er_2, andU_t, andU_f, orU_t, orU_f, et_andd, et_orr, et_nott, notT_ok, et_cmp, et_var, et_isi, et_call, et_ix, et_chain, chT_ok, tru_bl, ent_1, ent_2, ert_1, ert_2, andT_t, andT_f, orT_t, orT_f, ev_lc, it_fr, it_dl, it_dt, it_br, rai_f, es_it, es_rg, u1_ok, u2_ok, v1_ok, v2_ok, optR_some, blR_some, bin_add, bin_sub, cmp_lt, cmp_le, cmp_gt, cmp_ge, cmp_eq, cmp_ne, cmp_eqs, cmp_nes, bi_int, bi_lenl, bi_lent, bi_lenb, bi_lenf, List.getElem?_cons_zero, List.getElem?_cons_succ, List.set_cons_zero, List.set_cons_succ, List.cons_append, List.nil_append, List.map_cons, List.map_nil, List.replicate, List.length_map, rg_1 hr, e]
theorem row_spec (es : List Ent) (hne : ∀ e ∈ es, e.1 ≠ []) (hl : es.length < 1000) : f_l_row.m [.lst (es.map eD)] = some (.ok (.fr (.l ((rowOf (sumA es)).map eD)))) := by
  obtain ⟨ρ', e, q1, q2, q3⟩ := sum_loop (C := c_l_row) (ρ := [some (.dat (.lst (es.map eD))), some (.own (.tT [] [])), none, none]) (b := L_l_row_1) (i := 1) (j := 2) (k := 3) (es := es) (by omega) rfl (by decide) (by simp) rfl
  have hf : ∀ js, evFor c_l_row (.it (.var 0)) js [some (.dat (.lst (es.map eD))), some (.own (.tT [] [])), none, none] = some (.ok (es.map eD)) := fun js => ef_var rfl rfl
  have hk : ∀ p ∈ (sumA es).map (·.1), p ≠ [] := fun p hp => by
    obtain ⟨e, he, rfl⟩ := List.mem_map.mp (sumA_keys es p hp)
    exact hne e he
  have hs : biV .sorted [.br (.tT (ksA (sumA es)) (vsA (sumA es)))] = some (.fr (.l ((sortP ((sumA es).map (·.1))).map pD))) := sorted_A rfl hk
  have hz : ((sortP ((sumA es).map (·.1))).map pD).length ≤ 16777216 := by
    have := sumA_len es
    rw [List.length_map, sortP, List.length_mergeSort, List.length_map]
    omega
  have hc := lc_ok hz (lc_rows (C := c_l_row) (ρ := ρ') (i := 1) (j := 2) (x := .br (.tT (ksA (sumA es)) (vsA (sumA es)))) (as := sumA es) (by rw [q2]; rfl) (by decide) (by rw [q1]; simp) rfl rfl rfl)
  simp [f_l_row, b_l_row, mk_m, rb_nil, rb_cons, rb_frz, frz_own, frz_dat, frz_no, nxt_nx, nxt_rt, nxt_er, nxt_bk, nxt_ct, rs_asg, asg_dat, asg_fr, asg_er, rs_app, app_dat, app_fr, rs_setL, set_dat, rs_iff, iteS_t, iteS_f, rs_for, for_ok, ef_rg, rs_ret, ret_dat, ret_fr, ret_er, rs_retV, retV_dat, retV_own, rs_retN, rs_brk, rs_cnt, rs_pas, rn_expr, drop_ok, drop_er, rs_rais, rs_tri, tri_nx, tri_rt, endF_rt, endF_nx, endF_er, ev_var, var_dat, var_own, ev_int, ev_str, ev_bl, ev_non, ev_bin, ev_neg, neg_int, ev_cmp, ev_ix, ev_nott, not_bl, ev_tup, tupV_ok, tupM_ok, ev_lst, lstU_ok, lstM_ok, toDs_nil, toDs_cd, toDs_cf, Option.map_some, ev_dictT, ea_nil, ea_cons, ac_ok, ev_bi, bi_ok, ev_call, call_ok, ev_sl, sl_ok, eo_no, eo_so, so_ok, ev_get, get_br, get_dat, ev_attr, ev_isi, ev_ife, iteE_t, iteE_f, ev_andd, ev_orr, en_1, en_2, er_1, er_2, andU_t, andU_f, orU_t, orU_f, et_andd, et_orr, et_nott, notT_ok, et_cmp, et_var, et_isi, et_call, et_ix, et_chain, chT_ok, tru_bl, ent_1, ent_2, ert_1, ert_2, andT_t, andT_f, orT_t, orT_f, ev_lc, it_fr, it_dl, it_dt, it_br, rai_f, es_it, es_rg, u1_ok, u2_ok, v1_ok, v2_ok, optR_some, blR_some, bin_add, bin_sub, cmp_lt, cmp_le, cmp_gt, cmp_ge, cmp_eq, cmp_ne, cmp_eqs, cmp_nes, bi_int, bi_lenl, bi_lent, bi_lenb, bi_lenf, List.getElem?_cons_zero, List.getElem?_cons_succ, List.set_cons_zero, List.set_cons_succ, List.cons_append, List.nil_append, List.map_cons, List.map_nil, List.replicate, List.length_map, hf, e, q2, hs, hc]
theorem row_of_sums_spec (as : List Ent) (hne : ∀ p ∈ as.map (·.1), p ≠ []) (hl : as.length < 1000) : f_row_of_sums.m [.dicT (ksA as) (vsA as)] = some (.ok (.fr (.l ((rowOf as).map eD)))) := by
  have hs : biV .sorted [.dat (.dicT (ksA as) (vsA as))] = some (.fr (.l ((sortP (as.map (·.1))).map pD))) := sorted_A rfl hne
  have hz : ((sortP (as.map (·.1))).map pD).length ≤ 16777216 := by
    rw [List.length_map, sortP, List.length_mergeSort, List.length_map]
    omega
  have hc := lc_ok hz (lc_rows (C := c_row_of_sums) (ρ := [some (.dat (.dicT (ksA as) (vsA as))), none]) (i := 0) (j := 1) (x := .dat (.dicT (ksA as) (vsA as))) (as := as) rfl (by decide) (by simp) rfl rfl rfl)
  simp [f_row_of_sums, b_row_of_sums, mk_m, rb_nil, rb_cons, rb_frz, frz_own, frz_dat, frz_no, nxt_nx, nxt_rt, nxt_er, nxt_bk, nxt_ct, rs_asg, asg_dat, asg_fr, asg_er, rs_app, app_dat, app_fr, rs_setL, set_dat, rs_iff, iteS_t, iteS_f, rs_for, for_ok, ef_rg, rs_ret, ret_dat, ret_fr, ret_er, rs_retV, retV_dat, retV_own, rs_retN, rs_brk, rs_cnt, rs_pas, rn_expr, drop_ok, drop_er, rs_rais, rs_tri, tri_nx, tri_rt, endF_rt, endF_nx, endF_er, ev_var, var_dat, var_own, ev_int, ev_str, ev_bl, ev_non, ev_bin, ev_neg, neg_int, ev_cmp, ev_ix, ev_nott, not_bl, ev_tup, tupV_ok, tupM_ok, ev_lst, lstU_ok, lstM_ok, toDs_nil, toDs_cd, toDs_cf, Option.map_some, ev_dictT, ea_nil, ea_cons, ac_ok, ev_bi, bi_ok, ev_call, call_ok, ev_sl, sl_ok, eo_no, eo_so, so_ok, ev_get, get_br, get_dat, ev_attr, ev_isi, ev_ife, iteE_t, iteE_f, ev_andd, ev_orr, en_1, en_2, er_1, er_2, andU_t, andU_f, orU_t, orU_f, et_andd, et_orr, et_nott, notT_ok, et_cmp, et_var, et_isi, et_call, et_ix, et_chain, chT_ok, tru_bl, ent_1, ent_2, ert_1, ert_2, andT_t, andT_f, orT_t, orT_f, ev_lc, it_fr, it_dl, it_dt, it_br, rai_f, es_it, es_rg, u1_ok, u2_ok, v1_ok, v2_ok, optR_some, blR_some, bin_add, bin_sub, cmp_lt, cmp_le, cmp_gt, cmp_ge, cmp_eq, cmp_ne, cmp_eqs, cmp_nes, bi_int, bi_lenl, bi_lent, bi_lenb, bi_lenf, List.getElem?_cons_zero, List.getElem?_cons_succ, List.set_cons_zero, List.set_cons_succ, List.cons_append, List.nil_append, List.map_cons, List.map_nil, List.replicate, List.length_map, hs, hc]
theorem cdim_nil : f_common_dimension.m [.lst []] = some (.ok (.dat (.int 0))) := by
  have hf : ∀ js, evFor c_common_dimension (.it (.var 0)) js [some (.dat (.lst [])), some (.dat (.int 0)), none, none] = some (.ok []) := fun js => ef_var rfl rfl
  simp [f_common_dimension, b_common_dimension, mk_m, rb_nil, rb_cons, rb_frz, frz_own, frz_dat, frz_no, nxt_nx, nxt_rt, nxt_er, nxt_bk, nxt_ct, rs_asg, asg_dat, asg_fr, asg_er, rs_app, app_dat, app_fr, rs_setL, set_dat, rs_iff, iteS_t, iteS_f, rs_for, for_ok, ef_rg, rs_ret, ret_dat, ret_fr, ret_er, rs_retV, retV_dat, retV_own, rs_retN, rs_brk, rs_cnt, rs_pas, rn_expr, drop_ok, drop_er, rs_rais, rs_tri, tri_nx, tri_rt, endF_rt, endF_nx, endF_er, ev_var, var_dat, var_own, ev_int, ev_str, ev_bl, ev_non, ev_bin, ev_neg, neg_int, ev_cmp, ev_ix, ev_nott, not_bl, ev_tup, tupV_ok, tupM_ok, ev_lst, lstU_ok, lstM_ok, toDs_nil, toDs_cd, toDs_cf, Option.map_some, ev_dictT, ea_nil, ea_cons, ac_ok, ev_bi, bi_ok, ev_call, call_ok, ev_sl, sl_ok, eo_no, eo_so, so_ok, ev_get, get_br, get_dat, ev_attr, ev_isi, ev_ife, iteE_t, iteE_f, ev_andd, ev_orr, en_1, en_2, er_1, er_2, andU_t, andU_f, orU_t, orU_f, et_andd, et_orr, et_nott, notT_ok, et_cmp, et_var, et_isi, et_call, et_ix, et_chain, chT_ok, tru_bl, ent_1, ent_2, ert_1, ert_2, andT_t, andT_f, orT_t, orT_f, ev_lc, it_fr, it_dl, it_dt, it_br, rai_f, es_it, es_rg, u1_ok, u2_ok, v1_ok, v2_ok, optR_some, blR_some, bin_add, bin_sub, cmp_lt, cmp_le, cmp_gt, cmp_ge, cmp_eq, cmp_ne, cmp_eqs, cmp_nes, bi_int, bi_lenl, bi_lent, bi_lenb, bi_lenf, List.getElem?_cons_zero, List.getElem?_cons_succ, List.set_cons_zero, List.set_cons_succ, List.cons_append, List.nil_append, List.map_cons, List.map_nil, List.replicate, List.length_map, hf, forL]
abbrev erMixed : Er := ⟨"MixedDimensions", ["word"], [.str "MixedDimensions"]⟩
abbrev erBad (k : Int) : Er := ⟨"BadPlace", ["index", "word"], [.int k, .str "BadPlace"]⟩
theorem cpd_spec (ps : List Pl) (hp : ∀ p ∈ ps, 1 ≤ p.length) : ((∃ s, ∀ p ∈ ps, p.length = s) ∧ ∃ d : Int, f_common_place_dimension.m [.lst [], .lst (ps.map pD)] = some (.ok (.dat (.int d)))) ∨ ((∃ p ∈ ps, ∃ q ∈ ps, p.length ≠ q.length) ∧ f_common_place_dimension.m [.lst [], .lst (ps.map pD)] = some (.error erMixed)) := by
  have c0 : callV f_common_dimension [.fr (.l [])] = some (.ok (.dat (.int 0))) := callV_ok rfl cdim_nil rfl fun z => nomatch z
  have c1 : callV f_common_dimension [.dat (.lst [])] = some (.ok (.dat (.int 0))) := callV_ok rfl cdim_nil rfl fun z => nomatch z
  have hf : ∀ js, evFor c_common_place_dimension (.it (.var 1)) js [some (.dat (.lst [])), some (.dat (.lst (ps.map pD))), some (.dat (.int 0)), none] = some (.ok (ps.map pD)) := fun js => ef_var rfl rfl
  have hm : ∀ ρ, erS (mkEr "MixedDimensions" [] "MixedDimensions") [] ρ = some (.er erMixed ρ) := fun _ => rfl
  rcases forL_out (step := stepL (.n 3) (runB c_common_place_dimension L_common_place_dimension_1)) (ds := ps.map pD) (ρ := [some (.dat (.lst [])), some (.dat (.lst (ps.map pD))), some (.dat (.int 0)), none])
    (P := fun i ρ => ∃ (f : Nat) (w : Option LV), ρ = [some (.dat (.lst [])), some (.dat (.lst (ps.map pD))), some (.dat (.int f)), w] ∧ (∀ p ∈ ps.take i, p.length = f) ∧ (f = 0 → i = 0) ∧ (f ≠ 0 → ∃ q ∈ ps, q.length = f))
    (R := fun i o => (∃ p ∈ ps, ∃ q ∈ ps, p.length ≠ q.length) ∧ ∃ ρ, o = .er erMixed ρ)
    ⟨0, none, rfl, (fun _ h => nomatch h), (fun _ => rfl), fun z => absurd rfl z⟩ (by
      intro i d ρ hd ⟨f, w, hρ, hs, h0, hq0⟩
      rw [List.getElem?_map] at hd
      cases he : ps[i]? with
      | none => rw [he] at hd; cases hd
      | some p =>
        rw [he] at hd
        cases hd
        subst hρ
        have hmem : p ∈ ps := List.mem_of_getElem? he
        have h1 := hp p hmem
        have t1 : ps.take (i + 1) = ps.take i ++ [p] := by rw [List.take_succ, he]; rfl
        by_cases hf0 : f = 0
        · subst hf0
          have := h0 rfl
          subst this
          refine .inl ⟨[some (.dat (.lst [])), some (.dat (.lst (ps.map pD))), some (.dat (.int p.length)), some (.dat (pD p))], .inl ?_, p.length, some (.dat (pD p)), rfl, ?_, by omega, fun _ => ⟨p, hmem, rfl⟩⟩
          · simp [stepL, setG, L_common_place_dimension_1, mk_m, rb_nil, rb_cons, rb_frz, frz_own, frz_dat, frz_no, nxt_nx, nxt_rt, nxt_er, nxt_bk, nxt_ct, rs_asg, asg_dat, asg_fr, asg_er, rs_app, app_dat, app_fr, rs_setL, set_dat, rs_iff, iteS_t, iteS_f, rs_for, for_ok, ef_rg, rs_ret, ret_dat, ret_fr, ret_er, rs_retV, retV_dat, retV_own, rs_retN, rs_brk, rs_cnt, rs_pas, rn_expr, drop_ok, drop_er, rs_rais, rs_tri, tri_nx, tri_rt, endF_rt, endF_nx, endF_er, ev_var, var_dat, var_own, ev_int, ev_str, ev_bl, ev_non, ev_bin, ev_neg, neg_int, ev_cmp, ev_ix, ev_nott, not_bl, ev_tup, tupV_ok, tupM_ok, ev_lst, lstU_ok, lstM_ok, toDs_nil, toDs_cd, toDs_cf, Option.map_some, ev_dictT, ea_nil, ea_cons, ac_ok, ev_bi, bi_ok, ev_call, call_ok, ev_sl, sl_ok, eo_no, eo_so, so_ok, ev_get, get_br, get_dat, ev_attr, ev_isi, ev_ife, iteE_t, iteE_f, ev_andd, ev_orr, en_1, en_2, er_1, er_2, andU_t, andU_f, orU_t, orU_f, et_andd, et_orr, et_nott, notT_ok, et_cmp, et_var, et_isi, et_call, et_ix, et_chain, chT_ok, tru_bl, ent_1, ent_2, ert_1, ert_2, andT_t, andT_f, orT_t, orT_f, ev_lc, it_fr, it_dl, it_dt, it_br, rai_f, es_it, es_rg, u1_ok, u2_ok, v1_ok, v2_ok, optR_some, blR_some, bin_add, bin_sub, cmp_lt, cmp_le, cmp_gt, cmp_ge, cmp_eq, cmp_ne, cmp_eqs, cmp_nes, bi_int, bi_lenl, bi_lent, bi_lenb, bi_lenf, List.getElem?_cons_zero, List.getElem?_cons_succ, List.set_cons_zero, List.set_cons_succ, List.cons_append, List.nil_append, List.map_cons, List.map_nil, List.replicate, List.length_map, pD]
          · rw [t1]; simp
        · by_cases hfl : p.length = f
          · refine .inl ⟨[some (.dat (.lst [])), some (.dat (.lst (ps.map pD))), some (.dat (.int p.length)), some (.dat (pD p))], .inl ?_, p.length, some (.dat (pD p)), rfl, ?_, by omega, fun _ => ⟨p, hmem, rfl⟩⟩
            · simp [stepL, setG, L_common_place_dimension_1, mk_m, rb_nil, rb_cons, rb_frz, frz_own, frz_dat, frz_no, nxt_nx, nxt_rt, nxt_er, nxt_bk, nxt_ct, rs_asg, asg_dat, asg_fr, asg_er, rs_app, app_dat, app_fr, rs_setL, set_dat, rs_iff, iteS_t, iteS_f, rs_for, for_ok, ef_rg, rs_ret, ret_dat, ret_fr, ret_er, rs_retV, retV_dat, retV_own, rs_retN, rs_brk, rs_cnt, rs_pas, rn_expr, drop_ok, drop_er, rs_rais, rs_tri, tri_nx, tri_rt, endF_rt, endF_nx, endF_er, ev_var, var_dat, var_own, ev_int, ev_str, ev_bl, ev_non, ev_bin, ev_neg, neg_int, ev_cmp, ev_ix, ev_nott, not_bl, ev_tup, tupV_ok, tupM_ok, ev_lst, lstU_ok, lstM_ok, toDs_nil, toDs_cd, toDs_cf, Option.map_some, ev_dictT, ea_nil, ea_cons, ac_ok, ev_bi, bi_ok, ev_call, call_ok, ev_sl, sl_ok, eo_no, eo_so, so_ok, ev_get, get_br, get_dat, ev_attr, ev_isi, ev_ife, iteE_t, iteE_f, ev_andd, ev_orr, en_1, en_2, er_1, er_2, andU_t, andU_f, orU_t, orU_f, et_andd, et_orr, et_nott, notT_ok, et_cmp, et_var, et_isi, et_call, et_ix, et_chain, chT_ok, tru_bl, ent_1, ent_2, ert_1, ert_2, andT_t, andT_f, orT_t, orT_f, ev_lc, it_fr, it_dl, it_dt, it_br, rai_f, es_it, es_rg, u1_ok, u2_ok, v1_ok, v2_ok, optR_some, blR_some, bin_add, bin_sub, cmp_lt, cmp_le, cmp_gt, cmp_ge, cmp_eq, cmp_ne, cmp_eqs, cmp_nes, bi_int, bi_lenl, bi_lent, bi_lenb, bi_lenf, List.getElem?_cons_zero, List.getElem?_cons_succ, List.set_cons_zero, List.set_cons_succ, List.cons_append, List.nil_append, List.map_cons, List.map_nil, List.replicate, List.length_map, pD, hf0, hfl]
            · rw [t1, hfl]
              intro q hq
              rcases List.mem_append.mp hq with hq | hq
              · exact hs q hq
              · rw [List.mem_singleton.mp hq, hfl]
          · refine .inr ⟨.er erMixed [some (.dat (.lst [])), some (.dat (.lst (ps.map pD))), some (.dat (.int f)), some (.dat (pD p))], ?_, rfl, ?_, _, rfl⟩
            · have hfl' : ¬ ((p.length : Int) = f) := by omega
              simp [stepL, setG, L_common_place_dimension_1, mk_m, rb_nil, rb_cons, rb_frz, frz_own, frz_dat, frz_no, nxt_nx, nxt_rt, nxt_er, nxt_bk, nxt_ct, rs_asg, asg_dat, asg_fr, asg_er, rs_app, app_dat, app_fr, rs_setL, set_dat, rs_iff, iteS_t, iteS_f, rs_for, for_ok, ef_rg, rs_ret, ret_dat, ret_fr, ret_er, rs_retV, retV_dat, retV_own, rs_retN, rs_brk, rs_cnt, rs_pas, rn_expr, drop_ok, drop_er, rs_rais, rs_tri, tri_nx, tri_rt, endF_rt, endF_nx, endF_er, ev_var, var_dat, var_own, ev_int, ev_str, ev_bl, ev_non, ev_bin, ev_neg, neg_int, ev_cmp, ev_ix, ev_nott, not_bl, ev_tup, tupV_ok, tupM_ok, ev_lst, lstU_ok, lstM_ok, toDs_nil, toDs_cd, toDs_cf, Option.map_some, ev_dictT, ea_nil, ea_cons, ac_ok, ev_bi, bi_ok, ev_call, call_ok, ev_sl, sl_ok, eo_no, eo_so, so_ok, ev_get, get_br, get_dat, ev_attr, ev_isi, ev_ife, iteE_t, iteE_f, ev_andd, ev_orr, en_1, en_2, er_1, er_2, andU_t, andU_f, orU_t, orU_f, et_andd, et_orr, et_nott, notT_ok, et_cmp, et_var, et_isi, et_call, et_ix, et_chain, chT_ok, tru_bl, ent_1, ent_2, ert_1, ert_2, andT_t, andT_f, orT_t, orT_f, ev_lc, it_fr, it_dl, it_dt, it_br, rai_f, es_it, es_rg, u1_ok, u2_ok, v1_ok, v2_ok, optR_some, blR_some, bin_add, bin_sub, cmp_lt, cmp_le, cmp_gt, cmp_ge, cmp_eq, cmp_ne, cmp_eqs, cmp_nes, bi_int, bi_lenl, bi_lent, bi_lenb, bi_lenf, List.getElem?_cons_zero, List.getElem?_cons_succ, List.set_cons_zero, List.set_cons_succ, List.cons_append, List.nil_append, List.map_cons, List.map_nil, List.replicate, List.length_map, pD, hf0, hfl, hfl', M_common_place_dimension_MixedDimensions, hm]
            · obtain ⟨q, hq, hql⟩ := hq0 hf0
              exact ⟨p, hmem, q, hq, by omega⟩) with ⟨ρ', e, f, w, rfl, hs, _, _⟩ | ⟨i, o, e, ho, hR, ρ', rfl⟩
  · refine .inl ⟨⟨f, fun p h => hs p (by rw [List.length_map, List.take_length]; exact h)⟩, f, ?_⟩
    simp [f_common_place_dimension, b_common_place_dimension, mk_m, rb_nil, rb_cons, rb_frz, frz_own, frz_dat, frz_no, nxt_nx, nxt_rt, nxt_er, nxt_bk, nxt_ct, rs_asg, asg_dat, asg_fr, asg_er, rs_app, app_dat, app_fr, rs_setL, set_dat, rs_iff, iteS_t, iteS_f, rs_for, for_ok, ef_rg, rs_ret, ret_dat, ret_fr, ret_er, rs_retV, retV_dat, retV_own, rs_retN, rs_brk, rs_cnt, rs_pas, rn_expr, drop_ok, drop_er, rs_rais, rs_tri, tri_nx, tri_rt, endF_rt, endF_nx, endF_er, ev_var, var_dat, var_own, ev_int, ev_str, ev_bl, ev_non, ev_bin, ev_neg, neg_int, ev_cmp, ev_ix, ev_nott, not_bl, ev_tup, tupV_ok, tupM_ok, ev_lst, lstU_ok, lstM_ok, toDs_nil, toDs_cd, toDs_cf, Option.map_some, ev_dictT, ea_nil, ea_cons, ac_ok, ev_bi, bi_ok, ev_call, call_ok, ev_sl, sl_ok, eo_no, eo_so, so_ok, ev_get, get_br, get_dat, ev_attr, ev_isi, ev_ife, iteE_t, iteE_f, ev_andd, ev_orr, en_1, en_2, er_1, er_2, andU_t, andU_f, orU_t, orU_f, et_andd, et_orr, et_nott, notT_ok, et_cmp, et_var, et_isi, et_call, et_ix, et_chain, chT_ok, tru_bl, ent_1, ent_2, ert_1, ert_2, andT_t, andT_f, orT_t, orT_f, ev_lc, it_fr, it_dl, it_dt, it_br, rai_f, es_it, es_rg, u1_ok, u2_ok, v1_ok, v2_ok, optR_some, blR_some, bin_add, bin_sub, cmp_lt, cmp_le, cmp_gt, cmp_ge, cmp_eq, cmp_ne, cmp_eqs, cmp_nes, bi_int, bi_lenl, bi_lent, bi_lenb, bi_lenf, List.getElem?_cons_zero, List.getElem?_cons_succ, List.set_cons_zero, List.set_cons_succ, List.cons_append, List.nil_append, List.map_cons, List.map_nil, List.replicate, List.length_map, T_common_place_dimension_0, c0, c1, hf, e]
  · refine .inr ⟨hR, ?_⟩
    simp [f_common_place_dimension, b_common_place_dimension, mk_m, rb_nil, rb_cons, rb_frz, frz_own, frz_dat, frz_no, nxt_nx, nxt_rt, nxt_er, nxt_bk, nxt_ct, rs_asg, asg_dat, asg_fr, asg_er, rs_app, app_dat, app_fr, rs_setL, set_dat, rs_iff, iteS_t, iteS_f, rs_for, for_ok, ef_rg, rs_ret, ret_dat, ret_fr, ret_er, rs_retV, retV_dat, retV_own, rs_retN, rs_brk, rs_cnt, rs_pas, rn_expr, drop_ok, drop_er, rs_rais, rs_tri, tri_nx, tri_rt, endF_rt, endF_nx, endF_er, ev_var, var_dat, var_own, ev_int, ev_str, ev_bl, ev_non, ev_bin, ev_neg, neg_int, ev_cmp, ev_ix, ev_nott, not_bl, ev_tup, tupV_ok, tupM_ok, ev_lst, lstU_ok, lstM_ok, toDs_nil, toDs_cd, toDs_cf, Option.map_some, ev_dictT, ea_nil, ea_cons, ac_ok, ev_bi, bi_ok, ev_call, call_ok, ev_sl, sl_ok, eo_no, eo_so, so_ok, ev_get, get_br, get_dat, ev_attr, ev_isi, ev_ife, iteE_t, iteE_f, ev_andd, ev_orr, en_1, en_2, er_1, er_2, andU_t, andU_f, orU_t, orU_f, et_andd, et_orr, et_nott, notT_ok, et_cmp, et_var, et_isi, et_call, et_ix, et_chain, chT_ok, tru_bl, ent_1, ent_2, ert_1, ert_2, andT_t, andT_f, orT_t, orT_f, ev_lc, it_fr, it_dl, it_dt, it_br, rai_f, es_it, es_rg, u1_ok, u2_ok, v1_ok, v2_ok, optR_some, blR_some, bin_add, bin_sub, cmp_lt, cmp_le, cmp_gt, cmp_ge, cmp_eq, cmp_ne, cmp_eqs, cmp_nes, bi_int, bi_lenl, bi_lent, bi_lenb, bi_lenf, List.getElem?_cons_zero, List.getElem?_cons_succ, List.set_cons_zero, List.set_cons_succ, List.cons_append, List.nil_append, List.map_cons, List.map_nil, List.replicate, List.length_map, T_common_place_dimension_0, c0, c1, hf, e]
def Good (e : Ent) : Prop := 1 ≤ e.1.length ∧ e.1.length ≤ 3
/-- the first bad one stands at k -/
def BadAt (es : List Ent) (k : Nat) : Prop := (∀ j e, j < k → es[j]? = some e → Good e) ∧ ∃ e, es[k]? = some e ∧ ¬ Good e
theorem badAt_eq {es : List Ent} {k m : Nat} (h : BadAt es k) (h' : BadAt es m) : k = m := by
  obtain ⟨a, e, b, c⟩ := h
  obtain ⟨a', e', b', c'⟩ := h'
  rcases Nat.lt_trichotomy k m with z | z | z
  · exact absurd (a' k e z b) c
  · exact z
  · exact absurd (a m e' z b') c'
def AllGood (es : List Ent) : Prop := ∀ e ∈ es, Good e
def Mixed (es : List Ent) : Prop := ∃ e ∈ es, ∃ f ∈ es, e.1.length ≠ f.1.length
def Alike (es : List Ent) : Prop := ∃ s, ∀ e ∈ es, e.1.length = s
theorem good_ne {es : List Ent} (h : AllGood es) : ∀ e ∈ es, e.1 ≠ [] := fun e he z => by
  have := (h e he).1
  rw [z] at this
  simp at this
theorem badAt_all {es : List Ent} {k : Nat} (h : BadAt es k) (h' : AllGood es) : False := by
  obtain ⟨_, e, b, c⟩ := h
  exact c (h' e (List.mem_of_getElem? b))
theorem all_of {es : List Ent} (h : ∀ j e, j < es.length → es[j]? = some e → Good e) : AllGood es := fun e he => by
  obtain ⟨i, hi, rfl⟩ := List.mem_iff_getElem.mp he
  exact h i _ hi (List.getElem?_eq_getElem hi)
theorem ent_at {es : List Ent} {i : Nat} {e : Ent} (he : es[i]? = some e) : ixW (.dat (.lst (es.map eD))) (.dat (.int i)) = some (.dat (.tup [pD e.1, .int e.2])) := ix_l (by rw [DE.atI_nat, List.getElem?_map, he]; rfl)
theorem len_p (p : Pl) : biV .len [.dat (pD p)] = some (.dat (.int p.length)) := by
  show some (RV.dat (.int ((p.map D.int).length))) = _
  rw [List.length_map]
theorem make_row_spec (es : List Ent) (hl : es.length < 1000) : (∃ k, BadAt es k ∧ f_make_row.m [.lst (es.map eD)] = some (.error (erBad k))) ∨ (AllGood es ∧ Mixed es ∧ f_make_row.m [.lst (es.map eD)] = some (.error erMixed)) ∨ (AllGood es ∧ Alike es ∧ f_make_row.m [.lst (es.map eD)] = some (.ok (.fr (.l ((rowOf (sumA es)).map eD))))) := by
  have hr : ints62 (es.length : Int) = true := by unfold ints62; simp; omega
  have hb : ∀ (k : Int) ρ, erS (mkEr "BadPlace" ["index"] "BadPlace") [.dat (.int k)] ρ = some (.er (erBad k) ρ) := fun _ _ => rfl
  rcases forL_out (step := stepL (.n 1) (runB c_make_row L_make_row_1)) (ds := rangeD 0 es.length) (ρ := [some (.dat (.lst (es.map eD))), none, none, none, none, none])
    (P := fun i ρ => ∃ w : Option LV, ρ = [some (.dat (.lst (es.map eD))), w, none, none, none, none] ∧ ∀ j e, j < i → es[j]? = some e → Good e)
    (R := fun i o => BadAt es i ∧ ∃ ρ, o = .er (erBad i) ρ)
    ⟨none, rfl, fun _ _ h => absurd h (by omega)⟩ (by
      intro i d ρ hd ⟨w, hρ, hg⟩
      obtain ⟨hlt, rfl⟩ := rng_get hd
      subst hρ
      rw [Int.zero_add]
      have he : es[i]? = some es[i] := List.getElem?_eq_getElem hlt
      have hx := ent_at he
      generalize es[i] = e at he hx
      by_cases h1 : 1 ≤ e.1.length
      · by_cases h2 : e.1.length ≤ 3
        · refine .inl ⟨[some (.dat (.lst (es.map eD))), some (.dat (.int i)), none, none, none, none], .inl ?_, some (.dat (.int i)), rfl, fun j f hj hf => ?_⟩
          · have h1' : (1 : Int) ≤ e.1.length := by omega
            have h2' : (e.1.length : Int) ≤ 3 := by omega
            simp [stepL, setG, L_make_row_1, mk_m, rb_nil, rb_cons, rb_frz, frz_own, frz_dat, frz_no, nxt_nx, nxt_rt, nxt_er, nxt_bk, nxt_ct, rs_asg, asg_dat, asg_fr, asg_er, rs_app, app_dat, app_fr, rs_setL, set_dat, rs_iff, iteS_t, iteS_f, rs_for, for_ok, ef_rg, rs_ret, ret_dat, ret_fr, ret_er, rs_retV, retV_dat, retV_own, rs_retN, rs_brk, rs_cnt, rs_pas, rn_expr, drop_ok, drop_er, rs_rais, rs_tri, tri_nx, tri_rt, endF_rt, endF_nx, endF_er, ev_var, var_dat, var_own, ev_int, ev_str, ev_bl, ev_non, ev_bin, ev_neg, neg_int, ev_cmp, ev_ix, ev_nott, not_bl, ev_tup, tupV_ok, tupM_ok, ev_lst, lstU_ok, lstM_ok, toDs_nil, toDs_cd, toDs_cf, Option.map_some, ev_dictT, ea_nil, ea_cons, ac_ok, ev_bi, bi_ok, ev_call, call_ok, ev_sl, sl_ok, eo_no, eo_so, so_ok, ev_get, get_br, get_dat, ev_attr, ev_isi, ev_ife, iteE_t, iteE_f, ev_andd, ev_orr, en_1, en_2, er_1, er_2, andU_t, andU_f, orU_t, orU_f, et_andd, et_orr, et_nott, notT_ok, et_cmp, et_var, et_isi, et_call, et_ix, et_chain, chT_ok, tru_bl, ent_1, ent_2, ert_1, ert_2, andT_t, andT_f, orT_t, orT_f, ev_lc, it_fr, it_dl, it_dt, it_br, rai_f, es_it, es_rg, u1_ok, u2_ok, v1_ok, v2_ok, optR_some, blR_some, bin_add, bin_sub, cmp_lt, cmp_le, cmp_gt, cmp_ge, cmp_eq, cmp_ne, cmp_eqs, cmp_nes, bi_int, bi_lenl, bi_lent, bi_lenb, bi_lenf, List.getElem?_cons_zero, List.getElem?_cons_succ, List.set_cons_zero, List.set_cons_succ, List.cons_append, List.nil_append, List.map_cons, List.map_nil, List.replicate, List.length_map, ixl_0, ixt_0, ixb_0, ixf_0, ixl_1, ixt_1, ixb_1, ixf_1, ixl_2, ixt_2, ixb_2, ixf_2, ixl_3, ixt_3, ixb_3, ixf_3, ixl_4, ixt_4, ixb_4, ixf_4, ixl_5, ixt_5, ixb_5, ixf_5, ixl_6, ixt_6, ixb_6, ixf_6, ixl_7, ixt_7, ixb_7, ixf_7, ixl_8, ixt_8, ixb_8, ixf_8, ixl_9, ixt_9, ixb_9, ixf_9, ixl_10, ixt_10, ixb_10, ixf_10, ixl_11, ixt_11, ixb_11, ixf_11, ixl_12, ixt_12, ixb_12, ixf_12, ixl_13, ixt_13, ixb_13, ixf_13, ixl_14, ixt_14, ixb_14, ixf_14, ixl_15, ixt_15, ixb_15, ixf_15, hx, len_p, h1, h2, h1', h2']
          · rcases Nat.lt_or_ge j i with z | z
            · exact hg j f z hf
            · have : j = i := by omega
              subst this
              rw [he] at hf
              cases hf
              exact ⟨h1, h2⟩
        · refine .inr ⟨.er (erBad i) [some (.dat (.lst (es.map eD))), some (.dat (.int i)), none, none, none, none], ?_, rfl, ⟨hg, e, he, fun z => h2 z.2⟩, _, rfl⟩
          have h1' : (1 : Int) ≤ e.1.length := by omega
          have h2' : ¬ (e.1.length : Int) ≤ 3 := by omega
          simp [stepL, setG, L_make_row_1, mk_m, rb_nil, rb_cons, rb_frz, frz_own, frz_dat, frz_no, nxt_nx, nxt_rt, nxt_er, nxt_bk, nxt_ct, rs_asg, asg_dat, asg_fr, asg_er, rs_app, app_dat, app_fr, rs_setL, set_dat, rs_iff, iteS_t, iteS_f, rs_for, for_ok, ef_rg, rs_ret, ret_dat, ret_fr, ret_er, rs_retV, retV_dat, retV_own, rs_retN, rs_brk, rs_cnt, rs_pas, rn_expr, drop_ok, drop_er, rs_rais, rs_tri, tri_nx, tri_rt, endF_rt, endF_nx, endF_er, ev_var, var_dat, var_own, ev_int, ev_str, ev_bl, ev_non, ev_bin, ev_neg, neg_int, ev_cmp, ev_ix, ev_nott, not_bl, ev_tup, tupV_ok, tupM_ok, ev_lst, lstU_ok, lstM_ok, toDs_nil, toDs_cd, toDs_cf, Option.map_some, ev_dictT, ea_nil, ea_cons, ac_ok, ev_bi, bi_ok, ev_call, call_ok, ev_sl, sl_ok, eo_no, eo_so, so_ok, ev_get, get_br, get_dat, ev_attr, ev_isi, ev_ife, iteE_t, iteE_f, ev_andd, ev_orr, en_1, en_2, er_1, er_2, andU_t, andU_f, orU_t, orU_f, et_andd, et_orr, et_nott, notT_ok, et_cmp, et_var, et_isi, et_call, et_ix, et_chain, chT_ok, tru_bl, ent_1, ent_2, ert_1, ert_2, andT_t, andT_f, orT_t, orT_f, ev_lc, it_fr, it_dl, it_dt, it_br, rai_f, es_it, es_rg, u1_ok, u2_ok, v1_ok, v2_ok, optR_some, blR_some, bin_add, bin_sub, cmp_lt, cmp_le, cmp_gt, cmp_ge, cmp_eq, cmp_ne, cmp_eqs, cmp_nes, bi_int, bi_lenl, bi_lent, bi_lenb, bi_lenf, List.getElem?_cons_zero, List.getElem?_cons_succ, List.set_cons_zero, List.set_cons_succ, List.cons_append, List.nil_append, List.map_cons, List.map_nil, List.replicate, List.length_map, ixl_0, ixt_0, ixb_0, ixf_0, ixl_1, ixt_1, ixb_1, ixf_1, ixl_2, ixt_2, ixb_2, ixf_2, ixl_3, ixt_3, ixb_3, ixf_3, ixl_4, ixt_4, ixb_4, ixf_4, ixl_5, ixt_5, ixb_5, ixf_5, ixl_6, ixt_6, ixb_6, ixf_6, ixl_7, ixt_7, ixb_7, ixf_7, ixl_8, ixt_8, ixb_8, ixf_8, ixl_9, ixt_9, ixb_9, ixf_9, ixl_10, ixt_10, ixb_10, ixf_10, ixl_11, ixt_11, ixb_11, ixf_11, ixl_12, ixt_12, ixb_12, ixf_12, ixl_13, ixt_13, ixb_13, ixf_13, ixl_14, ixt_14, ixb_14, ixf_14, ixl_15, ixt_15, ixb_15, ixf_15, hx, len_p, h1, h2, h1', h2', M_make_row_BadPlace, hb]
      · refine .inr ⟨.er (erBad i) [some (.dat (.lst (es.map eD))), some (.dat (.int i)), none, none, none, none], ?_, rfl, ⟨hg, e, he, fun z => h1 z.1⟩, _, rfl⟩
        have h1' : ¬ (1 : Int) ≤ e.1.length := by omega
        simp [stepL, setG, L_make_row_1, mk_m, rb_nil, rb_cons, rb_frz, frz_own, frz_dat, frz_no, nxt_nx, nxt_rt, nxt_er, nxt_bk, nxt_ct, rs_asg, asg_dat, asg_fr, asg_er, rs_app, app_dat, app_fr, rs_setL, set_dat, rs_iff, iteS_t, iteS_f, rs_for, for_ok, ef_rg, rs_ret, ret_dat, ret_fr, ret_er, rs_retV, retV_dat, retV_own, rs_retN, rs_brk, rs_cnt, rs_pas, rn_expr, drop_ok, drop_er, rs_rais, rs_tri, tri_nx, tri_rt, endF_rt, endF_nx, endF_er, ev_var, var_dat, var_own, ev_int, ev_str, ev_bl, ev_non, ev_bin, ev_neg, neg_int, ev_cmp, ev_ix, ev_nott, not_bl, ev_tup, tupV_ok, tupM_ok, ev_lst, lstU_ok, lstM_ok, toDs_nil, toDs_cd, toDs_cf, Option.map_some, ev_dictT, ea_nil, ea_cons, ac_ok, ev_bi, bi_ok, ev_call, call_ok, ev_sl, sl_ok, eo_no, eo_so, so_ok, ev_get, get_br, get_dat, ev_attr, ev_isi, ev_ife, iteE_t, iteE_f, ev_andd, ev_orr, en_1, en_2, er_1, er_2, andU_t, andU_f, orU_t, orU_f, et_andd, et_orr, et_nott, notT_ok, et_cmp, et_var, et_isi, et_call, et_ix, et_chain, chT_ok, tru_bl, ent_1, ent_2, ert_1, ert_2, andT_t, andT_f, orT_t, orT_f, ev_lc, it_fr, it_dl, it_dt, it_br, rai_f, es_it, es_rg, u1_ok, u2_ok, v1_ok, v2_ok, optR_some, blR_some, bin_add, bin_sub, cmp_lt, cmp_le, cmp_gt, cmp_ge, cmp_eq, cmp_ne, cmp_eqs, cmp_nes, bi_int, bi_lenl, bi_lent, bi_lenb, bi_lenf, List.getElem?_cons_zero, List.getElem?_cons_succ, List.set_cons_zero, List.set_cons_succ, List.cons_append, List.nil_append, List.map_cons, List.map_nil, List.replicate, List.length_map, ixl_0, ixt_0, ixb_0, ixf_0, ixl_1, ixt_1, ixb_1, ixf_1, ixl_2, ixt_2, ixb_2, ixf_2, ixl_3, ixt_3, ixb_3, ixf_3, ixl_4, ixt_4, ixb_4, ixf_4, ixl_5, ixt_5, ixb_5, ixf_5, ixl_6, ixt_6, ixb_6, ixf_6, ixl_7, ixt_7, ixb_7, ixf_7, ixl_8, ixt_8, ixb_8, ixf_8, ixl_9, ixt_9, ixb_9, ixf_9, ixl_10, ixt_10, ixb_10, ixf_10, ixl_11, ixt_11, ixb_11, ixf_11, ixl_12, ixt_12, ixb_12, ixf_12, ixl_13, ixt_13, ixb_13, ixf_13, ixl_14, ixt_14, ixb_14, ixf_14, ixl_15, ixt_15, ixb_15, ixf_15, hx, len_p, h1, h1', M_make_row_BadPlace, hb]) with ⟨ρ', e, w, rfl, hg⟩ | ⟨i, o, e, ho, hR, ρ', rfl⟩
  · rw [rangeD_len] at hg
    have ag := all_of hg
    have hlc := lc_ok (ds := es.map eD) (by rw [List.length_map]; omega) (compL_of (step := turnL (.n 2) (evIf c_make_row .no) (evE c_make_row (.ix (.var 2) (.int 0))) [some (.dat (.lst (es.map eD))), w, none, none, none, none]) (g := eD) (h := fun e => pD e.1) (xs := es) fun e _ => turn_no (x := .dat (pD e.1)) (ρ' := [some (.dat (.lst (es.map eD))), w, some (.dat (.tup [pD e.1, .int e.2])), none, none, none]) rfl (by simp [mk_m, rb_nil, rb_cons, rb_frz, frz_own, frz_dat, frz_no, nxt_nx, nxt_rt, nxt_er, nxt_bk, nxt_ct, rs_asg, asg_dat, asg_fr, asg_er, rs_app, app_dat, app_fr, rs_setL, set_dat, rs_iff, iteS_t, iteS_f, rs_for, for_ok, ef_rg, rs_ret, ret_dat, ret_fr, ret_er, rs_retV, retV_dat, retV_own, rs_retN, rs_brk, rs_cnt, rs_pas, rn_expr, drop_ok, drop_er, rs_rais, rs_tri, tri_nx, tri_rt, endF_rt, endF_nx, endF_er, ev_var, var_dat, var_own, ev_int, ev_str, ev_bl, ev_non, ev_bin, ev_neg, neg_int, ev_cmp, ev_ix, ev_nott, not_bl, ev_tup, tupV_ok, tupM_ok, ev_lst, lstU_ok, lstM_ok, toDs_nil, toDs_cd, toDs_cf, Option.map_some, ev_dictT, ea_nil, ea_cons, ac_ok, ev_bi, bi_ok, ev_call, call_ok, ev_sl, sl_ok, eo_no, eo_so, so_ok, ev_get, get_br, get_dat, ev_attr, ev_isi, ev_ife, iteE_t, iteE_f, ev_andd, ev_orr, en_1, en_2, er_1, er_2, andU_t, andU_f, orU_t, orU_f, et_andd, et_orr, et_nott, notT_ok, et_cmp, et_var, et_isi, et_call, et_ix, et_chain, chT_ok, tru_bl, ent_1, ent_2, ert_1, ert_2, andT_t, andT_f, orT_t, orT_f, ev_lc, it_fr, it_dl, it_dt, it_br, rai_f, es_it, es_rg, u1_ok, u2_ok, v1_ok, v2_ok, optR_some, blR_some, bin_add, bin_sub, cmp_lt, cmp_le, cmp_gt, cmp_ge, cmp_eq, cmp_ne, cmp_eqs, cmp_nes, bi_int, bi_lenl, bi_lent, bi_lenb, bi_lenf, List.getElem?_cons_zero, List.getElem?_cons_succ, List.set_cons_zero, List.set_cons_succ, List.cons_append, List.nil_append, List.map_cons, List.map_nil, List.replicate, List.length_map, ixl_0, ixt_0, ixb_0, ixf_0, ixl_1, ixt_1, ixb_1, ixf_1, ixl_2, ixt_2, ixb_2, ixf_2, ixl_3, ixt_3, ixb_3, ixf_3, ixl_4, ixt_4, ixb_4, ixf_4, ixl_5, ixt_5, ixb_5, ixf_5, ixl_6, ixt_6, ixb_6, ixf_6, ixl_7, ixt_7, ixb_7, ixf_7, ixl_8, ixt_8, ixb_8, ixf_8, ixl_9, ixt_9, ixb_9, ixf_9, ixl_10, ixt_10, ixb_10, ixf_10, ixl_11, ixt_11, ixb_11, ixf_11, ixl_12, ixt_12, ixb_12, ixf_12, ixl_13, ixt_13, ixb_13, ixf_13, ixl_14, ixt_14, ixb_14, ixf_14, ixl_15, ixt_15, ixb_15, ixf_15]) rfl)
    have em : es.map (fun e => pD e.1) = (es.map (·.1)).map pD := by rw [List.map_map]; rfl
    rcases cpd_spec (es.map (·.1)) (fun p hp => by
      obtain ⟨e, he, rfl⟩ := List.mem_map.mp hp
      exact (ag e he).1) with ⟨⟨s, hs⟩, d, hc⟩ | ⟨hmx, hc⟩
    · have hcall : callV f_common_place_dimension [.fr (.l []), .fr (.l (es.map fun e => pD e.1))] = some (.ok (.dat (.int d))) := by rw [em]; exact callV_ok rfl hc rfl fun z => nomatch z
      obtain ⟨ρ2, e2, q1, q2, q3⟩ := sum_loop (C := c_make_row) (ρ := [some (.dat (.lst (es.map eD))), w, none, some (.own (.tT [] [])), none, none]) (b := L_make_row_2) (i := 3) (j := 4) (k := 5) (es := es) (by omega) rfl (by decide) (by simp) rfl
      have hf : ∀ js, evFor c_make_row (.it (.var 0)) js [some (.dat (.lst (es.map eD))), w, none, some (.own (.tT [] [])), none, none] = some (.ok (es.map eD)) := fun js => ef_var rfl rfl
      have hk : ∀ p ∈ (sumA es).map (·.1), p ≠ [] := fun p hp => by
        obtain ⟨e, he, rfl⟩ := List.mem_map.mp (sumA_keys es p hp)
        exact good_ne ag e he
      have hlen : (sumA es).length < 1000 := by
        have := sumA_len es
        omega
      have hrow : callV f_row_of_sums [.dat (.dicT (ksA (sumA es)) (vsA (sumA es)))] = some (.ok (.fr (.l ((rowOf (sumA es)).map eD)))) := callV_ok rfl (row_of_sums_spec (sumA es) hk hlen) rfl fun z => nomatch z
      have l3 : 3 < ρ2.length := by rw [q1]; simp
      refine .inr (.inr ⟨ag, ⟨s, fun e he => hs _ (List.mem_map_of_mem he)⟩, ?_⟩)
      simp [f_make_row, b_make_row, mk_m, rb_nil, rb_cons, rb_frz, frz_own, frz_dat, frz_no, nxt_nx, nxt_rt, nxt_er, nxt_bk, nxt_ct, rs_asg, asg_dat, asg_fr, asg_er, rs_app, app_dat, app_fr, rs_setL, set_dat, rs_iff, iteS_t, iteS_f, rs_for, for_ok, ef_rg, rs_ret, ret_dat, ret_fr, ret_er, rs_retV, retV_dat, retV_own, rs_retN, rs_brk, rs_cnt, rs_pas, rn_expr, drop_ok, drop_er, rs_rais, rs_tri, tri_nx, tri_rt, endF_rt, endF_nx, endF_er, ev_var, var_dat, var_own, ev_int, ev_str, ev_bl, ev_non, ev_bin, ev_neg, neg_int, ev_cmp, ev_ix, ev_nott, not_bl, ev_tup, tupV_ok, tupM_ok, ev_lst, lstU_ok, lstM_ok, toDs_nil, toDs_cd, toDs_cf, Option.map_some, ev_dictT, ea_nil, ea_cons, ac_ok, ev_bi, bi_ok, ev_call, call_ok, ev_sl, sl_ok, eo_no, eo_so, so_ok, ev_get, get_br, get_dat, ev_attr, ev_isi, ev_ife, iteE_t, iteE_f, ev_andd, ev_orr, en_1, en_2, er_1, er_2, andU_t, andU_f, orU_t, orU_f, et_andd, et_orr, et_nott, notT_ok, et_cmp, et_var, et_isi, et_call, et_ix, et_chain, chT_ok, tru_bl, ent_1, ent_2, ert_1, ert_2, andT_t, andT_f, orT_t, orT_f, ev_lc, it_fr, it_dl, it_dt, it_br, rai_f, es_it, es_rg, u1_ok, u2_ok, v1_ok, v2_ok, optR_some, blR_some, bin_add, bin_sub, cmp_lt, cmp_le, cmp_gt, cmp_ge, cmp_eq, cmp_ne, cmp_eqs, cmp_nes, bi_int, bi_lenl, bi_lent, bi_lenb, bi_lenf, List.getElem?_cons_zero, List.getElem?_cons_succ, List.set_cons_zero, List.set_cons_succ, List.cons_append, List.nil_append, List.map_cons, List.map_nil, List.replicate, List.length_map, ixl_0, ixt_0, ixb_0, ixf_0, ixl_1, ixt_1, ixb_1, ixf_1, ixl_2, ixt_2, ixb_2, ixf_2, ixl_3, ixt_3, ixb_3, ixf_3, ixl_4, ixt_4, ixb_4, ixf_4, ixl_5, ixt_5, ixb_5, ixf_5, ixl_6, ixt_6, ixb_6, ixf_6, ixl_7, ixt_7, ixb_7, ixf_7, ixl_8, ixt_8, ixb_8, ixf_8, ixl_9, ixt_9, ixb_9, ixf_9, ixl_10, ixt_10, ixb_10, ixf_10, ixl_11, ixt_11, ixb_11, ixf_11, ixl_12, ixt_12, ixb_12, ixf_12, ixl_13, ixt_13, ixb_13, ixf_13, ixl_14, ixt_14, ixb_14, ixf_14, ixl_15, ixt_15, ixb_15, ixf_15, rg_1 hr, e, hlc, T_make_row_0, T_make_row_1, hcall, hf, e2, q2, OV.d, List.getElem?_set_self l3, hrow]
    · have hcall : callV f_common_place_dimension [.fr (.l []), .fr (.l (es.map fun e => pD e.1))] = some (.error erMixed) := by rw [em]; exact callV_er rfl hc fun z => nomatch z
      refine .inr (.inl ⟨ag, ?_, ?_⟩)
      · obtain ⟨p, hp, q, hq, h⟩ := hmx
        obtain ⟨a, ha, rfl⟩ := List.mem_map.mp hp
        obtain ⟨b, hb, rfl⟩ := List.mem_map.mp hq
        exact ⟨a, ha, b, hb, h⟩
      · simp [f_make_row, b_make_row, mk_m, rb_nil, rb_cons, rb_frz, frz_own, frz_dat, frz_no, nxt_nx, nxt_rt, nxt_er, nxt_bk, nxt_ct, rs_asg, asg_dat, asg_fr, asg_er, rs_app, app_dat, app_fr, rs_setL, set_dat, rs_iff, iteS_t, iteS_f, rs_for, for_ok, ef_rg, rs_ret, ret_dat, ret_fr, ret_er, rs_retV, retV_dat, retV_own, rs_retN, rs_brk, rs_cnt, rs_pas, rn_expr, drop_ok, drop_er, rs_rais, rs_tri, tri_nx, tri_rt, endF_rt, endF_nx, endF_er, ev_var, var_dat, var_own, ev_int, ev_str, ev_bl, ev_non, ev_bin, ev_neg, neg_int, ev_cmp, ev_ix, ev_nott, not_bl, ev_tup, tupV_ok, tupM_ok, ev_lst, lstU_ok, lstM_ok, toDs_nil, toDs_cd, toDs_cf, Option.map_some, ev_dictT, ea_nil, ea_cons, ac_ok, ev_bi, bi_ok, ev_call, call_ok, ev_sl, sl_ok, eo_no, eo_so, so_ok, ev_get, get_br, get_dat, ev_attr, ev_isi, ev_ife, iteE_t, iteE_f, ev_andd, ev_orr, en_1, en_2, er_1, er_2, andU_t, andU_f, orU_t, orU_f, et_andd, et_orr, et_nott, notT_ok, et_cmp, et_var, et_isi, et_call, et_ix, et_chain, chT_ok, tru_bl, ent_1, ent_2, ert_1, ert_2, andT_t, andT_f, orT_t, orT_f, ev_lc, it_fr, it_dl, it_dt, it_br, rai_f, es_it, es_rg, u1_ok, u2_ok, v1_ok, v2_ok, optR_some, blR_some, bin_add, bin_sub, cmp_lt, cmp_le, cmp_gt, cmp_ge, cmp_eq, cmp_ne, cmp_eqs, cmp_nes, bi_int, bi_lenl, bi_lent, bi_lenb, bi_lenf, List.getElem?_cons_zero, List.getElem?_cons_succ, List.set_cons_zero, List.set_cons_succ, List.cons_append, List.nil_append, List.map_cons, List.map_nil, List.replicate, List.length_map, ixl_0, ixt_0, ixb_0, ixf_0, ixl_1, ixt_1, ixb_1, ixf_1, ixl_2, ixt_2, ixb_2, ixf_2, ixl_3, ixt_3, ixb_3, ixf_3, ixl_4, ixt_4, ixb_4, ixf_4, ixl_5, ixt_5, ixb_5, ixf_5, ixl_6, ixt_6, ixb_6, ixf_6, ixl_7, ixt_7, ixb_7, ixf_7, ixl_8, ixt_8, ixb_8, ixf_8, ixl_9, ixt_9, ixb_9, ixf_9, ixl_10, ixt_10, ixb_10, ixf_10, ixl_11, ixt_11, ixb_11, ixf_11, ixl_12, ixt_12, ixb_12, ixf_12, ixl_13, ixt_13, ixb_13, ixf_13, ixl_14, ixt_14, ixb_14, ixf_14, ixl_15, ixt_15, ixb_15, ixf_15, rg_1 hr, e, hlc, T_make_row_0, T_make_row_1, hcall]
  · exact .inl ⟨i, hR, by simp [f_make_row, b_make_row, mk_m, rb_nil, rb_cons, rb_frz, frz_own, frz_dat, frz_no, nxt_nx, nxt_rt, nxt_er, nxt_bk, nxt_ct, rs_asg, asg_dat, asg_fr, asg_er, rs_app, app_dat, app_fr, rs_setL, set_dat, rs_iff, iteS_t, iteS_f, rs_for, for_ok, ef_rg, rs_ret, ret_dat, ret_fr, ret_er, rs_retV, retV_dat, retV_own, rs_retN, rs_brk, rs_cnt, rs_pas, rn_expr, drop_ok, drop_er, rs_rais, rs_tri, tri_nx, tri_rt, endF_rt, endF_nx, endF_er, ev_var, var_dat, var_own, ev_int, ev_str, ev_bl, ev_non, ev_bin, ev_neg, neg_int, ev_cmp, ev_ix, ev_nott, not_bl, ev_tup, tupV_ok, tupM_ok, ev_lst, lstU_ok, lstM_ok, toDs_nil, toDs_cd, toDs_cf, Option.map_some, ev_dictT, ea_nil, ea_cons, ac_ok, ev_bi, bi_ok, ev_call, call_ok, ev_sl, sl_ok, eo_no, eo_so, so_ok, ev_get, get_br, get_dat, ev_attr, ev_isi, ev_ife, iteE_t, iteE_f, ev_andd, ev_orr, en_1, en_2, er_1, er_2, andU_t, andU_f, orU_t, orU_f, et_andd, et_orr, et_nott, notT_ok, et_cmp, et_var, et_isi, et_call, et_ix, et_chain, chT_ok, tru_bl, ent_1, ent_2, ert_1, ert_2, andT_t, andT_f, orT_t, orT_f, ev_lc, it_fr, it_dl, it_dt, it_br, rai_f, es_it, es_rg, u1_ok, u2_ok, v1_ok, v2_ok, optR_some, blR_some, bin_add, bin_sub, cmp_lt, cmp_le, cmp_gt, cmp_ge, cmp_eq, cmp_ne, cmp_eqs, cmp_nes, bi_int, bi_lenl, bi_lent, bi_lenb, bi_lenf, List.getElem?_cons_zero, List.getElem?_cons_succ, List.set_cons_zero, List.set_cons_succ, List.cons_append, List.nil_append, List.map_cons, List.map_nil, List.replicate, List.length_map, rg_1 hr, e]⟩
theorem due_spec (es : List Ent) (hl : es.length < 1000) : (∃ k : Nat, BadAt es k ∧ f_l_due.m [.lst (es.map eD)] = some (.ok (.dat (.tup [.str "BadPlace", .int k])))) ∨ (AllGood es ∧ Mixed es ∧ f_l_due.m [.lst (es.map eD)] = some (.ok (.dat (.tup [.str "MixedDimensions", .int 0])))) ∨ (AllGood es ∧ Alike es ∧ f_l_due.m [.lst (es.map eD)] = some (.ok (.dat (.tup [.str "row", .lst ((rowOf (sumA es)).map eD)])))) := by
  have hr : ints62 (es.length : Int) = true := by unfold ints62; simp; omega
  rcases forL_out (step := stepL (.n 1) (runB c_l_due L_l_due_1)) (ds := rangeD 0 es.length) (ρ := [some (.dat (.lst (es.map eD))), none])
    (P := fun i ρ => ∃ w : Option LV, ρ = [some (.dat (.lst (es.map eD))), w] ∧ ∀ j e, j < i → es[j]? = some e → Good e)
    (R := fun i o => BadAt es i ∧ o = .rt (.dat (.tup [.str "BadPlace", .int i])))
    ⟨none, rfl, fun _ _ h => absurd h (by omega)⟩ (by
      intro i d ρ hd ⟨w, hρ, hg⟩
      obtain ⟨hlt, rfl⟩ := rng_get hd
      subst hρ
      rw [Int.zero_add]
      have he : es[i]? = some es[i] := List.getElem?_eq_getElem hlt
      have hx := ent_at he
      generalize es[i] = e at he hx
      by_cases h1 : 1 ≤ e.1.length
      · have h1' : ¬ (e.1.length : Int) < 1 := by omega
        by_cases h2 : e.1.length ≤ 3
        · refine .inl ⟨[some (.dat (.lst (es.map eD))), some (.dat (.int i))], .inl ?_, some (.dat (.int i)), rfl, fun j f hj hf => ?_⟩
          · have h2' : ¬ (3 : Int) < e.1.length := by omega
            simp [stepL, setG, L_l_due_1, mk_m, rb_nil, rb_cons, rb_frz, frz_own, frz_dat, frz_no, nxt_nx, nxt_rt, nxt_er, nxt_bk, nxt_ct, rs_asg, asg_dat, asg_fr, asg_er, rs_app, app_dat, app_fr, rs_setL, set_dat, rs_iff, iteS_t, iteS_f, rs_for, for_ok, ef_rg, rs_ret, ret_dat, ret_fr, ret_er, rs_retV, retV_dat, retV_own, rs_retN, rs_brk, rs_cnt, rs_pas, rn_expr, drop_ok, drop_er, rs_rais, rs_tri, tri_nx, tri_rt, endF_rt, endF_nx, endF_er, ev_var, var_dat, var_own, ev_int, ev_str, ev_bl, ev_non, ev_bin, ev_neg, neg_int, ev_cmp, ev_ix, ev_nott, not_bl, ev_tup, tupV_ok, tupM_ok, ev_lst, lstU_ok, lstM_ok, toDs_nil, toDs_cd, toDs_cf, Option.map_some, ev_dictT, ea_nil, ea_cons, ac_ok, ev_bi, bi_ok, ev_call, call_ok, ev_sl, sl_ok, eo_no, eo_so, so_ok, ev_get, get_br, get_dat, ev_attr, ev_isi, ev_ife, iteE_t, iteE_f, ev_andd, ev_orr, en_1, en_2, er_1, er_2, andU_t, andU_f, orU_t, orU_f, et_andd, et_orr, et_nott, notT_ok, et_cmp, et_var, et_isi, et_call, et_ix, et_chain, chT_ok, tru_bl, ent_1, ent_2, ert_1, ert_2, andT_t, andT_f, orT_t, orT_f, ev_lc, it_fr, it_dl, it_dt, it_br, rai_f, es_it, es_rg, u1_ok, u2_ok, v1_ok, v2_ok, optR_some, blR_some, bin_add, bin_sub, cmp_lt, cmp_le, cmp_gt, cmp_ge, cmp_eq, cmp_ne, cmp_eqs, cmp_nes, bi_int, bi_lenl, bi_lent, bi_lenb, bi_lenf, List.getElem?_cons_zero, List.getElem?_cons_succ, List.set_cons_zero, List.set_cons_succ, List.cons_append, List.nil_append, List.map_cons, List.map_nil, List.replicate, List.length_map, ixl_0, ixt_0, ixb_0, ixf_0, ixl_1, ixt_1, ixb_1, ixf_1, ixl_2, ixt_2, ixb_2, ixf_2, ixl_3, ixt_3, ixb_3, ixf_3, ixl_4, ixt_4, ixb_4, ixf_4, ixl_5, ixt_5, ixb_5, ixf_5, ixl_6, ixt_6, ixb_6, ixf_6, ixl_7, ixt_7, ixb_7, ixf_7, ixl_8, ixt_8, ixb_8, ixf_8, ixl_9, ixt_9, ixb_9, ixf_9, ixl_10, ixt_10, ixb_10, ixf_10, ixl_11, ixt_11, ixb_11, ixf_11, ixl_12, ixt_12, ixb_12, ixf_12, ixl_13, ixt_13, ixb_13, ixf_13, ixl_14, ixt_14, ixb_14, ixf_14, ixl_15, ixt_15, ixb_15, ixf_15, hx, len_p, h1', h2']
          · rcases Nat.lt_or_ge j i with z | z
            · exact hg j f z hf
            · have : j = i := by omega
              subst this
              rw [he] at hf
              cases hf
              exact ⟨h1, h2⟩
        · refine .inr ⟨_, ?_, rfl, ⟨hg, e, he, fun z => h2 z.2⟩, rfl⟩
          have h2' : (3 : Int) < e.1.length := by omega
          simp [stepL, setG, L_l_due_1, mk_m, rb_nil, rb_cons, rb_frz, frz_own, frz_dat, frz_no, nxt_nx, nxt_rt, nxt_er, nxt_bk, nxt_ct, rs_asg, asg_dat, asg_fr, asg_er, rs_app, app_dat, app_fr, rs_setL, set_dat, rs_iff, iteS_t, iteS_f, rs_for, for_ok, ef_rg, rs_ret, ret_dat, ret_fr, ret_er, rs_retV, retV_dat, retV_own, rs_retN, rs_brk, rs_cnt, rs_pas, rn_expr, drop_ok, drop_er, rs_rais, rs_tri, tri_nx, tri_rt, endF_rt, endF_nx, endF_er, ev_var, var_dat, var_own, ev_int, ev_str, ev_bl, ev_non, ev_bin, ev_neg, neg_int, ev_cmp, ev_ix, ev_nott, not_bl, ev_tup, tupV_ok, tupM_ok, ev_lst, lstU_ok, lstM_ok, toDs_nil, toDs_cd, toDs_cf, Option.map_some, ev_dictT, ea_nil, ea_cons, ac_ok, ev_bi, bi_ok, ev_call, call_ok, ev_sl, sl_ok, eo_no, eo_so, so_ok, ev_get, get_br, get_dat, ev_attr, ev_isi, ev_ife, iteE_t, iteE_f, ev_andd, ev_orr, en_1, en_2, er_1, er_2, andU_t, andU_f, orU_t, orU_f, et_andd, et_orr, et_nott, notT_ok, et_cmp, et_var, et_isi, et_call, et_ix, et_chain, chT_ok, tru_bl, ent_1, ent_2, ert_1, ert_2, andT_t, andT_f, orT_t, orT_f, ev_lc, it_fr, it_dl, it_dt, it_br, rai_f, es_it, es_rg, u1_ok, u2_ok, v1_ok, v2_ok, optR_some, blR_some, bin_add, bin_sub, cmp_lt, cmp_le, cmp_gt, cmp_ge, cmp_eq, cmp_ne, cmp_eqs, cmp_nes, bi_int, bi_lenl, bi_lent, bi_lenb, bi_lenf, List.getElem?_cons_zero, List.getElem?_cons_succ, List.set_cons_zero, List.set_cons_succ, List.cons_append, List.nil_append, List.map_cons, List.map_nil, List.replicate, List.length_map, ixl_0, ixt_0, ixb_0, ixf_0, ixl_1, ixt_1, ixb_1, ixf_1, ixl_2, ixt_2, ixb_2, ixf_2, ixl_3, ixt_3, ixb_3, ixf_3, ixl_4, ixt_4, ixb_4, ixf_4, ixl_5, ixt_5, ixb_5, ixf_5, ixl_6, ixt_6, ixb_6, ixf_6, ixl_7, ixt_7, ixb_7, ixf_7, ixl_8, ixt_8, ixb_8, ixf_8, ixl_9, ixt_9, ixb_9, ixf_9, ixl_10, ixt_10, ixb_10, ixf_10, ixl_11, ixt_11, ixb_11, ixf_11, ixl_12, ixt_12, ixb_12, ixf_12, ixl_13, ixt_13, ixb_13, ixf_13, ixl_14, ixt_14, ixb_14, ixf_14, ixl_15, ixt_15, ixb_15, ixf_15, hx, len_p, h1', h2']
      · refine .inr ⟨_, ?_, rfl, ⟨hg, e, he, fun z => h1 z.1⟩, rfl⟩
        have h1' : (e.1.length : Int) < 1 := by omega
        simp [stepL, setG, L_l_due_1, mk_m, rb_nil, rb_cons, rb_frz, frz_own, frz_dat, frz_no, nxt_nx, nxt_rt, nxt_er, nxt_bk, nxt_ct, rs_asg, asg_dat, asg_fr, asg_er, rs_app, app_dat, app_fr, rs_setL, set_dat, rs_iff, iteS_t, iteS_f, rs_for, for_ok, ef_rg, rs_ret, ret_dat, ret_fr, ret_er, rs_retV, retV_dat, retV_own, rs_retN, rs_brk, rs_cnt, rs_pas, rn_expr, drop_ok, drop_er, rs_rais, rs_tri, tri_nx, tri_rt, endF_rt, endF_nx, endF_er, ev_var, var_dat, var_own, ev_int, ev_str, ev_bl, ev_non, ev_bin, ev_neg, neg_int, ev_cmp, ev_ix, ev_nott, not_bl, ev_tup, tupV_ok, tupM_ok, ev_lst, lstU_ok, lstM_ok, toDs_nil, toDs_cd, toDs_cf, Option.map_some, ev_dictT, ea_nil, ea_cons, ac_ok, ev_bi, bi_ok, ev_call, call_ok, ev_sl, sl_ok, eo_no, eo_so, so_ok, ev_get, get_br, get_dat, ev_attr, ev_isi, ev_ife, iteE_t, iteE_f, ev_andd, ev_orr, en_1, en_2, er_1, er_2, andU_t, andU_f, orU_t, orU_f, et_andd, et_orr, et_nott, notT_ok, et_cmp, et_var, et_isi, et_call, et_ix, et_chain, chT_ok, tru_bl, ent_1, ent_2, ert_1, ert_2, andT_t, andT_f, orT_t, orT_f, ev_lc, it_fr, it_dl, it_dt, it_br, rai_f, es_it, es_rg, u1_ok, u2_ok, v1_ok, v2_ok, optR_some, blR_some, bin_add, bin_sub, cmp_lt, cmp_le, cmp_gt, cmp_ge, cmp_eq, cmp_ne, cmp_eqs, cmp_nes, bi_int, bi_lenl, bi_lent, bi_lenb, bi_lenf, List.getElem?_cons_zero, List.getElem?_cons_succ, List.set_cons_zero, List.set_cons_succ, List.cons_append, List.nil_append, List.map_cons, List.map_nil, List.replicate, List.length_map, ixl_0, ixt_0, ixb_0, ixf_0, ixl_1, ixt_1, ixb_1, ixf_1, ixl_2, ixt_2, ixb_2, ixf_2, ixl_3, ixt_3, ixb_3, ixf_3, ixl_4, ixt_4, ixb_4, ixf_4, ixl_5, ixt_5, ixb_5, ixf_5, ixl_6, ixt_6, ixb_6, ixf_6, ixl_7, ixt_7, ixb_7, ixf_7, ixl_8, ixt_8, ixb_8, ixf_8, ixl_9, ixt_9, ixb_9, ixf_9, ixl_10, ixt_10, ixb_10, ixf_10, ixl_11, ixt_11, ixb_11, ixf_11, ixl_12, ixt_12, ixb_12, ixf_12, ixl_13, ixt_13, ixb_13, ixf_13, ixl_14, ixt_14, ixb_14, ixf_14, ixl_15, ixt_15, ixb_15, ixf_15, hx, len_p, h1']) with ⟨ρ', e, w, rfl, hg⟩ | ⟨i, o, e, ho, hR, rfl⟩
  · rw [rangeD_len] at hg
    have ag := all_of hg
    rcases forL_out (step := stepL (.n 1) (runB c_l_due L_l_due_2)) (ds := rangeD 0 es.length) (ρ := [some (.dat (.lst (es.map eD))), w])
      (P := fun i ρ => ∃ w : Option LV, ρ = [some (.dat (.lst (es.map eD))), w] ∧ ∀ j e e0, j < i → es[j]? = some e → es[0]? = some e0 → e.1.length = e0.1.length)
      (R := fun i o => Mixed es ∧ o = .rt (.dat (.tup [.str "MixedDimensions", .int 0])))
      ⟨w, rfl, fun _ _ _ h => absurd h (by omega)⟩ (by
        intro i d ρ hd ⟨w, hρ, hg⟩
        obtain ⟨hlt, rfl⟩ := rng_get hd
        subst hρ
        rw [Int.zero_add]
        have he : es[i]? = some es[i] := List.getElem?_eq_getElem hlt
        have he0 : es[0]? = some es[0] := List.getElem?_eq_getElem (by omega)
        have hx := ent_at he
        have hx0 : ixW (.dat (.lst (es.map eD))) (.dat (.int 0)) = some (.dat (.tup [pD es[0].1, .int es[0].2])) := ent_at he0
        generalize es[i] = e at he hx
        generalize es[0] = e0 at he0 hx0
        by_cases h1 : e.1.length = e0.1.length
        · refine .inl ⟨[some (.dat (.lst (es.map eD))), some (.dat (.int i))], .inl ?_, some (.dat (.int i)), rfl, fun j f f0 hj hf hf0 => ?_⟩
          · simp [stepL, setG, L_l_due_2, mk_m, rb_nil, rb_cons, rb_frz, frz_own, frz_dat, frz_no, nxt_nx, nxt_rt, nxt_er, nxt_bk, nxt_ct, rs_asg, asg_dat, asg_fr, asg_er, rs_app, app_dat, app_fr, rs_setL, set_dat, rs_iff, iteS_t, iteS_f, rs_for, for_ok, ef_rg, rs_ret, ret_dat, ret_fr, ret_er, rs_retV, retV_dat, retV_own, rs_retN, rs_brk, rs_cnt, rs_pas, rn_expr, drop_ok, drop_er, rs_rais, rs_tri, tri_nx, tri_rt, endF_rt, endF_nx, endF_er, ev_var, var_dat, var_own, ev_int, ev_str, ev_bl, ev_non, ev_bin, ev_neg, neg_int, ev_cmp, ev_ix, ev_nott, not_bl, ev_tup, tupV_ok, tupM_ok, ev_lst, lstU_ok, lstM_ok, toDs_nil, toDs_cd, toDs_cf, Option.map_some, ev_dictT, ea_nil, ea_cons, ac_ok, ev_bi, bi_ok, ev_call, call_ok, ev_sl, sl_ok, eo_no, eo_so, so_ok, ev_get, get_br, get_dat, ev_attr, ev_isi, ev_ife, iteE_t, iteE_f, ev_andd, ev_orr, en_1, en_2, er_1, er_2, andU_t, andU_f, orU_t, orU_f, et_andd, et_orr, et_nott, notT_ok, et_cmp, et_var, et_isi, et_call, et_ix, et_chain, chT_ok, tru_bl, ent_1, ent_2, ert_1, ert_2, andT_t, andT_f, orT_t, orT_f, ev_lc, it_fr, it_dl, it_dt, it_br, rai_f, es_it, es_rg, u1_ok, u2_ok, v1_ok, v2_ok, optR_some, blR_some, bin_add, bin_sub, cmp_lt, cmp_le, cmp_gt, cmp_ge, cmp_eq, cmp_ne, cmp_eqs, cmp_nes, bi_int, bi_lenl, bi_lent, bi_lenb, bi_lenf, List.getElem?_cons_zero, List.getElem?_cons_succ, List.set_cons_zero, List.set_cons_succ, List.cons_append, List.nil_append, List.map_cons, List.map_nil, List.replicate, List.length_map, ixt_0, hx, hx0, len_p, h1]
          · rw [he0] at hf0
            cases hf0
            rcases Nat.lt_or_ge j i with z | z
            · exact hg j f _ z hf he0
            · have : j = i := by omega
              subst this
              rw [he] at hf
              cases hf
              exact h1
        · refine .inr ⟨_, ?_, rfl, ⟨e, List.mem_of_getElem? he, e0, List.mem_of_getElem? he0, h1⟩, rfl⟩
          have h1' : ¬ ((e.1.length : Int) = e0.1.length) := by omega
          simp [stepL, setG, L_l_due_2, mk_m, rb_nil, rb_cons, rb_frz, frz_own, frz_dat, frz_no, nxt_nx, nxt_rt, nxt_er, nxt_bk, nxt_ct, rs_asg, asg_dat, asg_fr, asg_er, rs_app, app_dat, app_fr, rs_setL, set_dat, rs_iff, iteS_t, iteS_f, rs_for, for_ok, ef_rg, rs_ret, ret_dat, ret_fr, ret_er, rs_retV, retV_dat, retV_own, rs_retN, rs_brk, rs_cnt, rs_pas, rn_expr, drop_ok, drop_er, rs_rais, rs_tri, tri_nx, tri_rt, endF_rt, endF_nx, endF_er, ev_var, var_dat, var_own, ev_int, ev_str, ev_bl, ev_non, ev_bin, ev_neg, neg_int, ev_cmp, ev_ix, ev_nott, not_bl, ev_tup, tupV_ok, tupM_ok, ev_lst, lstU_ok, lstM_ok, toDs_nil, toDs_cd, toDs_cf, Option.map_some, ev_dictT, ea_nil, ea_cons, ac_ok, ev_bi, bi_ok, ev_call, call_ok, ev_sl, sl_ok, eo_no, eo_so, so_ok, ev_get, get_br, get_dat, ev_attr, ev_isi, ev_ife, iteE_t, iteE_f, ev_andd, ev_orr, en_1, en_2, er_1, er_2, andU_t, andU_f, orU_t, orU_f, et_andd, et_orr, et_nott, notT_ok, et_cmp, et_var, et_isi, et_call, et_ix, et_chain, chT_ok, tru_bl, ent_1, ent_2, ert_1, ert_2, andT_t, andT_f, orT_t, orT_f, ev_lc, it_fr, it_dl, it_dt, it_br, rai_f, es_it, es_rg, u1_ok, u2_ok, v1_ok, v2_ok, optR_some, blR_some, bin_add, bin_sub, cmp_lt, cmp_le, cmp_gt, cmp_ge, cmp_eq, cmp_ne, cmp_eqs, cmp_nes, bi_int, bi_lenl, bi_lent, bi_lenb, bi_lenf, List.getElem?_cons_zero, List.getElem?_cons_succ, List.set_cons_zero, List.set_cons_succ, List.cons_append, List.nil_append, List.map_cons, List.map_nil, List.replicate, List.length_map, ixt_0, hx, hx0, len_p, h1, h1']) with ⟨ρ', e2, w2, rfl, hg2⟩ | ⟨i, o, e2, ho, hR, rfl⟩
    · rw [rangeD_len] at hg2
      have hrow : callV f_l_row [.dat (.lst (es.map eD))] = some (.ok (.fr (.l ((rowOf (sumA es)).map eD)))) := callV_ok rfl (row_spec es (good_ne ag) hl) rfl fun z => nomatch z
      have al : Alike es := by
        cases es with
        | nil => exact ⟨0, fun _ h => nomatch h⟩
        | cons a r =>
          refine ⟨a.1.length, fun e he => ?_⟩
          obtain ⟨i, hi, rfl⟩ := List.mem_iff_getElem.mp he
          exact hg2 i _ a hi (List.getElem?_eq_getElem hi) rfl
      refine .inr (.inr ⟨ag, al, ?_⟩)
      simp [f_l_due, b_l_due, mk_m, rb_nil, rb_cons, rb_frz, frz_own, frz_dat, frz_no, nxt_nx, nxt_rt, nxt_er, nxt_bk, nxt_ct, rs_asg, asg_dat, asg_fr, asg_er, rs_app, app_dat, app_fr, rs_setL, set_dat, rs_iff, iteS_t, iteS_f, rs_for, for_ok, ef_rg, rs_ret, ret_dat, ret_fr, ret_er, rs_retV, retV_dat, retV_own, rs_retN, rs_brk, rs_cnt, rs_pas, rn_expr, drop_ok, drop_er, rs_rais, rs_tri, tri_nx, tri_rt, endF_rt, endF_nx, endF_er, ev_var, var_dat, var_own, ev_int, ev_str, ev_bl, ev_non, ev_bin, ev_neg, neg_int, ev_cmp, ev_ix, ev_nott, not_bl, ev_tup, tupV_ok, tupM_ok, ev_lst, lstU_ok, lstM_ok, toDs_nil, toDs_cd, toDs_cf, Option.map_some, ev_dictT, ea_nil, ea_cons, ac_ok, ev_bi, bi_ok, ev_call, call_ok, ev_sl, sl_ok, eo_no, eo_so, so_ok, ev_get, get_br, get_dat, ev_attr, ev_isi, ev_ife, iteE_t, iteE_f, ev_andd, ev_orr, en_1, en_2, er_1, er_2, andU_t, andU_f, orU_t, orU_f, et_andd, et_orr, et_nott, notT_ok, et_cmp, et_var, et_isi, et_call, et_ix, et_chain, chT_ok, tru_bl, ent_1, ent_2, ert_1, ert_2, andT_t, andT_f, orT_t, orT_f, ev_lc, it_fr, it_dl, it_dt, it_br, rai_f, es_it, es_rg, u1_ok, u2_ok, v1_ok, v2_ok, optR_some, blR_some, bin_add, bin_sub, cmp_lt, cmp_le, cmp_gt, cmp_ge, cmp_eq, cmp_ne, cmp_eqs, cmp_nes, bi_int, bi_lenl, bi_lent, bi_lenb, bi_lenf, List.getElem?_cons_zero, List.getElem?_cons_succ, List.set_cons_zero, List.set_cons_succ, List.cons_append, List.nil_append, List.map_cons, List.map_nil, List.replicate, List.length_map, rg_1 hr, e, e2, T_l_due_0, hrow, OV.d]
    · exact .inr (.inl ⟨ag, hR, by simp [f_l_due, b_l_due, mk_m, rb_nil, rb_cons, rb_frz, frz_own, frz_dat, frz_no, nxt_nx, nxt_rt, nxt_er, nxt_bk, nxt_ct, rs_asg, asg_dat, asg_fr, asg_er, rs_app, app_dat, app_fr, rs_setL, set_dat, rs_iff, iteS_t, iteS_f, rs_for, for_ok, ef_rg, rs_ret, ret_dat, ret_fr, ret_er, rs_retV, retV_dat, retV_own, rs_retN, rs_brk, rs_cnt, rs_pas, rn_expr, drop_ok, drop_er, rs_rais, rs_tri, tri_nx, tri_rt, endF_rt, endF_nx, endF_er, ev_var, var_dat, var_own, ev_int, ev_str, ev_bl, ev_non, ev_bin, ev_neg, neg_int, ev_cmp, ev_ix, ev_nott, not_bl, ev_tup, tupV_ok, tupM_ok, ev_lst, lstU_ok, lstM_ok, toDs_nil, toDs_cd, toDs_cf, Option.map_some, ev_dictT, ea_nil, ea_cons, ac_ok, ev_bi, bi_ok, ev_call, call_ok, ev_sl, sl_ok, eo_no, eo_so, so_ok, ev_get, get_br, get_dat, ev_attr, ev_isi, ev_ife, iteE_t, iteE_f, ev_andd, ev_orr, en_1, en_2, er_1, er_2, andU_t, andU_f, orU_t, orU_f, et_andd, et_orr, et_nott, notT_ok, et_cmp, et_var, et_isi, et_call, et_ix, et_chain, chT_ok, tru_bl, ent_1, ent_2, ert_1, ert_2, andT_t, andT_f, orT_t, orT_f, ev_lc, it_fr, it_dl, it_dt, it_br, rai_f, es_it, es_rg, u1_ok, u2_ok, v1_ok, v2_ok, optR_some, blR_some, bin_add, bin_sub, cmp_lt, cmp_le, cmp_gt, cmp_ge, cmp_eq, cmp_ne, cmp_eqs, cmp_nes, bi_int, bi_lenl, bi_lent, bi_lenb, bi_lenf, List.getElem?_cons_zero, List.getElem?_cons_succ, List.set_cons_zero, List.set_cons_succ, List.cons_append, List.nil_append, List.map_cons, List.map_nil, List.replicate, List.length_map, rg_1 hr, e, e2]⟩)
  · exact .inl ⟨i, hR, by simp [f_l_due, b_l_due, mk_m, rb_nil, rb_cons, rb_frz, frz_own, frz_dat, frz_no, nxt_nx, nxt_rt, nxt_er, nxt_bk, nxt_ct, rs_asg, asg_dat, asg_fr, asg_er, rs_app, app_dat, app_fr, rs_setL, set_dat, rs_iff, iteS_t, iteS_f, rs_for, for_ok, ef_rg, rs_ret, ret_dat, ret_fr, ret_er, rs_retV, retV_dat, retV_own, rs_retN, rs_brk, rs_cnt, rs_pas, rn_expr, drop_ok, drop_er, rs_rais, rs_tri, tri_nx, tri_rt, endF_rt, endF_nx, endF_er, ev_var, var_dat, var_own, ev_int, ev_str, ev_bl, ev_non, ev_bin, ev_neg, neg_int, ev_cmp, ev_ix, ev_nott, not_bl, ev_tup, tupV_ok, tupM_ok, ev_lst, lstU_ok, lstM_ok, toDs_nil, toDs_cd, toDs_cf, Option.map_some, ev_dictT, ea_nil, ea_cons, ac_ok, ev_bi, bi_ok, ev_call, call_ok, ev_sl, sl_ok, eo_no, eo_so, so_ok, ev_get, get_br, get_dat, ev_attr, ev_isi, ev_ife, iteE_t, iteE_f, ev_andd, ev_orr, en_1, en_2, er_1, er_2, andU_t, andU_f, orU_t, orU_f, et_andd, et_orr, et_nott, notT_ok, et_cmp, et_var, et_isi, et_call, et_ix, et_chain, chT_ok, tru_bl, ent_1, ent_2, ert_1, ert_2, andT_t, andT_f, orT_t, orT_f, ev_lc, it_fr, it_dl, it_dt, it_br, rai_f, es_it, es_rg, u1_ok, u2_ok, v1_ok, v2_ok, optR_some, blR_some, bin_add, bin_sub, cmp_lt, cmp_le, cmp_gt, cmp_ge, cmp_eq, cmp_ne, cmp_eqs, cmp_nes, bi_int, bi_lenl, bi_lent, bi_lenb, bi_lenf, List.getElem?_cons_zero, List.getElem?_cons_succ, List.set_cons_zero, List.set_cons_succ, List.cons_append, List.nil_append, List.map_cons, List.map_nil, List.replicate, List.length_map, rg_1 hr, e]⟩
theorem call_int (i : Int) : callV f_l_is_integer [.dat (.int i)] = some (.ok (.dat (.bl true))) := callV_ok rfl (is_integer_int i) rfl fun z => nomatch z
theorem is_place_spec (p : Pl) (h1 : 1 ≤ p.length) (h3 : p.length ≤ 3) : f_l_is_place.m [pD p] = some (.ok (.dat (.bl true))) := by
  have hf : ∀ js, evFor c_l_is_place (.it (.var 0)) js [some (.dat (pD p)), none] = some (.ok (p.map D.int)) := fun js => ef_var rfl rfl
  obtain ⟨ρ', e, w, rfl⟩ := forL_inv (step := stepL (.n 1) (runB c_l_is_place L_l_is_place_1)) (ds := p.map D.int) (ρ := [some (.dat (pD p)), none]) (P := fun i ρ => ∃ w : Option LV, ρ = [some (.dat (pD p)), w]) ⟨none, rfl⟩ (by
    intro i d ρ hd ⟨w, hρ⟩
    subst hρ
    rw [List.getElem?_map] at hd
    cases he : p[i]? with
    | none => rw [he] at hd; cases hd
    | some x =>
      rw [he] at hd
      cases hd
      exact ⟨[some (.dat (pD p)), some (.dat (.int x))], .inl (by simp [stepL, setG, L_l_is_place_1, mk_m, rb_nil, rb_cons, rb_frz, frz_own, frz_dat, frz_no, nxt_nx, nxt_rt, nxt_er, nxt_bk, nxt_ct, rs_asg, asg_dat, asg_fr, asg_er, rs_app, app_dat, app_fr, rs_setL, set_dat, rs_iff, iteS_t, iteS_f, rs_for, for_ok, ef_rg, rs_ret, ret_dat, ret_fr, ret_er, rs_retV, retV_dat, retV_own, rs_retN, rs_brk, rs_cnt, rs_pas, rn_expr, drop_ok, drop_er, rs_rais, rs_tri, tri_nx, tri_rt, endF_rt, endF_nx, endF_er, ev_var, var_dat, var_own, ev_int, ev_str, ev_bl, ev_non, ev_bin, ev_neg, neg_int, ev_cmp, ev_ix, ev_nott, not_bl, ev_tup, tupV_ok, tupM_ok, ev_lst, lstU_ok, lstM_ok, toDs_nil, toDs_cd, toDs_cf, Option.map_some, ev_dictT, ea_nil, ea_cons, ac_ok, ev_bi, bi_ok, ev_call, call_ok, ev_sl, sl_ok, eo_no, eo_so, so_ok, ev_get, get_br, get_dat, ev_attr, ev_isi, ev_ife, iteE_t, iteE_f, ev_andd, ev_orr, en_1, en_2, er_1, er_2, andU_t, andU_f, orU_t, orU_f, et_andd, et_orr, et_nott, notT_ok, et_cmp, et_var, et_isi, et_call, et_ix, et_chain, chT_ok, tru_bl, ent_1, ent_2, ert_1, ert_2, andT_t, andT_f, orT_t, orT_f, ev_lc, it_fr, it_dl, it_dt, it_br, rai_f, es_it, es_rg, u1_ok, u2_ok, v1_ok, v2_ok, optR_some, blR_some, bin_add, bin_sub, cmp_lt, cmp_le, cmp_gt, cmp_ge, cmp_eq, cmp_ne, cmp_eqs, cmp_nes, bi_int, bi_lenl, bi_lent, bi_lenb, bi_lenf, List.getElem?_cons_zero, List.getElem?_cons_succ, List.set_cons_zero, List.set_cons_succ, List.cons_append, List.nil_append, List.map_cons, List.map_nil, List.replicate, List.length_map, T_l_is_place_0, call_int]), _, rfl⟩)
  have t : isiV c_l_is_place.isa (.dat (pD p)) .tup = some true := rfl
  have a1 : ¬ (p.length : Int) < 1 := by omega
  have a3 : ¬ (3 : Int) < p.length := by omega
  simp [f_l_is_place, b_l_is_place, mk_m, rb_nil, rb_cons, rb_frz, frz_own, frz_dat, frz_no, nxt_nx, nxt_rt, nxt_er, nxt_bk, nxt_ct, rs_asg, asg_dat, asg_fr, asg_er, rs_app, app_dat, app_fr, rs_setL, set_dat, rs_iff, iteS_t, iteS_f, rs_for, for_ok, ef_rg, rs_ret, ret_dat, ret_fr, ret_er, rs_retV, retV_dat, retV_own, rs_retN, rs_brk, rs_cnt, rs_pas, rn_expr, drop_ok, drop_er, rs_rais, rs_tri, tri_nx, tri_rt, endF_rt, endF_nx, endF_er, ev_var, var_dat, var_own, ev_int, ev_str, ev_bl, ev_non, ev_bin, ev_neg, neg_int, ev_cmp, ev_ix, ev_nott, not_bl, ev_tup, tupV_ok, tupM_ok, ev_lst, lstU_ok, lstM_ok, toDs_nil, toDs_cd, toDs_cf, Option.map_some, ev_dictT, ea_nil, ea_cons, ac_ok, ev_bi, bi_ok, ev_call, call_ok, ev_sl, sl_ok, eo_no, eo_so, so_ok, ev_get, get_br, get_dat, ev_attr, ev_isi, ev_ife, iteE_t, iteE_f, ev_andd, ev_orr, en_1, en_2, er_1, er_2, andU_t, andU_f, orU_t, orU_f, et_andd, et_orr, et_nott, notT_ok, et_cmp, et_var, et_isi, et_call, et_ix, et_chain, chT_ok, tru_bl, ent_1, ent_2, ert_1, ert_2, andT_t, andT_f, orT_t, orT_f, ev_lc, it_fr, it_dl, it_dt, it_br, rai_f, es_it, es_rg, u1_ok, u2_ok, v1_ok, v2_ok, optR_some, blR_some, bin_add, bin_sub, cmp_lt, cmp_le, cmp_gt, cmp_ge, cmp_eq, cmp_ne, cmp_eqs, cmp_nes, bi_int, bi_lenl, bi_lent, bi_lenb, bi_lenf, List.getElem?_cons_zero, List.getElem?_cons_succ, List.set_cons_zero, List.set_cons_succ, List.cons_append, List.nil_append, List.map_cons, List.map_nil, List.replicate, List.length_map, t, len_p, a1, a3, hf, e]
theorem cmp_ltp (p q : Pl) : cmpV .lt (.dat (pD p)) (.dat (pD q)) = some (decide (p < q)) := ltD_pD p q
theorem cmp_rows (es : List Ent) : cmpV .eq (.dat (.lst (es.map eD))) (.dat (.lst (es.map eD))) = some true := eqV_rows es
theorem cmp_rowsn (es : List Ent) : cmpV .ne (.dat (.lst (es.map eD))) (.dat (.lst (es.map eD))) = some false := by
  show notV (eqV (.lst (es.map eD)) (.lst (es.map eD))) = _
  rw [eqV_rows]
  rfl
/-- a row as it should be -/
def RowOk (rs : List Ent) : Prop := AllGood rs ∧ Alike rs ∧ (∀ e ∈ rs, e.2 ≠ 0) ∧ rs.Pairwise (fun a b => a.1 < b.1) ∧ rs.length < 1000
theorem call_place (p : Pl) (h1 : 1 ≤ p.length) (h3 : p.length ≤ 3) : callV f_l_is_place [.dat (pD p)] = some (.ok (.dat (.bl true))) := callV_ok rfl (is_place_spec p h1 h3) rfl fun z => nomatch z
theorem is_row_spec (rs : List Ent) (h : RowOk rs) : f_l_is_row.m [.lst (rs.map eD)] = some (.ok (.dat (.bl true))) := by
  obtain ⟨ag, ⟨s, al⟩, nz, pw, hl⟩ := h
  have hr : ints62 (rs.length : Int) = true := by unfold ints62; simp; omega
  obtain ⟨ρ', e, w1, w2, rfl⟩ := forL_inv (step := stepL (.n 1) (runB c_l_is_row L_l_is_row_1)) (ds := rangeD 0 rs.length) (ρ := [some (.dat (.lst (rs.map eD))), none, none]) (P := fun i ρ => ∃ w1 w2 : Option LV, ρ = [some (.dat (.lst (rs.map eD))), w1, w2]) ⟨none, none, rfl⟩ (by
    intro i d ρ hd ⟨w1, w2, hρ⟩
    obtain ⟨hlt, rfl⟩ := rng_get hd
    subst hρ
    rw [Int.zero_add]
    have he : rs[i]? = some rs[i] := List.getElem?_eq_getElem hlt
    have he0 : rs[0]? = some rs[0] := List.getElem?_eq_getElem (by omega)
    have hx := ent_at he
    have hx0 : ixW (.dat (.lst (rs.map eD))) (.dat (.int 0)) = some (.dat (.tup [pD rs[0].1, .int rs[0].2])) := ent_at he0
    have g := ag _ (List.getElem_mem hlt)
    have g1 := al _ (List.getElem_mem hlt)
    have g0 := al rs[0] (List.getElem_mem (by omega))
    have n1 := nz _ (List.getElem_mem hlt)
    have cp := call_place rs[i].1 g.1 g.2
    have lt : isiV c_l_is_row.isa (.dat (.tup [pD rs[i].1, .int rs[i].2])) .tup = some true := rfl
    by_cases hi : i = 0
    · subst hi
      refine ⟨_, .inl (by simp [stepL, setG, L_l_is_row_1, mk_m, rb_nil, rb_cons, rb_frz, frz_own, frz_dat, frz_no, nxt_nx, nxt_rt, nxt_er, nxt_bk, nxt_ct, rs_asg, asg_dat, asg_fr, asg_er, rs_app, app_dat, app_fr, rs_setL, set_dat, rs_iff, iteS_t, iteS_f, rs_for, for_ok, ef_rg, rs_ret, ret_dat, ret_fr, ret_er, rs_retV, retV_dat, retV_own, rs_retN, rs_brk, rs_cnt, rs_pas, rn_expr, drop_ok, drop_er, rs_rais, rs_tri, tri_nx, tri_rt, endF_rt, endF_nx, endF_er, ev_var, var_dat, var_own, ev_int, ev_str, ev_bl, ev_non, ev_bin, ev_neg, neg_int, ev_cmp, ev_ix, ev_nott, not_bl, ev_tup, tupV_ok, tupM_ok, ev_lst, lstU_ok, lstM_ok, toDs_nil, toDs_cd, toDs_cf, Option.map_some, ev_dictT, ea_nil, ea_cons, ac_ok, ev_bi, bi_ok, ev_call, call_ok, ev_sl, sl_ok, eo_no, eo_so, so_ok, ev_get, get_br, get_dat, ev_attr, ev_isi, ev_ife, iteE_t, iteE_f, ev_andd, ev_orr, en_1, en_2, er_1, er_2, andU_t, andU_f, orU_t, orU_f, et_andd, et_orr, et_nott, notT_ok, et_cmp, et_var, et_isi, et_call, et_ix, et_chain, chT_ok, tru_bl, ent_1, ent_2, ert_1, ert_2, andT_t, andT_f, orT_t, orT_f, ev_lc, it_fr, it_dl, it_dt, it_br, rai_f, es_it, es_rg, u1_ok, u2_ok, v1_ok, v2_ok, optR_some, blR_some, bin_add, bin_sub, cmp_lt, cmp_le, cmp_gt, cmp_ge, cmp_eq, cmp_ne, cmp_eqs, cmp_nes, bi_int, bi_lenl, bi_lent, bi_lenb, bi_lenf, List.getElem?_cons_zero, List.getElem?_cons_succ, List.set_cons_zero, List.set_cons_succ, List.cons_append, List.nil_append, List.map_cons, List.map_nil, List.replicate, List.length_map, ixt_0, ixt_1, hx0, len_p, lt, T_l_is_row_0, T_l_is_row_1, cp, call_int, n1]; exact ⟨rfl, rfl⟩), _, _, rfl⟩
    · have hi' : 0 < i := by omega
      have hq : rs[i-1]? = some rs[i-1] := List.getElem?_eq_getElem (by omega)
      have hxq := ent_at hq
      have hc : ((i - 1 : Nat) : Int) = (i : Int) - 1 := by omega
      rw [hc] at hxq
      have hlt2 : rs[i-1].1 < rs[i].1 := List.pairwise_iff_getElem.mp pw (i-1) i (by omega) hlt (by omega)
      generalize rs[i] = e at *
      generalize rs[0] = e0 at *
      generalize rs[i-1] = eq at *
      refine ⟨_, .inl (by simp [stepL, setG, L_l_is_row_1, mk_m, rb_nil, rb_cons, rb_frz, frz_own, frz_dat, frz_no, nxt_nx, nxt_rt, nxt_er, nxt_bk, nxt_ct, rs_asg, asg_dat, asg_fr, asg_er, rs_app, app_dat, app_fr, rs_setL, set_dat, rs_iff, iteS_t, iteS_f, rs_for, for_ok, ef_rg, rs_ret, ret_dat, ret_fr, ret_er, rs_retV, retV_dat, retV_own, rs_retN, rs_brk, rs_cnt, rs_pas, rn_expr, drop_ok, drop_er, rs_rais, rs_tri, tri_nx, tri_rt, endF_rt, endF_nx, endF_er, ev_var, var_dat, var_own, ev_int, ev_str, ev_bl, ev_non, ev_bin, ev_neg, neg_int, ev_cmp, ev_ix, ev_nott, not_bl, ev_tup, tupV_ok, tupM_ok, ev_lst, lstU_ok, lstM_ok, toDs_nil, toDs_cd, toDs_cf, Option.map_some, ev_dictT, ea_nil, ea_cons, ac_ok, ev_bi, bi_ok, ev_call, call_ok, ev_sl, sl_ok, eo_no, eo_so, so_ok, ev_get, get_br, get_dat, ev_attr, ev_isi, ev_ife, iteE_t, iteE_f, ev_andd, ev_orr, en_1, en_2, er_1, er_2, andU_t, andU_f, orU_t, orU_f, et_andd, et_orr, et_nott, notT_ok, et_cmp, et_var, et_isi, et_call, et_ix, et_chain, chT_ok, tru_bl, ent_1, ent_2, ert_1, ert_2, andT_t, andT_f, orT_t, orT_f, ev_lc, it_fr, it_dl, it_dt, it_br, rai_f, es_it, es_rg, u1_ok, u2_ok, v1_ok, v2_ok, optR_some, blR_some, bin_add, bin_sub, cmp_lt, cmp_le, cmp_gt, cmp_ge, cmp_eq, cmp_ne, cmp_eqs, cmp_nes, bi_int, bi_lenl, bi_lent, bi_lenb, bi_lenf, List.getElem?_cons_zero, List.getElem?_cons_succ, List.set_cons_zero, List.set_cons_succ, List.cons_append, List.nil_append, List.map_cons, List.map_nil, List.replicate, List.length_map, ixt_0, ixt_1, hx, hx0, hxq, len_p, lt, T_l_is_row_0, T_l_is_row_1, cp, call_int, n1, g1, g0, hi', cmp_ltp, hlt2]; exact ⟨rfl, rfl⟩), _, _, rfl⟩)
  have t : isiV c_l_is_row.isa (.dat (.lst (rs.map eD))) .lst = some true := rfl
  simp [f_l_is_row, b_l_is_row, mk_m, rb_nil, rb_cons, rb_frz, frz_own, frz_dat, frz_no, nxt_nx, nxt_rt, nxt_er, nxt_bk, nxt_ct, rs_asg, asg_dat, asg_fr, asg_er, rs_app, app_dat, app_fr, rs_setL, set_dat, rs_iff, iteS_t, iteS_f, rs_for, for_ok, ef_rg, rs_ret, ret_dat, ret_fr, ret_er, rs_retV, retV_dat, retV_own, rs_retN, rs_brk, rs_cnt, rs_pas, rn_expr, drop_ok, drop_er, rs_rais, rs_tri, tri_nx, tri_rt, endF_rt, endF_nx, endF_er, ev_var, var_dat, var_own, ev_int, ev_str, ev_bl, ev_non, ev_bin, ev_neg, neg_int, ev_cmp, ev_ix, ev_nott, not_bl, ev_tup, tupV_ok, tupM_ok, ev_lst, lstU_ok, lstM_ok, toDs_nil, toDs_cd, toDs_cf, Option.map_some, ev_dictT, ea_nil, ea_cons, ac_ok, ev_bi, bi_ok, ev_call, call_ok, ev_sl, sl_ok, eo_no, eo_so, so_ok, ev_get, get_br, get_dat, ev_attr, ev_isi, ev_ife, iteE_t, iteE_f, ev_andd, ev_orr, en_1, en_2, er_1, er_2, andU_t, andU_f, orU_t, orU_f, et_andd, et_orr, et_nott, notT_ok, et_cmp, et_var, et_isi, et_call, et_ix, et_chain, chT_ok, tru_bl, ent_1, ent_2, ert_1, ert_2, andT_t, andT_f, orT_t, orT_f, ev_lc, it_fr, it_dl, it_dt, it_br, rai_f, es_it, es_rg, u1_ok, u2_ok, v1_ok, v2_ok, optR_some, blR_some, bin_add, bin_sub, cmp_lt, cmp_le, cmp_gt, cmp_ge, cmp_eq, cmp_ne, cmp_eqs, cmp_nes, bi_int, bi_lenl, bi_lent, bi_lenb, bi_lenf, List.getElem?_cons_zero, List.getElem?_cons_succ, List.set_cons_zero, List.set_cons_succ, List.cons_append, List.nil_append, List.map_cons, List.map_nil, List.replicate, List.length_map, t, rg_1 hr, e]
theorem same_spec (rs : List Ent) (h : RowOk rs) : f_l_same.m [.lst (rs.map eD), .lst (rs.map eD)] = some (.ok (.dat (.bl true))) := by
  have hc : callV f_l_is_row [.dat (.lst (rs.map eD))] = some (.ok (.dat (.bl true))) := callV_ok rfl (is_row_spec rs h) rfl fun z => nomatch z
  simp [f_l_same, b_l_same, mk_m, rb_nil, rb_cons, rb_frz, frz_own, frz_dat, frz_no, nxt_nx, nxt_rt, nxt_er, nxt_bk, nxt_ct, rs_asg, asg_dat, asg_fr, asg_er, rs_app, app_dat, app_fr, rs_setL, set_dat, rs_iff, iteS_t, iteS_f, rs_for, for_ok, ef_rg, rs_ret, ret_dat, ret_fr, ret_er, rs_retV, retV_dat, retV_own, rs_retN, rs_brk, rs_cnt, rs_pas, rn_expr, drop_ok, drop_er, rs_rais, rs_tri, tri_nx, tri_rt, endF_rt, endF_nx, endF_er, ev_var, var_dat, var_own, ev_int, ev_str, ev_bl, ev_non, ev_bin, ev_neg, neg_int, ev_cmp, ev_ix, ev_nott, not_bl, ev_tup, tupV_ok, tupM_ok, ev_lst, lstU_ok, lstM_ok, toDs_nil, toDs_cd, toDs_cf, Option.map_some, ev_dictT, ea_nil, ea_cons, ac_ok, ev_bi, bi_ok, ev_call, call_ok, ev_sl, sl_ok, eo_no, eo_so, so_ok, ev_get, get_br, get_dat, ev_attr, ev_isi, ev_ife, iteE_t, iteE_f, ev_andd, ev_orr, en_1, en_2, er_1, er_2, andU_t, andU_f, orU_t, orU_f, et_andd, et_orr, et_nott, notT_ok, et_cmp, et_var, et_isi, et_call, et_ix, et_chain, chT_ok, tru_bl, ent_1, ent_2, ert_1, ert_2, andT_t, andT_f, orT_t, orT_f, ev_lc, it_fr, it_dl, it_dt, it_br, rai_f, es_it, es_rg, u1_ok, u2_ok, v1_ok, v2_ok, optR_some, blR_some, bin_add, bin_sub, cmp_lt, cmp_le, cmp_gt, cmp_ge, cmp_eq, cmp_ne, cmp_eqs, cmp_nes, bi_int, bi_lenl, bi_lent, bi_lenb, bi_lenf, List.getElem?_cons_zero, List.getElem?_cons_succ, List.set_cons_zero, List.set_cons_succ, List.cons_append, List.nil_append, List.map_cons, List.map_nil, List.replicate, List.length_map, T_l_same_0, hc, cmp_rows]
theorem isa_of {c x : Str} {b : Bool} (h : c_l_refused.isa c x = some b) : k_l_refused.hot.isa c x = some b := h
theorem refused_bad (k : Nat) : h_l_refused.m [.exc "BadPlace" ["index", "word"] [.int k, .str "BadPlace"], .tup [.str "BadPlace", .int k]] = some (.ok (.dat (.bl true))) := by
  have e1 : k_l_refused.hot.isa "BadPlace" "OneDirectionOnly" = some false := rfl
  have e2 : k_l_refused.hot.isa "BadPlace" "ZeroRow" = some false := rfl
  have e3 : k_l_refused.hot.isa "BadPlace" "BadPlace" = some true := rfl
  have e4 : k_l_refused.hot.isa "BadPlace" "MixedDimensions" = some false := rfl
  have e5 : k_l_is_error.hot.isa "BadPlace" "TableError" = some true := rfl
  have e6 : k_l_is_error.hot.isa "BadPlace" "ValueError" = some true := rfl
  have f1 : attrV k_l_is_error.hot.fld (.dat (.exc "BadPlace" ["index", "word"] [.int k, .str "BadPlace"])) "word" = some (.dat (.str "BadPlace")) := attr_ok (by decide +kernel) rfl
  have f2 : attrV k_l_refused.hot.fld (.dat (.exc "BadPlace" ["index", "word"] [.int k, .str "BadPlace"])) "index" = some (.dat (.int k)) := attr_ok (by decide +kernel) rfl
  have s1 : ∀ x : Str, isiV k_l_is_error.hot.isa (.dat (.str x)) .str = some true := fun _ => rfl
  have er : h_l_is_error.m [.exc "BadPlace" ["index", "word"] [.int k, .str "BadPlace"], .str "BadPlace"] = some (.ok (.dat (.bl true))) := by
    simp [h_l_is_error, b_l_is_error, mk_m, rb_nil, rb_cons, rb_frz, frz_own, frz_dat, frz_no, nxt_nx, nxt_rt, nxt_er, nxt_bk, nxt_ct, rs_asg, asg_dat, asg_fr, asg_er, rs_app, app_dat, app_fr, rs_setL, set_dat, rs_iff, iteS_t, iteS_f, rs_for, for_ok, ef_rg, rs_ret, ret_dat, ret_fr, ret_er, rs_retV, retV_dat, retV_own, rs_retN, rs_brk, rs_cnt, rs_pas, rn_expr, drop_ok, drop_er, rs_rais, rs_tri, tri_nx, tri_rt, endF_rt, endF_nx, endF_er, ev_var, var_dat, var_own, ev_int, ev_str, ev_bl, ev_non, ev_bin, ev_neg, neg_int, ev_cmp, ev_ix, ev_nott, not_bl, ev_tup, tupV_ok, tupM_ok, ev_lst, lstU_ok, lstM_ok, toDs_nil, toDs_cd, toDs_cf, Option.map_some, ev_dictT, ea_nil, ea_cons, ac_ok, ev_bi, bi_ok, ev_call, call_ok, ev_sl, sl_ok, eo_no, eo_so, so_ok, ev_get, get_br, get_dat, ev_attr, ev_isi, ev_ife, iteE_t, iteE_f, ev_andd, ev_orr, en_1, en_2, er_1, er_2, andU_t, andU_f, orU_t, orU_f, et_andd, et_orr, et_nott, notT_ok, et_cmp, et_var, et_isi, et_call, et_ix, et_chain, chT_ok, tru_bl, ent_1, ent_2, ert_1, ert_2, andT_t, andT_f, orT_t, orT_f, ev_lc, it_fr, it_dl, it_dt, it_br, rai_f, es_it, es_rg, u1_ok, u2_ok, v1_ok, v2_ok, optR_some, blR_some, bin_add, bin_sub, cmp_lt, cmp_le, cmp_gt, cmp_ge, cmp_eq, cmp_ne, cmp_eqs, cmp_nes, bi_int, bi_lenl, bi_lent, bi_lenb, bi_lenf, List.getElem?_cons_zero, List.getElem?_cons_succ, List.set_cons_zero, List.set_cons_succ, List.cons_append, List.nil_append, List.map_cons, List.map_nil, List.replicate, List.length_map, isi_exc, e5, e6, f1, s1]
  have in1 : h_l_is_integer.m [.int k] = some (.ok (.dat (.bl true))) := by
    simp [h_l_is_integer, b_l_is_integer, mk_m, rb_nil, rb_cons, rb_frz, frz_own, frz_dat, frz_no, nxt_nx, nxt_rt, nxt_er, nxt_bk, nxt_ct, rs_asg, asg_dat, asg_fr, asg_er, rs_app, app_dat, app_fr, rs_setL, set_dat, rs_iff, iteS_t, iteS_f, rs_for, for_ok, ef_rg, rs_ret, ret_dat, ret_fr, ret_er, rs_retV, retV_dat, retV_own, rs_retN, rs_brk, rs_cnt, rs_pas, rn_expr, drop_ok, drop_er, rs_rais, rs_tri, tri_nx, tri_rt, endF_rt, endF_nx, endF_er, ev_var, var_dat, var_own, ev_int, ev_str, ev_bl, ev_non, ev_bin, ev_neg, neg_int, ev_cmp, ev_ix, ev_nott, not_bl, ev_tup, tupV_ok, tupM_ok, ev_lst, lstU_ok, lstM_ok, toDs_nil, toDs_cd, toDs_cf, Option.map_some, ev_dictT, ea_nil, ea_cons, ac_ok, ev_bi, bi_ok, ev_call, call_ok, ev_sl, sl_ok, eo_no, eo_so, so_ok, ev_get, get_br, get_dat, ev_attr, ev_isi, ev_ife, iteE_t, iteE_f, ev_andd, ev_orr, en_1, en_2, er_1, er_2, andU_t, andU_f, orU_t, orU_f, et_andd, et_orr, et_nott, notT_ok, et_cmp, et_var, et_isi, et_call, et_ix, et_chain, chT_ok, tru_bl, ent_1, ent_2, ert_1, ert_2, andT_t, andT_f, orT_t, orT_f, ev_lc, it_fr, it_dl, it_dt, it_br, rai_f, es_it, es_rg, u1_ok, u2_ok, v1_ok, v2_ok, optR_some, blR_some, bin_add, bin_sub, cmp_lt, cmp_le, cmp_gt, cmp_ge, cmp_eq, cmp_ne, cmp_eqs, cmp_nes, bi_int, bi_lenl, bi_lent, bi_lenb, bi_lenf, List.getElem?_cons_zero, List.getElem?_cons_succ, List.set_cons_zero, List.set_cons_succ, List.cons_append, List.nil_append, List.map_cons, List.map_nil, List.replicate, List.length_map, isiV, tyD, isTy, RV.d]
  have c1 : callV h_l_is_error [.dat (.exc "BadPlace" ["index", "word"] [.int k, .str "BadPlace"]), .dat (.str "BadPlace")] = some (.ok (.dat (.bl true))) := callV_ok rfl er rfl fun z => nomatch z
  have c2 : callV h_l_is_integer [.dat (.int k)] = some (.ok (.dat (.bl true))) := callV_ok rfl in1 rfl fun z => nomatch z
  simp [h_l_refused, b_l_refused, mk_m, rb_nil, rb_cons, rb_frz, frz_own, frz_dat, frz_no, nxt_nx, nxt_rt, nxt_er, nxt_bk, nxt_ct, rs_asg, asg_dat, asg_fr, asg_er, rs_app, app_dat, app_fr, rs_setL, set_dat, rs_iff, iteS_t, iteS_f, rs_for, for_ok, ef_rg, rs_ret, ret_dat, ret_fr, ret_er, rs_retV, retV_dat, retV_own, rs_retN, rs_brk, rs_cnt, rs_pas, rn_expr, drop_ok, drop_er, rs_rais, rs_tri, tri_nx, tri_rt, endF_rt, endF_nx, endF_er, ev_var, var_dat, var_own, ev_int, ev_str, ev_bl, ev_non, ev_bin, ev_neg, neg_int, ev_cmp, ev_ix, ev_nott, not_bl, ev_tup, tupV_ok, tupM_ok, ev_lst, lstU_ok, lstM_ok, toDs_nil, toDs_cd, toDs_cf, Option.map_some, ev_dictT, ea_nil, ea_cons, ac_ok, ev_bi, bi_ok, ev_call, call_ok, ev_sl, sl_ok, eo_no, eo_so, so_ok, ev_get, get_br, get_dat, ev_attr, ev_isi, ev_ife, iteE_t, iteE_f, ev_andd, ev_orr, en_1, en_2, er_1, er_2, andU_t, andU_f, orU_t, orU_f, et_andd, et_orr, et_nott, notT_ok, et_cmp, et_var, et_isi, et_call, et_ix, et_chain, chT_ok, tru_bl, ent_1, ent_2, ert_1, ert_2, andT_t, andT_f, orT_t, orT_f, ev_lc, it_fr, it_dl, it_dt, it_br, rai_f, es_it, es_rg, u1_ok, u2_ok, v1_ok, v2_ok, optR_some, blR_some, bin_add, bin_sub, cmp_lt, cmp_le, cmp_gt, cmp_ge, cmp_eq, cmp_ne, cmp_eqs, cmp_nes, bi_int, bi_lenl, bi_lent, bi_lenb, bi_lenf, List.getElem?_cons_zero, List.getElem?_cons_succ, List.set_cons_zero, List.set_cons_succ, List.cons_append, List.nil_append, List.map_cons, List.map_nil, List.replicate, List.length_map, ixt_0, ixt_1, isi_exc, e1, e2, e3, e4, TH_l_refused_0, TH_l_refused_1, c1, c2, f2]
theorem mixed_bad : decide (("MixedDimensions" : Str) = "BadPlace") = false := by decide +kernel
theorem refused_mixed : h_l_refused.m [.exc "MixedDimensions" ["word"] [.str "MixedDimensions"], .tup [.str "MixedDimensions", .int 0]] = some (.ok (.dat (.bl true))) := by
  have e1 : k_l_refused.hot.isa "MixedDimensions" "OneDirectionOnly" = some false := rfl
  have e2 : k_l_refused.hot.isa "MixedDimensions" "ZeroRow" = some false := rfl
  have e3 : k_l_refused.hot.isa "MixedDimensions" "BadPlace" = some false := rfl
  have e4 : k_l_refused.hot.isa "MixedDimensions" "MixedDimensions" = some true := rfl
  have e5 : k_l_is_error.hot.isa "MixedDimensions" "TableError" = some true := rfl
  have e6 : k_l_is_error.hot.isa "MixedDimensions" "ValueError" = some true := rfl
  have f1 : attrV k_l_is_error.hot.fld (.dat (.exc "MixedDimensions" ["word"] [.str "MixedDimensions"])) "word" = some (.dat (.str "MixedDimensions")) := attr_ok (by decide +kernel) rfl
  have s1 : ∀ x : Str, isiV k_l_is_error.hot.isa (.dat (.str x)) .str = some true := fun _ => rfl
  have er : h_l_is_error.m [.exc "MixedDimensions" ["word"] [.str "MixedDimensions"], .str "MixedDimensions"] = some (.ok (.dat (.bl true))) := by
    simp [h_l_is_error, b_l_is_error, mk_m, rb_nil, rb_cons, rb_frz, frz_own, frz_dat, frz_no, nxt_nx, nxt_rt, nxt_er, nxt_bk, nxt_ct, rs_asg, asg_dat, asg_fr, asg_er, rs_app, app_dat, app_fr, rs_setL, set_dat, rs_iff, iteS_t, iteS_f, rs_for, for_ok, ef_rg, rs_ret, ret_dat, ret_fr, ret_er, rs_retV, retV_dat, retV_own, rs_retN, rs_brk, rs_cnt, rs_pas, rn_expr, drop_ok, drop_er, rs_rais, rs_tri, tri_nx, tri_rt, endF_rt, endF_nx, endF_er, ev_var, var_dat, var_own, ev_int, ev_str, ev_bl, ev_non, ev_bin, ev_neg, neg_int, ev_cmp, ev_ix, ev_nott, not_bl, ev_tup, tupV_ok, tupM_ok, ev_lst, lstU_ok, lstM_ok, toDs_nil, toDs_cd, toDs_cf, Option.map_some, ev_dictT, ea_nil, ea_cons, ac_ok, ev_bi, bi_ok, ev_call, call_ok, ev_sl, sl_ok, eo_no, eo_so, so_ok, ev_get, get_br, get_dat, ev_attr, ev_isi, ev_ife, iteE_t, iteE_f, ev_andd, ev_orr, en_1, en_2, er_1, er_2, andU_t, andU_f, orU_t, orU_f, et_andd, et_orr, et_nott, notT_ok, et_cmp, et_var, et_isi, et_call, et_ix, et_chain, chT_ok, tru_bl, ent_1, ent_2, ert_1, ert_2, andT_t, andT_f, orT_t, orT_f, ev_lc, it_fr, it_dl, it_dt, it_br, rai_f, es_it, es_rg, u1_ok, u2_ok, v1_ok, v2_ok, optR_some, blR_some, bin_add, bin_sub, cmp_lt, cmp_le, cmp_gt, cmp_ge, cmp_eq, cmp_ne, cmp_eqs, cmp_nes, bi_int, bi_lenl, bi_lent, bi_lenb, bi_lenf, List.getElem?_cons_zero, List.getElem?_cons_succ, List.set_cons_zero, List.set_cons_succ, List.cons_append, List.nil_append, List.map_cons, List.map_nil, List.replicate, List.length_map, isi_exc, e5, e6, f1, s1]
  have c1 : callV h_l_is_error [.dat (.exc "MixedDimensions" ["word"] [.str "MixedDimensions"]), .dat (.str "MixedDimensions")] = some (.ok (.dat (.bl true))) := callV_ok rfl er rfl fun z => nomatch z
  simp [h_l_refused, b_l_refused, mk_m, rb_nil, rb_cons, rb_frz, frz_own, frz_dat, frz_no, nxt_nx, nxt_rt, nxt_er, nxt_bk, nxt_ct, rs_asg, asg_dat, asg_fr, asg_er, rs_app, app_dat, app_fr, rs_setL, set_dat, rs_iff, iteS_t, iteS_f, rs_for, for_ok, ef_rg, rs_ret, ret_dat, ret_fr, ret_er, rs_retV, retV_dat, retV_own, rs_retN, rs_brk, rs_cnt, rs_pas, rn_expr, drop_ok, drop_er, rs_rais, rs_tri, tri_nx, tri_rt, endF_rt, endF_nx, endF_er, ev_var, var_dat, var_own, ev_int, ev_str, ev_bl, ev_non, ev_bin, ev_neg, neg_int, ev_cmp, ev_ix, ev_nott, not_bl, ev_tup, tupV_ok, tupM_ok, ev_lst, lstU_ok, lstM_ok, toDs_nil, toDs_cd, toDs_cf, Option.map_some, ev_dictT, ea_nil, ea_cons, ac_ok, ev_bi, bi_ok, ev_call, call_ok, ev_sl, sl_ok, eo_no, eo_so, so_ok, ev_get, get_br, get_dat, ev_attr, ev_isi, ev_ife, iteE_t, iteE_f, ev_andd, ev_orr, en_1, en_2, er_1, er_2, andU_t, andU_f, orU_t, orU_f, et_andd, et_orr, et_nott, notT_ok, et_cmp, et_var, et_isi, et_call, et_ix, et_chain, chT_ok, tru_bl, ent_1, ent_2, ert_1, ert_2, andT_t, andT_f, orT_t, orT_f, ev_lc, it_fr, it_dl, it_dt, it_br, rai_f, es_it, es_rg, u1_ok, u2_ok, v1_ok, v2_ok, optR_some, blR_some, bin_add, bin_sub, cmp_lt, cmp_le, cmp_gt, cmp_ge, cmp_eq, cmp_ne, cmp_eqs, cmp_nes, bi_int, bi_lenl, bi_lent, bi_lenb, bi_lenf, List.getElem?_cons_zero, List.getElem?_cons_succ, List.set_cons_zero, List.set_cons_succ, List.cons_append, List.nil_append, List.map_cons, List.map_nil, List.replicate, List.length_map, ixt_0, ixt_1, isi_exc, e1, e2, e3, e4, TH_l_refused_0, TH_l_refused_1, c1, mixed_bad]
theorem put_l {i : Nat} {ρ : Rho} {es : List Ent} {k : Int} {p : Pl} {n : Int} (h0 : 0 ≤ k) (hk : k < es.length) : putX i ρ (.tup [pD p, .int n]) (.l (es.map eD)) (.dat (.int k)) = some (.nx (ρ.set i (some (.own (.l ((es.set k.toNat (p, n)).map eD)))))) := by
  have e : ixN (es.map eD).length k = some k.toNat := by
    unfold ixN
    rw [if_pos h0, List.length_map, if_pos (by omega)]
  show (match ixN (es.map eD).length k with
    | some n' => some (SO.nx (ρ.set i (some (.own (.l ((es.map eD).set n' (.tup [pD p, .int n])))))))
    | none => none) = _
  rw [e, List.map_set]
  rfl
theorem put_l0 {i : Nat} {ρ : Rho} {es : List Ent} {k : Int} {n : Int} (h0 : 0 ≤ k) (hk : k < es.length) : putX i ρ (.tup [.tup [], .int n]) (.l (es.map eD)) (.dat (.int k)) = some (.nx (ρ.set i (some (.own (.l ((es.set k.toNat ([], n)).map eD)))))) := put_l (p := []) h0 hk
theorem idx_e {es : List Ent} {k : Int} (h0 : 0 ≤ k) (hk : k < es.length) : ∃ e : Ent, ixW (.dat (.lst (es.map eD))) (.dat (.int k)) = some (.dat (.tup [pD e.1, .int e.2])) := by
  have hx : k.toNat < es.length := by omega
  exact ⟨es[k.toNat], ix_l (atI_get h0 (by rw [List.getElem?_map, List.getElem?_eq_getElem hx]; rfl))⟩
theorem lc_rng {C : Cfg} {ρ : Rho} {e : IE} {j n : Nat} (f : Int → Int) (hn : n ≤ 1000) (h : ∀ i : Int, evE C e (ρ.set j (some (.dat (.int i)))) = some (.ok (.dat (.int (f i))))) : ∃ p : Pl, lcU (some (.ok (rangeD 0 n))) (turnL (.n j) (evIf C .no) (evE C e) ρ) = some (.ok (.fr (.l (p.map D.int)))) := by
  have hr : ∀ (n : Nat) (lo : Int), ∃ q : List Int, rangeD lo n = q.map D.int := fun n => by
    induction n with
    | zero => exact fun _ => ⟨[], rfl⟩
    | succ n ih =>
      intro lo
      obtain ⟨q, hq⟩ := ih (lo + 1)
      exact ⟨lo :: q, by show D.int lo :: rangeD (lo + 1) n = _; rw [hq]; rfl⟩
  obtain ⟨q, hq⟩ := hr n 0
  have ql : q.length ≤ 1000 := by
    have := congrArg List.length hq
    rw [rangeD_len, List.length_map] at this
    omega
  refine ⟨q.map f, ?_⟩
  rw [hq]
  refine lc_ok (by rw [List.length_map]; omega) ?_
  rw [List.map_map]
  exact compL_of fun i _ => turn_no (ρ' := ρ.set j (some (.dat (.int i)))) (x := .dat (.int (f i))) rfl (h i) rfl
theorem add_e {a b : List D} (h : a.length + b.length ≤ 16777216) : binV .add (.fr (.l a)) (.fr (.l b)) = some (.fr (.l (a ++ b))) := by
  show (if a.length + b.length ≤ 16777216 then _ else _) = _
  rw [if_pos h]
theorem bi_lst (ds : List D) : biV .lst [.dat (.lst ds)] = some (.fr (.l ds)) := rfl
theorem bi_tupf (p : Pl) : biV .tup [.fr (.l (p.map D.int))] = some (.dat (pD p)) := rfl
theorem spoilt_spec (es : List Ent) (sz d0 d1 d2 d3 d4 : Int) (h0 : 0 ≤ d0 ∧ d0 < 8) (h3 : 0 ≤ d3 ∧ d3 < 4) (hl : es.length < 100) : ∃ es' : List Ent, f_l_spoilt.m [.lst (es.map eD), .int sz, .lst [.int d0, .int d1, .int d2, .int d3, .int d4]] = some (.ok (.fr (.l (es'.map eD)))) ∧ es'.length < 1000 := by
  by_cases hz : es.length = 0
  · exact ⟨es, by simp [f_l_spoilt, b_l_spoilt, mk_m, rb_nil, rb_cons, rb_frz, frz_own, frz_dat, frz_no, nxt_nx, nxt_rt, nxt_er, nxt_bk, nxt_ct, rs_asg, asg_dat, asg_fr, asg_er, rs_app, app_dat, app_fr, rs_setL, set_dat, rs_iff, iteS_t, iteS_f, rs_for, for_ok, ef_rg, rs_ret, ret_dat, ret_fr, ret_er, rs_retV, retV_dat, retV_own, rs_retN, rs_brk, rs_cnt, rs_pas, rn_expr, drop_ok, drop_er, rs_rais, rs_tri, tri_nx, tri_rt, endF_rt, endF_nx, endF_er, ev_var, var_dat, var_own, ev_int, ev_str, ev_bl, ev_non, ev_bin, ev_neg, neg_int, ev_cmp, ev_ix, ev_nott, not_bl, ev_tup, tupV_ok, tupM_ok, ev_lst, lstU_ok, lstM_ok, toDs_nil, toDs_cd, toDs_cf, Option.map_some, ev_dictT, ea_nil, ea_cons, ac_ok, ev_bi, bi_ok, ev_call, call_ok, ev_sl, sl_ok, eo_no, eo_so, so_ok, ev_get, get_br, get_dat, ev_attr, ev_isi, ev_ife, iteE_t, iteE_f, ev_andd, ev_orr, en_1, en_2, er_1, er_2, andU_t, andU_f, orU_t, orU_f, et_andd, et_orr, et_nott, notT_ok, et_cmp, et_var, et_isi, et_call, et_ix, et_chain, chT_ok, tru_bl, ent_1, ent_2, ert_1, ert_2, andT_t, andT_f, orT_t, orT_f, ev_lc, it_fr, it_dl, it_dt, it_br, rai_f, es_it, es_rg, u1_ok, u2_ok, v1_ok, v2_ok, optR_some, blR_some, bin_add, bin_sub, cmp_lt, cmp_le, cmp_gt, cmp_ge, cmp_eq, cmp_ne, cmp_eqs, cmp_nes, bi_int, bi_lenl, bi_lent, bi_lenb, bi_lenf, List.getElem?_cons_zero, List.getElem?_cons_succ, List.set_cons_zero, List.set_cons_succ, List.cons_append, List.nil_append, List.map_cons, List.map_nil, List.replicate, List.length_map, bi_lst, hz], by omega⟩
  · have hn : (es.length : Int) ≠ 0 := by omega
    obtain ⟨k1, m1, a1, b1⟩ : ∃ k, binV .mod (.dat (.int d1)) (.dat (.int es.length)) = some (.dat (.int k)) ∧ 0 ≤ k ∧ k < es.length := ⟨_, bin_mod hn, (fmod_bd (by omega)).1, (fmod_bd (by omega)).2⟩
    obtain ⟨k2, m2, a2, b2⟩ : ∃ k, binV .mod (.dat (.int d2)) (.dat (.int es.length)) = some (.dat (.int k)) ∧ 0 ≤ k ∧ k < es.length := ⟨_, bin_mod hn, (fmod_bd (by omega)).1, (fmod_bd (by omega)).2⟩
    obtain ⟨q, m3, a3, b3⟩ : ∃ k, binV .mod (.dat (.int (sz + d4))) (.dat (.int 3)) = some (.dat (.int k)) ∧ 0 ≤ k ∧ k < 3 := ⟨_, bin_mod (by decide), (fmod_bd (by decide)).1, (fmod_bd (by decide)).2⟩
    obtain ⟨e1, x1⟩ := idx_e a1 b1
    obtain ⟨e2, x2⟩ := idx_e a2 b2
    obtain ⟨n, hn6, r1, x3⟩ : ∃ n : Nat, n ≤ 6 ∧ rgU (some (.ok [.dat (.int n)])) = some (.ok (rangeD 0 n)) ∧ ixW (.fr (.l [.int 0, .int 4, .int 5, .int 6])) (.dat (.int d3)) = some (.dat (.int n)) := by
      rcases (by omega : d3 = 0 ∨ d3 = 1 ∨ d3 = 2 ∨ d3 = 3) with rfl | rfl | rfl | rfl
      · exact ⟨0, by omega, rfl, rfl⟩
      · exact ⟨4, by omega, rfl, rfl⟩
      · exact ⟨5, by omega, rfl, rfl⟩
      · exact ⟨6, by omega, rfl, rfl⟩
    have r2 : rgU (some (.ok [.dat (.int (1 + q))])) = some (.ok (rangeD 0 (1 + q).toNat)) := rg_1 (by unfold ints62; simp; omega)
    obtain ⟨pb, lb⟩ := lc_rng (C := c_l_spoilt) (ρ := [some (.dat (.lst (es.map eD))), some (.dat (.int sz)), some (.dat (.lst [.int d0, .int d1, .int d2, .int d3, .int d4])), some (.own (.l (es.map eD))), some (.dat (.int d0)), some (.dat (.int k1)), some (.dat (.int k2)), none, none, none]) (e := .bin .sub (.var 7) (.int 1)) (j := 7) (n := n) (fun i => i - 1) (by omega) (fun i => by simp [mk_m, rb_nil, rb_cons, rb_frz, frz_own, frz_dat, frz_no, nxt_nx, nxt_rt, nxt_er, nxt_bk, nxt_ct, rs_asg, asg_dat, asg_fr, asg_er, rs_app, app_dat, app_fr, rs_setL, set_dat, rs_iff, iteS_t, iteS_f, rs_for, for_ok, ef_rg, rs_ret, ret_dat, ret_fr, ret_er, rs_retV, retV_dat, retV_own, rs_retN, rs_brk, rs_cnt, rs_pas, rn_expr, drop_ok, drop_er, rs_rais, rs_tri, tri_nx, tri_rt, endF_rt, endF_nx, endF_er, ev_var, var_dat, var_own, ev_int, ev_str, ev_bl, ev_non, ev_bin, ev_neg, neg_int, ev_cmp, ev_ix, ev_nott, not_bl, ev_tup, tupV_ok, tupM_ok, ev_lst, lstU_ok, lstM_ok, toDs_nil, toDs_cd, toDs_cf, Option.map_some, ev_dictT, ea_nil, ea_cons, ac_ok, ev_bi, bi_ok, ev_call, call_ok, ev_sl, sl_ok, eo_no, eo_so, so_ok, ev_get, get_br, get_dat, ev_attr, ev_isi, ev_ife, iteE_t, iteE_f, ev_andd, ev_orr, en_1, en_2, er_1, er_2, andU_t, andU_f, orU_t, orU_f, et_andd, et_orr, et_nott, notT_ok, et_cmp, et_var, et_isi, et_call, et_ix, et_chain, chT_ok, tru_bl, ent_1, ent_2, ert_1, ert_2, andT_t, andT_f, orT_t, orT_f, ev_lc, it_fr, it_dl, it_dt, it_br, rai_f, es_it, es_rg, u1_ok, u2_ok, v1_ok, v2_ok, optR_some, blR_some, bin_add, bin_sub, cmp_lt, cmp_le, cmp_gt, cmp_ge, cmp_eq, cmp_ne, cmp_eqs, cmp_nes, bi_int, bi_lenl, bi_lent, bi_lenb, bi_lenf, List.getElem?_cons_zero, List.getElem?_cons_succ, List.set_cons_zero, List.set_cons_succ, List.cons_append, List.nil_append, List.map_cons, List.map_nil, List.replicate, List.length_map])
    obtain ⟨po, lo⟩ := lc_rng (C := c_l_spoilt) (ρ := [some (.dat (.lst (es.map eD))), some (.dat (.int sz)), some (.dat (.lst [.int d0, .int d1, .int d2, .int d3, .int d4])), some (.own (.l (es.map eD))), some (.dat (.int d0)), some (.dat (.int k1)), some (.dat (.int k2)), none, some (.dat (pD pb)), none]) (e := .var 7) (j := 7) (n := (1 + q).toNat) (fun i => i) (by omega) (fun i => by simp [mk_m, rb_nil, rb_cons, rb_frz, frz_own, frz_dat, frz_no, nxt_nx, nxt_rt, nxt_er, nxt_bk, nxt_ct, rs_asg, asg_dat, asg_fr, asg_er, rs_app, app_dat, app_fr, rs_setL, set_dat, rs_iff, iteS_t, iteS_f, rs_for, for_ok, ef_rg, rs_ret, ret_dat, ret_fr, ret_er, rs_retV, retV_dat, retV_own, rs_retN, rs_brk, rs_cnt, rs_pas, rn_expr, drop_ok, drop_er, rs_rais, rs_tri, tri_nx, tri_rt, endF_rt, endF_nx, endF_er, ev_var, var_dat, var_own, ev_int, ev_str, ev_bl, ev_non, ev_bin, ev_neg, neg_int, ev_cmp, ev_ix, ev_nott, not_bl, ev_tup, tupV_ok, tupM_ok, ev_lst, lstU_ok, lstM_ok, toDs_nil, toDs_cd, toDs_cf, Option.map_some, ev_dictT, ea_nil, ea_cons, ac_ok, ev_bi, bi_ok, ev_call, call_ok, ev_sl, sl_ok, eo_no, eo_so, so_ok, ev_get, get_br, get_dat, ev_attr, ev_isi, ev_ife, iteE_t, iteE_f, ev_andd, ev_orr, en_1, en_2, er_1, er_2, andU_t, andU_f, orU_t, orU_f, et_andd, et_orr, et_nott, notT_ok, et_cmp, et_var, et_isi, et_call, et_ix, et_chain, chT_ok, tru_bl, ent_1, ent_2, ert_1, ert_2, andT_t, andT_f, orT_t, orT_f, ev_lc, it_fr, it_dl, it_dt, it_br, rai_f, es_it, es_rg, u1_ok, u2_ok, v1_ok, v2_ok, optR_some, blR_some, bin_add, bin_sub, cmp_lt, cmp_le, cmp_gt, cmp_ge, cmp_eq, cmp_ne, cmp_eqs, cmp_nes, bi_int, bi_lenl, bi_lent, bi_lenb, bi_lenf, List.getElem?_cons_zero, List.getElem?_cons_succ, List.set_cons_zero, List.set_cons_succ, List.cons_append, List.nil_append, List.map_cons, List.map_nil, List.replicate, List.length_map])
    have hz' : ¬ es = [] := fun z => hz (by rw [z]; rfl)
    have ad : ∀ b : List D, b.length = 2 → binV .add (.fr (.l (es.map eD))) (.fr (.l b)) = some (.fr (.l (es.map eD ++ b))) := fun b hb => add_e (by rw [List.length_map]; omega)
    have ad' := ad [.tup [pD po, .int 3], .tup [pD po, .int (-3)]] rfl
    rcases (by omega : d0 = 0 ∨ d0 = 1 ∨ d0 = 2 ∨ d0 = 3 ∨ d0 = 4 ∨ d0 = 5 ∨ d0 = 6 ∨ d0 = 7) with rfl | rfl | rfl | rfl | rfl | rfl | rfl | rfl
    · exact ⟨es, by simp [f_l_spoilt, b_l_spoilt, mk_m, rb_nil, rb_cons, rb_frz, frz_own, frz_dat, frz_no, nxt_nx, nxt_rt, nxt_er, nxt_bk, nxt_ct, rs_asg, asg_dat, asg_fr, asg_er, rs_app, app_dat, app_fr, rs_setL, set_dat, rs_iff, iteS_t, iteS_f, rs_for, for_ok, ef_rg, rs_ret, ret_dat, ret_fr, ret_er, rs_retV, retV_dat, retV_own, rs_retN, rs_brk, rs_cnt, rs_pas, rn_expr, drop_ok, drop_er, rs_rais, rs_tri, tri_nx, tri_rt, endF_rt, endF_nx, endF_er, ev_var, var_dat, var_own, ev_int, ev_str, ev_bl, ev_non, ev_bin, ev_neg, neg_int, ev_cmp, ev_ix, ev_nott, not_bl, ev_tup, tupV_ok, tupM_ok, ev_lst, lstU_ok, lstM_ok, toDs_nil, toDs_cd, toDs_cf, Option.map_some, ev_dictT, ea_nil, ea_cons, ac_ok, ev_bi, bi_ok, ev_call, call_ok, ev_sl, sl_ok, eo_no, eo_so, so_ok, ev_get, get_br, get_dat, ev_attr, ev_isi, ev_ife, iteE_t, iteE_f, ev_andd, ev_orr, en_1, en_2, er_1, er_2, andU_t, andU_f, orU_t, orU_f, et_andd, et_orr, et_nott, notT_ok, et_cmp, et_var, et_isi, et_call, et_ix, et_chain, chT_ok, tru_bl, ent_1, ent_2, ert_1, ert_2, andT_t, andT_f, orT_t, orT_f, ev_lc, it_fr, it_dl, it_dt, it_br, rai_f, es_it, es_rg, u1_ok, u2_ok, v1_ok, v2_ok, optR_some, blR_some, bin_add, bin_sub, cmp_lt, cmp_le, cmp_gt, cmp_ge, cmp_eq, cmp_ne, cmp_eqs, cmp_nes, bi_int, bi_lenl, bi_lent, bi_lenb, bi_lenf, List.getElem?_cons_zero, List.getElem?_cons_succ, List.set_cons_zero, List.set_cons_succ, List.cons_append, List.nil_append, List.map_cons, List.map_nil, List.replicate, List.length_map, ixl_0, ixt_0, ixb_0, ixf_0, ixl_1, ixt_1, ixb_1, ixf_1, ixl_2, ixt_2, ixb_2, ixf_2, ixl_3, ixt_3, ixb_3, ixf_3, ixl_4, ixt_4, ixb_4, ixf_4, ixl_5, ixt_5, ixb_5, ixf_5, ixl_6, ixt_6, ixb_6, ixf_6, ixl_7, ixt_7, ixb_7, ixf_7, ixl_8, ixt_8, ixb_8, ixf_8, ixl_9, ixt_9, ixb_9, ixf_9, ixl_10, ixt_10, ixb_10, ixf_10, ixl_11, ixt_11, ixb_11, ixf_11, ixl_12, ixt_12, ixb_12, ixf_12, ixl_13, ixt_13, ixb_13, ixf_13, ixl_14, ixt_14, ixb_14, ixf_14, ixl_15, ixt_15, ixb_15, ixf_15, bi_lst, hz, hz', m1, m2, m3, r1, r2, x1, x2, x3, lb, lo, bi_tupf], by omega⟩
    · exact ⟨es, by simp [f_l_spoilt, b_l_spoilt, mk_m, rb_nil, rb_cons, rb_frz, frz_own, frz_dat, frz_no, nxt_nx, nxt_rt, nxt_er, nxt_bk, nxt_ct, rs_asg, asg_dat, asg_fr, asg_er, rs_app, app_dat, app_fr, rs_setL, set_dat, rs_iff, iteS_t, iteS_f, rs_for, for_ok, ef_rg, rs_ret, ret_dat, ret_fr, ret_er, rs_retV, retV_dat, retV_own, rs_retN, rs_brk, rs_cnt, rs_pas, rn_expr, drop_ok, drop_er, rs_rais, rs_tri, tri_nx, tri_rt, endF_rt, endF_nx, endF_er, ev_var, var_dat, var_own, ev_int, ev_str, ev_bl, ev_non, ev_bin, ev_neg, neg_int, ev_cmp, ev_ix, ev_nott, not_bl, ev_tup, tupV_ok, tupM_ok, ev_lst, lstU_ok, lstM_ok, toDs_nil, toDs_cd, toDs_cf, Option.map_some, ev_dictT, ea_nil, ea_cons, ac_ok, ev_bi, bi_ok, ev_call, call_ok, ev_sl, sl_ok, eo_no, eo_so, so_ok, ev_get, get_br, get_dat, ev_attr, ev_isi, ev_ife, iteE_t, iteE_f, ev_andd, ev_orr, en_1, en_2, er_1, er_2, andU_t, andU_f, orU_t, orU_f, et_andd, et_orr, et_nott, notT_ok, et_cmp, et_var, et_isi, et_call, et_ix, et_chain, chT_ok, tru_bl, ent_1, ent_2, ert_1, ert_2, andT_t, andT_f, orT_t, orT_f, ev_lc, it_fr, it_dl, it_dt, it_br, rai_f, es_it, es_rg, u1_ok, u2_ok, v1_ok, v2_ok, optR_some, blR_some, bin_add, bin_sub, cmp_lt, cmp_le, cmp_gt, cmp_ge, cmp_eq, cmp_ne, cmp_eqs, cmp_nes, bi_int, bi_lenl, bi_lent, bi_lenb, bi_lenf, List.getElem?_cons_zero, List.getElem?_cons_succ, List.set_cons_zero, List.set_cons_succ, List.cons_append, List.nil_append, List.map_cons, List.map_nil, List.replicate, List.length_map, ixl_0, ixt_0, ixb_0, ixf_0, ixl_1, ixt_1, ixb_1, ixf_1, ixl_2, ixt_2, ixb_2, ixf_2, ixl_3, ixt_3, ixb_3, ixf_3, ixl_4, ixt_4, ixb_4, ixf_4, ixl_5, ixt_5, ixb_5, ixf_5, ixl_6, ixt_6, ixb_6, ixf_6, ixl_7, ixt_7, ixb_7, ixf_7, ixl_8, ixt_8, ixb_8, ixf_8, ixl_9, ixt_9, ixb_9, ixf_9, ixl_10, ixt_10, ixb_10, ixf_10, ixl_11, ixt_11, ixb_11, ixf_11, ixl_12, ixt_12, ixb_12, ixf_12, ixl_13, ixt_13, ixb_13, ixf_13, ixl_14, ixt_14, ixb_14, ixf_14, ixl_15, ixt_15, ixb_15, ixf_15, bi_lst, hz, hz', m1, m2, m3, r1, r2, x1, x2, x3, lb, lo, bi_tupf], by omega⟩
    · exact ⟨es, by simp [f_l_spoilt, b_l_spoilt, mk_m, rb_nil, rb_cons, rb_frz, frz_own, frz_dat, frz_no, nxt_nx, nxt_rt, nxt_er, nxt_bk, nxt_ct, rs_asg, asg_dat, asg_fr, asg_er, rs_app, app_dat, app_fr, rs_setL, set_dat, rs_iff, iteS_t, iteS_f, rs_for, for_ok, ef_rg, rs_ret, ret_dat, ret_fr, ret_er, rs_retV, retV_dat, retV_own, rs_retN, rs_brk, rs_cnt, rs_pas, rn_expr, drop_ok, drop_er, rs_rais, rs_tri, tri_nx, tri_rt, endF_rt, endF_nx, endF_er, ev_var, var_dat, var_own, ev_int, ev_str, ev_bl, ev_non, ev_bin, ev_neg, neg_int, ev_cmp, ev_ix, ev_nott, not_bl, ev_tup, tupV_ok, tupM_ok, ev_lst, lstU_ok, lstM_ok, toDs_nil, toDs_cd, toDs_cf, Option.map_some, ev_dictT, ea_nil, ea_cons, ac_ok, ev_bi, bi_ok, ev_call, call_ok, ev_sl, sl_ok, eo_no, eo_so, so_ok, ev_get, get_br, get_dat, ev_attr, ev_isi, ev_ife, iteE_t, iteE_f, ev_andd, ev_orr, en_1, en_2, er_1, er_2, andU_t, andU_f, orU_t, orU_f, et_andd, et_orr, et_nott, notT_ok, et_cmp, et_var, et_isi, et_call, et_ix, et_chain, chT_ok, tru_bl, ent_1, ent_2, ert_1, ert_2, andT_t, andT_f, orT_t, orT_f, ev_lc, it_fr, it_dl, it_dt, it_br, rai_f, es_it, es_rg, u1_ok, u2_ok, v1_ok, v2_ok, optR_some, blR_some, bin_add, bin_sub, cmp_lt, cmp_le, cmp_gt, cmp_ge, cmp_eq, cmp_ne, cmp_eqs, cmp_nes, bi_int, bi_lenl, bi_lent, bi_lenb, bi_lenf, List.getElem?_cons_zero, List.getElem?_cons_succ, List.set_cons_zero, List.set_cons_succ, List.cons_append, List.nil_append, List.map_cons, List.map_nil, List.replicate, List.length_map, ixl_0, ixt_0, ixb_0, ixf_0, ixl_1, ixt_1, ixb_1, ixf_1, ixl_2, ixt_2, ixb_2, ixf_2, ixl_3, ixt_3, ixb_3, ixf_3, ixl_4, ixt_4, ixb_4, ixf_4, ixl_5, ixt_5, ixb_5, ixf_5, ixl_6, ixt_6, ixb_6, ixf_6, ixl_7, ixt_7, ixb_7, ixf_7, ixl_8, ixt_8, ixb_8, ixf_8, ixl_9, ixt_9, ixb_9, ixf_9, ixl_10, ixt_10, ixb_10, ixf_10, ixl_11, ixt_11, ixb_11, ixf_11, ixl_12, ixt_12, ixb_12, ixf_12, ixl_13, ixt_13, ixb_13, ixf_13, ixl_14, ixt_14, ixb_14, ixf_14, ixl_15, ixt_15, ixb_15, ixf_15, bi_lst, hz, hz', m1, m2, m3, r1, r2, x1, x2, x3, lb, lo, bi_tupf], by omega⟩
    · exact ⟨es.set k1.toNat (pb, e1.2), by simp [f_l_spoilt, b_l_spoilt, mk_m, rb_nil, rb_cons, rb_frz, frz_own, frz_dat, frz_no, nxt_nx, nxt_rt, nxt_er, nxt_bk, nxt_ct, rs_asg, asg_dat, asg_fr, asg_er, rs_app, app_dat, app_fr, rs_setL, set_dat, rs_iff, iteS_t, iteS_f, rs_for, for_ok, ef_rg, rs_ret, ret_dat, ret_fr, ret_er, rs_retV, retV_dat, retV_own, rs_retN, rs_brk, rs_cnt, rs_pas, rn_expr, drop_ok, drop_er, rs_rais, rs_tri, tri_nx, tri_rt, endF_rt, endF_nx, endF_er, ev_var, var_dat, var_own, ev_int, ev_str, ev_bl, ev_non, ev_bin, ev_neg, neg_int, ev_cmp, ev_ix, ev_nott, not_bl, ev_tup, tupV_ok, tupM_ok, ev_lst, lstU_ok, lstM_ok, toDs_nil, toDs_cd, toDs_cf, Option.map_some, ev_dictT, ea_nil, ea_cons, ac_ok, ev_bi, bi_ok, ev_call, call_ok, ev_sl, sl_ok, eo_no, eo_so, so_ok, ev_get, get_br, get_dat, ev_attr, ev_isi, ev_ife, iteE_t, iteE_f, ev_andd, ev_orr, en_1, en_2, er_1, er_2, andU_t, andU_f, orU_t, orU_f, et_andd, et_orr, et_nott, notT_ok, et_cmp, et_var, et_isi, et_call, et_ix, et_chain, chT_ok, tru_bl, ent_1, ent_2, ert_1, ert_2, andT_t, andT_f, orT_t, orT_f, ev_lc, it_fr, it_dl, it_dt, it_br, rai_f, es_it, es_rg, u1_ok, u2_ok, v1_ok, v2_ok, optR_some, blR_some, bin_add, bin_sub, cmp_lt, cmp_le, cmp_gt, cmp_ge, cmp_eq, cmp_ne, cmp_eqs, cmp_nes, bi_int, bi_lenl, bi_lent, bi_lenb, bi_lenf, List.getElem?_cons_zero, List.getElem?_cons_succ, List.set_cons_zero, List.set_cons_succ, List.cons_append, List.nil_append, List.map_cons, List.map_nil, List.replicate, List.length_map, ixl_0, ixt_0, ixb_0, ixf_0, ixl_1, ixt_1, ixb_1, ixf_1, ixl_2, ixt_2, ixb_2, ixf_2, ixl_3, ixt_3, ixb_3, ixf_3, ixl_4, ixt_4, ixb_4, ixf_4, ixl_5, ixt_5, ixb_5, ixf_5, ixl_6, ixt_6, ixb_6, ixf_6, ixl_7, ixt_7, ixb_7, ixf_7, ixl_8, ixt_8, ixb_8, ixf_8, ixl_9, ixt_9, ixb_9, ixf_9, ixl_10, ixt_10, ixb_10, ixf_10, ixl_11, ixt_11, ixb_11, ixf_11, ixl_12, ixt_12, ixb_12, ixf_12, ixl_13, ixt_13, ixb_13, ixf_13, ixl_14, ixt_14, ixb_14, ixf_14, ixl_15, ixt_15, ixb_15, ixf_15, bi_lst, hz, hz', m1, m2, m3, r1, r2, x1, x2, x3, lb, lo, bi_tupf, put_l a1 b1], by simp; omega⟩
    · obtain ⟨fs, pf, lf⟩ : ∃ fs : List Ent, (∀ ρ, putX 3 ρ (.tup [.tup [], .int e2.2]) (.l (es.map eD)) (.dat (.int k2)) = some (.nx (ρ.set 3 (some (.own (.l (fs.map eD))))))) ∧ fs.length = es.length := ⟨_, fun ρ => put_l0 a2 b2, List.length_set⟩
      have b1' : k1 < fs.length := by rw [lf]; exact b1
      exact ⟨fs.set k1.toNat (pb, e1.2), by simp [f_l_spoilt, b_l_spoilt, mk_m, rb_nil, rb_cons, rb_frz, frz_own, frz_dat, frz_no, nxt_nx, nxt_rt, nxt_er, nxt_bk, nxt_ct, rs_asg, asg_dat, asg_fr, asg_er, rs_app, app_dat, app_fr, rs_setL, set_dat, rs_iff, iteS_t, iteS_f, rs_for, for_ok, ef_rg, rs_ret, ret_dat, ret_fr, ret_er, rs_retV, retV_dat, retV_own, rs_retN, rs_brk, rs_cnt, rs_pas, rn_expr, drop_ok, drop_er, rs_rais, rs_tri, tri_nx, tri_rt, endF_rt, endF_nx, endF_er, ev_var, var_dat, var_own, ev_int, ev_str, ev_bl, ev_non, ev_bin, ev_neg, neg_int, ev_cmp, ev_ix, ev_nott, not_bl, ev_tup, tupV_ok, tupM_ok, ev_lst, lstU_ok, lstM_ok, toDs_nil, toDs_cd, toDs_cf, Option.map_some, ev_dictT, ea_nil, ea_cons, ac_ok, ev_bi, bi_ok, ev_call, call_ok, ev_sl, sl_ok, eo_no, eo_so, so_ok, ev_get, get_br, get_dat, ev_attr, ev_isi, ev_ife, iteE_t, iteE_f, ev_andd, ev_orr, en_1, en_2, er_1, er_2, andU_t, andU_f, orU_t, orU_f, et_andd, et_orr, et_nott, notT_ok, et_cmp, et_var, et_isi, et_call, et_ix, et_chain, chT_ok, tru_bl, ent_1, ent_2, ert_1, ert_2, andT_t, andT_f, orT_t, orT_f, ev_lc, it_fr, it_dl, it_dt, it_br, rai_f, es_it, es_rg, u1_ok, u2_ok, v1_ok, v2_ok, optR_some, blR_some, bin_add, bin_sub, cmp_lt, cmp_le, cmp_gt, cmp_ge, cmp_eq, cmp_ne, cmp_eqs, cmp_nes, bi_int, bi_lenl, bi_lent, bi_lenb, bi_lenf, List.getElem?_cons_zero, List.getElem?_cons_succ, List.set_cons_zero, List.set_cons_succ, List.cons_append, List.nil_append, List.map_cons, List.map_nil, List.replicate, List.length_map, ixl_0, ixt_0, ixb_0, ixf_0, ixl_1, ixt_1, ixb_1, ixf_1, ixl_2, ixt_2, ixb_2, ixf_2, ixl_3, ixt_3, ixb_3, ixf_3, ixl_4, ixt_4, ixb_4, ixf_4, ixl_5, ixt_5, ixb_5, ixf_5, ixl_6, ixt_6, ixb_6, ixf_6, ixl_7, ixt_7, ixb_7, ixf_7, ixl_8, ixt_8, ixb_8, ixf_8, ixl_9, ixt_9, ixb_9, ixf_9, ixl_10, ixt_10, ixb_10, ixf_10, ixl_11, ixt_11, ixb_11, ixf_11, ixl_12, ixt_12, ixb_12, ixf_12, ixl_13, ixt_13, ixb_13, ixf_13, ixl_14, ixt_14, ixb_14, ixf_14, ixl_15, ixt_15, ixb_15, ixf_15, bi_lst, hz, hz', m1, m2, m3, r1, r2, x1, x2, x3, lb, lo, bi_tupf, pf, put_l a1 b1'], by simp; omega⟩
    · exact ⟨es.set k2.toNat (po, e2.2), by simp [f_l_spoilt, b_l_spoilt, mk_m, rb_nil, rb_cons, rb_frz, frz_own, frz_dat, frz_no, nxt_nx, nxt_rt, nxt_er, nxt_bk, nxt_ct, rs_asg, asg_dat, asg_fr, asg_er, rs_app, app_dat, app_fr, rs_setL, set_dat, rs_iff, iteS_t, iteS_f, rs_for, for_ok, ef_rg, rs_ret, ret_dat, ret_fr, ret_er, rs_retV, retV_dat, retV_own, rs_retN, rs_brk, rs_cnt, rs_pas, rn_expr, drop_ok, drop_er, rs_rais, rs_tri, tri_nx, tri_rt, endF_rt, endF_nx, endF_er, ev_var, var_dat, var_own, ev_int, ev_str, ev_bl, ev_non, ev_bin, ev_neg, neg_int, ev_cmp, ev_ix, ev_nott, not_bl, ev_tup, tupV_ok, tupM_ok, ev_lst, lstU_ok, lstM_ok, toDs_nil, toDs_cd, toDs_cf, Option.map_some, ev_dictT, ea_nil, ea_cons, ac_ok, ev_bi, bi_ok, ev_call, call_ok, ev_sl, sl_ok, eo_no, eo_so, so_ok, ev_get, get_br, get_dat, ev_attr, ev_isi, ev_ife, iteE_t, iteE_f, ev_andd, ev_orr, en_1, en_2, er_1, er_2, andU_t, andU_f, orU_t, orU_f, et_andd, et_orr, et_nott, notT_ok, et_cmp, et_var, et_isi, et_call, et_ix, et_chain, chT_ok, tru_bl, ent_1, ent_2, ert_1, ert_2, andT_t, andT_f, orT_t, orT_f, ev_lc, it_fr, it_dl, it_dt, it_br, rai_f, es_it, es_rg, u1_ok, u2_ok, v1_ok, v2_ok, optR_some, blR_some, bin_add, bin_sub, cmp_lt, cmp_le, cmp_gt, cmp_ge, cmp_eq, cmp_ne, cmp_eqs, cmp_nes, bi_int, bi_lenl, bi_lent, bi_lenb, bi_lenf, List.getElem?_cons_zero, List.getElem?_cons_succ, List.set_cons_zero, List.set_cons_succ, List.cons_append, List.nil_append, List.map_cons, List.map_nil, List.replicate, List.length_map, ixl_0, ixt_0, ixb_0, ixf_0, ixl_1, ixt_1, ixb_1, ixf_1, ixl_2, ixt_2, ixb_2, ixf_2, ixl_3, ixt_3, ixb_3, ixf_3, ixl_4, ixt_4, ixb_4, ixf_4, ixl_5, ixt_5, ixb_5, ixf_5, ixl_6, ixt_6, ixb_6, ixf_6, ixl_7, ixt_7, ixb_7, ixf_7, ixl_8, ixt_8, ixb_8, ixf_8, ixl_9, ixt_9, ixb_9, ixf_9, ixl_10, ixt_10, ixb_10, ixf_10, ixl_11, ixt_11, ixb_11, ixf_11, ixl_12, ixt_12, ixb_12, ixf_12, ixl_13, ixt_13, ixb_13, ixf_13, ixl_14, ixt_14, ixb_14, ixf_14, ixl_15, ixt_15, ixb_15, ixf_15, bi_lst, hz, hz', m1, m2, m3, r1, r2, x1, x2, x3, lb, lo, bi_tupf, put_l a2 b2], by simp; omega⟩
    · by_cases hd : 1 < d3
      · exact ⟨es ++ [(po, 3), (po, -3)], by simp [f_l_spoilt, b_l_spoilt, mk_m, rb_nil, rb_cons, rb_frz, frz_own, frz_dat, frz_no, nxt_nx, nxt_rt, nxt_er, nxt_bk, nxt_ct, rs_asg, asg_dat, asg_fr, asg_er, rs_app, app_dat, app_fr, rs_setL, set_dat, rs_iff, iteS_t, iteS_f, rs_for, for_ok, ef_rg, rs_ret, ret_dat, ret_fr, ret_er, rs_retV, retV_dat, retV_own, rs_retN, rs_brk, rs_cnt, rs_pas, rn_expr, drop_ok, drop_er, rs_rais, rs_tri, tri_nx, tri_rt, endF_rt, endF_nx, endF_er, ev_var, var_dat, var_own, ev_int, ev_str, ev_bl, ev_non, ev_bin, ev_neg, neg_int, ev_cmp, ev_ix, ev_nott, not_bl, ev_tup, tupV_ok, tupM_ok, ev_lst, lstU_ok, lstM_ok, toDs_nil, toDs_cd, toDs_cf, Option.map_some, ev_dictT, ea_nil, ea_cons, ac_ok, ev_bi, bi_ok, ev_call, call_ok, ev_sl, sl_ok, eo_no, eo_so, so_ok, ev_get, get_br, get_dat, ev_attr, ev_isi, ev_ife, iteE_t, iteE_f, ev_andd, ev_orr, en_1, en_2, er_1, er_2, andU_t, andU_f, orU_t, orU_f, et_andd, et_orr, et_nott, notT_ok, et_cmp, et_var, et_isi, et_call, et_ix, et_chain, chT_ok, tru_bl, ent_1, ent_2, ert_1, ert_2, andT_t, andT_f, orT_t, orT_f, ev_lc, it_fr, it_dl, it_dt, it_br, rai_f, es_it, es_rg, u1_ok, u2_ok, v1_ok, v2_ok, optR_some, blR_some, bin_add, bin_sub, cmp_lt, cmp_le, cmp_gt, cmp_ge, cmp_eq, cmp_ne, cmp_eqs, cmp_nes, bi_int, bi_lenl, bi_lent, bi_lenb, bi_lenf, List.getElem?_cons_zero, List.getElem?_cons_succ, List.set_cons_zero, List.set_cons_succ, List.cons_append, List.nil_append, List.map_cons, List.map_nil, List.replicate, List.length_map, ixl_0, ixt_0, ixb_0, ixf_0, ixl_1, ixt_1, ixb_1, ixf_1, ixl_2, ixt_2, ixb_2, ixf_2, ixl_3, ixt_3, ixb_3, ixf_3, ixl_4, ixt_4, ixb_4, ixf_4, ixl_5, ixt_5, ixb_5, ixf_5, ixl_6, ixt_6, ixb_6, ixf_6, ixl_7, ixt_7, ixb_7, ixf_7, ixl_8, ixt_8, ixb_8, ixf_8, ixl_9, ixt_9, ixb_9, ixf_9, ixl_10, ixt_10, ixb_10, ixf_10, ixl_11, ixt_11, ixb_11, ixf_11, ixl_12, ixt_12, ixb_12, ixf_12, ixl_13, ixt_13, ixb_13, ixf_13, ixl_14, ixt_14, ixb_14, ixf_14, ixl_15, ixt_15, ixb_15, ixf_15, bi_lst, hz, hz', m1, m2, m3, r1, r2, x1, x2, x3, lb, lo, bi_tupf, put_l a2 b2, hd, ad']; exact ⟨rfl, rfl⟩, by simp; omega⟩
      · exact ⟨es.set k2.toNat (po, 0), by simp [f_l_spoilt, b_l_spoilt, mk_m, rb_nil, rb_cons, rb_frz, frz_own, frz_dat, frz_no, nxt_nx, nxt_rt, nxt_er, nxt_bk, nxt_ct, rs_asg, asg_dat, asg_fr, asg_er, rs_app, app_dat, app_fr, rs_setL, set_dat, rs_iff, iteS_t, iteS_f, rs_for, for_ok, ef_rg, rs_ret, ret_dat, ret_fr, ret_er, rs_retV, retV_dat, retV_own, rs_retN, rs_brk, rs_cnt, rs_pas, rn_expr, drop_ok, drop_er, rs_rais, rs_tri, tri_nx, tri_rt, endF_rt, endF_nx, endF_er, ev_var, var_dat, var_own, ev_int, ev_str, ev_bl, ev_non, ev_bin, ev_neg, neg_int, ev_cmp, ev_ix, ev_nott, not_bl, ev_tup, tupV_ok, tupM_ok, ev_lst, lstU_ok, lstM_ok, toDs_nil, toDs_cd, toDs_cf, Option.map_some, ev_dictT, ea_nil, ea_cons, ac_ok, ev_bi, bi_ok, ev_call, call_ok, ev_sl, sl_ok, eo_no, eo_so, so_ok, ev_get, get_br, get_dat, ev_attr, ev_isi, ev_ife, iteE_t, iteE_f, ev_andd, ev_orr, en_1, en_2, er_1, er_2, andU_t, andU_f, orU_t, orU_f, et_andd, et_orr, et_nott, notT_ok, et_cmp, et_var, et_isi, et_call, et_ix, et_chain, chT_ok, tru_bl, ent_1, ent_2, ert_1, ert_2, andT_t, andT_f, orT_t, orT_f, ev_lc, it_fr, it_dl, it_dt, it_br, rai_f, es_it, es_rg, u1_ok, u2_ok, v1_ok, v2_ok, optR_some, blR_some, bin_add, bin_sub, cmp_lt, cmp_le, cmp_gt, cmp_ge, cmp_eq, cmp_ne, cmp_eqs, cmp_nes, bi_int, bi_lenl, bi_lent, bi_lenb, bi_lenf, List.getElem?_cons_zero, List.getElem?_cons_succ, List.set_cons_zero, List.set_cons_succ, List.cons_append, List.nil_append, List.map_cons, List.map_nil, List.replicate, List.length_map, ixl_0, ixt_0, ixb_0, ixf_0, ixl_1, ixt_1, ixb_1, ixf_1, ixl_2, ixt_2, ixb_2, ixf_2, ixl_3, ixt_3, ixb_3, ixf_3, ixl_4, ixt_4, ixb_4, ixf_4, ixl_5, ixt_5, ixb_5, ixf_5, ixl_6, ixt_6, ixb_6, ixf_6, ixl_7, ixt_7, ixb_7, ixf_7, ixl_8, ixt_8, ixb_8, ixf_8, ixl_9, ixt_9, ixb_9, ixf_9, ixl_10, ixt_10, ixb_10, ixf_10, ixl_11, ixt_11, ixb_11, ixf_11, ixl_12, ixt_12, ixb_12, ixf_12, ixl_13, ixt_13, ixb_13, ixf_13, ixl_14, ixt_14, ixb_14, ixf_14, ixl_15, ixt_15, ixb_15, ixf_15, bi_lst, hz, hz', m1, m2, m3, r1, r2, x1, x2, x3, lb, lo, bi_tupf, put_l a2 b2, hd], by simp; omega⟩
    · obtain ⟨fs, pf, lf⟩ : ∃ fs : List Ent, (∀ ρ, putX 3 ρ (.tup [pD po, .int e2.2]) (.l (es.map eD)) (.dat (.int k2)) = some (.nx (ρ.set 3 (some (.own (.l (fs.map eD))))))) ∧ fs.length = es.length := ⟨_, fun ρ => put_l a2 b2, List.length_set⟩
      have b1' : k1 < fs.length := by rw [lf]; exact b1
      exact ⟨fs.set k1.toNat (pb, e1.2), by simp [f_l_spoilt, b_l_spoilt, mk_m, rb_nil, rb_cons, rb_frz, frz_own, frz_dat, frz_no, nxt_nx, nxt_rt, nxt_er, nxt_bk, nxt_ct, rs_asg, asg_dat, asg_fr, asg_er, rs_app, app_dat, app_fr, rs_setL, set_dat, rs_iff, iteS_t, iteS_f, rs_for, for_ok, ef_rg, rs_ret, ret_dat, ret_fr, ret_er, rs_retV, retV_dat, retV_own, rs_retN, rs_brk, rs_cnt, rs_pas, rn_expr, drop_ok, drop_er, rs_rais, rs_tri, tri_nx, tri_rt, endF_rt, endF_nx, endF_er, ev_var, var_dat, var_own, ev_int, ev_str, ev_bl, ev_non, ev_bin, ev_neg, neg_int, ev_cmp, ev_ix, ev_nott, not_bl, ev_tup, tupV_ok, tupM_ok, ev_lst, lstU_ok, lstM_ok, toDs_nil, toDs_cd, toDs_cf, Option.map_some, ev_dictT, ea_nil, ea_cons, ac_ok, ev_bi, bi_ok, ev_call, call_ok, ev_sl, sl_ok, eo_no, eo_so, so_ok, ev_get, get_br, get_dat, ev_attr, ev_isi, ev_ife, iteE_t, iteE_f, ev_andd, ev_orr, en_1, en_2, er_1, er_2, andU_t, andU_f, orU_t, orU_f, et_andd, et_orr, et_nott, notT_ok, et_cmp, et_var, et_isi, et_call, et_ix, et_chain, chT_ok, tru_bl, ent_1, ent_2, ert_1, ert_2, andT_t, andT_f, orT_t, orT_f, ev_lc, it_fr, it_dl, it_dt, it_br, rai_f, es_it, es_rg, u1_ok, u2_ok, v1_ok, v2_ok, optR_some, blR_some, bin_add, bin_sub, cmp_lt, cmp_le, cmp_gt, cmp_ge, cmp_eq, cmp_ne, cmp_eqs, cmp_nes, bi_int, bi_lenl, bi_lent, bi_lenb, bi_lenf, List.getElem?_cons_zero, List.getElem?_cons_succ, List.set_cons_zero, List.set_cons_succ, List.cons_append, List.nil_append, List.map_cons, List.map_nil, List.replicate, List.length_map, ixl_0, ixt_0, ixb_0, ixf_0, ixl_1, ixt_1, ixb_1, ixf_1, ixl_2, ixt_2, ixb_2, ixf_2, ixl_3, ixt_3, ixb_3, ixf_3, ixl_4, ixt_4, ixb_4, ixf_4, ixl_5, ixt_5, ixb_5, ixf_5, ixl_6, ixt_6, ixb_6, ixf_6, ixl_7, ixt_7, ixb_7, ixf_7, ixl_8, ixt_8, ixb_8, ixf_8, ixl_9, ixt_9, ixb_9, ixf_9, ixl_10, ixt_10, ixb_10, ixf_10, ixl_11, ixt_11, ixb_11, ixf_11, ixl_12, ixt_12, ixb_12, ixf_12, ixl_13, ixt_13, ixb_13, ixf_13, ixl_14, ixt_14, ixb_14, ixf_14, ixl_15, ixt_15, ixb_15, ixf_15, bi_lst, hz, hz', m1, m2, m3, r1, r2, x1, x2, x3, lb, lo, bi_tupf, pf, put_l a1 b1'], by simp; omega⟩
theorem noEx_p (p : Pl) : noExcs (p.map D.int) = true := by
  induction p with
  | nil => rfl
  | cons x p ih =>
    show (noExc (.int x) && noExcs (p.map D.int)) = true
    rw [ih]
    rfl
theorem end_rt {i : Nat} {b : Bool} : endS i (some (.rt (.dat (.bl b)))) = some (.rt (.dat (.bl b))) := rfl
/-- what is due -/
def Due (es : List Ent) (due : D) : Prop :=
  (∃ k : Nat, BadAt es k ∧ due = .tup [.str "BadPlace", .int k]) ∨ (AllGood es ∧ Mixed es ∧ due = .tup [.str "MixedDimensions", .int 0]) ∨ (AllGood es ∧ Alike es ∧ due = .tup [.str "row", .lst ((rowOf (sumA es)).map eD)])
theorem due_call (es : List Ent) (hl : es.length < 1000) : ∃ due, callV f_l_due [.dat (.lst (es.map eD))] = some (.ok (.dat due)) ∧ Due es due := by
  rcases due_spec es hl with ⟨k, h, e⟩ | ⟨h1, h2, e⟩ | ⟨h1, h2, e⟩
  · exact ⟨_, callV_ok rfl e rfl (fun z => nomatch z), .inl ⟨k, h, rfl⟩⟩
  · exact ⟨_, callV_ok rfl e rfl (fun z => nomatch z), .inr (.inl ⟨h1, h2, rfl⟩)⟩
  · exact ⟨_, callV_ok rfl e rfl (fun z => nomatch z), .inr (.inr ⟨h1, h2, rfl⟩)⟩
theorem rowOf_len (as : List Ent) : (rowOf as).length ≤ as.length := by
  unfold rowOf
  refine Nat.le_trans (List.length_filterMap_le _ _) ?_
  unfold sortP
  rw [List.length_mergeSort, List.length_map]
  exact Nat.le_refl _
theorem row_ok {es : List Ent} (ag : AllGood es) (al : Alike es) (hl : es.length < 1000) : RowOk (rowOf (sumA es)) := by
  have key : ∀ e ∈ rowOf (sumA es), ∃ f ∈ es, f.1 = e.1 := fun e he => by
    obtain ⟨f, hf, h⟩ := List.mem_map.mp (sumA_keys es e.1 (rowOf_mem he).1)
    exact ⟨f, hf, h⟩
  refine ⟨fun e he => ?_, ?_, fun e he => (rowOf_mem he).2, rowOf_pw (sumA_nodup es), ?_⟩
  · obtain ⟨f, hf, h⟩ := key e he
    have := ag f hf
    unfold Good at *
    rw [h] at this
    exact this
  · obtain ⟨s, hs⟩ := al
    exact ⟨s, fun e he => by
      obtain ⟨f, hf, h⟩ := key e he
      rw [← h]
      exact hs f hf⟩
  · have := rowOf_len (sumA es)
    have := sumA_len es
    omega
theorem asked_spec (es : List Ent) (due : D) (hl : es.length < 1000) (h : Due es due) : f_l_asked.m [.lst (es.map eD), due] = some (.ok (.dat (.bl true))) := by
  have n1 : decide (("BadPlace" : Str) = "row") = false := by decide +kernel
  have n2 : decide (("MixedDimensions" : Str) = "row") = false := by decide +kernel
  have i1 : c_l_asked.isa (erBad 0).c "TableError" = some true := rfl
  have i2 : c_l_asked.isa erMixed.c "TableError" = some true := rfl
  rcases make_row_spec es hl with ⟨k, hb, hm⟩ | ⟨ag, mx, hm⟩ | ⟨ag, al, hm⟩
  · rcases h with ⟨k', hb', rfl⟩ | ⟨ag, _, _⟩ | ⟨ag, _, _⟩
    · have := badAt_eq hb hb'
      subst this
      have c1 : callV f_make_row [.dat (.lst (es.map eD))] = some (.error (erBad k)) := callV_er rfl hm fun z => nomatch z
      have c2 : callV h_l_refused [.dat (.exc "BadPlace" ["index", "word"] [.int k, .str "BadPlace"]), .dat (.tup [.str "BadPlace", .int k])] = some (.ok (.dat (.bl true))) := callV_ok rfl (refused_bad k) rfl fun z => nomatch z
      have t : ∀ (s : Rho → SR) (ρ : Rho), triS c_l_asked (some (.er (erBad k) ρ)) "TableError" 4 s = endS 4 (s (ρ.set 4 (some (.dat (.exc "BadPlace" ["index", "word"] [.int k, .str "BadPlace"]))))) := fun s ρ => tri_er rfl
      simp [f_l_asked, b_l_asked, mk_m, rb_nil, rb_cons, rb_frz, frz_own, frz_dat, frz_no, nxt_nx, nxt_rt, nxt_er, nxt_bk, nxt_ct, rs_asg, asg_dat, asg_fr, asg_er, rs_app, app_dat, app_fr, rs_setL, set_dat, rs_iff, iteS_t, iteS_f, rs_for, for_ok, ef_rg, rs_ret, ret_dat, ret_fr, ret_er, rs_retV, retV_dat, retV_own, rs_retN, rs_brk, rs_cnt, rs_pas, rn_expr, drop_ok, drop_er, rs_rais, rs_tri, tri_nx, tri_rt, endF_rt, endF_nx, endF_er, ev_var, var_dat, var_own, ev_int, ev_str, ev_bl, ev_non, ev_bin, ev_neg, neg_int, ev_cmp, ev_ix, ev_nott, not_bl, ev_tup, tupV_ok, tupM_ok, ev_lst, lstU_ok, lstM_ok, toDs_nil, toDs_cd, toDs_cf, Option.map_some, ev_dictT, ea_nil, ea_cons, ac_ok, ev_bi, bi_ok, ev_call, call_ok, ev_sl, sl_ok, eo_no, eo_so, so_ok, ev_get, get_br, get_dat, ev_attr, ev_isi, ev_ife, iteE_t, iteE_f, ev_andd, ev_orr, en_1, en_2, er_1, er_2, andU_t, andU_f, orU_t, orU_f, et_andd, et_orr, et_nott, notT_ok, et_cmp, et_var, et_isi, et_call, et_ix, et_chain, chT_ok, tru_bl, ent_1, ent_2, ert_1, ert_2, andT_t, andT_f, orT_t, orT_f, ev_lc, it_fr, it_dl, it_dt, it_br, rai_f, es_it, es_rg, u1_ok, u2_ok, v1_ok, v2_ok, optR_some, blR_some, bin_add, bin_sub, cmp_lt, cmp_le, cmp_gt, cmp_ge, cmp_eq, cmp_ne, cmp_eqs, cmp_nes, bi_int, bi_lenl, bi_lent, bi_lenb, bi_lenf, List.getElem?_cons_zero, List.getElem?_cons_succ, List.set_cons_zero, List.set_cons_succ, List.cons_append, List.nil_append, List.map_cons, List.map_nil, List.replicate, List.length_map, ixt_0, ixt_1, bi_lst, OV.d, T_l_asked_0, TS_l_asked_0, c1, c2, t, n1, cmp_rows, end_rt]
    · exact (badAt_all hb ag).elim
    · exact (badAt_all hb ag).elim
  · rcases h with ⟨k', hb', rfl⟩ | ⟨_, _, rfl⟩ | ⟨_, al, _⟩
    · exact (badAt_all hb' ag).elim
    · have c1 : callV f_make_row [.dat (.lst (es.map eD))] = some (.error erMixed) := callV_er rfl hm fun z => nomatch z
      have c2 : callV h_l_refused [.dat (.exc "MixedDimensions" ["word"] [.str "MixedDimensions"]), .dat (.tup [.str "MixedDimensions", .int 0])] = some (.ok (.dat (.bl true))) := callV_ok rfl refused_mixed rfl fun z => nomatch z
      have t : ∀ (s : Rho → SR) (ρ : Rho), triS c_l_asked (some (.er erMixed ρ)) "TableError" 4 s = endS 4 (s (ρ.set 4 (some (.dat (.exc "MixedDimensions" ["word"] [.str "MixedDimensions"]))))) := fun s ρ => tri_er rfl
      simp [f_l_asked, b_l_asked, mk_m, rb_nil, rb_cons, rb_frz, frz_own, frz_dat, frz_no, nxt_nx, nxt_rt, nxt_er, nxt_bk, nxt_ct, rs_asg, asg_dat, asg_fr, asg_er, rs_app, app_dat, app_fr, rs_setL, set_dat, rs_iff, iteS_t, iteS_f, rs_for, for_ok, ef_rg, rs_ret, ret_dat, ret_fr, ret_er, rs_retV, retV_dat, retV_own, rs_retN, rs_brk, rs_cnt, rs_pas, rn_expr, drop_ok, drop_er, rs_rais, rs_tri, tri_nx, tri_rt, endF_rt, endF_nx, endF_er, ev_var, var_dat, var_own, ev_int, ev_str, ev_bl, ev_non, ev_bin, ev_neg, neg_int, ev_cmp, ev_ix, ev_nott, not_bl, ev_tup, tupV_ok, tupM_ok, ev_lst, lstU_ok, lstM_ok, toDs_nil, toDs_cd, toDs_cf, Option.map_some, ev_dictT, ea_nil, ea_cons, ac_ok, ev_bi, bi_ok, ev_call, call_ok, ev_sl, sl_ok, eo_no, eo_so, so_ok, ev_get, get_br, get_dat, ev_attr, ev_isi, ev_ife, iteE_t, iteE_f, ev_andd, ev_orr, en_1, en_2, er_1, er_2, andU_t, andU_f, orU_t, orU_f, et_andd, et_orr, et_nott, notT_ok, et_cmp, et_var, et_isi, et_call, et_ix, et_chain, chT_ok, tru_bl, ent_1, ent_2, ert_1, ert_2, andT_t, andT_f, orT_t, orT_f, ev_lc, it_fr, it_dl, it_dt, it_br, rai_f, es_it, es_rg, u1_ok, u2_ok, v1_ok, v2_ok, optR_some, blR_some, bin_add, bin_sub, cmp_lt, cmp_le, cmp_gt, cmp_ge, cmp_eq, cmp_ne, cmp_eqs, cmp_nes, bi_int, bi_lenl, bi_lent, bi_lenb, bi_lenf, List.getElem?_cons_zero, List.getElem?_cons_succ, List.set_cons_zero, List.set_cons_succ, List.cons_append, List.nil_append, List.map_cons, List.map_nil, List.replicate, List.length_map, ixt_0, ixt_1, bi_lst, OV.d, T_l_asked_0, TS_l_asked_0, c1, c2, t, n2, cmp_rows, end_rt]
    · obtain ⟨s, hs⟩ := al
      obtain ⟨a, ha, b, hb, hne⟩ := mx
      exact (hne (by rw [hs a ha, hs b hb])).elim
  · rcases h with ⟨k', hb', rfl⟩ | ⟨_, mx, rfl⟩ | ⟨_, _, rfl⟩
    · exact (badAt_all hb' ag).elim
    · obtain ⟨s, hs⟩ := al
      obtain ⟨a, ha, b, hb, hne⟩ := mx
      exact (hne (by rw [hs a ha, hs b hb])).elim
    · have rk := row_ok ag al hl
      have c1 : callV f_make_row [.dat (.lst (es.map eD))] = some (.ok (.fr (.l ((rowOf (sumA es)).map eD)))) := callV_ok rfl hm rfl fun z => nomatch z
      have c2 : callV f_l_same [.br (.l ((rowOf (sumA es)).map eD)), .dat (.lst ((rowOf (sumA es)).map eD))] = some (.ok (.dat (.bl true))) := callV_ok rfl (same_spec _ rk) rfl fun _ => rfl
      have sz : (rowOf (sumA es)).length < 16777216 := by have := rk.2.2.2.2; omega
      simp [f_l_asked, b_l_asked, mk_m, rb_nil, rb_cons, rb_frz, frz_own, frz_dat, frz_no, nxt_nx, nxt_rt, nxt_er, nxt_bk, nxt_ct, rs_asg, asg_dat, asg_fr, asg_er, rs_app, app_dat, app_fr, rs_setL, set_dat, rs_iff, iteS_t, iteS_f, rs_for, for_ok, ef_rg, rs_ret, ret_dat, ret_fr, ret_er, rs_retV, retV_dat, retV_own, rs_retN, rs_brk, rs_cnt, rs_pas, rn_expr, drop_ok, drop_er, rs_rais, rs_tri, tri_nx, tri_rt, endF_rt, endF_nx, endF_er, ev_var, var_dat, var_own, ev_int, ev_str, ev_bl, ev_non, ev_bin, ev_neg, neg_int, ev_cmp, ev_ix, ev_nott, not_bl, ev_tup, tupV_ok, tupM_ok, ev_lst, lstU_ok, lstM_ok, toDs_nil, toDs_cd, toDs_cf, Option.map_some, ev_dictT, ea_nil, ea_cons, ac_ok, ev_bi, bi_ok, ev_call, call_ok, ev_sl, sl_ok, eo_no, eo_so, so_ok, ev_get, get_br, get_dat, ev_attr, ev_isi, ev_ife, iteE_t, iteE_f, ev_andd, ev_orr, en_1, en_2, er_1, er_2, andU_t, andU_f, orU_t, orU_f, et_andd, et_orr, et_nott, notT_ok, et_cmp, et_var, et_isi, et_call, et_ix, et_chain, chT_ok, tru_bl, ent_1, ent_2, ert_1, ert_2, andT_t, andT_f, orT_t, orT_f, ev_lc, it_fr, it_dl, it_dt, it_br, rai_f, es_it, es_rg, u1_ok, u2_ok, v1_ok, v2_ok, optR_some, blR_some, bin_add, bin_sub, cmp_lt, cmp_le, cmp_gt, cmp_ge, cmp_eq, cmp_ne, cmp_eqs, cmp_nes, bi_int, bi_lenl, bi_lent, bi_lenb, bi_lenf, List.getElem?_cons_zero, List.getElem?_cons_succ, List.set_cons_zero, List.set_cons_succ, List.cons_append, List.nil_append, List.map_cons, List.map_nil, List.replicate, List.length_map, ixt_0, ixt_1, bi_lst, OV.d, T_l_asked_0, T_l_asked_1, c1, c2, cmp_rows, cmp_rowsn, sz]
theorem call_asked (es : List Ent) (due : D) (hl : es.length < 1000) (h : Due es due) : callV f_l_asked [.dat (.lst (es.map eD)), .dat due] = some (.ok (.dat (.bl true))) := callV_ok rfl (asked_spec es due hl h) rfl fun z => nomatch z
theorem call_row (es : List Ent) (ag : AllGood es) (hl : es.length < 1000) : callV f_l_row [.dat (.lst (es.map eD))] = some (.ok (.fr (.l ((rowOf (sumA es)).map eD)))) := callV_ok rfl (row_spec es (good_ne ag) hl) rfl fun z => nomatch z
theorem add_be {a b : List D} (h : a.length + b.length ≤ 16777216) : binV .add (.br (.l a)) (.fr (.l b)) = some (.fr (.l (a ++ b))) := by
  show (if a.length + b.length ≤ 16777216 then _ else _) = _
  rw [if_pos h]
theorem add_bb {a b : List D} (h : a.length + b.length ≤ 16777216) : binV .add (.br (.l a)) (.br (.l b)) = some (.fr (.l (a ++ b))) := by
  show (if a.length + b.length ≤ 16777216 then _ else _) = _
  rw [if_pos h]
theorem tail_spec (x0 x1 x2 x4 : Option LV) (es fs : List Ent) (ag : AllGood es) (al : Alike es) (hl : es.length < 1000) (hf : fs.length < 1000) : ∃ w : Option LV, forL (stepL (.n 6) (runB c_law L_law_1)) (rangeD 0 2) [x0, x1, x2, some (.dat (.lst (es.map eD))), x4, some (.dat (.lst (fs.map eD))), none] = some (.nx [x0, x1, x2, some (.dat (.lst (es.map eD))), x4, some (.dat (.lst (fs.map eD))), w]) := by
  obtain ⟨due, hd, du⟩ := due_call fs hf
  have a1 := call_asked fs due hf du
  have a2 := call_asked es (.tup [.str "row", .lst ((rowOf (sumA es)).map eD)]) hl (.inr (.inr ⟨ag, al, rfl⟩))
  have rw1 := call_row es ag hl
  obtain ⟨ρ', e, w, rfl⟩ := forL_inv (step := stepL (.n 6) (runB c_law L_law_1)) (ds := rangeD 0 2) (ρ := [x0, x1, x2, some (.dat (.lst (es.map eD))), x4, some (.dat (.lst (fs.map eD))), none]) (P := fun i ρ => ∃ w : Option LV, ρ = [x0, x1, x2, some (.dat (.lst (es.map eD))), x4, some (.dat (.lst (fs.map eD))), w]) ⟨none, rfl⟩ (by
    intro i d ρ _ ⟨w, hρ⟩
    subst hρ
    exact ⟨_, .inl (by simp [stepL, setG, L_law_1, mk_m, rb_nil, rb_cons, rb_frz, frz_own, frz_dat, frz_no, nxt_nx, nxt_rt, nxt_er, nxt_bk, nxt_ct, rs_asg, asg_dat, asg_fr, asg_er, rs_app, app_dat, app_fr, rs_setL, set_dat, rs_iff, iteS_t, iteS_f, rs_for, for_ok, ef_rg, rs_ret, ret_dat, ret_fr, ret_er, rs_retV, retV_dat, retV_own, rs_retN, rs_brk, rs_cnt, rs_pas, rn_expr, drop_ok, drop_er, rs_rais, rs_tri, tri_nx, tri_rt, endF_rt, endF_nx, endF_er, ev_var, var_dat, var_own, ev_int, ev_str, ev_bl, ev_non, ev_bin, ev_neg, neg_int, ev_cmp, ev_ix, ev_nott, not_bl, ev_tup, tupV_ok, tupM_ok, ev_lst, lstU_ok, lstM_ok, toDs_nil, toDs_cd, toDs_cf, Option.map_some, ev_dictT, ea_nil, ea_cons, ac_ok, ev_bi, bi_ok, ev_call, call_ok, ev_sl, sl_ok, eo_no, eo_so, so_ok, ev_get, get_br, get_dat, ev_attr, ev_isi, ev_ife, iteE_t, iteE_f, ev_andd, ev_orr, en_1, en_2, er_1, er_2, andU_t, andU_f, orU_t, orU_f, et_andd, et_orr, et_nott, notT_ok, et_cmp, et_var, et_isi, et_call, et_ix, et_chain, chT_ok, tru_bl, ent_1, ent_2, ert_1, ert_2, andT_t, andT_f, orT_t, orT_f, ev_lc, it_fr, it_dl, it_dt, it_br, rai_f, es_it, es_rg, u1_ok, u2_ok, v1_ok, v2_ok, optR_some, blR_some, bin_add, bin_sub, cmp_lt, cmp_le, cmp_gt, cmp_ge, cmp_eq, cmp_ne, cmp_eqs, cmp_nes, bi_int, bi_lenl, bi_lent, bi_lenb, bi_lenf, List.getElem?_cons_zero, List.getElem?_cons_succ, List.set_cons_zero, List.set_cons_succ, List.cons_append, List.nil_append, List.map_cons, List.map_nil, List.replicate, List.length_map, T_law_5, T_law_6, T_law_7, hd, a1, a2, rw1, OV.d]; rfl), _, rfl⟩)
  exact ⟨w, e⟩
theorem plain (ns : List Int) (_ : ns.length ≤ 63) : f_law.m [.lst (ns.map D.int)] = some (.ok (.dat (.bl true))) := by
  obtain ⟨c, ec⟩ := call_cell ns 0 (by decide)
  obtain ⟨xs, ed, dr⟩ := call_draws c [3, 10, 8, 36, 36, 4, 2, 8] (by decide) (by decide)
  obtain ⟨d0, r, rfl, p0, q0, dr⟩ := drawn_cons dr
  obtain ⟨d1, r, rfl, p1, q1, dr⟩ := drawn_cons dr
  obtain ⟨d2, r, rfl, p2, q2, dr⟩ := drawn_cons dr
  obtain ⟨d3, r, rfl, p3, q3, dr⟩ := drawn_cons dr
  obtain ⟨d4, r, rfl, p4, q4, dr⟩ := drawn_cons dr
  obtain ⟨d5, r, rfl, p5, q5, dr⟩ := drawn_cons dr
  obtain ⟨d6, r, rfl, p6, q6, dr⟩ := drawn_cons dr
  obtain ⟨d7, r, rfl, p7, q7, dr⟩ := drawn_cons dr
  cases drawn_nil dr
  simp only [List.map_cons, List.map_nil] at ed
  obtain ⟨m, rfl⟩ : ∃ m : Nat, d1 = m := ⟨d1.toNat, by omega⟩
  obtain ⟨es, ep, sz, el⟩ := pairs_spec ns (1 + d0) m (by omega) (by omega) (by omega)
  have ep' : callV f_l_pairs [.dat (.lst (ns.map D.int)), .dat (.int (1 + d0)), .dat (.int m)] = some (.ok (.fr (.l (es.map eD)))) := callV_ok rfl ep rfl fun z => nomatch z
  have cut : slV (.br (.l [.int d0, .int m, .int d2, .int d3, .int d4, .int d5, .int d6, .int d7])) (some 2) (some 7) = some (.fr (.l [.int d2, .int d3, .int d4, .int d5, .int d6])) := rfl
  have r2 : rgU (some (.ok [.dat (.int 2)])) = some (.ok (rangeD 0 2)) := rfl
  have sp : ∀ gs : List Ent, gs.length < 100 → ∃ fs : List Ent, callV f_l_spoilt [.dat (.lst (gs.map eD)), .dat (.int (1 + d0)), .fr (.l [.int d2, .int d3, .int d4, .int d5, .int d6])] = some (.ok (.fr (.l (fs.map eD)))) ∧ fs.length < 1000 := fun gs hg => by
    obtain ⟨fs, h1, h2⟩ := spoilt_spec gs (1 + d0) d2 d3 d4 d5 d6 ⟨p2, q2⟩ ⟨p5, q5⟩ hg
    exact ⟨fs, callV_ok rfl h1 rfl (fun z => nomatch z), h2⟩
  have good : ∀ gs : List Ent, Sized (1 + d0) gs → AllGood gs ∧ Alike gs := fun gs h => ⟨fun e he => by
    have := h e he
    exact ⟨by omega, by omega⟩, (1 + d0).toNat, fun e he => by have := h e he; omega⟩
  by_cases h7 : d7 = 7
  · have bk : lcU (some (.ok (es.map eD))) (turnL (.n 4) (evIf c_law .no) (evE c_law (.tup (.cons (.call 3 (.cons (.ix (.var 4) (.int 0)) .nil)) (.cons (.ix (.var 4) (.int 1)) .nil)))) [some (.dat (.lst (ns.map D.int))), some (.own (.l [.int d0, .int m, .int d2, .int d3, .int d4, .int d5, .int d6, .int d7])), some (.dat (.int (1 + d0))), some (.own (.l (es.map eD))), none, none, none]) = some (.ok (.fr (.l (es.map fun e => eD (e.1.map fun x => -x, e.2))))) :=
      lc_ok (by rw [List.length_map]; omega) (compL_of fun e he => by
        have hs := sz e he
        have cb : callV f_l_back [.dat (pD e.1)] = some (.ok (.dat (pD (e.1.map fun x => -x)))) := callV_ok rfl (back_spec e.1 (by omega)) rfl fun z => nomatch z
        exact turn_no (x := .dat (eD (e.1.map fun x => -x, e.2))) (ρ' := [some (.dat (.lst (ns.map D.int))), some (.own (.l [.int d0, .int m, .int d2, .int d3, .int d4, .int d5, .int d6, .int d7])), some (.dat (.int (1 + d0))), some (.own (.l (es.map eD))), some (.dat (.tup [pD e.1, .int e.2])), none, none]) rfl (by simp [mk_m, rb_nil, rb_cons, rb_frz, frz_own, frz_dat, frz_no, nxt_nx, nxt_rt, nxt_er, nxt_bk, nxt_ct, rs_asg, asg_dat, asg_fr, asg_er, rs_app, app_dat, app_fr, rs_setL, set_dat, rs_iff, iteS_t, iteS_f, rs_for, for_ok, ef_rg, rs_ret, ret_dat, ret_fr, ret_er, rs_retV, retV_dat, retV_own, rs_retN, rs_brk, rs_cnt, rs_pas, rn_expr, drop_ok, drop_er, rs_rais, rs_tri, tri_nx, tri_rt, endF_rt, endF_nx, endF_er, ev_var, var_dat, var_own, ev_int, ev_str, ev_bl, ev_non, ev_bin, ev_neg, neg_int, ev_cmp, ev_ix, ev_nott, not_bl, ev_tup, tupV_ok, tupM_ok, ev_lst, lstU_ok, lstM_ok, toDs_nil, toDs_cd, toDs_cf, Option.map_some, ev_dictT, ea_nil, ea_cons, ac_ok, ev_bi, bi_ok, ev_call, call_ok, ev_sl, sl_ok, eo_no, eo_so, so_ok, ev_get, get_br, get_dat, ev_attr, ev_isi, ev_ife, iteE_t, iteE_f, ev_andd, ev_orr, en_1, en_2, er_1, er_2, andU_t, andU_f, orU_t, orU_f, et_andd, et_orr, et_nott, notT_ok, et_cmp, et_var, et_isi, et_call, et_ix, et_chain, chT_ok, tru_bl, ent_1, ent_2, ert_1, ert_2, andT_t, andT_f, orT_t, orT_f, ev_lc, it_fr, it_dl, it_dt, it_br, rai_f, es_it, es_rg, u1_ok, u2_ok, v1_ok, v2_ok, optR_some, blR_some, bin_add, bin_sub, cmp_lt, cmp_le, cmp_gt, cmp_ge, cmp_eq, cmp_ne, cmp_eqs, cmp_nes, bi_int, bi_lenl, bi_lent, bi_lenb, bi_lenf, List.getElem?_cons_zero, List.getElem?_cons_succ, List.set_cons_zero, List.set_cons_succ, List.cons_append, List.nil_append, List.map_cons, List.map_nil, List.replicate, List.length_map, ixl_0, ixt_0, ixb_0, ixf_0, ixl_1, ixt_1, ixb_1, ixf_1, ixl_2, ixt_2, ixb_2, ixf_2, ixl_3, ixt_3, ixb_3, ixf_3, ixl_4, ixt_4, ixb_4, ixf_4, ixl_5, ixt_5, ixb_5, ixf_5, ixl_6, ixt_6, ixb_6, ixf_6, ixl_7, ixt_7, ixb_7, ixf_7, ixl_8, ixt_8, ixb_8, ixf_8, ixl_9, ixt_9, ixb_9, ixf_9, ixl_10, ixt_10, ixb_10, ixf_10, ixl_11, ixt_11, ixb_11, ixf_11, ixl_12, ixt_12, ixb_12, ixf_12, ixl_13, ixt_13, ixb_13, ixf_13, ixl_14, ixt_14, ixb_14, ixf_14, ixl_15, ixt_15, ixb_15, ixf_15, T_law_3, cb]; rfl) rfl)
    obtain ⟨g1, e1, z1, l1⟩ : ∃ g1 : List Ent, binV .add (.br (.l (es.map eD))) (.fr (.l (es.map fun e => eD (e.1.map fun x => -x, e.2)))) = some (.fr (.l (g1.map eD))) ∧ Sized (1 + d0) g1 ∧ g1.length ≤ 20 := by
      refine ⟨es ++ es.map fun e => (e.1.map fun x => -x, e.2), ?_, fun e he => ?_, by rw [List.length_append, List.length_map]; omega⟩
      · rw [add_be (by rw [List.length_map, List.length_map]; omega), List.map_append, List.map_map]
        rfl
      · rcases List.mem_append.mp he with h | h
        · exact sz e h
        · obtain ⟨f, hf, rfl⟩ := List.mem_map.mp h
          have := sz f hf
          show ((f.1.map fun x => -x).length : Int) = _
          rw [List.length_map]
          exact this
    obtain ⟨g2, e2, z2, l2⟩ : ∃ g2 : List Ent, binV .add (.br (.l (g1.map eD))) (.br (.l (g1.map eD))) = some (.fr (.l (g2.map eD))) ∧ Sized (1 + d0) g2 ∧ g2.length ≤ 40 := by
      refine ⟨g1 ++ g1, ?_, fun e he => ?_, by rw [List.length_append]; omega⟩
      · rw [add_bb (by rw [List.length_map]; omega), List.map_append]
      · exact z1 e ((List.mem_append.mp he).elim id id)
    obtain ⟨fs, hs, hl⟩ := sp g2 (by omega)
    obtain ⟨w, hw⟩ := tail_spec (some (.dat (.lst (ns.map D.int)))) (some (.own (.l [.int d0, .int m, .int d2, .int d3, .int d4, .int d5, .int d6, .int d7]))) (some (.dat (.int (1 + d0)))) none g2 fs (good g2 z2).1 (good g2 z2).2 (by omega) hl
    subst h7
    simp [f_law, b_law, mk_m, rb_nil, rb_cons, rb_frz, frz_own, frz_dat, frz_no, nxt_nx, nxt_rt, nxt_er, nxt_bk, nxt_ct, rs_asg, asg_dat, asg_fr, asg_er, rs_app, app_dat, app_fr, rs_setL, set_dat, rs_iff, iteS_t, iteS_f, rs_for, for_ok, ef_rg, rs_ret, ret_dat, ret_fr, ret_er, rs_retV, retV_dat, retV_own, rs_retN, rs_brk, rs_cnt, rs_pas, rn_expr, drop_ok, drop_er, rs_rais, rs_tri, tri_nx, tri_rt, endF_rt, endF_nx, endF_er, ev_var, var_dat, var_own, ev_int, ev_str, ev_bl, ev_non, ev_bin, ev_neg, neg_int, ev_cmp, ev_ix, ev_nott, not_bl, ev_tup, tupV_ok, tupM_ok, ev_lst, lstU_ok, lstM_ok, toDs_nil, toDs_cd, toDs_cf, Option.map_some, ev_dictT, ea_nil, ea_cons, ac_ok, ev_bi, bi_ok, ev_call, call_ok, ev_sl, sl_ok, eo_no, eo_so, so_ok, ev_get, get_br, get_dat, ev_attr, ev_isi, ev_ife, iteE_t, iteE_f, ev_andd, ev_orr, en_1, en_2, er_1, er_2, andU_t, andU_f, orU_t, orU_f, et_andd, et_orr, et_nott, notT_ok, et_cmp, et_var, et_isi, et_call, et_ix, et_chain, chT_ok, tru_bl, ent_1, ent_2, ert_1, ert_2, andT_t, andT_f, orT_t, orT_f, ev_lc, it_fr, it_dl, it_dt, it_br, rai_f, es_it, es_rg, u1_ok, u2_ok, v1_ok, v2_ok, optR_some, blR_some, bin_add, bin_sub, cmp_lt, cmp_le, cmp_gt, cmp_ge, cmp_eq, cmp_ne, cmp_eqs, cmp_nes, bi_int, bi_lenl, bi_lent, bi_lenb, bi_lenf, List.getElem?_cons_zero, List.getElem?_cons_succ, List.set_cons_zero, List.set_cons_succ, List.cons_append, List.nil_append, List.map_cons, List.map_nil, List.replicate, List.length_map, ixl_0, ixt_0, ixb_0, ixf_0, ixl_1, ixt_1, ixb_1, ixf_1, ixl_2, ixt_2, ixb_2, ixf_2, ixl_3, ixt_3, ixb_3, ixf_3, ixl_4, ixt_4, ixb_4, ixf_4, ixl_5, ixt_5, ixb_5, ixf_5, ixl_6, ixt_6, ixb_6, ixf_6, ixl_7, ixt_7, ixb_7, ixf_7, ixl_8, ixt_8, ixb_8, ixf_8, ixl_9, ixt_9, ixb_9, ixf_9, ixl_10, ixt_10, ixb_10, ixf_10, ixl_11, ixt_11, ixb_11, ixf_11, ixl_12, ixt_12, ixb_12, ixf_12, ixl_13, ixt_13, ixb_13, ixf_13, ixl_14, ixt_14, ixb_14, ixf_14, ixl_15, ixt_15, ixb_15, ixf_15, T_law_0, T_law_1, T_law_2, T_law_4, ec, ed, ep', OV.d, bk, e1, e2, cut, hs, r2, hw]
  · obtain ⟨fs, hs, hl⟩ := sp es (by omega)
    obtain ⟨w, hw⟩ := tail_spec (some (.dat (.lst (ns.map D.int)))) (some (.own (.l [.int d0, .int m, .int d2, .int d3, .int d4, .int d5, .int d6, .int d7]))) (some (.dat (.int (1 + d0)))) none es fs (good es sz).1 (good es sz).2 (by omega) hl
    simp [f_law, b_law, mk_m, rb_nil, rb_cons, rb_frz, frz_own, frz_dat, frz_no, nxt_nx, nxt_rt, nxt_er, nxt_bk, nxt_ct, rs_asg, asg_dat, asg_fr, asg_er, rs_app, app_dat, app_fr, rs_setL, set_dat, rs_iff, iteS_t, iteS_f, rs_for, for_ok, ef_rg, rs_ret, ret_dat, ret_fr, ret_er, rs_retV, retV_dat, retV_own, rs_retN, rs_brk, rs_cnt, rs_pas, rn_expr, drop_ok, drop_er, rs_rais, rs_tri, tri_nx, tri_rt, endF_rt, endF_nx, endF_er, ev_var, var_dat, var_own, ev_int, ev_str, ev_bl, ev_non, ev_bin, ev_neg, neg_int, ev_cmp, ev_ix, ev_nott, not_bl, ev_tup, tupV_ok, tupM_ok, ev_lst, lstU_ok, lstM_ok, toDs_nil, toDs_cd, toDs_cf, Option.map_some, ev_dictT, ea_nil, ea_cons, ac_ok, ev_bi, bi_ok, ev_call, call_ok, ev_sl, sl_ok, eo_no, eo_so, so_ok, ev_get, get_br, get_dat, ev_attr, ev_isi, ev_ife, iteE_t, iteE_f, ev_andd, ev_orr, en_1, en_2, er_1, er_2, andU_t, andU_f, orU_t, orU_f, et_andd, et_orr, et_nott, notT_ok, et_cmp, et_var, et_isi, et_call, et_ix, et_chain, chT_ok, tru_bl, ent_1, ent_2, ert_1, ert_2, andT_t, andT_f, orT_t, orT_f, ev_lc, it_fr, it_dl, it_dt, it_br, rai_f, es_it, es_rg, u1_ok, u2_ok, v1_ok, v2_ok, optR_some, blR_some, bin_add, bin_sub, cmp_lt, cmp_le, cmp_gt, cmp_ge, cmp_eq, cmp_ne, cmp_eqs, cmp_nes, bi_int, bi_lenl, bi_lent, bi_lenb, bi_lenf, List.getElem?_cons_zero, List.getElem?_cons_succ, List.set_cons_zero, List.set_cons_succ, List.cons_append, List.nil_append, List.map_cons, List.map_nil, List.replicate, List.length_map, ixl_0, ixt_0, ixb_0, ixf_0, ixl_1, ixt_1, ixb_1, ixf_1, ixl_2, ixt_2, ixb_2, ixf_2, ixl_3, ixt_3, ixb_3, ixf_3, ixl_4, ixt_4, ixb_4, ixf_4, ixl_5, ixt_5, ixb_5, ixf_5, ixl_6, ixt_6, ixb_6, ixf_6, ixl_7, ixt_7, ixb_7, ixf_7, ixl_8, ixt_8, ixb_8, ixf_8, ixl_9, ixt_9, ixb_9, ixf_9, ixl_10, ixt_10, ixb_10, ixf_10, ixl_11, ixt_11, ixb_11, ixf_11, ixl_12, ixt_12, ixb_12, ixf_12, ixl_13, ixt_13, ixb_13, ixf_13, ixl_14, ixt_14, ixb_14, ixf_14, ixl_15, ixt_15, ixb_15, ixf_15, T_law_0, T_law_1, T_law_2, T_law_4, ec, ed, ep', OV.d, cut, hs, r2, hw, h7]
end LW

open PySem PySem.W PyProof.Rows
set_option maxRecDepth 100000 in
set_option maxHeartbeats 0 in
theorem PySem.Challenge.cw_owntables_k01_make_row_holds : PySem.Challenge.rw_owntables_k01_make_row.Holds := by
  w_on; o_law; k_head; (case hw => w_witness2)
  k_fill
  refine L2.walk_of (l := PySem.Challenge.rw_owntables_k01_make_row) (n := 63) (k := 9) (x := "_law_script") (CX := fun w => L2N.CX PySem.Challenge.rw_owntables_k01_make_row.prog w) (sp := fun w => DE.spLaw _) rfl (by decide) rfl ⟨rfl, by decide, by decide⟩ (fun w h Y => PySem.W.kIn_of Y) ?F (fun _ _ a ns hl _ hS => ⟨a, ns, rfl, hl, hS, fun _ => rfl⟩) (fun w H s e s2 h => by obtain ⟨_, _, _, _, _, _, _, _, _, _, _, _, h⟩ := h; exact h)
  case F =>
    intro w mg fa h KX G hmg
    refine' LW.all_mk KX G hmg ?z_len ?z_abs ?z_int ?z_tuple ?z_list ?z_sorted ?z_min ?z_max ?z_sum ?z_all ?z_any ?z_isinstance ?z_range ?z_bool ?z_str ?z_dict ?z_reversed ?z_ValueError ?w1 ?w2 ?w3 ?w4 ?g_TableError ?i_TableError ?t_TableError ?s_TableError ?ga_TableError ?gt_TableError ?cl_TableError ?mr_TableError ?hd_TableError ?bs_TableError ?br_TableError ?bf_TableError ?bk_TableError ?l_TableError ?c_TableError ?g_BadPlace ?i_BadPlace ?t_BadPlace ?s_BadPlace ?ga_BadPlace ?gt_BadPlace ?cl_BadPlace ?mr_BadPlace ?hd_BadPlace ?fi_BadPlace ?l_BadPlace ?c_BadPlace ?xL_BadPlace ?rv_BadPlace ?sa_BadPlace ?kC_BadPlace ?ti_BadPlace ?f_BadPlace_word ?f_BadPlace_index ?g_MixedDimensions ?i_MixedDimensions ?t_MixedDimensions ?s_MixedDimensions ?ga_MixedDimensions ?gt_MixedDimensions ?cl_MixedDimensions ?mr_MixedDimensions ?hd_MixedDimensions ?fi_MixedDimensions ?l_MixedDimensions ?c_MixedDimensions ?xL_MixedDimensions ?rv_MixedDimensions ?sa_MixedDimensions ?kC_MixedDimensions ?ti_MixedDimensions ?f_MixedDimensions_word ?g_OneDirectionOnly ?i_OneDirectionOnly ?t_OneDirectionOnly ?s_OneDirectionOnly ?g_ZeroRow ?i_ZeroRow ?t_ZeroRow ?s_ZeroRow ?u_BadPlace_TableError ?n_BadPlace_TableError ?u_BadPlace_ValueError ?u_BadPlace_OneDirectionOnly ?n_BadPlace_OneDirectionOnly ?u_BadPlace_ZeroRow ?n_BadPlace_ZeroRow ?u_BadPlace_MixedDimensions ?n_BadPlace_MixedDimensions ?u_BadPlace_BadPlace ?u_MixedDimensions_TableError ?n_MixedDimensions_TableError ?u_MixedDimensions_ValueError ?u_MixedDimensions_OneDirectionOnly ?n_MixedDimensions_OneDirectionOnly ?u_MixedDimensions_ZeroRow ?n_MixedDimensions_ZeroRow ?u_MixedDimensions_MixedDimensions ?u_MixedDimensions_BadPlace ?n_MixedDimensions_BadPlace ?u_TableError_TableError ?u_TableError_ValueError ?u_TableError_OneDirectionOnly ?n_TableError_OneDirectionOnly ?u_TableError_ZeroRow ?n_TableError_ZeroRow ?u_TableError_MixedDimensions ?n_TableError_MixedDimensions ?u_TableError_BadPlace ?n_TableError_BadPlace ?a_row_of_sums ?l_row_of_sums ?e_row_of_sums ?q_row_of_sums ?a_common_dimension ?l_common_dimension ?e_common_dimension ?q_common_dimension ?a_l_cell ?l_l_cell ?e_l_cell ?q_l_cell ?a_l_draws ?l_l_draws ?e_l_draws ?q_l_draws ?a_l_is_integer ?l_l_is_integer ?e_l_is_integer ?q_l_is_integer ?a_l_back ?l_l_back ?e_l_back ?q_l_back ?a_l_row ?l_l_row ?e_l_row ?q_l_row ?a_l_is_error ?l_l_is_error ?e_l_is_error ?q_l_is_error ?a_l_pair ?l_l_pair ?e_l_pair ?q_l_pair ?a_l_spoilt ?l_l_spoilt ?e_l_spoilt ?q_l_spoilt ?a_common_place_dimension ?l_common_place_dimension ?e_common_place_dimension ?q_common_place_dimension ?a_l_is_place ?l_l_is_place ?e_l_is_place ?q_l_is_place ?a_l_pairs ?l_l_pairs ?e_l_pairs ?q_l_pairs ?a_l_due ?l_l_due ?e_l_due ?q_l_due ?a_l_refused ?l_l_refused ?e_l_refused ?q_l_refused ?a_make_row ?l_make_row ?e_make_row ?q_make_row ?a_l_is_row ?l_l_is_row ?e_l_is_row ?q_l_is_row ?a_l_same ?l_l_same ?e_l_same ?q_l_same ?a_l_asked ?l_l_asked ?e_l_asked ?q_l_asked ?a_law ?l_law ?e_law ?q_law LW.plain
    (case z_len => k_is)
    (case z_abs => k_is)
    (case z_int => k_is)
    (case z_tuple => k_is)
    (case z_list => k_is)
    (case z_sorted => k_is)
    (case z_min => k_is)
    (case z_max => k_is)
    (case z_sum => k_is)
    (case z_all => k_is)
    (case z_any => k_is)
    (case z_isinstance => k_is)
    (case z_range => k_is)
    (case z_bool => k_is)
    (case z_str => k_is)
    (case z_dict => k_is)
    (case z_reversed => k_is)
    (case z_ValueError => k_is)
    (case w1 => k_is)
    (case w2 => k_is)
    (case w3 => k_is)
    (case w4 => k_is)
    (case g_TableError => k_is)
    (case i_TableError => k_is)
    (case t_TableError => k_is)
    (case s_TableError => k_is)
    (case ga_TableError => k_is)
    (case gt_TableError => k_is)
    (case cl_TableError => k_is)
    (case mr_TableError => k_is)
    (case hd_TableError => k_is)
    (case bs_TableError => k_is)
    (case br_TableError => k_is)
    (case bf_TableError => k_is)
    (case bk_TableError => k_is)
    (case l_TableError => k_is)
    (case c_TableError => k_is)
    (case g_BadPlace => k_is)
    (case i_BadPlace => k_is)
    (case t_BadPlace => k_is)
    (case s_BadPlace => k_is)
    (case ga_BadPlace => k_is)
    (case gt_BadPlace => k_is)
    (case cl_BadPlace => k_is)
    (case mr_BadPlace => k_is)
    (case hd_BadPlace => k_is)
    (case fi_BadPlace => k_is)
    (case l_BadPlace => k_is)
    (case c_BadPlace => k_is)
    (case xL_BadPlace => k_is)
    (case rv_BadPlace => decide +kernel)
    (case sa_BadPlace => k_is)
    (case kC_BadPlace => k_is)
    (case ti_BadPlace => k_is)
    (case f_BadPlace_word => k_is)
    (case f_BadPlace_index => k_is)
    (case g_MixedDimensions => k_is)
    (case i_MixedDimensions => k_is)
    (case t_MixedDimensions => k_is)
    (case s_MixedDimensions => k_is)
    (case ga_MixedDimensions => k_is)
    (case gt_MixedDimensions => k_is)
    (case cl_MixedDimensions => k_is)
    (case mr_MixedDimensions => k_is)
    (case hd_MixedDimensions => k_is)
    (case fi_MixedDimensions => k_is)
    (case l_MixedDimensions => k_is)
    (case c_MixedDimensions => k_is)
    (case xL_MixedDimensions => k_is)
    (case rv_MixedDimensions => decide +kernel)
    (case sa_MixedDimensions => k_is)
    (case kC_MixedDimensions => k_is)
    (case ti_MixedDimensions => k_is)
    (case f_MixedDimensions_word => k_is)
    (case g_OneDirectionOnly => k_is)
    (case i_OneDirectionOnly => k_is)
    (case t_OneDirectionOnly => k_is)
    (case s_OneDirectionOnly => k_is)
    (case g_ZeroRow => k_is)
    (case i_ZeroRow => k_is)
    (case t_ZeroRow => k_is)
    (case s_ZeroRow => k_is)
    (case u_BadPlace_TableError => k_is)
    (case n_BadPlace_TableError => decide)
    (case u_BadPlace_ValueError => k_is)
    (case u_BadPlace_OneDirectionOnly => k_is)
    (case n_BadPlace_OneDirectionOnly => decide)
    (case u_BadPlace_ZeroRow => k_is)
    (case n_BadPlace_ZeroRow => decide)
    (case u_BadPlace_MixedDimensions => k_is)
    (case n_BadPlace_MixedDimensions => decide)
    (case u_BadPlace_BadPlace => k_is)
    (case u_MixedDimensions_TableError => k_is)
    (case n_MixedDimensions_TableError => decide)
    (case u_MixedDimensions_ValueError => k_is)
    (case u_MixedDimensions_OneDirectionOnly => k_is)
    (case n_MixedDimensions_OneDirectionOnly => decide)
    (case u_MixedDimensions_ZeroRow => k_is)
    (case n_MixedDimensions_ZeroRow => decide)
    (case u_MixedDimensions_MixedDimensions => k_is)
    (case u_MixedDimensions_BadPlace => k_is)
    (case n_MixedDimensions_BadPlace => decide)
    (case u_TableError_TableError => k_is)
    (case u_TableError_ValueError => k_is)
    (case u_TableError_OneDirectionOnly => k_is)
    (case n_TableError_OneDirectionOnly => decide)
    (case u_TableError_ZeroRow => k_is)
    (case n_TableError_ZeroRow => decide)
    (case u_TableError_MixedDimensions => k_is)
    (case n_TableError_MixedDimensions => decide)
    (case u_TableError_BadPlace => k_is)
    (case n_TableError_BadPlace => decide)
    (case a_row_of_sums => k_is)
    (case l_row_of_sums => k_is)
    (case e_row_of_sums => k_is)
    (case q_row_of_sums => k_is)
    (case a_common_dimension => k_is)
    (case l_common_dimension => k_is)
    (case e_common_dimension => k_is)
    (case q_common_dimension => k_is)
    (case a_l_cell => k_is)
    (case l_l_cell => k_is)
    (case e_l_cell => k_is)
    (case q_l_cell => k_is)
    (case a_l_draws => k_is)
    (case l_l_draws => k_is)
    (case e_l_draws => k_is)
    (case q_l_draws => k_is)
    (case a_l_is_integer => k_is)
    (case l_l_is_integer => k_is)
    (case e_l_is_integer => k_is)
    (case q_l_is_integer => k_is)
    (case a_l_back => k_is)
    (case l_l_back => k_is)
    (case e_l_back => k_is)
    (case q_l_back => k_is)
    (case a_l_row => k_is)
    (case l_l_row => k_is)
    (case e_l_row => k_is)
    (case q_l_row => k_is)
    (case a_l_is_error => k_is)
    (case l_l_is_error => k_is)
    (case e_l_is_error => k_is)
    (case q_l_is_error => k_is)
    (case a_l_pair => k_is)
    (case l_l_pair => k_is)
    (case e_l_pair => k_is)
    (case q_l_pair => k_is)
    (case a_l_spoilt => k_is)
    (case l_l_spoilt => k_is)
    (case e_l_spoilt => k_is)
    (case q_l_spoilt => k_is)
    (case a_common_place_dimension => k_is)
    (case l_common_place_dimension => k_is)
    (case e_common_place_dimension => k_is)
    (case q_common_place_dimension => k_is)
    (case a_l_is_place => k_is)
    (case l_l_is_place => k_is)
    (case e_l_is_place => k_is)
    (case q_l_is_place => k_is)
    (case a_l_pairs => k_is)
    (case l_l_pairs => k_is)
    (case e_l_pairs => k_is)
    (case q_l_pairs => k_is)
    (case a_l_due => k_is)
    (case l_l_due => k_is)
    (case e_l_due => k_is)
    (case q_l_due => k_is)
    (case a_l_refused => k_is)
    (case l_l_refused => k_is)
    (case e_l_refused => k_is)
    (case q_l_refused => k_is)
    (case a_make_row => k_is)
    (case l_make_row => k_is)
    (case e_make_row => k_is)
    (case q_make_row => k_is)
    (case a_l_is_row => k_is)
    (case l_l_is_row => k_is)
    (case e_l_is_row => k_is)
    (case q_l_is_row => k_is)
    (case a_l_same => k_is)
    (case l_l_same => k_is)
    (case e_l_same => k_is)
    (case q_l_same => k_is)
    (case a_l_asked => k_is)
    (case l_l_asked => k_is)
    (case e_l_asked => k_is)
    (case q_l_asked => k_is)
    (case a_law => k_is)
    (case l_law => k_is)
    (case e_law => k_is)
    (case q_law => k_is)
