import PyProof.Rows.All
import PyProof.MinMaxWalk
import KE.KDictList
import KE.LtData
import HandS.DictTup
import HandS.TupLen
import HandS.Conv
import HandS.Call
import Wide.All
import OpenK.AllK
import Wide.FinOn
import HandS.ForMost
import HandS.HotCalls
import HandS.ExcInitHot
import HandS.ExcIs
import HandS.ExcField
import HandS.IsInst
import KE.SortData
import HandS.Wide
import HandS.Style
import HandS.TupAny
import HandS.TupLe
import KE.KExcIs
import KE.KDictSum
import KE.KRevIter
import PyProof.CollectIter
import HandS.Iter
import HandS.Dict
import HandS.SetFor
import HandS.List
import HandS.RevRange
import HandS.StrMore
import HandS.DictComp
import HandS.BoundList
import HandS.ExcInit
import HandS.Words
import KE.IntTextLaws
import PySem.Challenge.RW_owntables_k03_read_place
set_option Elab.async false
set_option linter.all false
set_option maxRecDepth 100000
set_option maxHeartbeats 4000000
/-! LR3: min(..) of things that are told apart by what stands in the heap (tuples). -/
namespace PySem.MinAt
open PySem PySem.W
section
variable {prog : Program} {w : World} {A : Around} {R : Result → Shared → Prop} {I : Addr} {fp wr : List Addr} {n : Nat} {P : Nat → Value → Prop} {St : Nat → Heap → Prop} {J : Heap → Prop} {bt : Nat → Nat → Bool} {S : Addr}
/-- all but the iterator's own things and S stands -/
def Kp (wr : List Addr) (S : Addr) (h h' : Heap) : Prop := ∀ b o, b ∉ wr → b ≠ S → h.get? b = some o → h'.get? b = some o
theorem Kp.trans {h h1 h2 : Heap} (a : Kp wr S h h1) (b : Kp wr S h1 h2) : Kp wr S h h2 := fun x o hx hs e => b x o hx hs (a x o hx hs e)
theorem Kp.upd (h : Heap) (f : Obj → Obj) : Kp wr S h (h.update S f) := fun _ _ _ hs e => (Heap.get?_update_other _ _ (Ne.symm hs)).trans e
/-- x < y, by places, where J holds -/
def Less (prog : Program) (w : World) (A : Around) (J : Heap → Prop) (P : Nat → Value → Prop) (bt : Nat → Nat → Bool) : Prop :=
  ∀ i j vi vj (s : Shared) (Q E : Value → Shared → Prop), J s.heap → P i vi → P j vj → Q (.bool (bt i j)) s → wpAny (model prog w) A (richCompare .Lt vi vj) Q E s
def pairOf (v : Value) (c : Nat) : Obj := { cls := .type "list", dict := none, data := .seq #[v, v] c, slots := #[] }
def Fin (prog : Program) (w : World) (R : Result → Shared → Prop) (n : Nat) (P : Nat → Value → Prop) (bt : Nat → Nat → Bool) (wr : List Addr) (S : Addr) (s : Shared) : Prop :=
  ∀ v h' tk, P (argBest bt (n - 1)) v → Kp wr S s.heap h' → R (.ok (.ret v)) { s with heap := h', toks := tk }
theorem Fin.on {s : Shared} {h : Heap} {tk : Nat} (f : Fin prog w R n P bt wr S s) (k : Kp wr S s.heap h) : Fin prog w R n P bt wr S { s with heap := h, toks := tk } := fun v h' tk' p q => f v h' tk' p (k.trans q)
theorem name_loop : (toString "min" ++ toString ".loop" : String) = "min.loop" := by decide
theorem turn (W : Walks prog w A.in1 I fp wr n P St) (hl : Less prog w A.in1 J P bt) (hJ : ∀ h h', Kp wr S h h' → J h → J h') (hS : S ∉ fp) :
    ∀ (k j : Nat) (s : Shared) (v : Value) (c : Nat), n = j + 1 + k → J s.heap → St (j + 1) s.heap → P (argBest bt j) v → s.heap.get? S = some (pairOf v c) → Fin prog w R n P bt wr S s →
      codeAny (model prog w) A (.builtin "min.loop" ⟨[.ref I, .none, .ref S], []⟩) R s := by
  have hw : S ∉ wr := fun h => hS (W.sub _ h)
  intro k
  induction k with
  | zero =>
    intro j s v c en hj st hp hs fin
    have en : n = j + 1 := en
    refine codeAny_builtin F.entry_min_loop ?_
    rw [Around.under_plainId F.plain_min_loop _]
    refine (wpAny_bind (wpAny_seqItems hs rfl ?_) : wpAny _ A.in1 (seqItems? (.ref S) >>= _) _ _ s)
    refine (wpAny_bind (wpAny_tryCatch (W.done s _ _ (en ▸ st) fun h' tk hk => ?_)) : wpAny _ A.in1 (MonadExcept.tryCatch (pyNext (.ref I)) _ >>= _) _ _ s)
    have hs1 := hk S _ hw hs
    show wpAny _ A.in1 (updateSeq S (fun _ => #[]) >>= _) _ _ _
    refine wpAny_bind ?_
    refine wpAny_updateSeq hs1 rfl (wpAny_bind (wpAny_letGo (wpAny_pure ?_)))
    exact fin v _ tk (by rw [en]; exact hp) (Kp.trans (fun b o hb _ e => hk b o hb e) (Kp.upd _ _))
  | succ k ih =>
    intro j s v c en hj st hp hs fin
    have hlt : j + 1 < n := by omega
    refine codeAny_builtin F.entry_min_loop ?_
    rw [Around.under_plainId F.plain_min_loop _]
    refine (wpAny_bind (wpAny_seqItems hs rfl ?_) : wpAny _ A.in1 (seqItems? (.ref S) >>= _) _ _ s)
    refine (wpAny_bind (wpAny_tryCatch (W.item (j + 1) s _ _ hlt st fun u h1 tk hu st1 hk => ?_)) : wpAny _ A.in1 (MonadExcept.tryCatch (pyNext (.ref I)) _ >>= _) _ _ s)
    have k1 : Kp wr S s.heap h1 := fun b o hb _ e => hk b o hb e
    have hs1 := hk S _ hw hs
    refine (wpAny_bind (wpAny_tryCatch (wpAny_holding (wpAny_bind (hl (j + 1) (argBest bt j) u v { s with heap := h1, toks := tk } _ _ (hJ _ _ k1 hj) hu hp ?_)))) : wpAny _ A.in1 (MonadExcept.tryCatch (holding [u, u] (richCompare .Lt u v >>= _)) _ >>= _) _ _ _)
    refine wpAny_bind (wpAny_holding (wpAny_truthy_bool (wpAny_bind (wpAny_letGo (wpAny_pure ?_)))))
    cases hb : bt (j + 1) (argBest bt j) with
    | true =>
      have ea : argBest bt (j + 1) = j + 1 := by simp [argBest, hb]
      rw [if_pos rfl]
      refine wpAny_bind ?_
      refine wpAny_updateSeq hs1 rfl (wpAny_bind (wpAny_letGo ?_))
      rw [name_loop]
      refine wpAny_pure ⟨plainId_quiet F.plain_min_loop _, ih (j + 1) _ u _ (by omega) (hJ _ _ (k1.trans (Kp.upd _ _)) hj) (W.frame _ _ _ st1 fun b hb' o e => ?_) (by rw [ea]; exact hu) (Heap.get?_update_self _ hs1 rfl) (fin.on (k1.trans (Kp.upd _ _)))⟩
      exact Kp.upd (wr := []) h1 _ b o (fun z => nomatch z) (fun z => hS (z ▸ hb')) e
    | false =>
      have ea : argBest bt (j + 1) = argBest bt j := by simp [argBest, hb]
      rw [if_neg Bool.false_ne_true]
      refine wpAny_bind (wpAny_letGo ?_)
      rw [name_loop]
      exact wpAny_pure ⟨plainId_quiet F.plain_min_loop _, ih (j + 1) _ v c (by omega) (hJ _ _ k1 hj) st1 (by rw [ea]; exact hp) hs1 (fin.on k1)⟩
theorem start (W : Walks prog w A.in1 I fp wr n P St) (hl : Less prog w A.in1 J P bt) (hJ : ∀ h h', Kp wr S h h' → J h → J h') (hS : S ∉ fp) (hn : 0 < n) {s : Shared} {c : Nat} (hj : J s.heap) (st : St 0 s.heap)
    (hs : s.heap.get? S = some { cls := .type "list", dict := none, data := .seq #[] c, slots := #[] }) (fin : Fin prog w R n P bt wr S s) :
    codeAny (model prog w) A (.builtin "min.loop" ⟨[.ref I, .none, .ref S], []⟩) R s := by
  have hw : S ∉ wr := fun h => hS (W.sub _ h)
  refine codeAny_builtin F.entry_min_loop ?_
  rw [Around.under_plainId F.plain_min_loop _]
  refine (wpAny_bind (wpAny_seqItems hs rfl ?_) : wpAny _ A.in1 (seqItems? (.ref S) >>= _) _ _ s)
  refine (wpAny_bind (wpAny_tryCatch (W.item 0 s _ _ hn st fun u h1 tk hu st1 hk => ?_)) : wpAny _ A.in1 (MonadExcept.tryCatch (pyNext (.ref I)) _ >>= _) _ _ s)
  have hs1 := hk S _ hw hs
  have k1 : Kp wr S s.heap h1 := fun b o hb _ e => hk b o hb e
  show wpAny _ A.in1 (updateSeq S (fun _ => #[u, u]) >>= _) _ _ _
  refine wpAny_bind ?_
  refine wpAny_updateSeq hs1 rfl ?_
  rw [name_loop]
  refine wpAny_pure ⟨plainId_quiet F.plain_min_loop _, turn W hl hJ hS (n - 1) 0 _ u _ (by omega) (hJ _ _ (k1.trans (Kp.upd _ _)) hj) (W.frame _ _ _ st1 fun b hb' o e => ?_) hu (Heap.get?_update_self _ hs1 rfl) (fin.on (k1.trans (Kp.upd _ _)))⟩
  exact Kp.upd (wr := []) h1 _ b o (fun z => nomatch z) (fun z => hS (z ▸ hb')) e
end
section
variable {prog : Program} {w : World} {A : Around} {E : Value → Shared → Prop} {s : Shared} {T : String} {r d : Addr} {n : Nat} {P : Nat → Value → Prop} {OK : Heap → Prop} {bt : Nat → Nat → Bool} {J : Heap → Prop}
/-- min(r), r a source of n > 0 things -/
theorem min_src {Q : Value → Shared → Prop} (K : KdlSrc prog w T r d n P OK) (hh : A.handled = none) (hok : OK s.heap) (hn : 0 < n) (hj : J s.heap) (hJ : ∀ h : Heap, (∀ b o, s.heap.get? b = some o → h.get? b = some o) → J h)
    (hl : Less prog w A.in1 J P bt) (h : ∀ v h' tk, P (argBest bt (n - 1)) v → (∀ b o, s.heap.get? b = some o → h'.get? b = some o) → Q v { s with heap := h', toks := tk }) :
    wpAny (model prog w) A (call (.builtin "min") [.ref r]) Q E s := by
  refine call_function_tree F.kind_min F.plain_min F.entry_min (F.args_min1 _) ?_
  refine (wpAny_bind (wpAny_of_eq (show Builtin.Builtins.bindParams "min" ["key", "default"] 0 ⟨[], []⟩ = pure [none, none] from rfl) ?_) : wpAny _ A.in1 (Builtin.Builtins.bindParams "min" ["key", "default"] 0 ⟨[], []⟩ >>= _) _ _ s)
  refine wpAny_bind (wpAny_pure ?_)
  obtain ⟨oI, St, hI, W, hst⟩ := K.iter A.in1 s hh hok
  refine wpAny_bind (hI _ _ (wpAny_bind (wpAny_newObj_type ?_)))
  have hlt := K.there _ hok
  have sz : (s.heap.push oI).objs.size = s.heap.objs.size + 1 := Heap.size_push ..
  have hS : (s.heap.push oI).objs.size ∉ [s.heap.objs.size, d] := fun hm => by
    rw [sz] at hm
    rcases List.mem_cons.mp hm with e | hm
    · exact absurd e (Nat.succ_ne_self _)
    · exact absurd hlt.2 (by rw [← List.mem_singleton.mp hm]; exact Nat.not_lt.mpr (Nat.le_succ _))
  rw [name_loop]
  have old : ∀ b o, s.heap.get? b = some o → ∀ (h' : Heap), Kp [s.heap.objs.size] (s.heap.push oI).objs.size ((s.heap.push oI).push { cls := .type "list", data := .seq ([] : List Value).toArray }) h' → h'.get? b = some o := fun b o e h' k => by
    have hb := Heap.lt_size e
    refine k b o (fun z => ?_) (fun z => ?_) (Heap.get?_push_of_some _ (Heap.get?_push_of_some _ e))
    · exact absurd hb (by rw [List.mem_singleton.mp z]; exact Nat.lt_irrefl _)
    · exact absurd hb (by rw [z, sz]; exact Nat.not_lt.mpr (Nat.le_succ _))
  let J' : Heap → Prop := fun h' => ∀ b o, s.heap.get? b = some o → h'.get? b = some o
  refine wpAny_pure ⟨plainId_quiet F.plain_min_loop _, start (J := J') W (fun i j vi vj s' Q' E' hj' hi hj2 hq => hl i j vi vj s' Q' E' (hJ _ hj') hi hj2 hq) (fun h1 h2 k hj1 b o e => ?_) hS hn (fun b o e => Heap.get?_push_of_some _ (Heap.get?_push_of_some _ e)) (W.frame _ _ _ hst fun b _ o e => Heap.get?_push_of_some _ e) (Heap.get?_push_size _ rfl) fun v h' tk hp k => ?_⟩
  · have hb := Heap.lt_size e
    refine k b o (fun z => ?_) (fun z => ?_) (hj1 b o e)
    · exact absurd hb (by rw [List.mem_singleton.mp z]; exact Nat.lt_irrefl _)
    · exact absurd hb (by rw [z, sz]; exact Nat.not_lt.mpr (Nat.le_succ _))
  · exact h v h' tk hp fun b o e => old b o e h' k
end
end PySem.MinAt

set_option Elab.async false
set_option linter.all false
set_option maxRecDepth 100000
set_option maxHeartbeats 4000000
/-! LR4: dicts with tuple keys: their truth; the least key. -/
namespace PySem
section
variable {prog : Program} {w : World} {K : Type} [DecidableEq K] {knd : HeapKind prog w K} {A : Around} {E : Value → Shared → Prop} {s : Shared}
theorem de_truthy_dictH {d : Addr} {xs : List (K × Addr × Value)} {Q : Bool → Shared → Prop} (hd : (d == sysModules) = false) (hm : s.heap.DictOfH knd d xs) (hf : (xs.length : Int) < 2 ^ 63)
    (h : ∀ tk, Q (!xs.isEmpty) { s with toks := tk }) : wpAny (model prog w) A (truthy (.ref d)) Q E s := by
  have hT : s.TypeIs (.ref d) "dict" := hm.typeIs
  have hne : ((xs.length : Int) != 0) = !xs.isEmpty := by
    cases xs with
    | nil => rfl
    | cons x r =>
      simp
      omega
  have len : wpAny (model prog w) A (runValue (.builtin "len" ⟨[.ref d], []⟩)) (fun r s' => r = .int xs.length (s.toks + 1) ∧ Q (!xs.isEmpty) s') E s := by
    refine wpAny_runValue (codeAny_builtin entry_len ?_)
    rw [Around.under_plainId plain_len _]
    exact wpAny_mono (wpAny_len_body_dictH (Q := fun r s' => r = .int xs.length (s.toks + 1) ∧ Q (!xs.isEmpty) s') hd hm hf ⟨rfl, h _⟩) (fun _ _ ⟨_, e, q⟩ => by rw [e]; exact q) fun _ _ e => e
  unfold truthy
  first
    | refine wpAny_bind (wpAny_callSpecial?_none (name := Str.ofString "__bool__") hT noBool_dict ?_)
    | refine wpAny_bind (wpAny_pure (wpAny_bind (wpAny_callSpecial?_none (name := Str.ofString "__bool__") hT noBool_dict ?_)))
  first
    | refine wpAny_bind (wpAny_specialOf (name := Str.ofString "__len__") hT F.slot_dict_len.lookup ?_)
    | refine wpAny_bind (wpAny_pure (wpAny_bind (wpAny_specialOf (name := Str.ofString "__len__") hT F.slot_dict_len.lookup ?_)))
  first
    | exact wpAny_bind (wpAny_mono len (fun r s' x => by obtain ⟨rfl, q⟩ := x; exact wpAny_pure (hne ▸ q)) fun _ _ e => e)
    | exact wpAny_bind (wpAny_pure (wpAny_bind (wpAny_mono len (fun r s' x => by obtain ⟨rfl, q⟩ := x; exact wpAny_pure (hne ▸ q)) fun _ _ e => e)))
end
end PySem
namespace L2
open PySem PySem.Spec PyProof.Rows
section
variable {X : Cx} {a : Expr} {ta : TE}
theorem tru_dT : TruR X (fun x H Q => ∃ p kvs, x = .ref p ∧ H p = some (.dT kvs) ∧ Q (!kvs.isEmpty) H) := by
  intro pins s σ H x v Q I rx h
  obtain ⟨p, kvs, rfl, hp, q⟩ := h
  cases rx
  obtain ⟨z, hd, ys, rel, dd⟩ := dt_of I.hok hp
  have hl : kvs.length = ys.length := Paired.length rel
  refine de_truthy_dictH hd dd (by rw [← hl]; rw [sizeLine_eq] at z; omega) fun tk => ⟨H, I.tok _, ?_⟩
  have e : (!ys.isEmpty) = !kvs.isEmpty := by cases kvs <;> cases ys <;> simp_all
  rw [e]
  exact q
theorem pt_truthD (ha : PE X a ta) (he : ∀ whole, isTrue a X.env whole = (do let v ← whole; standAt a.pos; holding [v] (truthy v))) :
    PT X a (fun σ H Q => ta σ H fun x H' => (∃ k, TruV X.K x H' k ∧ Q k H') ∨ ∃ p kvs, x = .ref p ∧ H' p = some (.dT kvs) ∧ Q (!kvs.isEmpty) H') := by
  refine ⟨fun pins s σ H Q I h => ?_⟩
  refine isTrue_plain (thn (ha.run pins s σ H _ I h) fun v s1 ⟨x, H1, I1, r1, q1⟩ => ?_) (he _)
  rcases q1 with q1 | q1
  · exact tru_ok pins s1 σ H1 x v Q I1 r1 q1
  · exact tru_dT pins s1 σ H1 x v Q I1 r1 q1
end
/-- the best so far -/
def bestK {κ : Type} (lt : κ → κ → Bool) (k : κ) (r : List κ) : κ := r.foldl (fun b x => if lt x b = true then x else b) k
theorem argBest_fold {κ : Type} (lt : κ → κ → Bool) (k : κ) (r : List κ) : ∀ m, m ≤ r.length → (k :: r)[argBest (fun i j => lt ((k :: r).getD i k) ((k :: r).getD j k)) m]? = some (bestK lt k (r.take m))
  | 0, _ => rfl
  | m + 1, h => by
    have ih := argBest_fold lt k r m (by omega)
    have hm : r[m]? = some (r[m]'(by omega)) := List.getElem?_eq_getElem (by omega)
    have e1 : (k :: r).getD (m + 1) k = r[m]'(by omega) := by rw [List.getD_eq_getElem?_getD, List.getElem?_cons_succ, hm]; rfl
    have e2 : (k :: r).getD (argBest (fun i j => lt ((k :: r).getD i k) ((k :: r).getD j k)) m) k = bestK lt k (r.take m) := by rw [List.getD_eq_getElem?_getD, ih]; rfl
    have e3 : bestK lt k (r.take (m + 1)) = if lt (r[m]'(by omega)) (bestK lt k (r.take m)) = true then r[m]'(by omega) else bestK lt k (r.take m) := by
      unfold bestK
      rw [List.take_succ, hm, List.foldl_append]
      rfl
    have e4 : argBest (fun i j => lt ((k :: r).getD i k) ((k :: r).getD j k)) (m + 1) = if lt ((k :: r).getD (m + 1) k) ((k :: r).getD (argBest (fun i j => lt ((k :: r).getD i k) ((k :: r).getD j k)) m) k) then m + 1 else argBest (fun i j => lt ((k :: r).getD i k) ((k :: r).getD j k)) m := rfl
    rw [e4, e1, e2, e3]
    split
    · rw [List.getElem?_cons_succ, hm]
    · exact ih
end L2

set_option Elab.async false
set_option linter.all false
set_option maxRecDepth 100000
set_option maxHeartbeats 4000000
/-! DE1: data, what stands for it in the heap, the state of a body by data. -/
namespace DE
open PySem L2

/-- data: values by content -/
inductive D where
  | non
  | bl (b : Bool)
  | int (i : Int)
  | str (s : Str)
  | tup (xs : List D)
  | lst (xs : List D)
  | dicT (ks : List (List Key)) (vs : List D)
  | dicK (ks : List Key) (vs : List D)
  | exc (c : Str) (ns : List Str) (fs : List D)

/-- what a body's data lean on: the written part, the globals, the exception at hand (its object, class, dict) -/
structure En where
  K : PySem.W.Frag
  mg : Str → Option Value
  px : Option (Addr × Addr × Addr)

def Ex (H H' : Hp) : Prop := ∀ a o, H a = some o → H' a = some o
theorem Ex.refl (H : Hp) : Ex H H := fun _ _ h => h
theorem Ex.trans {H H1 H2 : Hp} (a : Ex H H1) (b : Ex H1 H2) : Ex H H2 := fun x o h => b x o (a x o h)
theorem Ex.new {H : Hp} {p : Addr} {o : HO} (h : H p = none) : Ex H (upd H p o) := fun a u e => by
  rw [upd_ne (ne_of_none e h)]
  exact e
theorem Ex.mut {H H' : Hp} {p : Addr} {o : HO} (e : Ex H H') (h : H p = none) : Ex H (upd H' p o) := fun a u ha => by
  rw [upd_ne (ne_of_none ha h)]
  exact e a u ha
theorem Ex.free {H H' : Hp} {p : Addr} (e : Ex H H') (h : H' p = none) : H p = none := by
  cases h1 : H p with
  | none => rfl
  | some o => rw [e p o h1] at h; cases h
theorem Ex.rd {H H' : Hp} {a : Addr} {u : HO} (e : Ex H H') (h : Rd H a u) : Rd H' a u := by
  rcases h with h | ⟨o, h⟩
  · exact .inl (e a _ h)
  · exact .inr ⟨o, e a _ h⟩
theorem Ex.sql {K : PySem.W.Frag} {H H' : Hp} {a : Addr} {xs : List V} (e : Ex H H') (h : SqL K H a xs) : SqL K H' a xs := by
  rcases h with h | h
  · exact .inl (e.rd h)
  · exact .inr h

mutual
/-- v stands for the data d in G -/
def Den (E : En) (G : Hp) : D → V → Prop
  | .non, v => v = .non
  | .bl b, v => v = .bl b
  | .int i, v => v = .int i
  | .str s, v => v = .str s
  | .tup ds, v => ∃ a vs, v = .ref a ∧ G a = some (.tup vs) ∧ Dens E G ds vs
  | .lst ds, v => ∃ a vs, v = .ref a ∧ SqL E.K G a vs ∧ Dens E G ds vs
  | .dicT ks ds, v => ∃ a kvs, v = .ref a ∧ G a = some (.dT kvs) ∧ kvs.map (·.1) = ks ∧ Dens E G ds (kvs.map (·.2))
  | .dicK ks ds, v => ∃ a kvs, v = .ref a ∧ G a = some (.dK kvs) ∧ kvs.map (·.1) = ks ∧ Dens E G ds (kvs.map (·.2))
  | .exc c ns ds, v => ∃ a C dd fs, v = .ref a ∧ E.px = some (a, C, dd) ∧ E.mg c = some (.ref C) ∧ G dd = some (.xd fs) ∧ fs.map (·.1) = ns ∧ Dens E G ds (fs.map (·.2))
def Dens (E : En) (G : Hp) : List D → List V → Prop
  | [], vs => vs = []
  | d :: ds, vs => ∃ v r, vs = v :: r ∧ Den E G d v ∧ Dens E G ds r
end

mutual
theorem Den.mono {E : En} {G G' : Hp} (e : Ex G G') : ∀ (d : D) (v : V), Den E G d v → Den E G' d v
  | .non, v, h => h
  | .bl _, v, h => h
  | .int _, v, h => h
  | .str _, v, h => h
  | .tup ds, v, h => by
    obtain ⟨a, vs, h1, h2, h3⟩ := h
    exact ⟨a, vs, h1, e _ _ h2, Dens.mono e ds vs h3⟩
  | .lst ds, v, h => by
    obtain ⟨a, vs, h1, h2, h3⟩ := h
    exact ⟨a, vs, h1, e.sql h2, Dens.mono e ds vs h3⟩
  | .dicT ks ds, v, h => by
    obtain ⟨a, kvs, h1, h2, h3, h4⟩ := h
    exact ⟨a, kvs, h1, e _ _ h2, h3, Dens.mono e ds _ h4⟩
  | .dicK ks ds, v, h => by
    obtain ⟨a, kvs, h1, h2, h3, h4⟩ := h
    exact ⟨a, kvs, h1, e _ _ h2, h3, Dens.mono e ds _ h4⟩
  | .exc c ns ds, v, h => by
    obtain ⟨a, C, dd, fs, h1, h2, h3, h4, h5, h6⟩ := h
    exact ⟨a, C, dd, fs, h1, h2, h3, e _ _ h4, h5, Dens.mono e ds _ h6⟩
theorem Dens.mono {E : En} {G G' : Hp} (e : Ex G G') : ∀ (ds : List D) (vs : List V), Dens E G ds vs → Dens E G' ds vs
  | [], vs, h => h
  | d :: ds, vs, h => by
    obtain ⟨v, r, h1, h2, h3⟩ := h
    exact ⟨v, r, h1, Den.mono e d v h2, Dens.mono e ds r h3⟩
end
section
variable {E : En} {G G' : Hp} {ds es : List D} {vs ws : List V}
theorem Dens.length : ∀ {ds : List D} {vs : List V}, Dens E G ds vs → vs.length = ds.length
  | [], vs, h => by
    have e : vs = [] := h
    rw [e] <;> rfl
  | d :: ds, vs, h => by
    obtain ⟨v, r, h1, h2, h3⟩ := h
    rw [h1, List.length_cons, List.length_cons, Dens.length h3]
theorem Dens.append : ∀ {ds es : List D} {vs ws : List V}, Dens E G ds vs → Dens E G es ws → Dens E G (ds ++ es) (vs ++ ws)
  | [], es, vs, ws, h, h' => by
    have e : vs = [] := h
    rw [e]
    exact h'
  | d :: ds, es, vs, ws, h, h' => by
    obtain ⟨v, r, h1, h2, h3⟩ := h
    rw [h1]
    exact ⟨v, r ++ ws, rfl, h2, Dens.append h3 h'⟩
theorem Dens.one {d : D} {v : V} (h : Den E G d v) : Dens E G [d] [v] := ⟨v, [], rfl, h, rfl⟩
theorem Dens.get : ∀ {ds : List D} {vs : List V} {i : Nat} {d : D}, Dens E G ds vs → ds[i]? = some d → ∃ v, vs[i]? = some v ∧ Den E G d v
  | [], _, _, _, _, e => by simp at e
  | d :: ds, vs, 0, d', h, e => by
    obtain ⟨v, r, h1, h2, h3⟩ := h
    have e' : d = d' := by simpa using e
    subst e'
    exact ⟨v, by rw [h1]; rfl, h2⟩
  | d :: ds, vs, i + 1, d', h, e => by
    obtain ⟨v, r, h1, h2, h3⟩ := h
    obtain ⟨w, h4, h5⟩ := Dens.get (i := i) (d := d') h3 (by simpa using e)
    exact ⟨w, by rw [h1]; simpa using h4, h5⟩
/-- the other way: by the values' places -/
theorem Dens.get' : ∀ {ds : List D} {vs : List V} {i : Nat} {v : V}, Dens E G ds vs → vs[i]? = some v → ∃ d, ds[i]? = some d ∧ Den E G d v
  | [], vs, i, v, h, e => by
    have h' : vs = [] := h
    rw [h'] at e
    simp at e
  | d :: ds, vs, 0, v, h, e => by
    obtain ⟨w, r, h1, h2, h3⟩ := h
    rw [h1] at e
    have e' : w = v := by simpa using e
    subst e'
    exact ⟨d, rfl, h2⟩
  | d :: ds, vs, i + 1, v, h, e => by
    obtain ⟨w, r, h1, h2, h3⟩ := h
    rw [h1] at e
    obtain ⟨d', h4, h5⟩ := Dens.get' (i := i) (v := v) h3 (by simpa using e)
    exact ⟨d', by simpa using h4, h5⟩
theorem Dens.set : ∀ {ds : List D} {vs : List V} {d : D} {v : V} (i : Nat), Dens E G ds vs → Den E G d v → Dens E G (ds.set i d) (vs.set i v)
  | [], vs, _, _, _, h, _ => by
    have e : vs = [] := h
    rw [e]
    exact rfl
  | d :: ds, vs, d', v', 0, h, h' => by
    obtain ⟨v, r, h1, h2, h3⟩ := h
    rw [h1]
    exact ⟨v', r, rfl, h', h3⟩
  | d :: ds, vs, d', v', i + 1, h, h' => by
    obtain ⟨v, r, h1, h2, h3⟩ := h
    rw [h1]
    exact ⟨v, r.set i v', rfl, h2, Dens.set i h3 h'⟩
theorem Dens.take : ∀ {ds : List D} {vs : List V} (n : Nat), Dens E G ds vs → Dens E G (ds.take n) (vs.take n)
  | ds, vs, 0, _ => by
    rw [List.take_zero, List.take_zero]
    exact rfl
  | [], vs, n + 1, h => by
    have e : vs = [] := h
    rw [e]
    exact rfl
  | d :: ds, vs, n + 1, h => by
    obtain ⟨v, r, h1, h2, h3⟩ := h
    rw [h1]
    exact ⟨v, r.take n, rfl, h2, Dens.take n h3⟩
theorem Dens.drop : ∀ {ds : List D} {vs : List V} (n : Nat), Dens E G ds vs → Dens E G (ds.drop n) (vs.drop n)
  | ds, vs, 0, h => h
  | [], vs, n + 1, h => by
    have e : vs = [] := h
    rw [e]
    exact rfl
  | d :: ds, vs, n + 1, h => by
    obtain ⟨v, r, h1, h2, h3⟩ := h
    rw [h1]
    exact Dens.drop n h3
theorem Dens.ints : ∀ (ns : List Int), Dens E G (ns.map D.int) (ns.map V.int)
  | [] => rfl
  | n :: ns => ⟨.int n, ns.map V.int, rfl, rfl, Dens.ints ns⟩
theorem Dens.nil_iff (h : Dens E G ds vs) : vs.isEmpty = ds.isEmpty := by
  have e := h.length
  cases vs <;> cases ds <;> simp_all
end

/-! ### what a body holds -/
/-- an object that one alone holds -/
inductive OV where
  | l (ds : List D)
  | tT (ks : List (List Key)) (vs : List D)
  | tK (ks : List Key) (vs : List D)
def OV.d : OV → D
  | .l ds => .lst ds
  | .tT ks vs => .dicT ks vs
  | .tK ks vs => .dicK ks vs
/-- what a slot holds: data that no one changes, or an object of its own -/
inductive LV where
  | dat (d : D)
  | own (o : OV)
/-- what an expression gives: data, a new object, or a slot's own object -/
inductive RV where
  | dat (d : D)
  | fr (o : OV)
  | br (o : OV)
def RV.d : RV → D
  | .dat d => d
  | .fr o => o.d
  | .br o => o.d
abbrev Rho := List (Option LV)

def DenO (E : En) (G H : Hp) (l : Addr) : OV → Prop
  | .l ds => ∃ vs, H l = some (.lst vs) ∧ Dens E G ds vs
  | .tT ks ds => ∃ kvs, H l = some (.dT kvs) ∧ kvs.map (·.1) = ks ∧ Dens E G ds (kvs.map (·.2))
  | .tK ks ds => ∃ kvs, H l = some (.dK kvs) ∧ kvs.map (·.1) = ks ∧ Dens E G ds (kvs.map (·.2))
def DenL (E : En) (G H : Hp) : LV → V → Prop
  | .dat d, v => Den E G d v
  | .own o, v => ∃ l, v = .ref l ∧ G l = none ∧ DenO E G H l o
/-- H0: the heap ahead of the expression -/
def DenR (E : En) (G H H0 : Hp) : RV → V → Prop
  | .dat d, v => Den E G d v
  | .fr o, v => ∃ l, v = .ref l ∧ H0 l = none ∧ G l = none ∧ DenO E G H l o
  | .br o, v => ∃ l, v = .ref l ∧ G l = none ∧ DenO E G H l o

/-- something that is no tuple and no error's dict stands there -/
def Mb (H : Hp) (b : Addr) : Prop := ∃ o, H b = some o ∧ (∀ vs, o ≠ .tup vs) ∧ ∀ fs, o ≠ .xd fs
theorem Mb.ne {H : Hp} {b : Addr} (h : Mb H b) : H b ≠ none := fun z => by
  obtain ⟨o, h1, _⟩ := h
  rw [h1] at z
  cases z
theorem Mb.mono {H H' : Hp} {b : Addr} (e : Ex H H') (h : Mb H b) : Mb H' b := let ⟨o, h1, h2⟩ := h; ⟨o, e _ _ h1, h2⟩
/-- the frozen part and the heap have grown -/
structure Gr (G H G' H' : Hp) : Prop where
  g : Ex G G'
  h : Ex H H'
  i : Ex G' H'
  n : ∀ b, G b = none → Mb H b → G' b = none
theorem Gr.refl {G H : Hp} (e : Ex G H) : Gr G H G H := ⟨Ex.refl _, Ex.refl _, e, fun _ h _ => h⟩
theorem Gr.trans {G H G1 H1 G2 H2 : Hp} (a : Gr G H G1 H1) (b : Gr G1 H1 G2 H2) : Gr G H G2 H2 := ⟨a.g.trans b.g, a.h.trans b.h, b.i, fun x hg hh => b.n x (a.n x hg hh) (hh.mono a.h)⟩
/-- all tuples of the heap are frozen -/
def tups (G H : Hp) : Hp := fun a => match G a with
  | some o => some o
  | none => match H a with
    | some (.tup vs) => some (.tup vs)
    | _ => none
theorem tups_at {G H : Hp} {a : Addr} {vs : List V} (i : Ex G H) (h : H a = some (.tup vs)) : tups G H a = some (.tup vs) := by
  unfold tups
  cases q : G a with
  | some o =>
    have := i a o q
    rw [h] at this
    exact this.symm
  | none => rw [h]
theorem tups_ex {G H : Hp} : Ex G (tups G H) := fun a o q => by
  unfold tups
  rw [q]
theorem tups_in {G H : Hp} (e : Ex G H) : Ex (tups G H) H := fun a o q => by
  unfold tups at q
  cases q1 : G a with
  | some o1 =>
    rw [q1] at q
    have z := e a o1 q1
    rw [z]
    exact q
  | none =>
    rw [q1] at q
    cases q2 : H a with
    | none => rw [q2] at q; cases q
    | some o1 =>
      rw [q2] at q
      cases o1 with
      | tup vs => exact q
      | _ => cases q
theorem Gr.tups {G H : Hp} (e : Ex G H) : Gr G H (DE.tups G H) H := ⟨tups_ex, Ex.refl _, tups_in e, fun b hg hm => by
  obtain ⟨o, h1, h2, _⟩ := hm
  unfold DE.tups
  rw [hg, h1]
  cases o with
  | tup vs => exact absurd rfl (h2 vs)
  | _ => rfl⟩
/-- a new object that is left loose -/
theorem Gr.loose {G H : Hp} {p : Addr} {o : HO} (e : Ex G H) (h : H p = none) : Gr G H G (upd H p o) := ⟨Ex.refl _, Ex.new h, fun a u q => by rw [upd_ne (ne_of_none (e a u q) h)]; exact e a u q, fun _ h _ => h⟩
/-- a new object that is frozen at once -/
theorem Gr.frozen {G H : Hp} {p : Addr} {o : HO} (e : Ex G H) (h : H p = none) : Gr G H (upd G p o) (upd H p o) := ⟨Ex.new (e.free h), Ex.new h, fun a u q => by
  by_cases hp : a = p
  · rw [hp, upd_same] at q ⊢
    exact q
  · rw [upd_ne hp] at q ⊢
    exact e a u q, fun b hg hh => by
  have hp : b ≠ p := fun z => hh.ne (by rw [z]; exact h)
  rw [upd_ne hp]
  exact hg⟩
section
variable {E : En} {G H G' H' H0 : Hp}
theorem DenO.mono {l : Addr} {o : OV} (g : Ex G G') (h : Ex H H') (x : DenO E G H l o) : DenO E G' H' l o := by
  cases o with
  | l ds => obtain ⟨vs, h1, h2⟩ := x; exact ⟨vs, h _ _ h1, Dens.mono g _ _ h2⟩
  | tT ks ds => obtain ⟨vs, h1, h2, h3⟩ := x; exact ⟨vs, h _ _ h1, h2, Dens.mono g _ _ h3⟩
  | tK ks ds => obtain ⟨vs, h1, h2, h3⟩ := x; exact ⟨vs, h _ _ h1, h2, Dens.mono g _ _ h3⟩
theorem DenO.there {l : Addr} {o : OV} (x : DenO E G H l o) : H l ≠ none := by
  cases o with
  | l ds => obtain ⟨vs, h1, h2⟩ := x; rw [h1]; exact fun z => nomatch z
  | tT ks ds => obtain ⟨vs, h1, h2, h3⟩ := x; rw [h1]; exact fun z => nomatch z
  | tK ks ds => obtain ⟨vs, h1, h2, h3⟩ := x; rw [h1]; exact fun z => nomatch z
theorem DenO.mb {l : Addr} {o : OV} (x : DenO E G H l o) : Mb H l := by
  cases o with
  | l ds => obtain ⟨vs, h1, h2⟩ := x; exact ⟨_, h1, (fun _ z => nomatch z), fun _ z => nomatch z⟩
  | tT ks ds => obtain ⟨vs, h1, h2, h3⟩ := x; exact ⟨_, h1, (fun _ z => nomatch z), fun _ z => nomatch z⟩
  | tK ks ds => obtain ⟨vs, h1, h2, h3⟩ := x; exact ⟨_, h1, (fun _ z => nomatch z), fun _ z => nomatch z⟩
theorem DenL.mono {lv : LV} {v : V} (r : Gr G H G' H') (x : DenL E G H lv v) : DenL E G' H' lv v := by
  cases lv with
  | dat d => exact Den.mono r.g d v x
  | own o =>
    obtain ⟨l, h1, h2, h3⟩ := x
    exact ⟨l, h1, r.n l h2 h3.mb, h3.mono r.g r.h⟩
theorem DenR.mono {rv : RV} {v : V} (r : Gr G H G' H') (x : DenR E G H H0 rv v) : DenR E G' H' H0 rv v := by
  cases rv with
  | dat d => exact Den.mono r.g d v x
  | fr o =>
    obtain ⟨l, h1, h0, h2, h3⟩ := x
    exact ⟨l, h1, h0, r.n l h2 h3.mb, h3.mono r.g r.h⟩
  | br o =>
    obtain ⟨l, h1, h2, h3⟩ := x
    exact ⟨l, h1, r.n l h2 h3.mb, h3.mono r.g r.h⟩
/-- told from an earlier heap -/
theorem DenR.back {H1 : Hp} {rv : RV} {v : V} (e : Ex H0 H1) (x : DenR E G H H1 rv v) : DenR E G H H0 rv v := by
  cases rv with
  | dat d => exact x
  | fr o =>
    obtain ⟨l, h1, h0, h2, h3⟩ := x
    exact ⟨l, h1, e.free h0, h2, h3⟩
  | br o => exact x
/-- an object's data, once it is frozen -/
theorem DenO.frz {l : Addr} {o : OV} (x : DenO E G H l o) (i : Ex G H) (n : G l = none) : ∃ u, H l = some u ∧ Ex G (upd G l u) ∧ Ex (upd G l u) H ∧ Den E (upd G l u) o.d (.ref l) := by
  have en : ∀ {u : HO}, H l = some u → Ex (upd G l u) H := fun {u} hu a w q => by
    by_cases ha : a = l
    · rw [ha, upd_same] at q
      rw [ha, hu]
      exact q
    · rw [upd_ne ha] at q
      exact i a w q
  cases o with
  | l ds =>
    obtain ⟨vs, h1, h2⟩ := x
    exact ⟨_, h1, Ex.new n, en h1, l, vs, rfl, .inl (.inl upd_same), Dens.mono (Ex.new n) _ _ h2⟩
  | tT ks ds =>
    obtain ⟨vs, h1, h2, h3⟩ := x
    exact ⟨_, h1, Ex.new n, en h1, l, vs, rfl, upd_same, h2, Dens.mono (Ex.new n) _ _ h3⟩
  | tK ks ds =>
    obtain ⟨vs, h1, h2, h3⟩ := x
    exact ⟨_, h1, Ex.new n, en h1, l, vs, rfl, upd_same, h2, Dens.mono (Ex.new n) _ _ h3⟩
/-- data or a new object, as data -/
theorem DenR.froze {rv : RV} {v : V} (r : Gr G H G' H') (x : DenR E G' H' H rv v) (nb : ∀ o, rv ≠ .br o) : ∃ G2, Gr G H G2 H' ∧ Ex G' G2 ∧ Den E G2 rv.d v := by
  cases rv with
  | dat d => exact ⟨G', r, Ex.refl _, x⟩
  | fr o =>
    obtain ⟨l, h1, h0, h2, h3⟩ := x
    obtain ⟨u, k1, k2, k3, k4⟩ := h3.frz r.i h2
    subst h1
    refine ⟨upd G' l u, ⟨r.g.trans k2, r.h, k3, fun b hg hh => ?_⟩, k2, k4⟩
    have hb : b ≠ l := fun z => hh.ne (by rw [z]; exact h0)
    rw [upd_ne hb]
    exact r.n b hg hh
  | br o => exact absurd rfl (nb o)
/-- anything, as data that stands while the heap stands: the frozen part for a call -/
theorem DenR.lent {rv : RV} {v : V} {H1 : Hp} (i : Ex G H) (x : DenR E G H H1 rv v) : ∃ G2, Ex G G2 ∧ Ex G2 H ∧ Den E G2 rv.d v := by
  cases rv with
  | dat d => exact ⟨G, Ex.refl _, i, x⟩
  | fr o =>
    obtain ⟨l, h1, h0, h2, h3⟩ := x
    obtain ⟨u, k1, k2, k3, k4⟩ := h3.frz i h2
    subst h1
    exact ⟨upd G l u, k2, k3, k4⟩
  | br o =>
    obtain ⟨l, h1, h2, h3⟩ := x
    obtain ⟨u, k1, k2, k3, k4⟩ := h3.frz i h2
    subst h1
    exact ⟨upd G l u, k2, k3, k4⟩
end

/-- the slots by data; B: the heap at the def's entry -/
structure Rep (E : En) (B G H : Hp) (σ : L2.St) (ρ : Rho) : Prop where
  len : σ.length = ρ.length
  at_ : ∀ (i : Nat) (lv : LV), ρ[i]? = some (some lv) → ∃ v, σ[i]? = some (some v) ∧ DenL E G H lv v
  new : ∀ (i : Nat) (o : OV) (l : Addr), ρ[i]? = some (some (.own o)) → σ[i]? = some (some (.ref l)) → B l = none
  sep : ∀ (i j : Nat) (o o' : OV) (v : V), i ≠ j → ρ[i]? = some (some (.own o)) → ρ[j]? = some (some (.own o')) → σ[i]? = some (some v) → σ[j]? ≠ some (some v)
section
variable {E : En} {B G H G' H' : Hp} {σ : L2.St} {ρ : Rho}
theorem Rep.mono (r : Gr G H G' H') (x : Rep E B G H σ ρ) : Rep E B G' H' σ ρ := ⟨x.len, fun i lv e => by
  obtain ⟨v, h1, h2⟩ := x.at_ i lv e
  exact ⟨v, h1, h2.mono r⟩, x.new, x.sep⟩
theorem get_set {α : Type} {l : List α} {i j : Nat} {a b : α} (h : (l.set i a)[j]? = some b) : (j = i ∧ b = a) ∨ (j ≠ i ∧ l[j]? = some b) := by
  by_cases e : j = i
  · subst e
    by_cases hl : j < l.length
    · rw [List.getElem?_set_self hl] at h
      exact .inl ⟨rfl, (Option.some.inj h).symm⟩
    · rw [List.getElem?_eq_none (by rw [List.length_set]; omega)] at h
      cases h
  · rw [List.getElem?_set_ne (Ne.symm e)] at h
    exact .inr ⟨e, h⟩
theorem set_get {α : Type} {l : List α} {i : Nat} {a : α} {n : Nat} (hn : l.length = n) (hi : i < n) : (l.set i a)[i]? = some a := List.getElem?_set_self (by omega)
/-- a slot gets data -/
theorem Rep.setD {i : Nat} {d : D} {v : V} (x : Rep E B G H σ ρ) (h : Den E G d v) : Rep E B G H (σ.set i (some v)) (ρ.set i (some (.dat d))) := by
  refine ⟨by rw [List.length_set, List.length_set]; exact x.len, fun j lv e => ?_, fun j o l e e2 => ?_, fun j k o o' w ne e1 e2 e3 => ?_⟩
  · rcases get_set e with ⟨rfl, e'⟩ | ⟨ne, e⟩
    · cases e'
      have hj : j < σ.length := by
        have := (List.getElem?_eq_some_iff.mp e).1
        rw [List.length_set] at this
        rw [x.len]
        exact this
      exact ⟨v, List.getElem?_set_self hj, h⟩
    · obtain ⟨w, h1, h2⟩ := x.at_ j lv e
      exact ⟨w, by rw [List.getElem?_set_ne (Ne.symm ne)]; exact h1, h2⟩
  · rcases get_set e with ⟨_, e⟩ | ⟨ne, e⟩
    · cases e
    · rw [List.getElem?_set_ne (Ne.symm ne)] at e2
      exact x.new j o l e e2
  · rcases get_set e1 with ⟨_, e1⟩ | ⟨n1, e1⟩
    · cases e1
    · rcases get_set e2 with ⟨_, e2⟩ | ⟨n2, e2⟩
      · cases e2
      · rw [List.getElem?_set_ne (Ne.symm n1)] at e3
        rw [List.getElem?_set_ne (Ne.symm n2)]
        exact x.sep j k o o' w ne e1 e2 e3
/-- a slot is forgotten (σ may hold anything there) -/
theorem Rep.setN {i : Nat} {w : Option V} (x : Rep E B G H σ ρ) : Rep E B G H (σ.set i w) (ρ.set i none) := by
  refine ⟨by rw [List.length_set, List.length_set]; exact x.len, fun j lv e => ?_, fun j o l e e2 => ?_, fun j k o o' w ne e1 e2 e3 => ?_⟩
  · rcases get_set e with ⟨_, e⟩ | ⟨ne, e⟩
    · cases e
    · obtain ⟨w, h1, h2⟩ := x.at_ j lv e
      exact ⟨w, by rw [List.getElem?_set_ne (Ne.symm ne)]; exact h1, h2⟩
  · rcases get_set e with ⟨_, e⟩ | ⟨ne, e⟩
    · cases e
    · rw [List.getElem?_set_ne (Ne.symm ne)] at e2
      exact x.new j o l e e2
  · rcases get_set e1 with ⟨_, e1⟩ | ⟨n1, e1⟩
    · cases e1
    · rcases get_set e2 with ⟨_, e2⟩ | ⟨n2, e2⟩
      · cases e2
      · rw [List.getElem?_set_ne (Ne.symm n1)] at e3
        rw [List.getElem?_set_ne (Ne.symm n2)]
        exact x.sep j k o o' w ne e1 e2 e3
/-- a slot gets a new object: no slot's own object stands there -/
theorem Rep.setO {i : Nat} {o : OV} {l : Addr} (x : Rep E B G H σ ρ) (hb : B l = none) (hg : G l = none) (h : DenO E G H l o) (hf : ∀ (j : Nat) (o' : OV), j ≠ i → ρ[j]? = some (some (.own o')) → σ[j]? ≠ some (some (.ref l))) :
    Rep E B G H (σ.set i (some (.ref l))) (ρ.set i (some (.own o))) := by
  refine ⟨by rw [List.length_set, List.length_set]; exact x.len, fun j lv e => ?_, fun j o' l' e e2 => ?_, fun j k o1 o2 w ne e1 e2 e3 => ?_⟩
  · rcases get_set e with ⟨rfl, e'⟩ | ⟨ne, e⟩
    · cases e'
      have hj : j < σ.length := by
        have := (List.getElem?_eq_some_iff.mp e).1
        rw [List.length_set] at this
        rw [x.len]
        exact this
      exact ⟨_, List.getElem?_set_self hj, l, rfl, hg, h⟩
    · obtain ⟨w, h1, h2⟩ := x.at_ j lv e
      exact ⟨w, by rw [List.getElem?_set_ne (Ne.symm ne)]; exact h1, h2⟩
  · rcases get_set e with ⟨rfl, e⟩ | ⟨ne, e⟩
    · rcases get_set e2 with ⟨_, e2⟩ | ⟨ne, _⟩
      · cases e2
        exact hb
      · exact absurd rfl ne
    · rw [List.getElem?_set_ne (Ne.symm ne)] at e2
      exact x.new j o' l' e e2
  · rcases get_set e1 with ⟨rfl, e1⟩ | ⟨n1, e1⟩
    · rcases get_set e3 with ⟨_, e3⟩ | ⟨n3, _⟩
      · cases e3
        rcases get_set e2 with ⟨e, _⟩ | ⟨n2, e2⟩
        · exact absurd e.symm ne
        · rw [List.getElem?_set_ne (Ne.symm n2)]
          exact hf k o2 n2 e2
      · exact absurd rfl n3
    · rw [List.getElem?_set_ne (Ne.symm n1)] at e3
      rcases get_set e2 with ⟨ek, _⟩ | ⟨n2, e2⟩
      · intro z
        rcases get_set z with ⟨_, z⟩ | ⟨nz, _⟩
        · cases z
          exact hf j o1 n1 e1 e3
        · exact absurd ek nz
      · rw [List.getElem?_set_ne (Ne.symm n2)]
        exact x.sep j k o1 o2 w ne e1 e2 e3
/-- no slot's own object is one that the heap does not hold -/
theorem Rep.fresh {l : Addr} (x : Rep E B G H σ ρ) (hl : H l = none) (j : Nat) (o : OV) (e : ρ[j]? = some (some (.own o))) : σ[j]? ≠ some (some (.ref l)) := fun z => by
  obtain ⟨v, h1, l', h2, h3, h4⟩ := x.at_ j _ e
  rw [z] at h1
  cases h1
  cases h2
  exact h4.there hl
/-- a slot's own object changes: the others stand -/
theorem Rep.write {i : Nat} {o o' : OV} {l : Addr} {u : HO} (x : Rep E B G H σ ρ) (ei : ρ[i]? = some (some (.own o))) (es : σ[i]? = some (some (.ref l))) (hi : Ex G H) (hd : DenO E G (upd H l u) l o') :
    Rep E B G (upd H l u) σ (ρ.set i (some (.own o'))) := by
  obtain ⟨v, h1, l', h2, hg, h4⟩ := x.at_ i _ ei
  rw [es] at h1
  cases h1
  cases h2
  have hiρ := (List.getElem?_eq_some_iff.mp ei).1
  refine ⟨by rw [List.length_set]; exact x.len, fun j lv e => ?_, fun j o1 l' e e2 => ?_, fun j k o1 o2 w ne e1 e2 e3 => ?_⟩
  · rcases get_set e with ⟨rfl, e'⟩ | ⟨ne, e⟩
    · cases e'
      exact ⟨_, es, l, rfl, hg, hd⟩
    · obtain ⟨w, h1, h2⟩ := x.at_ j lv e
      refine ⟨w, h1, ?_⟩
      cases lv with
      | dat d => exact h2
      | own o1 =>
        obtain ⟨l1, k1, k2, k3⟩ := h2
        subst k1
        have hne : l1 ≠ l := fun z => by
          subst z
          exact x.sep j i o1 o _ ne e ei h1 es
        refine ⟨l1, rfl, k2, ?_⟩
        cases o1 with
        | l ds => obtain ⟨vs, q1, q2⟩ := k3; exact ⟨vs, by rw [upd_ne hne]; exact q1, q2⟩
        | tT ks ds => obtain ⟨vs, q1, q2⟩ := k3; exact ⟨vs, by rw [upd_ne hne]; exact q1, q2⟩
        | tK ks ds => obtain ⟨vs, q1, q2⟩ := k3; exact ⟨vs, by rw [upd_ne hne]; exact q1, q2⟩
  · rcases get_set e with ⟨rfl, e⟩ | ⟨ne, e⟩
    · exact x.new j o l' ei e2
    · exact x.new j o1 l' e e2
  · rcases get_set e1 with ⟨ej, _⟩ | ⟨n1, e1⟩
    · rcases get_set e2 with ⟨e, _⟩ | ⟨n2, e2⟩
      · exact absurd (ej.trans e.symm) ne
      · exact x.sep j k o o2 w ne (ej ▸ ei) e2 e3
    · rcases get_set e2 with ⟨ek, _⟩ | ⟨n2, e2⟩
      · exact x.sep j k o1 o w ne e1 (ek ▸ ei) e3
      · exact x.sep j k o1 o2 w ne e1 e2 e3
/-- a slot's own object is frozen -/
theorem Rep.frz {i : Nat} {o : OV} (x : Rep E B G H σ ρ) (hi : Ex G H) (ei : ρ[i]? = some (some (.own o))) : ∃ G', Ex G G' ∧ Ex G' H ∧ (∀ b, G b = none → B b ≠ none → G' b = none) ∧ Rep E B G' H σ (ρ.set i (some (.dat o.d))) := by
  obtain ⟨v, h1, l, h2, hg, h4⟩ := x.at_ i _ ei
  subst h2
  obtain ⟨u, k1, k2, k3, k4⟩ := h4.frz hi hg
  have hB := x.new i o l ei h1
  refine ⟨upd G l u, k2, k3, fun b h hb => ?_, by rw [List.length_set]; exact x.len, fun j lv e => ?_, fun j o1 l' e e2 => ?_, fun j k o1 o2 w ne e1 e2 e3 => ?_⟩
  · have hne : b ≠ l := fun z => hb (by rw [z]; exact hB)
    rw [upd_ne hne]
    exact h
  · rcases get_set e with ⟨rfl, e'⟩ | ⟨ne, e⟩
    · cases e'
      exact ⟨_, h1, k4⟩
    · obtain ⟨w, q1, q2⟩ := x.at_ j lv e
      refine ⟨w, q1, ?_⟩
      cases lv with
      | dat d => exact Den.mono k2 d w q2
      | own o1 =>
        obtain ⟨l1, r1, r2, r3⟩ := q2
        subst r1
        have hne : l1 ≠ l := fun z => by
          subst z
          exact x.sep j i o1 o _ ne e ei q1 h1
        exact ⟨l1, rfl, by rw [upd_ne hne]; exact r2, r3.mono k2 (Ex.refl _)⟩
  · rcases get_set e with ⟨_, e⟩ | ⟨ne, e⟩
    · cases e
    · exact x.new j o1 l' e e2
  · rcases get_set e1 with ⟨_, e1⟩ | ⟨n1, e1⟩
    · cases e1
    · rcases get_set e2 with ⟨_, e2⟩ | ⟨n2, e2⟩
      · cases e2
      · exact x.sep j k o1 o2 w ne e1 e2 e3
end
end DE

set_option Elab.async false
set_option linter.all false
set_option maxRecDepth 100000
set_option maxHeartbeats 4000000
/-! DE2: a body as a plain tree (IE, IS), what it gives by data (evE, runB), and that it is the tree of the text (ckE, ckB). -/
namespace DE
open PySem L2

inductive BOp where | add | sub | mul | fdiv | mod | pow
  deriving DecidableEq
def BOp.py : BOp → Operator
  | .add => .Add | .sub => .Sub | .mul => .Mult | .fdiv => .FloorDiv | .mod => .Mod | .pow => .Pow
inductive COp where | lt | le | gt | ge | eq | ne | isin | notin | is_ | isnt
  deriving DecidableEq
def COp.py : COp → CmpOp
  | .lt => .Lt | .le => .LtE | .gt => .Gt | .ge => .GtE | .eq => .Eq | .ne => .NotEq | .isin => .In | .notin => .NotIn | .is_ => .Is | .isnt => .IsNot
inductive Bi where | len | abs | int | tup | lst | sorted | min | max | sum | all | any | str
  deriving DecidableEq
/-- a text's method -/
inductive Mt where | split | join | stw | find | rfind
  deriving DecidableEq
/-- a class in isinstance -/
inductive Cl where | int | bool | str | tup | lst | dict | own (c : Str)
/-- a target -/
inductive Tg where | n (i : Nat) | t (is : List Nat)

mutual
inductive IE where
  | var (i : Nat) | int (n : Int) | str (s : Str) | bl (b : Bool) | non
  | bin (o : BOp) (a b : IE) | neg (a : IE)
  | cmp (o : COp) (a b : IE) | chain (o o' : COp) (a b c : IE)
  | andd (as : IA) | orr (as : IA) | nott (a : IE) | ife (c a b : IE)
  | tup (as : IA) | lst (as : IA) | dictT | dictK
  | ix (a i : IE) | dix (a i : IE) | sl (a : IE) (lo hi : IO)
  | call (j : Nat) (as : IA) | bi (b : Bi) (as : IA)
  | get (d k x : IE) | attr (a : IE) (n : Str) | isi (a : IE) (c : Cl)
  | lc (elt : IE) (tg : Tg) (src : ISrc) (ifs : IO)
  | lsr1 (a : IE) | lsr2 (a b : IE) | lrv (a : IE)
  | cntT (a : IE) | idxT (a : IE) | m1 (m : Mt) (a b : IE)
  | dc (kx vx : IE) (tg : Tg) (src : ISrc) (ifs : IO)
inductive IA where
  | nil | cons (a : IE) (r : IA)
inductive IO where
  | no | so (a : IE)
inductive ISrc where
  | it (a : IE) | range (as : IA) | rev (as : IA) | revR (a : IE)
end
mutual
inductive IS where
  | asg (i : Nat) (e : IE) | asgT (is : List Nat) (e : IE)
  | setL (i : Nat) (k e : IE) | setD (i : Nat) (k e : IE) | app (i : Nat) (e : IE) | popD (i : Nat) (e : IE)
  | expr (e : IE) | iff (c : IE) (a b : IB)
  | forr (tg : Tg) (src : ISrc) (b : IB) | whil (c : IE) (b : IB)
  | ret (e : IE) | retV (i : Nat) | retN
  | retK (pre : IA) (j i : Nat) (as : IA)
  | rais (c : Str) (as : IA)
  | tri (b : IB) (c : Str) (i : Nat) (s : IB)
  | brk | cnt | pas
inductive IB where
  | nil | cons (s : IS) (r : IB) | frz (i : Nat) (r : IB) | kil (is : List Nat) (r : IB)
end

/-! ### values -/
/-- an error: its class, its fields (the newest first) -/
structure Er where
  c : Str
  ns : List Str
  fs : List D
abbrev Ans (α : Type) := Option (Except Er α)
abbrev EvR := Ans RV
def bindR {α β : Type} (x : Ans α) (k : α → Ans β) : Ans β :=
  match x with
  | none => none
  | some (.error e) => some (.error e)
  | some (.ok a) => k a
def okR {α : Type} (a : α) : Ans α := some (.ok a)
/-- stuck, or an answer -/
def optR {α : Type} (x : Option α) : Ans α :=
  match x with
  | none => none
  | some a => some (.ok a)
/-- a def: its name, how many arguments it takes, what it gives -/
structure Fn where
  name : Str
  n : Nat
  m : List D → EvR
  /-- its first argument is handed over for good: an object that no one else holds -/
  ow : Bool := false
structure Cfg where
  T : List Fn
  /-- the defs that are called while an error is handled -/
  H : List Fn
  isa : Str → Str → Option Bool
  /-- the error that a class's maker makes -/
  mkE : Str → Option (List D → Option Er)
  /-- the fields of a class's errors -/
  fld : Str → Str → Bool
  fuel : Nat
def Cfg.hot (C : Cfg) : Cfg := { C with T := C.H }

def small (i : Int) : Bool := decide (-(2 ^ 64) < i) && decide (i < 2 ^ 64)
/-- the list that a value is -/
def lstV : RV → Option (List D)
  | .dat (.lst ds) => some ds
  | .fr (.l ds) => some ds
  | .br (.l ds) => some ds
  | _ => none
def isBr : RV → Bool
  | .br _ => true
  | _ => false
def scalD : D → Bool
  | .non => true | .bl _ => true | .int _ => true | .str _ => true | _ => false
def scalR : RV → Bool
  | .dat d => scalD d
  | _ => false
/-- as an item of something new: a slot's own object may not go there -/
def toD : RV → Option D
  | .dat d => some d
  | .fr o => some o.d
  | .br _ => none
def toDs : List RV → Option (List D)
  | [] => some []
  | r :: rs => match toD r, toDs rs with
    | some d, some ds => some (d :: ds)
    | _, _ => none
def addV (x y : RV) : Option RV :=
  match x, y with
  | .dat (.int i), .dat (.int j) => some (.dat (.int (i + j)))
  | .dat (.str a), .dat (.str b) => if a.length + b.length ≤ 16777216 then some (.dat (.str (a ++ b))) else none
  | .dat (.tup a), .dat (.tup b) => if a.length + b.length ≤ 16777216 then some (.dat (.tup (a ++ b))) else none
  | x, y => match lstV x, lstV y with
    | some a, some b => if a.length + b.length ≤ 16777216 then some (.fr (.l (a ++ b))) else none
    | _, _ => none
def subV (x y : RV) : Option RV :=
  match x, y with
  | .dat (.int i), .dat (.int j) => some (.dat (.int (i - j)))
  | _, _ => none
def mulV (x y : RV) : Option RV :=
  match x, y with
  | .dat (.int i), .dat (.int j) => if small i = true ∨ small j = true then some (.dat (.int (i * j))) else none
  | _, _ => none
def fdivV (x y : RV) : Option RV :=
  match x, y with
  | .dat (.int i), .dat (.int j) => if j ≠ 0 ∧ j.natAbs < 1073741824 then some (.dat (.int (i.fdiv j))) else none
  | _, _ => none
def modV (x y : RV) : Option RV :=
  match x, y with
  | .dat (.int i), .dat (.int j) => if j ≠ 0 then some (.dat (.int (i.fmod j))) else none
  | _, _ => none
def powV (x y : RV) : Option RV :=
  match x, y with
  | .dat (.int i), .dat (.int j) => if 0 ≤ j ∧ j ≤ 1000000 ∧ i.natAbs < 2 ^ 64 then some (.dat (.int (i ^ j.toNat))) else none
  | _, _ => none
def binV (o : BOp) (x y : RV) : Option RV :=
  match o with
  | .add => addV x y
  | .sub => subV x y
  | .mul => mulV x y
  | .fdiv => fdivV x y
  | .mod => modV x y
  | .pow => powV x y
def truD : D → Option Bool
  | .non => some false
  | .bl b => some b
  | .int i => some (i != 0)
  | .str s => if s.length ≤ 16777216 then some ((s.length : Int) != 0) else none
  | .tup ds => some (!ds.isEmpty)
  | .lst ds => some (!ds.isEmpty)
  | .dicK ks _ => some (!ks.isEmpty)
  | .dicT ks _ => some (!ks.isEmpty)
  | _ => none
def truV (r : RV) : Option Bool := truD r.d


/-- as the library's data -/
def keyD : Key → D
  | .inl i => .int i
  | .inr x => .str x
def keyP : Key → PyData
  | .inl i => .int i
  | .inr x => .str x
mutual
def pyD : D → PyData
  | .non => .none
  | .bl b => .bool b
  | .int i => .int i
  | .str s => .str s
  | .tup xs => .tuple (pyDs xs)
  | .lst xs => .list (pyDs xs)
  | .dicT _ _ => .none
  | .dicK _ _ => .none
  | .exc _ _ _ => .none
def pyDs : List D → List PyData
  | [] => []
  | x :: xs => pyD x :: pyDs xs
end
mutual
/-- data that can be compared: no dict, no error, at most n deep -/
def okD : D → Nat → Bool
  | .non, _ => true
  | .bl _, _ => true
  | .int _, _ => true
  | .str s, _ => PyData.strOk s
  | .tup xs, n => match n with
    | 0 => false
    | n + 1 => okDs xs n
  | .lst xs, n => match n with
    | 0 => false
    | n + 1 => okDs xs n
  | _, _ => false
def okDs : List D → Nat → Bool
  | [], _ => true
  | x :: xs, n => okD x n && okDs xs n
end
def eqV (x y : D) : Option Bool :=
  match x, y with
  | .int i, .int j => some (decide (i = j))
  | .str a, .str b => some (decide (a = b))
  | x, y => if okD x 60 = true ∧ okD y 60 = true then some (PyData.eqv (pyD x) (pyD y)) else none
def ltD (x y : D) : Option Bool :=
  match x, y with
  | .int i, .int j => some (decide (i < j))
  | .non, _ => none
  | x, y => if okD x 60 = true ∧ okD y 60 = true ∧ PySem.W.alike (pyD x) (pyD y) = true then some (PySem.W.dataLt (pyD x) (pyD y)) else none
/-- the items of a list or a tuple -/
def seqV : RV → Option (List D)
  | .dat (.lst ds) => some ds
  | .dat (.tup ds) => some ds
  | .fr (.l ds) => some ds
  | .br (.l ds) => some ds
  | _ => none
def keysT : RV → Option (List (List Key))
  | .dat (.dicT ks _) => some ks
  | .fr (.tT ks _) => some ks
  | .br (.tT ks _) => some ks
  | _ => none
def keysK : RV → Option (List Key)
  | .dat (.dicK ks _) => some ks
  | .fr (.tK ks _) => some ks
  | .br (.tK ks _) => some ks
  | _ => none
def valsT : RV → List D
  | .dat (.dicT _ vs) => vs
  | .fr (.tT _ vs) => vs
  | .br (.tT _ vs) => vs
  | _ => []
def valsK : RV → List D
  | .dat (.dicK _ vs) => vs
  | .fr (.tK _ vs) => vs
  | .br (.tK _ vs) => vs
  | _ => []
def keyOf : D → Option Key
  | .int i => some (.inl i)
  | .str s => some (.inr s)
  | _ => none
def keysOf : List D → Option (List Key)
  | [] => some []
  | d :: ds => match keyOf d, keysOf ds with
    | some k, some ks => some (k :: ks)
    | _, _ => none
def tkeyOf : D → Option (List Key)
  | .tup ds => keysOf ds
  | _ => none
def tkeyD (k : List Key) : D := .tup (k.map keyD)
def dget {κ : Type} [DecidableEq κ] : List κ → List D → κ → Option D
  | k' :: ks, v :: vs, k => if k' = k then some v else dget ks vs k
  | _, _, _ => none
def dputV {κ : Type} [DecidableEq κ] : List κ → List D → κ → D → List D
  | k' :: ks, v :: vs, k, d => (if k' = k then d else v) :: dputV ks vs k d
  | _, _, _, _ => []
def hasK {κ : Type} [DecidableEq κ] : List κ → κ → Bool
  | [], _ => false
  | k' :: ks, k => decide (k' = k) || hasK ks k
/-- d[k] of a dict: found, or not there; none: no such question -/
def dictV (d : RV) (k : D) : Option (Option D) :=
  match keysT d, tkeyOf k with
  | some ks, some q => some (dget ks (valsT d) q)
  | _, _ => match keysK d, keyOf k with
    | some ks, some q => some (dget ks (valsK d) q)
    | _, _ => none
def leV (x y : RV) : Option Bool :=
  match x, y with
  | .dat (.int i), .dat (.int j) => some (decide (i ≤ j))
  | _, _ => none
def gtV (x y : RV) : Option Bool :=
  match x, y with
  | .dat (.int i), .dat (.int j) => some (decide (j < i))
  | _, _ => none
def geV (x y : RV) : Option Bool :=
  match x, y with
  | .dat (.int i), .dat (.int j) => some (decide (j ≤ i))
  | _, _ => none
def isNonV : RV → Bool
  | .dat .non => true
  | _ => false
def isV (x y : RV) : Option Bool :=
  match y with
  | .dat .non => some (isNonV x)
  | .dat (.bl b) => match x with
    | .dat (.bl a) => some (decide (a = b))
    | _ => none
  | _ => none
def notV (b : Option Bool) : Option Bool :=
  match b with
  | some b => some (!b)
  | none => none
def intsD : List D → Option (List Int)
  | [] => some []
  | .int i :: r => match intsD r with
    | some ns => some (i :: ns)
    | none => none
  | _ => none
def strsD : List D → Option (List Str)
  | [] => some []
  | .str i :: r => match strsD r with
    | some ns => some (i :: ns)
    | none => none
  | _ => none
def blsD : List D → Option (List Bool)
  | [] => some []
  | .bl i :: r => match blsD r with
    | some ns => some (i :: ns)
    | none => none
  | _ => none
/-- x in a sequence of numbers, of texts -/
def inL (x : D) (ds : List D) : Option Bool :=
  match x with
  | .int i => match intsD ds with
    | some ns => some (ns.any fun j => decide (j = i))
    | none => none
  | .str z => match strsD ds with
    | some ns => some (ns.any fun j => decide (j = z))
    | none => none
  | _ => none
def inW (x y : RV) : Option Bool :=
  match x with
  | .dat d => match seqV y with
    | some ds => inL d ds
    | none => none
  | _ => none
/-- the sign that a text of one sign is -/
def signV (z : Str) : Option Nat :=
  match z.cps.toList with
  | [c] => some c
  | _ => none
/-- in a list or a tuple; a sign in a text -/
def inX (x y : RV) : Option Bool :=
  match y with
  | .dat (.str z) => match x with
    | .dat (.str s) => match signV s with
      | some c => some (decide (c ∈ z.cps.toList))
      | none => none
    | _ => none
  | y => inW x y
def lstI (x : RV) : Option (List Int) :=
  match lstV x with
  | some ds => intsD ds
  | none => none
def lstB (x : RV) : Option (List Bool) :=
  match lstV x with
  | some ds => blsD ds
  | none => none
def sumV (x : RV) : Option RV :=
  match lstI x with
  | some ns => some (.dat (.int ns.sum))
  | none => none
def maxV (x : RV) : Option RV :=
  match lstI x with
  | some (n :: ns) => some (.dat (.int (ns.foldl max n)))
  | _ => none
def minV (x : RV) : Option RV :=
  match lstI x with
  | some (n :: ns) => some (.dat (.int (ns.foldl min n)))
  | _ => none
def anyV (x : RV) : Option RV :=
  match lstB x with
  | some bs => some (.dat (.bl (bs.any id)))
  | none => none
def allV (x : RV) : Option RV :=
  match lstB x with
  | some bs => some (.dat (.bl (bs.all id)))
  | none => none
def cmpV (o : COp) (x y : RV) : Option Bool :=
  match o with
  | .lt => ltD x.d y.d
  | .gt => gtV x y
  | .le => leV x y
  | .ge => geV x y
  | .eq => eqV x.d y.d
  | .ne => notV (eqV x.d y.d)
  | .isin => inX x y
  | .notin => notV (inX x y)
  | .is_ => isV x y
  | .isnt => notV (isV x y)
def blR (b : Option Bool) : Option RV :=
  match b with
  | some b => some (.dat (.bl b))
  | none => none
def ixV (x i : RV) : Option RV :=
  match i with
  | .dat (.int i) => match seqV x with
    | some ds => match atI ds i with
      | some d => some (.dat d)
      | none => none
    | none => match x with
      | .dat (.str z) => if z.length ≤ 16777216 then (match atI z.cps.toList i with
        | some c => some (.dat (.str ⟨#[c]⟩))
        | none => none) else none
      | _ => none
  | _ => none
/-- d[k] of a dict -/
def dixV (x k : RV) : Option RV :=
  match k with
  | .dat k => match dictV x k with
    | some (some d) => some (.dat d)
    | _ => none
  | _ => none
def cutD (ds : List D) (lo hi : Option Int) : List D := (ds.drop (HT.sIx ds.length 0 lo)).take (HT.sIx ds.length ds.length hi - HT.sIx ds.length 0 lo)
def slV (x : RV) (lo hi : Option Int) : Option RV :=
  match x with
  | .dat (.tup ds) => some (.dat (.tup (cutD ds lo hi)))
  | .dat (.str z) => if z.length ≤ 16777216 then some (.dat (.str (cutS z lo hi))) else none
  | x => match lstV x with
    | some ds => some (.fr (.l (cutD ds lo hi)))
    | none => none
def sumD : List D → Option Int
  | [] => some 0
  | .int i :: r => match sumD r with
    | some s => some (i + s)
    | none => none
  | _ => none
/-- the signs of a text, each a text -/
def signsD (z : Str) : List D := z.cps.toList.map fun c => .str ⟨#[c]⟩
/-- what is walked: a list, a tuple, a text -/
def walkV (x : RV) : Option (List D) :=
  match x with
  | .dat (.str z) => some (signsD z)
  | x => seqV x
/-- a list or a tuple of texts -/
def textsV (x : RV) : Option (List Str) :=
  match seqV x with
  | some ds => strsD ds
  | none => none
def joinV (a : Str) (y : RV) : Option RV :=
  match textsV y with
  | some ys => if (ys.map (·.length)).sum + ys.length * a.length ≤ 16777216 then some (.dat (.str (Txt.join a ys))) else none
  | none => none
def splitV (a : Str) (y : RV) : Option RV :=
  match y with
  | .dat (.str b) => if (b.length == 0) = false ∧ a.length + 2 ≤ 16777216 then some (.fr (.l ((Txt.split a b).map D.str))) else none
  | _ => none
def stwV (a : Str) (y : RV) : Option RV :=
  match y with
  | .dat (.str b) => some (.dat (.bl (Txt.startswith a b)))
  | _ => none
def findV (a : Str) (y : RV) : Option RV :=
  match y with
  | .dat (.str b) => some (.dat (.int (Txt.find a b)))
  | _ => none
def rfindV (a : Str) (y : RV) : Option RV :=
  match y with
  | .dat (.str b) => some (.dat (.int (Txt.rfind a b)))
  | _ => none
def mtV : Mt → Str → RV → Option RV
  | .join => joinV | .split => splitV | .stw => stwV | .find => findV | .rfind => rfindV
def mtU (m : Mt) (x : RV) (k : EvR) : EvR :=
  match x with
  | .dat (.str a) => bindR k fun y => optR (mtV m a y)
  | _ => none
/-- a sort of like items -/
def allB (p : D → Bool) : List D → Bool
  | [] => true
  | x :: xs => p x && allB p xs
def alikeD (x y : D) : Bool := PySem.W.alike (pyD x) (pyD y)
def sortOk (ds : List D) : Bool :=
  okDs ds 60 && allB (fun x => allB (fun y => alikeD x y) ds) ds &&
    (allB (fun x => match x with | .tup (_ :: _) => true | _ => false) ds || allB (fun x => match x with | .tup _ => false | .non => false | _ => true) ds)
def sortD (ds : List D) : List D := ds.mergeSort fun a b => !PySem.W.dataLt (pyD b) (pyD a)
def max2V (x y : RV) : Option RV :=
  match x, y with
  | .dat (.int i), .dat (.int j) => some (.dat (.int (if j > i then j else i)))
  | _, _ => none
def min2V (x y : RV) : Option RV :=
  match x, y with
  | .dat (.int i), .dat (.int j) => some (.dat (.int (if j < i then j else i)))
  | _, _ => none
/-- the least key of a dict -/
def ltK (k q : List Key) : Bool := PySem.W.dataLt (pyD (tkeyD k)) (pyD (tkeyD q))
def minT : List (List Key) → Option RV
  | [] => none
  | k :: r => some (.dat (tkeyD (bestK ltK k r)))
def minX (x : RV) : Option RV :=
  match keysT x with
  | some ks => if sortOk (ks.map tkeyD) = true then minT ks else none
  | none => minV x
def biV (b : Bi) (rs : List RV) : Option RV :=
  match b, rs with
  | .len, [x] => match seqV x with
    | some ds => some (.dat (.int ds.length))
    | none => match x with
      | .dat (.str z) => if z.length ≤ 16777216 then some (.dat (.int z.length)) else none
      | x => match keysK x with
        | some ks => some (.dat (.int ks.length))
        | none => match keysT x with
          | some ks => some (.dat (.int ks.length))
          | none => none
  | .abs, [.dat (.int i)] => some (.dat (.int (if i < 0 then -i else i)))
  | .int, [.dat (.int i)] => some (.dat (.int i))
  | .int, [.dat (.bl b)] => some (.dat (.int (if b then 1 else 0)))
  | .int, [.dat (.str s)] => if s.length ≤ 640 then (match PySem.intText? s with
    | some n => some (.dat (.int n))
    | none => none) else none
  | .str, [.dat (.int i)] => if i.natAbs.log2 < 1920 then some (.dat (.str (toString i))) else none
  | .tup, [.dat (.tup ds)] => some (.dat (.tup ds))
  | .tup, [x] => match lstV x with
    | some ds => some (.dat (.tup ds))
    | none => none
  | .lst, [x] => match seqV x with
    | some ds => some (.fr (.l ds))
    | none => none
  | .sorted, [x] => match keysT x with
    | some ks => if sortOk (ks.map tkeyD) = true then some (.fr (.l (sortD (ks.map tkeyD)))) else none
    | none => match lstV x with
      | some ds => if sortOk ds = true then some (.fr (.l (sortD ds))) else none
      | none => none
  | .sum, [x] => sumV x
  | .max, [x] => maxV x
  | .max, [x, y] => max2V x y
  | .min, [x] => minX x
  | .min, [x, y] => min2V x y
  | .any, [x] => anyV x
  | .all, [x] => allV x
  | _, _ => none
def isDic : RV → Bool
  | .dat (.dicT _ _) => true | .dat (.dicK _ _) => true
  | .fr (.tT _ _) => true | .fr (.tK _ _) => true
  | .br (.tT _ _) => true | .br (.tK _ _) => true
  | _ => false
/-- x[i], a sequence or a dict -/
def ixW (x i : RV) : Option RV :=
  match isDic x with
  | true => dixV x i
  | false => ixV x i
def dicV (d : RV) : Option RV :=
  match isDic d with
  | true => some d
  | false => none
def getV (d k x : RV) : Option RV :=
  match k, x with
  | .dat k, .dat x => match dictV d k with
    | some (some v) => some (.dat v)
    | some none => some (.dat x)
    | none => none
  | _, _ => none
def fldD : List Str → List D → Str → Option D
  | n :: ns, d :: ds, f => if f = n then some d else fldD ns ds f
  | _, _, _ => none
def attrV (fld : Str → Str → Bool) (x : RV) (f : Str) : Option RV :=
  match x with
  | .dat (.exc c ns fs) => if fld c f = true then (match fldD ns fs f with
    | some d => some (.dat d)
    | none => none) else none
  | _ => none
/-- the type of data -/
inductive Ty where | non | bool | int | str | tup | lst | dict
def tyD : D → Option Ty
  | .non => some .non
  | .bl _ => some .bool
  | .int _ => some .int
  | .str _ => some .str
  | .tup _ => some .tup
  | .lst _ => some .lst
  | .dicT _ _ => some .dict
  | .dicK _ _ => some .dict
  | .exc _ _ _ => none
def isTy : Ty → Cl → Option Bool
  | .non, .int => some false | .non, .bool => some false | .non, .str => some false | .non, .tup => some false | .non, .lst => some false | .non, .dict => some false
  | .bool, .int => some true | .bool, .bool => some true | .bool, .str => some false | .bool, .tup => some false | .bool, .lst => some false | .bool, .dict => some false
  | .int, .int => some true | .int, .bool => some false | .int, .str => some false | .int, .tup => some false | .int, .lst => some false | .int, .dict => some false
  | .str, .int => some false | .str, .bool => some false | .str, .str => some true | .str, .tup => some false | .str, .lst => some false | .str, .dict => some false
  | .tup, .int => some false | .tup, .bool => some false | .tup, .str => some false | .tup, .tup => some true | .tup, .lst => some false | .tup, .dict => some false
  | .lst, .int => some false | .lst, .bool => some false | .lst, .str => some false | .lst, .tup => some false | .lst, .lst => some true | .lst, .dict => some false
  | .dict, .int => some false | .dict, .bool => some false | .dict, .str => some false | .dict, .tup => some false | .dict, .lst => some false | .dict, .dict => some true
  | _, .own _ => none
def isiV (isa : Str → Str → Option Bool) (x : RV) (c : Cl) : Option Bool :=
  match tyD x.d with
  | some t => isTy t c
  | none => match x.d, c with
    | .exc k _ _, .own c => isa k c
    | _, _ => none
mutual
/-- no list, no dict, no error within -/
def flatD : D → Bool
  | .non => true | .bl _ => true | .int _ => true | .str _ => true
  | .tup ds => flatDs ds
  | _ => false
def flatDs : List D → Bool
  | [] => true
  | d :: ds => flatD d && flatDs ds
end
def flatO : OV → Bool
  | .l ds => flatDs ds
  | .tT _ ds => flatDs ds
  | .tK _ ds => flatDs ds
def flatR : RV → Bool
  | .dat d => flatD d
  | .fr o => flatO o
  | .br _ => false
def anyBr : List RV → Bool
  | [] => false
  | r :: rs => isBr r || anyBr rs
def callN (fn : Fn) (rs : List RV) : EvR :=
  if rs.length = fn.n then
    match fn.m (rs.map RV.d) with
    | none => none
    | some (.error e) => if anyBr rs = true ∧ flatDs e.fs = false then none else some (.error e)
    | some (.ok r) => if isBr r = true ∨ (anyBr rs = true ∧ flatR r = false) then none else some (.ok r)
  else none
/-- what a def gives that takes its first argument for good -/
def giveO (fn : Fn) (o : OV) (rs : List RV) : EvR :=
  if rs.length + 1 = fn.n ∧ anyBr rs = false then
    match fn.m (o.d :: rs.map RV.d) with
    | some (.ok r) => if isBr r = true then none else some (.ok r)
    | _ => none
  else none
def callO (fn : Fn) (rs : List RV) : EvR :=
  match rs with
  | .fr o :: rs => giveO fn o rs
  | _ => none
def callV (fn : Fn) (rs : List RV) : EvR :=
  match fn.ow with
  | false => callN fn rs
  | true => callO fn rs
def setT : List Nat → List D → Rho → Option Rho
  | [], [], ρ => some ρ
  | i :: is, d :: ds, ρ => setT is ds (ρ.set i (some (.dat d)))
  | _, _, _ => none
def setG (g : Tg) (d : D) (ρ : Rho) : Option Rho :=
  match g with
  | .n i => some (ρ.set i (some (.dat d)))
  | .t is => match d with
    | .tup ds => setT is ds ρ
    | _ => none
def ints62 (i : Int) : Bool := decide (-(2 ^ 62) ≤ i) && decide (i < 2 ^ 62)
def rangeD (lo : Int) : Nat → List D
  | 0 => []
  | n + 1 => .int lo :: rangeD (lo + 1) n
def revV : List RV → Option (List D)
  | [.dat (.lst ds)] => some ds.reverse
  | [.fr (.l ds)] => some ds.reverse
  | _ => none
def rangeV : List RV → Option (List D)
  | [.dat (.int n)] => if ints62 n = true then some (rangeD 0 n.toNat) else none
  | [.dat (.int a), .dat (.int b)] => if ints62 a = true ∧ ints62 b = true then some (rangeD a (b - a).toNat) else none
  | _ => none
/-- list(range(n)), list(range(a, b)) -/
def lsr1V (x : RV) : Option RV :=
  match x with
  | .dat (.int n) => if n ≤ 16777216 ∧ ints62 n = true then some (.fr (.l (rangeD 0 n.toNat))) else none
  | _ => none
def lsr2V (x y : RV) : Option RV :=
  match x, y with
  | .dat (.int a), .dat (.int b) => if b - a ≤ 16777216 ∧ ints62 a = true ∧ ints62 b = true then some (.fr (.l (rangeD a (b - a).toNat))) else none
  | _, _ => none
/-- list(reversed(xs)) -/
def lrvV (x : RV) : Option RV :=
  match lstV x with
  | some ds => some (.fr (.l ds.reverse))
  | none => none
/-- bs.count(True), bs.index(True) -/
def cntV (x : RV) : Option RV :=
  match lstB x with
  | some bs => some (.dat (.int ((bs.count true : Nat) : Int)))
  | none => none
def idxV (x : RV) : Option RV :=
  match lstB x with
  | some bs => match bs.findIdx? id with
    | some j => some (.dat (.int ((j : Nat) : Int)))
    | none => none
  | none => none
/-- reversed(range(n)) -/
def rvrV (x : RV) : Option (List D) :=
  match x with
  | .dat (.int n) => if ints62 n = true then some (rangeD 0 n.toNat).reverse else none
  | _ => none
def szV (ds : List D) : Option (List D) := if ds.length ≤ 16777216 then some ds else none
/-- the items of a comprehension -/
def compL (step : D → Ans (Option D)) : List D → Ans (List D)
  | [] => some (.ok [])
  | d :: ds => match step d with
    | some (.ok o) => match compL step ds with
      | some (.ok r) => some (.ok (match o with | some x => x :: r | none => r))
      | _ => none
    | _ => none

/-- the pairs of a dict comprehension -/
def dcL (step : D → Ans (Option (D × D))) : List D → List (List Key) → List D → Ans OV
  | [], ks, vs => some (.ok (.tT ks vs))
  | d :: ds, ks, vs => match step d with
    | some (.ok none) => dcL step ds ks vs
    | some (.ok (some (k, v))) => match tkeyOf k with
      | some q => if hasK ks q = true then dcL step ds ks (dputV ks vs q v) else dcL step ds (ks ++ [q]) (vs ++ [v])
      | none => none
    | _ => none
def pairV (x y : RV) : Option (D × D) :=
  match x with
  | .dat k => match toD y with
    | some v => some (k, v)
    | none => none
  | _ => none
mutual
def evE (C : Cfg) : IE → Rho → EvR
  | .var i, ρ => match ρ[i]? with
    | some (some (.dat d)) => some (.ok (.dat d))
    | some (some (.own o)) => some (.ok (.br o))
    | _ => none
  | .int n, _ => some (.ok (.dat (.int n)))
  | .str s, _ => some (.ok (.dat (.str s)))
  | .bl b, _ => some (.ok (.dat (.bl b)))
  | .non, _ => some (.ok (.dat .non))
  | .bin o a b, ρ => bindR (evE C a ρ) fun x => bindR (evE C b ρ) fun y => optR (binV o x y)
  | .neg a, ρ => bindR (evE C a ρ) fun x => match x with
    | .dat (.int i) => some (.ok (.dat (.int (-i))))
    | _ => none
  | .cmp o a b, ρ => bindR (evE C a ρ) fun x => bindR (evE C b ρ) fun y => optR (blR (cmpV o x y))
  | .chain o o' a b c, ρ => bindR (evE C a ρ) fun x => bindR (evE C b ρ) fun y => bindR (optR (cmpV o x y)) fun k =>
    match k with
    | true => bindR (evE C c ρ) fun z => optR (blR (cmpV o' y z))
    | false => some (.ok (.dat (.bl false)))
  | .andd as, ρ => evAnd C as ρ
  | .orr as, ρ => evOr C as ρ
  | .nott a, ρ => bindR (evE C a ρ) fun x => match x with
    | .dat (.bl b) => some (.ok (.dat (.bl (!b))))
    | _ => none
  | .ife c a b, ρ => bindR (evT C c ρ) fun k => match k with
    | true => evE C a ρ
    | false => evE C b ρ
  | .tup as, ρ => bindR (evA C as ρ) fun rs => match toDs rs with
    | some ds => some (.ok (.dat (.tup ds)))
    | none => none
  | .lst as, ρ => bindR (evA C as ρ) fun rs => match toDs rs with
    | some ds => some (.ok (.fr (.l ds)))
    | none => none
  | .dictT, _ => some (.ok (.fr (.tT [] [])))
  | .dictK, _ => some (.ok (.fr (.tK [] [])))
  | .ix a i, ρ => bindR (evE C a ρ) fun x => bindR (evE C i ρ) fun y => optR (ixW x y)
  | .dix a i, ρ => bindR (evE C a ρ) fun x => bindR (evE C i ρ) fun y => optR (dixV x y)
  | .sl a lo hi, ρ => bindR (evE C a ρ) fun x => bindR (evO C lo ρ) fun l => bindR (evO C hi ρ) fun u => optR (slV x l u)
  | .call j as, ρ => bindR (evA C as ρ) fun rs => match C.T[j]? with
    | some fn => callV fn rs
    | none => none
  | .bi b as, ρ => bindR (evA C as ρ) fun rs => optR (biV b rs)
  | .get d k x, ρ => bindR (evE C d ρ) fun d => bindR (optR (dicV d)) fun d => bindR (evE C k ρ) fun k => bindR (evE C x ρ) fun x => optR (getV d k x)
  | .attr a f, ρ => bindR (evE C a ρ) fun x => optR (attrV C.fld x f)
  | .isi a c, ρ => bindR (evE C a ρ) fun x => optR (blR (isiV C.isa x c))
  | .lsr1 a, ρ => bindR (evE C a ρ) fun x => optR (lsr1V x)
  | .lsr2 a b, ρ => bindR (evE C a ρ) fun x => bindR (evE C b ρ) fun y => optR (lsr2V x y)
  | .lrv a, ρ => bindR (evE C a ρ) fun x => optR (lrvV x)
  | .m1 m a b, ρ => bindR (evE C a ρ) fun x => mtU m x (evE C b ρ)
  | .cntT a, ρ => bindR (evE C a ρ) fun x => optR (cntV x)
  | .idxT a, ρ => bindR (evE C a ρ) fun x => optR (idxV x)
  | .lc elt g src ifs, ρ => bindR (evSrc C src ρ) fun ds => bindR (optR (szV ds)) fun ds => bindR (compL (fun d => match setG g d ρ with
      | some ρ' => bindR (evIf C ifs ρ') fun k => match k with
        | true => bindR (evE C elt ρ') fun x => match toD x with
          | some y => some (.ok (some y))
          | none => none
        | false => some (.ok none)
      | none => none) ds) fun rs => some (.ok (.fr (.l rs)))
  | .dc kx vx g src ifs, ρ => bindR (evSrc C src ρ) fun ds => bindR (optR (szV ds)) fun ds => bindR (dcL (fun d => match setG g d ρ with
      | some ρ' => bindR (evIf C ifs ρ') fun k => match k with
        | true => bindR (evE C kx ρ') fun x => bindR (evE C vx ρ') fun y => match pairV x y with
          | some p => some (.ok (some p))
          | none => none
        | false => some (.ok none)
      | none => none) ds [] []) fun o => some (.ok (.fr o))
def evAnd (C : Cfg) : IA → Rho → EvR
  | .nil, _ => none
  | .cons a .nil, ρ => evE C a ρ
  | .cons a (.cons b r), ρ => bindR (evE C a ρ) fun x => match x with
    | .dat (.bl true) => evAnd C (.cons b r) ρ
    | .dat (.bl false) => some (.ok (.dat (.bl false)))
    | _ => none
def evOr (C : Cfg) : IA → Rho → EvR
  | .nil, _ => none
  | .cons a .nil, ρ => evE C a ρ
  | .cons a (.cons b r), ρ => bindR (evE C a ρ) fun x => match x with
    | .dat (.bl false) => evOr C (.cons b r) ρ
    | .dat (.bl true) => some (.ok (.dat (.bl true)))
    | _ => none
def evA (C : Cfg) : IA → Rho → Ans (List RV)
  | .nil, _ => some (.ok [])
  | .cons a r, ρ => bindR (evE C a ρ) fun x => bindR (evA C r ρ) fun rs => some (.ok (x :: rs))
def evO (C : Cfg) : IO → Rho → Ans (Option Int)
  | .no, _ => some (.ok none)
  | .so a, ρ => bindR (evE C a ρ) fun x => match x with
    | .dat (.int i) => some (.ok (some i))
    | _ => none
def evIf (C : Cfg) : IO → Rho → Ans Bool
  | .no, _ => some (.ok true)
  | .so a, ρ => evT C a ρ
def evSrc (C : Cfg) : ISrc → Rho → Ans (List D)
  | .it a, ρ => bindR (evE C a ρ) fun x => optR (walkV x)
  | .range as, ρ => bindR (evA C as ρ) fun rs => optR (rangeV rs)
  | .rev as, ρ => bindR (evA C as ρ) fun rs => optR (revV rs)
  | .revR a, ρ => bindR (evE C a ρ) fun x => optR (rvrV x)
/-- as a test -/
def evT (C : Cfg) : IE → Rho → Ans Bool
  | .andd as, ρ => evAndT C as ρ
  | .orr as, ρ => evOrT C as ρ
  | .nott a, ρ => bindR (evT C a ρ) fun k => some (.ok (!k))
  | .cmp o a b, ρ => bindR (evE C a ρ) fun x => bindR (evE C b ρ) fun y => optR (cmpV o x y)
  | .var i, ρ => bindR (evE C (.var i) ρ) fun x => optR (truV x)
  | .bl b, ρ => bindR (evE C (.bl b) ρ) fun x => optR (truV x)
  | .chain o o' a b c, ρ => bindR (evE C a ρ) fun x => bindR (evE C b ρ) fun y => bindR (optR (cmpV o x y)) fun k =>
    match k with
    | true => bindR (evE C c ρ) fun z => optR (cmpV o' y z)
    | false => some (.ok false)
  | .call j as, ρ => bindR (bindR (evA C as ρ) fun rs => match C.T[j]? with
    | some fn => callV fn rs
    | none => none) fun x => optR (truV x)
  | .isi a c, ρ => bindR (evE C a ρ) fun x => optR (isiV C.isa x c)
  | .m1 m a b, ρ => bindR (bindR (evE C a ρ) fun x => mtU m x (evE C b ρ)) fun x => optR (truV x)
  | .bi b as, ρ => bindR (bindR (evA C as ρ) fun rs => optR (biV b rs)) fun x => optR (truV x)
  | .ix a i, ρ => bindR (bindR (evE C a ρ) fun x => bindR (evE C i ρ) fun y => optR (ixW x y)) fun x => optR (truV x)
  | _, _ => none
def evAndT (C : Cfg) : IA → Rho → Ans Bool
  | .nil, _ => none
  | .cons a .nil, ρ => evT C a ρ
  | .cons a (.cons b r), ρ => bindR (evT C a ρ) fun k => match k with
    | true => evAndT C (.cons b r) ρ
    | false => some (.ok false)
def evOrT (C : Cfg) : IA → Rho → Ans Bool
  | .nil, _ => none
  | .cons a .nil, ρ => evT C a ρ
  | .cons a (.cons b r), ρ => bindR (evT C a ρ) fun k => match k with
    | false => evOrT C (.cons b r) ρ
    | true => some (.ok true)
end
end DE

set_option Elab.async false
set_option linter.all false
set_option maxRecDepth 100000
set_option maxHeartbeats 4000000
/-! DE2b: statements by data (runS, runB), and the look that a tree is the text's (ckE, ckB). -/
namespace DE
open PySem L2

inductive SO where
  | nx (ρ : Rho) | bk (ρ : Rho) | ct (ρ : Rho) | rt (r : RV) | er (e : Er) (ρ : Rho)
abbrev SR := Option SO
def liftS {α : Type} (x : Ans α) (ρ : Rho) (k : α → SR) : SR :=
  match x with
  | none => none
  | some (.error e) => some (.er e ρ)
  | some (.ok a) => k a
def forL (step : D → Rho → SR) : List D → Rho → SR
  | [], ρ => some (.nx ρ)
  | d :: ds, ρ => match step d ρ with
    | some (.nx ρ') => forL step ds ρ'
    | some (.ct ρ') => forL step ds ρ'
    | some (.bk ρ') => some (.nx ρ')
    | some (.rt r) => some (.rt r)
    | some (.er e ρ') => some (.er e ρ')
    | none => none
def whileL (test : Rho → Ans Bool) (body : Rho → SR) : Nat → Rho → SR
  | 0, _ => none
  | n + 1, ρ => liftS (test ρ) ρ fun k => match k with
    | false => some (.nx ρ)
    | true => match body ρ with
      | some (.nx ρ') => whileL test body n ρ'
      | some (.ct ρ') => whileL test body n ρ'
      | some (.bk ρ') => some (.nx ρ')
      | some (.rt r) => some (.rt r)
      | some (.er e ρ') => some (.er e ρ')
      | none => none
mutual
def noExc : D → Bool
  | .exc _ _ _ => false
  | .tup ds => noExcs ds
  | .lst ds => noExcs ds
  | .dicT _ ds => noExcs ds
  | .dicK _ ds => noExcs ds
  | _ => true
def noExcs : List D → Bool
  | [] => true
  | d :: ds => noExc d && noExcs ds
end
def noExcO : OV → Bool
  | .l ds => noExcs ds
  | .tT _ ds => noExcs ds
  | .tK _ ds => noExcs ds
def noExcL : Option LV → Bool
  | some (.dat d) => noExc d
  | some (.own o) => noExcO o
  | none => true
def noExcV : RV → Bool
  | .dat d => noExc d
  | .fr o => noExcO o
  | .br o => noExcO o
def noExcR : Rho → Bool
  | [] => true
  | l :: r => noExcL l && noExcR r
/-- behind an except suite: its name goes, no other slot holds the error -/
def endS (i : Nat) : SR → SR
  | some (.nx ρ) => if noExcR (ρ.set i none) = true then some (.nx (ρ.set i none)) else none
  | some (.bk ρ) => if noExcR (ρ.set i none) = true then some (.bk (ρ.set i none)) else none
  | some (.ct ρ) => if noExcR (ρ.set i none) = true then some (.ct (ρ.set i none)) else none
  | some (.rt r) => if noExcV r = true then some (.rt r) else none
  | _ => none
def Tg.slots : Tg → List Nat
  | .n i => [i]
  | .t is => is
mutual
/-- the slots that a statement sets or whose objects it changes -/
def tchS : IS → List Nat
  | .asg i _ => [i]
  | .asgT is _ => is
  | .setL i _ _ => [i]
  | .setD i _ _ => [i]
  | .app i _ => [i]
  | .popD i _ => [i]
  | .iff _ a b => tchB a ++ tchB b
  | .forr g _ b => g.slots ++ tchB b
  | .whil _ b => tchB b
  | .tri b _ i s => i :: (tchB b ++ tchB s)
  | _ => []
def tchB : IB → List Nat
  | .nil => []
  | .cons s r => tchS s ++ tchB r
  | .frz i r => i :: tchB r
  | .kil is r => is ++ tchB r
end
/-- what a for walks: data, a new list, a slot's own list that its body leaves alone -/
def evFor (C : Cfg) (src : ISrc) (vs : List Nat) (ρ : Rho) : Ans (List D) :=
  match src with
  | .it a => bindR (evE C a ρ) fun x => match isBr x with
    | false => optR (walkV x)
    | true => match a with
      | .var j => match vs.contains j with
        | false => optR (walkV x)
        | true => none
      | _ => none
  | .range as => evSrc C (.range as) ρ
  | .rev as => evSrc C (.rev as) ρ
  | .revR a => evSrc C (.revR a) ρ
def erS (f : List D → Option Er) (rs : List RV) (ρ : Rho) : SR :=
  match toDs rs with
  | some ds => match f ds with
    | some e => some (.er e ρ)
    | none => none
  | none => none
def putL (i : Nat) (ρ : Rho) (d : D) (ds : List D) (j : RV) : SR :=
  match j with
  | .dat (.int j) => match ixN ds.length j with
    | some n => some (.nx (ρ.set i (some (.own (.l (ds.set n d))))))
    | none => none
  | _ => none
def putD (i : Nat) (ρ : Rho) (d : D) (o : OV) (j : RV) : SR :=
  match o, j with
  | .tT ks vs, .dat k => match tkeyOf k with
    | some q => if ks.length < 16777216 then
        some (.nx (ρ.set i (some (.own (if hasK ks q = true then .tT ks (dputV ks vs q d) else .tT (ks ++ [q]) (vs ++ [d])))))) else none
    | none => none
  | .tK ks vs, .dat k => match keyOf k with
    | some q => if ks.length < 16777216 then
        some (.nx (ρ.set i (some (.own (if hasK ks q = true then .tK ks (dputV ks vs q d) else .tK (ks ++ [q]) (vs ++ [d])))))) else none
    | none => none
  | _, _ => none
def putX (i : Nat) (ρ : Rho) (d : D) (o : OV) (j : RV) : SR :=
  match o with
  | .l ds => putL i ρ d ds j
  | o => putD i ρ d o j
/-- a dict without a key -/
def ddelV {κ : Type} [DecidableEq κ] : List κ → List D → κ → List D
  | k' :: ks, v :: vs, k => if k' = k then ddelV ks vs k else v :: ddelV ks vs k
  | _, _, _ => []
def popX (i : Nat) (ρ : Rho) (ks : List (List Key)) (vs : List D) (j : RV) : SR :=
  match j with
  | .dat k => match tkeyOf k with
    | some q => match dget ks vs q with
      | some _ => some (.nx (ρ.set i (some (.own (.tT (ks.filter fun k => decide (k ≠ q)) (ddelV ks vs q))))))
      | none => none
    | none => none
  | _ => none
/-- slots forgotten -/
def kilR : List Nat → Rho → Rho
  | [], ρ => ρ
  | i :: is, ρ => kilR is (ρ.set i none)
/-- tests ahead of a call that takes a slot's object for good -/
def evK (C : Cfg) : IA → Rho → Ans Bool
  | .nil, _ => some (.ok true)
  | .cons a r, ρ => bindR (evE C a ρ) fun x => match x with
    | .dat (.bl true) => evK C r ρ
    | .dat (.bl false) => some (.ok false)
    | _ => none
def giveV (fn : Option Fn) (o : OV) (rs : List RV) : SR :=
  match fn with
  | some fn => match fn.ow with
    | true => match giveO fn o rs with
      | some (.ok r) => some (.rt r)
      | _ => none
    | false => none
  | none => none
def giveS (fn : Option Fn) (s : Option (Option LV)) (rs : Ans (List RV)) (ρ : Rho) : SR :=
  match s with
  | some (some (.own o)) => liftS rs ρ fun rs => giveV fn o rs
  | _ => none
mutual
def runS (C : Cfg) : IS → Rho → SR
  | .asg i e, ρ => liftS (evE C e ρ) ρ fun r => match r with
    | .dat d => some (.nx (ρ.set i (some (.dat d))))
    | .fr o => some (.nx (ρ.set i (some (.own o))))
    | .br _ => none
  | .asgT is e, ρ => liftS (evE C e ρ) ρ fun r => match r with
    | .dat (.tup ds) => match setT is ds ρ with
      | some ρ' => some (.nx ρ')
      | none => none
    | _ => none
  | .setL i k e, ρ => liftS (evE C e ρ) ρ fun r => match toD r, ρ[i]? with
    | some d, some (some (.own o)) => liftS (evE C k ρ) ρ fun j => putX i ρ d o j
    | _, _ => none
  | .setD i k e, ρ => liftS (evE C e ρ) ρ fun r => match toD r, ρ[i]? with
    | some d, some (some (.own o)) => liftS (evE C k ρ) ρ fun j => putD i ρ d o j
    | _, _ => none
  | .app i e, ρ => match ρ[i]? with
    | some (some (.own (.l ds))) => liftS (evE C e ρ) ρ fun r => match toD r with
      | some d => if ds.length < 16777216 then some (.nx (ρ.set i (some (.own (.l (ds ++ [d])))))) else none
      | none => none
    | _ => none
  | .popD i e, ρ => match ρ[i]? with
    | some (some (.own (.tT ks vs))) => liftS (evE C e ρ) ρ fun j => popX i ρ ks vs j
    | _ => none
  | .expr e, ρ => liftS (evE C e ρ) ρ fun _ => some (.nx ρ)
  | .iff c a b, ρ => liftS (evT C c ρ) ρ fun k => match k with
    | true => runB C a ρ
    | false => runB C b ρ
  | .forr g src b, ρ => liftS (evFor C src (g.slots ++ tchB b) ρ) ρ fun ds => forL (fun d ρ => match setG g d ρ with
      | some ρ' => runB C b ρ'
      | none => none) ds ρ
  | .whil c b, ρ => whileL (evT C c) (runB C b) C.fuel ρ
  | .ret e, ρ => liftS (evE C e ρ) ρ fun r => match r with
    | .br _ => none
    | r => some (.rt r)
  | .retV i, ρ => match ρ[i]? with
    | some (some (.dat d)) => some (.rt (.dat d))
    | some (some (.own o)) => some (.rt (.fr o))
    | _ => none
  | .retN, _ => some (.rt (.dat .non))
  | .retK pre j i as, ρ => liftS (evK C pre ρ) ρ fun b => match b with
    | false => some (.rt (.dat (.bl false)))
    | true => giveS C.T[j]? ρ[i]? (evA C as ρ) ρ
  | .rais c as, ρ => match C.mkE c with
    | some f => liftS (evA C as ρ) ρ fun rs => erS f rs ρ
    | none => none
  | .tri b c i s, ρ => match runB C b ρ with
    | some (.er e ρ') => match C.isa e.c c with
      | some true => endS i (runB C.hot s (ρ'.set i (some (.dat (.exc e.c e.ns e.fs)))))
      | some false => some (.er e ρ')
      | none => none
    | r => r
  | .brk, ρ => some (.bk ρ)
  | .cnt, ρ => some (.ct ρ)
  | .pas, ρ => some (.nx ρ)
def runB (C : Cfg) : IB → Rho → SR
  | .nil, ρ => some (.nx ρ)
  | .cons s r, ρ => match runS C s ρ with
    | some (.nx ρ') => runB C r ρ'
    | o => o
  | .frz i r, ρ => match ρ[i]? with
    | some (some (.own o)) => runB C r (ρ.set i (some (.dat o.d)))
    | _ => runB C r ρ
  | .kil is r, ρ => runB C r (kilR is ρ)
end
/-- a def by its body -/
def mkFn (C : Cfg) (name : Str) (n m : Nat) (b : IB) : Fn where
  name := name
  n := n
  m := fun ds => match runB C b (ds.map (fun d => some (.dat d)) ++ List.replicate (m - n) none) with
    | some (.nx _) => some (.ok (.dat .non))
    | some (.rt r) => some (.ok r)
    | some (.er e _) => some (.error e)
    | _ => none

/-- the object that data is -/
def dOV : D → Option OV
  | .lst ds => some (.l ds)
  | .dicT ks vs => some (.tT ks vs)
  | .dicK ks vs => some (.tK ks vs)
  | _ => none
/-- a def that takes its first argument for good -/
def mkFnO (C : Cfg) (name : Str) (n m : Nat) (b : IB) : Fn where
  name := name
  n := n
  ow := true
  m := fun ds => match ds with
    | d :: ds => match dOV d with
      | some o => match runB C b (some (.own o) :: (ds.map (fun d => some (.dat d)) ++ List.replicate (m - n) none)) with
        | some (.nx _) => some (.ok (.dat .non))
        | some (.rt r) => some (.ok r)
        | some (.er e _) => some (.error e)
        | _ => none
      | none => none
    | [] => none
/-! ### the look -/
/-- what asks a calm place -/
def calmBi (h : Bool) : Bi → Bool
  | .len => true
  | .abs => true
  | .int => true
  | .tup => true
  | .lst => true
  | .str => true
  | _ => !h
def visB (sc : Scope) (x : Str) : Bool := match sc.names.lookup x with
  | some .local => true
  | some .cell => true
  | some .free => true
  | _ => false
def locB (sc : Scope) (x : Str) : Bool := match sc.names.lookup x with
  | some .local => true
  | some .cell => true
  | _ => false
def nmB (N : List Str) (sc : Scope) (i : Nat) (x : Str) : Bool := decide (N[i]? = some x) && visB sc x && !(x == ("__debug__" : Str)) && !(x == ("__classdict__" : Str))
def tgB (N : List Str) (sc : Scope) (i : Nat) (x : Str) : Bool := decide (N[i]? = some x) && locB sc x
def glB (sc : Scope) (x : Str) : Bool := decide (sc.names.lookup x = some .globalImplicit) && !(x == ("__debug__" : Str)) && !(x == ("__name__" : Str))
def notStar : Expr → Bool
  | .Starred _ _ => false
  | _ => true
def Bi.nm : Bi → Str
  | .len => "len" | .abs => "abs" | .int => "int" | .tup => "tuple" | .lst => "list" | .sorted => "sorted" | .min => "min" | .max => "max" | .sum => "sum" | .all => "all" | .any => "any" | .str => "str"
def Mt.nm : Mt → Str
  | .split => "split" | .join => "join" | .stw => "startswith" | .find => "find" | .rfind => "rfind"
def Cl.nm : Cl → Str
  | .int => "int" | .bool => "bool" | .str => "str" | .tup => "tuple" | .lst => "list" | .dict => "dict" | .own c => c
def tgsB (N : List Str) (sc : Scope) : List Nat → List Expr → Bool
  | [], [] => true
  | i :: is, .Name x _ :: es => tgB N sc i x && tgsB N sc is es
  | _, _ => false
def ckG (N : List Str) (sc : Scope) : Tg → Expr → Bool
  | .n i, .Name x _ => tgB N sc i x
  | .t is, .Tuple es _ _ => tgsB N sc is es
  | _, _ => false
def ownOf (N : List Str) : List Nat → List (Str × Nat)
  | [] => []
  | i :: is => (N.getD i "", i) :: ownOf N is
mutual
def ckE (N : List Str) (C : Cfg) (h : Bool) (sc : Scope) : IE → Expr → Bool
  | .var i, .Name x _ => nmB N sc i x
  | .int n, .Constant (.int m) _ _ => decide (n = m)
  | .str s, .Constant (.str z) _ _ => decide (s = z)
  | .bl b, .Constant (.bool c) _ _ => b == c
  | .non, .Constant .none _ _ => true
  | .bin o a b, .BinOp x p y _ => decide (o.py = p) && ckE N C h sc a x && ckE N C h sc b y
  | .neg a, .UnaryOp .USub x _ => ckE N C h sc a x
  | .cmp o a b, .Compare x [p] [y] _ => decide (o.py = p) && ckE N C h sc a x && ckE N C h sc b y
  | .chain o o' a b c, .Compare x [p, p'] [y, z] _ => decide (o.py = p) && decide (o'.py = p') && ckE N C h sc a x && ckE N C h sc b y && ckE N C h sc c z
  | .andd as, .BoolOp .And es _ => ckA N C h sc as es
  | .orr as, .BoolOp .Or es _ => ckA N C h sc as es
  | .nott a, .UnaryOp .Not x _ => ckE N C h sc a x
  | .ife c a b, .IfExp x y z _ => ckE N C h sc c x && ckE N C h sc a y && ckE N C h sc b z
  | .tup as, .Tuple es _ _ => decide (es.length ≤ 1000) && ckA N C h sc as es
  | .lst as, .List es _ => decide (es.length ≤ 1000) && ckA N C h sc as es
  | .dictT, .Dict [] [] _ => true
  | .dictK, .Dict [] [] _ => true
  | .ix a i, .Subscript x y _ => ckE N C h sc a x && ckE N C h sc i y
  | .dix a i, .Subscript x y _ => ckE N C h sc a x && ckE N C h sc i y
  | .sl a lo hi, .Subscript x (.Slice l u none _) _ => ckE N C h sc a x && ckO N C h sc lo l && ckO N C h sc hi u
  | .call j (.cons a as), .Call (.Name x _) (e :: es) [] _ => glB sc x && decide ((C.T[j]?).map (·.name) = some x) && ckE N C h sc a e && ckA N C h sc as es
  | .bi b (.cons a as), .Call (.Name x _) (e :: es) [] _ => calmBi h b && glB sc x && decide (b.nm = x) && ckE N C h sc a e && ckA N C h sc as es
  | .get d k z, .Call (.Attribute o n ap) [e, f] [] cp => decide (n = "get") && (ap.endLine == cp.line) && ckE N C h sc d o && ckE N C h sc k e && ckE N C h sc z f
  | .attr a n, .Attribute o m _ => decide (n = m) && ckE N C h sc a o
  | .isi a c, .Call (.Name x _) [e, .Name y _] [] _ => glB sc x && decide (x = "isinstance") && ckE N C h sc a e && glB sc y && decide (c.nm = y)
  | .lsr1 a, .Call (.Name x _) [.Call (.Name y _) [e] [] _] [] _ => !h && glB sc x && decide (x = "list") && glB sc y && decide (y = "range") && ckE N C h sc a e
  | .lsr2 a b, .Call (.Name x _) [.Call (.Name y _) [e, f] [] _] [] _ => !h && glB sc x && decide (x = "list") && glB sc y && decide (y = "range") && ckE N C h sc a e && ckE N C h sc b f
  | .lrv a, .Call (.Name x _) [.Call (.Name y _) [e] [] _] [] _ => !h && glB sc x && decide (x = "list") && glB sc y && decide (y = "reversed") && ckE N C h sc a e
  | .m1 m a b, .Call (.Attribute o n ap) [e] [] cp => decide (m.nm = n) && (ap.endLine == cp.line) && ckE N C h sc a o && ckE N C h sc b e
  | .cntT a, .Call (.Attribute o n ap) [.Constant (.bool b) _ _] [] cp => b && decide (n = "count") && (ap.endLine == cp.line) && ckE N C h sc a o
  | .idxT a, .Call (.Attribute o n ap) [.Constant (.bool b) _ _] [] cp => b && decide (n = "index") && (ap.endLine == cp.line) && ckE N C h sc a o
  | .lc elt g src ifs, .ListComp el [⟨tg, it, fs, asy⟩] scope _ => decide (asy = 0) && !h && ckSrc N C h sc src it && blkC N sc scope (ownOf N g.slots) && ckG N scope g tg && ckIf N C h (relS scope sc) ifs fs && ckE N C h (relS scope sc) elt el
  | .dc kx vx g src ifs, .DictComp kl vl [⟨tg, it, fs, asy⟩] scope _ => decide (asy = 0) && !h && ckSrc N C h sc src it && blkC N sc scope (ownOf N g.slots) && ckG N scope g tg && ckIf N C h (relS scope sc) ifs fs && ckE N C h (relS scope sc) kx kl && ckE N C h (relS scope sc) vx vl
  | _, _ => false
def ckA (N : List Str) (C : Cfg) (h : Bool) (sc : Scope) : IA → List Expr → Bool
  | .nil, [] => true
  | .cons a r, e :: es => ckE N C h sc a e && ckA N C h sc r es
  | _, _ => false
def ckO (N : List Str) (C : Cfg) (h : Bool) (sc : Scope) : IO → Option Expr → Bool
  | .no, none => true
  | .so a, some e => ckE N C h sc a e
  | _, _ => false
def ckIf (N : List Str) (C : Cfg) (h : Bool) (sc : Scope) : IO → List Expr → Bool
  | .no, [] => true
  | .so a, [e] => ckE N C h sc a e
  | _, _ => false
def ckSrc (N : List Str) (C : Cfg) (h : Bool) (sc : Scope) : ISrc → Expr → Bool
  | .it a, e => ckE N C h sc a e
  | .range (.cons a .nil), .Call (.Name x _) [e] [] _ => glB sc x && decide (x = "range") && ckE N C h sc a e
  | .range (.cons a (.cons b .nil)), .Call (.Name x _) [e, f] [] _ => glB sc x && decide (x = "range") && ckE N C h sc a e && ckE N C h sc b f
  | .rev (.cons a .nil), .Call (.Name x _) [e] [] _ => glB sc x && decide (x = "reversed") && ckE N C h sc a e
  | .revR a, .Call (.Name x _) [.Call (.Name y _) [e] [] _] [] _ => glB sc x && decide (x = "reversed") && glB sc y && decide (y = "range") && ckE N C h sc a e
  | _, _ => false
end
def notComp : Expr → Bool
  | .ListComp _ _ _ _ => false
  | .SetComp _ _ _ _ => false
  | .DictComp _ _ _ _ _ => false
  | _ => true
/-- the list comprehension's own way of a store -/
def swapB (sc : Scope) (x : Str) (px : Pos) : Expr → Bool
  | .ListComp _ _ scope pos => decide (sc.names.lookup x = some .local) && (px.line == pos.line) && !(scope.names.any fun (n, k) => n == x && (k == .local || k == .cell))
  | _ => false
/-- the dict comprehension's -/
def swapD (sc : Scope) (x : Str) (px : Pos) : Expr → Bool
  | .DictComp _ _ _ scope pos => decide (sc.names.lookup x = some .local) && (px.line == pos.line) && !(scope.names.any fun (n, k) => n == x && (k == .local || k == .cell))
  | _ => false
/-- a comprehension stored in a cell: the usual way -/
def cellB (sc : Scope) (x : Str) : Expr → Bool
  | .ListComp _ _ _ _ => decide (sc.names.lookup x = some .cell)
  | _ => false
/-! #### views of a statement -/
def vName : Stmt → Option (Str × Pos × Expr)
  | .Assign [.Name x p] v _ => some (x, p, v)
  | _ => none
def vTup : Stmt → Option (List Expr × Expr)
  | .Assign [.Tuple es _ _] v _ => some (es, v)
  | _ => none
def vSub : Stmt → Option (Str × Expr × Expr)
  | .Assign [.Subscript (.Name x _) y _] v _ => some (x, y, v)
  | _ => none
def vApp : Stmt → Option (Str × Str × Pos × Expr × Pos)
  | .Expr (.Call (.Attribute (.Name x _) m ap) [v] [] cp) _ => some (x, m, ap, v, cp)
  | _ => none
def vExpr : Stmt → Option Expr
  | .Expr v _ => some v
  | _ => none
def vIf : Stmt → Option (Expr × List Stmt × List Stmt)
  | .If x a b _ => some (x, a, b)
  | _ => none
def vFor : Stmt → Option (Expr × Expr × List Stmt)
  | .For tg it s [] _ => some (tg, it, s)
  | _ => none
def vWhile : Stmt → Option (Expr × List Stmt)
  | .While x s [] _ => some (x, s)
  | _ => none
def vRet : Stmt → Option (Option Expr)
  | .Return v _ => some v
  | _ => none
def vRetN : Stmt → Option Str
  | .Return (some (.Name x _)) _ => some x
  | _ => none
def vRais : Stmt → Option (Str × List Expr)
  | .Raise (some (.Call (.Name x _) es [] _)) none _ => some (x, es)
  | _ => none
def vTry : Stmt → Option (List Stmt × Str × Str × Stmt × List Stmt)
  | .Try body [.ExceptHandler (some (.Name x _)) (some n) (s0 :: st) _] [] [] _ => some (body, x, n, s0, st)
  | _ => none
def vBrk : Stmt → Bool
  | .Break _ => true
  | _ => false
def vCnt : Stmt → Bool
  | .Continue _ => true
  | _ => false
def vPas : Stmt → Bool
  | .Pass _ => true
  | _ => false
def isTup : Expr → Bool
  | .Tuple _ _ _ => true
  | _ => false
theorem vName_eq {st : Stmt} {x : Str} {p : Pos} {v : Expr} (h : vName st = some (x, p, v)) : ∃ q, st = .Assign [.Name x p] v q := by
  unfold vName at h
  split at h
  · cases h; exact ⟨_, rfl⟩
  · cases h
theorem vTup_eq {st : Stmt} {es : List Expr} {v : Expr} (h : vTup st = some (es, v)) : ∃ a b q, st = .Assign [.Tuple es a b] v q := by
  unfold vTup at h
  split at h
  · cases h; exact ⟨_, _, _, rfl⟩
  · cases h
theorem vSub_eq {st : Stmt} {x : Str} {y v : Expr} (h : vSub st = some (x, y, v)) : ∃ a b q, st = .Assign [.Subscript (.Name x a) y b] v q := by
  unfold vSub at h
  split at h
  · cases h; exact ⟨_, _, _, rfl⟩
  · cases h
theorem vApp_eq {st : Stmt} {x m : Str} {ap cp : Pos} {v : Expr} (h : vApp st = some (x, m, ap, v, cp)) : ∃ a q, st = .Expr (.Call (.Attribute (.Name x a) m ap) [v] [] cp) q := by
  unfold vApp at h
  split at h
  · cases h; exact ⟨_, _, rfl⟩
  · cases h
theorem vExpr_eq {st : Stmt} {v : Expr} (h : vExpr st = some v) : ∃ q, st = .Expr v q := by
  unfold vExpr at h
  split at h
  · cases h; exact ⟨_, rfl⟩
  · cases h
theorem vIf_eq {st : Stmt} {x : Expr} {a b : List Stmt} (h : vIf st = some (x, a, b)) : ∃ q, st = .If x a b q := by
  unfold vIf at h
  split at h
  · cases h; exact ⟨_, rfl⟩
  · cases h
theorem vFor_eq {st : Stmt} {x y : Expr} {a : List Stmt} (h : vFor st = some (x, y, a)) : ∃ q, st = .For x y a [] q := by
  unfold vFor at h
  split at h
  · cases h; exact ⟨_, rfl⟩
  · cases h
theorem vWhile_eq {st : Stmt} {x : Expr} {a : List Stmt} (h : vWhile st = some (x, a)) : ∃ q, st = .While x a [] q := by
  unfold vWhile at h
  split at h
  · cases h; exact ⟨_, rfl⟩
  · cases h
theorem vRet_eq {st : Stmt} {x : Option Expr} (h : vRet st = some x) : ∃ q, st = .Return x q := by
  unfold vRet at h
  split at h
  · cases h; exact ⟨_, rfl⟩
  · cases h
theorem vRetN_eq {st : Stmt} {x : Str} (h : vRetN st = some x) : ∃ p q, st = .Return (some (.Name x p)) q := by
  unfold vRetN at h
  split at h
  · cases h; exact ⟨_, _, rfl⟩
  · cases h
theorem vRais_eq {st : Stmt} {x : Str} {es : List Expr} (h : vRais st = some (x, es)) : ∃ a b q, st = .Raise (some (.Call (.Name x a) es [] b)) none q := by
  unfold vRais at h
  split at h
  · cases h; exact ⟨_, _, _, rfl⟩
  · cases h
theorem vTry_eq {st : Stmt} {body r : List Stmt} {x n : Str} {s0 : Stmt} (h : vTry st = some (body, x, n, s0, r)) : ∃ a b q, st = .Try body [.ExceptHandler (some (.Name x a)) (some n) (s0 :: r) b] [] [] q := by
  unfold vTry at h
  split at h
  · cases h; exact ⟨_, _, _, rfl⟩
  · cases h
theorem vBrk_eq {st : Stmt} (h : vBrk st = true) : ∃ q, st = .Break q := by
  unfold vBrk at h
  split at h
  · exact ⟨_, rfl⟩
  · cases h
theorem vCnt_eq {st : Stmt} (h : vCnt st = true) : ∃ q, st = .Continue q := by
  unfold vCnt at h
  split at h
  · exact ⟨_, rfl⟩
  · cases h
theorem vPas_eq {st : Stmt} (h : vPas st = true) : ∃ q, st = .Pass q := by
  unfold vPas at h
  split at h
  · exact ⟨_, rfl⟩
  · cases h
/-- f(x, ..), x handed over -/
def ckKc (N : List Str) (C : Cfg) (h : Bool) (sc : Scope) (j i : Nat) (as : IA) : Expr → Bool
  | .Call (.Name x _) (.Name y p :: es) [] _ => glB sc x && decide ((C.T[j]?).map (·.name) = some x) && nmB N sc i y && ckA N C h sc as es
  | _ => false
def ckKs (N : List Str) (C : Cfg) (h : Bool) (sc : Scope) (j i : Nat) (as : IA) : IA → List Expr → Bool
  | .nil, [e] => ckKc N C h sc j i as e
  | .cons a r, e :: es => ckE N C h sc a e && ckKs N C h sc j i as r es
  | _, _ => false
def ckK (N : List Str) (C : Cfg) (h : Bool) (sc : Scope) (j i : Nat) (as : IA) : IA → Expr → Bool
  | .nil, e => ckKc N C h sc j i as e
  | .cons a r, .BoolOp .And es _ => ckKs N C h sc j i as (.cons a r) es
  | _, _ => false
mutual
def ckS (N : List Str) (C : Cfg) (h : Bool) (sc : Scope) : IS → Stmt → Bool
  | .asg i e, st => match vName st with
    | some (x, px, v) => tgB N sc i x && ckE N C h sc e v && (notComp v || swapB sc x px v || cellB sc x v || swapD sc x px v)
    | none => false
  | .asgT is e, st => match vTup st with
    | some (es, v) => !h && tgsB N sc is es && ckE N C h sc e v && notComp v && !isTup v
    | none => false
  | .setL i k e, st => match vSub st with
    | some (x, y, v) => nmB N sc i x && ckE N C h sc k y && ckE N C h sc e v && notComp v
    | none => false
  | .setD i k e, st => match vSub st with
    | some (x, y, v) => nmB N sc i x && ckE N C h sc k y && ckE N C h sc e v && notComp v
    | none => false
  | .app i e, st => match vApp st with
    | some (x, m, ap, v, cp) => nmB N sc i x && decide (m = "append") && (ap.endLine == cp.line) && ckE N C h sc e v
    | none => false
  | .popD i e, st => match vApp st with
    | some (x, m, ap, v, cp) => nmB N sc i x && decide (m = "pop") && (ap.endLine == cp.line) && ckE N C h sc e v
    | none => false
  | .expr e, st => match vExpr st with
    | some v => ckE N C h sc e v && notComp v
    | none => false
  | .iff c a b, st => match vIf st with
    | some (x, s, t) => ckE N C h sc c x && ckB N C h sc a s && ckB N C h sc b t
    | none => false
  | .forr g src b, st => match vFor st with
    | some (tg, it, s) => !h && ckG N sc g tg && ckSrc N C h sc src it && ckB N C h sc b s
    | none => false
  | .whil c b, st => match vWhile st with
    | some (x, s) => ckE N C h sc c x && ckB N C h sc b s
    | none => false
  | .ret e, st => match vRet st with
    | some (some v) => ckE N C h sc e v
    | _ => false
  | .retV i, st => match vRetN st with
    | some x => nmB N sc i x
    | none => false
  | .retN, st => match vRet st with
    | some none => true
    | _ => false
  | .rais c as, st => match vRais st with
    | some (x, es) => !h && glB sc x && decide (c = x) && ckA N C h sc as es
    | none => false
  | .tri b c i s, st => match vTry st with
    | some (body, x, n, s0, r) => !h && decide (C.isa c c = some true) && ckB N C h sc b body && glB sc x && decide (c = x) && decide (N[i]? = some n) && decide (sc.names.lookup n = some .local) && ckB N C.hot true sc s (s0 :: r)
    | none => false
  | .retK pre j i as, st => match vRet st with
    | some (some e) => !h && ckK N C h sc j i as pre e
    | _ => false
  | .brk, st => vBrk st
  | .cnt, st => vCnt st
  | .pas, st => vPas st
def ckB (N : List Str) (C : Cfg) (h : Bool) (sc : Scope) : IB → List Stmt → Bool
  | .nil, ts => ts.isEmpty
  | .cons s r, ts => match ts with
    | [] => false
    | t :: ts => ckS N C h sc s t && ckB N C h sc r ts
  | .frz _ r, ts => ckB N C h sc r ts
  | .kil _ r, ts => ckB N C h sc r ts
end
end DE

set_option Elab.async false
set_option linter.all false
set_option maxRecDepth 100000
set_option maxHeartbeats 4000000
/-! DE3: the readings by data (cE, cA, cT), how they are composed, and the rules by values. -/
namespace DE
open PySem PySem.Spec PyProof.Rows L2

/-- an error as the machine bears it: its class, its own dict -/
def DenX (E : En) (G : Hp) (e : Er) (cls : Value) (d : Option Addr) : Prop :=
  ∃ C dd fs, E.mg e.c = some (.ref C) ∧ cls = .ref C ∧ d = some dd ∧ G dd = some (.xd fs) ∧ fs.map (·.1) = e.ns ∧ Dens E G e.fs (fs.map (·.2))
/-- a new object and the new ones behind it are different -/
def Apart (r : RV) (v : V) (rs : List RV) (ws : List V) : Prop := (∃ o, r = .fr o) → ∀ (i : Nat) (o : OV), rs[i]? = some (.fr o) → ws[i]? ≠ some v
def DenRs (E : En) (G H H0 : Hp) : List RV → List V → Prop
  | [], vs => vs = []
  | r :: rs, vs => ∃ v ws, vs = v :: ws ∧ DenR E G H H0 r v ∧ DenRs E G H H0 rs ws ∧ Apart r v rs ws
section
variable {E : En} {G H G' H' H0 H1 : Hp}
theorem DenX.mono {e : Er} {cls : Value} {d : Option Addr} (g : Ex G G') (x : DenX E G e cls d) : DenX E G' e cls d := by
  obtain ⟨C, dd, fs, h1, h2, h3, h4, h5, h6⟩ := x
  exact ⟨C, dd, fs, h1, h2, h3, g _ _ h4, h5, Dens.mono g _ _ h6⟩
theorem DenRs.mono (r : Gr G H G' H') : ∀ {rs : List RV} {vs : List V}, DenRs E G H H0 rs vs → DenRs E G' H' H0 rs vs
  | [], _, h => h
  | _ :: _, _, ⟨v, ws, e, h1, h2, h3⟩ => ⟨v, ws, e, h1.mono r, DenRs.mono r h2, h3⟩
theorem DenRs.back (e : Ex H0 H1) : ∀ {rs : List RV} {vs : List V}, DenRs E G H H1 rs vs → DenRs E G H H0 rs vs
  | [], _, h => h
  | _ :: _, _, ⟨v, ws, q, h1, h2, h3⟩ => ⟨v, ws, q, h1.back e, DenRs.back e h2, h3⟩
theorem DenRs.length : ∀ {rs : List RV} {vs : List V}, DenRs E G H H0 rs vs → vs.length = rs.length
  | [], vs, h => by
    have e : vs = [] := h
    rw [e] <;> rfl
  | _ :: _, _, ⟨v, ws, q, h1, h2, _⟩ => by rw [q, List.length_cons, List.length_cons, DenRs.length h2]
theorem DenRs.at_ : ∀ {rs : List RV} {vs : List V} {i : Nat} {r : RV}, DenRs E G H H0 rs vs → rs[i]? = some r → ∃ v, vs[i]? = some v ∧ DenR E G H H0 r v
  | _ :: _, _, 0, _, ⟨v, ws, q, h1, h2, _⟩, e => by
    cases e
    exact ⟨v, by rw [q]; rfl, h1⟩
  | _ :: _, _, i + 1, r, ⟨v, ws, q, h1, h2, _⟩, e => by
    obtain ⟨w, e1, e2⟩ := DenRs.at_ (i := i) h2 (by simpa using e)
    exact ⟨w, by rw [q]; simpa using e1, e2⟩
  | [], _, _, _, _, e => by simp at e
end

/-! ### answers -/
/-- what is wanted of an answer: R of a value, W of an error -/
def QA {α : Type} (E : En) (W : WX) (σ : L2.St) (G H : Hp) (R : α → Hp → Hp → Prop) : Ans α → Prop
  | none => False
  | some (.error e) => ∀ cls d G' H', Gr G H G' H' → DenX E G' e cls d → W cls d σ H'
  | some (.ok a) => ∀ G' H', Gr G H G' H' → R a G' H'
section
variable {α β : Type} {E : En} {W : WX} {σ : L2.St} {G H G' H' : Hp} {R : α → Hp → Hp → Prop} {x : Ans α}
theorem QA.grow (r : Gr G H G' H') (h : QA E W σ G H R x) : QA E W σ G' H' R x := by
  cases x with
  | none => exact h
  | some y =>
    cases y with
    | error e => exact fun cls d G2 H2 r2 k => h cls d G2 H2 (r.trans r2) k
    | ok a => exact fun G2 H2 r2 => h G2 H2 (r.trans r2)
theorem QA.imp {R' : α → Hp → Hp → Prop} (h : QA E W σ G H R x) (k : ∀ a G' H', Gr G H G' H' → R a G' H' → R' a G' H') : QA E W σ G H R' x := by
  cases x with
  | none => exact h
  | some y =>
    cases y with
    | error e => exact h
    | ok a => exact fun G2 H2 r2 => k a G2 H2 r2 (h G2 H2 r2)
theorem QA.bind {S : β → Hp → Hp → Prop} {f : α → Ans β} (h : QA E W σ G H S (bindR x f)) : QA E W σ G H (fun a G' H' => QA E W σ G' H' S (f a)) x := by
  cases x with
  | none => exact h
  | some y =>
    cases y with
    | error e => exact h
    | ok a => exact fun G2 H2 r2 => QA.grow r2 (show QA E W σ G H S (f a) from h)
theorem QA.bind0 {S : β → Hp → Hp → Prop} {f : α → Ans β} (h : QA E W σ G H S (bindR x f)) : QA E W σ G H (fun a _ _ => QA E W σ G H S (f a)) x := by
  cases x with
  | none => exact h
  | some y =>
    cases y with
    | error e => exact h
    | ok a => exact fun G2 H2 r2 => h
theorem QA.opt {o : Option α} (h : QA E W σ G H R (optR o)) : ∃ a, o = some a ∧ ∀ G' H', Gr G H G' H' → R a G' H' := by
  cases o with
  | none => exact h.elim
  | some a => exact ⟨a, rfl, h⟩
theorem QA.ok {a : α} (h : QA E W σ G H R (some (.ok a))) : ∀ G' H', Gr G H G' H' → R a G' H' := h
end

/-! ### readings -/
def RE (E : En) (H : Hp) (Q : VK) : RV → Hp → Hp → Prop := fun r G' H' => ∀ v, DenR E G' H' H r v → Q v H'
def cE (E : En) (W : WX) (f : Rho → EvR) : TE := fun σ H Q => ∃ B ρ G, Ex G H ∧ Rep E B G H σ ρ ∧ QA E W σ G H (RE E H Q) (f ρ)
def cA (E : En) (W : WX) (f : Rho → Ans (List RV)) : TA := fun σ H Q => ∃ B ρ G, Ex G H ∧ Rep E B G H σ ρ ∧ QA E W σ G H (fun rs G' H' => ∀ vs, DenRs E G' H' H rs vs → Q vs H') (f ρ)
def cT (E : En) (W : WX) (f : Rho → Ans Bool) : TT := fun σ H Q => ∃ B ρ G, Ex G H ∧ Rep E B G H σ ρ ∧ QA E W σ G H (fun k _ H' => Q k H') (f ρ)
def cO (E : En) (W : WX) (f : Rho → Ans (Option Int)) : TO := fun σ H Q => ∃ B ρ G, Ex G H ∧ Rep E B G H σ ρ ∧ QA E W σ G H (fun o _ H' => Q o H') (f ρ)
section
variable {E : En} {W : WX} {σ : L2.St} {G H G' H' : Hp} {B : Hp} {ρ : Rho} {f g : Rho → EvR} {Q Q' : VK}
/-- the step: an expression, then what is wanted of its value -/
theorem cE_step {β : Type} {S : β → Hp → Hp → Prop} {k : RV → Ans β} (i : Ex G H) (r : Rep E B G H σ ρ) (h : QA E W σ G H S (bindR (f ρ) k))
    (c : ∀ v rv G1 H1, Gr G H G1 H1 → Rep E B G1 H1 σ ρ → DenR E G1 H1 H rv v → QA E W σ G1 H1 S (k rv) → Q v H1) : cE E W f σ H Q :=
  ⟨B, ρ, G, i, r, h.bind.imp fun rv G1 H1 g1 q v dv => c v rv G1 H1 g1 (r.mono g1) dv q⟩
theorem cA_step {f : Rho → Ans (List RV)} {Q : List V → Hp → Prop} {β : Type} {S : β → Hp → Hp → Prop} {k : List RV → Ans β} (i : Ex G H) (r : Rep E B G H σ ρ) (h : QA E W σ G H S (bindR (f ρ) k))
    (c : ∀ vs rs G1 H1, Gr G H G1 H1 → Rep E B G1 H1 σ ρ → DenRs E G1 H1 H rs vs → QA E W σ G1 H1 S (k rs) → Q vs H1) : cA E W f σ H Q :=
  ⟨B, ρ, G, i, r, h.bind.imp fun rv G1 H1 g1 q v dv => c v rv G1 H1 g1 (r.mono g1) dv q⟩
theorem cT_step {f : Rho → Ans Bool} {Q : Bool → Hp → Prop} {β : Type} {S : β → Hp → Hp → Prop} {k : Bool → Ans β} (i : Ex G H) (r : Rep E B G H σ ρ) (h : QA E W σ G H S (bindR (f ρ) k))
    (c : ∀ b G1 H1, Gr G H G1 H1 → Rep E B G1 H1 σ ρ → QA E W σ G1 H1 S (k b) → Q b H1) : cT E W f σ H Q :=
  ⟨B, ρ, G, i, r, h.bind.imp fun rv G1 H1 g1 q => c rv G1 H1 g1 (r.mono g1) q⟩
theorem cO_step {f : Rho → Ans (Option Int)} {Q : Option Int → Hp → Prop} {β : Type} {S : β → Hp → Hp → Prop} {k : Option Int → Ans β} (i : Ex G H) (r : Rep E B G H σ ρ) (h : QA E W σ G H S (bindR (f ρ) k))
    (c : ∀ b G1 H1, Gr G H G1 H1 → Rep E B G1 H1 σ ρ → QA E W σ G1 H1 S (k b) → Q b H1) : cO E W f σ H Q :=
  ⟨B, ρ, G, i, r, h.bind.imp fun rv G1 H1 g1 q => c rv G1 H1 g1 (r.mono g1) q⟩
end
section
variable {X : Cx}
theorem pe_imp {e : Expr} {t t' : TE} (h : PE X e t) (k : ∀ σ H Q, t' σ H Q → t σ H Q) : PE X e t' := ⟨fun pins s σ H Q I q => h.run pins s σ H Q I (k σ H Q q)⟩
theorem pt_imp {e : Expr} {t t' : TT} (h : PT X e t) (k : ∀ σ H Q, t' σ H Q → t σ H Q) : PT X e t' := ⟨fun pins s σ H Q I q => h.run pins s σ H Q I (k σ H Q q)⟩
theorem pw_imp {e : Expr} {t t' : TT} (h : PW X e t) (k : ∀ σ H Q, t' σ H Q → t σ H Q) : PW X e t' := ⟨fun wh pins s σ H Q I q => h.run wh pins s σ H Q I (k σ H Q q)⟩
theorem pa_imp {es : List Expr} {t t' : TA} (h : PA X es t) (k : ∀ σ H Q, t' σ H Q → t σ H Q) : PA X es t' := ⟨fun pos pins s σ H Q I q => h.run pos pins s σ H Q I (k σ H Q q)⟩
theorem ps_imp {st : Stmt} {t t' : TS} (h : PS X st t) (k : ∀ D σ H, t' D σ H → t D σ H) : PS X st t' := ⟨fun pins s σ H D I q => h.run pins s σ H D I (k D σ H q)⟩
theorem pss_imp {st : List Stmt} {t t' : TS} (h : PSs X st t) (k : ∀ D σ H, t' D σ H → t D σ H) : PSs X st t' := ⟨fun pins s σ H D I q => h.run pins s σ H D I (k D σ H q)⟩
end

/-! ### rules by values: what a rule asks, met by data -/
/-- r meets g: from the values' data -/
def Meets2 (E : En) (r : R2) (g : RV → RV → Option RV) : Prop := ∀ (G H H0 : Hp) (x y : RV) (v u : V) (z : RV) (Q : VK), Ex G H → DenR E G H H0 x v → DenR E G H H0 y u → g x y = some z →
  (∀ w G' H', Gr G H G' H' → DenR E G' H' H z w → Q w H') → r v u H Q
theorem cE_op2 {E : En} {W : WX} {f g : Rho → EvR} {r : R2} {o : RV → RV → Option RV} (m : Meets2 E r o) {σ : L2.St} {H : Hp} {Q : VK} (h : cE E W (fun ρ => bindR (f ρ) fun x => bindR (g ρ) fun y => optR (o x y)) σ H Q) :
    tOp r (cE E W f) (cE E W g) σ H Q := by
  obtain ⟨B, ρ, G, i, rp, h⟩ := h
  refine cE_step i rp h fun v x G1 H1 g1 r1 d1 h1 => ?_
  refine cE_step g1.i r1 h1 fun u y G2 H2 g2 r2 d2 h2 => ?_
  obtain ⟨z, e, k⟩ := h2.opt
  exact m G2 H2 H x y v u z Q g2.i (d1.mono g2) (d2.back g1.h) e fun w G' H' g3 dw => k G' H' g3 w (dw.back (g1.trans g2).h)
/-- where the answer is a truth value -/
def Meets2B (E : En) (r : R2) (g : RV → RV → Option Bool) : Prop := ∀ (G H H0 : Hp) (x y : RV) (v u : V) (z : Bool) (Q : VK), Ex G H → DenR E G H H0 x v → DenR E G H H0 y u → g x y = some z → Q (.bl z) H → r v u H Q
theorem Meets2B.to {E : En} {r : R2} {g : RV → RV → Option Bool} (m : Meets2B E r g) : Meets2 E r fun x y => blR (g x y) := fun G H H0 x y v u z Q i dx dy e k => by
  have e : blR (g x y) = some z := e
  cases q : g x y with
  | none => rw [q] at e; cases e
  | some b =>
    rw [q] at e
    cases e
    exact m G H H0 x y v u b Q i dx dy q (k _ G H (Gr.refl i) rfl)
theorem op_imp {X : Cx} {f : Value → Value → Sem Value} {r r' : R2} (h : OpR X f r) (k : ∀ x y H Q, r' x y H Q → r x y H Q) : OpR X f r' := fun pins s σ H x y v u Q I rx ry q => h pins s σ H x y v u Q I rx ry (k x y H Q q)
theorem or2 {X : Cx} {f : Value → Value → Sem Value} {r r' : R2} (h : OpR X f r) (h' : OpR X f r') : OpR X f (fun x y H Q => r x y H Q ∨ r' x y H Q) := fun pins s σ H x y v u Q I rx ry q => by
  rcases q with q | q
  · exact h pins s σ H x y v u Q I rx ry q
  · exact h' pins s σ H x y v u Q I rx ry q

theorem small_ok {i : Int} (h : small i = true) : -(2 ^ 64) < i ∧ i < 2 ^ 64 := by
  unfold small at h
  simpa using h
theorem line_eq : sizeLine = 16777216 := sizeLine_eq

/-! #### arithmetic -/
theorem DenR.dat_int {E : En} {G H H0 : Hp} {i : Int} {v : V} (h : DenR E G H H0 (.dat (.int i)) v) : v = .int i := h
theorem meets_sub {E : En} : Meets2 E (rI0 fun i j => .int (i - j)) subV := fun G H H0 x y v u z Q i dx dy e k => by
  unfold subV at e
  split at e
  · cases e
    exact ⟨_, _, dx, dy, k _ G H (Gr.refl i) rfl⟩
  · cases e
theorem meets_mul {E : En} : Meets2 E (rI CMul fun i j => .int (i * j)) mulV := fun G H H0 x y v u z Q i dx dy e k => by
  unfold mulV at e
  split at e
  · split at e
    · rename_i hs
      cases e
      exact ⟨_, _, dx, dy, hs.imp small_ok small_ok, k _ G H (Gr.refl i) rfl⟩
    · cases e
  · cases e
theorem meets_fdiv {E : En} : Meets2 E (rI CDivN fun i j => .int (i.fdiv j)) fdivV := fun G H H0 x y v u z Q i dx dy e k => by
  unfold fdivV at e
  split at e
  · split at e
    · rename_i hs
      cases e
      exact ⟨_, _, dx, dy, hs, k _ G H (Gr.refl i) rfl⟩
    · cases e
  · cases e
theorem meets_mod {E : En} : Meets2 E (rI (fun _ j => j ≠ 0) fun i j => .int (i.fmod j)) modV := fun G H H0 x y v u z Q i dx dy e k => by
  unfold modV at e
  split at e
  · split at e
    · rename_i hs
      cases e
      exact ⟨_, _, dx, dy, hs, k _ G H (Gr.refl i) rfl⟩
    · cases e
  · cases e
theorem meets_pow {E : En} : Meets2 E (rI CPow fun i j => .int (i ^ j.toNat)) powV := fun G H H0 x y v u z Q i dx dy e k => by
  unfold powV at e
  split at e
  · split at e
    · rename_i hs
      cases e
      exact ⟨_, _, dx, dy, hs, k _ G H (Gr.refl i) rfl⟩
    · cases e
  · cases e
/-- list + list, whatever they are -/
def rCatS (K : PySem.W.Frag) : R2 := fun x y H Q => ∃ l b xs zs, x = .ref l ∧ y = .ref b ∧ SqL K H l xs ∧ SqL K H b zs ∧ xs.length + zs.length ≤ sizeLine ∧ ∀ p, H p = none → Q (.ref p) (upd H p (.lst (xs ++ zs)))
end DE

set_option Elab.async false
set_option linter.all false
set_option maxRecDepth 100000
set_option maxHeartbeats 4000000
/-! DE4: the rules by values. -/
namespace DE
open PySem PySem.Spec PyProof.Rows L2
section
variable {E : En} {G H H0 : Hp}
/-! #### lists, tuples -/
theorem lstV_sq {x : RV} {ds : List D} {v : V} (i : Ex G H) (h : DenR E G H H0 x v) (e : lstV x = some ds) : ∃ a vs, v = .ref a ∧ SqL E.K H a vs ∧ Dens E G ds vs := by
  unfold lstV at e
  split at e
  · cases e
    obtain ⟨a, vs, h1, h2, h3⟩ := h
    exact ⟨a, vs, h1, i.sql h2, h3⟩
  · cases e
    obtain ⟨l, h1, _, _, vs, h2, h3⟩ := h
    exact ⟨l, vs, h1, .inl (.inl h2), h3⟩
  · cases e
    obtain ⟨l, h1, _, vs, h2, h3⟩ := h
    exact ⟨l, vs, h1, .inl (.inl h2), h3⟩
  · cases e
theorem seqV_sq {x : RV} {ds : List D} {v : V} (i : Ex G H) (h : DenR E G H H0 x v) (e : seqV x = some ds) : ∃ a vs, v = .ref a ∧ (SqL E.K H a vs ∨ SqT E.K H a vs) ∧ Dens E G ds vs := by
  unfold seqV at e
  split at e
  · cases e
    obtain ⟨a, vs, h1, h2, h3⟩ := h
    exact ⟨a, vs, h1, .inl (i.sql h2), h3⟩
  · cases e
    obtain ⟨a, vs, h1, h2, h3⟩ := h
    exact ⟨a, vs, h1, .inr (.inl (.inl (i _ _ h2))), h3⟩
  · cases e
    obtain ⟨l, h1, _, _, vs, h2, h3⟩ := h
    exact ⟨l, vs, h1, .inl (.inl (.inl h2)), h3⟩
  · cases e
    obtain ⟨l, h1, _, vs, h2, h3⟩ := h
    exact ⟨l, vs, h1, .inl (.inl (.inl h2)), h3⟩
  · cases e
/-- a new list's data -/
theorem newL {p : Addr} {vs : List V} {ds : List D} (i : Ex G H) (n : H p = none) (h : Dens E G ds vs) : DenR E G (upd H p (.lst vs)) H (.fr (.l ds)) (.ref p) :=
  ⟨p, rfl, n, i.free n, vs, upd_same, h⟩
theorem newT {p : Addr} {vs : List V} {ds : List D} (i : Ex G H) (n : H p = none) (h : Dens E G ds vs) : DenR E (upd G p (.tup vs)) (upd H p (.tup vs)) H (.dat (.tup ds)) (.ref p) :=
  ⟨p, vs, rfl, upd_same, Dens.mono (Ex.new (i.free n)) _ _ h⟩
end

/-- list + list, whatever they are -/
theorem op_catS {X : Cx} : OpR X (binaryOp .Add) (rCatS X.K) := by
  intro pins s σ H x y v u Q I rx ry h
  obtain ⟨l, b, xs, zs, rfl, rfl, hH, hB, hz, q⟩ := h
  cases rx
  cases ry
  obtain ⟨its, r, p1, z1⟩ := I.list hH
  obtain ⟨its2, r2, p2, z2⟩ := I.list hB
  obtain ⟨⟨cls, dd, data, sl⟩, ho, hc, n, hd⟩ := id p1.isList
  obtain ⟨⟨cls2, dd2, data2, sl2⟩, ho2, hc2, n2, hd2⟩ := id p2.isList
  simp only at hc hd hc2 hd2
  subst hc hd hc2 hd2
  have ea : its.toArray ++ its2.toArray = (its ++ its2).toArray := by simp
  have hl1 := r.length
  have hl2 := r2.length
  refine concat_meets ⟨_, ho, rfl⟩ ⟨_, ho2, rfl⟩ noFill_list_add seq_list_add PySem.F.slot_list_add PySem.F.entry_list_add (PySem.F.args_list_add_2 _ _) (list_addW l b its.toArray its2.toArray n n2 dd dd2 sl sl2 (by rw [List.size_toArray, List.size_toArray]; omega)) ⟨ho, ho2, ?_⟩
  rw [ea]
  exact ⟨.ref _, _, I.lnew (t' := s.toks) (r.append r2) (by rw [List.length_append]; omega), rfl, q _ I.fresh⟩
def rAdd (K : PySem.W.Frag) : R2 := fun x y H Q => rI0 (fun i j => .int (i + j)) x y H Q ∨ (∃ i j, x = .str i ∧ y = .str j ∧ i.length + j.length ≤ sizeLine ∧ Q (.str (i ++ j)) H) ∨ rCatA K x y H Q ∨ rCatS K x y H Q
theorem op_addX {X : Cx} : OpR X (binaryOp .Add) (rAdd X.K) := or2 op_add (or2 op_add_str (or2 op_catA op_catS))
theorem meets_add {E : En} : Meets2 E (rAdd E.K) addV := fun G H H0 x y v u z Q i dx dy e k => by
  unfold addV at e
  split at e
  · cases e
    exact .inl ⟨_, _, dx, dy, k _ G H (Gr.refl i) rfl⟩
  · split at e
    · rename_i hs
      cases e
      exact .inr (.inl ⟨_, _, dx, dy, by rw [line_eq]; exact hs, k _ G H (Gr.refl i) rfl⟩)
    · cases e
  · split at e
    · rename_i hs
      cases e
      obtain ⟨a, vs, h1, h2, h3⟩ := dx
      obtain ⟨b, ws, k1, k2, k3⟩ := dy
      refine .inr (.inr (.inl ⟨a, b, vs, ws, h1, k1, .inl (.inl (i _ _ h2)), .inl (.inl (i _ _ k2)), ?_, fun e0 => ?_, fun _ e1 => ?_, fun _ _ p hp => ?_⟩))
      · rw [h3.length, k3.length, line_eq]; exact hs
      · subst e0
        refine k _ G H (Gr.refl i) ⟨b, ws, rfl, k2, ?_⟩
        exact h3.append k3
      · subst e1
        refine k _ G H (Gr.refl i) ⟨a, vs, rfl, h2, ?_⟩
        have q := h3.append k3
        rw [List.append_nil] at q
        exact q
      · exact k _ _ _ (Gr.frozen i hp) (newT i hp (h3.append k3))
    · cases e
  · split at e
    · split at e
      · rename_i a b ea eb hs
        cases e
        obtain ⟨p, vs, h1, h2, h3⟩ := lstV_sq i dx ea
        obtain ⟨q, ws, k1, k2, k3⟩ := lstV_sq i dy eb
        refine .inr (.inr (.inr ⟨p, q, vs, ws, h1, k1, h2, k2, by rw [h3.length, k3.length, line_eq]; exact hs, fun l hl => ?_⟩))
        exact k _ G _ (Gr.loose i hl) (newL i hl (h3.append k3))
      · cases e
    · cases e

/-! #### == -/
section
variable {E : En} {G : Hp}
mutual
theorem okD_lay : ∀ (d : D) (n : Nat), okD d n = true → (pyD d).canLay0 = true ∧ (pyD d).depth ≤ n
  | .non, _, _ => ⟨rfl, Nat.zero_le _⟩
  | .bl _, _, _ => ⟨rfl, Nat.zero_le _⟩
  | .int _, _, _ => ⟨rfl, Nat.zero_le _⟩
  | .str _, _, h => ⟨h, Nat.zero_le _⟩
  | .tup ds, n, h => by
    cases n with
    | zero => exact nomatch h
    | succ n =>
      obtain ⟨h1, h2⟩ := okDs_lay ds n h
      exact ⟨h1, by show PyData.depthAll (pyDs ds) + 1 ≤ n + 1; omega⟩
  | .lst ds, n, h => by
    cases n with
    | zero => exact nomatch h
    | succ n =>
      obtain ⟨h1, h2⟩ := okDs_lay ds n h
      exact ⟨h1, by show PyData.depthAll (pyDs ds) + 1 ≤ n + 1; omega⟩
  | .dicT _ _, _, h => nomatch h
  | .dicK _ _, _, h => nomatch h
  | .exc _ _ _, _, h => nomatch h
theorem okDs_lay : ∀ (ds : List D) (n : Nat), okDs ds n = true → PyData.canLayAll0 (pyDs ds) = true ∧ PyData.depthAll (pyDs ds) ≤ n
  | [], _, _ => ⟨rfl, Nat.zero_le _⟩
  | d :: ds, n, h => by
    have h' : (okD d n && okDs ds n) = true := h
    rw [Bool.and_eq_true] at h'
    obtain ⟨a1, a2⟩ := okD_lay d n h'.1
    obtain ⟨b1, b2⟩ := okDs_lay ds n h'.2
    refine ⟨?_, ?_⟩
    · show ((pyD d).canLay0 && PyData.canLayAll0 (pyDs ds)) = true
      rw [a1, b1] <;> rfl
    · show max (pyD d).depth (PyData.depthAll (pyDs ds)) ≤ n
      omega
end
theorem okD_shaped {d : D} (h : okD d 60 = true) : SeqAt.shaped (pyD d) = true := by
  obtain ⟨h1, h2⟩ := okD_lay d 60 h
  show ((pyD d).canLay0 && decide ((pyD d).depth ≤ 64)) = true
  rw [h1, decide_eq_true (by omega)] <;> rfl
mutual
theorem Den.dp : ∀ (d : D) (n : Nat) (v : V), okD d n = true → Den E G d v → Dp E.K G v (pyD d)
  | .non, _, v, _, h => by cases (show v = _ from h); exact .non
  | .bl b, _, v, _, h => by cases (show v = _ from h); exact .bl b
  | .int i, _, v, _, h => by cases (show v = _ from h); exact .int i
  | .str s, _, v, _, h => by cases (show v = _ from h); exact .str s
  | .tup ds, n, v, h0, h => by
    obtain ⟨a, vs, h1, h2, h3⟩ := h
    subst h1
    cases n with
    | zero => exact nomatch h0
    | succ n => exact .tup (.inl (.inl h2)) (Dens.dp ds n vs h0 h3)
  | .lst ds, n, v, h0, h => by
    obtain ⟨a, vs, h1, h2, h3⟩ := h
    subst h1
    cases n with
    | zero => exact nomatch h0
    | succ n => exact .lst h2 (Dens.dp ds n vs h0 h3)
  | .dicT _ _, _, _, h, _ => nomatch h
  | .dicK _ _, _, _, h, _ => nomatch h
  | .exc _ _ _, _, _, h, _ => nomatch h
theorem Dens.dp : ∀ (ds : List D) (n : Nat) (vs : List V), okDs ds n = true → Dens E G ds vs → DpAll E.K G vs (pyDs ds)
  | [], _, vs, _, h => by
    have e : vs = [] := h
    subst e
    exact .nil
  | d :: ds, n, vs, h0, h => by
    obtain ⟨v, r, h1, h2, h3⟩ := h
    subst h1
    have h' : (okD d n && okDs ds n) = true := h0
    rw [Bool.and_eq_true] at h'
    exact .cons (Den.dp d n v h'.1 h2) (Dens.dp ds n r h'.2 h3)
end
/-- as the library's data, in the whole heap -/
theorem DenR.dp {H H0 : Hp} {x : RV} {v : V} (i : Ex G H) (h : DenR E G H H0 x v) (ok : okD x.d 60 = true) : Dp E.K H v (pyD x.d) := by
  obtain ⟨G2, e1, e2, h2⟩ := h.lent i
  exact Den.dp _ 60 _ ok (Den.mono e2 _ _ h2)
/-- a value that is an int, a text -/
theorem d_int {H H0 : Hp} {x : RV} {v : V} {n : Int} (h : DenR E G H H0 x v) (e : x.d = .int n) : v = .int n := by
  cases x with
  | dat d => cases (show d = _ from e); exact h
  | fr o => cases o <;> cases (show _ = D.int n from e)
  | br o => cases o <;> cases (show _ = D.int n from e)
theorem d_str {H H0 : Hp} {x : RV} {v : V} {n : Str} (h : DenR E G H H0 x v) (e : x.d = .str n) : v = .str n := by
  cases x with
  | dat d => cases (show d = _ from e); exact h
  | fr o => cases o <;> cases (show _ = D.str n from e)
  | br o => cases o <;> cases (show _ = D.str n from e)
end
def rEqX (K : PySem.W.Frag) : R2 := fun x y H Q => rEq x y H Q ∨ rEqD K x y H Q
def rNeX (K : PySem.W.Frag) : R2 := fun x y H Q => rNe x y H Q ∨ rNeD K x y H Q
theorem op_eqX {X : Cx} (hu : X.A.units + 64 < cLine) : OpR X (compareOp .Eq) (rEqX X.K) := or2 op_eq (op_eqD hu)
theorem op_neX {X : Cx} (hu : X.A.units + 64 < cLine) : OpR X (compareOp .NotEq) (rNeX X.K) := or2 op_ne (op_neD hu)
theorem eqV_cases {x y : D} {b : Bool} (e : eqV x y = some b) : (∃ i j, x = .int i ∧ y = .int j ∧ b = decide (i = j)) ∨ (∃ i j, x = .str i ∧ y = .str j ∧ b = decide (i = j)) ∨ (okD x 60 = true ∧ okD y 60 = true ∧ b = PyData.eqv (pyD x) (pyD y)) := by
  unfold eqV at e
  split at e
  · cases e; exact .inl ⟨_, _, rfl, rfl, rfl⟩
  · cases e; exact .inr (.inl ⟨_, _, rfl, rfl, rfl⟩)
  · split at e
    · rename_i h
      cases e
      exact .inr (.inr ⟨h.1, h.2, rfl⟩)
    · cases e
theorem dec_intX {i j : Int} : decide (V.int i = V.int j) = decide (i = j) := by
  rw [dec_int, Bool.beq_eq_decide_eq]
theorem dec_strX {i j : Str} : decide (V.str i = V.str j) = decide (i = j) := by
  rw [dec_str, Bool.beq_eq_decide_eq]
theorem meets_eq {E : En} : Meets2B E (rEqX E.K) fun x y => eqV x.d y.d := fun G H H0 x y v u z Q i dx dy e k => by
  rcases eqV_cases e with ⟨a, b, e1, e2, e3⟩ | ⟨a, b, e1, e2, e3⟩ | ⟨e1, e2, e3⟩
  · cases d_int dx e1
    cases d_int dy e2
    refine .inl ⟨rfl, ?_⟩
    rw [dec_intX, ← e3]
    exact k
  · cases d_str dx e1
    cases d_str dy e2
    refine .inl ⟨rfl, ?_⟩
    rw [dec_strX, ← e3]
    exact k
  · exact .inr ⟨_, _, dx.dp i e1, dy.dp i e2, okD_shaped e1, okD_shaped e2, by rw [← e3]; exact k⟩
theorem notV_some {o : Option Bool} {b : Bool} (e : notV o = some b) : ∃ c, o = some c ∧ b = !c := by
  cases o with
  | none => cases e
  | some c => cases e; exact ⟨c, rfl, rfl⟩
theorem meets_ne {E : En} : Meets2B E (rNeX E.K) fun x y => notV (eqV x.d y.d) := fun G H H0 x y v u z Q i dx dy e k => by
  obtain ⟨c, e', ez⟩ := notV_some e
  clear e
  subst ez
  rcases eqV_cases e' with ⟨a, b, e1, e2, e3⟩ | ⟨a, b, e1, e2, e3⟩ | ⟨e1, e2, e3⟩
  · cases d_int dx e1
    cases d_int dy e2
    refine .inl ⟨rfl, ?_⟩
    rw [dec_intX, ← e3]
    exact k
  · cases d_str dx e1
    cases d_str dy e2
    refine .inl ⟨rfl, ?_⟩
    rw [dec_strX, ← e3]
    exact k
  · exact .inr ⟨_, _, dx.dp i e1, dy.dp i e2, okD_shaped e1, okD_shaped e2, by rw [← e3]; exact k⟩

/-! #### < -/
def rLtX (K : PySem.W.Frag) : R2 := fun x y H Q => rI0 (fun i j => .bl (decide (i < j))) x y H Q ∨
  ∃ d e, Dp K H x d ∧ Dp K H y e ∧ SeqAt.shaped d = true ∧ PySem.W.alike d e = true ∧ d ≠ .none ∧ Q (.bl (PySem.W.dataLt d e)) H
theorem op_ltX {X : Cx} (hu : X.A.units + 64 < cLine) : OpR X (compareOp .Lt) (rLtX X.K) := or2 op_lt fun pins s σ H x y v u Q I rx ry h => by
  obtain ⟨d, e, hd, he, sd, al, hn, q⟩ := h
  obtain ⟨as, r1⟩ := Dp.reads I d x v hd rx
  obtain ⟨bs, r2⟩ := Dp.reads I e y u he ry
  have hm : X.A.units + min d.depth e.depth < cLine := by
    have := SeqAt.depth_of_shaped sd
    omega
  exact PySem.W.rcLt_alike d e X.A s v u as bs r1 r2 al hn hm X.prog X.w X.xe _ ⟨.bl _, H, I, rfl, q⟩
theorem meets_lt {E : En} : Meets2B E (rLtX E.K) fun x y => ltD x.d y.d := fun G H H0 x y v u z Q i dx dy e k => by
  have e : ltD x.d y.d = some z := e
  unfold ltD at e
  split at e
  · rename_i a b e1 e2
    cases e
    exact .inl ⟨_, _, d_int dx e1, d_int dy e2, k⟩
  · cases e
  · split at e
    · rename_i hn _ h
      cases e
      refine .inr ⟨_, _, dx.dp i h.1, dy.dp i h.2.1, okD_shaped h.1, h.2.2, fun z => ?_, k⟩
      have hal := h.2.2
      rw [z] at hal
      have ok := h.1
      cases hx : x.d with
      | non => exact hn hx
      | bl _ => rw [hx] at z; cases z
      | int _ => rw [hx] at z; cases z
      | str _ => rw [hx] at z; cases z
      | tup _ => rw [hx] at z; cases z
      | lst _ => rw [hx] at z; cases z
      | dicT _ _ => rw [hx] at ok; cases ok
      | dicK _ _ => rw [hx] at ok; cases ok
      | exc _ _ _ => rw [hx] at ok; cases ok
    · cases e
theorem meets_le {E : En} : Meets2B E (rI0 fun i j => .bl (decide (i ≤ j))) leV := fun G H H0 x y v u z Q i dx dy e k => by
  unfold leV at e
  split at e
  · cases e; exact ⟨_, _, dx, dy, k⟩
  · cases e
theorem meets_gt {E : En} : Meets2B E (rI0 fun i j => .bl (decide (j < i))) gtV := fun G H H0 x y v u z Q i dx dy e k => by
  unfold gtV at e
  split at e
  · cases e; exact ⟨_, _, dx, dy, k⟩
  · cases e
theorem meets_ge {E : En} : Meets2B E (rI0 fun i j => .bl (decide (j ≤ i))) geV := fun G H H0 x y v u z Q i dx dy e k => by
  unfold geV at e
  split at e
  · cases e; exact ⟨_, _, dx, dy, k⟩
  · cases e

/-! #### is -/
theorem den_non {E : En} {G H H0 : Hp} {x : RV} {v : V} (h : DenR E G H H0 x v) : decide (v = .non) = isNonV x := by
  cases x with
  | dat d =>
    cases d with
    | non => cases (show v = _ from h); rfl
    | bl b => cases (show v = _ from h); rfl
    | int i => cases (show v = _ from h); rfl
    | str s => cases (show v = _ from h); rfl
    | tup ds => obtain ⟨a, vs, h1, _⟩ := h; subst h1; rfl
    | lst ds => obtain ⟨a, vs, h1, _⟩ := h; subst h1; rfl
    | dicT ks ds => obtain ⟨a, vs, h1, _⟩ := h; subst h1; rfl
    | dicK ks ds => obtain ⟨a, vs, h1, _⟩ := h; subst h1; rfl
    | exc c ns ds => obtain ⟨a, C, dd, vs, h1, _⟩ := h; subst h1; rfl
  | fr o => obtain ⟨l, h1, _⟩ := h; subst h1; rfl
  | br o => obtain ⟨l, h1, _⟩ := h; subst h1; rfl
def rIsX : R2 := fun x y H Q => (y = .non ∧ Q (.bl (decide (x = .non))) H) ∨ rIsB x y H Q
def rNotX : R2 := fun x y H Q => (y = .non ∧ Q (.bl (!decide (x = .non))) H) ∨ rNotB x y H Q
theorem op_isX {X : Cx} : OpR X (compareOp .Is) rIsX := or2 op_isN op_isBl
theorem op_isntX {X : Cx} : OpR X (compareOp .IsNot) rNotX := or2 op_notN op_isnot_bl
theorem meets_is {E : En} : Meets2B E rIsX isV := fun G H H0 x y v u z Q i dx dy e k => by
  unfold isV at e
  split at e
  · cases e
    refine .inl ⟨dy, ?_⟩
    rw [den_non dx]
    exact k
  · split at e
    · cases e
      exact .inr ⟨_, _, dx, dy, k⟩
    · cases e
  · cases e
theorem meets_isnt {E : En} : Meets2B E rNotX fun x y => notV (isV x y) := fun G H H0 x y v u z Q i dx dy e k => by
  obtain ⟨c, e', ez⟩ := notV_some e
  clear e
  subst ez
  have e := e'
  clear e'
  unfold isV at e
  split at e
  · cases e
    refine .inl ⟨dy, ?_⟩
    rw [den_non dx]
    exact k
  · split at e
    · cases e
      exact .inr ⟨_, _, dx, dy, k⟩
    · cases e
  · cases e

/-! #### x[i], x[a:b] -/
theorem atI_dens {E : En} {G : Hp} {ds : List D} {vs : List V} {i : Int} {d : D} (h : Dens E G ds vs) (e : atI ds i = some d) : ∃ v, atI vs i = some v ∧ Den E G d v := by
  unfold atI at e ⊢
  rw [h.length]
  cases q : ixN ds.length i with
  | none => rw [q] at e; cases e
  | some j =>
    rw [q] at e
    exact h.get e
theorem meets_ix {E : En} : Meets2 E (rIx E.K) ixV := fun G H H0 x y v u z Q i dx dy e k => by
  unfold ixV at e
  split at e
  · split at e
    · rename_i ds es
      split at e
      · rename_i d ed
        cases e
        obtain ⟨a, vs, h1, h2, h3⟩ := seqV_sq i dx es
        obtain ⟨w, e1, e2⟩ := atI_dens h3 ed
        have q := k w G H (Gr.refl i) e2
        rcases h2 with h2 | h2
        · exact .inl ⟨a, vs, _, w, h1, dy, h2, e1, q⟩
        · exact .inr (.inl ⟨a, vs, _, w, h1, dy, h2, e1, q⟩)
      · cases e
    · split at e
      · split at e
        · rename_i hz
          split at e
          · rename_i c ec
            cases e
            exact .inr (.inr ⟨_, _, c, dx, dy, by rw [line_eq]; exact hz, ec, k _ G H (Gr.refl i) rfl⟩)
          · cases e
        · cases e
      · cases e
  · cases e
theorem Dens.cut {E : En} {G : Hp} {ds : List D} {vs : List V} (lo hi : Option Int) (h : Dens E G ds vs) : Dens E G (cutD ds lo hi) (cutV vs lo hi) := by
  unfold cutD cutV
  rw [h.length]
  exact (h.drop _).take _
def rSlX (K : PySem.W.Frag) : V → Option Int → Option Int → Hp → VK → Prop := fun x lo hi H Q => rSlL K x lo hi H Q ∨ rSlA K x lo hi H Q ∨ rSlS x lo hi H Q
theorem sl_X {X : Cx} : SlR X (rSlX X.K) := sl_list.or (sl_tupA.or sl_str)
theorem meets_sl {E : En} {G H H0 : Hp} {x : RV} {v : V} {lo hi : Option Int} {z : RV} {Q : VK} (i : Ex G H) (dx : DenR E G H H0 x v) (e : slV x lo hi = some z) (k : ∀ w G' H', Gr G H G' H' → DenR E G' H' H z w → Q w H') : rSlX E.K v lo hi H Q := by
  unfold slV at e
  split at e
  · cases e
    obtain ⟨a, vs, h1, h2, h3⟩ := dx
    refine .inr (.inl ⟨a, vs, h1, .inl (.inl (i _ _ h2)), fun hw => ?_, fun _ p hp => ?_⟩)
    · refine k _ G H (Gr.refl i) ⟨a, vs, rfl, h2, ?_⟩
      have q := h3.cut lo hi
      have e : cutV vs lo hi = vs := by
        unfold cutV
        rw [hw.1, hw.2, List.drop_zero, Nat.sub_zero, List.take_length]
      rw [e] at q
      exact q
    · exact k _ _ _ (Gr.frozen i hp) (newT i hp (h3.cut lo hi))
  · split at e
    · rename_i hs
      cases e
      exact .inr (.inr ⟨_, dx, by rw [line_eq]; exact hs, k _ G H (Gr.refl i) rfl⟩)
    · cases e
  · split at e
    · rename_i ds es
      cases e
      obtain ⟨a, vs, h1, h2, h3⟩ := lstV_sq i dx es
      exact .inl ⟨a, vs, h1, h2, fun p hp => k _ G _ (Gr.loose i hp) (newL i hp (h3.cut lo hi))⟩
    · cases e
end DE

set_option Elab.async false
set_option linter.all false
set_option maxRecDepth 100000
set_option maxHeartbeats 4000000
/-! DE5: dicts, built-in functions, isinstance, an error's fields, sorting. -/
namespace DE
open PySem PySem.Spec PyProof.Rows L2

/-! #### dicts -/
section
variable {E : En} {G : Hp} {κ : Type} [DecidableEq κ]
theorem dget_val : ∀ {kvs : List (κ × V)} {ds : List D} (k : κ), Dens E G ds (kvs.map (·.2)) →
    (∃ d v, dget (kvs.map (·.1)) ds k = some d ∧ valV kvs k = some v ∧ Den E G d v) ∨ (dget (kvs.map (·.1)) ds k = none ∧ valV kvs k = none)
  | [], ds, k, h => by
    refine .inr ⟨?_, valV_nil⟩
    cases ds <;> rfl
  | p :: r, [], k, h => by
    have e : (p :: r).map (·.2) = [] := h
    cases e
  | p :: r, d :: ds, k, h => by
    obtain ⟨v, ws, h1, h2, h3⟩ := h
    have e1 : p.2 = v := (List.cons.inj h1).1
    have e2 : r.map (·.2) = ws := (List.cons.inj h1).2
    subst e1
    subst e2
    by_cases hk : p.1 = k
    · refine .inl ⟨d, p.2, ?_, valV_pos hk, h2⟩
      show (if p.1 = k then some d else dget (r.map (·.1)) ds k) = some d
      rw [if_pos hk]
    · rw [valV_neg hk]
      have e3 : dget ((p :: r).map (·.1)) (d :: ds) k = dget (r.map (·.1)) ds k := by
        show (if p.1 = k then some d else dget (r.map (·.1)) ds k) = _
        rw [if_neg hk]
      rw [e3]
      exact dget_val k h3
theorem hasK_any (k : κ) : ∀ kvs : List (κ × V), hasK (kvs.map (·.1)) k = (kvs.any fun kv => decide (kv.1 = k))
  | [] => rfl
  | p :: r => by
    show (decide (p.1 = k) || hasK (r.map (·.1)) k) = (decide (p.1 = k) || r.any fun kv => decide (kv.1 = k))
    rw [hasK_any k r]
theorem dputV_dens : ∀ {kvs : List (κ × V)} {ds : List D} {d : D} {v : V} (k : κ), Dens E G ds (kvs.map (·.2)) → Den E G d v →
    Dens E G (dputV (kvs.map (·.1)) ds k d) ((kvs.map fun kv => if kv.1 = k then (kv.1, v) else kv).map (·.2)) ∧ (kvs.map fun kv => if kv.1 = k then (kv.1, v) else kv).map (·.1) = kvs.map (·.1)
  | [], ds, d, v, k, h, hd => ⟨by cases ds <;> exact rfl, rfl⟩
  | p :: r, [], d, v, k, h, hd => by
    have e : (p :: r).map (·.2) = [] := h
    cases e
  | p :: r, d0 :: ds, d, v, k, h, hd => by
    obtain ⟨w, ws, h1, h2, h3⟩ := h
    have e1 : p.2 = w := (List.cons.inj h1).1
    have e2 : r.map (·.2) = ws := (List.cons.inj h1).2
    subst e1
    subst e2
    obtain ⟨i1, i2⟩ := dputV_dens k h3 hd
    by_cases hk : p.1 = k
    · refine ⟨⟨v, _, ?_, ?_, i1⟩, ?_⟩
      · show (if p.1 = k then (p.1, v) else p).2 :: _ = _
        rw [if_pos hk] <;> rfl
      · show Den E G (if p.1 = k then d else d0) v
        rw [if_pos hk]
        exact hd
      · show (if p.1 = k then (p.1, v) else p).1 :: _ = p.1 :: _
        rw [if_pos hk, i2]
    · refine ⟨⟨p.2, _, ?_, ?_, i1⟩, ?_⟩
      · show (if p.1 = k then (p.1, v) else p).2 :: _ = _
        rw [if_neg hk] <;> rfl
      · show Den E G (if p.1 = k then d else d0) p.2
        rw [if_neg hk]
        exact h2
      · show (if p.1 = k then (p.1, v) else p).1 :: _ = p.1 :: _
        rw [if_neg hk, i2]
theorem dput_dens {kvs : List (κ × V)} {ds : List D} {d : D} {v : V} (k : κ) (h : Dens E G ds (kvs.map (·.2))) (hd : Den E G d v) :
    (if hasK (kvs.map (·.1)) k = true then (putK kvs k v).map (·.1) = kvs.map (·.1) ∧ Dens E G (dputV (kvs.map (·.1)) ds k d) ((putK kvs k v).map (·.2))
      else (putK kvs k v).map (·.1) = kvs.map (·.1) ++ [k] ∧ Dens E G (ds ++ [d]) ((putK kvs k v).map (·.2))) := by
  unfold putK
  rw [hasK_any]
  by_cases hk : (kvs.any fun kv => decide (kv.1 = k)) = true
  · rw [if_pos hk, if_pos hk]
    obtain ⟨i1, i2⟩ := dputV_dens k h hd
    exact ⟨i2, i1⟩
  · rw [if_neg hk, if_neg hk]
    refine ⟨by rw [List.map_append] <;> rfl, ?_⟩
    rw [List.map_append]
    exact h.append (Dens.one hd)
end
section
variable {E : En} {G H H0 : Hp}
theorem keyOf_den {d : D} {k : Key} {v : V} (e : keyOf d = some k) (h : Den E G d v) : v = kV k := by
  unfold keyOf at e
  split at e
  · cases e; exact h
  · cases e; exact h
  · cases e
theorem keysOf_dens : ∀ {ds : List D} {ks : List Key} {vs : List V}, keysOf ds = some ks → Dens E G ds vs → vs = ks.map kV
  | [], ks, vs, e, h => by
    cases e
    exact h
  | d :: ds, ks, vs, e, h => by
    obtain ⟨v, r, h1, h2, h3⟩ := h
    subst h1
    unfold keysOf at e
    split at e
    · rename_i k ks' ek eks
      cases e
      rw [keyOf_den ek h2, keysOf_dens eks h3] <;> rfl
    · cases e
theorem tkeyOf_den {d : D} {k : List Key} {v : V} (e : tkeyOf d = some k) (h : Den E G d v) : ∃ b, v = .ref b ∧ G b = some (.tup (k.map kV)) := by
  unfold tkeyOf at e
  split at e
  · obtain ⟨a, vs, h1, h2, h3⟩ := h
    exact ⟨a, h1, by rw [← keysOf_dens e h3]; exact h2⟩
  · cases e
theorem keysT_sq {x : RV} {ks : List (List Key)} {v : V} (i : Ex G H) (h : DenR E G H H0 x v) (e : keysT x = some ks) : ∃ a kvs, v = .ref a ∧ H a = some (.dT kvs) ∧ kvs.map (·.1) = ks ∧ Dens E G (valsT x) (kvs.map (·.2)) := by
  unfold keysT at e
  split at e
  · cases e
    obtain ⟨a, kvs, h1, h2, h3, h4⟩ := h
    exact ⟨a, kvs, h1, i _ _ h2, h3, h4⟩
  · cases e
    obtain ⟨l, h1, _, _, kvs, h2, h3, h4⟩ := h
    exact ⟨l, kvs, h1, h2, h3, h4⟩
  · cases e
    obtain ⟨l, h1, _, kvs, h2, h3, h4⟩ := h
    exact ⟨l, kvs, h1, h2, h3, h4⟩
  · cases e
theorem keysK_sq {x : RV} {ks : List Key} {v : V} (i : Ex G H) (h : DenR E G H H0 x v) (e : keysK x = some ks) : ∃ a kvs, v = .ref a ∧ H a = some (.dK kvs) ∧ kvs.map (·.1) = ks ∧ Dens E G (valsK x) (kvs.map (·.2)) := by
  unfold keysK at e
  split at e
  · cases e
    obtain ⟨a, kvs, h1, h2, h3, h4⟩ := h
    exact ⟨a, kvs, h1, i _ _ h2, h3, h4⟩
  · cases e
    obtain ⟨l, h1, _, _, kvs, h2, h3, h4⟩ := h
    exact ⟨l, kvs, h1, h2, h3, h4⟩
  · cases e
    obtain ⟨l, h1, _, kvs, h2, h3, h4⟩ := h
    exact ⟨l, kvs, h1, h2, h3, h4⟩
  · cases e
theorem dict_sq {x : RV} {k : D} {o : Option D} {v u : V} (i : Ex G H) (h : DenR E G H H0 x v) (hk : Den E G k u) (e : dictV x k = some o) : ∃ a ov, v = .ref a ∧ IsD H a ∧ DGet H a u ov ∧
    ((o = none ∧ ov = none) ∨ ∃ d w, o = some d ∧ ov = some w ∧ Den E G d w) := by
  unfold dictV at e
  split at e
  · rename_i ks q e1 e2
    cases e
    obtain ⟨a, kvs, h1, h2, h3, h4⟩ := keysT_sq i h e1
    obtain ⟨b, hb1, hb2⟩ := tkeyOf_den e2 hk
    subst hb1
    refine ⟨a, valV kvs q, h1, .inr ⟨kvs, .inl h2⟩, DGet.t h2 (i _ _ hb2), ?_⟩
    subst h3
    rcases dget_val q h4 with ⟨d, w, k1, k2, k3⟩ | ⟨k1, k2⟩
    · exact .inr ⟨d, w, k1, k2, k3⟩
    · exact .inl ⟨k1, k2⟩
  · split at e
    · rename_i ks q e1 e2
      cases e
      obtain ⟨a, kvs, h1, h2, h3, h4⟩ := keysK_sq i h e1
      have hu := keyOf_den e2 hk
      subst hu
      refine ⟨a, valV kvs q, h1, .inl ⟨kvs, .inl h2⟩, DGet.k h2, ?_⟩
      subst h3
      rcases dget_val q h4 with ⟨d, w, k1, k2, k3⟩ | ⟨k1, k2⟩
      · exact .inr ⟨d, w, k1, k2, k3⟩
      · exact .inl ⟨k1, k2⟩
    · cases e
end

/-! #### len and the like -/
def CallR.or2 {X : Cx} {f : Value} {r r' : List V → Hp → VK → Prop} (h : CallR X f r) (h' : CallR X f r') : CallR X f (fun xs H Q => r xs H Q ∨ r' xs H Q) := fun pins s σ H xs us Q I rx q => by
  rcases q with q | q
  · exact h pins s σ H xs us Q I rx q
  · exact h' pins s σ H xs us Q I rx q
/-- r meets g: from the arguments' data -/
def MeetsC (E : En) (r : List V → Hp → VK → Prop) (g : List RV → Option RV) : Prop := ∀ (G H H0 : Hp) (xs : List RV) (vs : List V) (z : RV) (Q : VK), Ex G H → DenRs E G H H0 xs vs → g xs = some z →
  (∀ w G' H', Gr G H G' H' → DenR E G' H' H z w → Q w H') → r vs H Q
theorem dens1 {E : En} {G H H0 : Hp} {x : RV} {vs : List V} (h : DenRs E G H H0 [x] vs) : ∃ v, vs = [v] ∧ DenR E G H H0 x v := by
  obtain ⟨v, ws, h1, h2, h3, _⟩ := h
  have e : ws = [] := h3
  subst e
  exact ⟨v, h1, h2⟩
theorem call_len_dK {X : Cx} : CallR X (.builtin "len") (fun xs H Q => ∃ a kvs, xs = [.ref a] ∧ H a = some (.dK kvs) ∧ Q (.int kvs.length) H) := by
  intro pins s σ H xs us Q I r h
  obtain ⟨a, kvs, rfl, e, q⟩ := h
  exact call_lenD pins s σ H _ us Q I r ⟨a, kvs, rfl, e, q⟩
def rLenX (K : PySem.W.Frag) : List V → Hp → VK → Prop := fun xs H Q =>
  (∃ p ys, xs = [.ref p] ∧ (SqL K H p ys ∨ SqT K H p ys) ∧ Q (.int ys.length) H) ∨ (∃ z, xs = [.str z] ∧ z.length ≤ sizeLine ∧ Q (.int z.length) H) ∨ (∃ a kvs, xs = [.ref a] ∧ H a = some (.dK kvs) ∧ Q (.int kvs.length) H) ∨ rLenT xs H Q
theorem call_lenX {X : Cx} : CallR X (.builtin "len") (rLenX X.K) := CallR.or2 call_len_seq (CallR.or2 call_len_str (CallR.or2 call_len_dK call_len_dT))
theorem meets_len {E : En} : MeetsC E (rLenX E.K) (biV .len) := fun G H H0 xs vs z Q i dx e k => by
  unfold biV at e
  split at e <;> try contradiction
  rename_i x _
  obtain ⟨v, ev, dv⟩ := dens1 dx
  subst ev
  split at e
  · rename_i ds es
    cases e
    obtain ⟨a, ws, h1, h2, h3⟩ := seqV_sq i dv es
    subst h1
    have q := k (.int ds.length) G H (Gr.refl i) rfl
    rw [← h3.length] at q
    exact .inl ⟨a, ws, rfl, h2, q⟩
  · split at e
    · split at e
      · rename_i hz
        cases e
        cases (show v = _ from dv)
        exact .inr (.inl ⟨_, rfl, by rw [line_eq]; exact hz, k _ G H (Gr.refl i) rfl⟩)
      · cases e
    · split at e
      · rename_i ks ek
        cases e
        obtain ⟨a, kvs, h1, h2, h3, h4⟩ := keysK_sq i dv ek
        subst h1
        have q := k (.int ks.length) G H (Gr.refl i) rfl
        rw [← h3, List.length_map] at q
        exact .inr (.inr (.inl ⟨a, kvs, rfl, h2, q⟩))
      · split at e
        · rename_i ks ek
          cases e
          obtain ⟨a, kvs, h1, h2, h3, h4⟩ := keysT_sq i dv ek
          subst h1
          have q := k (.int ks.length) G H (Gr.refl i) rfl
          rw [← h3, List.length_map] at q
          exact .inr (.inr (.inr ⟨a, kvs, rfl, h2, q⟩))
        · cases e
theorem meets_abs {E : En} : MeetsC E (fun xs H Q => ∃ i, xs = [.int i] ∧ Q (.int (if i < 0 then -i else i)) H) (biV .abs) := fun G H H0 xs vs z Q i dx e k => by
  unfold biV at e
  split at e <;> try contradiction
  cases e
  obtain ⟨v, ev, dv⟩ := dens1 dx
  subst ev
  cases (show v = _ from dv)
  exact ⟨_, rfl, k _ G H (Gr.refl i) rfl⟩
def rIntX : List V → Hp → VK → Prop := fun xs H Q => ((∃ i, xs = [.int i] ∧ Q (.int i) H) ∨ ∃ k, xs = [.bl k] ∧ Q (.int (if k then 1 else 0)) H) ∨ ∃ a n, xs = [.str a] ∧ PySem.intText? a = some n ∧ a.length ≤ 640 ∧ Q (.int n) H
theorem call_intX {X : Cx} : CallR X (.type "int") rIntX := CallR.or2 call_int1 call_int_str
theorem meets_int {E : En} : MeetsC E rIntX (biV .int) := fun G H H0 xs vs z Q i dx e k => by
  unfold biV at e
  split at e <;> try contradiction
  · cases e
    obtain ⟨v, ev, dv⟩ := dens1 dx
    subst ev
    cases (show v = _ from dv)
    exact .inl (.inl ⟨_, rfl, k _ G H (Gr.refl i) rfl⟩)
  · cases e
    obtain ⟨v, ev, dv⟩ := dens1 dx
    subst ev
    cases (show v = _ from dv)
    exact .inl (.inr ⟨_, rfl, k _ G H (Gr.refl i) rfl⟩)
  · obtain ⟨v, ev, dv⟩ := dens1 dx
    subst ev
    split at e
    · rename_i hl
      split at e
      · rename_i n hn
        cases e
        cases (show v = _ from dv)
        exact .inr ⟨_, n, rfl, hn, hl, k _ G H (Gr.refl i) rfl⟩
      · cases e
    · cases e
theorem meets_str {E : En} : MeetsC E (fun xs H Q => ∃ i, xs = [.int i] ∧ i.natAbs.log2 < 1920 ∧ Q (.str (toString i)) H) (biV .str) := fun G H H0 xs vs z Q i dx e k => by
  unfold biV at e
  split at e <;> try contradiction
  split at e
  · rename_i hl
    cases e
    obtain ⟨v, ev, dv⟩ := dens1 dx
    subst ev
    cases (show v = _ from dv)
    exact ⟨_, rfl, hl, k _ G H (Gr.refl i) rfl⟩
  · cases e
theorem meets_tup {E : En} : MeetsC E (fun xs H Q => ∃ p ys, xs = [.ref p] ∧ ((SqL E.K H p ys ∧ ∀ l, H l = none → Q (.ref l) (upd H l (.tup ys))) ∨ (SqT E.K H p ys ∧ Q (.ref p) H))) (biV .tup) := fun G H H0 xs vs z Q i dx e k => by
  unfold biV at e
  split at e <;> try contradiction
  · cases e
    obtain ⟨v, ev, dv⟩ := dens1 dx
    subst ev
    obtain ⟨a, ws, h1, h2, h3⟩ := dv
    subst h1
    exact ⟨a, ws, rfl, .inr ⟨.inl (.inl (i _ _ h2)), k _ G H (Gr.refl i) ⟨a, ws, rfl, h2, h3⟩⟩⟩
  · rename_i x _
    obtain ⟨v, ev, dv⟩ := dens1 dx
    subst ev
    split at e
    · rename_i ds es
      cases e
      obtain ⟨a, ws, h1, h2, h3⟩ := lstV_sq i dv es
      subst h1
      exact ⟨a, ws, rfl, .inl ⟨h2, fun l hl => k _ _ _ (Gr.frozen i hl) (newT i hl h3)⟩⟩
    · cases e
theorem meets_lst {E : En} : MeetsC E (fun xs H Q => ∃ p ys, xs = [.ref p] ∧ (SqL E.K H p ys ∨ SqT E.K H p ys) ∧ ∀ l, H l = none → Q (.ref l) (upd H l (.lst ys))) (biV .lst) := fun G H H0 xs vs z Q i dx e k => by
  unfold biV at e
  split at e <;> try contradiction
  rename_i x _
  obtain ⟨v, ev, dv⟩ := dens1 dx
  subst ev
  split at e
  · rename_i ds es
    cases e
    obtain ⟨a, ws, h1, h2, h3⟩ := seqV_sq i dv es
    subst h1
    exact ⟨a, ws, rfl, h2, fun l hl => k _ _ _ (Gr.loose i hl) (newL i hl h3)⟩
  · cases e

/-! #### numbers of a list -/
theorem intsD_den : ∀ {ds : List D} {ns : List Int} {vs : List V}, intsD ds = some ns → Dens E G ds vs → vs = ns.map V.int
  | [], ns, vs, e, h => by
    cases e
    exact h
  | d :: ds, ns, vs, e, h => by
    obtain ⟨v, r, h1, h2, h3⟩ := h
    subst h1
    unfold intsD at e
    split at e
    · cases ‹d :: ds = []›
    · rename_i j r' he
      cases he
      split at e
      · rename_i ms em
        cases e
        rw [intsD_den em h3]
        cases (show v = _ from h2)
        rfl
      · cases e
    · cases e
theorem strsD_den : ∀ {ds : List D} {ns : List Str} {vs : List V}, strsD ds = some ns → Dens E G ds vs → vs = ns.map V.str
  | [], ns, vs, e, h => by
    cases e
    exact h
  | d :: ds, ns, vs, e, h => by
    obtain ⟨v, r, h1, h2, h3⟩ := h
    subst h1
    unfold strsD at e
    split at e
    · cases ‹d :: ds = []›
    · rename_i j r' he
      cases he
      split at e
      · rename_i ms em
        cases e
        rw [strsD_den em h3]
        cases (show v = _ from h2)
        rfl
      · cases e
    · cases e
theorem blsD_den : ∀ {ds : List D} {ns : List Bool} {vs : List V}, blsD ds = some ns → Dens E G ds vs → vs = ns.map V.bl
  | [], ns, vs, e, h => by
    cases e
    exact h
  | d :: ds, ns, vs, e, h => by
    obtain ⟨v, r, h1, h2, h3⟩ := h
    subst h1
    unfold blsD at e
    split at e
    · cases ‹d :: ds = []›
    · rename_i j r' he
      cases he
      split at e
      · rename_i ms em
        cases e
        rw [blsD_den em h3]
        cases (show v = _ from h2)
        rfl
      · cases e
    · cases e
theorem lstI_sq {H H0 : Hp} {x : RV} {ns : List Int} {v : V} (i : Ex G H) (h : DenR E G H H0 x v) (e : lstI x = some ns) : ∃ a, v = .ref a ∧ SqL E.K H a (ns.map V.int) := by
  unfold lstI at e
  split at e
  · rename_i ds es
    obtain ⟨a, ws, h1, h2, h3⟩ := lstV_sq i h es
    exact ⟨a, h1, by rw [← intsD_den e h3]; exact h2⟩
  · cases e
theorem lstB_sq {H H0 : Hp} {x : RV} {ns : List Bool} {v : V} (i : Ex G H) (h : DenR E G H H0 x v) (e : lstB x = some ns) : ∃ a, v = .ref a ∧ SqL E.K H a (ns.map V.bl) := by
  unfold lstB at e
  split at e
  · rename_i ds es
    obtain ⟨a, ws, h1, h2, h3⟩ := lstV_sq i h es
    exact ⟨a, h1, by rw [← blsD_den e h3]; exact h2⟩
  · cases e
theorem foldl_max_mem : ∀ (ns : List Int) (n : Int), ns.foldl max n ∈ n :: ns
  | [], n => List.mem_cons_self
  | m :: ns, n => by
    rcases List.mem_cons.mp (foldl_max_mem ns (max n m)) with h | h
    · show (m :: ns).foldl max n ∈ _
      rw [List.foldl_cons, h]
      rcases Int.le_total n m with q | q
      · rw [Int.max_eq_right q]; simp
      · rw [Int.max_eq_left q]; simp
    · show (m :: ns).foldl max n ∈ _
      rw [List.foldl_cons]
      exact List.mem_cons_of_mem _ (List.mem_cons_of_mem _ h)
theorem foldl_max_ge : ∀ (ns : List Int) (n : Int), ∀ y ∈ n :: ns, y ≤ ns.foldl max n
  | [], n, y, hy => by rw [List.mem_singleton.mp hy]; exact Int.le_refl _
  | m :: ns, n, y, hy => by
    rw [List.foldl_cons]
    rcases List.mem_cons.mp hy with h | h
    · subst h
      exact Int.le_trans (Int.le_max_left _ _) (foldl_max_ge ns (max y m) _ List.mem_cons_self)
    · rcases List.mem_cons.mp h with h | h
      · subst h
        exact Int.le_trans (Int.le_max_right _ _) (foldl_max_ge ns (max n y) _ List.mem_cons_self)
      · exact foldl_max_ge ns (max n m) y (List.mem_cons_of_mem _ h)
theorem foldl_min_mem : ∀ (ns : List Int) (n : Int), ns.foldl min n ∈ n :: ns
  | [], n => List.mem_cons_self
  | m :: ns, n => by
    rcases List.mem_cons.mp (foldl_min_mem ns (min n m)) with h | h
    · show (m :: ns).foldl min n ∈ _
      rw [List.foldl_cons, h]
      rcases Int.le_total n m with q | q
      · rw [Int.min_eq_left q]; simp
      · rw [Int.min_eq_right q]; simp
    · show (m :: ns).foldl min n ∈ _
      rw [List.foldl_cons]
      exact List.mem_cons_of_mem _ (List.mem_cons_of_mem _ h)
theorem foldl_min_le : ∀ (ns : List Int) (n : Int), ∀ y ∈ n :: ns, ns.foldl min n ≤ y
  | [], n, y, hy => by rw [List.mem_singleton.mp hy]; exact Int.le_refl _
  | m :: ns, n, y, hy => by
    rw [List.foldl_cons]
    rcases List.mem_cons.mp hy with h | h
    · subst h
      exact Int.le_trans (foldl_min_le ns (min y m) _ List.mem_cons_self) (Int.min_le_left _ _)
    · rcases List.mem_cons.mp h with h | h
      · subst h
        exact Int.le_trans (foldl_min_le ns (min n y) _ List.mem_cons_self) (Int.min_le_right _ _)
      · exact foldl_min_le ns (min n m) y (List.mem_cons_of_mem _ h)
theorem meets_sum {E : En} : MeetsC E (rSum E.K) (biV .sum) := fun G H H0 xs vs z Q i dx e k => by
  unfold biV at e
  split at e <;> try contradiction
  rename_i x _
  obtain ⟨v, ev, dv⟩ := dens1 dx
  subst ev
  unfold sumV at e
  split at e
  · rename_i ns es
    cases e
    obtain ⟨a, h1, h2⟩ := lstI_sq i dv es
    subst h1
    exact ⟨a, ns, rfl, h2, k _ G H (Gr.refl i) rfl⟩
  · cases e
theorem max_go {E : En} {G H H0 : Hp} {x : RV} {v : V} {z : RV} {Q : VK} (i : Ex G H) (dv : DenR E G H H0 x v) (e : maxV x = some z) (k : ∀ w G' H', Gr G H G' H' → DenR E G' H' H z w → Q w H') : rMax E.K [v] H Q := by
  unfold maxV at e
  split at e
  · rename_i n ns es
    cases e
    obtain ⟨a, h1, h2⟩ := lstI_sq i dv es
    subst h1
    refine ⟨a, _, rfl, h2, by simp, fun m hm hy => ?_⟩
    have q : m = ns.foldl max n := Int.le_antisymm (foldl_max_ge ns n m hm) (hy _ (foldl_max_mem ns n))
    rw [q]
    exact k _ G H (Gr.refl i) rfl
  · cases e
theorem dens2 {E : En} {G H H0 : Hp} {x y : RV} {vs : List V} (h : DenRs E G H H0 [x, y] vs) : ∃ v u, vs = [v, u] ∧ DenR E G H H0 x v ∧ DenR E G H H0 y u := by
  obtain ⟨v, ws, h1, h2, h3, _⟩ := h
  obtain ⟨u, rfl, h4⟩ := dens1 h3
  exact ⟨v, u, h1, h2, h4⟩
def rMax2 : List V → Hp → VK → Prop := fun xs H Q => ∃ i j : Int, xs = [.int i, .int j] ∧ Q (.int (if j > i then j else i)) H
def rMin2 : List V → Hp → VK → Prop := fun xs H Q => ∃ i j : Int, xs = [.int i, .int j] ∧ Q (.int (if j < i then j else i)) H
def rMaxX (K : PySem.W.Frag) : List V → Hp → VK → Prop := fun xs H Q => rMax2 xs H Q ∨ rMax K xs H Q
theorem call_maxX {X : Cx} (hc : X.calm = true) : CallR X (.builtin "max") (rMaxX X.K) := CallR.or2 (call_max2 hc) (cr_max hc)
theorem meets_max {E : En} : MeetsC E (rMaxX E.K) (biV .max) := fun G H H0 xs vs z Q i dx e k => by
  unfold biV at e
  split at e <;> try contradiction
  · rename_i x _
    obtain ⟨v, ev, dv⟩ := dens1 dx
    subst ev
    exact .inr (max_go i dv e k)
  · rename_i x y _
    obtain ⟨v, u, ev, dv, du⟩ := dens2 dx
    subst ev
    unfold max2V at e
    split at e
    · cases e
      cases (show v = _ from dv)
      cases (show u = _ from du)
      exact .inl ⟨_, _, rfl, k _ G H (Gr.refl i) rfl⟩
    · cases e
theorem min_go {E : En} {G H H0 : Hp} {x : RV} {v : V} {z : RV} {Q : VK} (i : Ex G H) (dv : DenR E G H H0 x v) (e : minV x = some z) (k : ∀ w G' H', Gr G H G' H' → DenR E G' H' H z w → Q w H') : rMin E.K [v] H Q := by
  unfold minV at e
  split at e
  · rename_i n ns es
    cases e
    obtain ⟨a, h1, h2⟩ := lstI_sq i dv es
    subst h1
    refine ⟨a, _, rfl, h2, by simp, fun m hm hy => ?_⟩
    have q : m = ns.foldl min n := Int.le_antisymm (hy _ (foldl_min_mem ns n)) (foldl_min_le ns n m hm)
    rw [q]
    exact k _ G H (Gr.refl i) rfl
  · cases e
theorem meets_any {E : En} : MeetsC E (rAny E.K) (biV .any) := fun G H H0 xs vs z Q i dx e k => by
  unfold biV at e
  split at e <;> try contradiction
  rename_i x _
  obtain ⟨v, ev, dv⟩ := dens1 dx
  subst ev
  unfold anyV at e
  split at e
  · rename_i ns es
    cases e
    obtain ⟨a, h1, h2⟩ := lstB_sq i dv es
    subst h1
    exact ⟨a, ns, rfl, h2, k _ G H (Gr.refl i) rfl⟩
  · cases e
theorem meets_all {E : En} : MeetsC E (rAll E.K) (biV .all) := fun G H H0 xs vs z Q i dx e k => by
  unfold biV at e
  split at e <;> try contradiction
  rename_i x _
  obtain ⟨v, ev, dv⟩ := dens1 dx
  subst ev
  unfold allV at e
  split at e
  · rename_i ns es
    cases e
    obtain ⟨a, h1, h2⟩ := lstB_sq i dv es
    subst h1
    exact ⟨a, ns, rfl, h2, k _ G H (Gr.refl i) rfl⟩
  · cases e
/-! #### membership -/
theorem any_map_int (i : Int) (ns : List Int) : inV (V.int i) (ns.map V.int) = ns.any fun j => decide (j = i) := by
  unfold inV
  rw [List.any_map]
  rfl
theorem any_map_str (i : Str) (ns : List Str) : inV (V.str i) (ns.map V.str) = ns.any fun j => decide (j = i) := by
  unfold inV
  rw [List.any_map]
  rfl
theorem inL_in {d : D} {ds : List D} {v : V} {vs : List V} {b : Bool} (e : inL d ds = some b) (h : Den E G d v) (hs : Dens E G ds vs) : flatV v = true ∧ vs.all flatV = true ∧ inV v vs = b := by
  unfold inL at e
  split at e
  · split at e
    · rename_i ns en
      cases e
      cases (show v = _ from h)
      rw [intsD_den en hs]
      refine ⟨rfl, ?_, any_map_int _ _⟩
      rw [List.all_map, List.all_eq_true]
      exact fun _ _ => rfl
    · cases e
  · split at e
    · rename_i ns en
      cases e
      cases (show v = _ from h)
      rw [strsD_den en hs]
      refine ⟨rfl, ?_, any_map_str _ _⟩
      rw [List.all_map, List.all_eq_true]
      exact fun _ _ => rfl
    · cases e
  · cases e
theorem inW_in {H H0 : Hp} {x y : RV} {v u : V} {b : Bool} (i : Ex G H) (dx : DenR E G H H0 x v) (dy : DenR E G H H0 y u) (e : inW x y = some b) : ∃ p xs, u = .ref p ∧ (SqL E.K H p xs ∨ SqT E.K H p xs) ∧ flatV v = true ∧ xs.all flatV = true ∧ inV v xs = b := by
  unfold inW at e
  split at e
  · split at e
    · rename_i ds es
      obtain ⟨a, ws, h1, h2, h3⟩ := seqV_sq i dy es
      obtain ⟨f1, f2, f3⟩ := inL_in e dx h3
      exact ⟨a, ws, h1, h2, f1, f2, f3⟩
    · cases e
  · cases e
def rInX (K : PySem.W.Frag) : R2 := fun x y H Q => rIn K false x y H Q ∨ ∃ (c : Nat) (z : Str), x = .str ⟨#[c]⟩ ∧ y = .str z ∧ Q (.bl (decide (c ∈ z.cps.toList))) H
def rNotInX (K : PySem.W.Frag) : R2 := fun x y H Q => rIn K true x y H Q ∨ ∃ (c : Nat) (z : Str), x = .str ⟨#[c]⟩ ∧ y = .str z ∧ Q (.bl (!decide (c ∈ z.cps.toList))) H
theorem op_inX {X : Cx} : OpR X (compareOp .In) (rInX X.K) := OpR.or op_in_seq op_in_sign
theorem op_notInX {X : Cx} : OpR X (compareOp .NotIn) (rNotInX X.K) := OpR.or op_notIn_seq op_notIn_sign
theorem signV_of {z : Str} {c : Nat} (e : signV z = some c) : z = ⟨#[c]⟩ := by
  unfold signV at e
  split at e
  · rename_i d ed
    cases e
    exact Str.ext' (Array.toList_inj.mp ed)
  · cases e
theorem inX_in {H H0 : Hp} {x y : RV} {v u : V} {b : Bool} (i : Ex G H) (dx : DenR E G H H0 x v) (dy : DenR E G H H0 y u) (e : inX x y = some b) :
    (∃ p xs, u = .ref p ∧ (SqL E.K H p xs ∨ SqT E.K H p xs) ∧ flatV v = true ∧ xs.all flatV = true ∧ inV v xs = b) ∨ ∃ (c : Nat) (z : Str), v = .str ⟨#[c]⟩ ∧ u = .str z ∧ decide (c ∈ z.cps.toList) = b := by
  unfold inX at e
  split at e
  · split at e
    · split at e
      · rename_i c ec
        cases e
        cases (show u = _ from dy)
        cases (show v = _ from dx)
        exact .inr ⟨c, _, by rw [signV_of ec], rfl, rfl⟩
      · cases e
    · cases e
  · exact .inl (inW_in i dx dy e)
theorem meets_in {E : En} : Meets2B E (rInX E.K) inX := fun G H H0 x y v u z Q i dx dy e k => by
  rcases inX_in i dx dy e with ⟨p, xs, h1, h2, h3, h4, h5⟩ | ⟨c, w, h1, h2, h3⟩
  · exact .inl ⟨p, xs, h1, h2, h3, h4, by rw [h5]; exact k⟩
  · exact .inr ⟨c, w, h1, h2, by rw [h3]; exact k⟩
theorem meets_notin {E : En} : Meets2B E (rNotInX E.K) fun x y => notV (inX x y) := fun G H H0 x y v u z Q i dx dy e k => by
  obtain ⟨c, e', ez⟩ := notV_some e
  clear e
  subst ez
  rcases inX_in i dx dy e' with ⟨p, xs, h1, h2, h3, h4, h5⟩ | ⟨d, w, h1, h2, h3⟩
  · exact .inl ⟨p, xs, h1, h2, h3, h4, by rw [h5]; exact k⟩
  · exact .inr ⟨d, w, h1, h2, by rw [h3]; exact k⟩

/-! #### sorted -/
theorem allB_all {p : D → Bool} : ∀ {ds : List D}, allB p ds = true → ∀ d ∈ ds, p d = true
  | [], _, d, hd => by cases hd
  | x :: xs, h, d, hd => by
    have h' : (p x && allB p xs) = true := h
    rw [Bool.and_eq_true] at h'
    rcases List.mem_cons.mp hd with e | e
    · rw [e]; exact h'.1
    · exact allB_all h'.2 d e
theorem pyDs_map : ∀ ds : List D, pyDs ds = ds.map pyD
  | [] => rfl
  | d :: ds => by
    show pyD d :: pyDs ds = pyD d :: ds.map pyD
    rw [pyDs_map ds]
theorem sortOk_ok {ds : List D} (h : sortOk ds = true) : okDs ds 60 = true ∧ PySem.W.AllAlike (ds.map pyD) ∧ PySem.W.Sortable (ds.map pyD) := by
  unfold sortOk at h
  rw [Bool.and_eq_true, Bool.and_eq_true, Bool.or_eq_true] at h
  obtain ⟨⟨h1, h2⟩, h3⟩ := h
  refine ⟨h1, fun a ha b hb => ?_, ?_⟩
  · obtain ⟨x, hx, rfl⟩ := List.mem_map.mp ha
    obtain ⟨y, hy, rfl⟩ := List.mem_map.mp hb
    exact allB_all (allB_all h2 x hx) y hy
  · rcases h3 with h3 | h3
    · refine .inl fun a ha => ?_
      obtain ⟨x, hx, rfl⟩ := List.mem_map.mp ha
      have q := allB_all h3 x hx
      cases x with
      | tup xs =>
        cases xs with
        | nil => cases q
        | cons y ys => exact ⟨_, _, rfl⟩
      | _ => cases q
    · refine .inr fun a ha => ?_
      obtain ⟨x, hx, rfl⟩ := List.mem_map.mp ha
      have q := allB_all h3 x hx
      have ok : okD x 60 = true := by
        have : ∀ {l : List D}, okDs l 60 = true → ∀ d ∈ l, okD d 60 = true := by
          intro l
          induction l with
          | nil => intro _ d hd; cases hd
          | cons y ys ih =>
            intro h d hd
            have h' : (okD y 60 && okDs ys 60) = true := h
            rw [Bool.and_eq_true] at h'
            rcases List.mem_cons.mp hd with e | e
            · rw [e]; exact h'.1
            · exact ih h'.2 d e
        exact this h1 x hx
      cases x with
      | tup xs => cases q
      | non => cases q
      | bl _ => exact ⟨(fun z => nomatch z), fun _ z => nomatch z⟩
      | int _ => exact ⟨(fun z => nomatch z), fun _ z => nomatch z⟩
      | str _ => exact ⟨(fun z => nomatch z), fun _ z => nomatch z⟩
      | lst _ => exact ⟨(fun z => nomatch z), fun _ z => nomatch z⟩
      | dicT _ _ => cases ok
      | dicK _ _ => cases ok
      | exc _ _ _ => cases ok
theorem dens_zip {E : En} {G : Hp} : ∀ {ds : List D} {vs : List V}, Dens E G ds vs → ∃ zs : List (D × V), zs.map (·.1) = ds ∧ zs.map (·.2) = vs ∧ ∀ z ∈ zs, Den E G z.1 z.2
  | [], vs, h => ⟨[], rfl, h.symm, fun _ z => nomatch z⟩
  | d :: ds, vs, h => by
    obtain ⟨v, r, h1, h2, h3⟩ := h
    obtain ⟨zs, k1, k2, k3⟩ := dens_zip h3
    refine ⟨(d, v) :: zs, ?_, ?_, fun z hz => ?_⟩
    · show d :: zs.map (·.1) = _
      rw [k1]
    · show v :: zs.map (·.2) = _
      rw [k2, h1]
    · rcases List.mem_cons.mp hz with e | e
      · rw [e]; exact h2
      · exact k3 z e
theorem zip_dens {E : En} {G : Hp} : ∀ {zs : List (D × V)}, (∀ z ∈ zs, Den E G z.1 z.2) → Dens E G (zs.map (·.1)) (zs.map (·.2))
  | [], _ => rfl
  | z :: zs, h => ⟨z.2, zs.map (·.2), rfl, h z (List.mem_cons_self ..), zip_dens fun y hy => h y (List.mem_cons_of_mem _ hy)⟩
theorem each_vals : ∀ {zs : List (D × V)} {us : List Value}, Vals (zs.map (·.2)) us → PySem.W.EachIs (fun u z => RelV z.2 u) us zs
  | [], us, h => by
    cases h
    exact .nil
  | z :: zs, us, h => by
    cases h with
    | cons r t => exact .cons r (each_vals t)
theorem vals_each : ∀ {zs : List (D × V)} {us : List Value}, PySem.W.EachIs (fun u z => RelV z.2 u) us zs → Vals (zs.map (·.2)) us
  | _, _, .nil => .nil
  | _, _, .cons r t => .cons r (vals_each t)
def rSortX (K : PySem.W.Frag) : List V → Hp → VK → Prop := fun xs H Q => ∃ (p : Addr) (zs : List (D × V)), xs = [.ref p] ∧ SqL K H p (zs.map (·.2)) ∧ (∀ z ∈ zs, Dp K H z.2 (pyD z.1)) ∧ sortOk (zs.map (·.1)) = true ∧
  ∀ l, H l = none → Q (.ref l) (upd H l (.lst ((zs.mergeSort fun a b => !PySem.W.dataLt (pyD b.1) (pyD a.1)).map (·.2))))
theorem call_sortX {X : Cx} (hu : X.A.units + 100 < cLine) : CallR X (.builtin "sorted") (rSortX X.K) := by
  intro pins s σ H xs us Q I r h
  obtain ⟨p, zs, rfl, hs, hd, hok, q⟩ := h
  obtain ⟨u, rfl, rx⟩ := vals1 r
  obtain rfl : u = .ref p := rx
  obtain ⟨its, rv, pl, hz⟩ := I.list hs
  obtain ⟨ok1, ok2, ok3⟩ := sortOk_ok hok
  have hlen := rv.length
  rw [List.length_map] at hlen hz
  have emap : (zs.map fun z => pyD z.1) = (zs.map (·.1)).map pyD := by rw [List.map_map] <;> rfl
  have each := each_vals rv
  have reads : PySem.W.EachIs (fun v b => ∃ as, Reads s.heap v (pyD b.1) as) its zs := by
    have go : ∀ {us : List Value} {ys : List (D × V)}, (∀ z ∈ ys, Dp X.K H z.2 (pyD z.1)) → PySem.W.EachIs (fun u (z : D × V) => RelV z.2 u) us ys → PySem.W.EachIs (fun v (b : D × V) => ∃ as, Reads s.heap v (pyD b.1) as) us ys := by
      intro us ys h0 e
      induction e with
      | nil => exact .nil
      | cons r t ih => exact .cons (Dp.reads I _ _ _ (h0 _ (List.mem_cons_self ..)) r) (ih fun y hy => h0 y (List.mem_cons_of_mem _ hy))
    exact go hd each
  have dep : ∀ b, b ∈ zs → X.A.units + 2 + (pyD b.1).depth < cLine := fun b hb => by
    have : okD b.1 60 = true := by
      have all : ∀ {l : List D}, okDs l 60 = true → ∀ d ∈ l, okD d 60 = true := by
        intro l
        induction l with
        | nil => intro _ d hd; cases hd
        | cons y ys ih =>
          intro h d hd
          have h' : (okD y 60 && okDs ys 60) = true := h
          rw [Bool.and_eq_true] at h'
          rcases List.mem_cons.mp hd with e | e
          · rw [e]; exact h'.1
          · exact ih h'.2 d e
      exact all ok1 b.1 (List.mem_map.mpr ⟨b, hb, rfl⟩)
    have := (okD_lay b.1 60 this).2
    omega
  refine PySem.W.sorted_data (R := fun u z => RelV z.2 u) (enc := fun z : D × V => pyD z.1) pl.isList each reads (by rw [emap]; exact ok2) (by rw [emap]; exact ok3) hz dep fun out ho he => ?_
  have el : (zs.mergeSort (PySem.W.dataLe false fun z : D × V => pyD z.1)) = zs.mergeSort fun a b => !PySem.W.dataLt (pyD b.1) (pyD a.1) := rfl
  rw [el] at he
  have rv2 := vals_each he
  -- the new list stands at the heap's end; what the sort laid beside is loose
  have hcp := PySem.W.copyHeap_at s.heap its
  obtain ⟨e', he'⟩ := PyProof.Rows.sortedHeap_at (vs := its) (out := out.toArray) hcp
  have hfr : H (s.heap.objs.size + 1) = none := I.hok.fresh (Nat.le_succ _)
  have keep : ∀ b o, s.heap.get? b = some o → (PyProof.Rows.sortedAll s.heap its out.toArray).get? b = some o := fun b o e => by
    have hb : b < s.heap.objs.size := Heap.lt_size e
    have hsz : (PySem.W.copyHeap s.heap its).objs.size = s.heap.objs.size + 2 := by
      unfold PySem.W.copyHeap
      rw [size_push', Heap.size_update, size_push']
    show (PyProof.Rows.sortedHeap (PySem.W.copyHeap s.heap its) (s.heap.objs.size + 1) its out.toArray).get? b = some o
    rw [PyProof.Rows.sortedHeap_old (Nat.ne_of_lt (Nat.lt_succ_of_lt hb)) (by rw [hsz]; exact Nat.lt_succ_of_lt (Nat.lt_succ_of_lt hb))]
    exact PySem.W.copyHeap_old e
  refine ⟨.ref (s.heap.objs.size + 1), _, I.laid (t' := s.toks) (o := .lst ((zs.mergeSort fun a b => !PySem.W.dataLt (pyD b.1) (pyD a.1)).map (·.2))) keep (Nat.le_succ _) ⟨?_, out, e', rv2, he'⟩, rfl, q _ hfr⟩
  rw [List.length_map, (List.mergeSort_perm _ _).length_eq]
  exact hz
theorem meets_sorted_l {E : En} {G H H0 : Hp} {x : RV} {v : V} {ds : List D} {Q : VK} (i : Ex G H) (dv : DenR E G H H0 x v) (es : lstV x = some ds) (hok : sortOk ds = true)
    (k : ∀ w G' H', Gr G H G' H' → DenR E G' H' H (.fr (.l (sortD ds))) w → Q w H') : rSortX E.K [v] H Q := by
  obtain ⟨a, ws, h1, h2, h3⟩ := lstV_sq i dv es
  subst h1
  obtain ⟨zs, k1, k2, k3⟩ := dens_zip h3
  refine ⟨a, zs, rfl, by rw [k2]; exact h2, fun z hz => ?_, by rw [k1]; exact hok, fun l hl => ?_⟩
  · have all : ∀ {l : List D}, okDs l 60 = true → ∀ d ∈ l, okD d 60 = true := by
      intro l
      induction l with
      | nil => intro _ d hd; cases hd
      | cons y ys ih =>
        intro h d hd
        have h' : (okD y 60 && okDs ys 60) = true := h
        rw [Bool.and_eq_true] at h'
        rcases List.mem_cons.mp hd with e | e
        · rw [e]; exact h'.1
        · exact ih h'.2 d e
    exact Den.dp _ 60 _ (all (sortOk_ok hok).1 _ (by rw [← k1]; exact List.mem_map.mpr ⟨z, hz, rfl⟩)) (Den.mono i _ _ (k3 z hz))
  · refine k _ G _ (Gr.loose i hl) ?_
    have e1 : sortD ds = (zs.mergeSort fun a b => !PySem.W.dataLt (pyD b.1) (pyD a.1)).map (·.1) := by
      unfold sortD
      rw [← k1]
      exact (PySem.W.sort_maps (fun z : D × V => z.1) (fun _ _ _ _ => rfl)).symm
    rw [e1]
    exact newL i hl (zip_dens fun z hz => k3 z ((List.mergeSort_perm _ _).mem_iff.mp hz))
/-- sorted(d), d with tuple keys -/
def rSortT : List V → Hp → VK → Prop := fun xs H Q => ∃ (d : Addr) (kvs : List (List Key × V)), xs = [.ref d] ∧ H d = some (.dT kvs) ∧ sortOk ((kvs.map (·.1)).map tkeyD) = true ∧
  ∀ (l : Addr) (zs : List (D × V)), H l = none → zs.map (·.1) = sortD ((kvs.map (·.1)).map tkeyD) → (∀ z ∈ zs, ∃ k b, z.1 = tkeyD k ∧ z.2 = .ref b ∧ H b = some (.tup (k.map kV))) → Q (.ref l) (upd H l (.lst (zs.map (·.2))))
theorem okDs_mem {n : Nat} : ∀ {l : List D}, okDs l n = true → ∀ d ∈ l, okD d n = true
  | [], _, d, hd => by cases hd
  | y :: ys, h, d, hd => by
    have h' : (okD y n && okDs ys n) = true := h
    rw [Bool.and_eq_true] at h'
    rcases List.mem_cons.mp hd with e | e
    · rw [e]; exact h'.1
    · exact okDs_mem h'.2 d e
theorem dens_key {E : En} {G : Hp} : ∀ k : List Key, Dens E G (k.map keyD) (k.map kV)
  | [] => rfl
  | .inl i :: r => ⟨.int i, r.map kV, rfl, rfl, dens_key r⟩
  | .inr x :: r => ⟨.str x, r.map kV, rfl, rfl, dens_key r⟩
theorem den_tkey {E : En} {G : Hp} {k : List Key} {b : Addr} (h : G b = some (.tup (k.map kV))) : Den E G (tkeyD k) (.ref b) := ⟨b, _, rfl, h, dens_key k⟩
theorem reads_atoms {h : Heap} : ∀ {k : List Key} {us : List Value} {as : List Addr}, ReadsAll h us (pyDs (k.map keyD)) as → as = []
  | [], _, _, r => by cases r; rfl
  | .inl i :: k, _, _, r => by
    cases r with
    | cons a b =>
      cases (show Reads h _ (.int i) _ from a)
      rw [reads_atoms b] <;> rfl
  | .inr x :: k, _, _, r => by
    cases r with
    | cons a b =>
      cases (show Reads h _ (.str x) _ from a)
      rw [reads_atoms b] <;> rfl
theorem reads_key {h : Heap} {k : List Key} {u : Value} {as : List Addr} (r : Reads h u (pyD (tkeyD k)) as) : as = [] := by
  cases (show Reads h u (.tuple (pyDs (k.map keyD))) as from r) with
  | tuple h1 h2 h3 h4 => exact reads_atoms h4
def e0 (K : PySem.W.Frag) : En := ⟨K, fun _ => none, none⟩
theorem call_sortT {X : Cx} (hcalm : X.calm = true) (hu : X.A.units + 100 < cLine) : CallR X (.builtin "sorted") rSortT := by
  intro pins s σ H xs us Q I r h
  obtain ⟨d, kvs, rfl, hd, hok, q⟩ := h
  obtain ⟨u, rfl, rx⟩ := r.one
  cases rx
  obtain ⟨z, hs, ks, pr, o, es, ep, ho, hx, hdt, he, hn⟩ := (show ObjOk X.prog X.w H s.heap d (.dT kvs) from I.hok d _ hd)
  have l1 : es.size = ks.length := size_of_entries he
  have l2 : kvs.length = ks.length := Paired.length pr
  refine Calls.call_function_entry PyProof.Rows.kind_sorted PyProof.Rows.plain_sorted PyProof.Rows.entry_sorted (PyProof.Rows.args_sorted1 _) ?_
  unfold Builtin.«sorted»
  refine wpAny_bind (m := checkCount "sorted" 1 1 _) (wpAny_pure ?_)
  refine wpAny_bind (PySem.W.kdu_collect (A := X.A.in1) (kdl_raw hs hx hdt) (I.ok.hd hcalm) ho (by omega) fun h' tk acc' kp it => ?_)
  have ea : acc'.toList = ks.map fun x => Value.ref x.2.1 := by
    have hl : acc'.toList.length = ks.length := by rw [Array.length_toList, it.1]; exact l1
    apply List.ext_getElem?
    intro j
    rw [List.getElem?_map]
    cases hj : acc'.toList[j]? with
    | none =>
      have h1 := List.getElem?_eq_none_iff.mp hj
      rw [List.getElem?_eq_none (by omega)]
      all_goals rfl
    | some v =>
      obtain ⟨en, hen, hv⟩ := it.2 j v (by rw [← Array.getElem?_toList]; exact hj)
      have qe := entry_at he j
      rw [hen] at qe
      cases hb : ks[j]? with
      | none =>
        rw [hb] at qe
        exact nomatch (show some en = none from qe)
      | some b =>
        rw [hb] at qe
        have e2 : en = entryOfKey (tupleKind (mixKind X.prog X.w)) b := Option.some.inj qe
        rw [hv, e2]
        all_goals rfl
  -- the keys with their tuples
  have hkeys := isKeys_of pr
  have zip : ∀ {kvs : List (List Key × V)} {bs : List Addr}, IsKeys H kvs bs → ∃ zs : List (D × V), zs.map (·.1) = (kvs.map (·.1)).map tkeyD ∧ zs.map (·.2) = bs.map V.ref ∧ ∀ z ∈ zs, ∃ k b, z.1 = tkeyD k ∧ z.2 = .ref b ∧ H b = some (.tup (k.map kV)) := by
    intro kvs bs hk
    unfold IsKeys at hk
    induction hk with
    | nil => exact ⟨[], rfl, rfl, fun _ z => nomatch z⟩
    | @cons p b ps bs h t ih =>
      obtain ⟨zs, k1, k2, k3⟩ := ih
      refine ⟨(tkeyD p.1, .ref b) :: zs, ?_, ?_, fun z hz => ?_⟩
      · show tkeyD p.1 :: zs.map (·.1) = _
        rw [k1] <;> rfl
      · show V.ref b :: zs.map (·.2) = _
        rw [k2] <;> rfl
      · rcases List.mem_cons.mp hz with e | e
        · rw [e]; exact ⟨p.1, b, rfl, rfl, h⟩
        · exact k3 z e
  obtain ⟨zs, k1, k2, k3⟩ := zip hkeys
  have eb : acc'.toList = (ks.map fun x => x.2.1).map Value.ref := by rw [ea, List.map_map]; all_goals rfl
  have rv : Vals (zs.map (·.2)) acc'.toList := by rw [eb, k2]; exact vals_refs _
  have I1 : Inv X pins σ H { s with heap := h', toks := tk } := I.kept kp
  have hal : acc'.toList.length ≤ sizeLine := by rw [ea, List.length_map]; omega
  refine wpAny_bind (wpAny_newList ?_ hal)
  have hoL : (h'.push (seqObj "list" acc'.toList.toArray 0)).get? h'.objs.size = some (seqObj "list" acc'.toList.toArray 0) := Heap.get?_push_size _ rfl
  show wpAny _ _ _ _ _ { s with heap := h'.push (seqObj "list" acc'.toList.toArray 0), toks := tk }
  obtain ⟨ok1, ok2, ok3⟩ := sortOk_ok hok
  rw [← k1] at ok1 ok2 ok3
  have emap : (zs.map fun z => pyD z.1) = (zs.map (·.1)).map pyD := by rw [List.map_map] <;> rfl
  have each := each_vals rv
  have I2 : Inv X pins σ H { s with heap := h'.push (seqObj "list" acc'.toList.toArray 0), toks := tk } := I1.kept (t' := tk) fun b o e => Heap.get?_push_of_some _ e
  have dps : ∀ z ∈ zs, Dp X.K H z.2 (pyD z.1) := fun z hz => by
    obtain ⟨k, b, e1, e2, e3⟩ := k3 z hz
    have hok1 := okDs_mem ok1 z.1 (List.mem_map.mpr ⟨z, hz, rfl⟩)
    rw [e1] at hok1 ⊢
    rw [e2]
    exact Den.dp (E := e0 X.K) _ 60 _ hok1 (den_tkey e3)
  have reads : ∀ {us : List Value} {ys : List (D × V)}, (∀ z ∈ ys, z ∈ zs) → PySem.W.EachIs (fun u (z : D × V) => RelV z.2 u) us ys → PySem.W.EachIs (fun v (b : D × V) => ∃ as, Reads (h'.push (seqObj "list" acc'.toList.toArray 0)) v (pyD b.1) as ∧ h'.objs.size ∉ as) us ys := by
    intro us ys h0 e
    induction e with
    | nil => exact .nil
    | @cons u z us zs' r t ih =>
      refine .cons ?_ (ih fun y hy => h0 y (List.mem_cons_of_mem _ hy))
      obtain ⟨as, q1⟩ := Dp.reads I1 _ _ _ (dps _ (h0 _ (List.mem_cons_self ..))) r
      refine ⟨as, PyProof.Rows.Reads.keeps (fun b o e => Heap.get?_push_of_some _ e) q1, fun hm => ?_⟩
      obtain ⟨k, b, e1, e2, e3⟩ := k3 z (h0 _ (List.mem_cons_self ..))
      rw [e1] at q1
      rw [reads_key q1] at hm
      cases hm
  have dep : ∀ b, b ∈ zs → X.A.in1.units + 1 + (pyD b.1).depth < cLine := fun b hb => by
    have := (okD_lay b.1 60 (okDs_mem ok1 b.1 (List.mem_map.mpr ⟨b, hb, rfl⟩))).2
    show X.A.units + 1 + 1 + (pyD b.1).depth < cLine
    omega
  refine wpAny_bind (wpAny_holding (PySem.W.list_sort_data (R := fun u z => RelV z.2 u) (enc := fun z : D × V => pyD z.1) hoL each (reads (fun _ hz => hz) each) (by rw [emap]; exact ok2) (by rw [emap]; exact ok3) ?_ dep fun out ho he => ?_))
  · have hz := congrArg List.length k2
    rw [List.length_map, List.length_map, List.length_map] at hz
    omega
  · have el : (zs.mergeSort (PySem.W.dataLe false fun z : D × V => pyD z.1)) = zs.mergeSort fun a b => !PySem.W.dataLt (pyD b.1) (pyD a.1) := rfl
    rw [el] at he
    have rv2 := vals_each he
    obtain ⟨e', he'⟩ := PyProof.Rows.sortedHeap_at (vs := acc'.toList) (out := out.toArray) hoL
    have hfr : H h'.objs.size = none := I1.hok.fresh (Nat.le_refl _)
    have keep : ∀ b o, h'.get? b = some o → (PyProof.Rows.sortedHeap (h'.push (seqObj "list" acc'.toList.toArray 0)) h'.objs.size acc'.toList out.toArray).get? b = some o := fun b o e => by
      have hb : b < h'.objs.size := Heap.lt_size e
      rw [PyProof.Rows.sortedHeap_old (Nat.ne_of_lt hb) (by rw [size_push']; exact Nat.lt_succ_of_lt hb)]
      exact Heap.get?_push_of_some _ e
    refine wpAny_pure ⟨_, rfl, .ref h'.objs.size, _, I1.laid (t' := tk) (o := .lst ((zs.mergeSort fun a b => !PySem.W.dataLt (pyD b.1) (pyD a.1)).map (·.2))) keep (Nat.le_refl _) ⟨?_, out, e', rv2, he'⟩, rfl, q _ _ hfr ?_ fun z hz => k3 z ((List.mergeSort_perm _ _).mem_iff.mp hz)⟩
    · rw [List.length_map, (List.mergeSort_perm _ _).length_eq]
      have hz := congrArg List.length k2
      rw [List.length_map, List.length_map, List.length_map] at hz
      omega
    · rw [← k1]
      exact PySem.W.sort_maps (fun z : D × V => z.1) (fun _ _ _ _ => rfl)
def rSortedX (K : PySem.W.Frag) : List V → Hp → VK → Prop := fun xs H Q => rSortT xs H Q ∨ rSortX K xs H Q
theorem call_sortedX {X : Cx} (hcalm : X.calm = true) (hu : X.A.units + 100 < cLine) : CallR X (.builtin "sorted") (rSortedX X.K) := CallR.or2 (call_sortT hcalm hu) (call_sortX hu)
theorem meets_sorted {E : En} : MeetsC E (rSortedX E.K) (biV .sorted) := fun G H H0 xs vs z Q i dx e k => by
  unfold biV at e
  split at e <;> try contradiction
  rename_i x _
  obtain ⟨v, ev, dv⟩ := dens1 dx
  subst ev
  split at e
  · rename_i ks ek
    split at e
    · rename_i hok
      cases e
      obtain ⟨a, kvs, h1, h2, h3, h4⟩ := keysT_sq i dv ek
      subst h1
      subst h3
      refine .inl ⟨a, kvs, rfl, h2, hok, fun l zs hl e1 e2 => ?_⟩
      have g1 := Gr.tups i
      have g2 : Gr (tups G H) H (tups G H) (upd H l (.lst (zs.map (·.2)))) := Gr.loose g1.i hl
      refine k _ _ _ (g1.trans g2) ?_
      rw [← e1]
      refine newL g1.i hl (zip_dens fun z hz => ?_)
      obtain ⟨k, b, q1, q2, q3⟩ := e2 z hz
      rw [q1, q2]
      exact den_tkey (tups_at i q3)
    · cases e
  · split at e
    · rename_i ds es
      split at e
      · rename_i hok
        cases e
        exact .inr (meets_sorted_l i dv es hok k)
      · cases e
    · cases e
end DE

set_option Elab.async false
set_option linter.all false
set_option maxRecDepth 100000
set_option maxHeartbeats 4000000
/-! DE5b: the least key of a dict with tuple keys. -/
namespace DE
open PySem PySem.Spec PyProof.Rows L2
def rMinT : List V → Hp → VK → Prop := fun xs H Q => ∃ (d : Addr) (p : List Key × V) (kvs : List (List Key × V)), xs = [.ref d] ∧ H d = some (.dT (p :: kvs)) ∧ sortOk (((p :: kvs).map (·.1)).map tkeyD) = true ∧
  ∀ b, H b = some (.tup ((bestK ltK p.1 (kvs.map (·.1))).map kV)) → Q (.ref b) H
theorem paired_at {α β : Type} {R : α → β → Prop} : ∀ {xs : List α} {ys : List β}, Paired R xs ys → ∀ {i : Nat} {x : α} {y : β}, xs[i]? = some x → ys[i]? = some y → R x y
  | _, _, .nil, i, x, y, hx, _ => by simp at hx
  | _, _, .cons h t, 0, x, y, hx, hy => by
    cases hx
    cases hy
    exact h
  | _, _, .cons h t, i + 1, x, y, hx, hy => paired_at t (by simpa using hx) (by simpa using hy)
theorem call_minT {X : Cx} (hcalm : X.calm = true) (hu : X.A.units + 100 < cLine) : CallR X (.builtin "min") rMinT := by
  intro pins s σ H xs us Q I r h
  obtain ⟨d, p, kvs, rfl, hd, hok, q⟩ := h
  obtain ⟨u, rfl, rx⟩ := r.one
  cases rx
  obtain ⟨z, hs, ks, pr, o, es, ep, ho, hx, hdt, he, hn⟩ := (show ObjOk X.prog X.w H s.heap d (.dT (p :: kvs)) from I.hok d _ hd)
  have l1 : es.size = ks.length := size_of_entries he
  have l2 : kvs.length + 1 = ks.length := Paired.length pr
  obtain ⟨ok1, ok2, ok3⟩ := sortOk_ok hok
  have hkeys : IsKeys H (p :: kvs) (ks.map fun x => x.2.1) := isKeys_of pr
  -- what stands at a place
  have at_ : ∀ (i : Nat) (v : Value), (∃ en : DictEntry, es[i]? = some en ∧ v = en.key) → ∃ (k : List Key) (b : Addr), ((p :: kvs).map (·.1))[i]? = some k ∧ v = .ref b ∧ H b = some (.tup (k.map kV)) := fun i v ⟨en, hen, hv⟩ => by
    have qe := entry_at he i
    rw [hen] at qe
    cases hb : ks[i]? with
    | none =>
      rw [hb] at qe
      cases qe
    | some b =>
      rw [hb] at qe
      have e2 : en = entryOfKey (tupleKind (mixKind X.prog X.w)) b := Option.some.inj qe
      have hi : i < (p :: kvs).length := by
        have := (List.getElem?_eq_some_iff.mp hb).1
        rw [List.length_cons]
        omega
      refine ⟨((p :: kvs)[i]).1, b.2.1, by rw [List.getElem?_map, List.getElem?_eq_getElem hi]; rfl, by rw [hv, e2]; rfl, ?_⟩
      exact paired_at hkeys (List.getElem?_eq_getElem hi) (by rw [List.getElem?_map, hb]; rfl)
  have mem : ∀ {i : Nat} {k : List Key}, ((p :: kvs).map (·.1))[i]? = some k → tkeyD k ∈ ((p :: kvs).map (·.1)).map tkeyD := fun h => List.mem_map.mpr ⟨_, List.mem_of_getElem? h, rfl⟩
  refine PySem.MinAt.min_src (n := es.size) (J := fun h => ∀ b o, s.heap.get? b = some o → h.get? b = some o) (bt := fun i j => ltK (((p :: kvs).map (·.1)).getD i p.1) (((p :: kvs).map (·.1)).getD j p.1)) (kdl_raw hs hx hdt) (I.ok.hd hcalm) ho (by omega) (fun _ _ e => e) (fun h k => k) (fun i j vi vj s' Q' E' hj hi hj2 hq => ?_) fun v h' tk hp kp => ?_
  · obtain ⟨k1, b1, g1, rfl, t1⟩ := at_ i vi hi
    obtain ⟨k2, b2, g2, rfl, t2⟩ := at_ j vj hj2
    have I1 : Inv X pins σ H { s with heap := s'.heap, toks := s.toks } := I.kept hj
    have o1 := okDs_mem ok1 _ (mem g1)
    have o2 := okDs_mem ok1 _ (mem g2)
    obtain ⟨as1, r1⟩ := Dp.reads I1 _ _ _ (Den.dp (E := e0 X.K) _ 60 _ o1 (den_tkey t1)) (show RelV (.ref b1) (.ref b1) from rfl)
    obtain ⟨as2, r2⟩ := Dp.reads I1 _ _ _ (Den.dp (E := e0 X.K) _ 60 _ o2 (den_tkey t2)) (show RelV (.ref b2) (.ref b2) from rfl)
    have d1 := (okD_lay _ 60 o1).2
    have al : PySem.W.alike (pyD (tkeyD k1)) (pyD (tkeyD k2)) = true := ok2 _ (List.mem_map.mpr ⟨_, mem g1, rfl⟩) _ (List.mem_map.mpr ⟨_, mem g2, rfl⟩)
    have e1 : ((p :: kvs).map (·.1)).getD i p.1 = k1 := by rw [List.getD_eq_getElem?_getD, g1]; rfl
    have e2 : ((p :: kvs).map (·.1)).getD j p.1 = k2 := by rw [List.getD_eq_getElem?_getD, g2]; rfl
    change Q' (.bool (ltK (((p :: kvs).map (·.1)).getD i p.1) (((p :: kvs).map (·.1)).getD j p.1))) s' at hq
    rw [e1, e2] at hq
    refine PySem.W.rcLt_alike (pyD (tkeyD k1)) (pyD (tkeyD k2)) X.A.in1 s' (.ref b1) (.ref b2) as1 as2 r1 r2 al (fun z => nomatch (show PyData.tuple _ = PyData.none from z)) ?_ _ _ _ _ hq
    show X.A.units + 1 + _ < cLine
    have := Nat.min_le_left (pyD (tkeyD k1)).depth (pyD (tkeyD k2)).depth
    omega
  · obtain ⟨k1, b1, g1, rfl, t1⟩ := at_ _ v hp
    have fo := argBest_fold ltK p.1 (kvs.map (·.1)) (es.size - 1) (by rw [List.length_map]; omega)
    rw [List.take_of_length_le (by rw [List.length_map]; omega)] at fo
    have g1' : (p.1 :: kvs.map (·.1))[argBest (fun i j => ltK ((p.1 :: kvs.map (·.1)).getD i p.1) ((p.1 :: kvs.map (·.1)).getD j p.1)) (es.size - 1)]? = some k1 := g1
    rw [fo] at g1'
    cases g1'
    exact ⟨.ref b1, H, I.kept kp, rfl, q b1 t1⟩
def rMinX (K : PySem.W.Frag) : List V → Hp → VK → Prop := fun xs H Q => rMin2 xs H Q ∨ rMinT xs H Q ∨ rMin K xs H Q
theorem call_minX {X : Cx} (hc : X.calm = true) (hu : X.A.units + 100 < cLine) : CallR X (.builtin "min") (rMinX X.K) := CallR.or2 (call_min2 hc) (CallR.or2 (call_minT hc hu) (cr_min hc))
theorem meets_min {E : En} : MeetsC E (rMinX E.K) (biV .min) := fun G H H0 xs vs z Q i dx e k => by
  unfold biV at e
  split at e <;> try contradiction
  · rename_i x _
    obtain ⟨v, ev, dv⟩ := dens1 dx
    subst ev
    unfold minX at e
    split at e
    · rename_i ks ek
      split at e
      · rename_i hok
        obtain ⟨a, kvs, h1, h2, h3, h4⟩ := keysT_sq i dv ek
        subst h1 h3
        cases kvs with
        | nil => cases e
        | cons p kvs =>
          have e : some (RV.dat (tkeyD (bestK ltK p.1 (kvs.map (·.1))))) = some z := e
          cases e
          refine .inr (.inl ⟨a, p, kvs, rfl, h2, hok, fun b hb => ?_⟩)
          exact k _ _ _ (Gr.tups i) (den_tkey (tups_at i hb))
      · cases e
    · exact .inr (.inr (min_go i dv e k))
  · rename_i x y _
    obtain ⟨v, u, ev, dv, du⟩ := dens2 dx
    subst ev
    unfold min2V at e
    split at e
    · cases e
      cases (show v = _ from dv)
      cases (show u = _ from du)
      exact .inl ⟨_, _, rfl, k _ G H (Gr.refl i) rfl⟩
    · cases e
end DE

set_option Elab.async false
set_option linter.all false
set_option maxRecDepth 100000
set_option maxHeartbeats 4000000
/-! DE6: where a body runs (Cc), calls, isinstance, an error's fields. -/
namespace DE
open PySem PySem.Spec PyProof.Rows L2

/-- what a class of errors must say -/
structure EcC (K : PySem.W.Frag) (A : Addr) : Prop where
  hcl : (PySem.W.clsIn K A).isSome = true
  hga : PySem.W.findIn K (.ref A) "__getattribute__" = some (some (.builtin "BaseException.__getattribute__"))
  hgt : PySem.W.findIn K (.ref A) "__getattr__" = some none
  hsub : PySem.W.subIn K (.ref A) (.type "BaseException") = some true
  ha : PySem.W.findIn K (.ref A) "__class__" = some (some (.builtin "object.__class__"))
  hn : PySem.W.specialIn K (.builtin "object.__class__") "__get__" = some (some (.builtin "getset_descriptor.__get__"))
  htk : PySem.W.takesIn K (.builtin "object.__class__") = some true
  hm : PySem.W.mroIn K A (.type "object") = some true
  hd : PySem.W.hasDictIn K A = true
/-- the name x stands for the class cx -/
def ClOk (E : En) (x : Str) (cx : V) (cv : Value) : Prop := ClsV cx cv ∧ (E.mg x = some cv ∨ (E.mg x = none ∧ bootBuiltins x = some cv ∧ x ≠ "__name__"))
/-- the built-in names that a text may use -/
def bNames : List Str := ["len", "abs", "int", "tuple", "list", "sorted", "min", "max", "sum", "all", "any", "isinstance", "range", "bool", "str", "dict", "reversed", "ValueError"]
/-- the tables of classes -/
structure Tab (E : En) (C : Cfg) : Prop where
  isa : ∀ c x b, C.isa c x = some b → ∃ A cx cv, E.mg c = some (.ref A) ∧ EcC E.K A ∧ ClOk E x cx cv ∧ PySem.W.kitOne E.K (.ref A) cv = some b ∧ PySem.W.exmOne E.K (.ref A) cv = some b
  fld : ∀ c n, C.fld c n = true → ∃ A, E.mg c = some (.ref A) ∧ EcC E.K A ∧ PySem.W.findIn E.K (.ref A) n = some none
  blt : ∀ x ∈ bNames, E.mg x = none

/-! ### what a def promises, by data -/
def hid (H : Hp) (l : Addr) : Hp := fun a => if a = l then none else H a
theorem hid_ne {H : Hp} {l a : Addr} (h : a ≠ l) : hid H l a = H a := if_neg h
theorem hid_at {H : Hp} {l : Addr} : hid H l l = none := if_pos rfl
theorem hid_ex {H : Hp} {l : Addr} : Ex (hid H l) H := fun a o e => by
  by_cases h : a = l
  · rw [h, hid_at] at e
    cases e
  · rw [hid_ne h] at e
    exact e
theorem ex_hid {H0 H : Hp} {l : Addr} (h : Ex H0 H) (n : H0 l = none) : Ex H0 (hid H l) := fun a o e => by
  have ne : a ≠ l := fun z => by rw [z, n] at e; cases e
  rw [hid_ne ne]
  exact h a o e
def spN (E : En) (fn : Fn) : Sp := fun vs H Q Ee => ∃ ds G, Ex G H ∧ Dens E G ds vs ∧ ds.length = fn.n ∧ QA E (fun cls d _ H' => Ee cls d H') [] G H (fun r G' H' => isBr r = false ∧ ∀ v, DenR E G' H' H r v → Q v H') (fn.m ds)
/-- the first argument's object is its own -/
def spO (E : En) (fn : Fn) : Sp := fun vs H Q _ => ∃ ds G l o ws r, Ex G H ∧ vs = .ref l :: ws ∧ G l = none ∧ DenO E G H l o ∧ Dens E G ds ws ∧ ds.length + 1 = fn.n ∧ fn.m (o.d :: ds) = some (.ok r) ∧ isBr r = false ∧
  ∀ G' H', Gr G (hid H l) G' H' → ∀ v, DenR E G' H' (hid H l) r v → Q v H'
def spM (E : En) (fn : Fn) : Sp := fun vs H Q Ee => match fn.ow with
  | false => spN E fn vs H Q Ee
  | true => spO E fn vs H Q Ee
theorem spM_n {E : En} {fn : Fn} {vs : List V} {H : Hp} {Q : VK} {Ee : XK} (h : fn.ow = false) : spM E fn vs H Q Ee ↔ spN E fn vs H Q Ee := by unfold spM; rw [h]
theorem spM_o {E : En} {fn : Fn} {vs : List V} {H : Hp} {Q : VK} {Ee : XK} (h : fn.ow = true) : spM E fn vs H Q Ee ↔ spO E fn vs H Q Ee := by unfold spM; rw [h]
theorem spM_len {E : En} {fn : Fn} {vs : List V} {H : Hp} {Q : VK} {Ee : XK} (h : spM E fn vs H Q Ee) : vs.length = fn.n := by
  cases ho : fn.ow with
  | false =>
    obtain ⟨ds, G, _, h2, h3, _⟩ := (spM_n ho).mp h
    rw [h2.length, h3]
  | true =>
    obtain ⟨ds, G, l, o, ws, r, _, h1, _, _, h2, h3, _⟩ := (spM_o ho).mp h
    rw [h1, List.length_cons, h2.length, h3]
structure FnFact (P : Program) (w : World) (K : PySem.W.Frag) (mg : Str → Option Value) (base : Heap) (fn : Fn) (k : Nat) : Prop where
  ex : ∃ f fd ps, mg fn.name = some (.ref f) ∧ PySem.W.keepIn K (.ref f) = true ∧ Binds K fd ps [] ∧ FnOk P w K mg base (L2N.CX P w) k f fd ps (spM ⟨K, mg, none⟩ fn)
/-- a def that is called while an exception is handled; it lets none out -/
structure FnHx (P : Program) (w : World) (K : PySem.W.Frag) (mg : Str → Option Value) (base : Heap) (k : Nat) (f : Addr) (fd : FuncData) (ps : List Str) (fn : Fn) : Prop where
  run : ∀ (A : Around) (outer : List Env) (s : Shared) (H : Hp) (args : Args) (us : List Value) (vs : List V) (Q : VK) (p : Addr × Obj) (C dd : Addr), L2H.RoomH k A → L2H.Hot1 A p → L2H.PinOk outer H s p → p.2.cls = .ref C → p.2.dict = some dd → Env0 P w K mg base A outer s H →
    BindsTo s fd args (ps.zip us) → Vals vs us → us.length = ps.length → spM ⟨K, mg, some (p.1, C, dd)⟩ fn vs H Q (fun _ _ _ => False) → codeAny (model P w) A (.call (.ref f) args) (CR (L2N.CX P w) outer P w H s Q (fun _ _ _ => False)) s
  len : ps.length = fn.n
structure FnHFact (P : Program) (w : World) (K : PySem.W.Frag) (mg : Str → Option Value) (base : Heap) (fn : Fn) (k : Nat) : Prop where
  ex : ∃ f fd ps, mg fn.name = some (.ref f) ∧ PySem.W.keepIn K (.ref f) = true ∧ Binds K fd ps [] ∧ FnHx P w K mg base k f fd ps fn

abbrev enX (X : Cx) (px : Option (Addr × Addr × Addr)) : En := ⟨X.K, X.mg, px⟩
/-- the exception at hand is pinned -/
def HotP (X : Cx) (px : Option (Addr × Addr × Addr)) : Prop := ∃ a C dd oe, px = some (a, C, dd) ∧ (a, oe) ∈ X.pn ∧ L2H.Hot1 X.A (a, oe) ∧ oe.cls = .ref C ∧ oe.dict = some dd
inductive Mode (X : Cx) (px : Option (Addr × Addr × Addr)) (C : Cfg) (W : WX) (k : Nat) : Bool → Prop where
  | calm (hc : X.calm = true) (hp : px = none) (r : Room k X.A) (f : ∀ (j : Nat) (fn : Fn), C.T[j]? = some fn → FnFact X.prog X.w X.K X.mg X.base fn k) : Mode X px C W k false
  | hot (hW : W = fun _ _ _ _ => False) (h : HotP X px) (r : L2H.RoomH k X.A) (f : ∀ (j : Nat) (fn : Fn), C.T[j]? = some fn → FnHFact X.prog X.w X.K X.mg X.base fn k) : Mode X px C W k true
structure Cc (X : Cx) (px : Option (Addr × Addr × Addr)) (C : Cfg) (W : WX) (k : Nat) (hh : Bool) : Prop where
  nd : X.N.Nodup
  tk : L2N.Takes X W
  tab : Tab (enX X px) C
  mode : Mode X px C W k hh
section
variable {X : Cx} {px : Option (Addr × Addr × Addr)} {C : Cfg} {W : WX} {k : Nat} {hh : Bool}
theorem Cc.units (c : Cc X px C W k hh) : X.A.units + 100 < cLine := by
  cases c.mode with
  | calm _ _ r _ => have := r.un; omega
  | hot _ _ r _ => have := r.un; omega

/-! ### calls -/
theorem toDs_any {E : En} {G H H0 : Hp} : ∀ {rs : List RV} {vs : List V}, Ex G H → DenRs E G H H0 rs vs → ∃ G2, Ex G G2 ∧ Ex G2 H ∧ Dens E G2 (rs.map RV.d) vs ∧ ∀ a o, G2 a = some o → G a = none → (∀ vs, o ≠ .tup vs) ∧ ∀ fs, o ≠ .xd fs
  | [], vs, i, h => ⟨G, Ex.refl _, i, h, fun a o q1 q2 => by rw [q2] at q1; cases q1⟩
  | r :: rs, vs, i, h => by
    obtain ⟨v, ws, h1, h2, h3, _⟩ := h
    obtain ⟨G1, a1, a2, a3, a4⟩ := toDs_any i h3
    have hv : ∃ G2, Ex G1 G2 ∧ Ex G2 H ∧ Den E G2 r.d v ∧ ∀ a o, G2 a = some o → G a = none → (∀ vs, o ≠ .tup vs) ∧ ∀ fs, o ≠ .xd fs := by
      have go : ∀ {o : OV} {l : Addr}, v = .ref l → DenO E G H l o → ∃ G2, Ex G1 G2 ∧ Ex G2 H ∧ Den E G2 o.d v ∧ ∀ a o, G2 a = some o → G a = none → (∀ vs, o ≠ .tup vs) ∧ ∀ fs, o ≠ .xd fs := by
        intro o l hv ho
        subst hv
        have ho1 := ho.mono a1 (Ex.refl H)
        cases hg : G1 l with
        | none =>
          obtain ⟨u, k1, k2, k3, k4⟩ := ho1.frz a2 hg
          refine ⟨_, k2, k3, k4, fun a o' q1 q2 => ?_⟩
          by_cases ha : a = l
          · subst ha
            rw [upd_same] at q1
            cases q1
            obtain ⟨o3, m1, m2, m3⟩ := ho1.mb
            rw [k1] at m1
            cases m1
            exact ⟨m2, m3⟩
          · rw [upd_ne ha] at q1
            exact a4 a o' q1 q2
        | some u =>
          have hu := a2 l u hg
          cases o with
          | l ds =>
            obtain ⟨vs', q1, q2⟩ := ho1
            rw [hu] at q1
            cases q1
            exact ⟨G1, Ex.refl _, a2, ⟨l, vs', rfl, .inl (.inl hg), q2⟩, a4⟩
          | tT ks ds =>
            obtain ⟨vs', q1, q2, q3⟩ := ho1
            rw [hu] at q1
            cases q1
            exact ⟨G1, Ex.refl _, a2, ⟨l, vs', rfl, hg, q2, q3⟩, a4⟩
          | tK ks ds =>
            obtain ⟨vs', q1, q2, q3⟩ := ho1
            rw [hu] at q1
            cases q1
            exact ⟨G1, Ex.refl _, a2, ⟨l, vs', rfl, hg, q2, q3⟩, a4⟩
      cases r with
      | dat d => exact ⟨G1, Ex.refl _, a2, Den.mono a1 d v h2, a4⟩
      | fr o =>
        obtain ⟨l, e1, _, _, e2⟩ := h2
        exact go e1 e2
      | br o =>
        obtain ⟨l, e1, _, e2⟩ := h2
        exact go e1 e2
    obtain ⟨G2, b1, b2, b3, b4⟩ := hv
    exact ⟨G2, a1.trans b1, b2, ⟨v, ws, h1, b3, Dens.mono b1 _ _ a3⟩, b4⟩
/-- where no slot's own object is among them, what is frozen stays frozen -/
theorem toDs_new {E : En} {G H G1 H1 : Hp} : ∀ {rs : List RV} {vs : List V}, anyBr rs = false → Gr G H G1 H1 → DenRs E G1 H1 H rs vs → ∃ G2, Gr G H G2 H1 ∧ Ex G1 G2 ∧ Dens E G2 (rs.map RV.d) vs
  | [], vs, _, g, h => ⟨G1, g, Ex.refl _, h⟩
  | r :: rs, vs, hb, g, h => by
    obtain ⟨v, ws, h1, h2, h3, _⟩ := h
    have hb' : (isBr r || anyBr rs) = false := hb
    rw [Bool.or_eq_false_iff] at hb'
    obtain ⟨G2, a1, a2, a3⟩ := toDs_new hb'.2 g h3
    have go : ∀ {o : OV} {l : Addr}, v = .ref l → H l = none → DenO E G1 H1 l o → ∃ G3, Gr G H G3 H1 ∧ Ex G2 G3 ∧ Den E G3 o.d v := by
      intro o l hv h0 ho
      subst hv
      have ho1 := ho.mono a2 (Ex.refl H1)
      cases hg : G2 l with
      | none =>
        obtain ⟨u, k1, k2, k3, k4⟩ := ho1.frz a1.i hg
        refine ⟨_, ⟨a1.g.trans k2, a1.h, k3, fun b q1 q2 => ?_⟩, k2, k4⟩
        have hne : b ≠ l := fun z => q2.ne (by rw [z]; exact h0)
        rw [upd_ne hne]
        exact a1.n b q1 q2
      | some u =>
        have hu := a1.i l u hg
        cases o with
        | l ds =>
          obtain ⟨vs', q1, q2⟩ := ho1
          rw [hu] at q1
          cases q1
          exact ⟨G2, a1, Ex.refl _, l, vs', rfl, .inl (.inl hg), q2⟩
        | tT ks ds =>
          obtain ⟨vs', q1, q2, q3⟩ := ho1
          rw [hu] at q1
          cases q1
          exact ⟨G2, a1, Ex.refl _, l, vs', rfl, hg, q2, q3⟩
        | tK ks ds =>
          obtain ⟨vs', q1, q2, q3⟩ := ho1
          rw [hu] at q1
          cases q1
          exact ⟨G2, a1, Ex.refl _, l, vs', rfl, hg, q2, q3⟩
    have hv : ∃ G3, Gr G H G3 H1 ∧ Ex G2 G3 ∧ Den E G3 r.d v := by
      cases r with
      | dat d => exact ⟨G2, a1, Ex.refl _, Den.mono a2 d v h2⟩
      | fr o =>
        obtain ⟨l, e1, e0, _, e2⟩ := h2
        exact go e1 e0 e2
      | br o => exact absurd hb'.1 (by simp [isBr])
    obtain ⟨G3, b1, b2, b3⟩ := hv
    exact ⟨G3, b1, a2.trans b2, v, ws, h1, b3, Dens.mono b2 _ _ a3⟩
/-- the same, beside an object that is none of them -/
theorem toDs_but {E : En} {G H G1 H1 : Hp} {l0 : Addr} : ∀ {rs : List RV} {vs : List V}, anyBr rs = false → Gr G H G1 H1 → DenRs E G1 H1 H rs vs → G1 l0 = none → (∀ (i : Nat) (o : OV), rs[i]? = some (.fr o) → vs[i]? ≠ some (.ref l0)) → ∃ G2, Gr G H G2 H1 ∧ Ex G1 G2 ∧ Dens E G2 (rs.map RV.d) vs ∧ G2 l0 = none
  | [], vs, _, g, h, n0, _ => ⟨G1, g, Ex.refl _, h, n0⟩
  | r :: rs, vs, hb, g, h, n0, ap => by
    obtain ⟨v, ws, h1, h2, h3, _⟩ := h
    have hb' : (isBr r || anyBr rs) = false := hb
    rw [Bool.or_eq_false_iff] at hb'
    obtain ⟨G2, a1, a2, a3, a4⟩ := toDs_but hb'.2 g h3 n0 fun i o e => by
      have := ap (i + 1) o (by simpa using e)
      rw [h1] at this
      simpa using this
    have hv : ∃ G3, Gr G H G3 H1 ∧ Ex G2 G3 ∧ Den E G3 r.d v ∧ G3 l0 = none := by
      cases r with
      | dat d => exact ⟨G2, a1, Ex.refl _, Den.mono a2 d v h2, a4⟩
      | br o => exact absurd hb'.1 (by simp [isBr])
      | fr o =>
        obtain ⟨l, e1, e0, _, e2⟩ := h2
        have ne : l0 ≠ l := fun z => ap 0 o rfl (by rw [h1, e1, z]; rfl)
        have ho1 := e2.mono a2 (Ex.refl H1)
        subst e1
        cases hg : G2 l with
        | none =>
          obtain ⟨u, k1, k2, k3, k4⟩ := ho1.frz a1.i hg
          refine ⟨_, ⟨a1.g.trans k2, a1.h, k3, fun b q1 q2 => ?_⟩, k2, k4, by rw [upd_ne ne]; exact a4⟩
          have hne : b ≠ l := fun z => q2.ne (by rw [z]; exact e0)
          rw [upd_ne hne]
          exact a1.n b q1 q2
        | some u =>
          have hu := a1.i l u hg
          cases o with
          | l ds =>
            obtain ⟨vs', q1, q2⟩ := ho1
            rw [hu] at q1
            cases q1
            exact ⟨G2, a1, Ex.refl _, ⟨l, vs', rfl, .inl (.inl hg), q2⟩, a4⟩
          | tT ks ds =>
            obtain ⟨vs', q1, q2, q3⟩ := ho1
            rw [hu] at q1
            cases q1
            exact ⟨G2, a1, Ex.refl _, ⟨l, vs', rfl, hg, q2, q3⟩, a4⟩
          | tK ks ds =>
            obtain ⟨vs', q1, q2, q3⟩ := ho1
            rw [hu] at q1
            cases q1
            exact ⟨G2, a1, Ex.refl _, ⟨l, vs', rfl, hg, q2, q3⟩, a4⟩
    obtain ⟨G3, b1, b2, b3, b4⟩ := hv
    exact ⟨G3, b1, a2.trans b2, ⟨v, ws, h1, b3, Dens.mono b2 _ _ a3⟩, b4⟩
theorem gr_hid {G H G1 H1 G' H' : Hp} {l : Addr} (a : Gr G H G1 H1) (n : H l = none) (b : Gr G1 (hid H1 l) G' H') : Gr G H G' H' :=
  ⟨a.g.trans b.g, (ex_hid a.h n).trans b.h, b.i, fun x hg hm => b.n x (a.n x hg hm) (hm.mono (ex_hid a.h n))⟩
mutual
theorem flat_any {E : En} {G G' : Hp} (k : ∀ a vs, G a = some (.tup vs) → G' a = some (.tup vs)) : ∀ (d : D) (v : V), flatD d = true → Den E G d v → Den E G' d v
  | .non, v, _, h => h
  | .bl _, v, _, h => h
  | .int _, v, _, h => h
  | .str _, v, _, h => h
  | .tup ds, v, f, h => by
    obtain ⟨a, vs, h1, h2, h3⟩ := h
    exact ⟨a, vs, h1, k _ _ h2, flats_any k ds vs f h3⟩
  | .lst _, _, f, _ => nomatch f
  | .dicT _ _, _, f, _ => nomatch f
  | .dicK _ _, _, f, _ => nomatch f
  | .exc _ _ _, _, f, _ => nomatch f
theorem flats_any {E : En} {G G' : Hp} (k : ∀ a vs, G a = some (.tup vs) → G' a = some (.tup vs)) : ∀ (ds : List D) (vs : List V), flatDs ds = true → Dens E G ds vs → Dens E G' ds vs
  | [], vs, _, h => h
  | d :: ds, vs, f, h => by
    obtain ⟨v, r, h1, h2, h3⟩ := h
    have f' : (flatD d && flatDs ds) = true := f
    rw [Bool.and_eq_true] at f'
    exact ⟨v, r, h1, flat_any k d v f'.1 h2, flats_any k ds r f'.2 h3⟩
end
theorem flatR_any {E : En} {G G' H H0 : Hp} (k : ∀ a vs, G a = some (.tup vs) → G' a = some (.tup vs)) (kn : ∀ a, G a = none → G' a = none) {r : RV} {v : V} (f : flatR r = true) (x : DenR E G H H0 r v) : DenR E G' H H0 r v := by
  cases r with
  | dat d => exact flat_any k d v f x
  | fr o =>
    obtain ⟨l, e1, e0, e2, e3⟩ := x
    refine ⟨l, e1, e0, kn _ e2, ?_⟩
    cases o with
    | l ds => obtain ⟨vs, q1, q2⟩ := e3; exact ⟨vs, q1, flats_any k _ _ f q2⟩
    | tT ks ds => obtain ⟨vs, q1, q2, q3⟩ := e3; exact ⟨vs, q1, q2, flats_any k _ _ f q3⟩
    | tK ks ds => obtain ⟨vs, q1, q2, q3⟩ := e3; exact ⟨vs, q1, q2, flats_any k _ _ f q3⟩
  | br o => cases f
/-- what a call's frozen part had beyond ours is let go -/
def letGo (G1 G2 G' : Hp) : Hp := fun a => match G1 a, G2 a with
  | none, some _ => none
  | _, _ => G' a
theorem letGo_gr {G1 G2 G' H1 H' : Hp} (a1 : Ex G1 G2) (i1 : Ex G1 H1) (g' : Gr G2 H1 G' H') : Gr G1 H1 (letGo G1 G2 G') H' := by
  refine ⟨fun a o q => ?_, g'.h, fun a o q => ?_, fun b q1 q2 => ?_⟩
  · unfold letGo
    rw [q]
    exact g'.g _ _ (a1 _ _ q)
  · unfold letGo at q
    split at q
    · cases q
    · exact g'.i _ _ q
  · unfold letGo
    cases e : G2 b with
    | none => simp only [q1]; exact g'.n b e q2
    | some u => simp only [q1]
theorem letGo_tup {G1 G2 G' H1 H' : Hp} (g' : Gr G2 H1 G' H') (a4 : ∀ a o, G2 a = some o → G1 a = none → (∀ vs, o ≠ .tup vs) ∧ ∀ fs, o ≠ .xd fs) (a : Addr) (u : HO) (hu : (∃ vs, u = .tup vs) ∨ ∃ fs, u = .xd fs) (e : G' a = some u) : letGo G1 G2 G' a = some u := by
  unfold letGo
  split
  · rename_i o q1 q2
    have h := g'.g _ _ q2
    rw [e] at h
    cases h
    obtain ⟨m1, m2⟩ := a4 _ _ q2 q1
    rcases hu with ⟨vs, rfl⟩ | ⟨fs, rfl⟩
    · exact absurd rfl (m1 vs)
    · exact absurd rfl (m2 fs)
  · exact e
/-- the arguments handed to a def whose promise is by data -/
theorem call_go {E : En} {fn : Fn} {σ : L2.St} {G H G1 H1 : Hp} {rs : List RV} {vs : List V} {Q : VK} (g : Gr G H G1 H1) (dv : DenRs E G1 H1 H rs vs) (h : QA E W σ G H (RE E H Q) (callV fn rs)) :
    spM E fn vs H1 Q (fun cls d H' => W cls d σ H') := by
  cases ho : fn.ow with
  | true =>
    unfold callV callO at h
    rw [ho] at h
    refine (spM_o ho).mpr ?_
    cases rs with
    | nil => exact h.elim
    | cons r0 rs =>
      cases r0 with
      | dat d => exact h.elim
      | br o => exact h.elim
      | fr o =>
        have h : QA E W σ G H (RE E H Q) (giveO fn o rs) := h
        unfold giveO at h
        split at h
        · rename_i hn
          obtain ⟨v, ws, e1, ⟨l, e2, e3, e4, e5⟩, dr, ap⟩ := dv
          subst e1 e2
          obtain ⟨G2, a1, a2, a3, a4⟩ := toDs_but hn.2 g dr e4 fun i o' e => ap ⟨o, rfl⟩ i o' e
          cases hm : fn.m (o.d :: rs.map RV.d) with
          | none => rw [hm] at h; exact h.elim
          | some y =>
            rw [hm] at h
            cases y with
            | error e => exact h.elim
            | ok r =>
              have h : QA E W σ G H (RE E H Q) (if isBr r = true then none else some (.ok r)) := h
              cases hr : isBr r with
              | true => rw [hr, if_pos rfl] at h; exact h.elim
              | false =>
                rw [hr, if_neg (by decide)] at h
                exact ⟨rs.map RV.d, G2, l, o, ws, r, a1.i, rfl, a4, e5.mono a2 (Ex.refl _), a3, by rw [List.length_map]; exact hn.1, hm, hr, fun G' H' g' v dv' => h G' H' (gr_hid a1 e3 g') v (dv'.back (ex_hid a1.h e3))⟩
        · exact h.elim
  | false =>
  refine (spM_n ho).mpr ?_
  unfold callV at h
  rw [ho] at h
  unfold callN at h
  dsimp only at h
  split at h
  · rename_i hn
    cases hb : anyBr rs with
    | false =>
      obtain ⟨G2, a1, a2, a3⟩ := toDs_new hb g dv
      refine ⟨rs.map RV.d, G2, a1.i, a3, by rw [List.length_map]; exact hn, ?_⟩
      rw [hb] at h
      cases hm : fn.m (rs.map RV.d) with
      | none => rw [hm] at h; exact h.elim
      | some y =>
        rw [hm] at h
        cases y with
        | error e =>
          have h' : QA E W σ G H (RE E H Q) (some (.error e)) := by simpa using h
          intro cls d G' H' g' dx
          exact h' cls d G' H' (a1.trans g') dx
        | ok r =>
          cases hr : isBr r with
          | true => simp only [hr, true_or, if_true] at h; exact h.elim
          | false =>
            have h' : QA E W σ G H (RE E H Q) (some (.ok r)) := by simpa [hr] using h
            intro G' H' g'
            exact ⟨hr, fun v dr => h' G' H' (a1.trans g') v (dr.back g.h)⟩
    | true =>
      obtain ⟨G2, a1, a2, a3, a4⟩ := toDs_any g.i dv
      refine ⟨rs.map RV.d, G2, a2, a3, by rw [List.length_map]; exact hn, ?_⟩
      rw [hb] at h
      cases hm : fn.m (rs.map RV.d) with
      | none => rw [hm] at h; exact h.elim
      | some y =>
        rw [hm] at h
        cases y with
        | error e =>
          cases hs : flatDs e.fs with
          | false => simp only [hs, and_self, if_true] at h; exact h.elim
          | true =>
            have h' : QA E W σ G H (RE E H Q) (some (.error e)) := by simpa [hs] using h
            intro cls d G' H' g' dx
            obtain ⟨K, dd, fs, x1, x2, x3, x4, x5, x6⟩ := dx
            exact h' cls d (letGo G1 G2 G') H' (g.trans (letGo_gr a1 g.i g')) ⟨K, dd, fs, x1, x2, x3, letGo_tup g' a4 _ _ (.inr ⟨_, rfl⟩) x4, x5, flats_any (fun a vs q => letGo_tup g' a4 _ _ (.inl ⟨_, rfl⟩) q) _ _ hs x6⟩
        | ok r =>
          cases hr : isBr r with
          | true => simp only [hr, true_or, if_true] at h; exact h.elim
          | false =>
            cases hs : flatR r with
            | false => simp only [hs, hr, and_self, or_true, if_true] at h; exact h.elim
            | true =>
              have h' : QA E W σ G H (RE E H Q) (some (.ok r)) := by simpa [hr, hs] using h
              intro G' H' g'
              refine ⟨hr, fun v dr => h' (letGo G1 G2 G') H' (g.trans (letGo_gr a1 g.i g')) v (flatR_any (fun a vs q => letGo_tup g' a4 _ _ (.inl ⟨_, rfl⟩) q) (fun a q => ?_) hs (dr.back g.h))⟩
              unfold letGo
              split
              · rfl
              · exact q
  · exact h.elim

/-- a call in the suite -/
theorem run_fnX {X : Cx} {k : Nat} {f C dd : Addr} {fd : FuncData} {ps : List Str} {fn : Fn} {p : Addr × Obj} {pins : List (Addr × Obj)} {σ : L2.St} {H : Hp} {s : Shared} {Q : VK} {us : List Value} {vs : List V} (F : FnHx X.prog X.w X.K X.mg X.base k f fd ps fn) (hr : L2H.RoomH k X.A)
    (hot : L2H.Hot1 X.A p) (hp : p ∈ X.pn) (hC : p.2.cls = .ref C) (hd : p.2.dict = some dd) (hb : Binds X.K fd ps []) (hx : PassesAt (L2N.CX X.prog X.w) X σ (fun _ _ _ => False))
    (I : Inv X pins σ H s) (r : Vals vs us) (h : spM ⟨X.K, X.mg, some (p.1, C, dd)⟩ fn vs H Q (fun _ _ _ => False)) : wpAny (model X.prog X.w) X.A (call (.ref f) us) (EP X pins σ Q) X.xe s := by
  have hl : us.length = ps.length := by
    rw [← r.length, F.len]
    exact spM_len h
  have b := hb s us I.kIn (by rw [List.append_nil]; exact hl)
  rw [List.append_nil] at b
  have P1 := I.pin p (List.mem_append_left _ hp)
  have hpin : L2H.PinOk X.stack H s p := ⟨P1.1, P1.2.1, fun hm => (List.mem_cons.mp (I.stkSub p.1 hm)).elim P1.2.2.1 P1.2.2.2.1, P1.2.2.2.2⟩
  refine wpAny_call (codeAny_mono (F.run X.A X.stack s H ⟨us, []⟩ us vs Q p C dd hr hot hpin hC hd I.env0 b r hl h) fun r s' hq => ?_)
  cases r with
  | error e => exact hx pins H s e s' I hq
  | ok fl =>
    cases fl with
    | ret u => exact I.after hq
    | next => exact False.elim hq
    | brk => exact False.elim hq
    | cont => exact False.elim hq
/-- f(e, ..), f a def of the text -/
theorem pe_callD (c : Cc X px C W k hh) {j : Nat} {fn : Fn} {e : Expr} {es : List Expr} {p pos : Pos} {f : Rho → Ans (List RV)} (hj : C.T[j]? = some fn) (hg : Gl X fn.name) (hdb : (fn.name == ("__debug__" : Str)) = false) (ha : PA X (e :: es) (cA (enX X px) W f))
    (he : starEach (e :: es) X.env = (false, eval e X.env) :: starEach es X.env) (hpl : (backTo pos (starEach es X.env)).any (·.1) = false) :
    PE X (.Call (.Name fn.name p) (e :: es) [] pos) (cE (enX X px) W fun ρ => bindR (f ρ) fun rs => callV fn rs) := by
  have hx : ∀ σ, PassesAt (L2N.CX X.prog X.w) X σ (L2.WE W σ) := fun σ => L2N.passAt c.tk σ
  have key : ∀ {σ : L2.St} {H : Hp} {Q : VK}, cE (enX X px) W (fun ρ => bindR (f ρ) fun rs => callV fn rs) σ H Q → cA (enX X px) W f σ H fun vs H1 => spM (enX X px) fn vs H1 Q (L2.WE W σ) := by
    intro σ H Q h
    obtain ⟨B, ρ, G, i, rp, h⟩ := h
    exact ⟨B, ρ, G, i, rp, h.bind0.imp fun rs G1 H1 g1 q vs dv => call_go g1 dv q⟩
  cases c.mode with
  | calm hc hp r F =>
    obtain ⟨⟨fa, fd, ps, hm, hk, hb, F⟩⟩ := F j fn hj
    subst hp
    exact pe_imp (pe_callS (E := L2.WE W) F r hg hm hk hb hx ha hdb he hpl) fun σ H Q h => key h
  | hot hW hh r F =>
    obtain ⟨⟨fa, fd, ps, hm, hk, hb, F⟩⟩ := F j fn hj
    obtain ⟨a, K, dd, oe, e1, e2, e3, e4, e5⟩ := hh
    subst hW
    subst e1
    refine ⟨fun pins s σ H Q I h => ?_⟩
    refine wpAny_Call_Name_kw (ld_glob I hg hm ?_ hdb)
    refine PySem.W.callWith_K (h₀ := X.base) I.ok.mod.kin hk (thn (ha.run pos pins s σ H _ I (key h)) fun us s1 ⟨vs, H1, I1, r1, q⟩ => ⟨I1.kIn, ?_⟩) he hpl
    exact run_fnX (p := (a, oe)) F r e3 e2 e4 e5 hb (hx σ) I1 r1 q
end
end DE

set_option Elab.async false
set_option linter.all false
set_option maxRecDepth 100000
set_option maxHeartbeats 4000000
/-! DE6b: isinstance, an error's fields. -/
namespace DE
open PySem PySem.Spec PyProof.Rows L2
section
variable {X : Cx} {px : Option (Addr × Addr × Addr)} {C : Cfg} {W : WX} {k : Nat} {hh : Bool}
theorem Cc.pinned (c : Cc X px C W k hh) {a K dd : Addr} (e : px = some (a, K, dd)) : ∃ oe, (a, oe) ∈ X.pn ∧ L2H.Hot1 X.A (a, oe) ∧ oe.cls = .ref K ∧ oe.dict = some dd := by
  cases c.mode with
  | calm _ hp _ _ => rw [hp] at e; cases e
  | hot _ h _ _ =>
    obtain ⟨a', K', dd', oe, e1, e2, e3, e4, e5⟩ := h
    rw [e1] at e
    cases e
    exact ⟨oe, e2, e3, e4, e5⟩
theorem inst_at {pins : List (Addr × Obj)} {σ : L2.St} {H : Hp} {s : Shared} {a K dd : Addr} {fs : List (Str × V)} (c : Cc X px C W k hh) (e : px = some (a, K, dd)) (I : Inv X pins σ H s) (hd : H dd = some (.xd fs)) :
    ∃ (oe od : Obj) (mA : Str → Option Value), PySem.W.InstAt s.heap a oe K (some od) ∧ (∀ name, PySem.W.lookIn name od = some (mA name)) ∧ ∀ n, RelO (fs.lookup n) (mA n) := by
  obtain ⟨oe, hp, hot, hc, hdd⟩ := c.pinned e
  obtain ⟨ha, _⟩ := I.pin (a, oe) (List.mem_append_left _ hp)
  obtain ⟨_, vs, hv, _⟩ := hot
  have hx : ObjOk X.prog X.w H s.heap dd (.xd fs) := I.hok dd _ hd
  obtain ⟨mA, hns, hr⟩ := hx
  obtain ⟨od, ho, hl⟩ := lookIn_ns hns
  exact ⟨oe, od, mA, ⟨ha, hc, by unfold PySem.W.notCls; rw [hv] <;> rfl, by rw [hdd]; exact ho⟩, hl, hr⟩
/-! ### isinstance -/
def tyVal : Ty → String
  | .non => "NoneType" | .bool => "bool" | .int => "int" | .str => "str" | .tup => "tuple" | .lst => "list" | .dict => "dict"
theorem ty_den {E : En} {G H : Hp} {d : D} {v : V} {t : Ty} (i : Ex G H) (h : Den E G d v) (e : tyD d = some t) : TyX E.K H v (.type (tyVal t)) := by
  cases d with
  | non => cases e; rw [(show v = _ from h)]; exact .base .non
  | bl b => cases e; rw [(show v = _ from h)]; exact .base (.bl b)
  | int b => cases e; rw [(show v = _ from h)]; exact .base (.int b)
  | str b => cases e; rw [(show v = _ from h)]; exact .base (.str b)
  | tup ds => cases e; obtain ⟨a, vs, rfl, h2, _⟩ := h; exact .base (.tup (i _ _ h2))
  | lst ds =>
    cases e
    obtain ⟨a, vs, rfl, h2, _⟩ := h
    rcases h2 with (h2 | ⟨o, h2⟩) | ⟨o, its, n, h2, h3, _⟩
    · exact .base (.lst (i _ _ h2))
    · exact .base (.frz (i _ _ h2))
    · exact .kList h2 h3
  | dicT ks ds => cases e; obtain ⟨a, kvs, rfl, h2, _⟩ := h; exact .base (.dT (i _ _ h2))
  | dicK ks ds => cases e; obtain ⟨a, kvs, rfl, h2, _⟩ := h; exact .base (.dK (i _ _ h2))
  | exc c ns ds => cases e
theorem ty_denR {E : En} {G H H0 : Hp} {x : RV} {v : V} {t : Ty} (i : Ex G H) (h : DenR E G H H0 x v) (e : tyD x.d = some t) : TyX E.K H v (.type (tyVal t)) := by
  have go : ∀ {o : OV} {l : Addr}, v = .ref l → DenO E G H l o → tyD o.d = some t → TyX E.K H v (.type (tyVal t)) := by
    intro o l hv ho e
    subst hv
    cases o with
    | l ds => cases e; obtain ⟨vs, q1, _⟩ := ho; exact .base (.lst q1)
    | tT ks ds => cases e; obtain ⟨vs, q1, _⟩ := ho; exact .base (.dT q1)
    | tK ks ds => cases e; obtain ⟨vs, q1, _⟩ := ho; exact .base (.dK q1)
  cases x with
  | dat d => exact ty_den i h e
  | fr o => obtain ⟨l, e1, _, _, e2⟩ := h; exact go e1 e2 e
  | br o => obtain ⟨l, e1, _, e2⟩ := h; exact go e1 e2 e
def Cl.ty : Cl → String
  | .int => "int" | .bool => "bool" | .str => "str" | .tup => "tuple" | .lst => "list" | .dict => "dict" | .own _ => ""
theorem isTy_kit {t : Ty} {c : Cl} {b : Bool} (e : isTy t c = some b) : kitB (tyVal t) c.ty = some b := by
  cases t <;> cases c <;> (first | (cases e; decide +kernel) | exact nomatch e)
/-- a class's name as a value -/
def tCls (E : En) (y : Str) : TE := fun _ H Q => ∃ cx cv, ClOk E y cx cv ∧ Q cx H
theorem pe_cls {y : Str} {p : Pos} (hg : Gl X y) (hdb : (y == ("__debug__" : Str)) = false) : PE X (.Name y p) (tCls (enX X px) y) := by
  refine ⟨fun pins s σ H Q I h => ?_⟩
  obtain ⟨cx, cv, ⟨hc, ho⟩, q⟩ := h
  have hr : RelV cx cv := by
    cases hc with
    | ty n => rfl
    | own a => rfl
  rcases ho with h | ⟨h1, h2, h3⟩
  · exact (pe_glob hg h hr hdb).run pins s σ H Q I q
  · exact (pe_bltn hg h1 h2 hr h3 hdb).run pins s σ H Q I q
def rIsX0 (E : En) : List V → Hp → VK → Prop := fun xs H Q => ∃ (a K dd : Addr) (fs : List (Str × V)) (c : V) (u : Value) (b : Bool), xs = [.ref a, c] ∧ E.px = some (a, K, dd) ∧ H dd = some (.xd fs) ∧ EcC E.K K ∧ ClsV c u ∧ PySem.W.kitOne E.K (.ref K) u = some b ∧ Q (.bl b) H
def rIsiX (E : En) : List V → Hp → VK → Prop := fun xs H Q => rIsi E.K xs H Q ∨ rIsX0 E xs H Q
theorem call_isiX (c : Cc X px C W k hh) : CallR X (.builtin "isinstance") (rIsiX (enX X px)) := CallR.or2 call_isi fun pins s σ H xs us Q I r h => by
  obtain ⟨a, K, dd, fs, cx, u, b, rfl, e, hd, ec, hc, kk, q⟩ := h
  obtain ⟨u1, u2, rfl, r1, r2⟩ := vals2 r
  cases (show u1 = Value.ref a from r1)
  have e2 := hc.eq r2
  subst e2
  obtain ⟨oe, od, mA, J, _, _⟩ := inst_at c e I hd
  exact PySem.W.kia_one (PySem.W.kitx_exc ec.hcl ec.hga ec.hgt ec.hsub ec.ha ec.hn ec.htk ec.hm) I.kIn J kk (fun z => nomatch z) fun tk => ⟨.bl b, H, I.tok tk, rfl, q⟩
theorem boot_cl {c : Cl} (h : ∀ x, c ≠ .own x) : c.nm ∈ bNames ∧ bootBuiltins c.nm = some (.type c.ty) ∧ c.nm ≠ "__name__" := by
  cases c with
  | own x => exact absurd rfl (h x)
  | _ => exact ⟨by decide +kernel, by decide +kernel, by decide +kernel⟩
theorem isiV_exc {isa : Str → Str → Option Bool} {x : RV} {cl : Cl} {b : Bool} (h : tyD x.d = none) (e : isiV isa x cl = some b) : ∃ kc ns fs cc, x.d = .exc kc ns fs ∧ cl = .own cc ∧ isa kc cc = some b := by
  unfold isiV at e
  rw [h] at e
  simp only at e
  split at e
  · rename_i kc ns fs cc hx
    exact ⟨kc, ns, fs, cc, hx, rfl, e⟩
  · cases e
theorem pe_isi (c : Cc X px C W k hh) {a : Expr} {y : Str} {cl : Cl} {p p2 pos : Pos} {f : Rho → EvR} (hg : Gl X "isinstance") (hgy : Gl X y) (hdb : (y == ("__debug__" : Str)) = false) (hy : cl.nm = y) (ha : PE X a (cE (enX X px) W f))
    (he : starEach [a, .Name y p2] X.env = (false, eval a X.env) :: starEach [.Name y p2] X.env) :
    PE X (.Call (.Name "isinstance" p) [a, .Name y p2] [] pos) (cE (enX X px) W fun ρ => bindR (f ρ) fun x => optR (blR (isiV C.isa x cl))) := by
  have pa : PA X [a, .Name y p2] (tCons (cE (enX X px) W f) (tCons (tCls (enX X px) y) tNil)) := pa_cons ha (pa_cons (pe_cls (px := px) hgy hdb) pa_nil) he
  refine pe_imp (pe_callB (e := a) (es := [.Name y p2]) (call_isiX c) hg (c.tab.blt _ (by decide +kernel)) (by decide +kernel) pa (by decide) (by decide) he rfl) fun σ H Q h => ?_
  obtain ⟨B, ρ, G, i, rp, h⟩ := h
  refine cE_step i rp h fun v x G1 H1 g1 r1 d1 h1 => ?_
  obtain ⟨z, e, q⟩ := h1.opt
  cases eb : isiV C.isa x cl with
  | none => rw [eb] at e; cases e
  | some b =>
    rw [eb] at e
    cases e
    have q0 : Q (.bl b) H1 := q G1 H1 (Gr.refl g1.i) _ rfl
    cases ht : tyD x.d with
    | some t =>
      have e3 : isTy t cl = some b := by
        unfold isiV at eb
        rw [ht] at eb
        exact eb
      have hno : ∀ x, cl ≠ .own x := fun z w => by rw [w] at e3; cases t <;> cases e3
      obtain ⟨b1, b2, b3⟩ := boot_cl hno
      refine ⟨.ty cl.ty, .type cl.ty, ⟨.ty _, .inr ⟨by rw [← hy]; exact c.tab.blt _ b1, by rw [← hy]; exact b2, by rw [← hy]; exact b3⟩⟩, ?_⟩
      exact .inl ⟨v, .ty cl.ty, .type (tyVal t), .type cl.ty, b, rfl, .ty _, ty_denR g1.i d1 ht, kit_ty (isTy_kit e3), q0⟩
    | none =>
      obtain ⟨kc, ns, fs, cc, hx, hcc, eb2⟩ := isiV_exc ht eb
      subst hcc
      obtain ⟨A, cx, cv, t1, t2, t3, t4, t5⟩ := c.tab.isa _ _ _ eb2
      refine ⟨cx, cv, by rw [← hy]; exact t3, ?_⟩
      cases x with
      | dat d =>
        have hx : d = .exc kc ns fs := hx
        subst hx
        obtain ⟨a0, K0, dd, fs', e1, e2, e3, e4, e5, e6⟩ := d1
        subst e1
        have eA : A = K0 := Value.ref.inj (Option.some.inj (t1.symm.trans e3))
        subst eA
        exact .inr ⟨a0, A, dd, fs', cx, cv, b, rfl, e2, g1.i _ _ e4, t2, t3.1, t4, q0⟩
      | fr o => cases o <;> cases hx
      | br o => cases o <;> cases hx
/-! ### an error's field -/
theorem fld_get {E : En} {G : Hp} : ∀ {fs : List (Str × V)} {ds : List D} {f : Str} {d : D}, Dens E G ds (fs.map (·.2)) → fldD (fs.map (·.1)) ds f = some d → ∃ v, fs.lookup f = some v ∧ Den E G d v
  | [], _, _, _, _, e => by simp [fldD] at e
  | (n, v) :: fs, ds, f, d, h, e => by
    cases ds with
    | nil => simp [fldD] at e
    | cons d0 ds =>
      obtain ⟨v', r, h1, h2, h3⟩ := h
      have h1' : v :: fs.map (·.2) = v' :: r := h1
      cases h1'
      have e' : (if f = n then some d0 else fldD (fs.map (·.1)) ds f) = some d := e
      by_cases hf : f = n
      · rw [if_pos hf] at e'
        cases e'
        exact ⟨v, by rw [List.lookup_cons, hf]; simp, h2⟩
      · rw [if_neg hf] at e'
        obtain ⟨w, q1, q2⟩ := fld_get h3 e'
        refine ⟨w, ?_, q2⟩
        rw [List.lookup_cons]
        have : (f == n) = false := by simpa using hf
        rw [this]
        exact q1
theorem pe_attrX (c : Cc X px C W k hh) {e : Expr} {n : Str} {pos : Pos} {f : Rho → EvR} (he : PE X e (cE (enX X px) W f)) (hb : attributeBase e n X.env (eval e X.env) = eval e X.env) :
    PE X (.Attribute e n pos) (cE (enX X px) W fun ρ => bindR (f ρ) fun x => optR (attrV C.fld x n)) := by
  refine ⟨fun pins s σ H Q I h => ?_⟩
  obtain ⟨B, ρ, G, i, rp, h⟩ := h
  refine attr_of hb (thn (he.run pins s σ H _ I (cE_step (Q := fun v H1 => ∃ (x : RV) (G1 : Hp), Ex G1 H1 ∧ DenR (enX X px) G1 H1 H x v ∧ ∃ z, attrV C.fld x n = some z ∧ ∀ u, DenR (enX X px) G1 H1 H z u → Q u H1) i rp h fun v x G1 H1 g1 r1 d1 h1 => by
      obtain ⟨z, e1, q⟩ := h1.opt
      exact ⟨x, G1, g1.i, d1, z, e1, fun u du => q G1 H1 (Gr.refl g1.i) u du⟩)) fun u s1 hh => ?_)
  obtain ⟨v, H1, I1, rv, x, G1, i1, d1, z, e1, q⟩ := hh
  unfold attrV at e1
  split at e1
  · rename_i kc ns fs
    split at e1
    · rename_i hf
      split at e1
      · rename_i d ed
        cases e1
        obtain ⟨a0, K, dd, fs', x1, x2, x3, x4, x5, x6⟩ := d1
        subst x1
        rw [← x5] at ed
        obtain ⟨w, w1, w2⟩ := fld_get x6 ed
        obtain ⟨A, t1, t2, t3⟩ := c.tab.fld _ _ hf
        rw [x3] at t1
        cases t1
        obtain ⟨oe, od, mA, J, hl, hr⟩ := inst_at c x2 I1 (i1 _ _ x4)
        obtain ⟨u', hu, ru⟩ := RelO.some_of (v := w) (o := mA n) (by rw [← w1]; exact hr n)
        obtain rfl : u = Value.ref a0 := rv
        exact HandSPX.exc_get I1.kIn J t2.hga t2.hgt t2.hsub (PySem.W.findObj_own t2.hd t3 rfl (by rw [hl, hu])) (handed_of ru) ⟨w, H1, I1.tok _, ru, q w w2⟩
      · cases e1
    · cases e1
  · cases e1
end
end DE

set_option Elab.async false
set_option linter.all false
set_option maxRecDepth 100000
set_option maxHeartbeats 4000000
/-! DE7: what a tree's look gives: expressions. -/
namespace DE
open PySem PySem.Spec PyProof.Rows L2

/-! ### the looks -/
theorem vis_of {X : Cx} {sc : Scope} {x : Str} (e : X.env.scope = sc) (h : visB sc x = true) : Vis X.env.scope x := by
  unfold visB at h
  rw [e]
  unfold Vis
  split at h
  · rename_i q; exact .inl q
  · rename_i q; exact .inr (.inl q)
  · rename_i q; exact .inr (.inr q)
  · cases h
theorem loc_of {X : Cx} {sc : Scope} {x : Str} (e : X.env.scope = sc) (h : locB sc x = true) : L2.Loc X.env.scope x := by
  unfold locB at h
  rw [e]
  unfold L2.Loc
  split at h
  · rename_i q; exact .inl q
  · rename_i q; exact .inr q
  · cases h
theorem gl_of {X : Cx} {sc : Scope} {x : Str} (e : X.env.scope = sc) (h : glB sc x = true) : Gl X x ∧ (x == ("__debug__" : Str)) = false ∧ x ≠ "__name__" := by
  unfold glB at h
  simp only [Bool.and_eq_true, decide_eq_true_eq, Bool.not_eq_true'] at h
  obtain ⟨⟨h1, h2⟩, h3⟩ := h
  refine ⟨?_, h2, fun z => ?_⟩
  · show X.env.scope.names.lookup x = _
    rw [e]
    exact h1
  · rw [z] at h3
    exact absurd h3 (by decide)
section
variable {N : List Str} {C : Cfg} {h : Bool} {sc : Scope}
theorem ck_star {ie : IE} {e : Expr} (k : ckE N C h sc ie e = true) : notStar e = true := by
  cases e with
  | Starred a b => cases ie <;> simp [ckE] at k
  | _ => rfl
theorem star_cons {e : Expr} {es : List Expr} {env : Env} (k : notStar e = true) : starEach (e :: es) env = (false, eval e env) :: starEach es env := by
  cases e with
  | Starred a b => cases k
  | _ => rfl
theorem ck_slice {ie : IE} {e : Expr} (k : ckE N C h sc ie e = true) : PlainIx e := by
  intro o i
  cases e with
  | Slice a b c d => cases ie <;> simp [ckE] at k
  | _ => rfl
theorem ckA_stars : ∀ {as : IA} {es : List Expr} {env : Env}, ckA N C h sc as es = true → ∀ p ∈ starEach es env, p.1 = false
  | .nil, [], _, _, p, hp => by cases hp
  | .nil, _ :: _, _, k, _, _ => by simp [ckA] at k
  | .cons a r, [], _, k, _, _ => by simp [ckA] at k
  | .cons a r, e :: es, env, k, p, hp => by
    simp only [ckA, Bool.and_eq_true] at k
    rw [star_cons (ck_star k.1)] at hp
    rcases List.mem_cons.mp hp with rfl | hp
    · rfl
    · exact ckA_stars k.2 p hp
theorem plain_args {as : IA} {es : List Expr} {env : Env} {pos : Pos} (k : ckA N C h sc as es = true) : (backTo pos (starEach es env)).any (·.1) = false := by
  rw [List.any_eq_false]
  intro p hp
  unfold backTo at hp
  obtain ⟨⟨b, t⟩, hq, rfl⟩ := List.mem_map.mp hp
  have := ckA_stars k _ hq
  simp only at this ⊢
  rw [this]
  simp
theorem base_of {ie : IE} {e : Expr} {n : Str} {env : Env} (k : ckE N C h sc ie e = true) : attributeBase e n env (eval e env) = eval e env := by
  cases e with
  | Call f as ks pos =>
    cases f with
    | Name id p =>
      cases as with
      | nil => cases ie <;> simp [ckE] at k
      | cons a as => unfold attributeBase; rfl
    | _ => unfold attributeBase; rfl
  | _ => unfold attributeBase; rfl
theorem nomark_ck {ie : IE} {e : Expr} {op : CmpOp} (k : ckE N C h sc ie e = true) : behindInMarks op e = false := by
  cases e with
  | Set a b c => cases ie <;> simp [ckE] at k
  | _ => rfl
end

/-! ### the cases -/
section
variable {X : Cx} {px : Option (Addr × Addr × Addr)} {C : Cfg} {W : WX} {k : Nat} {hh : Bool} {a b d : Expr} {pos : Pos} {f g : Rho → EvR}
abbrev CE' (X : Cx) (px : Option (Addr × Addr × Addr)) (W : WX) (f : Rho → EvR) : TE := cE (enX X px) W f
theorem c_var {i : Nat} {x : Str} (hN : X.N[i]? = some x) (hv : Vis X.env.scope x) (hd : (x == ("__debug__" : Str)) = false) (hc : (x == ("__classdict__" : Str)) = false) : PE X (.Name x pos) (cE (enX X px) W (evE C (.var i))) := by
  refine pe_imp (pe_var hN hv hd hc) fun σ H Q q => ?_
  obtain ⟨B, ρ, G, i', r, q⟩ := q
  unfold evE at q
  split at q
  · rename_i d e
    obtain ⟨v, e1, dv⟩ := r.at_ _ _ e
    exact ⟨v, e1, q G H (Gr.refl i') v dv⟩
  · rename_i o e
    obtain ⟨v, e1, l, e2, e3, e4⟩ := r.at_ _ _ e
    exact ⟨v, e1, q G H (Gr.refl i') v ⟨l, e2, e3, e4⟩⟩
  · exact q.elim
theorem c_const {e : Expr} {v : V} {dd : D} (hp : PE X e (tC v)) (hd : ∀ G : Hp, Den (enX X px) G dd v) {f : Rho → EvR} (hf : ∀ ρ, f ρ = some (.ok (.dat dd))) : PE X e (cE (enX X px) W f) := by
  refine pe_imp hp fun σ H Q q => ?_
  obtain ⟨B, ρ, G, i, r, q⟩ := q
  rw [hf] at q
  exact q G H (Gr.refl i) v (hd G)
theorem c_bin (c : Cc X px C W k hh) {o : BOp} (ha : PE X a (cE (enX X px) W f)) (hb : PE X b (cE (enX X px) W g)) : PE X (.BinOp a o.py b pos) (cE (enX X px) W fun ρ => bindR (f ρ) fun x => bindR (g ρ) fun y => optR (binV o x y)) := by
  cases o with
  | add => exact pe_imp (pe_op op_addX ha hb) fun σ H Q q => cE_op2 (E := enX X px) meets_add q
  | sub => exact pe_imp (pe_op op_sub ha hb) fun σ H Q q => cE_op2 (E := enX X px) meets_sub q
  | mul => exact pe_imp (pe_op op_mul ha hb) fun σ H Q q => cE_op2 (E := enX X px) meets_mul q
  | fdiv => exact pe_imp (pe_op op_fdivN ha hb) fun σ H Q q => cE_op2 (E := enX X px) meets_fdiv q
  | mod => exact pe_imp (pe_op op_modN ha hb) fun σ H Q q => cE_op2 (E := enX X px) meets_mod q
  | pow => exact pe_imp (pe_op op_pow ha hb) fun σ H Q q => cE_op2 (E := enX X px) meets_pow q
theorem c_neg (ha : PE X a (cE (enX X px) W f)) : PE X (.UnaryOp .USub a pos) (cE (enX X px) W fun ρ => bindR (f ρ) fun x => match x with
    | .dat (.int i) => some (.ok (.dat (.int (-i))))
    | _ => none) := by
  refine pe_imp (pe_un un_neg ha) fun σ H Q h => ?_
  obtain ⟨B, ρ, G, i, rp, h⟩ := h
  refine cE_step i rp h fun v x G1 H1 g1 r1 d1 h1 => ?_
  split at h1
  · exact ⟨_, d1, h1 G1 H1 (Gr.refl g1.i) _ rfl⟩
  · exact h1.elim
/-- a comparison's rule, met by data -/
def CmpR (X : Cx) (px : Option (Addr × Addr × Addr)) (o : COp) : Prop := ∃ r : R2, OpR X (compareOp o.py) r ∧ Meets2B (enX X px) r (cmpV o)
theorem no_meets {E : En} : Meets2B E (fun _ _ _ _ => False) fun _ _ => none := fun G H H0 x y v u z Q i dx dy e k => nomatch e
theorem cmp_any (c : Cc X px C W k hh) (o : COp) : CmpR X px o := by
  have hu : X.A.units + 64 < cLine := by have := c.units; omega
  cases o with
  | lt => exact ⟨_, op_ltX hu, meets_lt⟩
  | le => exact ⟨_, op_le, meets_le⟩
  | gt => exact ⟨_, op_gt, meets_gt⟩
  | ge => exact ⟨_, op_ge, meets_ge⟩
  | eq => exact ⟨_, op_eqX hu, meets_eq⟩
  | ne => exact ⟨_, op_neX hu, meets_ne⟩
  | isin => exact ⟨_, op_inX, meets_in⟩
  | notin => exact ⟨_, op_notInX, meets_notin⟩
  | is_ => exact ⟨_, op_isX, meets_is⟩
  | isnt => exact ⟨_, op_isntX, meets_isnt⟩
theorem c_cmp (c : Cc X px C W k hh) {o : COp} (ha : PE X a (cE (enX X px) W f)) (hb : PE X b (cE (enX X px) W g)) (hm : behindInMarks o.py b = false) : PE X (.Compare a [o.py] [b] pos) (cE (enX X px) W fun ρ => bindR (f ρ) fun x => bindR (g ρ) fun y => optR (blR (cmpV o x y))) := by
  obtain ⟨r, h1, h2⟩ := cmp_any c o
  exact pe_imp (pe_cmpR h1 ha hb hm) fun σ H Q q => cE_op2 h2.to q
/-- a truth value's answer, from a reading of a value -/
theorem cT_cmp {E : En} {W : WX} {f g : Rho → EvR} {r : R2} {o : RV → RV → Option Bool} (m : Meets2B E r o) {σ : L2.St} {H : Hp} {Q : Bool → Hp → Prop} (h : cT E W (fun ρ => bindR (f ρ) fun x => bindR (g ρ) fun y => optR (o x y)) σ H Q) :
    tTest (tOp r (cE E W f) (cE E W g)) σ H Q := by
  obtain ⟨B, ρ, G, i, rp, h⟩ := h
  refine cE_step i rp h fun v x G1 H1 g1 r1 d1 h1 => ?_
  refine cE_step g1.i r1 h1 fun u y G2 H2 g2 r2 d2 h2 => ?_
  obtain ⟨z, e, q⟩ := h2.opt
  exact m G2 H2 H x y v u z _ g2.i (d1.mono g2) (d2.back g1.h) e ⟨z, rfl, q G2 H2 (Gr.refl g2.i)⟩
theorem t_cmp (c : Cc X px C W k hh) {o : COp} (ha : PE X a (cE (enX X px) W f)) (hb : PE X b (cE (enX X px) W g)) (hm : behindInMarks o.py b = false) : PT X (.Compare a [o.py] [b] pos) (cT (enX X px) W fun ρ => bindR (f ρ) fun x => bindR (g ρ) fun y => optR (cmpV o x y)) := by
  obtain ⟨r, h1, h2⟩ := cmp_any c o
  exact pt_imp (pt_cmpR h1 ha hb hm) fun σ H Q q => cT_cmp h2 q
variable {e' : Rho → EvR}
theorem c_chain (c : Cc X px C W k hh) {o o' : COp} (ha : PE X a (cE (enX X px) W f)) (hb : PE X b (cE (enX X px) W g)) (hd : PE X d (cE (enX X px) W e')) (hm : lastMarks [o.py, o'.py] [b, d] = false) :
    PE X (.Compare a [o.py, o'.py] [b, d] pos) (cE (enX X px) W fun ρ => bindR (f ρ) fun x => bindR (g ρ) fun y => bindR (optR (cmpV o x y)) fun k =>
      match k with
      | true => bindR (e' ρ) fun z => optR (blR (cmpV o' y z))
      | false => some (.ok (.dat (.bl false)))) := by
  obtain ⟨r, h1, h2⟩ := cmp_any c o
  obtain ⟨r', h1', h2'⟩ := cmp_any c o'
  refine pe_imp (pe_chain h1 h1' ha hb hd hm) fun σ H Q h => ?_
  obtain ⟨B, ρ, G, i, rp, h⟩ := h
  refine cE_step i rp h fun v x G1 H1 g1 r1 d1 h1 => ?_
  refine cE_step g1.i r1 h1 fun u y G2 H2 g2 r2 d2 h2q => ?_
  cases q : cmpV o x y with
  | none => rw [q] at h2q; exact h2q.elim
  | some bb =>
    rw [q] at h2q
    refine h2 G2 H2 H x y v u bb _ g2.i (d1.mono g2) (d2.back g1.h) q ⟨bb, rfl, ?_⟩
    cases bb with
    | false =>
      rw [if_neg (by decide)]
      exact (show QA _ _ _ _ _ _ (some (.ok _)) from h2q) G2 H2 (Gr.refl g2.i) _ rfl
    | true =>
      rw [if_pos rfl]
      refine cE_step g2.i r2 (show QA _ _ _ _ _ _ (bindR (e' ρ) _) from h2q) fun w z G3 H3 g3 r3 d3 h3 => ?_
      obtain ⟨z', e, k⟩ := h3.opt
      exact h2'.to G3 H3 H y z u w z' Q g3.i ((d2.mono g3).back g1.h) (d3.back (g1.trans g2).h) e fun w' G' H' g4 dw => k G' H' g4 w' (dw.back ((g1.trans g2).trans g3).h)
theorem t_chain (c : Cc X px C W k hh) {o o' : COp} (ha : PE X a (cE (enX X px) W f)) (hb : PE X b (cE (enX X px) W g)) (hd : PE X d (cE (enX X px) W e')) (hm : lastMarks [o.py, o'.py] [b, d] = false) :
    PT X (.Compare a [o.py, o'.py] [b, d] pos) (cT (enX X px) W fun ρ => bindR (f ρ) fun x => bindR (g ρ) fun y => bindR (optR (cmpV o x y)) fun k =>
      match k with
      | true => bindR (e' ρ) fun z => optR (cmpV o' y z)
      | false => some (.ok false)) := by
  obtain ⟨r, h1, h2⟩ := cmp_any c o
  obtain ⟨r', h1', h2'⟩ := cmp_any c o'
  refine pt_imp (pt_chain h1 h1' ha hb hd hm) fun σ H Q h => ?_
  obtain ⟨B, ρ, G, i, rp, h⟩ := h
  refine cE_step i rp h fun v x G1 H1 g1 r1 d1 h1 => ?_
  refine cE_step g1.i r1 h1 fun u y G2 H2 g2 r2 d2 h2q => ?_
  cases q : cmpV o x y with
  | none => rw [q] at h2q; exact h2q.elim
  | some bb =>
    rw [q] at h2q
    refine h2 G2 H2 H x y v u bb _ g2.i (d1.mono g2) (d2.back g1.h) q ⟨bb, rfl, ?_⟩
    cases bb with
    | false =>
      rw [if_neg (by decide)]
      exact ⟨false, rfl, (show QA _ _ _ _ _ _ (some (.ok _)) from h2q) G2 H2 (Gr.refl g2.i)⟩
    | true =>
      rw [if_pos rfl]
      refine cE_step g2.i r2 (show QA _ _ _ _ _ _ (bindR (e' ρ) _) from h2q) fun w z G3 H3 g3 r3 d3 h3 => ?_
      obtain ⟨z', e, k⟩ := h3.opt
      exact h2' G3 H3 H y z u w z' _ g3.i ((d2.mono g3).back g1.h) (d3.back (g1.trans g2).h) e ⟨z', rfl, k G3 H3 (Gr.refl g3.i)⟩
/-! #### and, or, not, if -/
variable {rest : List Expr} {tf : Rho → Ans Bool}
theorem den_bl {E : En} {G H H0 : Hp} {kk : Bool} {v : V} (h : DenR E G H H0 (.dat (.bl kk)) v) : v = .bl kk := h
theorem c_and (ha : PE X a (cE (enX X px) W f)) (hb : PE X (.BoolOp .And (b :: rest) pos) (cE (enX X px) W g)) : PE X (.BoolOp .And (a :: b :: rest) pos) (cE (enX X px) W fun ρ => bindR (f ρ) fun x => match x with
    | .dat (.bl true) => g ρ
    | .dat (.bl false) => some (.ok (.dat (.bl false)))
    | _ => none) := by
  refine pe_imp (pe_and ha hb) fun σ H Q h => ?_
  obtain ⟨B, ρ, G, i, rp, h⟩ := h
  refine cE_step i rp h fun v x G1 H1 g1 r1 d1 h1 => ?_
  split at h1
  · exact ⟨true, d1, by rw [if_pos rfl]; exact ⟨B, ρ, G1, g1.i, r1, h1.imp fun z G' H' g' q v' dv => q v' (dv.back g1.h)⟩⟩
  · exact ⟨false, d1, by rw [if_neg (by decide)]; exact h1 G1 H1 (Gr.refl g1.i) _ rfl⟩
  · exact h1.elim
theorem c_or (ha : PE X a (cE (enX X px) W f)) (hb : PE X (.BoolOp .Or (b :: rest) pos) (cE (enX X px) W g)) : PE X (.BoolOp .Or (a :: b :: rest) pos) (cE (enX X px) W fun ρ => bindR (f ρ) fun x => match x with
    | .dat (.bl false) => g ρ
    | .dat (.bl true) => some (.ok (.dat (.bl true)))
    | _ => none) := by
  refine pe_imp (pe_or ha hb) fun σ H Q h => ?_
  obtain ⟨B, ρ, G, i, rp, h⟩ := h
  refine cE_step i rp h fun v x G1 H1 g1 r1 d1 h1 => ?_
  split at h1
  · exact ⟨false, d1, by rw [if_neg (by decide)]; exact ⟨B, ρ, G1, g1.i, r1, h1.imp fun z G' H' g' q v' dv => q v' (dv.back g1.h)⟩⟩
  · exact ⟨true, d1, by rw [if_pos rfl]; exact h1 G1 H1 (Gr.refl g1.i) _ rfl⟩
  · exact h1.elim
theorem c_not (ha : PE X a (cE (enX X px) W f)) : PE X (.UnaryOp .Not a pos) (cE (enX X px) W fun ρ => bindR (f ρ) fun x => match x with
    | .dat (.bl b) => some (.ok (.dat (.bl (!b))))
    | _ => none) := by
  refine pe_imp (pe_not ha) fun σ H Q h => ?_
  obtain ⟨B, ρ, G, i, rp, h⟩ := h
  refine cE_step i rp h fun v x G1 H1 g1 r1 d1 h1 => ?_
  split at h1
  · exact ⟨_, d1, h1 G1 H1 (Gr.refl g1.i) _ rfl⟩
  · exact h1.elim
theorem c_ife (ht : PT X d (cT (enX X px) W tf)) (ha : PE X a (cE (enX X px) W f)) (hb : PE X b (cE (enX X px) W g)) : PE X (.IfExp d a b pos) (cE (enX X px) W fun ρ => bindR (tf ρ) fun k => match k with
    | true => f ρ
    | false => g ρ) := by
  refine pe_imp (pe_ifExp ht ha hb) fun σ H Q h => ?_
  obtain ⟨B, ρ, G, i, rp, h⟩ := h
  refine cT_step i rp h fun kk G1 H1 g1 r1 h1 => ?_
  cases kk with
  | true => rw [if_pos rfl]; exact ⟨B, ρ, G1, g1.i, r1, (show QA _ _ _ _ _ _ (f ρ) from h1).imp fun z G' H' g' q v' dv => q v' (dv.back g1.h)⟩
  | false => rw [if_neg (by decide)]; exact ⟨B, ρ, G1, g1.i, r1, (show QA _ _ _ _ _ _ (g ρ) from h1).imp fun z G' H' g' q v' dv => q v' (dv.back g1.h)⟩
variable {tg : Rho → Ans Bool}
theorem w_and1 (ha : PT X a (cT (enX X px) W tf)) : PW X (.BoolOp .And [a] pos) (cT (enX X px) W tf) := pw_and1 ha
theorem w_or1 (ha : PT X a (cT (enX X px) W tf)) : PW X (.BoolOp .Or [a] pos) (cT (enX X px) W tf) := pw_or1 ha
theorem w_and (ha : PT X a (cT (enX X px) W tf)) (hb : PW X (.BoolOp .And (b :: rest) pos) (cT (enX X px) W tg)) : PW X (.BoolOp .And (a :: b :: rest) pos) (cT (enX X px) W fun ρ => bindR (tf ρ) fun k => match k with
    | true => tg ρ
    | false => some (.ok false)) := by
  refine pw_imp (pw_and ha hb) fun σ H Q h => ?_
  obtain ⟨B, ρ, G, i, rp, h⟩ := h
  refine cT_step i rp h fun kk G1 H1 g1 r1 h1 => ?_
  cases kk with
  | true => rw [if_pos rfl]; exact ⟨B, ρ, G1, g1.i, r1, h1⟩
  | false => rw [if_neg (by decide)]; exact h1 G1 H1 (Gr.refl g1.i)
theorem w_or (ha : PT X a (cT (enX X px) W tf)) (hb : PW X (.BoolOp .Or (b :: rest) pos) (cT (enX X px) W tg)) : PW X (.BoolOp .Or (a :: b :: rest) pos) (cT (enX X px) W fun ρ => bindR (tf ρ) fun k => match k with
    | false => tg ρ
    | true => some (.ok true)) := by
  refine pw_imp (pw_or ha hb) fun σ H Q h => ?_
  obtain ⟨B, ρ, G, i, rp, h⟩ := h
  refine cT_step i rp h fun kk G1 H1 g1 r1 h1 => ?_
  cases kk with
  | false => rw [if_neg (by decide)]; exact ⟨B, ρ, G1, g1.i, r1, h1⟩
  | true => rw [if_pos rfl]; exact h1 G1 H1 (Gr.refl g1.i)
theorem t_not (ha : PT X a (cT (enX X px) W tf)) : PT X (.UnaryOp .Not a pos) (cT (enX X px) W fun ρ => bindR (tf ρ) fun k => some (.ok (!k))) := by
  refine pt_imp (pt_not ha) fun σ H Q h => ?_
  obtain ⟨B, ρ, G, i, rp, h⟩ := h
  exact cT_step i rp h fun kk G1 H1 g1 r1 h1 => h1 G1 H1 (Gr.refl g1.i)
/-! #### truth -/
theorem tru_den {E : En} {G H H0 : Hp} {x : RV} {v : V} {b : Bool} (i : Ex G H) (h : DenR E G H H0 x v) (e : truV x = some b) : TruV E.K v H b ∨ ∃ (p : Addr) (kvs : List (List Key × V)), v = .ref p ∧ H p = some (.dT kvs) ∧ b = !kvs.isEmpty := by
  have hl : ∀ {ds : List D} {vs : List V}, Dens E G ds vs → (!vs.isEmpty) = !ds.isEmpty := fun h => by rw [h.nil_iff]
  have hk : ∀ {ks : List Key} {kvs : List (Key × V)}, kvs.map (·.1) = ks → (!kvs.isEmpty) = !ks.isEmpty := fun h => by rw [← h]; simp
  have hkT : ∀ {ks : List (List Key)} {kvs : List (List Key × V)}, kvs.map (·.1) = ks → (!ks.isEmpty) = !kvs.isEmpty := fun h => by rw [← h]; simp
  have go : ∀ {o : OV} {l : Addr}, v = .ref l → DenO E G H l o → truD o.d = some b → TruV E.K v H b ∨ ∃ (p : Addr) (kvs : List (List Key × V)), v = .ref p ∧ H p = some (.dT kvs) ∧ b = !kvs.isEmpty := by
    intro o l hv ho e
    subst hv
    cases o with
    | l ds =>
      obtain ⟨vs, q1, q2⟩ := ho
      cases e
      exact .inl (.inl ⟨vs, .inl (.inl q1), (hl q2).symm⟩)
    | tT ks ds =>
      obtain ⟨kvs, q1, q2, q3⟩ := ho
      cases e
      exact .inr ⟨_, kvs, rfl, q1, hkT q2⟩
    | tK ks ds =>
      obtain ⟨kvs, q1, q2, q3⟩ := ho
      cases e
      exact .inl (.inr (.inr ⟨kvs, q1, (hk q2).symm⟩))
  unfold truV at e
  cases x with
  | fr o => obtain ⟨l, e1, _, _, e2⟩ := h; exact go e1 e2 e
  | br o => obtain ⟨l, e1, _, e2⟩ := h; exact go e1 e2 e
  | dat d =>
    cases d with
    | non => cases e; rw [(show v = _ from h)]; exact .inl rfl
    | bl _ => cases e; rw [(show v = _ from h)]; exact .inl rfl
    | int _ => cases e; rw [(show v = _ from h)]; exact .inl rfl
    | str z =>
      have e : (if z.length ≤ 16777216 then some ((z.length : Int) != 0) else none) = some b := e
      split at e
      · rename_i hz
        cases e
        rw [(show v = _ from h)]
        exact .inl ⟨by rw [line_eq]; exact hz, rfl⟩
      · cases e
    | tup ds => cases e; obtain ⟨a, vs, rfl, h2, h3⟩ := h; exact .inl (.inr (.inl ⟨vs, .inl (.inl (i _ _ h2)), (hl h3).symm⟩))
    | lst ds => cases e; obtain ⟨a, vs, rfl, h2, h3⟩ := h; exact .inl (.inl ⟨vs, i.sql h2, (hl h3).symm⟩)
    | dicT ks ds => cases e; obtain ⟨a, kvs, rfl, h2, h3, h4⟩ := h; exact .inr ⟨_, kvs, rfl, i _ _ h2, hkT h3⟩
    | dicK ks ds => cases e; obtain ⟨a, kvs, rfl, h2, h3, h4⟩ := h; exact .inl (.inr (.inr ⟨kvs, i _ _ h2, (hk h3).symm⟩))
    | exc _ _ _ => cases e
theorem t_tru (ha : PE X a (cE (enX X px) W f)) (he : ∀ whole, isTrue a X.env whole = (do let v ← whole; standAt a.pos; holding [v] (truthy v))) : PT X a (cT (enX X px) W fun ρ => bindR (f ρ) fun x => optR (truV x)) := by
  refine pt_imp (pt_truthD ha he) fun σ H Q h => ?_
  obtain ⟨B, ρ, G, i, rp, h⟩ := h
  refine cE_step i rp h fun v x G1 H1 g1 r1 d1 h1 => ?_
  obtain ⟨z, e, q⟩ := h1.opt
  rcases tru_den (E := enX X px) g1.i d1 e with t | ⟨p, kvs, t1, t2, t3⟩
  · exact .inl ⟨z, t, q G1 H1 (Gr.refl g1.i)⟩
  · exact .inr ⟨p, kvs, t1, t2, by rw [← t3]; exact q G1 H1 (Gr.refl g1.i)⟩
/-- an isinstance as a test: its bool -/
theorem t_bl {o : Rho → Ans Bool} (ha : PE X a (cE (enX X px) W fun ρ => bindR (o ρ) fun b => some (.ok (.dat (.bl b))))) (he : ∀ whole, isTrue a X.env whole = (do let v ← whole; standAt a.pos; holding [v] (truthy v))) : PT X a (cT (enX X px) W o) := by
  refine pt_imp (pt_val ha he) fun σ H Q h => ?_
  obtain ⟨B, ρ, G, i, rp, h⟩ := h
  refine ⟨B, ρ, G, i, rp, ?_⟩
  show QA _ _ _ _ _ _ (bindR (o ρ) _)
  cases q : o ρ with
  | none => rw [q] at h; exact h.elim
  | some y =>
    rw [q] at h
    cases y with
    | error e => exact h
    | ok b => exact fun G' H' g' v dv => ⟨b, dv, h G' H' g'⟩
/-! #### displays, subscripts, slices -/
theorem toD_den {E : En} {G H G1 H1 : Hp} {r : RV} {d : D} {v : V} (e : toD r = some d) (g : Gr G H G1 H1) (h : DenR E G1 H1 H r v) : ∃ G2, Gr G H G2 H1 ∧ Ex G1 G2 ∧ Den E G2 d v := by
  have hb : ∀ o, r ≠ .br o := fun o z => by rw [z] at e; cases e
  obtain ⟨G2, k1, k2, k3⟩ := DenR.froze g h hb
  have : r.d = d := by
    cases r with
    | dat d => cases e; rfl
    | fr o => cases e; rfl
    | br o => cases e
  rw [this] at k3
  exact ⟨G2, k1, k2, k3⟩
theorem toDs_den {E : En} {G H G1 H1 : Hp} {rs : List RV} {ds : List D} {vs : List V} (e : toDs rs = some ds) (g : Gr G H G1 H1) (h : DenRs E G1 H1 H rs vs) : ∃ G2, Gr G H G2 H1 ∧ Ex G1 G2 ∧ Dens E G2 ds vs := by
  have key : ∀ {rs : List RV} {ds : List D}, toDs rs = some ds → anyBr rs = false ∧ rs.map RV.d = ds := by
    intro rs
    induction rs with
    | nil => intro ds e; cases e; exact ⟨rfl, rfl⟩
    | cons r rs ih =>
      intro ds e
      unfold toDs at e
      split at e
      · rename_i d ds' e1 e2
        cases e
        obtain ⟨h1, h2⟩ := ih e2
        cases r with
        | dat d' => cases e1; exact ⟨h1, by rw [List.map_cons, h2]; rfl⟩
        | fr o => cases e1; exact ⟨h1, by rw [List.map_cons, h2]; rfl⟩
        | br o => cases e1
      · cases e
  obtain ⟨h1, h2⟩ := key e
  obtain ⟨G2, a1, a2, a3⟩ := toDs_new h1 g h
  rw [h2] at a3
  exact ⟨G2, a1, a2, a3⟩
variable {es : List Expr} {fa : Rho → Ans (List RV)}
theorem denRs_ok {E : En} {G H H0 : Hp} {rs : List RV} {vs : List V} {ρ : Rho} (hl : ∀ ρ rs, fa ρ = some (.ok rs) → rs.length ≤ 1000) (e : fa ρ = some (.ok rs)) (h : DenRs E G H H0 rs vs) : vs.length ≤ sizeLine := by
  rw [h.length, line_eq]
  have := hl _ _ e
  omega
/-- the step over arguments, their answer known -/
theorem cA_stepE {E : En} {W : WX} {σ : L2.St} {G H B : Hp} {ρ : Rho} {f : Rho → Ans (List RV)} {Q : List V → Hp → Prop} {β : Type} {S : β → Hp → Hp → Prop} {k : List RV → Ans β} (i : Ex G H) (r : Rep E B G H σ ρ) (h : QA E W σ G H S (bindR (f ρ) k))
    (c : ∀ vs rs G1 H1, f ρ = some (.ok rs) → Gr G H G1 H1 → Rep E B G1 H1 σ ρ → DenRs E G1 H1 H rs vs → QA E W σ G H S (k rs) → Q vs H1) : cA E W f σ H Q := by
  refine ⟨B, ρ, G, i, r, ?_⟩
  cases q : f ρ with
  | none => rw [q] at h; exact h.elim
  | some y =>
    rw [q] at h
    cases y with
    | error e => exact h
    | ok rs => exact fun G1 H1 g1 vs dv => c vs rs G1 H1 q g1 (r.mono g1) dv h
theorem c_tup {x1} (hl : ∀ ρ rs, fa ρ = some (.ok rs) → rs.length ≤ 1000) (ha : PA X es (cA (enX X px) W fa)) : PE X (.Tuple es x1 pos) (cE (enX X px) W fun ρ => bindR (fa ρ) fun rs => match toDs rs with
    | some ds => some (.ok (.dat (.tup ds)))
    | none => none) := by
  refine pe_imp (pe_tup ha) fun σ H Q h => ?_
  obtain ⟨B, ρ, G, i, rp, h⟩ := h
  refine cA_stepE i rp h fun vs rs G1 H1 er g1 r1 d1 h1 => ⟨denRs_ok hl er d1, fun p hp => ?_⟩
  split at h1
  · rename_i ds e
    obtain ⟨G2, b1, b2, b3⟩ := toDs_den e g1 d1
    have gf := Gr.frozen b1.i hp (o := .tup vs)
    exact h1 _ _ (b1.trans gf) _ ⟨p, vs, rfl, upd_same, Dens.mono gf.g _ _ b3⟩
  · exact h1.elim
theorem c_lst (hl : ∀ ρ rs, fa ρ = some (.ok rs) → rs.length ≤ 1000) (ha : PA X es (cA (enX X px) W fa)) : PE X (.List es pos) (cE (enX X px) W fun ρ => bindR (fa ρ) fun rs => match toDs rs with
    | some ds => some (.ok (.fr (.l ds)))
    | none => none) := by
  refine pe_imp (pe_lst ha) fun σ H Q h => ?_
  obtain ⟨B, ρ, G, i, rp, h⟩ := h
  refine cA_stepE i rp h fun vs rs G1 H1 er g1 r1 d1 h1 => ⟨denRs_ok hl er d1, fun p hp => ?_⟩
  split at h1
  · rename_i ds e
    obtain ⟨G2, b1, b2, b3⟩ := toDs_den e g1 d1
    exact h1 _ _ (b1.trans (Gr.loose b1.i hp)) _ ⟨p, rfl, g1.h.free hp, b1.i.free hp, vs, upd_same, b3⟩
  · exact h1.elim
theorem c_dictT : PE X (.Dict [] [] pos) (cE (enX X px) W (evE C .dictT)) := by
  refine pe_imp pe_dnewT fun σ H Q h p hp => ?_
  obtain ⟨B, ρ, G, i, rp, h⟩ := h
  rw [evE] at h
  exact h G _ (Gr.loose i hp) _ ⟨p, rfl, hp, i.free hp, [], upd_same, rfl, rfl⟩
theorem c_dictK : PE X (.Dict [] [] pos) (cE (enX X px) W (evE C .dictK)) := by
  refine pe_imp pe_dnewK fun σ H Q h p hp => ?_
  obtain ⟨B, ρ, G, i, rp, h⟩ := h
  rw [evE] at h
  exact h G _ (Gr.loose i hp) _ ⟨p, rfl, hp, i.free hp, [], upd_same, rfl, rfl⟩
def rIxDct : R2 := fun x y H Q => ∃ a v, x = .ref a ∧ DGet H a y (some v) ∧ Q v H
theorem ix_dct (hu : X.A.units + 1 < cLine) : IxR X rIxDct := by
  intro value slice pins s σ H x y v u Q I rx ry h hs
  obtain ⟨p, z, e, g, q⟩ := h
  subst e
  obtain rfl : v = Value.ref p := rx
  exact tail_any (dict_typeIs I g) PySem.F.slot_dict_getitem.lookup (d_getItem hu I g ry fun w' s3 I3 rw' => ⟨z, H, I3, rw', q⟩) hs
def rIxX (K : PySem.W.Frag) : R2 := fun x y H Q => rIx K x y H Q ∨ rIxDct x y H Q
theorem meets_ixX {E : En} : Meets2 E (rIxX E.K) ixW := fun G H H0 x y v u z Q i dx dy e k => by
  unfold ixW at e
  cases hd : isDic x with
  | false =>
    rw [hd] at e
    exact .inl (meets_ix G H H0 x y v u z Q i dx dy e k)
  | true =>
    rw [hd] at e
    have e : dixV x y = some z := e
    unfold dixV at e
    split at e
    · rename_i kd
      split at e
      · rename_i dd ed
        cases e
        obtain ⟨p, ov, e1, e2, e3, e4⟩ := dict_sq (E := E) i dx dy ed
        obtain ⟨w, e5, e6⟩ : ∃ w, ov = some w ∧ Den E G dd w := by simpa using e4
        subst e5
        exact .inr ⟨p, w, e1, e3, k w G H (Gr.refl i) e6⟩
      · cases e
    · cases e
theorem c_ix (c : Cc X px C W k hh) (hs : PlainIx b) (ha : PE X a (cE (enX X px) W f)) (hb : PE X b (cE (enX X px) W g)) : PE X (.Subscript a b pos) (cE (enX X px) W fun ρ => bindR (f ρ) fun x => bindR (g ρ) fun y => optR (ixW x y)) :=
  pe_imp (pe_ix (ix_seq.or (ix_dct (by have := c.units; omega))) ha hb hs) fun σ H Q q => cE_op2 (E := enX X px) meets_ixX q
theorem c_dix (c : Cc X px C W k hh) (hs : PlainIx b) (ha : PE X a (cE (enX X px) W f)) (hb : PE X b (cE (enX X px) W g)) : PE X (.Subscript a b pos) (cE (enX X px) W fun ρ => bindR (f ρ) fun x => bindR (g ρ) fun y => optR (dixV x y)) := by
  refine pe_imp (pe_dget (by have := c.units; omega) ha hb hs) fun σ H Q h => ?_
  obtain ⟨B, ρ, G, i, rp, h⟩ := h
  refine cE_step i rp h fun v x G1 H1 g1 r1 d1 h1 => ?_
  refine cE_step g1.i r1 h1 fun u y G2 H2 g2 r2 d2 h2 => ?_
  obtain ⟨z, e, q⟩ := h2.opt
  unfold dixV at e
  split at e
  · rename_i kd
    split at e
    · rename_i dd ed
      cases e
      obtain ⟨p, ov, e1, e2, e3, e4⟩ := dict_sq (E := enX X px) g2.i (d1.mono g2) d2 ed
      obtain ⟨w, e5, e6⟩ : ∃ w, ov = some w ∧ Den (enX X px) G2 dd w := by simpa using e4
      subst e5
      exact ⟨p, w, e1, e3, q G2 H2 (Gr.refl g2.i) w e6⟩
    · cases e
  · cases e
variable {lo hi : Option Expr} {fl fh : Rho → Ans (Option Int)}
theorem o_none : PO X none (cO (enX X px) W (evO C .no)) := ⟨fun pins s σ H Q I h => by
  obtain ⟨B, ρ, G, i, rp, h⟩ := h
  rw [evO] at h
  exact po_none.run pins s σ H Q I (h G H (Gr.refl i))⟩
theorem o_some (ha : PE X a (cE (enX X px) W f)) : PO X (some a) (cO (enX X px) W fun ρ => bindR (f ρ) fun x => match x with
    | .dat (.int i) => some (.ok (some i))
    | _ => none) := ⟨fun pins s σ H Q I h => by
  refine (po_some ha).run pins s σ H Q I ?_
  obtain ⟨B, ρ, G, i, rp, h⟩ := h
  refine cE_step i rp h fun v x G1 H1 g1 r1 d1 h1 => ?_
  split at h1
  · exact ⟨_, d1, h1 G1 H1 (Gr.refl g1.i)⟩
  · exact h1.elim⟩
theorem c_sl {p2} (ha : PE X a (cE (enX X px) W f)) (hl : PO X lo (cO (enX X px) W fl)) (hh : PO X hi (cO (enX X px) W fh)) : PE X (.Subscript a (.Slice lo hi none p2) pos) (cE (enX X px) W fun ρ => bindR (f ρ) fun x => bindR (fl ρ) fun l => bindR (fh ρ) fun u => optR (slV x l u)) := by
  refine pe_imp (pe_slice sl_X ha hl hh) fun σ H Q h => ?_
  obtain ⟨B, ρ, G, i, rp, h⟩ := h
  refine cE_step i rp h fun v x G1 H1 g1 r1 d1 h1 => ?_
  refine cO_step g1.i r1 h1 fun l G2 H2 g2 r2 h2 => ?_
  refine cO_step g2.i r2 h2 fun u G3 H3 g3 r3 h3 => ?_
  obtain ⟨z, e, q⟩ := h3.opt
  exact meets_sl (E := enX X px) (H0 := H) g3.i ((d1.mono g2).mono g3) e fun w G' H' g4 dw => q G' H' g4 w (dw.back ((g1.trans g2).trans g3).h)
theorem dic_is {E : En} {G H H0 : Hp} {x : RV} {v : V} (i : Ex G H) (h : DenR E G H H0 x v) (e : isDic x = true) : ∃ a, v = .ref a ∧ IsD H a := by
  cases x with
  | dat d =>
    cases d with
    | dicT ks ds => obtain ⟨a, kvs, rfl, h2, _⟩ := h; exact ⟨a, rfl, .inr ⟨_, .inl (i _ _ h2)⟩⟩
    | dicK ks ds => obtain ⟨a, kvs, rfl, h2, _⟩ := h; exact ⟨a, rfl, .inl ⟨_, .inl (i _ _ h2)⟩⟩
    | _ => cases e
  | fr o =>
    obtain ⟨l, rfl, _, _, h⟩ := h
    cases o with
    | l ds => cases e
    | tT ks ds => obtain ⟨kvs, h2, _⟩ := h; exact ⟨l, rfl, .inr ⟨_, .inl h2⟩⟩
    | tK ks ds => obtain ⟨kvs, h2, _⟩ := h; exact ⟨l, rfl, .inl ⟨_, .inl h2⟩⟩
  | br o =>
    obtain ⟨l, rfl, _, h⟩ := h
    cases o with
    | l ds => cases e
    | tT ks ds => obtain ⟨kvs, h2, _⟩ := h; exact ⟨l, rfl, .inr ⟨_, .inl h2⟩⟩
    | tK ks ds => obtain ⟨kvs, h2, _⟩ := h; exact ⟨l, rfl, .inl ⟨_, .inl h2⟩⟩
theorem c_get (c : Cc X px C W k hh) {o e1 e2 : Expr} {ap : Pos} {fd fk fx : Rho → EvR} (ho : PE X o (cE (enX X px) W fd)) (hk : PE X e1 (cE (enX X px) W fk)) (hx : PE X e2 (cE (enX X px) W fx)) (m : M2 X o "get" ap e1 e2 pos) :
    PE X (.Call (.Attribute o "get" ap) [e1, e2] [] pos) (cE (enX X px) W fun ρ => bindR (fd ρ) fun d => bindR (optR (dicV d)) fun d => bindR (fk ρ) fun k => bindR (fx ρ) fun x => optR (getV d k x)) := by
  refine pe_imp (pe_dget2 (by have := c.units; omega) ho hk hx m) fun σ H Q h => ?_
  obtain ⟨B, ρ, G, i, rp, h⟩ := h
  refine cE_step i rp h fun v x G1 H1 g1 r1 d1 h1 => ?_
  cases hd : isDic x with
  | false =>
    have e : dicV x = none := by unfold dicV; rw [hd]
    rw [e] at h1
    exact h1.elim
  | true =>
    have e : dicV x = some x := by unfold dicV; rw [hd]
    rw [e] at h1
    obtain ⟨a, rfl, hD⟩ := dic_is g1.i d1 hd
    refine ⟨a, rfl, hD, ?_⟩
    refine cE_step g1.i r1 (show QA _ _ _ _ _ _ (bindR (fk ρ) _) from h1) fun u y G2 H2 g2 r2 d2 h2 => ?_
    refine cE_step g2.i r2 h2 fun w z G3 H3 g3 r3 d3 h3 => ?_
    obtain ⟨rz, e, q⟩ := h3.opt
    unfold getV at e
    split at e
    · rename_i kd xd
      have dk : Den (enX X px) G3 kd u := Den.mono g3.g _ _ d2
      split at e
      · rename_i vv ed
        cases e
        obtain ⟨p, ov, x1, x2, x3, x4⟩ := dict_sq (E := enX X px) g3.i ((d1.mono g2).mono g3) dk ed
        cases x1
        obtain ⟨w', x5, x6⟩ : ∃ w', ov = some w' ∧ Den (enX X px) G3 vv w' := by simpa using x4
        subst x5
        exact ⟨_, x3, q G3 H3 (Gr.refl g3.i) w' x6⟩
      · rename_i ed
        cases e
        obtain ⟨p, ov, x1, x2, x3, x4⟩ := dict_sq (E := enX X px) g3.i ((d1.mono g2).mono g3) dk ed
        cases x1
        have x5 : ov = none := by simpa using x4
        subst x5
        exact ⟨_, x3, q G3 H3 (Gr.refl g3.i) w d3⟩
      · cases e
    · cases e
end
end DE

set_option Elab.async false
set_option linter.all false
set_option maxRecDepth 100000
set_option maxHeartbeats 4000000
/-! LR1: list(reversed(xs)). -/
namespace PySem
open Sem (wp)
namespace F
theorem de_nolen_lri : typeLookup (.type "list_reverseiterator") "__len__" = pure none := by rw [typeLookup_type, builtinLookup_eq_fast]; kernel_rfl
theorem de_hint_lri : typeLookup (.type "list_reverseiterator") "__length_hint__" = pure (some (.builtin "list_reverseiterator.__length_hint__")) := by rw [typeLookup_type, builtinLookup_eq_fast]; kernel_rfl
end F
section
variable {prog : Program} {w : World} {A : Around} {s : Shared} {R : Result → Shared → Prop}
variable {I : Addr} {fp wr : List Addr} {G : Array GenState → Array GenState → Prop} {n : Nat} {P : Nat → Value → Prop} {St : Nat → Shared → Prop}
theorem de_extend_lri (W : WalksS prog w A.in1 I fp wr G n P St) (hT : ∀ i s, St i s → s.TypeIs (.ref I) "list_reverseiterator") (S : Addr) (res : Value) (c₀ : Nat) (hst : St 0 s) (hSf : S ∉ fp) (hI : I ∈ fp)
    (hS : s.heap.get? S = some { cls := .type "list", data := .seq #[] c₀ })
    (hR : ∀ s' acc' c', Moved (S :: wr) G s s' → s'.heap.get? S = some { cls := .type "list", dict := none, data := .seq acc' c', slots := #[] } → ItemsOf P acc' n → R (.ok (.ret res)) s') (hn : n ≤ sizeLine) :
    wpAny (model prog w) A.in1 (Builtin.List.listExtendWith (.ref S) (.ref I) res)
      (fun fin s' => match fin with | .done f => R (.ok f) s' | .again c' => c'.quiet = true ∧ codeAny (model prog w) A c' R s') (fun e s' => R (.error e) s') s := by
  have hSI : S ≠ I := fun e => hSf (e ▸ hI)
  unfold Builtin.List.listExtendWith
  refine wpAny_bind (wpAny_typeOf (hT 0 _ hst) ?_)
  have h1 : Builtin.List.listSameRef (.ref S) (.ref I) = false := by simp [Builtin.List.listSameRef, hSI]
  rw [if_neg (by rw [h1]; decide)]
  refine wpAny_bind (W.self 0 _ _ _ hst ?_)
  refine wpAny_bind (wpAny_holding ?_)
  unfold Builtin.List.listLengthHint
  refine wpAny_bind (wpAny_specialOf (hT 0 _ hst) F.de_nolen_lri ?_)
  show wpAny _ A.in1 (specialOf (Value.ref I) (Str.ofString "__length_hint__") >>= _) _ _ _
  refine wpAny_bind (wpAny_specialOf (hT 0 _ hst) F.de_hint_lri ?_)
  (generalize hid : ("list_reverseiterator.__length_hint__" : String) = id0; (fail_if_success (clear hid id0)); wp_delta; rw [show splitId id0 = some ("list_reverseiterator", "__length_hint__") from by subst hid; decide +kernel]; subst hid)
  refine wpAny_bind (wpAny_isInstance (b := true) (hT 0 _ hst) (by rw [isSubtype_type]; kernel_rfl) ?_)
  refine wpAny_pure ?_
  rw [if_neg (by decide)]
  refine wpAny_pure ⟨plainId_quiet F.plain_extend_loop _, codeAny_extend_loopS W hn _ hSf _ n 0 _ _ _ rfl (Nat.zero_le _) hst hS (ItemsOf.nil P) fun s' acc' c' hm hS' hacc => ?_⟩
  exact hR s' acc' c' hm hS' hacc
theorem de_init_lri (W : WalksS prog w A.in1 I fp wr G n P St) (hT : ∀ i s, St i s → s.TypeIs (.ref I) "list_reverseiterator") (S : Addr) (hst : St 0 s) (hSf : S ∉ fp) (hI : I ∈ fp)
    (hS : s.heap.get? S = some { cls := .type "list", data := .seq #[] })
    (hR : ∀ s' acc' c', Moved (S :: wr) G s s' → s'.heap.get? S = some { cls := .type "list", dict := none, data := .seq acc' c', slots := #[] } → ItemsOf P acc' n → R (.ok (.ret .none)) s') (hn : n ≤ sizeLine) :
    wpAny (model prog w) A.in1 (Builtin.«list.__init__» ⟨[.ref S, .ref I], []⟩)
      (fun fin s' => match fin with | .done f => R (.ok f) s' | .again c' => c'.quiet = true ∧ codeAny (model prog w) A c' R s') (fun e s' => R (.error e) s') s := by
  show wpAny _ A.in1 (do let old ← Builtin.List.listItems (.ref S); Builtin.List.listUpdate (.ref S) (fun _ => #[]); letGo old.toList.reverse; Builtin.List.listExtendWith (.ref S) (.ref I) .none) _ _ s
  refine wpAny_bind ?_
  unfold Builtin.List.listItems
  refine wpAny_bind (wpAny_seqItems hS rfl (wpAny_pure ?_))
  show wpAny _ A.in1 (updateSeq S (fun _ => #[]) >>= fun _ => letGo (#[] : Array Value).toList.reverse >>= fun _ => Builtin.List.listExtendWith (.ref S) (.ref I) .none) _ _ s
  refine wpAny_bind (wpAny_updateSeq hS rfl ?_)
  have hS₂ := Heap.get?_update_self (Obj.mapSeq (fun _ => (#[] : Array Value))) hS rfl
  have oth : ∀ b o, b ≠ S → s.heap.get? b = some o → (s.heap.update S (Obj.mapSeq (fun _ => (#[] : Array Value)))).get? b = some o :=
    fun b o hb e => (Heap.get?_update_other _ _ (Ne.symm hb)).trans e
  refine wpAny_bind (wpAny_letGo ?_)
  refine de_extend_lri (hn := hn) W hT S .none _ (W.frame 0 s _ s.toks hst (Nat.le_refl _) fun b hb o e => oth b o (fun h => hSf (h ▸ hb)) e) hSf hI hS₂ fun s' acc' c' hm hS' hacc => ?_
  exact hR s' acc' c' (Moved.trans W.gtrans ((Moved.refl W.grefl).then_heap (Nat.le_refl _) fun b o hb e => oth b o (fun h => hb (h ▸ List.mem_cons_self)) e) hm) hS' hacc
end
section
variable {prog : Program} {w : World} {A : Around} {E : Value → Shared → Prop} {s : Shared}
theorem de_list_rev {I l : Addr} {items : Array Value} {Q : Value → Shared → Prop} (hh : A.handled = none) (hne : l ≠ I) (hit : s.heap.IsRevIter I l ((items.size : Int) - 1)) (hl : s.heap.IsList l items) (hn : items.size ≤ sizeLine)
    (hQ : ∀ h' tk acc' c', (∀ b o, b ≠ I → s.heap.get? b = some o → h'.get? b = some o) →
      h'.get? s.heap.objs.size = some { cls := .type "list", dict := none, data := .seq acc' c', slots := #[] } → ItemsOf (fun i v => items[items.size - 1 - i]? = some v) acc' items.size → Q (.ref s.heap.objs.size) { s with heap := h', toks := tk }) :
    wpAny (model prog w) A (call (.type "list") [.ref I]) Q E s := by
  have W := (Walks.listRev (prog := prog) (w := w) (A := A.in1.in1) hh I l hne items).toS
  have hIlt : I < s.heap.objs.size := by obtain ⟨o, ho, _⟩ := hit; exact Heap.lt_size ho
  have hllt : l < s.heap.objs.size := by obtain ⟨o, ho, _⟩ := hl; exact Heap.lt_size ho
  have hSf : s.heap.objs.size ∉ [I, l] := fun hm => by
    rcases List.mem_cons.mp hm with e | hm
    · exact absurd hIlt (by rw [e]; exact Nat.lt_irrefl _)
    · exact absurd hllt (by rw [← List.mem_singleton.mp hm]; exact Nat.lt_irrefl _)
  refine callType_codes (Q₁ := fun obj s₁ => obj = .ref s.heap.objs.size ∧ s₁ = { s with heap := s.heap.push { cls := .type "list", data := .seq #[] } }) F.called_list (F.typeCall_list_1 _) F.entry_list_init
    (code_list_new _ ⟨rfl, rfl⟩) fun obj s₁ h₁ => ?_
  obtain ⟨rfl, rfl⟩ := h₁
  have hS : (s.heap.push { cls := .type "list", data := .seq #[] }).get? s.heap.objs.size = some { cls := .type "list", data := .seq #[] } := Heap.get?_push_size _ rfl
  have hst : (0 : Nat) ≤ items.size ∧ s.heap.IsRevIter I l ((items.size : Int) - 1 - ((0 : Nat) : Int)) ∧ s.heap.IsList l items := ⟨Nat.zero_le _, by simpa using hit, hl⟩
  refine ⟨⟨_, hS, rfl⟩, F.args_list_init_2 _ _, de_init_lri (hn := hn) (A := A.in1) W (fun i s st => st.2.1.typeIs) _ (W.frame 0 s _ s.toks hst (Nat.le_refl _) fun b _ o e => Heap.get?_push_of_some _ e) hSf (List.mem_cons_self ..) hS fun s' acc' c' hm hS' hacc => ?_⟩
  refine ⟨rfl, ?_⟩
  rw [Moved.eq_with hm]
  refine hQ s'.heap s'.toks acc' c' (fun b o hb e => ?_) hS' hacc
  refine hm.heap b o (fun hmem => ?_) (Heap.get?_push_of_some _ e)
  rcases List.mem_cons.mp hmem with e' | hmem
  · exact absurd (Heap.lt_size e) (by rw [e']; exact Nat.lt_irrefl _)
  · exact hb (List.mem_singleton.mp hmem)
end
end PySem
namespace L2
open PySem PySem.Spec PyProof.Rows
section
variable {X : Cx} {e : Expr} {ta : TE} {p p2 pos pos2 : Pos}
def tLstRev (K : PySem.W.Frag) (ta : TE) : TE := fun σ H Q => ta σ H fun v H1 => ∃ (a : Addr) (xs : List V), v = .ref a ∧ SqL K H1 a xs ∧ ∀ q, H1 q = none → Q (.ref q) (upd H1 q (.lst xs.reverse))
theorem pe_listRev (hc : X.calm = true) (hg : Gl X "list") (hm : X.mg "list" = none) (hg2 : Gl X "reversed") (hm2 : X.mg "reversed" = none) (ha : PE X e ta) (hs : starEach [e] X.env = [(false, eval e X.env)]) :
    PE X (.Call (.Name "list" p) [.Call (.Name "reversed" p2) [e] [] pos2] [] pos) (tLstRev X.K ta) := by
  refine ⟨fun pins s σ H Q I h => ?_⟩
  refine Call_ (ld_blt I hg hm boot_list (PyProof.Rows.callWith_type1 (args_cons (Call_ (ld_blt I hg2 hm2 PyProof.Rows.boot_reversed (PyProof.Rows.callWith_type1 (args_cons (thn (ha.run pins s σ H _ I h) fun u s1 ⟨x, H1, I1, r1, q1⟩ => args_nil ?_) hs) hs rfl))) rfl) rfl))
  obtain ⟨a, xs, ev, hq, q⟩ := q1
  subst ev
  cases r1 with
  | refl =>
    obtain ⟨its, rv, p', hz⟩ := I1.list hq
    have hl := rv.length
    refine call_reversed_list p'.isList (args_nil ?_)
    have hlt : a < s1.heap.objs.size := by obtain ⟨o, ho, _⟩ := p'.isList; exact Heap.lt_size ho
    refine de_list_rev (l := a) (items := its.toArray) (I1.ok.hd hc) (Nat.ne_of_lt hlt) ⟨_, Heap.get?_push_size _ rfl, rfl, rfl⟩ ?_ (by rw [List.size_toArray, ← hl]; exact hz) fun h' tk acc c' hk e' hi => ?_
    · obtain ⟨o, ho, hr⟩ := p'.isList
      exact ⟨o, Heap.get?_push_of_some _ ho, hr⟩
    have hk2 : ∀ b o, s1.heap.get? b = some o → h'.get? b = some o := fun b o eb => hk b o (Nat.ne_of_lt (Heap.lt_size eb)) (Heap.get?_push_of_some _ eb)
    have hv : Vals xs.reverse acc.toList := by
      refine vals_of_at ?_ fun j x u hx hu => ?_
      · have h1 := hi.1
        simp only [List.size_toArray] at h1
        rw [List.length_reverse, hl, ← h1]
        simp
      · have hj : j < xs.length := by
          have := (List.getElem?_eq_some_iff.mp hx).1
          rwa [List.length_reverse] at this
        rw [List.getElem?_reverse hj] at hx
        have h2 := hi.2 j u (by rw [← hu, Array.getElem?_toList])
        have h3 : its[its.length - 1 - j]? = some u := by simpa using h2
        rw [← hl] at h3
        obtain ⟨u', hu', ru⟩ := rv.get hx
        rw [hu'] at h3
        cases h3
        exact ru
    refine ⟨.ref (s1.heap.push (revObj a ((its.toArray.size : Int) - 1))).objs.size, upd H1 _ (.lst xs.reverse), I1.laid hk2 ?_ (show ObjOk X.prog X.w _ _ _ (.lst xs.reverse) from ⟨by rw [List.length_reverse]; exact hz, acc.toList, c', hv, ?_⟩), rfl, q _ (I1.hok.fresh ?_)⟩
    · show s1.heap.objs.size ≤ (s1.heap.push _).objs.size
      simp [Heap.push]
    · rw [Array.toArray_toList]; exact e'
    · show s1.heap.objs.size ≤ (s1.heap.push _).objs.size
      simp [Heap.push]
end
end L2

set_option Elab.async false
set_option linter.all false
set_option maxRecDepth 100000
set_option maxHeartbeats 4000000
/-! LR2: d.pop(k), k a tuple that is there. -/
namespace DT
open PySem PySem.W PySem.Calls PyProof.Rows PyProof.V PySem.Spec
section
variable {K : Type} [DecidableEq K]
variable {prog : Program} {w : World} {knd : HeapKind prog w K}
theorem de_meetsPop1 {d b : Addr} {k : K} :
    MeetsIn prog w (Builtin.«dict.pop» ⟨[.ref d, .ref b], []⟩) (fun A R s => ∃ xs p, knd.room A.in1 ∧ knd.is s.heap k b ∧ s.heap.DictOfH knd d xs ∧ xs.length ≤ sizeLine ∧
      atKey xs k = some p ∧ ∀ h' tk, h'.DictOfH knd d (dropH xs k) → Heap.SameBut d s.heap h' → R (.ok (.ret p.2)) { s with heap := h', toks := tk }) :=
  .of_wp fun A R s ⟨xs, p, hu, hkey, hm, hsz, hat, hsome⟩ => by
    obtain ⟨o, es, ep, ho, hc, hdat, he, his, hn⟩ := id hm
    have hes : es.size = xs.length := size_of_entries he
    have hpart : (keyPart (Value.ref b)).isSome = false := rfl
    unfold Builtin.«dict.pop»
    refine wpAny_bind ?_
    unfold Builtin.Dict.keyAndDefault
    refine wpAny_bind (wpAny_notOrdered_dict hm.typeIs ?_)
    show wpAny _ _ (pure (d, Value.ref b, none)) _ _ s
    refine wpAny_pure ?_
    simp only [hpart, Bool.false_eq_true, if_false]
    refine wpAny_bind (wpAny_dictEntries ho hdat (wpAny_bind (wpAny_pure ?_)))
    cases hem : es.isEmpty with
    | true =>
      have h0 : xs = [] := by
        have z : es.size = 0 := by simpa using hem
        exact List.length_eq_zero_iff.mp (by omega)
      rw [h0] at hat
      cases hat
    | false =>
      simp only [Bool.false_eq_true, if_false]
      refine wpAny_bind (takeH hu hkey hm hsz (fun hno => ?_) fun p' e hp hev h' hm' hs' => ?_)
      · rw [hat] at hno
        cases hno
      · rw [hat] at hp
        cases hp
        simp only [Option.isNone_some, Bool.false_eq_true, if_false]
        exact wpAny_bind (wpAny_letGo (wpAny_pure ⟨e.val, rfl, by rw [hev]; exact hsome h' _ hm' hs'⟩))
end
end DT
namespace L2.DX
open PySem PySem.Spec PyProof.Rows
section
variable {X : Cx}
def rPopT1 : V → List V → Hp → VK → Prop := fun x xs H Q => ∃ (a : Addr) (kvs : List (List L2.Key × V)) (k : List L2.Key) (b : Addr) (v : V), x = .ref a ∧ xs = [.ref b] ∧ H a = some (.dT kvs) ∧ H b = some (.tup (k.map kV)) ∧
  valV kvs k = some v ∧ Q v (upd H a (.dT (dropK kvs k)))
theorem mt_popT1 (hu : X.A.units + 1 < cLine) : MtR X "dict.pop" rPopT1 := by
  intro pins s σ H x xs v us Q I rx rxs h
  obtain ⟨a, kvs, k, b, v0, rfl, rfl, ha, hb, hv, q1⟩ := h
  cases rx
  obtain ⟨u1, rfl, r1⟩ := rxs.one
  cases r1
  obtain ⟨z, hd, xs', rel, dd⟩ := dt_of I.hok ha
  have hz : xs'.length ≤ sizeLine := by rw [← Paired.length rel]; exact z
  have r := rel.val k
  rw [hv] at r
  obtain ⟨p, ep', rv⟩ : ∃ p, PySem.atKey xs' k = some p ∧ RelV v0 p.2 := by
    cases ev : PySem.atKey xs' k with
    | none =>
      rw [ev] at r
      exact (show False from r).elim
    | some p =>
      rw [ev] at r
      exact ⟨p, rfl, r⟩
  refine call_meetsIn PySem.F.slot_dict_pop dd.typeIs PySem.F.entry_dict_pop (PySem.F.args_dict_pop_2 _ _) (DT.de_meetsPop1 (knd := tupleKind (mixKind X.prog X.w)) (k := k))
    ⟨xs', p, tupleKind_room_in1 hu, key_of I.hok hb, dd, hz, ep', fun h' tk dd' hs => ?_⟩
  obtain ⟨o, es, ep, hq, h2, h3, h4, _, h5⟩ := dd'
  have I2 : Inv X pins σ (upd H a (.dT (dropK kvs k))) { s with heap := h', toks := tk } :=
    d_write I (by rw [ha]; exact True.intro) hs ⟨o, hq⟩ ⟨Nat.le_trans (dropK_le kvs k) z, hd, _, (KT_drop k rel).keeps (fun c ys ec => (by rw [upd_ne (ne_of ec ha (fun z => nomatch z))]; exact ec)), o, es, ep, hq, h2, h3, h4, h5⟩
  show EP X pins σ Q p.2 _
  exact ⟨v0, _, I2, rv, q1⟩
end
end L2.DX

set_option Elab.async false
set_option linter.all false
set_option maxRecDepth 100000
set_option maxHeartbeats 4000000
/-! LR5: bs.count(True), bs.index(True). -/
namespace L2
open PySem PySem.Spec PyProof.Rows
theorem bl_flat (bs : List Bool) : (bs.map V.bl).all flatV = true := by
  rw [List.all_eq_true]
  intro x hx
  obtain ⟨b, _, rfl⟩ := List.mem_map.mp hx
  rfl
theorem bl_count : ∀ {bs : List Bool} {us : List Value}, Vals (bs.map V.bl) us → us.countP (eqU (.bl true)) = bs.count true
  | [], us, h => by
    cases h
    rfl
  | b :: bs, us, h => by
    cases h with
    | cons r t =>
      rename_i u us
      have e := eqU_of (x := .bl true) r rfl
      rw [List.countP_cons, bl_count t, List.count_cons, e]
      cases b <;> rfl
section
variable {X : Cx}
def rCntB (K : PySem.W.Frag) : V → List V → Hp → VK → Prop := fun x xs H Q => ∃ (p : Addr) (bs : List Bool), x = .ref p ∧ xs = [.bl true] ∧ SqL K H p (bs.map V.bl) ∧ Q (.int ((bs.count true : Nat) : Int)) H
theorem mt_countB : MtR X "list.count" (rCntB X.K) := by
  intro pins s σ H x xs v us Q I rx rxs h
  obtain ⟨p, bs, rfl, rfl, hs, q⟩ := h
  cases rx
  obtain ⟨u, rfl, ru⟩ := rxs.one
  obtain ⟨its, rv, ⟨⟨cls, dd, data, sl⟩, n, ho, hc, hdn, hd⟩, hlen⟩ := I.list hs
  simp only at hc hd
  subst hc hd
  refine call_meets PySem.F.slot_list_count ⟨_, ho, rfl⟩ PySem.F.entry_list_count (PySem.F.args_list_count_2 _ _) (SeqAt.list_countAt p its.toArray n dd sl u (eqU (.bl true))) ⟨ho, fun y hy => mem_eqAt ru rfl rv (bl_flat bs) y (by simpa using hy), ?_⟩
  have ec : its.toArray.toList.countP (eqU (.bl true)) = bs.count true := bl_count rv
  refine ⟨.int ((bs.count true : Nat) : Int), H, I.tok _, ⟨s.toks, ?_⟩, q⟩
  rw [ec]
def rIdxB (K : PySem.W.Frag) : V → List V → Hp → VK → Prop := fun x xs H Q => ∃ (p : Addr) (bs : List Bool) (j : Nat), x = .ref p ∧ xs = [.bl true] ∧ SqL K H p (bs.map V.bl) ∧ bs.findIdx? id = some j ∧ Q (.int ((j : Nat) : Int)) H
theorem mt_indexB : MtR X "list.index" (rIdxB X.K) := by
  intro pins s σ H x xs v us Q I rx rxs h
  obtain ⟨p, bs, j, rfl, rfl, hs, hj, q⟩ := h
  obtain ⟨hj1, hj2, hj3⟩ := List.findIdx?_eq_some_iff_getElem.mp hj
  refine mt_index pins s σ H _ _ v us Q I rx rxs ⟨p, bs.map V.bl, .bl true, j, .bl true, rfl, rfl, hs, rfl, bl_flat bs, ?_, rfl, fun m z hm hz => ?_, q⟩
  · rw [List.getElem?_map, List.getElem?_eq_getElem hj1]
    have : bs[j] = true := hj2
    rw [this]
    rfl
  · rw [List.getElem?_map] at hz
    obtain ⟨b, hb, rfl⟩ := Option.map_eq_some_iff.mp hz
    obtain ⟨hb1, hb2⟩ := List.getElem?_eq_some_iff.mp hb
    have := hj3 m hm
    rw [hb2] at this
    cases b with
    | true => exact absurd rfl this
    | false => rfl
end
end L2

set_option Elab.async false
set_option linter.all false
set_option maxRecDepth 100000
set_option maxHeartbeats 4000000
/-! DE7b: targets, what is walked, list comprehensions, built-ins. -/
namespace DE
open PySem PySem.Spec PyProof.Rows L2

/-! ### targets -/
/-- σ' is σ but for the slots is -/
def Off (is : List Nat) (σ σ' : L2.St) : Prop := σ'.length = σ.length ∧ ∀ j, j ∉ is → σ'[j]? = σ[j]?
theorem Off.refl {is : List Nat} {σ : L2.St} : Off is σ σ := ⟨rfl, fun _ _ => rfl⟩
theorem Off.trans {is js : List Nat} {σ σ1 σ2 : L2.St} (a : Off is σ σ1) (b : Off js σ1 σ2) : Off (is ++ js) σ σ2 :=
  ⟨b.1.trans a.1, fun j h => by rw [b.2 j fun z => h (List.mem_append_right _ z), a.2 j fun z => h (List.mem_append_left _ z)]⟩
theorem Off.mono {is js : List Nat} {σ σ' : L2.St} (a : Off is σ σ') (h : ∀ i ∈ is, i ∈ js) : Off js σ σ' := ⟨a.1, fun j hj => a.2 j fun z => hj (h j z)⟩
theorem Off.set {i : Nat} {σ : L2.St} {w : Option V} : Off [i] σ (σ.set i w) := ⟨List.length_set, fun j hj => by
  have : i ≠ j := fun z => hj (by rw [z]; exact List.mem_singleton_self j)
  rw [List.getElem?_set_ne this]⟩
def gX (E : En) (g : Tg) : TG := fun v σ H Q => ∃ B ρ G d ρ', Ex G H ∧ Rep E B G H σ ρ ∧ Den E G d v ∧ setG g d ρ = some ρ' ∧ ∀ σ', Rep E B G H σ' ρ' → Off g.slots σ σ' → Q σ' H
section
variable {X : Cx} {px : Option (Addr × Addr × Addr)} {C : Cfg} {W : WX} {k : Nat} {hh : Bool}
theorem pg_imp {e : Expr} {t t' : TG} (h : PG X e t) (k : ∀ v σ H Q, t' v σ H Q → t v σ H Q) : PG X e t' := ⟨fun pins s σ H v u Q I r q => h.run pins s σ H v u Q I r (k v σ H Q q)⟩
theorem pgs_imp {e : List Expr} {t t' : TGs} (h : PGs X e t) (k : ∀ v σ H Q, t' v σ H Q → t v σ H Q) : PGs X e t' := ⟨fun pins s σ H v u Q I r q => h.run pins s σ H v u Q I r (k v σ H Q q)⟩
def gXs (E : En) (is : List Nat) : TGs := fun vs σ H Q => ∃ B ρ G ds ρ', Ex G H ∧ Rep E B G H σ ρ ∧ Dens E G ds vs ∧ setT is ds ρ = some ρ' ∧ ∀ σ', Rep E B G H σ' ρ' → Off is σ σ' → Q σ' H
theorem tgB_of {N : List Str} {sc : Scope} {i : Nat} {x : Str} (h : tgB N sc i x = true) : N[i]? = some x ∧ locB sc x = true := by
  unfold tgB at h
  simpa using h
/-- what the look calls local may be set -/
def SetS (X : Cx) (sc : Scope) : Prop := ∀ x, locB sc x = true → L2.Loc X.env.scope x ∧ (X.fn x = true ∨ X.env.scope.names.lookup x = some .local)
theorem pgs_of (hN : X.N.Nodup) {sc : Scope} (hf : SetS X sc) {E : En} : ∀ {is : List Nat} {es : List Expr}, tgsB X.N sc is es = true → PGs X es (gXs E is)
  | [], [], _ => pgs_imp pgs_nil fun vs σ H Q q => by
    obtain ⟨B, ρ, G, ds, ρ', i, r, d, e, q⟩ := q
    cases ds with
    | nil => cases e; exact ⟨d, q σ r Off.refl⟩
    | cons d ds => cases e
  | [], _ :: _, h => by simp [tgsB] at h
  | i :: is, [], h => by simp [tgsB] at h
  | i :: is, e :: es, h => by
    cases e with
    | Name x p =>
      have h' : (tgB X.N sc i x && tgsB X.N sc is es) = true := h
      rw [Bool.and_eq_true] at h'
      obtain ⟨h1, h2⟩ := tgB_of h'.1
      refine pgs_imp (pgs_cons (pg_name hN h1 (hf x h2).1 (hf x h2).2) (pgs_of (E := E) hN hf h'.2)) fun vs σ H Q q => ?_
      obtain ⟨B, ρ, G, ds, ρ', i', r, d, e, q⟩ := q
      cases ds with
      | nil => cases e
      | cons d0 ds =>
        obtain ⟨v, rr, e1, dv, dr⟩ := d
        refine ⟨v, rr, e1, B, ρ.set i (some (.dat d0)), G, ds, ρ', i', r.setD dv, dr, e, fun σ' r' o => q σ' r' ?_⟩
        exact (Off.set.trans o).mono fun j hj => hj
    | _ => simp [tgsB] at h
theorem pg_of (hN : X.N.Nodup) (hc : X.calm = true) {sc : Scope} (hf : SetS X sc) {E : En} (hE : E.K = X.K) {g : Tg} {e : Expr} (h : ckG X.N sc g e = true) : PG X e (gX E g) := by
  cases g with
  | n i =>
    cases e with
    | Name x p =>
      obtain ⟨h1, h2⟩ := tgB_of (show tgB _ _ i x = true from h)
      refine pg_imp (pg_name hN h1 (hf x h2).1 (hf x h2).2) fun v σ H Q q => ?_
      obtain ⟨B, ρ, G, d, ρ', i', r, dv, e, q⟩ := q
      cases e
      exact q _ (r.setD dv) Off.set
    | _ => simp [ckG] at h
  | t is =>
    cases e with
    | Tuple es kk p =>
      have h' : tgsB X.N sc is es = true := h
      have hl : ∀ {is : List Nat} {es : List Expr}, tgsB X.N sc is es = true → es.length = is.length ∧ (assignEach es X.env).length = is.length ∧ (assignEach es X.env).findIdx? (·.1) = none := by
        intro is
        induction is with
        | nil =>
          intro es h
          cases es with
          | nil => exact ⟨rfl, rfl, rfl⟩
          | cons e es => simp [tgsB] at h
        | cons i is ih =>
          intro es h
          cases es with
          | nil => simp [tgsB] at h
          | cons e es =>
            cases e with
            | Name x p =>
              have h' : (tgB X.N sc i x && tgsB X.N sc is es) = true := h
              rw [Bool.and_eq_true] at h'
              obtain ⟨a1, a2, a3⟩ := ih h'.2
              refine ⟨by simp [a1], ?_, ?_⟩
              · show (_ :: assignEach es X.env).length = _
                simp [a2]
              · show ((false, _) :: assignEach es X.env).findIdx? (·.1) = none
                rw [List.findIdx?_cons]
                simp [a3]
            | _ => simp [tgsB] at h
      obtain ⟨l1, l2, l3⟩ := hl h'
      refine pg_imp (pg_tup (n := is.length) hc (pgs_of (E := E) hN hf h') l2 l3) fun v σ H Q q => ?_
      obtain ⟨B, ρ, G, d, ρ', i', r, dv, e, q⟩ := q
      cases d with
      | tup ds =>
        obtain ⟨a, vs, e1, e2, e3⟩ := dv
        have hd : ds.length = is.length := by
          have : ∀ {is : List Nat} {ds : List D} {ρ ρ' : Rho}, setT is ds ρ = some ρ' → ds.length = is.length := by
            intro is
            induction is with
            | nil => intro ds ρ ρ' e; cases ds with
              | nil => rfl
              | cons d ds => cases e
            | cons i is ih => intro ds ρ ρ' e; cases ds with
              | nil => cases e
              | cons d ds => rw [List.length_cons, List.length_cons, ih e]
          exact this (show setT is ds ρ = some ρ' from e)
        refine ⟨a, vs, e1, .inl (.inl (i' _ _ e2)), by rw [e3.length, hd], B, ρ, G, ds, ρ', i', r, e3, e, q⟩
      | _ => cases e
    | _ => simp [ckG] at h

/-! ### what is walked -/
/-- in H, J walks the items xs -/
structure Sq (J : It) (xs : List V) (H : Hp) : Prop where
  go : ∀ i, i < xs.length → J.go i H
  yld : ∀ i x H', i < xs.length → J.yld i H x H' → H' = H ∧ xs[i]? = some x
  stop : ∀ i, xs.length ≤ i → J.stop i H
theorem sq_l {K : PySem.W.Frag} {a : Addr} {xs : List V} {H : Hp} (h : SqL K H a xs) : Sq (Itl K a) xs H := ⟨fun i hi => ⟨xs, xs[i], h, by simp [hi]⟩, fun i x H' _ y => ⟨y.1, y.2 xs h⟩, fun i hi => ⟨xs, h, hi⟩⟩
theorem sq_t {K : PySem.W.Frag} {a : Addr} {xs : List V} {H : Hp} (h : SqT K H a xs) : Sq (Itt K a) xs H := ⟨fun i hi => ⟨xs, xs[i], h, by simp [hi]⟩, fun i x H' _ y => ⟨y.1, y.2 xs h⟩, fun i hi => ⟨xs, h, hi⟩⟩
theorem rangeD_len : ∀ (n : Nat) (lo : Int), (rangeD lo n).length = n
  | 0, _ => rfl
  | n + 1, lo => by unfold rangeD; rw [List.length_cons, rangeD_len n]
theorem rangeD_get : ∀ (n : Nat) (lo : Int) (i : Nat), i < n → (rangeD lo n)[i]? = some (.int (lo + i))
  | 0, _, _, h => absurd h (by omega)
  | n + 1, lo, 0, _ => by unfold rangeD; simp
  | n + 1, lo, i + 1, h => by
    unfold rangeD
    rw [List.getElem?_cons_succ, rangeD_get n (lo + 1) i (by omega)]
    congr 2
    push_cast
    omega
def rangeV' (lo : Int) (n : Nat) : List V := (rangeD lo n).map fun d => match d with
  | .int i => .int i
  | _ => .non
theorem rangeV_len {lo : Int} {n : Nat} : (rangeV' lo n).length = n := by unfold rangeV'; rw [List.length_map, rangeD_len]
theorem rangeD_dens {E : En} {G : Hp} : ∀ (n : Nat) (lo : Int), Dens E G (rangeD lo n) (rangeV' lo n)
  | 0, _ => rfl
  | n + 1, lo => ⟨.int lo, rangeV' (lo + 1) n, rfl, rfl, rangeD_dens n (lo + 1)⟩
theorem rangeV_get {lo : Int} {n i : Nat} (h : i < n) : (rangeV' lo n)[i]? = some (.int (lo + i)) := by
  unfold rangeV'
  rw [List.getElem?_map, rangeD_get n lo i h]
  rfl
theorem sq_r {lo : Int} {n : Nat} {H : Hp} : Sq (Itr lo n) (rangeV' lo n) H := by
  refine ⟨fun i hi => by rw [rangeV_len] at hi; exact hi, fun i x H' hi y => ?_, fun i hi => by rw [rangeV_len] at hi; exact hi⟩
  obtain ⟨e, y⟩ := y
  rw [rangeV_len] at hi
  exact ⟨e, by rw [rangeV_get hi, y]⟩
theorem sq_s {z : Str} {H : Hp} : Sq (Its z) (z.cps.toList.map fun c => V.str ⟨#[c]⟩) H := by
  have hl : (z.cps.toList.map fun c => V.str ⟨#[c]⟩).length = z.cps.size := by simp
  refine ⟨fun i hi => ?_, fun i x H' hi y => ?_, fun i hi => ?_⟩
  · rw [hl] at hi
    exact hi
  · obtain ⟨e, c, y1, y2⟩ := y
    refine ⟨e, ?_⟩
    rw [List.getElem?_map, Array.getElem?_toList, y1, y2]
    rfl
  · rw [hl] at hi
    exact hi
theorem signs_dens {E : En} {G : Hp} {z : Str} : Dens E G (signsD z) (z.cps.toList.map fun c => V.str ⟨#[c]⟩) := by
  unfold signsD
  induction z.cps.toList with
  | nil => exact rfl
  | cons c l ih => exact ⟨_, _, rfl, rfl, ih⟩
/-- what a walk asks of the thing that is walked -/
def Wlk (K : PySem.W.Frag) (x : V) (H : Hp) (R : It → Hp → Prop) : Prop := (∃ (a : Addr) (xs : List V), x = .ref a ∧ ((SqL K H a xs ∧ R (Itl K a) H) ∨ (SqT K H a xs ∧ R (Itt K a) H))) ∨ ∃ z, x = .str z ∧ R (Its z) H
/-- over a list, a tuple or a text, whichever stands there -/
theorem pi_seq {tg l : Expr} {tl : TE} (hl : PE X l tl) : PI X tg l (fun σ H R => tl σ H fun x H1 => Wlk X.K x H1 R) := by
  refine ⟨fun pins s σ H R I h => ?_⟩
  refine thn (hl.run pins s σ H _ I h) fun v s1 ⟨x, H1, I1, r1, q0⟩ => ?_
  rcases q0 with ⟨a, xs, e, q⟩ | ⟨y, ex, q⟩
  · subst e
    cases r1
    have fp : ∀ b ∈ [s1.heap.objs.size], FpOk X pins H1 b := fun b hb => by
      have e : b = s1.heap.objs.size := by simpa using hb
      subst e
      exact I1.fpOk (Nat.le_refl _) (I1.hok.fresh (Nat.le_refl _))
    rcases q with ⟨hq, q⟩ | ⟨hq, q⟩
    · obtain ⟨its, rv, p, hz⟩ := I1.list hq
      exact wpAny_pyIter_list p.isList ⟨_, [s1.heap.objs.size], _, _, H1, rfl, I1.kept (t' := s1.toks) fun b o e => Heap.get?_push_of_some _ e, turn_list a _, ⟨_, Heap.get?_push_size _ rfl, rfl, rfl⟩, fp, q⟩
    · obtain ⟨its, rv, p, hz⟩ := I1.tuple hq
      exact wpAny_pyIter_tuple (show s1.heap.IsTuple a its.toArray from p) ⟨_, [s1.heap.objs.size], _, _, H1, rfl, I1.kept (t' := s1.toks) fun b o e => Heap.get?_push_of_some _ e, turn_tuple a _, ⟨_, Heap.get?_push_size _ rfl, rfl, rfl⟩, fp, q⟩
  · subst ex
    obtain ⟨t, rfl⟩ := r1
    cases ha : y.cps.all (· < 128)
    · exact wpAny_pyIter_wide ha (pi_one (tk := s1.toks) I1 _ (turn_str _ y t "str_iterator" (.inr rfl)) ⟨_, Heap.get?_push_size _ rfl, rfl, rfl⟩ q)
    · exact wpAny_pyIter_ascii ha (pi_one (tk := s1.toks) I1 _ (turn_str _ y t "str_ascii_iterator" (.inl rfl)) ⟨_, Heap.get?_push_size _ rfl, rfl, rfl⟩ q)
theorem walkV_or {x : RV} {ds : List D} (e : walkV x = some ds) : (∃ z, x = .dat (.str z) ∧ ds = signsD z) ∨ seqV x = some ds := by
  unfold walkV at e
  split at e
  · cases e
    exact .inl ⟨_, rfl, rfl⟩
  · exact .inr e
/-- a walk of ds, good as long as P -/
def iX (E : En) (W : WX) (f : Rho → Ans (List D)) (P : Hp → Hp → Hp → Prop) : TI := fun σ H R => ∃ B ρ G, Ex G H ∧ Rep E B G H σ ρ ∧ QA E W σ G H (fun ds G1 H1 => ∀ J xs, Dens E G1 ds xs → (∀ H', P G1 H1 H' → Sq J xs H') → R J H1) (f ρ)
theorem pi_imp {tg l : Expr} {t t' : TI} (h : PI X tg l t) (k : ∀ σ H R, t' σ H R → t σ H R) : PI X tg l t' := ⟨fun pins s σ H R I q => h.run pins s σ H R I (k σ H R q)⟩
/-- in a comprehension: the heap only grows -/
theorem i_seq {tg a : Expr} {f : Rho → EvR} (ha : PE X a (cE (enX X px) W f)) : PI X tg a (iX (enX X px) W (fun ρ => bindR (f ρ) fun x => optR (walkV x)) fun _ H1 H' => Ex H1 H') := by
  refine pi_imp (pi_seq ha) fun σ H R h => ?_
  obtain ⟨B, ρ, G, i, rp, h⟩ := h
  refine cE_step i rp h fun v x G1 H1 g1 r1 d1 h1 => ?_
  obtain ⟨ds, e, q⟩ := h1.opt
  rcases walkV_or e with ⟨z, ex, ez⟩ | e
  · subst ex ez
    exact .inr ⟨z, d1, q G1 H1 (Gr.refl g1.i) _ _ signs_dens fun H' x => sq_s⟩
  obtain ⟨a, xs, e1, e2, e3⟩ := seqV_sq (E := enX X px) g1.i d1 e
  refine .inl ⟨a, xs, e1, ?_⟩
  rcases e2 with e2 | e2
  · exact .inl ⟨e2, q G1 H1 (Gr.refl g1.i) _ xs e3 fun H' x => sq_l (x.sql e2)⟩
  · exact .inr ⟨e2, q G1 H1 (Gr.refl g1.i) _ xs e3 fun H' x => sq_t (by
      rcases e2 with e2 | e2
      · exact .inl (x.rd e2)
      · exact .inr e2)⟩
theorem sq_v {K : PySem.W.Frag} {a : Addr} {xs : List V} {H : Hp} (h : SqL K H a xs) : Sq (Itv K a xs.length) xs.reverse H := by
  refine ⟨fun i hi => ?_, fun i x H' hi y => ⟨y.1, ?_⟩, fun i hi => ?_⟩
  · rw [List.length_reverse] at hi
    exact ⟨hi, xs, xs[xs.length - 1 - i], h, List.getElem?_eq_getElem (by omega)⟩
  · rw [List.length_reverse] at hi
    rw [List.getElem?_reverse hi]
    exact y.2 xs h
  · rw [List.length_reverse] at hi
    exact hi
theorem dens_rev {E : En} {G : Hp} : ∀ {ds : List D} {vs : List V}, Dens E G ds vs → Dens E G ds.reverse vs.reverse
  | [], vs, h => by
    cases (show vs = [] from h)
    exact rfl
  | d :: ds, vs, h => by
    obtain ⟨v, r, h1, h2, h3⟩ := h
    subst h1
    rw [List.reverse_cons, List.reverse_cons]
    exact (dens_rev h3).append (Dens.one h2)
theorem i_rev {tg a : Expr} {fa : Rho → Ans (List RV)} {p pos : Pos} {P : Hp → Hp → Hp → Prop} (hP : ∀ G1 H1 H', Ex G1 H1 → P G1 H1 H' → Ex G1 H') (hg : Gl X "reversed") (hm : X.mg "reversed" = none) (hs : starEach [a] X.env = [(false, eval a X.env)]) (ha : PA X [a] (cA (enX X px) W fa)) :
    PI X tg (.Call (.Name "reversed" p) [a] [] pos) (iX (enX X px) W (fun ρ => bindR (fa ρ) fun rs => optR (revV rs)) P) := by
  refine pi_imp (pi_reversed hg hm ha hs) fun σ H R h => ?_
  obtain ⟨B, ρ, G, i, rp, h⟩ := h
  refine cA_stepE i rp h fun vs rs G1 H1 er g1 r1 d1 h1 => ?_
  obtain ⟨ds, e, q⟩ := h1.opt
  have fin : ∀ (x : RV) (ds0 : List D) (v : V), DenR (enX X px) G1 H1 H x v → (∀ o, x ≠ .br o) → x.d = .lst ds0 → ds = ds0.reverse → vs = [v] → ∃ (a : Addr) (xs : List V), vs = [.ref a] ∧ SqL X.K H1 a xs ∧ R (Itv X.K a xs.length) H1 := by
    intro x ds0 v dv nb ex eds evs
    obtain ⟨G2, g2, x2, d2⟩ := DenR.froze g1 dv nb
    rw [ex] at d2
    obtain ⟨l, ws, k1, k2, k3⟩ := d2
    subst k1 eds evs
    exact ⟨l, ws, rfl, g2.i.sql k2, q G2 H1 g2 _ ws.reverse (dens_rev k3) fun H' p => sq_v ((hP G2 H1 H' g2.i p).sql k2)⟩
  unfold revV at e
  split at e
  · cases e
    obtain ⟨v, ev, dv⟩ := dens1 d1
    exact fin _ _ v dv (fun o z => by cases z) rfl rfl ev
  · cases e
    obtain ⟨v, ev, dv⟩ := dens1 d1
    exact fin _ _ v dv (fun o z => by cases z) rfl rfl ev
  · cases e
theorem ints62_of {i : Int} (h : ints62 i = true) : -(2 ^ 62) ≤ i ∧ i < 2 ^ 62 := by
  unfold ints62 at h
  simpa using h
theorem i_range1 {tg a : Expr} {fa : Rho → Ans (List RV)} {p pos : Pos} {P : Hp → Hp → Hp → Prop} (hg : Gl X "range") (hm : X.mg "range" = none) (hs : starEach [a] X.env = [(false, eval a X.env)]) (ha : PA X [a] (cA (enX X px) W fa)) (hl : ∀ ρ rs, fa ρ = some (.ok rs) → rs.length = 1) :
    PI X tg (.Call (.Name "range" p) [a] [] pos) (iX (enX X px) W (fun ρ => bindR (fa ρ) fun rs => optR (rangeV rs)) P) := by
  refine pi_imp (pi_range1 hg hm ha hs) fun σ H R h => ?_
  obtain ⟨B, ρ, G, i, rp, h⟩ := h
  refine cA_stepE i rp h fun vs rs G1 H1 er g1 r1 d1 h1 => ?_
  obtain ⟨ds, e, q⟩ := h1.opt
  have hl := hl _ _ er
  unfold rangeV at e
  split at e
  · split at e
    · rename_i hb
      cases e
      obtain ⟨v, ev, dv⟩ := dens1 d1
      subst ev
      cases (show v = _ from dv)
      obtain ⟨b1, b2⟩ := ints62_of hb
      exact ⟨_, rfl, b1, b2, q G1 H1 g1 _ _ (rangeD_dens _ _) fun H' _ => sq_r⟩
    · cases e
  · simp at hl
  · cases e
theorem i_range2 {tg a b : Expr} {fa : Rho → Ans (List RV)} {p pos : Pos} {P : Hp → Hp → Hp → Prop} (hg : Gl X "range") (hm : X.mg "range" = none) (hs : starEach [a, b] X.env = [(false, eval a X.env), (false, eval b X.env)]) (hs2 : starEach [b] X.env = [(false, eval b X.env)]) (ha : PA X [a, b] (cA (enX X px) W fa)) (hl : ∀ ρ rs, fa ρ = some (.ok rs) → rs.length = 2) :
    PI X tg (.Call (.Name "range" p) [a, b] [] pos) (iX (enX X px) W (fun ρ => bindR (fa ρ) fun rs => optR (rangeV rs)) P) := by
  refine pi_imp (pi_range2 hg hm ha hs hs2) fun σ H R h => ?_
  obtain ⟨B, ρ, G, i, rp, h⟩ := h
  refine cA_stepE i rp h fun vs rs G1 H1 er g1 r1 d1 h1 => ?_
  obtain ⟨ds, e, q⟩ := h1.opt
  have hl := hl _ _ er
  unfold rangeV at e
  split at e
  · simp at hl
  · split at e
    · rename_i hb
      cases e
      obtain ⟨v, w, ev, dv, ⟨v2, w2, ev2, dv2, hw, _⟩, _⟩ := d1
      subst ev
      subst ev2
      cases (show w2 = [] from hw)
      cases (show v = _ from dv)
      cases (show v2 = _ from dv2)
      obtain ⟨b1, b2⟩ := ints62_of hb.1
      obtain ⟨b3, b4⟩ := ints62_of hb.2
      exact ⟨_, _, rfl, ⟨b1, b2, b3, b4⟩, q G1 H1 g1 _ _ (rangeD_dens _ _) fun H' _ => sq_r⟩
    · cases e
  · cases e
end
end DE

set_option Elab.async false
set_option linter.all false
set_option maxRecDepth 100000
set_option maxHeartbeats 4000000
/-! DE7b2: list(range(..)), list(reversed(xs)), reversed(range(n)). -/
namespace DE
open PySem PySem.Spec PyProof.Rows L2
theorem rgV_eq (a b : Int) : rgV a b = rangeV' a (b - a).toNat := by
  apply List.ext_getElem?
  intro i
  unfold rgV
  by_cases h : i < (b - a).toNat
  · rw [rangeV_get h, List.getElem?_map, List.getElem?_range h]
    rfl
  · rw [List.getElem?_eq_none (by rw [List.length_map, List.length_range]; omega), List.getElem?_eq_none (by rw [rangeV_len]; omega)]
theorem rg_dens {E : En} {G : Hp} (a b : Int) : Dens E G (rangeD a (b - a).toNat) (rgV a b) := by
  rw [rgV_eq]
  exact rangeD_dens _ _
theorem sq_rr {n : Int} {H : Hp} : Sq (Itc (0 + (((n - 0).toNat : Nat) : Int) - 1) (-1) (n - 0).toNat) (rangeV' 0 n.toNat).reverse H := by
  have e0 : (n - 0).toNat = n.toNat := by rw [Int.sub_zero]
  rw [e0]
  refine ⟨fun i hi => ?_, fun i x H' hi y => ?_, fun i hi => ?_⟩
  · rw [List.length_reverse, rangeV_len] at hi
    exact hi
  · obtain ⟨e, y⟩ := y
    rw [List.length_reverse, rangeV_len] at hi
    refine ⟨e, ?_⟩
    rw [List.getElem?_reverse (by rw [rangeV_len]; exact hi), rangeV_len, rangeV_get (by omega), y]
    congr 2
    omega
  · rw [List.length_reverse, rangeV_len] at hi
    exact hi
section
variable {X : Cx} {px : Option (Addr × Addr × Addr)} {C : Cfg} {W : WX} {k : Nat} {hh : Bool} {a b : Expr} {f g : Rho → EvR} {pos p p2 pos2 : Pos}
theorem c_lsr1 (hc : X.calm = true) (hg : Gl X "list") (hm : X.mg "list" = none) (hg2 : Gl X "range") (hm2 : X.mg "range" = none) (hs : starEach [a] X.env = [(false, eval a X.env)]) (ha : PE X a (cE (enX X px) W f)) :
    PE X (.Call (.Name "list" p) [.Call (.Name "range" p2) [a] [] pos2] [] pos) (cE (enX X px) W fun ρ => bindR (f ρ) fun x => optR (lsr1V x)) := by
  refine pe_imp (pe_listRg hc hg hm (prg_1 hg2 hm2 ha hs) rfl) fun σ H Q h => ?_
  obtain ⟨B, ρ, G, i, rp, h⟩ := h
  refine cE_step i rp h fun v x G1 H1 g1 r1 d1 h1 => ?_
  obtain ⟨z, e, q⟩ := h1.opt
  unfold lsr1V at e
  split at e
  · rename_i n
    split at e
    · rename_i hb
      cases e
      obtain ⟨b1, b2⟩ := ints62_of hb.2
      have b3 := hb.1
      refine ⟨n, d1, ⟨by omega, by omega, b1, b2, by omega⟩, fun q' hq => ?_⟩
      have dd := rg_dens (E := enX X px) (G := G1) 0 n
      rw [Int.sub_zero] at dd
      exact q _ _ (Gr.loose g1.i hq) _ ⟨q', rfl, g1.h.free hq, g1.i.free hq, _, upd_same, dd⟩
    · cases e
  · cases e
theorem c_lsr2 (hc : X.calm = true) (hg : Gl X "list") (hm : X.mg "list" = none) (hg2 : Gl X "range") (hm2 : X.mg "range" = none) (hs : starEach [a, b] X.env = [(false, eval a X.env), (false, eval b X.env)]) (hs2 : starEach [b] X.env = [(false, eval b X.env)]) (ha : PE X a (cE (enX X px) W f)) (hb : PE X b (cE (enX X px) W g)) :
    PE X (.Call (.Name "list" p) [.Call (.Name "range" p2) [a, b] [] pos2] [] pos) (cE (enX X px) W fun ρ => bindR (f ρ) fun x => bindR (g ρ) fun y => optR (lsr2V x y)) := by
  refine pe_imp (pe_listRg hc hg hm (prg_2 hg2 hm2 ha hb (by rw [hs, hs2]) hs2 (by rw [hs2]; rfl)) rfl) fun σ H Q h => ?_
  obtain ⟨B, ρ, G, i, rp, h⟩ := h
  refine cE_step i rp h fun v x G1 H1 g1 r1 d1 h1 => ?_
  refine cE_step g1.i r1 h1 fun u y G2 H2 g2 r2 d2 h2 => ?_
  obtain ⟨z, e, q⟩ := h2.opt
  unfold lsr2V at e
  split at e
  · rename_i n m
    split at e
    · rename_i hb
      cases e
      obtain ⟨b3, hb1, hb2⟩ := hb
      obtain ⟨b1, b2⟩ := ints62_of hb1
      obtain ⟨b4, b5⟩ := ints62_of hb2
      refine ⟨n, m, d1, d2, ⟨b1, b2, b4, b5, by omega⟩, fun q' hq => ?_⟩
      exact q _ _ (Gr.loose g2.i hq) _ ⟨q', rfl, (g1.h.trans g2.h).free hq, g2.i.free hq, _, upd_same, rg_dens _ _⟩
    · cases e
  · cases e
theorem c_lrv (hc : X.calm = true) (hg : Gl X "list") (hm : X.mg "list" = none) (hg2 : Gl X "reversed") (hm2 : X.mg "reversed" = none) (hs : starEach [a] X.env = [(false, eval a X.env)]) (ha : PE X a (cE (enX X px) W f)) :
    PE X (.Call (.Name "list" p) [.Call (.Name "reversed" p2) [a] [] pos2] [] pos) (cE (enX X px) W fun ρ => bindR (f ρ) fun x => optR (lrvV x)) := by
  refine pe_imp (pe_listRev hc hg hm hg2 hm2 ha hs) fun σ H Q h => ?_
  obtain ⟨B, ρ, G, i, rp, h⟩ := h
  refine cE_step i rp h fun v x G1 H1 g1 r1 d1 h1 => ?_
  obtain ⟨z, e, q⟩ := h1.opt
  unfold lrvV at e
  split at e
  · rename_i ds el
    cases e
    obtain ⟨a', ws, e1, e2, e3⟩ := lstV_sq (E := enX X px) g1.i d1 el
    refine ⟨a', ws, e1, e2, fun q' hq => ?_⟩
    exact q _ _ (Gr.loose g1.i hq) _ ⟨q', rfl, g1.h.free hq, g1.i.free hq, _, upd_same, dens_rev e3⟩
  · cases e
theorem bool_few {b : Bool} {kk : Nat} {p3 cp : Pos} : ((backTo cp (starEach [Expr.Constant (.bool b) kk p3] X.env)).all (fun x => !x.1) && (backToKw cp (keywordEach [] X.env)).all (fun x => x.1.isSome) && decide (([Expr.Constant (.bool b) kk p3] : List Expr).length + ([] : List Keyword).length + (if ([] : List Keyword).isEmpty then 0 else 1) < 30)) = true := rfl
theorem c_cntT {ap cp p3 : Pos} {kk : Nat} (ha : PE X a (cE (enX X px) W f)) (hb : attributeBase a "count" X.env (eval a X.env) = eval a X.env) (hl : (ap.endLine == cp.line) = true) :
    PE X (.Call (.Attribute a "count" ap) [.Constant (.bool true) kk p3] [] cp) (cE (enX X px) W fun ρ => bindR (f ρ) fun x => optR (cntV x)) := by
  refine pe_imp (pe_bm PySem.F.plainAttrs_list PySem.F.slot_list_count PySem.F.type_list_count mt_countB ha (pa_cons pe_bl pa_nil rfl) hb bool_few hl rfl rfl) fun σ H Q h => ?_
  obtain ⟨B, ρ, G, i, rp, h⟩ := h
  refine cE_step i rp h fun v x G1 H1 g1 r1 d1 h1 => ?_
  obtain ⟨z, e, q⟩ := h1.opt
  unfold cntV at e
  split at e
  · rename_i bs el
    cases e
    obtain ⟨l, e1, e2⟩ := lstB_sq (E := enX X px) g1.i d1 el
    subst e1
    exact ⟨.inl ⟨rfl, _, e2⟩, l, bs, rfl, rfl, e2, q _ _ (Gr.refl g1.i) _ rfl⟩
  · cases e
theorem c_idxT {ap cp p3 : Pos} {kk : Nat} (ha : PE X a (cE (enX X px) W f)) (hb : attributeBase a "index" X.env (eval a X.env) = eval a X.env) (hl : (ap.endLine == cp.line) = true) :
    PE X (.Call (.Attribute a "index" ap) [.Constant (.bool true) kk p3] [] cp) (cE (enX X px) W fun ρ => bindR (f ρ) fun x => optR (idxV x)) := by
  refine pe_imp (pe_bm PySem.F.plainAttrs_list PySem.F.slot_list_index PySem.F.type_list_index mt_indexB ha (pa_cons pe_bl pa_nil rfl) hb bool_few hl rfl rfl) fun σ H Q h => ?_
  obtain ⟨B, ρ, G, i, rp, h⟩ := h
  refine cE_step i rp h fun v x G1 H1 g1 r1 d1 h1 => ?_
  obtain ⟨z, e, q⟩ := h1.opt
  unfold idxV at e
  split at e
  · rename_i bs el
    split at e
    · rename_i j ej
      cases e
      obtain ⟨l, e1, e2⟩ := lstB_sq (E := enX X px) g1.i d1 el
      subst e1
      exact ⟨.inl ⟨rfl, _, e2⟩, l, bs, j, rfl, rfl, e2, ej, q _ _ (Gr.refl g1.i) _ rfl⟩
    · cases e
  · cases e
theorem texts_sq {E : En} {G H H0 : Hp} {x : RV} {ys : List Str} {v : V} (i : Ex G H) (d : DenR E G H H0 x v) (e : textsV x = some ys) : ∃ p, v = .ref p ∧ (SqL E.K H p (ys.map V.str) ∨ SqT E.K H p (ys.map V.str)) := by
  unfold textsV at e
  split at e
  · rename_i ds es
    obtain ⟨p, xs, h1, h2, h3⟩ := seqV_sq i d es
    rw [strsD_den e h3] at h2
    exact ⟨p, h1, h2⟩
  · cases e
theorem str_dens {E : En} {G : Hp} : ∀ ys : List Str, Dens E G (ys.map D.str) (ys.map V.str)
  | [] => rfl
  | y :: ys => ⟨.str y, ys.map V.str, rfl, rfl, str_dens ys⟩
/-- a text's method, by its rule -/
theorem m1_go (m : Mt) {r : V → List V → Hp → VK → Prop} (hr : ∀ {G H H0 : Hp} {s : Str} {y : RV} {u : V} {z : RV} {Q : VK}, Ex G H → Ex H0 H → DenR (enX X px) G H H0 y u → mtV m s y = some z → (∀ w G' H', Gr G H G' H' → DenR (enX X px) G' H' H0 z w → Q w H') → r (.str s) [u] H Q) :
    ∀ σ H Q, cE (enX X px) W (fun ρ => bindR (f ρ) fun x => mtU m x (g ρ)) σ H Q → tM1 r (cE (enX X px) W f) (cE (enX X px) W g) σ H Q := fun σ H Q h => by
  obtain ⟨B, ρ, G, i, rp, h⟩ := h
  refine cE_step i rp h fun v x G1 H1 g1 r1 d1 h1 => ?_
  unfold mtU at h1
  split at h1
  · rename_i s
    cases (show v = _ from d1)
    refine ⟨⟨s, rfl⟩, ?_⟩
    refine cE_step g1.i r1 h1 fun u y G2 H2 g2 r2 d2 h2 => ?_
    obtain ⟨z, e, q⟩ := h2.opt
    exact hr g2.i (g1.h.trans g2.h) (d2.back g1.h) e fun w G' H' g' dw => q G' H' g' w dw
  · exact h1.elim
theorem c_m1 (m : Mt) {ap cp : Pos} (ha : PE X a (cE (enX X px) W f)) (hb : PE X b (cE (enX X px) W g)) (hs : starEach [b] X.env = [(false, eval b X.env)]) (hbase : attributeBase a m.nm X.env (eval a X.env) = eval a X.env) (hl : (ap.endLine == cp.line) = true) :
    PE X (.Call (.Attribute a m.nm ap) [b] [] cp) (cE (enX X px) W fun ρ => bindR (f ρ) fun x => mtU m x (g ρ)) := by
  cases m with
  | split =>
    refine pe_imp (pe_m1 PySem.F.slot_str_split PySem.F.type_str_split mt_split ha hb hs hbase hl) (m1_go .split fun {G H H0 s y u z Q} i i0 d e k => ?_)
    change splitV s y = some z at e
    unfold splitV at e
    split at e
    · rename_i t
      split at e
      · rename_i hh
        cases e
        cases (show u = _ from d)
        exact ⟨s, t, rfl, rfl, hh.1, by rw [line_eq]; exact hh.2, fun p hp => k _ _ _ (Gr.loose i hp) ⟨p, rfl, i0.free hp, i.free hp, _, upd_same, str_dens _⟩⟩
      · cases e
    · cases e
  | join =>
    refine pe_imp (pe_m1 PySem.F.slot_str_join PySem.F.type_str_join mt_join ha hb hs hbase hl) (m1_go .join fun {G H H0 s y u z Q} i i0 d e k => ?_)
    change joinV s y = some z at e
    unfold joinV at e
    split at e
    · rename_i ys ey
      split at e
      · rename_i hh
        cases e
        obtain ⟨p, h1, h2⟩ := texts_sq i d ey
        subst h1
        exact ⟨s, p, ys, rfl, rfl, h2, hh, k _ _ _ (Gr.refl i) rfl⟩
      · cases e
    · cases e
  | stw =>
    refine pe_imp (pe_m1 PySem.F.slot_str_startswith PySem.F.type_str_startswith mt_startswith ha hb hs hbase hl) (m1_go .stw fun {G H H0 s y u z Q} i i0 d e k => ?_)
    change stwV s y = some z at e
    unfold stwV at e
    split at e
    · rename_i t
      cases e
      cases (show u = _ from d)
      exact ⟨s, t, rfl, rfl, k _ _ _ (Gr.refl i) rfl⟩
    · cases e
  | find =>
    refine pe_imp (pe_m1 PySem.F.slot_str_find PySem.F.type_str_find mt_find ha hb hs hbase hl) (m1_go .find fun {G H H0 s y u z Q} i i0 d e k => ?_)
    change findV s y = some z at e
    unfold findV at e
    split at e
    · rename_i t
      cases e
      cases (show u = _ from d)
      exact ⟨s, t, rfl, rfl, k _ _ _ (Gr.refl i) rfl⟩
    · cases e
  | rfind =>
    refine pe_imp (pe_m1 PySem.F.slot_str_rfind PySem.F.type_str_rfind mt_rfind ha hb hs hbase hl) (m1_go .rfind fun {G H H0 s y u z Q} i i0 d e k => ?_)
    change rfindV s y = some z at e
    unfold rfindV at e
    split at e
    · rename_i t
      cases e
      cases (show u = _ from d)
      exact ⟨s, t, rfl, rfl, k _ _ _ (Gr.refl i) rfl⟩
    · cases e
theorem i_revR {tg : Expr} {P : Hp → Hp → Hp → Prop} (hg : Gl X "reversed") (hm : X.mg "reversed" = none) (hg2 : Gl X "range") (hm2 : X.mg "range" = none) (hs : starEach [a] X.env = [(false, eval a X.env)]) (ha : PE X a (cE (enX X px) W f)) :
    PI X tg (.Call (.Name "reversed" p) [.Call (.Name "range" p2) [a] [] pos2] [] pos) (iX (enX X px) W (fun ρ => bindR (f ρ) fun x => optR (rvrV x)) P) := by
  refine pi_imp (pi_revR hg hm (prg_1 hg2 hm2 ha hs) rfl) fun σ H R h => ?_
  obtain ⟨B, ρ, G, i, rp, h⟩ := h
  refine cE_step i rp h fun v x G1 H1 g1 r1 d1 h1 => ?_
  obtain ⟨ds, e, q⟩ := h1.opt
  unfold rvrV at e
  split at e
  · rename_i n
    split at e
    · rename_i hb
      cases e
      obtain ⟨b1, b2⟩ := ints62_of hb
      exact ⟨n, d1, by decide, by decide, b1, b2, q G1 H1 (Gr.refl g1.i) _ _ (dens_rev (rangeD_dens _ _)) fun H' _ => sq_rr⟩
    · cases e
  · cases e
end
end DE

set_option Elab.async false
set_option linter.all false
set_option maxRecDepth 100000
set_option maxHeartbeats 4000000
/-! DE7c: list comprehensions, built-ins. -/
namespace DE
open PySem PySem.Spec PyProof.Rows L2
abbrev WF : WX := fun _ _ _ _ => False
theorem ownOf_slots {N : List Str} : ∀ is : List Nat, (ownOf N is).map (·.2) = is
  | [] => rfl
  | i :: is => by unfold ownOf; rw [List.map_cons, ownOf_slots is]
def wipeR (ρ : Rho) : List Nat → Rho
  | [] => ρ
  | v :: vs => (wipeR ρ vs).set v none
theorem rep_wipe {E : En} {B G H : Hp} {σ : L2.St} {ρ : Rho} (r : Rep E B G H σ ρ) : ∀ vs, Rep E B G H (wipe σ vs) (wipeR ρ vs)
  | [] => r
  | v :: vs => (rep_wipe r vs).setN
theorem wipeR_len {ρ : Rho} : ∀ vs, (wipeR ρ vs).length = ρ.length
  | [] => rfl
  | v :: vs => by unfold wipeR; rw [List.length_set, wipeR_len vs]
theorem wipeR_off {ρ : Rho} {j : Nat} : ∀ {vs : List Nat}, j ∉ vs → (wipeR ρ vs)[j]? = ρ[j]?
  | [], _ => rfl
  | v :: vs, h => by
    unfold wipeR
    rw [List.getElem?_set_ne (fun z => h (by rw [z]; exact List.mem_cons_self)), wipeR_off fun z => h (List.mem_cons_of_mem _ z)]
theorem wipe_off {σ : L2.St} {j : Nat} : ∀ {vs : List Nat}, j ∉ vs → (wipe σ vs)[j]? = σ[j]?
  | [], _ => rfl
  | v :: vs, h => by
    unfold wipe
    rw [List.getElem?_set_ne (fun z => h (by rw [z]; exact List.mem_cons_self)), wipe_off fun z => h (List.mem_cons_of_mem _ z)]
theorem wipe_on {σ : L2.St} {j : Nat} : ∀ {vs : List Nat}, j ∈ vs → j < σ.length → (wipe σ vs)[j]? = some none
  | v :: vs, h, hl => by
    unfold wipe
    by_cases e : v = j
    · subst e
      rw [List.getElem?_set_self (by rw [wipe_length]; exact hl)]
    · rw [List.getElem?_set_ne e]
      exact wipe_on ((List.mem_cons.mp h).elim (fun z => absurd z.symm e) id) hl
theorem wipe_eq {σ σ2 : L2.St} {vs : List Nat} (o : Off vs (wipe σ vs) σ2) : wipe σ2 vs = wipe σ vs := by
  refine List.ext_getElem? fun j => ?_
  by_cases h : j ∈ vs
  · by_cases hl : j < σ.length
    · rw [wipe_on h hl, wipe_on h (by rw [o.1, wipe_length]; exact hl)]
    · rw [List.getElem?_eq_none (by rw [wipe_length, o.1, wipe_length]; omega), List.getElem?_eq_none (by rw [wipe_length]; omega)]
  · rw [wipe_off h, o.2 j h]
theorem setT_wipe : ∀ {is : List Nat} {ds : List D} {ρ ρ2 : Rho}, ρ2.length = ρ.length → (∀ j, j ∉ is → ρ2[j]? = ρ[j]?) → setT is ds ρ2 = setT is ds ρ
  | [], [], ρ, ρ2, hl, h => by
    unfold setT
    rw [List.ext_getElem? fun j => h j (by simp)]
  | [], _ :: _, _, _, _, _ => rfl
  | i :: is, [], _, _, _, _ => rfl
  | i :: is, d :: ds, ρ, ρ2, hl, h => by
    show setT is ds (ρ2.set i _) = setT is ds (ρ.set i _)
    refine setT_wipe (by rw [List.length_set, List.length_set, hl]) fun j hj => ?_
    by_cases e : i = j
    · subst e
      by_cases hi : i < ρ.length
      · rw [List.getElem?_set_self hi, List.getElem?_set_self (by rw [hl]; exact hi)]
      · rw [List.getElem?_eq_none (by rw [List.length_set]; omega), List.getElem?_eq_none (by rw [List.length_set]; omega)]
    · rw [List.getElem?_set_ne e, List.getElem?_set_ne e]
      exact h j fun z => (List.mem_cons.mp z).elim (fun w => e w.symm) hj
theorem setG_wipe {g : Tg} {d : D} {ρ : Rho} : setG g d (wipeR ρ g.slots) = setG g d ρ := by
  cases g with
  | n i =>
    show some ((wipeR ρ [i]).set i _) = some (ρ.set i _)
    show some ((ρ.set i none).set i _) = _
    rw [List.set_set]
  | t is =>
    cases d with
    | tup ds => exact setT_wipe (wipeR_len _) fun j hj => wipeR_off hj
    | _ => rfl
theorem compL_ok {step : D → Ans (Option D)} : ∀ {ds : List D} {y : Except Er (List D)}, compL step ds = some y → ∃ rs, y = .ok rs
  | [], y, e => by cases e; exact ⟨_, rfl⟩
  | d :: ds, y, e => by
    unfold compL at e
    split at e
    · split at e
      · cases e; exact ⟨_, rfl⟩
      · cases e
    · cases e
theorem compL_cons {step : D → Ans (Option D)} {d : D} {ds rs : List D} (e : compL step (d :: ds) = some (.ok rs)) : ∃ o r, step d = some (.ok o) ∧ compL step ds = some (.ok r) ∧ rs = (match o with | some x => x :: r | none => r) := by
  unfold compL at e
  split at e
  · rename_i o e1
    split at e
    · rename_i r e2
      cases e
      exact ⟨o, r, e1, e2, rfl⟩
    · cases e
  · cases e
theorem bind_ok {α β : Type} {x : Ans α} {f : α → Ans β} {b : β} (e : bindR x f = some (.ok b)) : ∃ a, x = some (.ok a) ∧ f a = some (.ok b) := by
  cases x with
  | none => cases e
  | some y =>
    cases y with
    | error e' => cases e
    | ok a => exact ⟨a, rfl, e⟩
/-- a comprehension's turn -/
def turnL (g : Tg) (fi : Rho → Ans Bool) (fe : Rho → EvR) (ρ : Rho) (d : D) : Ans (Option D) :=
  match setG g d ρ with
  | some ρ' => bindR (fi ρ') fun k => match k with
    | true => bindR (fe ρ') fun x => match toD x with
      | some y => some (.ok (some y))
      | none => none
    | false => some (.ok none)
  | none => none
section
variable {X : Cx} {px : Option (Addr × Addr × Addr)} {C : Cfg} {W : WX} {k : Nat} {hh : Bool}
theorem setS_blk {s : Shared} {H : Hp} {scope : Scope} {C' : Addr} {cl : List (Str × Addr)} {fp : List Addr} : SetS (X.blk s H scope (compEnvC scope cl C' X.env) fp) scope := by
  intro x hx
  unfold locB at hx
  split at hx
  · rename_i q
    have e : (relS scope X.env.scope).names.lookup x = some .local := lookup_relS_keep (by decide) q
    exact ⟨.inl e, .inr e⟩
  · rename_i q
    have e : (relS scope X.env.scope).names.lookup x = some .cell := lookup_relS_keep (by decide) q
    refine ⟨.inr e, .inl ?_⟩
    show (scope.names.lookup x == some .cell) = true
    rw [q]
    rfl
  · cases hx
theorem cc_blk (c : Cc X px C W k false) {s : Shared} {H : Hp} {scope : Scope} {C' : Addr} {cl : List (Str × Addr)} {fp : List Addr} : Cc (X.blk s H scope (compEnvC scope cl C' X.env) fp) px C WF k false := by
  refine ⟨c.nd, fun u s' x => ?_, c.tab, ?_⟩
  · obtain ⟨a, B, sI, pins, σ, H, cls, d, e, I, nb, up, sky, na, os, ag, w⟩ := x
    exact w
  · cases c.mode with
    | calm hc hp r f => exact .calm hc hp r f
theorem c_lc (c : Cc X px C W k false) {g : Tg} {elt tg iter : Expr} {ifs : List Expr} {scope : Scope} {pos : Pos} {fs : Rho → Ans (List D)} {fi : Rho → Ans Bool} {fe : Rho → EvR}
    (hi : PI X tg iter (iX (enX X px) W fs fun _ H1 H' => Ex H1 H')) (hg : ckG X.N scope g tg = true)
    (ht : ∀ (s : Shared) (H : Hp) (C : Addr) (cl : List (Str × Addr)) (fp : List Addr), PTs (X.blk s H scope (compEnvC scope cl C X.env) fp) ifs (cT (enX X px) WF fi))
    (he : ∀ (s : Shared) (H : Hp) (C : Addr) (cl : List (Str × Addr)) (fp : List Addr), PE (X.blk s H scope (compEnvC scope cl C X.env) fp) elt (cE (enX X px) WF fe)) :
    ∀ σ H Q, cE (enX X px) W (fun ρ => bindR (fs ρ) fun ds => bindR (optR (szV ds)) fun ds => bindR (compL (turnL g fi fe ρ) ds) fun rs => some (.ok (.fr (.l rs)))) σ H Q →
      tLc (iX (enX X px) W fs fun _ H1 H' => Ex H1 H') (gX (enX X px) g) (cT (enX X px) WF fi) (cE (enX X px) WF fe) ((ownOf X.N g.slots).map (·.2)) σ H Q := by
  intro σ H Q h
  rw [ownOf_slots]
  obtain ⟨B, ρ, G, i, rp, h⟩ := h
  refine ⟨B, ρ, G, i, rp, h.bind.imp fun ds0 G1 H1 g1 q J xs dx sq D hD => ?_⟩
  obtain ⟨ds, hz, q⟩ : ∃ ds, szV ds0 = some ds ∧ QA (enX X px) W σ G1 H1 (RE (enX X px) H Q) (bindR (compL (turnL g fi fe ρ) ds) fun rs => some (.ok (.fr (.l rs)))) := by
    cases e : szV ds0 with
    | none => rw [e] at q; exact q.elim
    | some ds => rw [e] at q; exact ⟨ds, rfl, q⟩
  have hz' : ds0 = ds ∧ ds.length ≤ 16777216 := by
    unfold szV at hz
    split at hz
    · rename_i h; cases hz; exact ⟨rfl, h⟩
    · cases hz
  obtain ⟨rfl, hz'⟩ := hz'
  have hlen : xs.length = ds0.length := dx.length
  cases et : compL (turnL g fi fe ρ) ds0 with
  | none => rw [et] at q; exact q.elim
  | some y =>
    obtain ⟨total, rfl⟩ := compL_ok et
    rw [et] at q
    have q : ∀ G' H', Gr G1 H1 G' H' → ∀ v, DenR (enX X px) G' H' H (.fr (.l total)) v → Q v H' := q
    have hG : G1 D = none := g1.i.free hD
    refine ⟨fun i m Hc => m = xs.length - i ∧ i ≤ xs.length ∧ ∃ G2 acc out rest, Gr G1 H1 G2 Hc ∧ G2 D = none ∧ Hc D = some (.lst acc) ∧ Dens (enX X px) G2 out acc ∧ acc.length ≤ i ∧ compL (turnL g fi fe ρ) (ds0.drop i) = some (.ok rest) ∧ out ++ rest = total,
      ⟨xs.length, by omega, Nat.zero_le _, G1, [], [], total, Gr.loose g1.i hD, hG, upd_same, rfl, Nat.le_refl _, by rw [List.drop_zero]; exact et, rfl⟩, ?_⟩
    rintro j m Hc ⟨hm, hj, G2, acc, out, rest, gr, gD, hacc, dacc, lacc, er, eo⟩
    have sqc := sq Hc gr.h
    by_cases hlt : j < xs.length
    · refine .inr ⟨sqc.go j hlt, _, fun H' p' => ⟨xs.length - (j + 1), by omega, p'⟩, fun x H' y => ?_⟩
      obtain ⟨e1, e2⟩ := sqc.yld j x H' hlt y
      subst e1
      obtain ⟨d, ed, dd⟩ := dx.get' e2
      have edrop : ds0.drop j = d :: ds0.drop (j + 1) := by
        have hj2 : j < ds0.length := by omega
        rw [List.drop_eq_getElem_cons hj2]
        congr 1
        rw [List.getElem?_eq_getElem hj2] at ed
        exact Option.some.inj ed
      rw [edrop] at er
      obtain ⟨o, r, s1, s2, s3⟩ := compL_cons er
      unfold turnL at s1
      cases eg : setG g d ρ with
      | none => rw [eg] at s1; cases s1
      | some ρ' =>
        rw [eg] at s1
        obtain ⟨kk, f1, s1⟩ := bind_ok s1
        refine ⟨B, wipeR ρ g.slots, G2, d, ρ', gr.i, rep_wipe ((rp.mono g1).mono gr) _, Den.mono gr.g _ _ dd, by rw [setG_wipe]; exact eg, fun σ2 r2 off => ⟨wipe_eq off, ?_⟩⟩
        refine ⟨B, ρ', G2, gr.i, r2, ?_⟩
        rw [f1]
        intro G3 H3 g3
        have gD3 : ∀ {G4 H4 : Hp}, Gr G2 H' G4 H4 → G4 D = none := fun g => g.n D gD ⟨.lst acc, hacc, (fun _ z => HO.noConfusion z), (fun _ z => HO.noConfusion z)⟩
        cases kk with
        | false =>
          cases s1
          show _ = _ ∧ _
          exact ⟨rfl, hlt, G3, acc, out, rest, gr.trans g3, gD3 g3, g3.h _ _ hacc, Dens.mono g3.g _ _ dacc, by omega, by rw [s3]; exact s2, eo⟩
        | true =>
          obtain ⟨xr, f2, s1⟩ := bind_ok s1
          show cE _ _ _ _ _ _
          refine ⟨B, ρ', G3, g3.i, r2.mono g3, ?_⟩
          rw [f2]
          intro G4 H4 g4 v dv
          cases ey : toD xr with
          | none => rw [ey] at s1; cases s1
          | some yv =>
            rw [ey] at s1
            cases s1
            obtain ⟨G5, g5, x5, d5⟩ := toD_den ey g4 dv
            have g6 := g3.trans g5
            refine ⟨acc, g6.h _ _ hacc, by rw [line_eq]; omega, rfl, hlt, G5, acc ++ [v], out ++ [yv], r, ⟨(gr.trans g6).g, Ex.mut (gr.trans g6).h hD, fun a u qa => ?_, (gr.trans g6).n⟩, gD3 g6, upd_same, (Dens.mono g6.g _ _ dacc).append (Dens.one d5), by rw [List.length_append, List.length_singleton]; omega, s2, by rw [List.append_assoc]; rw [← eo, s3]; rfl⟩
            have hne : a ≠ D := fun z => by
              rw [z, gD3 g6] at qa
              cases qa
            rw [upd_ne hne]
            exact g6.i _ _ qa
    · have ej : j = xs.length := by omega
      subst ej
      refine .inl ⟨sqc.stop _ (Nat.le_refl _), ?_⟩
      rw [List.drop_eq_nil_of_le (by omega)] at er
      cases er
      rw [List.append_nil] at eo
      subst eo
      exact q G2 Hc gr _ ⟨D, rfl, g1.h.free hD, gD, acc, hacc, dacc⟩
end
end DE

set_option Elab.async false
set_option linter.all false
set_option maxRecDepth 100000
set_option maxHeartbeats 4000000
/-! DE7c2: dict comprehensions whose keys are tuples. -/
namespace DE
open PySem PySem.Spec PyProof.Rows L2
section
variable {X : Cx}
/-- one more pair in the dict at the place d -/
theorem pairIn {pins : List (Addr × Obj)} {σ : L2.St} {h : Hp} {s : Shared} {E : Value → Shared → Prop} {d q : Addr} {ps : List (List Key × V)} {k : List Key} {v : V} {r : Value} {Q : Unit → Shared → Prop}
    (room : X.A.units < cLine) (inv : Inv X pins σ h s) (hd : h d = some (.dT ps)) (hq : h q = some (.tup (k.map kV))) (fit : ps.length < sizeLine) (rv : RelV v r)
    (next : ∀ s', Inv X pins σ (upd h d (.dT (putK ps k v))) s' → Q () s') : wpAny (model X.prog X.w) X.A (dictSet d (.ref q) r) Q E s := by
  obtain ⟨_, ns, xs, rel, dict⟩ := dt_of inv.hok hd
  have fit1 : xs.length ≤ sizeLine := by rw [← Paired.length rel]; omega
  have fit2 := length_putK ps k v
  refine wpAny_dictSet_heap (hsz := fit1) (show (tupleKind (mixKind X.prog X.w)).room X.A from room) (key_of inv.hok hq) dict fun h2 dict2 same => next _ ?_
  obtain ⟨ob, es, ep, o1, o2, o3, o4, _, o5⟩ := dict2
  refine d_write inv (by rw [hd]; trivial) same ⟨ob, o1⟩ ⟨by omega, ns, _, (rel.put k hq rv).keeps fun c ys e => ?_, ob, es, ep, o1, o2, o3, o4, o5⟩
  have ne : c ≠ d := fun z => by rw [z, hd] at e; cases e
  rw [upd_ne ne]
  exact e
/-- a dict comprehension over what wi walks; d is the new dict -/
def tDm (wi : TI) (g : TG) (tt : TT) (tk tv : TE) (vs : List Nat) : TE := fun σ h R => wi σ h fun J h1 => ∀ d, h1 d = none → ∃ W : Nat → Nat → Hp → Prop, (∃ m, W 0 m (upd h1 d (.dT []))) ∧
  ∀ i m h, W i m h → (J.stop i h ∧ R (.ref d) h) ∨ (J.go i h ∧ ∃ nx : Hp → Prop, (∀ h', nx h' → ∃ m', m' < m ∧ W (i + 1) m' h') ∧ ∀ x h', J.yld i h x h' →
    g x (wipe σ vs) h' fun σ2 h2 => wipe σ2 vs = wipe σ vs ∧ tt σ2 h2 fun b h3 => if b = true then tk σ2 h3 fun y h4 => tv σ2 h4 fun z h5 =>
      ∃ ps k q, y = .ref q ∧ h5 q = some (.tup (k.map kV)) ∧ h5 d = some (.dT ps) ∧ ps.length < sizeLine ∧ nx (upd h5 d (.dT (putK ps k z))) else nx h3)
abbrev AtBlk (X : Cx) (scope : Scope) (p : Cx → Prop) : Prop := ∀ (s : Shared) (h : Hp) (c : Addr) (cl : List (Str × Addr)) (fp : List Addr), p (X.blk s h scope (compEnvC scope cl c X.env) fp)
theorem dm_core {pins : List (Addr × Obj)} {s : Shared} {σ : L2.St} {h : Hp} {R : VK} {kx vx tg src : Expr} {ifs : List Expr} {scope : Scope} {own : List (Str × Nat)} {pos pos' : Pos} {wi : TI} {g : TG} {tt : TT} {tk tv : TE} {use : Option (Value → Sem Unit)} {Qf : Value → Shared → Prop}
    (room : X.A.units < cLine) (calm : X.calm = true) (nd : X.N.Nodup) (inv : Inv X pins σ h s) (walk : PI X tg src wi) (blk : BlkOk X.N X.env.scope scope own)
    (pg : AtBlk X scope fun Y => PG Y tg g) (pt : AtBlk X scope fun Y => PTs Y ifs tt) (pk : AtBlk X scope fun Y => PE Y kx tk) (pv : AtBlk X scope fun Y => PE Y vx tv) (fold : ∀ x, foldedSetIterable src X.env x = pure x) (want : tDm wi g tt tk tv (own.map (·.2)) σ h R)
    (done : ∀ d c s' m h', Inv X pins σ h' s' → R (.ref d) h' → s'.heap.Ns c m → FpOk X pins h' c → compPost (model X.prog X.w) X.A X.xe use Qf (.ref d) c (.ok .next) s') :
    wpAny (model X.prog X.w) X.A (comprehension (.DictComp kx vx [⟨tg, src, ifs, 0⟩] scope pos) scope X.env pos' newDict false (eval src X.env) use) Qf X.xe s := by
  have cells : ∀ y ∈ scope.names, y.2 = .free → ∃ c, X.env.cells.lookup y.1 = some c := fun y hy e => (blk.free y hy e).elim (fun k => inv.ok.has _ (.inl k)) fun k => inv.ok.has _ (.inr k)
  refine wpAny_comprehension_free (use := use) rfl fold (closure_ok cells) blk.kind (fun y hy e => by rw [blk.uniq y hy, e]) (thn (walk.run pins s σ h _ inv want) fun u s1 q1 => thn q1 fun w s2 q2 => ?_)
  obtain ⟨it, fp, tn, J, h2, rfl, I2, turns, at2, fpok, q⟩ := q2
  refine wpAny_newObj_type (newEnv_comp ?_)
  generalize ed : s2.heap.objs.size = d
  have d0 : h2 d = none := I2.hok.fresh (Nat.le_of_eq ed)
  obtain ⟨W, ⟨m0, w0⟩, turn⟩ := q d d0
  generalize es3 : ({ s2 with heap := s2.heap.push { cls := .type "dict", data := .dict #[] } } : Shared) = s3
  have push3 : s3.heap = s2.heap.push { cls := .type "dict", data := .dict #[] } := by rw [← es3]
  have I3 : Inv X pins σ (upd h2 d (.dT [])) s3 := by
    have fresh := dt_empty (P := X.prog) (w := X.w) (H := upd h2 d (.dT [])) s2.heap I2.big
    rw [ed] at fresh
    rw [← es3]
    exact I2.laid (t' := s2.toks) (fun _ _ e => Heap.get?_push_of_some _ e) (Nat.le_of_eq ed) fresh
  have low : ∀ b ∈ fp, b < s2.heap.objs.size := fun b hb => let ⟨_, e, _⟩ := turns.obj _ _ at2 b hb; Heap.lt_size e
  have fp3 : ∀ b ∈ fp, FpOk X pins (upd h2 d (.dT [])) b ∧ b < s3.heap.objs.size := fun b hb => by
    have lt := low b hb
    have ne : b ≠ d := by rw [← ed]; exact Nat.ne_of_lt lt
    exact ⟨⟨by rw [upd_ne ne]; exact (fpok b hb).1, (fpok b hb).2⟩, by rw [push3, Heap.size_push]; exact Nat.lt_succ_of_lt lt⟩
  have at3 : tn 0 s3.heap := turns.keep _ _ _ at2 fun _ _ _ e => by rw [push3]; exact Heap.get?_push_of_some _ e
  have I4 := block_start I3 blk nd fp3
  let cl := cellsFrom (s3.heap.objs.size + 1) scope.names (cloFrom X.env.cells scope.names [])
  have rg := pg s3 (upd h2 d (.dT [])) s3.heap.objs.size cl fp
  have rt := pt s3 (upd h2 d (.dT [])) s3.heap.objs.size cl fp
  have rk := pk s3 (upd h2 d (.dT [])) s3.heap.objs.size cl fp
  have re := pv s3 (upd h2 d (.dT [])) s3.heap.objs.size cl fp
  show codeAny _ _ (.compStart (.DictComp kx vx [⟨tg, src, ifs, 0⟩] scope pos) 0 (.ref it) (.ref d) (compEnvC scope cl s3.heap.objs.size X.env)) (compPost (model X.prog X.w) X.A X.xe use Qf (.ref d) s3.heap.objs.size) { s3 with heap := pushCells (s3.heap.push { cls := .type "dict", data := .dict #[] }) scope.names }
  have no3 : ∀ b ∈ fp, (upd h2 d (.dT [])) b = none := fun b hb => (fp3 b hb).1.1
  generalize ece : compEnvC scope cl s3.heap.objs.size X.env = ce at I4 rg rt rk re ⊢
  have cLoc : ce.locals = s3.heap.objs.size := by subst ece; rfl
  generalize eh3 : upd h2 d (.dT []) = h3 at I3 I4 rg rt rk re w0 no3 fp3
  generalize es4 : ({ s3 with heap := pushCells (s3.heap.push { cls := .type "dict", data := .dict #[] }) scope.names } : Shared) = s4 at I4 ⊢
  have at4 : tn 0 s4.heap := turns.keep _ _ _ at3 fun _ _ _ e => by rw [← es4]; exact pushCells_keeps _ _ _ _ (Heap.get?_push_of_some _ e)
  have free : ∀ {σ' : L2.St} {h' : Hp} {s' : Shared}, Inv (X.blk s3 h3 scope ce fp) [] σ' h' s' → (∀ b ∈ fp, h' b = none) → ∀ b ∈ fp, FpOk (X.blk s3 h3 scope ce fp) [] h' b := fun {σ' h' s'} I' no b hb => by
    obtain ⟨e1, e2⟩ := I'.ok.exf b hb
    refine ⟨no b hb, e1, I'.ok.exfs b hb, .inl hb, fun x c e => e2 x c e, fun p hp => ?_⟩
    have hp : p ∈ ([] : List (Addr × Obj)) ++ [] := hp
    simp at hp
  have loop : codeAny (model X.prog X.w) X.A (.compLoop (.DictComp kx vx [⟨tg, src, ifs, 0⟩] scope pos) 0 (.ref it) (.ref d) ce) (compPost (model X.prog X.w) X.A X.xe use Qf (.ref d) s3.heap.objs.size) s4 := by
    refine compLoop_anyD (fun n t => ∃ i g5, Inv (X.blk s3 h3 scope ce fp) [] (wipe σ (own.map (·.2))) g5 t ∧ tn i t.heap ∧ (∀ b ∈ fp, g5 b = none) ∧ W i n g5) ?_ m0 ⟨0, h3, I4, at4, no3, w0⟩
    rintro n s5 ⟨i, h5, I5, at5, no5, w5⟩
    rcases turn i n h5 w5 with ⟨stop, fin⟩ | ⟨go, nx, less, step⟩
    · refine thnF (turns.done (X.blk s3 h3 scope ce fp) rfl rfl rfl calm i [] s5 _ h5 (fun _ _ => False) I5 (free I5 no5) at5 stop) fun r s6 ⟨er, I6⟩ => ?_
      subst er
      have I7 : Inv X pins σ h5 s6 := I3.call' (ch := fp) I6.os I6.base I6.hok I6.bare fun b hb => by
        obtain ⟨⟨_, b1, b2, b3, b4, b5⟩, _⟩ := fp3 b hb
        exact ⟨b3, b1, b4, b5⟩
      have nc : h5 s3.heap.objs.size = none := by
        have z : h5 ce.locals = none := I6.free
        rwa [cLoc] at z
      obtain ⟨m, ns, _⟩ := I6.loc
      have ns : s6.heap.Ns ce.locals m := ns
      rw [cLoc] at ns
      exact done d s3.heap.objs.size s6 m h5 I7 fin ns (I3.fpOk (Nat.le_refl _) nc)
    · refine thnF (turns.item (X.blk s3 h3 scope ce fp) rfl rfl rfl calm i [] s5 _ h5 (fun _ _ => False) I5 (free I5 no5) at5 go) fun r s6 ⟨u, er, q6⟩ => ?_
      subst er
      refine thnF q6 fun _ s7 ⟨x, h7, I7, r7, y7, at7, no7⟩ => ?_
      refine thnF (rg.run _ s7 _ h7 x u _ (I7.pinned (free I7 no7) (turns.obj _ _ at7)) r7 (step x h7 y7)) fun _ s8 ⟨σ8, h8, I8, same8, q8⟩ => ?_
      refine thnF (rt.run _ s8 σ8 h8 _ I8 q8) fun b s9 ⟨h9, I9, q9⟩ => ?_
      have again : ∀ {t : Shared} {h' : Hp}, Inv (X.blk s3 h3 scope ce fp) ([] ++ pinsAt fp s7.heap) σ8 h' t → nx h' → ∃ m, m < n ∧ ∃ i g5, Inv (X.blk s3 h3 scope ce fp) [] (wipe σ (own.map (·.2))) g5 t ∧ tn i t.heap ∧ (∀ b ∈ fp, g5 b = none) ∧ W i m g5 := fun {t h'} I' ok => by
        obtain ⟨m', lt, w'⟩ := less h' ok
        have pin : ∀ b ∈ fp, ∀ o, s7.heap.get? b = some o → t.heap.get? b = some o ∧ h' b = none := fun b hb o e => by
          have z := I'.pin (b, o) (List.mem_append_right _ (List.mem_append_right _ (mem_pinsAt hb e)))
          exact ⟨z.1, z.2.1⟩
        refine ⟨m', lt, i + 1, h', (I'.unpinned (pins := [])).weak (by rw [← same8, wipe_length]) (fun j v e => ?_), turns.keep _ _ _ at7 fun b hb o e => (pin b hb o e).1, fun b hb => ?_, w'⟩
        · rw [← same8] at e
          exact (wipe_some e).1
        · obtain ⟨o, e, _⟩ := turns.obj _ _ at7 b hb
          exact (pin b hb o e).2
      cases b with
      | false =>
        rw [if_neg (by decide)] at q9 ⊢
        exact again I9 q9
      | true =>
        rw [if_pos rfl] at q9 ⊢
        refine thnF (rk.run _ s9 σ8 h9 _ I9 q9) fun uk s10 ⟨yk, h10, I10, r10, q10⟩ => ?_
        refine thnF (re.run _ s10 σ8 h10 _ I10 q10) fun uv s11 ⟨yv, h11, I11, r11, ps, k, qa, ek, htup, hdic, fit, ok⟩ => ?_
        subst ek
        cases (show uk = Value.ref qa from r10)
        exact pairIn (X := X.blk s3 h3 scope ce fp) room I11 hdic htup fit r11 fun s12 I12 => again I12 ok
  exact codeAny_compStart_dict loop (turns.self X.A 0 _ _ _ at4 loop)
/-- where a value is asked -/
theorem pe_dm {kx vx tg src : Expr} {ifs : List Expr} {scope : Scope} {own : List (Str × Nat)} {pos : Pos} {wi : TI} {g : TG} {tt : TT} {tk tv : TE} (room : X.A.units < cLine) (calm : X.calm = true) (nd : X.N.Nodup) (walk : PI X tg src wi) (blk : BlkOk X.N X.env.scope scope own)
    (pg : AtBlk X scope fun Y => PG Y tg g) (pt : AtBlk X scope fun Y => PTs Y ifs tt) (pk : AtBlk X scope fun Y => PE Y kx tk) (pv : AtBlk X scope fun Y => PE Y vx tv) (fold : ∀ x, foldedSetIterable src X.env x = pure x) : PE X (.DictComp kx vx [⟨tg, src, ifs, 0⟩] scope pos) (tDm wi g tt tk tv (own.map (·.2))) := by
  refine ⟨fun pins s σ h R inv want => ?_⟩
  rw [arm_eval_DictComp]
  refine dm_core room calm nd inv walk blk pg pt pk pv fold want fun d c s' m h' I' r ns ⟨f0, f1, f2, f3, f4, f5⟩ => ⟨m, ns, fun h'' same => ?_⟩
  exact ⟨.ref d, h', I'.turned (t' := s'.toks) (fun b o hb e => (same.2 b hb).trans e) f0 f1 f3 f4 f5, rfl, r⟩
/-- where a local name gets it on the same line -/
theorem ps_dm {i : Nat} {y : Str} {py : Pos} {kx vx tg src : Expr} {ifs : List Expr} {scope : Scope} {own : List (Str × Nat)} {pos spos : Pos} {wi : TI} {g : TG} {tt : TT} {tk tv : TE} (room : X.A.units < cLine) (calm : X.calm = true) (nd : X.N.Nodup) (hy : X.N[i]? = some y) (loc : X.env.scope.names.lookup y = some .local)
    (sw : swapsWith (.DictComp kx vx [⟨tg, src, ifs, 0⟩] scope pos) (some (.Name y py)) spos.line X.env = pure true) (walk : PI X tg src wi) (blk : BlkOk X.N X.env.scope scope own)
    (pg : AtBlk X scope fun Y => PG Y tg g) (pt : AtBlk X scope fun Y => PTs Y ifs tt) (pk : AtBlk X scope fun Y => PE Y kx tk) (pv : AtBlk X scope fun Y => PE Y vx tv) (fold : ∀ x, foldedSetIterable src X.env x = pure x) :
    PS X (.Assign [.Name y py] (.DictComp kx vx [⟨tg, src, ifs, 0⟩] scope pos) spos) (tAsg (tDm wi g tt tk tv (own.map (·.2))) (gName i)) := by
  refine ⟨fun pins s σ h D inv want => ?_⟩
  rw [exec_Assign_Name_used _ _ _ _ sw]
  refine wpAny_bind (wpAny_standAt (wpAny_bind ?_))
  show wpAny _ X.A (do let _ ← comprehension (.DictComp kx vx [⟨tg, src, ifs, 0⟩] scope pos) scope X.env (firstIterPos [⟨tg, src, ifs, 0⟩] pos) newDict false (eval src X.env) (some (assign (.Name y py) X.env))) _ _ s
  have want : tDm wi g tt tk tv (own.map (·.2)) σ h (fun x h1 => gName i x σ h1 D.nx) := want
  refine wpAny_bind (thn (dm_core (Qf := fun _ t => SP X pins D .next t) room calm nd inv walk blk pg pt pk pv fold want fun d c s' m h' I' r ns ⟨f0, f1, f2, f3, f4, f5⟩ => ?_) fun _ t q => wpAny_pure (wpAny_pure q))
  show wpAny _ _ (assign (.Name y py) X.env (.ref d)) _ _ _
  refine wpAny_assign_Name (store_ok2 (v := V.ref d) I' nd hy (.inl loc) rfl (fun s2 I2 ⟨a, same, ha⟩ => ?_) (.inr loc))
  have ne : c ≠ a := ha.elim (fun z => by rw [z]; exact f1) fun z e => f4 y a z e.symm
  refine ⟨m, ns.sameBut same ne, fun h3 same3 => ?_⟩
  exact ⟨_, h', I2.turned (t' := s2.toks) (fun b o hb e => (same3.2 b hb).trans e) f0 f1 f3 f4 f5, r⟩
theorem sw_dm {kx vx : Expr} {gs : List Comprehension} {scope : Scope} {pos py : Pos} {y : Str} {l : Nat} {env : Env} (kd : env.scope.kind = .function) (hy : env.scope.names.lookup y = some .local) (hl : (py.line == pos.line) = true)
    (no : (scope.names.any fun (n, k) => n == y && (k == .local || k == .cell)) = false) : swapsWith (.DictComp kx vx gs scope pos) (some (.Name y py)) l env = pure true := by
  have e1 : env.kindOf y = some .local := hy
  have e2 : env.blockKind = .function := by unfold Env.blockKind; rw [kd] <;> rfl
  unfold swapsWith
  simp only [e2, e1, no, Expr.pos, hl]
  rfl
end
end DE

set_option Elab.async false
set_option linter.all false
set_option maxRecDepth 100000
set_option maxHeartbeats 4000000
/-! DE7d: the look's gift, for all expressions. -/
namespace DE
open PySem PySem.Spec PyProof.Rows L2
section
variable {X : Cx} {px : Option (Addr × Addr × Addr)} {C : Cfg} {W : WX} {k : Nat} {hh : Bool}
/-! ### built-ins -/
theorem cB {r : List V → Hp → VK → Prop} {b : Bi} {fa : Rho → Ans (List RV)} (m : MeetsC (enX X px) r (biV b)) {t : TE} (ht : t = tCB r (cA (enX X px) W fa)) : ∀ σ H Q, cE (enX X px) W (fun ρ => bindR (fa ρ) fun rs => optR (biV b rs)) σ H Q → t σ H Q := fun σ H Q h => by
  subst ht
  obtain ⟨B, ρ, G, i, rp, h⟩ := h
  refine cA_stepE i rp h fun vs rs G1 H1 er g1 r1 d1 h1 => ?_
  obtain ⟨z, e, q⟩ := h1.opt
  exact m G1 H1 H rs vs z Q g1.i d1 e fun w G' H' g' dw => q G' H' (g1.trans g') w (dw.back g1.h)
theorem meets_no {E : En} {g : List RV → Option RV} (h : ∀ rs, g rs = none) : MeetsC E (fun _ _ _ => False) g := fun G H H0 xs vs z Q i dx e k => by
  rw [h] at e
  cases e
theorem call_no {f : Value} : CallR X f (fun _ _ _ => False) := fun _ _ _ _ _ _ _ _ _ q => q.elim
theorem c_bi (c : Cc X px C W k hh) {b : Bi} {e : Expr} {es : List Expr} {p pos : Pos} {fa : Rho → Ans (List RV)} (hcm : calmBi hh b = true) (hg : Gl X b.nm) (ha : PA X (e :: es) (cA (enX X px) W fa))
    (he : starEach (e :: es) X.env = (false, eval e X.env) :: starEach es X.env) (hpl : (backTo pos (starEach es X.env)).any (·.1) = false) :
    PE X (.Call (.Name b.nm p) (e :: es) [] pos) (cE (enX X px) W fun ρ => bindR (fa ρ) fun rs => optR (biV b rs)) := by
  have hb : ∀ x ∈ bNames, X.mg x = none := c.tab.blt
  have hu : X.A.units + 100 < cLine := c.units
  cases b with
  | len => exact pe_imp (pe_callB (id := "len") call_lenX hg (hb _ (by decide +kernel)) (by decide +kernel) ha (by decide) (by decide) he hpl) (cB meets_len rfl)
  | abs => exact pe_imp (pe_callB (id := "abs") call_abs hg (hb _ (by decide +kernel)) (by decide +kernel) ha (by decide) (by decide) he hpl) (cB meets_abs rfl)
  | int => exact pe_imp (pe_callTy (T := "int") call_intX hg (hb _ (by decide +kernel)) (by decide +kernel) ha (by decide) (by decide) he hpl) (cB meets_int rfl)
  | str => exact pe_imp (pe_callTy (T := "str") call_str_int hg (hb _ (by decide +kernel)) (by decide +kernel) ha (by decide) (by decide) he hpl) (cB meets_str rfl)
  | tup => exact pe_imp (pe_callTy (T := "tuple") call_tuple_of hg (hb _ (by decide +kernel)) (by decide +kernel) ha (by decide) (by decide) he hpl) (cB meets_tup rfl)
  | lst => exact pe_imp (pe_callTy (T := "list") call_list_of hg (hb _ (by decide +kernel)) (by decide +kernel) ha (by decide) (by decide) he hpl) (cB meets_lst rfl)
  | sorted =>
    have hcalm : X.calm = true := by
      cases c.mode with
      | calm hc _ _ _ => exact hc
      | hot _ _ _ _ => cases hcm
    exact pe_imp (pe_callB (id := "sorted") (call_sortedX hcalm hu) hg (hb _ (by decide +kernel)) (by decide +kernel) ha (by decide) (by decide) he hpl) (cB meets_sorted rfl)
  | min =>
    have hcalm : X.calm = true := by
      cases c.mode with
      | calm hc _ _ _ => exact hc
      | hot _ _ _ _ => cases hcm
    exact pe_imp (pe_callB (id := "min") (call_minX hcalm hu) hg (hb _ (by decide +kernel)) (by decide +kernel) ha (by decide) (by decide) he hpl) (cB meets_min rfl)
  | max =>
    have hcalm : X.calm = true := by
      cases c.mode with
      | calm hc _ _ _ => exact hc
      | hot _ _ _ _ => cases hcm
    exact pe_imp (pe_callB (id := "max") (call_maxX hcalm) hg (hb _ (by decide +kernel)) (by decide +kernel) ha (by decide) (by decide) he hpl) (cB meets_max rfl)
  | sum =>
    have hcalm : X.calm = true := by
      cases c.mode with
      | calm hc _ _ _ => exact hc
      | hot _ _ _ _ => cases hcm
    exact pe_imp (pe_callB (id := "sum") (cr_sum hcalm) hg (hb _ (by decide +kernel)) (by decide +kernel) ha (by decide) (by decide) he hpl) (cB meets_sum rfl)
  | all =>
    have hcalm : X.calm = true := by
      cases c.mode with
      | calm hc _ _ _ => exact hc
      | hot _ _ _ _ => cases hcm
    exact pe_imp (pe_callB (id := "all") (cr_all hcalm) hg (hb _ (by decide +kernel)) (by decide +kernel) ha (by decide) (by decide) he hpl) (cB meets_all rfl)
  | any =>
    have hcalm : X.calm = true := by
      cases c.mode with
      | calm hc _ _ _ => exact hc
      | hot _ _ _ _ => cases hcm
    exact pe_imp (pe_callB (id := "any") (cr_any hcalm) hg (hb _ (by decide +kernel)) (by decide +kernel) ha (by decide) (by decide) he hpl) (cB meets_any rfl)
/-! ### arguments -/
theorem a_nil : PA X [] (cA (enX X px) W (evA C .nil)) := ⟨fun pos pins s σ H Q I h => by
  obtain ⟨B, ρ, G, i, rp, h⟩ := h
  rw [evA] at h
  exact pa_nil.run pos pins s σ H Q I (h G H (Gr.refl i) [] rfl)⟩
theorem a_cons {e : Expr} {es : List Expr} {f : Rho → EvR} {fa : Rho → Ans (List RV)} (ha : PE X e (cE (enX X px) W f)) (hr : PA X es (cA (enX X px) W fa)) (hs : starEach (e :: es) X.env = (false, eval e X.env) :: starEach es X.env) :
    PA X (e :: es) (cA (enX X px) W fun ρ => bindR (f ρ) fun x => bindR (fa ρ) fun rs => some (.ok (x :: rs))) := by
  refine pa_imp (pa_cons ha hr hs) fun σ H Q h => ?_
  obtain ⟨B, ρ, G, i, rp, h⟩ := h
  refine cE_step i rp h fun v x G1 H1 g1 r1 d1 h1 => ?_
  refine cA_step g1.i r1 h1 fun vs rs G2 H2 g2 r2 d2 h2 => ?_
  refine (show QA _ _ _ _ _ _ (some (.ok (x :: rs))) from h2) G2 H2 (Gr.refl g2.i) (v :: vs) ⟨v, vs, rfl, d1.mono g2, d2.back g1.h, ?_⟩
  rintro ⟨o, rfl⟩ i o' e e'
  obtain ⟨l, k1, _, _, k4⟩ := d1
  obtain ⟨w, w1, l', k1', k2', _⟩ := d2.at_ e
  rw [e'] at w1
  cases w1
  rw [k1] at k1'
  cases k1'
  exact k4.there k2'
def IA.len : IA → Nat
  | .nil => 0
  | .cons _ r => r.len + 1
theorem evA_len : ∀ {as : IA} {ρ : Rho} {rs : List RV}, evA C as ρ = some (.ok rs) → rs.length = as.len
  | .nil, ρ, rs, e => by
    rw [evA] at e
    cases e
    rfl
  | .cons a r, ρ, rs, e => by
    rw [evA] at e
    obtain ⟨x, e1, e⟩ := bind_ok e
    obtain ⟨rs', e2, e⟩ := bind_ok e
    cases e
    rw [List.length_cons, evA_len e2]
    rfl
theorem ckA_len {N : List Str} {h : Bool} {sc : Scope} : ∀ {as : IA} {es : List Expr}, ckA N C h sc as es = true → as.len = es.length
  | .nil, [], _ => rfl
  | .nil, _ :: _, k => by simp [ckA] at k
  | .cons a r, [], k => by simp [ckA] at k
  | .cons a r, e :: es, k => by
    simp only [ckA, Bool.and_eq_true] at k
    show r.len + 1 = es.length + 1
    rw [ckA_len k.2]
end

/-! ### the claims -/
def SE (C : Cfg) (hh : Bool) (ie : IE) : Prop := ∀ (X : Cx) (px : Option (Addr × Addr × Addr)) (W : WX) (k : Nat), Cc X px C W k hh → ∀ e, ckE X.N C hh X.env.scope ie e = true → PE X e (cE (enX X px) W (evE C ie))
def ST (C : Cfg) (hh : Bool) (ie : IE) : Prop := ∀ (X : Cx) (px : Option (Addr × Addr × Addr)) (W : WX) (k : Nat), Cc X px C W k hh → ∀ e, ckE X.N C hh X.env.scope ie e = true → PT X e (cT (enX X px) W (evT C ie))
def SA (C : Cfg) (hh : Bool) (as : IA) : Prop := ∀ (X : Cx) (px : Option (Addr × Addr × Addr)) (W : WX) (k : Nat), Cc X px C W k hh → ∀ es, ckA X.N C hh X.env.scope as es = true → PA X es (cA (enX X px) W (evA C as))
def SB (C : Cfg) (hh : Bool) (as : IA) (op : BoolOp) (f : Rho → EvR) (t : Rho → Ans Bool) : Prop := ∀ (X : Cx) (px : Option (Addr × Addr × Addr)) (W : WX) (k : Nat), Cc X px C W k hh → ∀ es pos, ckA X.N C hh X.env.scope as es = true → PE X (.BoolOp op es pos) (cE (enX X px) W f) ∧ PW X (.BoolOp op es pos) (cT (enX X px) W t)
def SO_ (C : Cfg) (hh : Bool) (o : IO) : Prop := ∀ (X : Cx) (px : Option (Addr × Addr × Addr)) (W : WX) (k : Nat), Cc X px C W k hh → (∀ e, ckO X.N C hh X.env.scope o e = true → PO X e (cO (enX X px) W (evO C o))) ∧ ∀ es, ckIf X.N C hh X.env.scope o es = true → PTs X es (cT (enX X px) W (evIf C o))
def SS (C : Cfg) (hh : Bool) (o : ISrc) : Prop := ∀ (X : Cx) (px : Option (Addr × Addr × Addr)) (W : WX) (k : Nat), Cc X px C W k hh → ∀ e tg, ckSrc X.N C hh X.env.scope o e = true → PI X tg e (iX (enX X px) W (evSrc C o) fun _ H1 H' => Ex H1 H') ∧ ∀ x, foldedSetIterable e X.env x = pure x
section
variable {C : Cfg} {hh : Bool}
/-- a test that never answers -/
theorem t_none {X : Cx} {px : Option (Addr × Addr × Addr)} {W : WX} {e : Expr} {t : Rho → Ans Bool} (h : ∀ ρ, t ρ = none) : PT X e (cT (enX X px) W t) := ⟨fun pins s σ H Q I q => by
  obtain ⟨B, ρ, G, i, rp, q⟩ := q
  rw [h] at q
  exact q.elim⟩
theorem e_none {X : Cx} {px : Option (Addr × Addr × Addr)} {W : WX} {e : Expr} {t : Rho → EvR} (h : ∀ ρ, t ρ = none) : PE X e (cE (enX X px) W t) := ⟨fun pins s σ H Q I q => by
  obtain ⟨B, ρ, G, i, rp, q⟩ := q
  rw [h] at q
  exact q.elim⟩
theorem pe_fn {X : Cx} {px : Option (Addr × Addr × Addr)} {W : WX} {e : Expr} {f g : Rho → EvR} (h : PE X e (cE (enX X px) W f)) (q : ∀ ρ, g ρ = f ρ) : PE X e (cE (enX X px) W g) := by
  have : g = f := funext q
  rw [this]
  exact h
theorem pt_fn {X : Cx} {px : Option (Addr × Addr × Addr)} {W : WX} {e : Expr} {f g : Rho → Ans Bool} (h : PT X e (cT (enX X px) W f)) (q : ∀ ρ, g ρ = f ρ) : PT X e (cT (enX X px) W g) := by
  have : g = f := funext q
  rw [this]
  exact h
end
end DE

set_option Elab.async false
set_option linter.all false
set_option maxRecDepth 100000
set_option maxHeartbeats 4000000
/-! DE7d2: dict comprehensions by data. -/
namespace DE
open PySem PySem.Spec PyProof.Rows L2
theorem dcL_ok {step : D → Ans (Option (D × D))} : ∀ {ds : List D} {ks : List (List Key)} {vs : List D} {y : Except Er OV}, dcL step ds ks vs = some y → ∃ o, y = .ok o
  | [], _, _, y, e => by cases e; exact ⟨_, rfl⟩
  | d :: ds, ks, vs, y, e => by
    unfold dcL at e
    split at e
    · exact dcL_ok e
    · split at e
      · split at e
        · exact dcL_ok e
        · exact dcL_ok e
      · cases e
    · cases e
/-- a turn -/
def turnD (g : Tg) (fi : Rho → Ans Bool) (fk fv : Rho → EvR) (ρ : Rho) (d : D) : Ans (Option (D × D)) :=
  match setG g d ρ with
  | some ρ' => bindR (fi ρ') fun k => match k with
    | true => bindR (fk ρ') fun x => bindR (fv ρ') fun y => match pairV x y with
      | some p => some (.ok (some p))
      | none => none
    | false => some (.ok none)
  | none => none
section
variable {X : Cx} {px : Option (Addr × Addr × Addr)} {C : Cfg} {W : WX} {k : Nat} {hh : Bool}
theorem c_dm (c : Cc X px C W k hh) {g : Tg} {kl vl tg iter : Expr} {ifs : List Expr} {scope : Scope} {fs : Rho → Ans (List D)} {fi : Rho → Ans Bool} {fk fv : Rho → EvR}
    (hi : PI X tg iter (iX (enX X px) W fs fun _ H1 H' => Ex H1 H')) (hg : ckG X.N scope g tg = true) :
    ∀ σ H Q, cE (enX X px) W (fun ρ => bindR (fs ρ) fun ds => bindR (optR (szV ds)) fun ds => bindR (dcL (turnD g fi fk fv ρ) ds [] []) fun o => some (.ok (.fr o))) σ H Q →
      tDm (iX (enX X px) W fs fun _ H1 H' => Ex H1 H') (gX (enX X px) g) (cT (enX X px) WF fi) (cE (enX X px) WF fk) (cE (enX X px) WF fv) ((ownOf X.N g.slots).map (·.2)) σ H Q := by
  intro σ H Q h
  rw [ownOf_slots]
  obtain ⟨B, ρ, G, i, rp, h⟩ := h
  refine ⟨B, ρ, G, i, rp, h.bind.imp fun ds0 G1 H1 g1 q J xs dx sq D hD => ?_⟩
  obtain ⟨ds, hz, q⟩ : ∃ ds, szV ds0 = some ds ∧ QA (enX X px) W σ G1 H1 (RE (enX X px) H Q) (bindR (dcL (turnD g fi fk fv ρ) ds [] []) fun o => some (.ok (.fr o))) := by
    cases e : szV ds0 with
    | none => rw [e] at q; exact q.elim
    | some ds => rw [e] at q; exact ⟨ds, rfl, q⟩
  have hz' : ds0 = ds ∧ ds.length ≤ 16777216 := by
    unfold szV at hz
    split at hz
    · rename_i h; cases hz; exact ⟨rfl, h⟩
    · cases hz
  obtain ⟨rfl, hz'⟩ := hz'
  have hlen : xs.length = ds0.length := dx.length
  cases et : dcL (turnD g fi fk fv ρ) ds0 [] [] with
  | none => rw [et] at q; exact q.elim
  | some y =>
    obtain ⟨total, rfl⟩ := dcL_ok et
    rw [et] at q
    have q : ∀ G' H', Gr G1 H1 G' H' → ∀ v, DenR (enX X px) G' H' H (.fr total) v → Q v H' := q
    have hG : G1 D = none := g1.i.free hD
    refine ⟨fun i m Hc => m = xs.length - i ∧ i ≤ xs.length ∧ ∃ G2 kvs vs, Gr G1 H1 G2 Hc ∧ G2 D = none ∧ Hc D = some (.dT kvs) ∧ Dens (enX X px) G2 vs (kvs.map (·.2)) ∧ kvs.length ≤ i ∧ dcL (turnD g fi fk fv ρ) (ds0.drop i) (kvs.map (·.1)) vs = some (.ok total),
      ⟨xs.length, by omega, Nat.zero_le _, G1, [], [], Gr.loose g1.i hD, hG, upd_same, rfl, Nat.le_refl _, by rw [List.drop_zero]; exact et⟩, ?_⟩
    rintro j m Hc ⟨hm, hj, G2, kvs, vs, gr, gD, hdic, dvs, lk, er⟩
    have sqc := sq Hc gr.h
    by_cases hlt : j < xs.length
    · refine .inr ⟨sqc.go j hlt, _, fun H' p' => ⟨xs.length - (j + 1), by omega, p'⟩, fun x H' y => ?_⟩
      obtain ⟨e1, e2⟩ := sqc.yld j x H' hlt y
      subst e1
      obtain ⟨d, ed, dd⟩ := dx.get' e2
      have edrop : ds0.drop j = d :: ds0.drop (j + 1) := by
        have hj2 : j < ds0.length := by omega
        rw [List.drop_eq_getElem_cons hj2]
        congr 1
        rw [List.getElem?_eq_getElem hj2] at ed
        exact Option.some.inj ed
      rw [edrop] at er
      have gD3 : ∀ {G4 H4 : Hp}, Gr G2 H' G4 H4 → G4 D = none := fun g => g.n D gD ⟨.dT kvs, hdic, (fun _ z => HO.noConfusion z), (fun _ z => HO.noConfusion z)⟩
      unfold dcL at er
      cases es : turnD g fi fk fv ρ d with
      | none => rw [es] at er; cases er
      | some yy =>
        cases yy with
        | error e => rw [es] at er; cases er
        | ok o =>
          rw [es] at er
          unfold turnD at es
          cases eg : setG g d ρ with
          | none => rw [eg] at es; cases es
          | some ρ' =>
            rw [eg] at es
            obtain ⟨kk, f1, es⟩ := bind_ok es
            refine ⟨B, wipeR ρ g.slots, G2, d, ρ', gr.i, rep_wipe ((rp.mono g1).mono gr) _, Den.mono gr.g _ _ dd, by rw [setG_wipe]; exact eg, fun σ2 r2 off => ⟨wipe_eq off, ?_⟩⟩
            refine ⟨B, ρ', G2, gr.i, r2, ?_⟩
            rw [f1]
            intro G3 H3 g3
            cases kk with
            | false =>
              cases es
              exact ⟨rfl, hlt, G3, kvs, vs, gr.trans g3, gD3 g3, g3.h _ _ hdic, Dens.mono g3.g _ _ dvs, by omega, er⟩
            | true =>
              obtain ⟨xr, f2, es⟩ := bind_ok es
              obtain ⟨yr, f3, es⟩ := bind_ok es
              show cE _ _ _ _ _ _
              refine ⟨B, ρ', G3, g3.i, r2.mono g3, ?_⟩
              rw [f2]
              intro G4 H4 g4 v dv
              cases ep : pairV xr yr with
              | none => rw [ep] at es; cases es
              | some p =>
                rw [ep] at es
                cases es
                obtain ⟨kd, vd⟩ := p
                unfold pairV at ep
                cases xr with
                | fr o => cases ep
                | br o => cases ep
                | dat kd' =>
                  cases ey : toD yr with
                  | none => rw [ey] at ep; cases ep
                  | some vd' =>
                    rw [ey] at ep
                    obtain ⟨rfl, rfl⟩ := Prod.mk.inj (Option.some.inj ep)
                    dsimp only at er
                    cases ek : tkeyOf kd' with
                    | none => rw [ek] at er; cases er
                    | some qk =>
                      rw [ek] at er
                      obtain ⟨b, hb1, hb2⟩ := tkeyOf_den ek (show Den (enX X px) G4 kd' v from dv)
                      subst hb1
                      show cE _ _ _ _ _ _
                      refine ⟨B, ρ', G4, g4.i, (r2.mono g3).mono g4, ?_⟩
                      rw [f3]
                      intro G5 H5 g5 w dw
                      obtain ⟨G6, g6, x6, d6⟩ := toD_den ey g5 dw
                      have g7 := (g3.trans g4).trans g6
                      have z := dput_dens qk (Dens.mono g7.g _ _ dvs) d6
                      have hk5 : H5 b = some (.tup (qk.map kV)) := g6.i _ _ (g6.g _ _ hb2)
                      have gu : Gr G1 H1 G6 (upd H5 D (.dT (putK kvs qk w))) := ⟨(gr.trans g7).g, Ex.mut (gr.trans g7).h hD, fun a u qa => by
                        have hne : a ≠ D := fun z => by
                          rw [z, gD3 g7] at qa
                          cases qa
                        rw [upd_ne hne]
                        exact g7.i _ _ qa, (gr.trans g7).n⟩
                      refine ⟨kvs, qk, b, rfl, hk5, g7.h _ _ hdic, by rw [line_eq]; omega, rfl, hlt, G6, putK kvs qk w, (if hasK (kvs.map (·.1)) qk = true then dputV (kvs.map (·.1)) vs qk vd' else vs ++ [vd']), gu, gD3 g7, upd_same, ?_, by have := length_putK kvs qk w; omega, ?_⟩
                      · split at z
                        · rename_i hh
                          rw [if_pos hh]
                          exact z.2
                        · rename_i hh
                          rw [if_neg hh]
                          exact z.2
                      · have er : (if hasK (kvs.map (·.1)) qk = true then dcL (turnD g fi fk fv ρ) (ds0.drop (j + 1)) (kvs.map (·.1)) (dputV (kvs.map (·.1)) vs qk vd') else dcL (turnD g fi fk fv ρ) (ds0.drop (j + 1)) (kvs.map (·.1) ++ [qk]) (vs ++ [vd'])) = some (.ok total) := er
                        split at z
                        · rename_i hh
                          rw [if_pos hh] at er ⊢
                          rw [z.1]
                          exact er
                        · rename_i hh
                          rw [if_neg hh] at er ⊢
                          rw [z.1]
                          exact er
    · have ej : j = xs.length := by omega
      subst ej
      refine .inl ⟨sqc.stop _ (Nat.le_refl _), ?_⟩
      rw [List.drop_eq_nil_of_le (by omega)] at er
      cases er
      exact q G2 Hc gr _ ⟨D, rfl, g1.h.free hD, gD, kvs, hdic, rfl, dvs⟩
end
end DE

set_option Elab.async false
set_option linter.all false
set_option maxRecDepth 100000
set_option maxHeartbeats 8000000
/-! DE7e: the recursion over the tree. -/
namespace DE
open PySem PySem.Spec PyProof.Rows L2
theorem nmB_of {X : Cx} {i : Nat} {x : Str} (h : nmB X.N X.env.scope i x = true) : X.N[i]? = some x ∧ Vis X.env.scope x ∧ (x == ("__debug__" : Str)) = false ∧ (x == ("__classdict__" : Str)) = false := by
  unfold nmB at h
  simp only [Bool.and_eq_true, decide_eq_true_eq, Bool.not_eq_true'] at h
  exact ⟨h.1.1.1, vis_of rfl h.1.1.2, h.1.2, h.2⟩
theorem lastm {op op' : CmpOp} {b d : Expr} (h : behindInMarks op' d = false) : lastMarks [op, op'] [b, d] = false := h
theorem m2_of {X : Cx} {o e f : Expr} {ap cp : Pos} (hb : attributeBase o "get" X.env (eval o X.env) = eval o X.env) (hl : (ap.endLine == cp.line) = true) (he : notStar e = true) (hf : notStar f = true) : M2 X o "get" ap e f cp := by
  have s1 : starEach [e, f] X.env = [(false, eval e X.env), (false, eval f X.env)] := by
    rw [star_cons he, star_cons hf]
    rfl
  refine ⟨hb, ?_, hl, ?_⟩
  · rw [s1]
    rfl
  · rw [s1]
    rfl
theorem fold_of {N : List Str} {C : Cfg} {h : Bool} {sc : Scope} {ie : IE} {e : Expr} {env : Env} (k : ckE N C h sc ie e = true) : ∀ x, foldedSetIterable e env x = pure x := by
  intro x
  cases e with
  | Set a b c => cases ie <;> simp [ckE] at k
  | _ => rfl
section
variable {C : Cfg} {hh : Bool}
theorem s_const {ie : IE} (he : SE C hh ie) (ht : ∀ ρ, evT C ie ρ = none) : SE C hh ie ∧ ST C hh ie := ⟨he, fun X px W k c e h => t_none ht⟩
mutual
theorem sE (C : Cfg) (hh : Bool) : ∀ ie : IE, SE C hh ie ∧ ST C hh ie
  | .var i => by
    have key : SE C hh (.var i) := fun X px W k c e h => by
      cases e with
      | Name x p =>
        obtain ⟨h1, h2, h3, h4⟩ := nmB_of (show nmB X.N X.env.scope i x = true from h)
        exact c_var h1 h2 h3 h4
      | _ => simp [ckE] at h
    refine ⟨key, fun X px W k c e h => ?_⟩
    have k1 := key X px W k c e h
    cases e with
    | Name x p => exact pt_fn (t_tru k1 fun _ => rfl) fun ρ => by rw [evT]
    | _ => simp [ckE] at h
  | .int n => s_const (fun X px W k c e h => by
      cases e with
      | Constant v a p =>
        cases v with
        | int m =>
          have h' : n = m := by simpa [ckE] using h
          subst h'
          exact c_const pe_int (dd := .int n) (fun _ => rfl) fun ρ => by rw [evE]
        | _ => simp [ckE] at h
      | _ => simp [ckE] at h) fun ρ => by rw [evT] <;> simp
  | .str n => s_const (fun X px W k c e h => by
      cases e with
      | Constant v a p =>
        cases v with
        | str m =>
          have h' : n = m := by simpa [ckE] using h
          subst h'
          exact c_const pe_str (dd := .str n) (fun _ => rfl) fun ρ => by rw [evE]
        | _ => simp [ckE] at h
      | _ => simp [ckE] at h) fun ρ => by rw [evT] <;> simp
  | .bl b => by
    have key : SE C hh (.bl b) := fun X px W k c e h => by
      cases e with
      | Constant v a p =>
        cases v with
        | bool m =>
          have h' : b = m := by simpa [ckE] using h
          subst h'
          exact c_const pe_bl (dd := .bl b) (fun _ => rfl) fun ρ => by rw [evE]
        | _ => simp [ckE] at h
      | _ => simp [ckE] at h
    refine ⟨key, fun X px W k c e h => ?_⟩
    have k1 := key X px W k c e h
    cases e with
    | Constant v a p => exact pt_fn (t_tru k1 fun _ => rfl) fun ρ => by rw [evT]
    | _ => simp [ckE] at h
  | .non => s_const (fun X px W k c e h => by
      cases e with
      | Constant v a p =>
        cases v with
        | none => exact c_const pe_non (dd := .non) (fun _ => rfl) fun ρ => by rw [evE]
        | _ => simp [ckE] at h
      | _ => simp [ckE] at h) fun ρ => by rw [evT] <;> simp
  | .bin o a b => s_const (fun X px W k c e h => by
      cases e with
      | BinOp x p y pos =>
        simp only [ckE, Bool.and_eq_true, decide_eq_true_eq] at h
        obtain ⟨⟨h1, h2⟩, h3⟩ := h
        subst h1
        exact pe_fn (c_bin c ((sE C hh a).1 X px W k c x h2) ((sE C hh b).1 X px W k c y h3)) fun ρ => by rw [evE]
      | _ => simp [ckE] at h) fun ρ => by rw [evT] <;> simp
  | .neg a => s_const (fun X px W k c e h => by
      cases e with
      | UnaryOp p x pos =>
        cases p with
        | USub =>
          simp only [ckE] at h
          exact pe_fn (c_neg ((sE C hh a).1 X px W k c x h)) fun ρ => by rw [evE] <;> rfl
        | _ => simp [ckE] at h
      | _ => simp [ckE] at h) fun ρ => by rw [evT] <;> simp
  | .cmp o a b => ⟨fun X px W k c e h => by
      cases e with
      | Compare x ops ys pos =>
        match ops, ys, h with
        | [p], [y], h =>
          simp only [ckE, Bool.and_eq_true, decide_eq_true_eq] at h
          obtain ⟨⟨h1, h2⟩, h3⟩ := h
          subst h1
          exact pe_fn (c_cmp c ((sE C hh a).1 X px W k c x h2) ((sE C hh b).1 X px W k c y h3) (nomark_ck h3)) fun ρ => by rw [evE]
        | [], _, h => simp [ckE] at h
        | [_], [], h => simp [ckE] at h
        | [_], _ :: _ :: _, h => simp [ckE] at h
        | _ :: _ :: _, _, h => simp [ckE] at h
      | _ => simp [ckE] at h, fun X px W k c e h => by
      cases e with
      | Compare x ops ys pos =>
        match ops, ys, h with
        | [p], [y], h =>
          simp only [ckE, Bool.and_eq_true, decide_eq_true_eq] at h
          obtain ⟨⟨h1, h2⟩, h3⟩ := h
          subst h1
          exact pt_fn (t_cmp c ((sE C hh a).1 X px W k c x h2) ((sE C hh b).1 X px W k c y h3) (nomark_ck h3)) fun ρ => by rw [evT]
        | [], _, h => simp [ckE] at h
        | [_], [], h => simp [ckE] at h
        | [_], _ :: _ :: _, h => simp [ckE] at h
        | _ :: _ :: _, _, h => simp [ckE] at h
      | _ => simp [ckE] at h⟩
  | .chain o o' a b d => ⟨fun X px W k c e h => by
      cases e with
      | Compare x ops ys pos =>
        match ops, ys, h with
        | [p, p'], [y, z], h =>
          simp only [ckE, Bool.and_eq_true, decide_eq_true_eq] at h
          obtain ⟨⟨⟨⟨h1, h2⟩, h3⟩, h4⟩, h5⟩ := h
          subst h1 h2
          exact pe_fn (c_chain c ((sE C hh a).1 X px W k c x h3) ((sE C hh b).1 X px W k c y h4) ((sE C hh d).1 X px W k c z h5) (lastm (nomark_ck h5))) fun ρ => by rw [evE] <;> rfl
        | [], _, h => simp [ckE] at h
        | [_], _, h => simp [ckE] at h
        | [_, _], [], h => simp [ckE] at h
        | [_, _], [_], h => simp [ckE] at h
        | [_, _], _ :: _ :: _ :: _, h => simp [ckE] at h
        | _ :: _ :: _ :: _, _, h => simp [ckE] at h
      | _ => simp [ckE] at h, fun X px W k c e h => by
      cases e with
      | Compare x ops ys pos =>
        match ops, ys, h with
        | [p, p'], [y, z], h =>
          simp only [ckE, Bool.and_eq_true, decide_eq_true_eq] at h
          obtain ⟨⟨⟨⟨h1, h2⟩, h3⟩, h4⟩, h5⟩ := h
          subst h1 h2
          exact pt_fn (t_chain c ((sE C hh a).1 X px W k c x h3) ((sE C hh b).1 X px W k c y h4) ((sE C hh d).1 X px W k c z h5) (lastm (nomark_ck h5))) fun ρ => by rw [evT] <;> rfl
        | [], _, h => simp [ckE] at h
        | [_], _, h => simp [ckE] at h
        | [_, _], [], h => simp [ckE] at h
        | [_, _], [_], h => simp [ckE] at h
        | [_, _], _ :: _ :: _ :: _, h => simp [ckE] at h
        | _ :: _ :: _ :: _, _, h => simp [ckE] at h
      | _ => simp [ckE] at h⟩
  | .andd as => ⟨fun X px W k c e h => by
      cases e with
      | BoolOp op es pos =>
        cases op with
        | And => exact pe_fn ((sA C hh as).2.1 X px W k c es pos (by simpa [ckE] using h)).1 fun ρ => by rw [evE]
        | Or => simp [ckE] at h
      | _ => simp [ckE] at h, fun X px W k c e h => by
      cases e with
      | BoolOp op es pos =>
        cases op with
        | And => exact pt_fn ((sA C hh as).2.1 X px W k c es pos (by simpa [ckE] using h)).2.pt fun ρ => by rw [evT]
        | Or => simp [ckE] at h
      | _ => simp [ckE] at h⟩
  | .orr as => ⟨fun X px W k c e h => by
      cases e with
      | BoolOp op es pos =>
        cases op with
        | Or => exact pe_fn ((sA C hh as).2.2 X px W k c es pos (by simpa [ckE] using h)).1 fun ρ => by rw [evE]
        | And => simp [ckE] at h
      | _ => simp [ckE] at h, fun X px W k c e h => by
      cases e with
      | BoolOp op es pos =>
        cases op with
        | Or => exact pt_fn ((sA C hh as).2.2 X px W k c es pos (by simpa [ckE] using h)).2.pt fun ρ => by rw [evT]
        | And => simp [ckE] at h
      | _ => simp [ckE] at h⟩
  | .nott a => ⟨fun X px W k c e h => by
      cases e with
      | UnaryOp p x pos =>
        cases p with
        | Not => exact pe_fn (c_not ((sE C hh a).1 X px W k c x (by simpa [ckE] using h))) fun ρ => by rw [evE] <;> rfl
        | _ => simp [ckE] at h
      | _ => simp [ckE] at h, fun X px W k c e h => by
      cases e with
      | UnaryOp p x pos =>
        cases p with
        | Not => exact pt_fn (t_not ((sE C hh a).2 X px W k c x (by simpa [ckE] using h))) fun ρ => by rw [evT]
        | _ => simp [ckE] at h
      | _ => simp [ckE] at h⟩
  | .ife a b d => s_const (fun X px W k c e h => by
      cases e with
      | IfExp x y z pos =>
        simp only [ckE, Bool.and_eq_true] at h
        exact pe_fn (c_ife ((sE C hh a).2 X px W k c x h.1.1) ((sE C hh b).1 X px W k c y h.1.2) ((sE C hh d).1 X px W k c z h.2)) fun ρ => by rw [evE] <;> rfl
      | _ => simp [ckE] at h) fun ρ => by rw [evT] <;> simp
  | .tup as => s_const (fun X px W k c e h => by
      cases e with
      | Tuple es x1 pos =>
        simp only [ckE, Bool.and_eq_true, decide_eq_true_eq] at h
        exact pe_fn (c_tup (fun ρ rs e => by rw [evA_len e, ckA_len h.2]; exact h.1) ((sA C hh as).1 X px W k c es h.2)) fun ρ => by rw [evE] <;> rfl
      | _ => simp [ckE] at h) fun ρ => by rw [evT] <;> simp
  | .lst as => s_const (fun X px W k c e h => by
      cases e with
      | List es pos =>
        simp only [ckE, Bool.and_eq_true, decide_eq_true_eq] at h
        exact pe_fn (c_lst (fun ρ rs e => by rw [evA_len e, ckA_len h.2]; exact h.1) ((sA C hh as).1 X px W k c es h.2)) fun ρ => by rw [evE] <;> rfl
      | _ => simp [ckE] at h) fun ρ => by rw [evT] <;> simp
  | .dictT => s_const (fun X px W k c e h => by
      cases e with
      | Dict ks vs pos =>
        match ks, vs, h with
        | [], [], h => exact c_dictT
        | [], _ :: _, h => simp [ckE] at h
        | _ :: _, _, h => simp [ckE] at h
      | _ => simp [ckE] at h) fun ρ => by rw [evT] <;> simp
  | .dictK => s_const (fun X px W k c e h => by
      cases e with
      | Dict ks vs pos =>
        match ks, vs, h with
        | [], [], h => exact c_dictK
        | [], _ :: _, h => simp [ckE] at h
        | _ :: _, _, h => simp [ckE] at h
      | _ => simp [ckE] at h) fun ρ => by rw [evT] <;> simp
  | .ix a i => by
    have key : SE C hh (.ix a i) := fun X px W k c e h => by
      cases e with
      | Subscript x y pos =>
        simp only [ckE, Bool.and_eq_true] at h
        exact pe_fn (c_ix c (ck_slice h.2) ((sE C hh a).1 X px W k c x h.1) ((sE C hh i).1 X px W k c y h.2)) fun ρ => by rw [evE]
      | _ => simp [ckE] at h
    refine ⟨key, fun X px W k c e h => ?_⟩
    have k1 := key X px W k c e h
    cases e with
    | Subscript x y pos => exact pt_fn (t_tru k1 fun _ => rfl) fun ρ => by rw [evT, evE]
    | _ => simp [ckE] at h
  | .dix a i => s_const (fun X px W k c e h => by
      cases e with
      | Subscript x y pos =>
        simp only [ckE, Bool.and_eq_true] at h
        exact pe_fn (c_dix c (ck_slice h.2) ((sE C hh a).1 X px W k c x h.1) ((sE C hh i).1 X px W k c y h.2)) fun ρ => by rw [evE]
      | _ => simp [ckE] at h) fun ρ => by rw [evT] <;> simp
  | .sl a lo hi => s_const (fun X px W k c e h => by
      cases e with
      | Subscript x y pos =>
        cases y with
        | Slice l u st p2 =>
          cases st with
          | none =>
            simp only [ckE, Bool.and_eq_true] at h
            exact pe_fn (c_sl ((sE C hh a).1 X px W k c x h.1.1) ((sO C hh lo X px W k c).1 l h.1.2) ((sO C hh hi X px W k c).1 u h.2)) fun ρ => by rw [evE]
          | some _ => simp [ckE] at h
        | _ => simp [ckE] at h
      | _ => simp [ckE] at h) fun ρ => by rw [evT] <;> simp
  | .call j as => by
    have key : SE C hh (.call j as) := fun X px W k c e h => by
      cases e with
      | Call f es ks pos =>
        cases f with
        | Name x p =>
          match as, es, ks, h with
          | .cons a r, e :: es, [], h =>
            simp only [ckE, Bool.and_eq_true, decide_eq_true_eq] at h
            obtain ⟨⟨⟨h1, h2⟩, h3⟩, h4⟩ := h
            obtain ⟨g1, g2, g3⟩ := gl_of rfl h1
            cases q : C.T[j]? with
            | none => rw [q] at h2; simp at h2
            | some fn =>
              rw [q] at h2
              have h2 : fn.name = x := by simpa using h2
              subst h2
              have pa : PA X (e :: es) (cA (enX X px) W (evA C (.cons a r))) := (sA C hh (.cons a r)).1 X px W k c (e :: es) (by simp only [ckA, Bool.and_eq_true]; exact ⟨h3, h4⟩)
              exact pe_fn (pe_callD c q g1 g2 pa (star_cons (ck_star h3)) (plain_args h4)) fun ρ => by rw [evE, q]
          | .cons _ _, _ :: _, _ :: _, h => simp [ckE] at h
          | .cons _ _, [], _, h => simp [ckE] at h
          | .nil, _, _, h => simp [ckE] at h
        | _ => simp [ckE] at h
      | _ => simp [ckE] at h
    refine ⟨key, fun X px W k c e h => ?_⟩
    have k1 := key X px W k c e h
    cases e with
    | Call f es ks pos => exact pt_fn (t_tru k1 fun _ => rfl) fun ρ => by rw [evT, evE]
    | _ => simp [ckE] at h
  | .bi b as => by
    have key : SE C hh (.bi b as) := fun X px W k c e h => by
      cases e with
      | Call f es ks pos =>
        cases f with
        | Name x p =>
          match as, es, ks, h with
          | .cons a r, e :: es, [], h =>
            simp only [ckE, Bool.and_eq_true, decide_eq_true_eq] at h
            obtain ⟨⟨⟨⟨h0, h1⟩, h2⟩, h3⟩, h4⟩ := h
            obtain ⟨g1, g2, g3⟩ := gl_of rfl h1
            subst h2
            have pa : PA X (e :: es) (cA (enX X px) W (evA C (.cons a r))) := (sA C hh (.cons a r)).1 X px W k c (e :: es) (by simp only [ckA, Bool.and_eq_true]; exact ⟨h3, h4⟩)
            exact pe_fn (c_bi c h0 g1 pa (star_cons (ck_star h3)) (plain_args h4)) fun ρ => by rw [evE]
          | .cons _ _, _ :: _, _ :: _, h => simp [ckE] at h
          | .cons _ _, [], _, h => simp [ckE] at h
          | .nil, _, _, h => simp [ckE] at h
        | _ => simp [ckE] at h
      | _ => simp [ckE] at h
    refine ⟨key, fun X px W k c e h => ?_⟩
    have k1 := key X px W k c e h
    cases e with
    | Call f es ks pos => exact pt_fn (t_tru k1 fun _ => rfl) fun ρ => by rw [evT, evE]
    | _ => simp [ckE] at h
  | .get d kk z => s_const (fun X px W k c e h => by
      cases e with
      | Call f es ks pos =>
        cases f with
        | Attribute o n ap =>
          match es, ks, h with
          | [e, f], [], h =>
            simp only [ckE, Bool.and_eq_true, decide_eq_true_eq] at h
            obtain ⟨⟨⟨⟨h0, h1⟩, h2⟩, h3⟩, h4⟩ := h
            subst h0
            exact pe_fn (c_get c ((sE C hh d).1 X px W k c o h2) ((sE C hh kk).1 X px W k c e h3) ((sE C hh z).1 X px W k c f h4) (m2_of (base_of h2) h1 (ck_star h3) (ck_star h4))) fun ρ => by rw [evE]
          | [_, _], _ :: _, h => simp [ckE] at h
          | [], _, h => simp [ckE] at h
          | [_], _, h => simp [ckE] at h
          | _ :: _ :: _ :: _, _, h => simp [ckE] at h
        | _ => simp [ckE] at h
      | _ => simp [ckE] at h) fun ρ => by rw [evT] <;> simp
  | .attr a n => s_const (fun X px W k c e h => by
      cases e with
      | Attribute o m pos =>
        simp only [ckE, Bool.and_eq_true, decide_eq_true_eq] at h
        obtain ⟨h1, h2⟩ := h
        subst h1
        exact pe_fn (pe_attrX c ((sE C hh a).1 X px W k c o h2) (base_of h2)) fun ρ => by rw [evE]
      | _ => simp [ckE] at h) fun ρ => by rw [evT] <;> simp
  | .isi a cl => by
    have key : SE C hh (.isi a cl) := fun X px W k c e h => by
      cases e with
      | Call f es ks pos =>
        cases f with
        | Name x p =>
          match es, ks, h with
          | [e, y], [], h =>
            cases y with
            | Name y p2 =>
              simp only [ckE, Bool.and_eq_true, decide_eq_true_eq] at h
              obtain ⟨⟨⟨⟨h1, h2⟩, h3⟩, h4⟩, h5⟩ := h
              subst h2
              obtain ⟨g1, _, _⟩ := gl_of rfl h1
              obtain ⟨g2, g3, _⟩ := gl_of rfl h4
              exact pe_fn (pe_isi c g1 g2 g3 h5 ((sE C hh a).1 X px W k c e h3) (star_cons (ck_star h3))) fun ρ => by rw [evE]
            | _ => simp [ckE] at h
          | [_, y], _ :: _, h => cases y <;> simp [ckE] at h
          | [], _, h => simp [ckE] at h
          | [_], _, h => simp [ckE] at h
          | _ :: _ :: _ :: _, _, h => simp [ckE] at h
        | _ => simp [ckE] at h
      | _ => simp [ckE] at h
    refine ⟨key, fun X px W k c e h => ?_⟩
    have k1 := key X px W k c e h
    cases e with
    | Call f es ks pos =>
      refine pt_fn (t_bl (o := fun ρ => bindR (evE C a ρ) fun x => optR (isiV C.isa x cl)) (pe_fn k1 fun ρ => ?_) fun _ => rfl) fun ρ => by rw [evT]
      rw [evE]
      cases evE C a ρ with
      | none => rfl
      | some y =>
        cases y with
        | error e => rfl
        | ok x =>
          show bindR (optR (isiV C.isa x cl)) _ = optR (blR (isiV C.isa x cl))
          cases isiV C.isa x cl with
          | none => rfl
          | some b => rfl
    | _ => simp [ckE] at h
  | .m1 m a b => by
    have key : SE C hh (.m1 m a b) := fun X px W k c e h => by
      cases e with
      | Call f es ks pos =>
        cases f with
        | Attribute o n ap =>
          match es, ks, h with
          | [e], [], h =>
            simp only [ckE, Bool.and_eq_true, decide_eq_true_eq] at h
            obtain ⟨⟨⟨h1, h2⟩, h3⟩, h4⟩ := h
            subst h1
            exact pe_fn (c_m1 m ((sE C hh a).1 X px W k c o h3) ((sE C hh b).1 X px W k c e h4) (star_cons (ck_star h4)) (base_of h3) h2) fun ρ => by rw [evE]
          | [], _, h => simp [ckE] at h
          | [_], _ :: _, h => simp [ckE] at h
          | _ :: _ :: _, _, h => simp [ckE] at h
        | _ => simp [ckE] at h
      | _ => simp [ckE] at h
    refine ⟨key, fun X px W k c e h => ?_⟩
    cases e with
    | Call f es ks pos => exact pt_fn (t_tru (key X px W k c _ h) fun _ => rfl) fun ρ => by rw [evT, evE]
    | _ => simp [ckE] at h
  | .cntT a => s_const (fun X px W k c e h => by
      cases e with
      | Call f es ks pos =>
        cases f with
        | Attribute o n ap =>
          match es, ks, h with
          | [.Constant (.bool b) _ _], [], h =>
            simp only [ckE, Bool.and_eq_true, decide_eq_true_eq] at h
            obtain ⟨⟨⟨h0, h1⟩, h2⟩, h3⟩ := h
            subst h0 h1
            exact pe_fn (c_cntT ((sE C hh a).1 X px W k c o h3) (base_of h3) h2) fun ρ => by rw [evE]
        | _ => simp [ckE] at h
      | _ => simp [ckE] at h) fun ρ => by rw [evT] <;> simp
  | .idxT a => s_const (fun X px W k c e h => by
      cases e with
      | Call f es ks pos =>
        cases f with
        | Attribute o n ap =>
          match es, ks, h with
          | [.Constant (.bool b) _ _], [], h =>
            simp only [ckE, Bool.and_eq_true, decide_eq_true_eq] at h
            obtain ⟨⟨⟨h0, h1⟩, h2⟩, h3⟩ := h
            subst h0 h1
            exact pe_fn (c_idxT ((sE C hh a).1 X px W k c o h3) (base_of h3) h2) fun ρ => by rw [evE]
        | _ => simp [ckE] at h
      | _ => simp [ckE] at h) fun ρ => by rw [evT] <;> simp
  | .lsr1 a => s_const (fun X px W k c e h => by
      cases e with
      | Call f es ks pos =>
        cases f with
        | Name x p =>
          match es, ks, h with
          | [.Call (.Name y p2) [e] [] pos2], [], h =>
            simp only [ckE, Bool.and_eq_true, Bool.not_eq_true', decide_eq_true_eq] at h
            obtain ⟨⟨⟨⟨⟨h0, h1⟩, h2⟩, h3⟩, h4⟩, h5⟩ := h
            subst h0 h2 h4
            have hcalm : X.calm = true := by
              cases c.mode with
              | calm hc _ _ _ => exact hc
            exact pe_fn (c_lsr1 hcalm (gl_of rfl h1).1 (c.tab.blt _ (by decide +kernel)) (gl_of rfl h3).1 (c.tab.blt _ (by decide +kernel)) (star_cons (ck_star h5)) ((sE C false a).1 X px W k c e h5)) fun ρ => by rw [evE]
        | _ => simp [ckE] at h
      | _ => simp [ckE] at h) fun ρ => by rw [evT] <;> simp
  | .lsr2 a b => s_const (fun X px W k c e h => by
      cases e with
      | Call f es ks pos =>
        cases f with
        | Name x p =>
          match es, ks, h with
          | [.Call (.Name y p2) [e, e2] [] pos2], [], h =>
            simp only [ckE, Bool.and_eq_true, Bool.not_eq_true', decide_eq_true_eq] at h
            obtain ⟨⟨⟨⟨⟨⟨h0, h1⟩, h2⟩, h3⟩, h4⟩, h5⟩, h6⟩ := h
            subst h0 h2 h4
            have hcalm : X.calm = true := by
              cases c.mode with
              | calm hc _ _ _ => exact hc
            exact pe_fn (c_lsr2 hcalm (gl_of rfl h1).1 (c.tab.blt _ (by decide +kernel)) (gl_of rfl h3).1 (c.tab.blt _ (by decide +kernel)) (by rw [star_cons (ck_star h5), star_cons (ck_star h6)]; rfl) (star_cons (ck_star h6)) ((sE C false a).1 X px W k c e h5) ((sE C false b).1 X px W k c e2 h6)) fun ρ => by rw [evE]
        | _ => simp [ckE] at h
      | _ => simp [ckE] at h) fun ρ => by rw [evT] <;> simp
  | .lrv a => s_const (fun X px W k c e h => by
      cases e with
      | Call f es ks pos =>
        cases f with
        | Name x p =>
          match es, ks, h with
          | [.Call (.Name y p2) [e] [] pos2], [], h =>
            simp only [ckE, Bool.and_eq_true, Bool.not_eq_true', decide_eq_true_eq] at h
            obtain ⟨⟨⟨⟨⟨h0, h1⟩, h2⟩, h3⟩, h4⟩, h5⟩ := h
            subst h0 h2 h4
            have hcalm : X.calm = true := by
              cases c.mode with
              | calm hc _ _ _ => exact hc
            exact pe_fn (c_lrv hcalm (gl_of rfl h1).1 (c.tab.blt _ (by decide +kernel)) (gl_of rfl h3).1 (c.tab.blt _ (by decide +kernel)) (star_cons (ck_star h5)) ((sE C false a).1 X px W k c e h5)) fun ρ => by rw [evE]
        | _ => simp [ckE] at h
      | _ => simp [ckE] at h) fun ρ => by rw [evT] <;> simp
  | .lc elt g src ifs => s_const (fun X px W k c e h => by
      cases e with
      | ListComp el gens scope pos =>
        match gens, h with
        | [⟨tg, it, fs, asy⟩], h =>
          simp only [ckE, Bool.and_eq_true, Bool.not_eq_true', decide_eq_true_eq] at h
          obtain ⟨⟨⟨⟨⟨⟨ha, h0⟩, h1⟩, h2⟩, h3⟩, h4⟩, h5⟩ := h
          subst h0
          subst ha
          have hs := sS C false src X px W k c it tg h1
          have hcalm : X.calm = true := by
            cases c.mode with
            | calm hc _ _ _ => exact hc
          refine pe_fn (f := fun ρ => bindR (evSrc C src ρ) fun ds => bindR (optR (szV ds)) fun ds => bindR (compL (turnL g (evIf C ifs) (evE C elt) ρ) ds) fun rs => some (.ok (.fr (.l rs)))) (pe_imp (pe_lc hcalm c.nd hs.1 (blkOk_by h2) (fun s H C' cl fp => pg_of (X := X.blk s H scope (compEnvC scope cl C' X.env) fp) (E := enX X px) c.nd hcalm setS_blk rfl h3)
            (fun s H C' cl fp => (sO C false ifs _ px WF k (cc_blk c)).2 fs h4) (fun s H C' cl fp => (sE C false elt).1 _ px WF k (cc_blk c) el h5) hs.2) (c_lc (pos := pos) c hs.1 h3 (fun s H C' cl fp => (sO C false ifs _ px WF k (cc_blk c)).2 fs h4) (fun s H C' cl fp => (sE C false elt).1 _ px WF k (cc_blk c) el h5))) fun ρ => ?_
          rw [evE]
          rfl
        | [], h => simp [ckE] at h
        | _ :: _ :: _, h => simp [ckE] at h
      | _ => simp [ckE] at h) fun ρ => by rw [evT] <;> simp
  | .dc kx vx g src ifs => s_const (fun X px W k c e h => by
      cases e with
      | DictComp kl vl gens scope pos =>
        match gens, h with
        | [⟨tg, it, fs, asy⟩], h =>
          simp only [ckE, Bool.and_eq_true, Bool.not_eq_true', decide_eq_true_eq] at h
          obtain ⟨⟨⟨⟨⟨⟨⟨ha, h0⟩, h1⟩, h2⟩, h3⟩, h4⟩, h5⟩, h6⟩ := h
          subst h0
          subst ha
          have hs := sS C false src X px W k c it tg h1
          have hcalm : X.calm = true := by
            cases c.mode with
            | calm hc _ _ _ => exact hc
          have hu : X.A.units < cLine := by have := c.units; omega
          refine pe_fn (f := fun ρ => bindR (evSrc C src ρ) fun ds => bindR (optR (szV ds)) fun ds => bindR (dcL (turnD g (evIf C ifs) (evE C kx) (evE C vx) ρ) ds [] []) fun o => some (.ok (.fr o))) (pe_imp (pe_dm hu hcalm c.nd hs.1 (blkOk_by h2) (fun s H C' cl fp => pg_of (X := X.blk s H scope (compEnvC scope cl C' X.env) fp) (E := enX X px) c.nd hcalm setS_blk rfl h3)
            (fun s H C' cl fp => (sO C false ifs _ px WF k (cc_blk c)).2 fs h4) (fun s H C' cl fp => (sE C false kx).1 _ px WF k (cc_blk c) kl h5) (fun s H C' cl fp => (sE C false vx).1 _ px WF k (cc_blk c) vl h6) hs.2) (c_dm c (kl := kl) (vl := vl) (ifs := fs) hs.1 h3)) fun ρ => ?_
          rw [evE]
          rfl
        | [], h => simp [ckE] at h
        | _ :: _ :: _, h => simp [ckE] at h
      | _ => simp [ckE] at h) fun ρ => by rw [evT] <;> simp
theorem sA (C : Cfg) (hh : Bool) : ∀ as : IA, SA C hh as ∧ SB C hh as .And (evAnd C as) (evAndT C as) ∧ SB C hh as .Or (evOr C as) (evOrT C as)
  | .nil => ⟨fun X px W k c es h => by
      cases es with
      | nil => exact a_nil
      | cons e es => simp [ckA] at h, fun X px W k c es pos h => ⟨e_none fun ρ => by rw [evAnd], ⟨fun wh pins s σ H Q I q => by
      obtain ⟨B, ρ, G, i, rp, q⟩ := q
      rw [evAndT] at q
      exact q.elim⟩⟩, fun X px W k c es pos h => ⟨e_none fun ρ => by rw [evOr], ⟨fun wh pins s σ H Q I q => by
      obtain ⟨B, ρ, G, i, rp, q⟩ := q
      rw [evOrT] at q
      exact q.elim⟩⟩⟩
  | .cons a .nil => ⟨fun X px W k c es h => by
      cases es with
      | nil => simp [ckA] at h
      | cons e es =>
        simp only [ckA, Bool.and_eq_true] at h
        have r := (sA C hh .nil).1 X px W k c es h.2
        have q := a_cons ((sE C hh a).1 X px W k c e h.1) r (star_cons (ck_star h.1))
        have e : evA C (.cons a .nil) = fun ρ => bindR (evE C a ρ) fun x => bindR (evA C .nil ρ) fun rs => some (.ok (x :: rs)) := funext fun ρ => by conv => lhs; rw [evA]
        rw [e]
        exact q, fun X px W k c es pos h => by
      cases es with
      | nil => simp [ckA] at h
      | cons e es =>
        cases es with
        | nil =>
          simp only [ckA, Bool.and_eq_true] at h
          refine ⟨pe_fn (pe_one ((sE C hh a).1 X px W k c e h.1)) fun ρ => by rw [evAnd], ?_⟩
          have e1 : evAndT C (.cons a .nil) = evT C a := funext fun ρ => by rw [evAndT]
          rw [e1]
          exact pw_and1 ((sE C hh a).2 X px W k c e h.1)
        | cons e2 es => simp [ckA] at h, fun X px W k c es pos h => by
      cases es with
      | nil => simp [ckA] at h
      | cons e es =>
        cases es with
        | nil =>
          simp only [ckA, Bool.and_eq_true] at h
          refine ⟨pe_fn (pe_one ((sE C hh a).1 X px W k c e h.1)) fun ρ => by rw [evOr], ?_⟩
          have e1 : evOrT C (.cons a .nil) = evT C a := funext fun ρ => by rw [evOrT]
          rw [e1]
          exact pw_or1 ((sE C hh a).2 X px W k c e h.1)
        | cons e2 es => simp [ckA] at h⟩
  | .cons a (.cons b r) => ⟨fun X px W k c es h => by
      cases es with
      | nil => simp [ckA] at h
      | cons e es =>
        have h : (ckE X.N C hh X.env.scope a e && ckA X.N C hh X.env.scope (.cons b r) es) = true := by rw [ckA] at h; exact h
        rw [Bool.and_eq_true] at h
        have r' := (sA C hh (.cons b r)).1 X px W k c es h.2
        have q := a_cons ((sE C hh a).1 X px W k c e h.1) r' (star_cons (ck_star h.1))
        have e : evA C (.cons a (.cons b r)) = fun ρ => bindR (evE C a ρ) fun x => bindR (evA C (.cons b r) ρ) fun rs => some (.ok (x :: rs)) := funext fun ρ => by conv => lhs; rw [evA]
        rw [e]
        exact q, fun X px W k c es pos h => by
      cases es with
      | nil => simp [ckA] at h
      | cons e es =>
        have h : (ckE X.N C hh X.env.scope a e && ckA X.N C hh X.env.scope (.cons b r) es) = true := by rw [ckA] at h; exact h
        rw [Bool.and_eq_true] at h
        cases es with
        | nil => simp [ckA] at h
        | cons e2 es =>
          obtain ⟨q1, q2⟩ := (sA C hh (.cons b r)).2.1 X px W k c (e2 :: es) pos h.2
          refine ⟨pe_fn (c_and ((sE C hh a).1 X px W k c e h.1) q1) fun ρ => by rw [evAnd] <;> rfl, ?_⟩
          have e1 : evAndT C (.cons a (.cons b r)) = fun ρ => bindR (evT C a ρ) fun k => match k with
            | true => evAndT C (.cons b r) ρ
            | false => some (.ok false) := funext fun ρ => by rw [evAndT] <;> rfl
          rw [e1]
          exact w_and ((sE C hh a).2 X px W k c e h.1) q2, fun X px W k c es pos h => by
      cases es with
      | nil => simp [ckA] at h
      | cons e es =>
        have h : (ckE X.N C hh X.env.scope a e && ckA X.N C hh X.env.scope (.cons b r) es) = true := by rw [ckA] at h; exact h
        rw [Bool.and_eq_true] at h
        cases es with
        | nil => simp [ckA] at h
        | cons e2 es =>
          obtain ⟨q1, q2⟩ := (sA C hh (.cons b r)).2.2 X px W k c (e2 :: es) pos h.2
          refine ⟨pe_fn (c_or ((sE C hh a).1 X px W k c e h.1) q1) fun ρ => by rw [evOr] <;> rfl, ?_⟩
          have e1 : evOrT C (.cons a (.cons b r)) = fun ρ => bindR (evT C a ρ) fun k => match k with
            | false => evOrT C (.cons b r) ρ
            | true => some (.ok true) := funext fun ρ => by rw [evOrT] <;> rfl
          rw [e1]
          exact w_or ((sE C hh a).2 X px W k c e h.1) q2⟩
theorem sO (C : Cfg) (hh : Bool) : ∀ o : IO, SO_ C hh o
  | .no => fun X px W k c => ⟨fun e h => by
      cases e with
      | none => exact o_none
      | some e => simp [ckO] at h, fun es h => by
      cases es with
      | nil => exact ⟨fun pins s σ H Q I q => by
          obtain ⟨B, ρ, G, i, rp, q⟩ := q
          rw [evIf] at q
          exact pts_nil.run pins s σ H Q I (q G H (Gr.refl i))⟩
      | cons e es => simp [ckIf] at h⟩
  | .so a => fun X px W k c => ⟨fun e h => by
      cases e with
      | none => simp [ckO] at h
      | some e =>
        have q := o_some ((sE C hh a).1 X px W k c e (by simpa [ckO] using h))
        have e1 : evO C (.so a) = fun ρ => bindR (evE C a ρ) fun x => match x with
          | .dat (.int i) => some (.ok (some i))
          | _ => none := funext fun ρ => by rw [evO] <;> rfl
        rw [e1]
        exact q, fun es h => by
      match es, h with
      | [], h => simp [ckIf] at h
      | [e], h =>
        have q := (sE C hh a).2 X px W k c e (by simpa [ckIf] using h)
        have e1 : evIf C (.so a) = evT C a := funext fun ρ => by rw [evIf]
        rw [e1]
        exact pts_one q
      | _ :: _ :: _, h => simp [ckIf] at h⟩
theorem sS (C : Cfg) (hh : Bool) : ∀ o : ISrc, SS C hh o
  | .it a => fun X px W k c e tg h => by
    have h : ckE X.N C hh X.env.scope a e = true := by simpa [ckSrc] using h
    refine ⟨?_, fold_of h⟩
    have e1 : evSrc C (.it a) = fun ρ => bindR (evE C a ρ) fun x => optR (walkV x) := funext fun ρ => by rw [evSrc]
    rw [e1]
    exact i_seq ((sE C hh a).1 X px W k c e h)
  | .range (.cons a .nil) => fun X px W k c e tg h => by
    cases e with
    | Call f es ks pos =>
      cases f with
      | Name x p =>
        match es, ks, h with
        | [e], [], h =>
          simp only [ckSrc, Bool.and_eq_true, decide_eq_true_eq] at h
          obtain ⟨⟨h1, h2⟩, h3⟩ := h
          subst h2
          have e1 : evSrc C (.range (.cons a .nil)) = fun ρ => bindR (evA C (.cons a .nil) ρ) fun rs => optR (rangeV rs) := funext fun ρ => by rw [evSrc]
          rw [e1]
          exact ⟨i_range1 (gl_of rfl h1).1 (c.tab.blt _ (by decide +kernel)) (star_cons (ck_star h3)) ((sA C hh (.cons a .nil)).1 X px W k c [e] (by simp only [ckA, Bool.and_eq_true]; exact ⟨h3, trivial⟩)) fun ρ rs e => evA_len e, fun _ => rfl⟩
        | [_], _ :: _, h => simp [ckSrc] at h
        | [], _, h => simp [ckSrc] at h
        | _ :: _ :: _, _, h => simp [ckSrc] at h
      | _ => simp [ckSrc] at h
    | _ => simp [ckSrc] at h
  | .range (.cons a (.cons b .nil)) => fun X px W k c e tg h => by
    cases e with
    | Call f es ks pos =>
      cases f with
      | Name x p =>
        match es, ks, h with
        | [e, e2], [], h =>
          simp only [ckSrc, Bool.and_eq_true, decide_eq_true_eq] at h
          obtain ⟨⟨⟨h1, h2⟩, h3⟩, h4⟩ := h
          subst h2
          have e1 : evSrc C (.range (.cons a (.cons b .nil))) = fun ρ => bindR (evA C (.cons a (.cons b .nil)) ρ) fun rs => optR (rangeV rs) := funext fun ρ => by rw [evSrc]
          rw [e1]
          exact ⟨i_range2 (gl_of rfl h1).1 (c.tab.blt _ (by decide +kernel)) (by rw [star_cons (ck_star h3), star_cons (ck_star h4)]; rfl) (star_cons (ck_star h4)) ((sA C hh (.cons a (.cons b .nil))).1 X px W k c [e, e2] (by simp only [ckA, Bool.and_eq_true]; exact ⟨h3, h4, trivial⟩)) fun ρ rs e => evA_len e, fun _ => rfl⟩
        | [_, _], _ :: _, h => simp [ckSrc] at h
        | [], _, h => simp [ckSrc] at h
        | [_], _, h => simp [ckSrc] at h
        | _ :: _ :: _ :: _, _, h => simp [ckSrc] at h
      | _ => simp [ckSrc] at h
    | _ => simp [ckSrc] at h
  | .range .nil => fun X px W k c e tg h => by cases e <;> simp [ckSrc] at h
  | .range (.cons _ (.cons _ (.cons _ _))) => fun X px W k c e tg h => by cases e <;> simp [ckSrc] at h
  | .rev (.cons a .nil) => fun X px W k c e tg h => by
    cases e with
    | Call f es ks pos =>
      cases f with
      | Name x p =>
        match es, ks, h with
        | [e], [], h =>
          simp only [ckSrc, Bool.and_eq_true, decide_eq_true_eq] at h
          obtain ⟨⟨h1, h2⟩, h3⟩ := h
          subst h2
          have e1 : evSrc C (.rev (.cons a .nil)) = fun ρ => bindR (evA C (.cons a .nil) ρ) fun rs => optR (revV rs) := funext fun ρ => by rw [evSrc]
          rw [e1]
          exact ⟨i_rev (fun _ _ _ x y => x.trans y) (gl_of rfl h1).1 (c.tab.blt _ (by decide +kernel)) (star_cons (ck_star h3)) ((sA C hh (.cons a .nil)).1 X px W k c [e] (by simp only [ckA, Bool.and_eq_true]; exact ⟨h3, trivial⟩)), fun _ => rfl⟩
        | [_], _ :: _, h => simp [ckSrc] at h
        | [], _, h => simp [ckSrc] at h
        | _ :: _ :: _, _, h => simp [ckSrc] at h
      | _ => simp [ckSrc] at h
    | _ => simp [ckSrc] at h
  | .revR a => fun X px W k c e tg h => by
    cases e with
    | Call f es ks pos =>
      cases f with
      | Name x p =>
        match es, ks, h with
        | [.Call (.Name y p2) [e] [] pos2], [], h =>
          simp only [ckSrc, Bool.and_eq_true, decide_eq_true_eq] at h
          obtain ⟨⟨⟨⟨h1, h2⟩, h3⟩, h4⟩, h5⟩ := h
          subst h2 h4
          have e1 : evSrc C (.revR a) = fun ρ => bindR (evE C a ρ) fun x => optR (rvrV x) := funext fun ρ => by rw [evSrc]
          rw [e1]
          exact ⟨i_revR (gl_of rfl h1).1 (c.tab.blt _ (by decide +kernel)) (gl_of rfl h3).1 (c.tab.blt _ (by decide +kernel)) (star_cons (ck_star h5)) ((sE C hh a).1 X px W k c e h5), fun _ => rfl⟩
      | _ => simp [ckSrc] at h
    | _ => simp [ckSrc] at h
  | .rev .nil => fun X px W k c e tg h => by cases e <;> simp [ckSrc] at h
  | .rev (.cons _ (.cons _ _)) => fun X px W k c e tg h => by cases e <;> simp [ckSrc] at h
end
end
end DE

set_option Elab.async false
set_option linter.all false
set_option maxRecDepth 100000
set_option maxHeartbeats 4000000
/-! DE8: statements. -/
namespace DE
open PySem PySem.Spec PyProof.Rows L2

/-- the answer of a statement by data, as what is wanted; σ0: the slots ahead -/
def RS (E : En) (W : WX) (G0 H0 : Hp) (tch : List Nat) (σ0 : L2.St) (D : Ends) : SR → Prop
  | none => False
  | some (.nx ρ') => ∀ σ' G' H', Gr G0 H0 G' H' → Rep E H0 G' H' σ' ρ' → Off tch σ0 σ' → D.nx σ' H'
  | some (.bk ρ') => ∀ σ' G' H', Gr G0 H0 G' H' → Rep E H0 G' H' σ' ρ' → Off tch σ0 σ' → D.bk σ' H'
  | some (.ct ρ') => ∀ σ' G' H', Gr G0 H0 G' H' → Rep E H0 G' H' σ' ρ' → Off tch σ0 σ' → D.ct σ' H'
  | some (.rt r) => ∀ v G' H', Gr G0 H0 G' H' → DenR E G' H' H0 r v → isBr r = false → D.rt v H'
  | some (.er e ρ') => ∀ cls d σ' G' H', Gr G0 H0 G' H' → Rep E H0 G' H' σ' ρ' → Off tch σ0 σ' → DenX E G' e cls d → W cls d σ' H'
def cS (E : En) (W : WX) (G0 H0 : Hp) (tch : List Nat) (f : Rho → SR) : TS := fun D σ H => ∃ ρ G, Gr G0 H0 G H ∧ Rep E H0 G H σ ρ ∧ RS E W G0 H0 tch σ D (f ρ)
theorem Off.same {t : List Nat} {σ σ1 σ2 : L2.St} (a : Off t σ σ1) (b : Off t σ1 σ2) : Off t σ σ2 := (a.trans b).mono fun i h => (List.mem_append.mp h).elim id id
section
variable {E : En} {W : WX} {G0 H0 : Hp} {tch : List Nat} {σ0 σ1 : L2.St} {D : Ends}
theorem RS.off {r : SR} (h : RS E W G0 H0 tch σ0 D r) (o : Off tch σ0 σ1) : RS E W G0 H0 tch σ1 D r := by
  cases r with
  | none => exact h
  | some s =>
    cases s with
    | nx ρ => exact fun σ' G' H' a b c => h σ' G' H' a b (o.same c)
    | bk ρ => exact fun σ' G' H' a b c => h σ' G' H' a b (o.same c)
    | ct ρ => exact fun σ' G' H' a b c => h σ' G' H' a b (o.same c)
    | rt r => exact h
    | er e ρ => exact fun cls d σ' G' H' a b c => h cls d σ' G' H' a b (o.same c)
/-- an expression, then the rest -/
theorem rs_expr {α : Type} {x : Ans α} {ρ : Rho} {k : α → SR} {σ : L2.St} {G H : Hp} (g0 : Gr G0 H0 G H) (r : Rep E H0 G H σ ρ) (h : RS E W G0 H0 tch σ D (liftS x ρ k)) :
    QA E W σ G H (fun a _ _ => RS E W G0 H0 tch σ D (k a)) x := by
  cases x with
  | none => exact h
  | some y =>
    cases y with
    | error e => exact fun cls d G' H' g dx => h cls d σ G' H' (g0.trans g) (r.mono g) Off.refl dx
    | ok a => exact fun G' H' g => h
theorem cS_expr {ρ : Rho} {k : RV → SR} {f : Rho → EvR} {σ : L2.St} {G H : Hp} {Q : VK} (g0 : Gr G0 H0 G H) (r : Rep E H0 G H σ ρ) (h : RS E W G0 H0 tch σ D (liftS (f ρ) ρ k))
    (c : ∀ v rv G1 H1, Gr G H G1 H1 → Gr G0 H0 G1 H1 → Rep E H0 G1 H1 σ ρ → DenR E G1 H1 H rv v → RS E W G0 H0 tch σ D (k rv) → Q v H1) : cE E W f σ H Q :=
  ⟨H0, ρ, G, g0.i, r, (rs_expr g0 r h).imp fun rv G1 H1 g1 q v dv => c v rv G1 H1 g1 (g0.trans g1) (r.mono g1) dv q⟩
theorem cS_test {ρ : Rho} {k : Bool → SR} {f : Rho → Ans Bool} {σ : L2.St} {G H : Hp} {Q : Bool → Hp → Prop} (g0 : Gr G0 H0 G H) (r : Rep E H0 G H σ ρ) (h : RS E W G0 H0 tch σ D (liftS (f ρ) ρ k))
    (c : ∀ b G1 H1, Gr G0 H0 G1 H1 → Rep E H0 G1 H1 σ ρ → RS E W G0 H0 tch σ D (k b) → Q b H1) : cT E W f σ H Q :=
  ⟨H0, ρ, G, g0.i, r, (rs_expr g0 r h).imp fun b G1 H1 g1 q => c b G1 H1 (g0.trans g1) (r.mono g1) q⟩
end
section
variable {X : Cx} {px : Option (Addr × Addr × Addr)} {C : Cfg} {W : WX} {k : Nat} {hh : Bool} {G0 H0 : Hp} {tch : List Nat} {e : Expr} {pos : Pos} {f : Rho → EvR}
/-- where a body runs -/
structure Cs (X : Cx) (px : Option (Addr × Addr × Addr)) (C : Cfg) (W : WX) (k : Nat) (hh : Bool) : Prop extends Cc X px C W k hh where
  kd : X.env.scope.kind = .function
  sets : SetS X X.env.scope
  own : PassesOwn (model X.prog X.w) X.A X.env X.xe
  stk : X.stack = X.env :: X.outer
  frm : X.env.frame = some X.env.locals
  hotF : hh = false → ∀ (j : Nat) (fn : Fn), C.H[j]? = some fn → FnHFact X.prog X.w X.K X.mg X.base fn k
theorem swaps_no {e : Expr} {t : Option Expr} {l : Nat} {env : Env} (h : notComp e = true) : swapsWith e t l env = pure false := by
  cases e with
  | ListComp _ _ _ _ => cases h
  | SetComp _ _ _ _ => cases h
  | DictComp _ _ _ _ _ => cases h
  | _ => unfold swapsWith; rfl
theorem swaps_cell {e : Expr} {x : Str} {p : Pos} {l : Nat} {env : Env} (h : cellB env.scope x e = true) : swapsWith e (some (.Name x p)) l env = pure false := by
  cases e with
  | ListComp a b d f =>
    have h' : env.scope.names.lookup x = some .cell := by simpa [cellB] using h
    have k : env.kindOf x = some .cell := h'
    have k2 : (NameKind.cell == NameKind.local) = false := rfl
    unfold swapsWith
    simp [k, k2]
  | _ => cases h
/-- what is set by a name -/
theorem set_go {i : Nat} : ∀ D σ H, cS (enX X px) W G0 H0 tch (fun ρ => liftS (f ρ) ρ fun r => match r with
    | .dat d => some (.nx (ρ.set i (some (.dat d))))
    | .fr o => some (.nx (ρ.set i (some (.own o))))
    | .br _ => none) D σ H → i ∈ tch → tAsg (cE (enX X px) W f) (gName i) D σ H := by
  intro D σ H h hi
  obtain ⟨ρ, G, g0, r, h⟩ := h
  refine cS_expr g0 r h fun v rv G1 H1 g1 g2 r1 dv q => ?_
  have off : Off tch σ (σ.set i (some v)) := Off.set.mono fun j hj => by rw [List.mem_singleton.mp hj]; exact hi
  cases rv with
  | dat d => exact q _ G1 H1 g2 (r1.setD dv) off
  | fr o =>
    obtain ⟨l, e1, e2, e3, e4⟩ := dv
    subst e1
    exact q _ G1 H1 g2 (r1.setO (g0.h.free e2) e3 e4 fun j o' _ ej => r.fresh e2 j o' ej) off
  | br o => exact q.elim
theorem s_asg (c : Cs X px C W k hh) {i : Nat} {x : Str} {p : Pos} (hi : i ∈ tch) (ht : tgB X.N X.env.scope i x = true) (he : PE X e (cE (enX X px) W f)) (hn : swapsWith e (some (.Name x p)) pos.line X.env = pure false) : PS X (.Assign [.Name x p] e pos) (cS (enX X px) W G0 H0 tch (fun ρ => liftS (f ρ) ρ fun r => match r with
    | .dat d => some (.nx (ρ.set i (some (.dat d))))
    | .fr o => some (.nx (ρ.set i (some (.own o))))
    | .br _ => none)) := by
  obtain ⟨h1, h2⟩ := tgB_of ht
  exact ps_imp (ps_set c.nd h1 (c.sets x h2).1 he hn (c.sets x h2).2) fun D σ H h => set_go D σ H h hi
theorem s_asgT (c : Cs X px C W k hh) (hcalm : X.calm = true) {is : List Nat} {es : List Expr} {kk p} (hi : ∀ i ∈ is, i ∈ tch) (ht : tgsB X.N X.env.scope is es = true) (he : PE X e (cE (enX X px) W f)) (hn : notComp e = true) (hnt : ∀ a b d, e ≠ .Tuple a b d) :
    PS X (.Assign [.Tuple es kk p] e pos) (cS (enX X px) W G0 H0 tch (fun ρ => liftS (f ρ) ρ fun r => match r with
      | .dat (.tup ds) => match setT is ds ρ with
        | some ρ' => some (.nx ρ')
        | none => none
      | _ => none)) := by
  have hw : swappedStores [.Tuple es kk p] e X.env = pure none := by
    cases e with
    | Tuple a b d => exact absurd rfl (hnt a b d)
    | _ => unfold swappedStores; rfl
  refine ps_imp (ps_asg he (pg_of (g := .t is) (E := enX X px) c.nd hcalm c.sets rfl ht) (by unfold swapsWithSole; exact swaps_no hn) hw) fun D σ H h => ?_
  obtain ⟨ρ, G, g0, r, h⟩ := h
  refine cS_expr g0 r h fun v rv G1 H1 g1 g2 r1 dv q => ?_
  cases rv with
  | dat d =>
    cases d with
    | tup ds =>
      have q : RS (enX X px) W G0 H0 tch σ D (match setT is ds ρ with | some ρ' => some (.nx ρ') | none => none) := q
      cases es2 : setT is ds ρ with
      | none => rw [es2] at q; exact q.elim
      | some ρ' =>
        rw [es2] at q
        exact ⟨H0, ρ, G1, .tup ds, ρ', g2.i, r1, dv, es2, fun σ' r' o => q σ' G1 H1 g2 r' (o.mono hi)⟩
    | _ => exact q.elim
  | fr o => exact q.elim
  | br o => exact q.elim
theorem var_go {E : En} {B G H : Hp} {σ : L2.St} {ρ : Rho} {i : Nat} {o : OV} (r : Rep E B G H σ ρ) (e : ρ[i]? = some (some (.own o))) : ∃ l, σ[i]? = some (some (.ref l)) ∧ G l = none ∧ DenO E G H l o := by
  obtain ⟨v, e1, l, e2, e3, e4⟩ := r.at_ _ _ e
  subst e2
  exact ⟨l, e1, e3, e4⟩
theorem upd_gr {G H G1 : Hp} {l : Addr} {u : HO} (g : Gr G0 H0 G H) (h0 : H0 l = none) (hg : G l = none) : Gr G0 H0 G (upd H l u) := ⟨g.g, Ex.mut g.h h0, Ex.mut g.i hg, g.n⟩
variable {g : Rho → EvR} {kx : Expr}
theorem asg_ix {N : List Str} {h : Bool} {sc : Scope} {ie : IE} {o kx : Expr} {env : Env} (hk : ckE N C h sc ie kx = true) : ∀ v, assign (.Subscript o kx pos) env v = (do
    let ov ← holding [v] (eval o env)
    let iv ← holding [v, ov] (eval kx env)
    standAt pos
    holding [v, ov, iv] (setItem ov iv v)
    release [v, ov, iv] []) := by
  intro v
  rw [PySem.arm_assign_Subscript]
  cases kx with
  | Slice a b d p => cases ie <;> simp [ckE] at hk
  | _ => rfl
/-- a store into a slot's own list or dict, by values -/
theorem put_go {E : En} {D : Ends} {σ : L2.St} {ρ : Rho} {G4 H4 : Hp} {i : Nat} {o : OV} {d : DE.D} {v w : V} {rw : RV} {l : Addr} {H : Hp} (ei : ρ[i]? = some (some (.own o))) (e1 : σ[i]? = some (some (.ref l))) (g6 : Gr G0 H0 G4 H4) (r4 : Rep E H0 G4 H4 σ ρ) (d4 : Den E G4 d v) (dw : DenR E G4 H4 H rw w)
    (q : RS E W G0 H0 tch σ D (putX i ρ d o rw)) : rSetL (.ref l) w v H4 (fun H5 => D.nx σ H5) ∨ ∃ a H5, V.ref l = .ref a ∧ DPut H4 a w v H5 ∧ D.nx σ H5 := by
  obtain ⟨l', e1', e2', e3'⟩ := var_go r4 ei
  rw [e1] at e1'
  cases e1'
  have h0 : H0 l = none := r4.new i _ l ei e1
  cases o with
  | l ds =>
    cases rw with
    | dat kd =>
      cases kd with
      | int j =>
        have q : RS E W G0 H0 tch σ D (match ixN ds.length j with
          | some n => some (.nx (ρ.set i (some (.own (.l (ds.set n d))))))
          | none => none) := q
        split at q
        · rename_i n en
          obtain ⟨vs, q1, q2⟩ := e3'
          refine .inl ⟨l, vs, j, n, rfl, dw, q1, by rw [q2.length]; exact en, ?_⟩
          exact q σ G4 _ (upd_gr (G1 := G4) g6 h0 e2') (r4.write ei e1 g6.i ⟨_, upd_same, q2.set n d4⟩) Off.refl
        · exact q.elim
      | _ => exact q.elim
    | fr _ => exact q.elim
    | br _ => exact q.elim
  | tT ks vs =>
    cases rw with
    | dat kd =>
      have q : RS E W G0 H0 tch σ D (match tkeyOf kd with
        | some q => if ks.length < 16777216 then
            some (.nx (ρ.set i (some (.own (if hasK ks q = true then .tT ks (dputV ks vs q d) else .tT (ks ++ [q]) (vs ++ [d])))))) else none
        | none => none) := q
      split at q
      · rename_i qk eq
        split at q
        · rename_i hl
          obtain ⟨kvs, q1, q2, q3⟩ := e3'
          subst q2
          obtain ⟨b, hb1, hb2⟩ := tkeyOf_den eq (show Den E G4 kd w from dw)
          subst hb1
          rw [List.length_map] at hl
          refine .inr ⟨l, _, rfl, DPut.t q1 (g6.i _ _ hb2) (by rw [line_eq]; exact hl), ?_⟩
          have z := dput_dens qk q3 d4
          refine q σ G4 _ (upd_gr (G1 := G4) g6 h0 e2') (r4.write ei e1 g6.i ?_) Off.refl
          split at z
          · rename_i hh
            rw [if_pos hh]
            exact ⟨_, upd_same, z.1, z.2⟩
          · rename_i hh
            rw [if_neg hh]
            exact ⟨_, upd_same, z.1, z.2⟩
        · exact q.elim
      · exact q.elim
    | fr _ => exact q.elim
    | br _ => exact q.elim
  | tK ks vs =>
    cases rw with
    | dat kd =>
      have q : RS E W G0 H0 tch σ D (match keyOf kd with
        | some q => if ks.length < 16777216 then
            some (.nx (ρ.set i (some (.own (if hasK ks q = true then .tK ks (dputV ks vs q d) else .tK (ks ++ [q]) (vs ++ [d])))))) else none
        | none => none) := q
      split at q
      · rename_i qk eq
        split at q
        · rename_i hl
          obtain ⟨kvs, q1, q2, q3⟩ := e3'
          subst q2
          have hb1 := keyOf_den eq (show Den E G4 kd w from dw)
          subst hb1
          rw [List.length_map] at hl
          refine .inr ⟨l, _, rfl, DPut.k q1 (by rw [line_eq]; exact hl), ?_⟩
          have z := dput_dens qk q3 d4
          refine q σ G4 _ (upd_gr (G1 := G4) g6 h0 e2') (r4.write ei e1 g6.i ?_) Off.refl
          split at z
          · rename_i hh
            rw [if_pos hh]
            exact ⟨_, upd_same, z.1, z.2⟩
          · rename_i hh
            rw [if_neg hh]
            exact ⟨_, upd_same, z.1, z.2⟩
        · exact q.elim
      · exact q.elim
    | fr _ => exact q.elim
    | br _ => exact q.elim
def rSetX : V → V → V → Hp → (Hp → Prop) → Prop := fun o i v H Q => rSetL o i v H Q ∨ ∃ a H5, o = .ref a ∧ DPut H a i v H5 ∧ Q H5
theorem set_X (hu : X.A.units + 1 < cLine) : PSet X rSetX := by
  intro pins s σ H o i v ov iv u Q I ro ri rv h
  rcases h with h | ⟨a, H5, e, g, q⟩
  · exact set_list pins s σ H o i v ov iv u Q I ro ri rv h
  · subst e
    obtain rfl : ov = Value.ref a := ro
    exact d_setItem hu I g ri rv fun s4 I4 => ⟨H5, I4, q⟩
theorem s_setL (c : Cs X px C W k hh) {i : Nat} {x : Str} {p1 p2 : Pos} {ie : IE} (hi : i ∈ tch) (ht : nmB X.N X.env.scope i x = true) (hck : ckE X.N C hh X.env.scope ie kx = true) (hk : PE X kx (cE (enX X px) W g)) (he : PE X e (cE (enX X px) W f)) (hn : notComp e = true) :
    PS X (.Assign [.Subscript (.Name x p1) kx p2] e pos) (cS (enX X px) W G0 H0 tch (fun ρ => liftS (f ρ) ρ fun r => match toD r, ρ[i]? with
      | some d, some (some (.own o)) => liftS (g ρ) ρ fun j => putX i ρ d o j
      | _, _ => none)) := by
  obtain ⟨h1, h2, h3, h4⟩ := nmB_of ht
  refine ps_imp (ps_asg he (pg_sub (pe_var h1 h2 h3 h4) hk (set_X (by have := c.toCc.units; omega)) (asg_ix hck)) (by unfold swapsWithSole; exact swaps_no hn) (by unfold swappedStores; rfl)) fun D σ H h => ?_
  obtain ⟨ρ, G, g0, r, h⟩ := h
  refine cS_expr g0 r h fun v rv G1 H1 g1 g2 r1 dv q => ?_
  split at q
  · rename_i d o ed ei
    obtain ⟨G2, g3, x3, d3⟩ := toD_den ed g1 dv
    have g4 := g0.trans g3
    have r2 := r.mono g3
    obtain ⟨l, e1, e2, e3⟩ := var_go r2 ei
    refine ⟨_, e1, ?_⟩
    refine cS_expr g4 r2 q fun w rw G4 H4 g5 g6 r4 dw q => ?_
    exact put_go ei e1 g6 r4 (Den.mono g5.g _ _ d3) dw q
  · exact q.elim
theorem s_setD (c : Cs X px C W k hh) {i : Nat} {x : Str} {p1 p2 : Pos} (hi : i ∈ tch) (ht : nmB X.N X.env.scope i x = true) (hk : PE X kx (cE (enX X px) W g)) (he : PE X e (cE (enX X px) W f)) (hn : notComp e = true) :
    PS X (.Assign [.Subscript (.Name x p1) kx p2] e pos) (cS (enX X px) W G0 H0 tch (fun ρ => liftS (f ρ) ρ fun r => match toD r, ρ[i]? with
      | some d, some (some (.own o)) => liftS (g ρ) ρ fun j => putD i ρ d o j
      | _, _ => none)) := by
  obtain ⟨h1, h2, h3, h4⟩ := nmB_of ht
  refine ps_imp (ps_dput (by have := c.toCc.units; omega) (pe_var h1 h2 h3 h4) hk he (swaps_no hn)) fun D σ H h => ?_
  obtain ⟨ρ, G, g0, r, h⟩ := h
  refine cS_expr g0 r h fun v rv G1 H1 g1 g2 r1 dv q => ?_
  split at q
  · rename_i d o ed ei
    obtain ⟨G2, g3, x3, d3⟩ := toD_den ed g1 dv
    have g4 := g0.trans g3
    have r2 := r.mono g3
    obtain ⟨l, e1, e2, e3⟩ := var_go r2 ei
    refine ⟨_, e1, ?_⟩
    refine cS_expr g4 r2 q fun w rw G4 H4 g5 g6 r4 dw q => ?_
    obtain ⟨l', e1', e2', e3'⟩ := var_go r4 ei
    rw [e1] at e1'
    cases e1'
    have h0 : H0 l = none := r4.new i _ l ei e1
    have d4 : Den (enX X px) G4 d v := Den.mono g5.g _ _ d3
    cases o with
    | l ds => cases rw <;> exact q.elim
    | tT ks vs =>
      cases rw with
      | dat kd =>
        have q : RS (enX X px) W G0 H0 tch σ D (match tkeyOf kd with
          | some q => if ks.length < 16777216 then
              some (.nx (ρ.set i (some (.own (if hasK ks q = true then .tT ks (dputV ks vs q d) else .tT (ks ++ [q]) (vs ++ [d])))))) else none
          | none => none) := q
        split at q
        · rename_i qk eq
          split at q
          · rename_i hl
            obtain ⟨kvs, q1, q2, q3⟩ := e3'
            subst q2
            obtain ⟨b, hb1, hb2⟩ := tkeyOf_den eq (show Den (enX X px) G4 kd w from dw)
            subst hb1
            rw [List.length_map] at hl
            refine ⟨l, _, rfl, DPut.t q1 (g6.i _ _ hb2) (by rw [line_eq]; exact hl), ?_⟩
            have z := dput_dens qk q3 d4
            refine q σ G4 _ (upd_gr (G1 := G4) g6 h0 e2') (r4.write ei e1 g6.i ?_) Off.refl
            split at z
            · rename_i hh
              rw [if_pos hh]
              exact ⟨_, upd_same, z.1, z.2⟩
            · rename_i hh
              rw [if_neg hh]
              exact ⟨_, upd_same, z.1, z.2⟩
          · exact q.elim
        · exact q.elim
      | fr _ => exact q.elim
      | br _ => exact q.elim
    | tK ks vs =>
      cases rw with
      | dat kd =>
        have q : RS (enX X px) W G0 H0 tch σ D (match keyOf kd with
          | some q => if ks.length < 16777216 then
              some (.nx (ρ.set i (some (.own (if hasK ks q = true then .tK ks (dputV ks vs q d) else .tK (ks ++ [q]) (vs ++ [d])))))) else none
          | none => none) := q
        split at q
        · rename_i qk eq
          split at q
          · rename_i hl
            obtain ⟨kvs, q1, q2, q3⟩ := e3'
            subst q2
            have hb1 := keyOf_den eq (show Den (enX X px) G4 kd w from dw)
            subst hb1
            rw [List.length_map] at hl
            refine ⟨l, _, rfl, DPut.k q1 (by rw [line_eq]; exact hl), ?_⟩
            have z := dput_dens qk q3 d4
            refine q σ G4 _ (upd_gr (G1 := G4) g6 h0 e2') (r4.write ei e1 g6.i ?_) Off.refl
            split at z
            · rename_i hh
              rw [if_pos hh]
              exact ⟨_, upd_same, z.1, z.2⟩
            · rename_i hh
              rw [if_neg hh]
              exact ⟨_, upd_same, z.1, z.2⟩
          · exact q.elim
        · exact q.elim
      | fr _ => exact q.elim
      | br _ => exact q.elim
  · exact q.elim
theorem ddel_dens {κ : Type} [DecidableEq κ] {E : En} {G : Hp} (k : κ) : ∀ {kvs : List (κ × V)} {ds : List DE.D}, Dens E G ds (kvs.map (·.2)) → (dropK kvs k).map (·.1) = (kvs.map (·.1)).filter (fun k' => decide (k' ≠ k)) ∧ Dens E G (ddelV (kvs.map (·.1)) ds k) ((dropK kvs k).map (·.2))
  | [], ds, h => ⟨rfl, by
    cases ds with
    | nil => exact rfl
    | cons d ds => obtain ⟨v, r, e, _⟩ := h; cases e⟩
  | (k', v) :: kvs, ds, h => by
    cases ds with
    | nil => cases (show _ :: _ = [] from h)
    | cons d ds =>
      obtain ⟨v', r, e, h1, h2⟩ := h
      cases e
      obtain ⟨i1, i2⟩ := ddel_dens k h2
      by_cases hk : k' = k
      · subst hk
        have e1 : dropK ((k', v) :: kvs) k' = dropK kvs k' := by unfold dropK; rw [List.filter_cons_of_neg (by simp)]
        have e2 : ddelV (((k', v) :: kvs).map (·.1)) (d :: ds) k' = ddelV (kvs.map (·.1)) ds k' := by
          show (if k' = k' then _ else _) = _
          rw [if_pos rfl]
        rw [e1, e2]
        refine ⟨?_, i2⟩
        rw [List.map_cons, List.filter_cons_of_neg (by simp), i1]
      · have e1 : dropK ((k', v) :: kvs) k = (k', v) :: dropK kvs k := by unfold dropK; rw [List.filter_cons_of_pos (by simpa using hk)]
        have e2 : ddelV (((k', v) :: kvs).map (·.1)) (d :: ds) k = d :: ddelV (kvs.map (·.1)) ds k := by
          show (if k' = k then _ else _) = _
          rw [if_neg hk]
        rw [e1, e2]
        refine ⟨?_, v, _, rfl, h1, i2⟩
        rw [List.map_cons, List.map_cons, List.filter_cons_of_pos (by simpa using hk), i1]
theorem dget_dens {κ : Type} [DecidableEq κ] {E : En} {G : Hp} {k : κ} {d : DE.D} : ∀ {kvs : List (κ × V)} {ds : List DE.D}, Dens E G ds (kvs.map (·.2)) → dget (kvs.map (·.1)) ds k = some d → ∃ v, valV kvs k = some v
  | [], ds, h, e => by cases ds <;> cases e
  | (k', v) :: kvs, ds, h, e => by
    cases ds with
    | nil => cases e
    | cons d0 ds =>
      obtain ⟨v', r, e', h1, h2⟩ := h
      cases e'
      by_cases hk : k' = k
      · exact ⟨v, valV_pos hk⟩
      · have e : (if k' = k then some d0 else dget (kvs.map (·.1)) ds k) = some d := e
        rw [if_neg hk] at e
        obtain ⟨w, hw⟩ := dget_dens h2 e
        exact ⟨w, by rw [valV_neg hk]; exact hw⟩
theorem s_popD (c : Cs X px C W k hh) {i : Nat} {x : Str} {p1 ap cp : Pos} {ie : IE} (hi : i ∈ tch) (ht : nmB X.N X.env.scope i x = true) (hline : (ap.endLine == cp.line) = true) (hck : ckE X.N C hh X.env.scope ie e = true) (he : PE X e (cE (enX X px) W f)) :
    PS X (.Expr (.Call (.Attribute (.Name x p1) "pop" ap) [e] [] cp) pos) (cS (enX X px) W G0 H0 tch (fun ρ => match ρ[i]? with
      | some (some (.own (.tT ks vs))) => liftS (f ρ) ρ fun j => popX i ρ ks vs j
      | _ => none)) := by
  obtain ⟨h1, h2, h3, h4⟩ := nmB_of ht
  have s1 : starEach [e] X.env = (false, eval e X.env) :: starEach [] X.env := star_cons (ck_star hck)
  have few : ((backTo cp (starEach [e] X.env)).all (fun x => !x.1) && (backToKw cp (keywordEach [] X.env)).all (fun x => x.1.isSome) && decide (([e] : List Expr).length + ([] : List Keyword).length + (if ([] : List Keyword).isEmpty then 0 else 1) < 30)) = true := by
    rw [s1]
    rfl
  have hu : X.A.units + 1 < cLine := by have := c.toCc.units; omega
  refine ps_imp (ps_expr (pe_bm PySem.F.plainAttrs_dict PySem.F.slot_dict_pop PySem.F.type_dict_pop (L2.DX.mt_popT1 hu) (pe_var h1 h2 h3 h4) (pa_cons he pa_nil s1) rfl few hline s1 rfl) (swaps_no rfl)) fun D σ H h => ?_
  obtain ⟨ρ, G, g0, r, h⟩ := h
  dsimp only at h
  split at h
  · rename_i ks vs ei
    obtain ⟨l, e1, e2, e3⟩ := var_go r ei
    refine ⟨_, e1, ?_⟩
    obtain ⟨kvs0, q1, q2, q3⟩ := e3
    refine ⟨.inr (.inr (.inl ⟨rfl, .inr ⟨kvs0, q1⟩⟩)), ?_⟩
    refine cS_expr g0 r h fun v rv G1 H1 g1 g2 r1 dv q => ?_
    cases rv with
    | dat kd =>
      have q : RS (enX X px) W G0 H0 tch σ D (match tkeyOf kd with
        | some q => match dget ks vs q with
          | some _ => some (.nx (ρ.set i (some (.own (.tT (ks.filter fun k => decide (k ≠ q)) (ddelV ks vs q))))))
          | none => none
        | none => none) := q
      split at q
      · rename_i qk eq
        split at q
        · rename_i dd ed
          obtain ⟨l', e1', e2', kvs, q1', q2', q3'⟩ := var_go r1 ei
          rw [e1] at e1'
          cases e1'
          subst q2'
          have h0 : H0 l = none := r1.new i _ l ei e1
          obtain ⟨b, hb1, hb2⟩ := tkeyOf_den eq (show Den (enX X px) G1 kd v from dv)
          subst hb1
          obtain ⟨w, hw⟩ := dget_dens q3' ed
          have z := ddel_dens qk q3'
          refine ⟨l, kvs, qk, b, w, rfl, rfl, q1', g2.i _ _ hb2, hw, ?_⟩
          exact q σ G1 _ (upd_gr (G1 := G1) g2 h0 e2') (r1.write ei e1 g2.i ⟨_, upd_same, z.1, z.2⟩) Off.refl
        · exact q.elim
      · exact q.elim
    | fr _ => exact q.elim
    | br _ => exact q.elim
  · exact h.elim
theorem s_app (c : Cs X px C W k hh) {i : Nat} {x : Str} {p1 ap cp : Pos} {ie : IE} (hi : i ∈ tch) (ht : nmB X.N X.env.scope i x = true) (hline : (ap.endLine == cp.line) = true) (hck : ckE X.N C hh X.env.scope ie e = true) (he : PE X e (cE (enX X px) W f)) :
    PS X (.Expr (.Call (.Attribute (.Name x p1) "append" ap) [e] [] cp) pos) (cS (enX X px) W G0 H0 tch (fun ρ => match ρ[i]? with
      | some (some (.own (.l ds))) => liftS (f ρ) ρ fun r => match toD r with
        | some d => if ds.length < 16777216 then some (.nx (ρ.set i (some (.own (.l (ds ++ [d])))))) else none
        | none => none
      | _ => none)) := by
  obtain ⟨h1, h2, h3, h4⟩ := nmB_of ht
  have s1 : starEach [e] X.env = (false, eval e X.env) :: starEach [] X.env := star_cons (ck_star hck)
  have few : ((backTo cp (starEach [e] X.env)).all (fun x => !x.1) && (backToKw cp (keywordEach [] X.env)).all (fun x => x.1.isSome) && decide (([e] : List Expr).length + ([] : List Keyword).length + (if ([] : List Keyword).isEmpty then 0 else 1) < 30)) = true := by
    rw [s1]
    rfl
  refine ps_imp (ps_expr (pe_bm PySem.F.plainAttrs_list PySem.F.slot_list_append PySem.F.type_list_append (fun pins s σ H x xs v us Q I rx rs q => mt_append pins s σ H x xs v us Q I rx rs q) (pe_var h1 h2 h3 h4) (pa_cons he pa_nil s1) rfl few hline s1 rfl) (swaps_no rfl)) fun D σ H h => ?_
  obtain ⟨ρ, G, g0, r, h⟩ := h
  dsimp only at h
  split at h
  · rename_i ds ei
    obtain ⟨l, e1, e2, e3⟩ := var_go r ei
    obtain ⟨vs, q1, q2⟩ := e3
    refine ⟨_, e1, .inl ⟨rfl, vs, .inl (.inl q1)⟩, ?_⟩
    refine cS_expr g0 r h fun v rv G1 H1 g1 g2 r1 dv q => ?_
    split at q
    · rename_i d ed
      split at q
      · rename_i hl
        obtain ⟨G2, g3, x3, d3⟩ := toD_den ed g1 dv
        have g4 := g0.trans g3
        have r2 := r.mono g3
        obtain ⟨l', e1', e2', ws, q1', q2'⟩ := var_go r2 ei
        rw [e1] at e1'
        cases e1'
        have h0 : H0 l = none := r2.new i _ l ei e1
        refine ⟨l, ws, v, rfl, rfl, q1', by rw [line_eq, q2'.length]; exact hl, ?_⟩
        exact q σ G2 _ (upd_gr (G1 := G2) g4 h0 e2') (r2.write ei e1 g4.i ⟨_, upd_same, q2'.append (Dens.one d3)⟩) Off.refl
      · exact q.elim
    · exact q.elim
  · exact h.elim
theorem s_expr (he : PE X e (cE (enX X px) W f)) (hn : notComp e = true) : PS X (.Expr e pos) (cS (enX X px) W G0 H0 tch (fun ρ => liftS (f ρ) ρ fun _ => some (.nx ρ))) := by
  refine ps_imp (ps_expr he (swaps_no hn)) fun D σ H h => ?_
  obtain ⟨ρ, G, g0, r, h⟩ := h
  exact cS_expr g0 r h fun v rv G1 H1 g1 g2 r1 dv q => q σ G1 H1 g2 r1 Off.refl
theorem s_iff {t : Rho → Ans Bool} {a b : List Stmt} {ra rb : Rho → SR} {cx : Expr} (ht : PT X cx (cT (enX X px) W t)) (ha : PSs X a (cS (enX X px) W G0 H0 tch ra)) (hb : PSs X b (cS (enX X px) W G0 H0 tch rb)) :
    PS X (.If cx a b pos) (cS (enX X px) W G0 H0 tch (fun ρ => liftS (t ρ) ρ fun k => match k with
      | true => ra ρ
      | false => rb ρ)) := by
  refine ps_imp (ps_if ht ha hb) fun D σ H h => ?_
  obtain ⟨ρ, G, g0, r, h⟩ := h
  refine cS_test g0 r h fun kk G1 H1 g1 r1 q => ?_
  cases kk with
  | true => exact ⟨ρ, G1, g1, r1, q⟩
  | false => exact ⟨ρ, G1, g1, r1, q⟩
theorem s_ret (he : PE X e (cE (enX X px) W f)) : PS X (.Return (some e) pos) (cS (enX X px) W G0 H0 tch (fun ρ => liftS (f ρ) ρ fun r => match r with
    | .br _ => none
    | r => some (.rt r))) := by
  refine ps_imp (ps_ret he) fun D σ H h => ?_
  obtain ⟨ρ, G, g0, r, h⟩ := h
  refine cS_expr g0 r h fun v rv G1 H1 g1 g2 r1 dv q => ?_
  cases rv with
  | dat d => exact q v G1 H1 g2 (dv.back g0.h) rfl
  | fr o => exact q v G1 H1 g2 (dv.back g0.h) rfl
  | br o => exact q.elim
theorem s_retV {i : Nat} {x : Str} {p : Pos} (ht : nmB X.N X.env.scope i x = true) : PS X (.Return (some (.Name x p)) pos) (cS (enX X px) W G0 H0 tch (fun ρ => match ρ[i]? with
    | some (some (.dat d)) => some (.rt (.dat d))
    | some (some (.own o)) => some (.rt (.fr o))
    | _ => none)) := by
  obtain ⟨h1, h2, h3, h4⟩ := nmB_of ht
  refine ps_imp (ps_ret (pe_var h1 h2 h3 h4)) fun D σ H h => ?_
  obtain ⟨ρ, G, g0, r, h⟩ := h
  dsimp only at h
  split at h
  · rename_i d ei
    obtain ⟨v, e1, dv⟩ := r.at_ _ _ ei
    exact ⟨v, e1, h v G H g0 dv rfl⟩
  · rename_i o ei
    obtain ⟨l, e1, e2, e3⟩ := var_go r ei
    exact ⟨_, e1, h _ G H g0 ⟨l, rfl, r.new i _ l ei e1, e2, e3⟩ rfl⟩
  · exact h.elim
theorem s_retN : PS X (.Return none pos) (cS (enX X px) W G0 H0 tch (fun _ => some (.rt (.dat .non)))) := ps_imp ps_retN fun D σ H h => by
  obtain ⟨ρ, G, g0, r, h⟩ := h
  exact h _ G H g0 rfl rfl
theorem s_brk : PS X (.Break pos) (cS (enX X px) W G0 H0 tch (fun ρ => some (.bk ρ))) := ps_imp ps_break fun D σ H h => by
  obtain ⟨ρ, G, g0, r, h⟩ := h
  exact h σ G H g0 r Off.refl
theorem s_cnt : PS X (.Continue pos) (cS (enX X px) W G0 H0 tch (fun ρ => some (.ct ρ))) := ps_imp ps_continue fun D σ H h => by
  obtain ⟨ρ, G, g0, r, h⟩ := h
  exact h σ G H g0 r Off.refl
theorem s_pas : PS X (.Pass pos) (cS (enX X px) W G0 H0 tch (fun ρ => some (.nx ρ))) := ps_imp ps_pass fun D σ H h => by
  obtain ⟨ρ, G, g0, r, h⟩ := h
  exact h σ G H g0 r Off.refl
theorem ss_nil : PSs X [] (cS (enX X px) W G0 H0 tch (fun ρ => some (.nx ρ))) := pss_imp pss_nil fun D σ H h => by
  obtain ⟨ρ, G, g0, r, h⟩ := h
  exact h σ G H g0 r Off.refl
theorem ss_cons {st : Stmt} {rest : List Stmt} {a b : Rho → SR} (ha : PS X st (cS (enX X px) W G0 H0 tch a)) (hb : PSs X rest (cS (enX X px) W G0 H0 tch b)) :
    PSs X (st :: rest) (cS (enX X px) W G0 H0 tch (fun ρ => match a ρ with
      | some (.nx ρ') => b ρ'
      | o => o)) := by
  refine pss_imp (pss_cons ha hb) fun D σ H h => ?_
  obtain ⟨ρ, G, g0, r, h⟩ := h
  refine ⟨ρ, G, g0, r, ?_⟩
  dsimp only at h
  cases q : a ρ with
  | none => rw [q] at h; exact h
  | some y =>
    rw [q] at h
    cases y with
    | nx ρ' => exact fun σ' G' H' g' r' o => ⟨ρ', G', g', r', h.off o⟩
    | bk ρ' => exact h
    | ct ρ' => exact h
    | rt r => exact h
    | er e ρ' => exact h
theorem ss_frz {i : Nat} {rest : List Stmt} {b : Rho → SR} (hb : PSs X rest (cS (enX X px) W G0 H0 tch b)) : PSs X rest (cS (enX X px) W G0 H0 tch (fun ρ => match ρ[i]? with
    | some (some (.own o)) => b (ρ.set i (some (.dat o.d)))
    | _ => b ρ)) := by
  refine pss_imp hb fun D σ H h => ?_
  obtain ⟨ρ, G, g0, r, h⟩ := h
  dsimp only at h
  split at h
  · rename_i o ei
    obtain ⟨G', k1, k2, k3, k4⟩ := r.frz g0.i ei
    exact ⟨_, G', ⟨g0.g.trans k1, g0.h, k2, fun b q1 q2 => k3 b (g0.n b q1 q2) q2.ne⟩, k4, h⟩
  · exact ⟨ρ, G, g0, r, h⟩
theorem rep_kil {E : En} {B G H : Hp} {σ : L2.St} : ∀ {is : List Nat} {ρ : Rho}, Rep E B G H σ ρ → Rep E B G H σ (kilR is ρ)
  | [], _, r => r
  | i :: is, ρ, r => by
    refine rep_kil (is := is) ?_
    by_cases hi : i < σ.length
    · have q := r.setN (i := i) (w := σ[i])
      rw [List.set_getElem_self] at q
      exact q
    · have e : ρ.set i none = ρ := List.set_eq_of_length_le (by rw [← r.len]; omega)
      rw [e]
      exact r
theorem ss_kil {is : List Nat} {rest : List Stmt} {b : Rho → SR} (hb : PSs X rest (cS (enX X px) W G0 H0 tch b)) : PSs X rest (cS (enX X px) W G0 H0 tch (fun ρ => b (kilR is ρ))) := by
  refine pss_imp hb fun D σ H h => ?_
  obtain ⟨ρ, G, g0, r, h⟩ := h
  exact ⟨_, G, g0, rep_kil r, h⟩
end
end DE

set_option Elab.async false
set_option linter.all false
set_option maxRecDepth 100000
set_option maxHeartbeats 4000000
/-! DE8b: loops. -/
namespace DE
open PySem PySem.Spec PyProof.Rows L2

/-! ### what a body leaves alone -/
def soR : SO → Option Rho
  | .nx ρ => some ρ
  | .bk ρ => some ρ
  | .ct ρ => some ρ
  | .er _ ρ => some ρ
  | .rt _ => none
def Same (t : List Nat) (ρ ρ' : Rho) : Prop := ∀ j, j ∉ t → ρ'[j]? = ρ[j]?
theorem Same.refl {t : List Nat} {ρ : Rho} : Same t ρ ρ := fun _ _ => rfl
theorem Same.trans {t : List Nat} {a b c : Rho} (h : Same t a b) (h' : Same t b c) : Same t a c := fun j hj => (h' j hj).trans (h j hj)
theorem Same.mono {t u : List Nat} {a b : Rho} (h : Same t a b) (s : ∀ i ∈ t, i ∈ u) : Same u a b := fun j hj => h j fun z => hj (s j z)
theorem Same.set {t : List Nat} {ρ : Rho} {i : Nat} {w : Option LV} (h : i ∈ t) : Same t ρ (ρ.set i w) := fun j hj => by
  rw [List.getElem?_set_ne (fun z => hj (by rw [← z]; exact h))]
def Keeps (t : List Nat) (ρ : Rho) (r : SR) : Prop := ∀ o ρ', r = some o → soR o = some ρ' → Same t ρ ρ'
theorem Keeps.mono {t u : List Nat} {ρ : Rho} {r : SR} (h : Keeps t ρ r) (s : ∀ i ∈ t, i ∈ u) : Keeps u ρ r := fun o ρ' e1 e2 => (h o ρ' e1 e2).mono s
theorem Keeps.pre {t : List Nat} {ρ ρ1 : Rho} {r : SR} (s : Same t ρ ρ1) (h : Keeps t ρ1 r) : Keeps t ρ r := fun o ρ' e1 e2 => s.trans (h o ρ' e1 e2)
theorem keeps_none {t : List Nat} {ρ : Rho} : Keeps t ρ none := fun o ρ' e => nomatch e
theorem keeps_nx {t : List Nat} {ρ ρ1 : Rho} (s : Same t ρ ρ1) : Keeps t ρ (some (.nx ρ1)) := fun o ρ' e1 e2 => by cases e1; cases e2; exact s
theorem keeps_bk {t : List Nat} {ρ ρ1 : Rho} (s : Same t ρ ρ1) : Keeps t ρ (some (.bk ρ1)) := fun o ρ' e1 e2 => by cases e1; cases e2; exact s
theorem keeps_ct {t : List Nat} {ρ ρ1 : Rho} (s : Same t ρ ρ1) : Keeps t ρ (some (.ct ρ1)) := fun o ρ' e1 e2 => by cases e1; cases e2; exact s
theorem keeps_er {t : List Nat} {ρ ρ1 : Rho} {e : Er} (s : Same t ρ ρ1) : Keeps t ρ (some (.er e ρ1)) := fun o ρ' e1 e2 => by cases e1; cases e2; exact s
theorem keeps_rt {t : List Nat} {ρ : Rho} {r : RV} : Keeps t ρ (some (.rt r)) := fun o ρ' e1 e2 => by cases e1; cases e2
theorem keeps_lift {α : Type} {t : List Nat} {ρ : Rho} {x : Ans α} {k : α → SR} (h : ∀ a, Keeps t ρ (k a)) : Keeps t ρ (liftS x ρ k) := by
  cases x with
  | none => exact keeps_none
  | some y =>
    cases y with
    | error e => exact keeps_er Same.refl
    | ok a => exact h a
theorem same_setT {t : List Nat} : ∀ {is : List Nat} {ds : List D} {ρ ρ' : Rho}, setT is ds ρ = some ρ' → (∀ i ∈ is, i ∈ t) → Same t ρ ρ'
  | [], [], _, _, e, _ => by cases e; exact Same.refl
  | [], _ :: _, _, _, e, _ => nomatch e
  | _ :: _, [], _, _, e, _ => nomatch e
  | i :: is, d :: ds, ρ, ρ', e, h => (Same.set (h i List.mem_cons_self)).trans (same_setT (show setT is ds _ = some ρ' from e) fun j hj => h j (List.mem_cons_of_mem _ hj))
theorem same_setG {t : List Nat} {g : Tg} {d : D} {ρ ρ' : Rho} (e : setG g d ρ = some ρ') (h : ∀ i ∈ g.slots, i ∈ t) : Same t ρ ρ' := by
  cases g with
  | n i => cases e; exact Same.set (h i (List.mem_singleton_self i))
  | t is =>
    cases d with
    | tup ds => exact same_setT e h
    | _ => cases e
theorem keeps_for {t : List Nat} {step : D → Rho → SR} (h : ∀ d ρ, Keeps t ρ (step d ρ)) : ∀ ds ρ, Keeps t ρ (forL step ds ρ)
  | [], ρ => keeps_nx Same.refl
  | d :: ds, ρ => by
    unfold forL
    have hd := h d ρ
    split
    · rename_i ρ' e; exact (keeps_for h ds ρ').pre (hd _ _ e rfl)
    · rename_i ρ' e; exact (keeps_for h ds ρ').pre (hd _ _ e rfl)
    · rename_i ρ' e; exact keeps_nx (hd _ _ e rfl)
    · exact keeps_rt
    · rename_i e' ρ' e; exact keeps_er (hd _ _ e rfl)
    · exact keeps_none
theorem keeps_while {t : List Nat} {c : Rho → Ans Bool} {b : Rho → SR} (h : ∀ ρ, Keeps t ρ (b ρ)) : ∀ n ρ, Keeps t ρ (whileL c b n ρ)
  | 0, ρ => keeps_none
  | n + 1, ρ => by
    unfold whileL
    refine keeps_lift fun k => ?_
    cases k with
    | false => exact keeps_nx Same.refl
    | true =>
      have hd := h ρ
      show Keeps t ρ (match b ρ with
        | some (.nx ρ') => whileL c b n ρ'
        | some (.ct ρ') => whileL c b n ρ'
        | some (.bk ρ') => some (.nx ρ')
        | some (.rt r) => some (.rt r)
        | some (.er e ρ') => some (.er e ρ')
        | none => none)
      split
      · rename_i ρ' e; exact (keeps_while h n ρ').pre (hd _ _ e rfl)
      · rename_i ρ' e; exact (keeps_while h n ρ').pre (hd _ _ e rfl)
      · rename_i ρ' e; exact keeps_nx (hd _ _ e rfl)
      · exact keeps_rt
      · rename_i e' ρ' e; exact keeps_er (hd _ _ e rfl)
      · exact keeps_none
theorem keeps_end {t : List Nat} {i : Nat} {ρ : Rho} {r : SR} (hi : i ∈ t) (h : Keeps t ρ r) : Keeps t ρ (endS i r) := by
  unfold endS
  split
  · rename_i ρ'
    split
    · exact keeps_nx ((h _ _ rfl rfl).trans (Same.set hi))
    · exact keeps_none
  · rename_i ρ'
    split
    · exact keeps_bk ((h _ _ rfl rfl).trans (Same.set hi))
    · exact keeps_none
  · rename_i ρ'
    split
    · exact keeps_ct ((h _ _ rfl rfl).trans (Same.set hi))
    · exact keeps_none
  · split
    · exact keeps_rt
    · exact keeps_none
  · exact keeps_none
theorem keeps_match {t : List Nat} {ρ : Rho} {r : SR} {k : Rho → SR} : Keeps t ρ r → (∀ ρ', Same t ρ ρ' → Keeps t ρ (k ρ')) → Keeps t ρ (match r with
    | some (.nx ρ') => k ρ'
    | o => o) := by
  intro h hk
  cases r with
  | none => exact h
  | some y =>
    cases y with
    | nx ρ' => exact hk ρ' (h _ _ rfl rfl)
    | _ => exact h
theorem keeps_putD {i : Nat} {ρ : Rho} {d : D} {o : OV} {j : RV} : Keeps [i] ρ (putD i ρ d o j) := by
  unfold putD
  split
  · split
    · split
      · exact keeps_nx (Same.set (List.mem_singleton_self i))
      · exact keeps_none
    · exact keeps_none
  · split
    · split
      · exact keeps_nx (Same.set (List.mem_singleton_self i))
      · exact keeps_none
    · exact keeps_none
  · exact keeps_none
theorem keeps_putX {i : Nat} {ρ : Rho} {d : D} {o : OV} {j : RV} : Keeps [i] ρ (putX i ρ d o j) := by
  unfold putX
  split
  · unfold putL
    split
    · split
      · exact keeps_nx (Same.set (List.mem_singleton_self i))
      · exact keeps_none
    · exact keeps_none
  · exact keeps_putD
theorem keeps_give {t : List Nat} {fn : Option Fn} {s : Option (Option LV)} {rs : Ans (List RV)} {ρ : Rho} : Keeps t ρ (giveS fn s rs ρ) := by
  unfold giveS
  split
  · refine keeps_lift fun rs => ?_
    unfold giveV
    split
    · split
      · split
        · exact keeps_rt
        · exact keeps_none
      · exact keeps_none
    · exact keeps_none
  · exact keeps_none
mutual
theorem keepsS : ∀ (s : IS) (C : Cfg) (ρ : Rho), Keeps (tchS s) ρ (runS C s ρ)
  | .asg i e, C, ρ => by
    rw [runS]
    refine keeps_lift fun r => ?_
    cases r with
    | dat d => exact keeps_nx (Same.set (List.mem_singleton_self i))
    | fr o => exact keeps_nx (Same.set (List.mem_singleton_self i))
    | br o => exact keeps_none
  | .asgT is e, C, ρ => by
    rw [runS]
    refine keeps_lift fun r => ?_
    split
    · split
      · rename_i e; exact keeps_nx (same_setT e fun i h => h)
      · exact keeps_none
    · exact keeps_none
  | .setL i k e, C, ρ => by
    rw [runS]
    refine keeps_lift fun r => ?_
    split
    · refine keeps_lift fun j => ?_
      exact keeps_putX
    · exact keeps_none
  | .setD i k e, C, ρ => by
    rw [runS]
    refine keeps_lift fun r => ?_
    split
    · refine keeps_lift fun j => ?_
      exact keeps_putD
    · exact keeps_none
  | .app i e, C, ρ => by
    rw [runS]
    split
    · refine keeps_lift fun r => ?_
      split
      · split
        · exact keeps_nx (Same.set (List.mem_singleton_self i))
        · exact keeps_none
      · exact keeps_none
    · exact keeps_none
  | .popD i e, C, ρ => by
    rw [runS]
    split
    · refine keeps_lift fun r => ?_
      unfold popX
      split
      · split
        · split
          · exact keeps_nx (Same.set (List.mem_singleton_self i))
          · exact keeps_none
        · exact keeps_none
      · exact keeps_none
    · exact keeps_none
  | .expr e, C, ρ => by
    rw [runS]
    exact keeps_lift fun r => keeps_nx Same.refl
  | .iff c a b, C, ρ => by
    rw [runS]
    refine keeps_lift fun k => ?_
    cases k with
    | true => exact (keepsB a C ρ).mono fun i h => List.mem_append_left _ h
    | false => exact (keepsB b C ρ).mono fun i h => List.mem_append_right _ h
  | .forr g src b, C, ρ => by
    rw [runS]
    refine keeps_lift fun ds => keeps_for (fun d ρ => ?_) ds ρ
    split
    · rename_i ρ' e
      exact ((keepsB b C ρ').mono fun i h => List.mem_append_right _ h).pre (same_setG e fun i h => List.mem_append_left _ h)
    · exact keeps_none
  | .whil c b, C, ρ => by
    rw [runS]
    exact keeps_while (fun ρ => keepsB b C ρ) C.fuel ρ
  | .ret e, C, ρ => by
    rw [runS]
    refine keeps_lift fun r => ?_
    cases r with
    | dat d => exact keeps_rt
    | fr o => exact keeps_rt
    | br o => exact keeps_none
  | .retV i, C, ρ => by
    rw [runS]
    split
    · exact keeps_rt
    · exact keeps_rt
    · exact keeps_none
  | .retN, C, ρ => by rw [runS]; exact keeps_rt
  | .retK pre j i as, C, ρ => by
    rw [runS]
    refine keeps_lift fun b => ?_
    cases b with
    | false => exact keeps_rt
    | true => exact keeps_give
  | .rais c as, C, ρ => by
    rw [runS]
    split
    · refine keeps_lift fun rs => ?_
      unfold erS
      split
      · split
        · exact keeps_er Same.refl
        · exact keeps_none
      · exact keeps_none
    · exact keeps_none
  | .tri b c i s, C, ρ => by
    rw [runS]
    have hb := (keepsB b C ρ).mono (u := tchS (.tri b c i s)) fun j h => List.mem_cons_of_mem _ (List.mem_append_left _ h)
    split
    · rename_i e ρ' er
      have h1 := hb _ _ er rfl
      split
      · refine keeps_end List.mem_cons_self ?_
        exact ((keepsB s C.hot _).mono fun j h => List.mem_cons_of_mem _ (List.mem_append_right _ h)).pre (h1.trans (Same.set List.mem_cons_self))
      · exact keeps_er h1
      · exact keeps_none
    · exact hb
  | .brk, C, ρ => by rw [runS]; exact keeps_bk Same.refl
  | .cnt, C, ρ => by rw [runS]; exact keeps_ct Same.refl
  | .pas, C, ρ => by rw [runS]; exact keeps_nx Same.refl
theorem keepsB : ∀ (b : IB) (C : Cfg) (ρ : Rho), Keeps (tchB b) ρ (runB C b ρ)
  | .nil, C, ρ => by rw [runB]; exact keeps_nx Same.refl
  | .cons s r, C, ρ => by
    rw [runB]
    exact keeps_match ((keepsS s C ρ).mono fun i h => List.mem_append_left _ h) fun ρ' sm => ((keepsB r C ρ').mono fun i h => List.mem_append_right _ h).pre sm
  | .frz i r, C, ρ => by
    rw [runB]
    split
    · exact ((keepsB r C _).mono fun j h => List.mem_cons_of_mem _ h).pre (Same.set List.mem_cons_self)
    · exact (keepsB r C ρ).mono fun j h => List.mem_cons_of_mem _ h
  | .kil is r, C, ρ => by
    rw [runB]
    refine ((keepsB r C _).mono fun j h => List.mem_append_right _ h).pre ?_
    have : ∀ (js : List Nat) (ρ : Rho), (∀ j ∈ js, j ∈ tchB (.kil is r)) → Same (tchB (.kil is r)) ρ (kilR js ρ) := by
      intro js
      induction js with
      | nil => exact fun _ _ => Same.refl
      | cons j js ih => exact fun ρ h => (Same.set (h j List.mem_cons_self)).trans (ih _ fun i hi => h i (List.mem_cons_of_mem _ hi))
    exact this is ρ fun j h => List.mem_append_left _ h
end
end DE

set_option Elab.async false
set_option linter.all false
set_option maxRecDepth 100000
set_option maxHeartbeats 4000000
/-! DE8c: for, while. -/
namespace DE
open PySem PySem.Spec PyProof.Rows L2
theorem gr_up {G0 H0 G1 H1 G' H' : Hp} (a : Gr G0 H0 G1 H1) (b : Gr G1 H0 G' H') : Gr G0 H0 G' H' := ⟨a.g.trans b.g, b.h, b.i, fun x q1 q2 => b.n x (a.n x q1 q2) q2⟩
theorem gr_down {G0 H0 G1 G' H' : Hp} (a : Ex G0 G1) (e : Ex G1 G') (b : Gr G0 H0 G' H') : Gr G1 H0 G' H' := ⟨e, b.h, b.i, fun x q1 q2 => b.n x (by
  cases h : G0 x with
  | none => rfl
  | some o => rw [a x o h] at q1; cases q1) q2⟩
/-- J walks ds as long as the slots js alone are touched -/
def Wk (E : En) (H0 : Hp) (J : It) (ds : List D) (G1 : Hp) (js : List Nat) (σ1 : L2.St) (ρ1 : Rho) : Prop := ∀ σ' ρ' G' H', Ex G1 G' → Ex G' H' → Rep E H0 G' H' σ' ρ' → Off js σ1 σ' → Same js ρ1 ρ' → ∃ xs, Dens E G' ds xs ∧ Sq J xs H'
def wF (E : En) (W : WX) (G0 H0 : Hp) (js : List Nat) (f : Rho → Ans (List D)) : TI := fun σ H R => ∃ ρ G, Gr G0 H0 G H ∧ Rep E H0 G H σ ρ ∧ QA E W σ G H (fun ds G1 H1 => ∀ J, Wk E H0 J ds G1 js σ ρ → R J H1) (f ρ)
section
variable {X : Cx} {px : Option (Addr × Addr × Addr)} {C : Cfg} {W : WX} {k : Nat} {hh : Bool} {G0 H0 : Hp} {tch js : List Nat} {e tg : Expr} {pos : Pos} {f : Rho → EvR}
theorem seqV_d {x : RV} {ds : List D} (e : seqV x = some ds) : x.d = .lst ds ∨ x.d = .tup ds := by
  unfold seqV at e
  split at e <;> first | (cases e; exact .inl rfl) | (cases e; exact .inr rfl) | cases e
theorem walk_d {E : En} {G : Hp} {d : D} {ds : List D} {v : V} (h : Den E G d v) (e : d = .lst ds ∨ d = .tup ds) : ∃ a xs, v = .ref a ∧ Dens E G ds xs ∧ (SqL E.K G a xs ∨ SqT E.K G a xs) := by
  rcases e with rfl | rfl
  · obtain ⟨a, vs, h1, h2, h3⟩ := h
    exact ⟨a, vs, h1, h3, .inl h2⟩
  · obtain ⟨a, vs, h1, h2, h3⟩ := h
    exact ⟨a, vs, h1, h3, .inr (.inl (.inl h2))⟩
theorem sqT_ex {K : PySem.W.Frag} {H H' : Hp} {a : Addr} {xs : List V} (e : Ex H H') (h : SqT K H a xs) : SqT K H' a xs := by
  rcases h with h | h
  · exact .inl (e.rd h)
  · exact .inr h
/-- data is walked -/
theorem wk_d {E : En} {H1 G1 : Hp} {x : RV} {ds : List D} {v : V} {σ : L2.St} {ρ : Rho} {R : It → Hp → Prop} (i : Ex G1 H1) (h : Den E G1 x.d v) (e : walkV x = some ds) (q : ∀ J, Wk E H0 J ds G1 js σ ρ → R J H1) :
    Wlk E.K v H1 R := by
  rcases walkV_or e with ⟨z, ex, ez⟩ | e
  · subst ex ez
    exact .inr ⟨z, h, q _ fun σ' ρ' G' H' x1 x2 _ _ _ => ⟨_, signs_dens, sq_s⟩⟩
  have e := seqV_d e
  refine .inl ?_
  obtain ⟨a, xs, e1, e2, e3⟩ := walk_d h e
  refine ⟨a, xs, e1, ?_⟩
  rcases e3 with e3 | e3
  · exact .inl ⟨i.sql e3, q _ fun σ' ρ' G' H' x1 x2 _ _ _ => ⟨xs, Dens.mono x1 _ _ e2, sq_l (x2.sql (x1.sql e3))⟩⟩
  · exact .inr ⟨sqT_ex i e3, q _ fun σ' ρ' G' H' x1 x2 _ _ _ => ⟨xs, Dens.mono x1 _ _ e2, sq_t (sqT_ex x2 (sqT_ex x1 e3))⟩⟩
theorem f_it {a : IE} (hv : ∀ j, a ≠ .var j) (ha : PE X e (cE (enX X px) W (evE C a))) : PI X tg e (wF (enX X px) W G0 H0 js (evFor C (.it a) js)) := by
  refine pi_imp (pi_seq ha) fun σ H R h => ?_
  obtain ⟨ρ, G, g0, r, h⟩ := h
  have ef : evFor C (.it a) js ρ = bindR (evE C a ρ) fun x => match isBr x with
    | false => optR (walkV x)
    | true => none := by
    unfold evFor
    cases a with
    | var j => exact absurd rfl (hv j)
    | _ => rfl
  rw [ef] at h
  refine ⟨H0, ρ, G, g0.i, r, h.bind0.imp fun x G1 H1 g1 q v dv => ?_⟩
  cases hb : isBr x with
  | true => rw [hb] at q; exact q.elim
  | false =>
    rw [hb] at q
    obtain ⟨ds, e1, q⟩ := q.opt
    obtain ⟨G2, g2, x2, d2⟩ := DenR.froze g1 dv (fun o z => by rw [z] at hb; cases hb)
    exact wk_d g2.i d2 e1 fun J w => q G2 H1 g2 J w
theorem f_var {j : Nat} {x : Str} {p : Pos} (ht : nmB X.N X.env.scope j x = true) : PI X tg (.Name x p) (wF (enX X px) W G0 H0 js (evFor C (.it (.var j)) js)) := by
  obtain ⟨h1, h2, h3, h4⟩ := nmB_of ht
  refine pi_imp (pi_seq (pe_var h1 h2 h3 h4)) fun σ H R h => ?_
  obtain ⟨ρ, G, g0, r, h⟩ := h
  have ef : evFor C (.it (.var j)) js ρ = bindR (evE C (.var j) ρ) fun x => match isBr x with
    | false => optR (walkV x)
    | true => match js.contains j with
      | false => optR (walkV x)
      | true => none := rfl
  rw [ef, evE] at h
  cases ej : ρ[j]? with
  | none => rw [ej] at h; exact h.elim
  | some w =>
    rw [ej] at h
    cases w with
    | none => exact h.elim
    | some lv =>
      obtain ⟨v, e1, dv⟩ := r.at_ _ _ ej
      cases lv with
      | dat d =>
        have h : QA (enX X px) W σ G H _ (optR (walkV (.dat d))) := h
        obtain ⟨ds, e2, q⟩ := h.opt
        exact ⟨v, e1, wk_d (x := .dat d) g0.i dv e2 (q G H (Gr.refl g0.i))⟩
      | own o =>
        have h : QA (enX X px) W σ G H _ (match js.contains j with
          | false => optR (walkV (.br o))
          | true => none) := h
        cases hc : js.contains j with
        | true => rw [hc] at h; exact h.elim
        | false =>
          rw [hc] at h
          obtain ⟨ds, e2, q⟩ := h.opt
          have hj : j ∉ js := fun z => by
            have := List.contains_iff_mem.mpr z
            rw [hc] at this
            cases this
          cases o with
          | l ds' =>
            cases e2
            obtain ⟨l, k1, k2, vs, k3, k4⟩ := dv
            subst k1
            refine ⟨_, e1, .inl ⟨l, vs, rfl, .inl ⟨.inl (.inl k3), q G H (Gr.refl g0.i) _ fun σ' ρ' G' H' x1 x2 r' o' s' => ?_⟩⟩⟩
            obtain ⟨l', m1, m2, ws, m3, m4⟩ := var_go r' ((s' j hj).trans ej)
            have m5 := (o'.2 j hj).trans e1
            rw [m1] at m5
            cases m5
            exact ⟨ws, m4, sq_l (.inl (.inl m3))⟩
          | tT ks vs => cases e2
          | tK ks vs => cases e2
theorem f_range {as : IA} (P : PI X tg e (iX (enX X px) W (evSrc C (.range as)) fun _ _ _ => True)) : PI X tg e (wF (enX X px) W G0 H0 js (evFor C (.range as) js)) := by
  refine pi_imp P fun σ H R h => ?_
  obtain ⟨ρ, G, g0, r, h⟩ := h
  refine ⟨H0, ρ, G, g0.i, r, (show QA _ _ _ _ _ _ (evSrc C (.range as) ρ) from h).imp fun ds G1 H1 g1 q J xs dx sq => q J fun σ' ρ' G' H' x1 _ _ _ _ => ⟨xs, Dens.mono x1 _ _ dx, sq H' trivial⟩⟩
theorem f_rev {as : IA} (P : PI X tg e (iX (enX X px) W (evSrc C (.rev as)) fun G1 _ H' => ∃ G', Ex G1 G' ∧ Ex G' H')) : PI X tg e (wF (enX X px) W G0 H0 js (evFor C (.rev as) js)) := by
  refine pi_imp P fun σ H R h => ?_
  obtain ⟨ρ, G, g0, r, h⟩ := h
  refine ⟨H0, ρ, G, g0.i, r, (show QA _ _ _ _ _ _ (evSrc C (.rev as) ρ) from h).imp fun ds G1 H1 g1 q J xs dx sq => q J fun σ' ρ' G' H' x1 x2 _ _ _ => ⟨xs, Dens.mono x1 _ _ dx, sq H' ⟨G', x1, x2⟩⟩⟩
theorem f_revR {a : IE} (P : PI X tg e (iX (enX X px) W (evSrc C (.revR a)) fun _ _ _ => True)) : PI X tg e (wF (enX X px) W G0 H0 js (evFor C (.revR a) js)) := by
  refine pi_imp P fun σ H R h => ?_
  obtain ⟨ρ, G, g0, r, h⟩ := h
  refine ⟨H0, ρ, G, g0.i, r, (show QA _ _ _ _ _ _ (evSrc C (.revR a) ρ) from h).imp fun ds G1 H1 g1 q J xs dx sq => q J fun σ' ρ' G' H' x1 _ _ _ _ => ⟨xs, Dens.mono x1 _ _ dx, sq H' trivial⟩⟩
/-- a loop's turn -/
def stepL (g : Tg) (rb : Rho → SR) (d : D) (ρ : Rho) : SR :=
  match setG g d ρ with
  | some ρ' => rb ρ'
  | none => none
theorem s_for (c : Cs X px C W k hh) (hcalm : X.calm = true) {g : Tg} {fd : Rho → Ans (List D)} {body : List Stmt} {rb : Rho → SR} (hjs : ∀ i ∈ js, i ∈ tch) (hg : ∀ i ∈ g.slots, i ∈ js) (hk : ∀ ρ, Keeps js ρ (rb ρ))
    (hi : PI X tg e (wF (enX X px) W G0 H0 js fd)) (ht : ckG X.N X.env.scope g tg = true) (hb : ∀ G1, PSs X body (cS (enX X px) W G1 H0 js rb)) (hs : ∀ x, foldedSetIterable e X.env x = pure x) :
    PS X (.For tg e body [] pos) (cS (enX X px) W G0 H0 tch (fun ρ => liftS (fd ρ) ρ fun ds => forL (stepL g rb) ds ρ)) := by
  have hB : PSs X body (fun D σ H => ∃ G1, cS (enX X px) W G1 H0 js rb D σ H) := ⟨fun pins s σ H D I ⟨G1, q⟩ => (hb G1).run pins s σ H D I q⟩
  refine ps_imp (ps_for c.own hcalm hi (pg_of (E := enX X px) c.nd hcalm c.sets rfl ht) hB hs) fun D σ H h => ?_
  obtain ⟨ρ, G, g0, r, h⟩ := h
  refine ⟨ρ, G, g0, r, (rs_expr g0 r h).imp fun ds G1 H1 g1 q J wk => ?_⟩
  have gg := g0.trans g1
  have r1 := r.mono g1
  refine ⟨fun i m σi Hi => m = ds.length - i ∧ i ≤ ds.length ∧ ∃ ρi Gi, Ex G1 Gi ∧ Gr G0 H0 Gi Hi ∧ Rep (enX X px) H0 Gi Hi σi ρi ∧ Off js σ σi ∧ Same js ρ ρi ∧ RS (enX X px) W G0 H0 tch σi D (forL (stepL g rb) (ds.drop i) ρi),
    ⟨ds.length, by omega, Nat.zero_le _, ρ, G1, Ex.refl _, gg, r1, Off.refl, Same.refl, by rw [List.drop_zero]; exact q⟩, ?_⟩
  rintro i m σi Hi ⟨hm, hi', ρi, Gi, x1, gi, ri, oi, si, qi⟩
  obtain ⟨xs, dx, sq⟩ := wk σi ρi Gi Hi x1 gi.i ri oi si
  have hlen : xs.length = ds.length := dx.length
  by_cases hlt : i < ds.length
  · refine .inr ⟨sq.go i (by omega), _, fun σ' H' p' => ⟨ds.length - (i + 1), by omega, p'⟩, fun x H' y => ?_⟩
    obtain ⟨e1, e2⟩ := sq.yld i x H' (by omega) y
    subst e1
    obtain ⟨d, ed, dd⟩ := dx.get' e2
    have edrop : ds.drop i = d :: ds.drop (i + 1) := by
      rw [List.drop_eq_getElem_cons hlt]
      congr 1
      rw [List.getElem?_eq_getElem hlt] at ed
      exact Option.some.inj ed
    rw [edrop] at qi
    unfold forL at qi
    cases eg : setG g d ρi with
    | none =>
      have es : stepL g rb d ρi = none := by unfold stepL; rw [eg]
      rw [es] at qi
      exact qi.elim
    | some ρ' =>
      have es : stepL g rb d ρi = rb ρ' := by unfold stepL; rw [eg]
      rw [es] at qi
      refine ⟨H0, ρi, Gi, d, ρ', gi.i, ri, dd, eg, fun σ2 r2 off2 => ⟨G1, ρ', Gi, gr_down gg.g x1 gi, r2, ?_⟩⟩
      have off2' : Off js σi σ2 := off2.mono hg
      have oo : ∀ {σ' : L2.St}, Off js σ2 σ' → Off js σi σ' := fun o => off2'.same o
      have s2 : Same js ρi ρ' := same_setG eg hg
      have kp := hk ρ'
      cases eb : rb ρ' with
      | none => rw [eb] at qi; exact qi.elim
      | some y =>
        rw [eb] at qi
        cases y with
        | nx ρ'' => exact fun σ' G' H' a b o => ⟨rfl, hlt, ρ'', G', a.g, gr_up gg a, b, oi.same (oo o), (si.trans s2).trans (kp _ _ eb rfl), RS.off (show RS _ _ _ _ _ _ _ (forL (stepL g rb) (ds.drop (i + 1)) ρ'') from qi) ((oo o).mono hjs)⟩
        | ct ρ'' => exact fun σ' G' H' a b o => ⟨rfl, hlt, ρ'', G', a.g, gr_up gg a, b, oi.same (oo o), (si.trans s2).trans (kp _ _ eb rfl), RS.off (show RS _ _ _ _ _ _ _ (forL (stepL g rb) (ds.drop (i + 1)) ρ'') from qi) ((oo o).mono hjs)⟩
        | bk ρ'' => exact fun σ' G' H' a b o => (show RS _ _ _ _ _ _ _ (some (.nx ρ'')) from qi) σ' G' H' (gr_up gg a) b ((oo o).mono hjs)
        | rt rv => exact fun v G' H' a b nb => (show RS _ _ _ _ _ _ _ (some (.rt rv)) from qi) v G' H' (gr_up gg a) b nb
        | er ee ρ'' => exact fun cls d σ' G' H' a b o dx => (show RS _ _ _ _ _ _ _ (some (.er ee ρ'')) from qi) cls d σ' G' H' (gr_up gg a) b ((oo o).mono hjs) dx
  · have ei : i = ds.length := by omega
    subst ei
    rw [List.drop_eq_nil_of_le (Nat.le_refl _)] at qi
    exact .inl ⟨sq.stop _ (by omega), qi σi Gi Hi gi ri Off.refl⟩
theorem s_while (c : Cs X px C W k hh) {t : Rho → Ans Bool} {body : List Stmt} {rb : Rho → SR} {n : Nat} (ht : PT X e (cT (enX X px) W t)) (hb : PSs X body (cS (enX X px) W G0 H0 tch rb)) :
    PS X (.While e body [] pos) (cS (enX X px) W G0 H0 tch (fun ρ => whileL t rb n ρ)) := by
  refine ps_imp (ps_while c.own ht hb) fun D σ H h => ?_
  obtain ⟨ρ, G, g0, r, h⟩ := h
  refine ⟨fun m σi Hi => ∃ ρi Gi, Gr G0 H0 Gi Hi ∧ Rep (enX X px) H0 Gi Hi σi ρi ∧ RS (enX X px) W G0 H0 tch σi D (whileL t rb m ρi), ⟨n, ρ, G, g0, r, h⟩, ?_⟩
  rintro m σi Hi ⟨ρi, Gi, gi, ri, qi⟩
  cases m with
  | zero => exact qi.elim
  | succ m =>
    unfold whileL at qi
    refine cS_test gi ri qi fun kk G1 H1 g1 r1 q => ?_
    cases kk with
    | false => exact q σi G1 H1 g1 r1 Off.refl
    | true =>
      refine ⟨_, fun σ' H' p' => ⟨m, Nat.lt_succ_self m, p'⟩, ρi, G1, g1, r1, ?_⟩
      have q : RS (enX X px) W G0 H0 tch σi D (match rb ρi with
        | some (.nx ρ') => whileL t rb m ρ'
        | some (.ct ρ') => whileL t rb m ρ'
        | some (.bk ρ') => some (.nx ρ')
        | some (.rt r) => some (.rt r)
        | some (.er e ρ') => some (.er e ρ')
        | none => none) := q
      cases eb : rb ρi with
      | none => rw [eb] at q; exact q.elim
      | some y =>
        rw [eb] at q
        cases y with
        | nx ρ'' => exact fun σ' G' H' a b o => ⟨ρ'', G', a, b, RS.off (show RS _ _ _ _ _ _ _ (whileL t rb m ρ'') from q) o⟩
        | ct ρ'' => exact fun σ' G' H' a b o => ⟨ρ'', G', a, b, RS.off (show RS _ _ _ _ _ _ _ (whileL t rb m ρ'') from q) o⟩
        | bk ρ'' => exact q
        | rt rv => exact q
        | er ee ρ'' => exact q
end
end DE

set_option Elab.async false
set_option linter.all false
set_option maxRecDepth 100000
set_option maxHeartbeats 4000000
/-! DE8d: the text's own error classes. -/
namespace DE
open PySem PySem.Spec PyProof.Rows L2

/-- what the making of an error at a leaves -/
def Made (H H3 : Hp) (a C dx : Addr) (fs : List (Str × V)) : Prop := H3 a = some (exo a C (some dx)) ∧ H3 dx = some (exd dx fs) ∧ dx ≠ a ∧ H dx = none ∧ ∀ b, b ≠ a → b ≠ dx → H3 b = H b
/-- TableError.__init__(self, text, word) -/
def spI0 (K : PySem.W.Frag) : Sp := fun vs H Q _ => ∃ (a C : Addr) (t w : Str), vs = [.ref a, .str t, .str w] ∧ OexC K C ∧ PySem.W.findIn K (.ref C) "word" = some none ∧ H a = some (exo a C none) ∧ ∀ dx H3, Made H H3 a C dx [(("word" : Str), V.str w)] → Q .non H3
/-- the others: their fields by the arguments -/
def spIn (C : Addr) (fields : List Str) (w : Str) : Sp := fun vs H Q _ => ∃ (a : Addr) (xs : List V), vs = .ref a :: xs ∧ xs.length = fields.length ∧ H a = some (exo a C none) ∧ ∀ dx H3, Made H H3 a C dx ((fields.zip xs).reverse ++ [(("word" : Str), V.str w)]) → Q .non H3

/-! ### the looks -/
def isI0 (sc : Scope) : List Stmt → Bool
  | [.Expr (.Call (.Attribute (.Name v p1) i p2) [.Name s p3, .Name t p4] [] p5) p6, .Assign [.Attribute (.Name s2 p7) w p8] (.Name w2 p9) p10] =>
    (p2.endLine == p5.line) && decide (v = "ValueError") && glB sc v && decide (i = "__init__") && nmB ["self", "text", "word"] sc 0 s && nmB ["self", "text", "word"] sc 1 t && nmB ["self", "text", "word"] sc 0 s2 && decide (w = "word") && nmB ["self", "text", "word"] sc 2 w2
  | _ => false
def isFl (N : List Str) (sc : Scope) : Nat → List Str → List Stmt → Bool
  | _, [], [] => true
  | i, f :: fs, .Assign [.Attribute (.Name s _) g _] (.Name x _) _ :: r => nmB N sc 0 s && decide (f = g) && nmB N sc i x && isFl N sc (i + 1) fs r
  | _, _, _ => false
def isIn (N : List Str) (sc : Scope) (base word : Str) (fields : List Str) : List Stmt → Bool
  | .Expr (.Call (.Attribute (.Name v p1) i p2) [.Name s p3, .Constant (.str t) k1 p4, .Constant (.str w) k2 p7] [] p5) p6 :: r =>
    (p2.endLine == p5.line) && decide (v = base) && glB sc v && decide (i = "__init__") && nmB N sc 0 s && decide (w = word) && isFl N sc 1 fields r
  | _ => false

section
variable {X : Cx} {o e : Expr} {es : List Expr} {ta : TA} {f : Str} {p p' p1 p2 pos : Pos}
/-- what a class must say, that its __init__ is called as Base.__init__(self, ..) -/
structure BaseI (K : PySem.W.Frag) (T fI : Addr) : Prop where
  sp : PySem.W.specialIn K (.ref T) "__getattribute__" = some (some (.builtin "type.__getattribute__"))
  rd : PySem.W.readsIn K T (.type "type") = true
  fc : PySem.W.findCls K (.ref T) (.type "type") "__init__" = some (.val (.ref fI))
  kp : PySem.W.keepIn K (.ref fI) = true
theorem pe_binit {CX : CXT} {k : Nat} {fd : FuncData} {ps : List Str} {sp : Sp} {T fI : Addr} {nm : Str} {pl : Sem Bool} (F : FnOk X.prog X.w X.K X.mg X.base CX k fI fd ps sp) (hr : Room k X.A) (hx : Passes CX X (fun _ _ _ => False)) (hb : Binds X.K fd ps []) (B : BaseI X.K T fI)
    (hg : Gl X nm) (hdb : (nm == ("__debug__" : Str)) = false) (hm : X.mg nm = some (.ref T)) (ha : PA X (e :: es) ta)
    (hc : eval (.Call (.Attribute (.Name nm p1) "__init__" p2) (e :: es) [] pos) X.env = (do
      let ov ← eval (.Name nm p1) X.env
      standAt p2.atName
      let (f, first) ← holding [ov] (getMethod ov "__init__" pl)
      callWith pos f first (backTo pos (starEach (e :: es) X.env)) (backToKw pos (keywordEach [] X.env))) := by rfl)
    (he : starEach (e :: es) X.env = (false, eval e X.env) :: starEach es X.env := by rfl) (hpl : (backTo pos (starEach es X.env)).any (·.1) = false := by rfl) :
    PE X (.Call (.Attribute (.Name nm p1) "__init__" p2) (e :: es) [] pos) (fun σ H Q => ta σ H fun vs H1 => sp vs H1 Q (fun _ _ _ => False)) := by
  refine ⟨fun pins s σ H Q I h => ?_⟩
  refine PySem.W.methodCall_KW (ld_glob I hg hm ?_ hdb) hc
  refine PySem.W.method_cls I.kIn B.sp (PySem.W.cls_value I.kIn B.rd B.fc rfl ?_)
  show wpAny _ _ (callWith pos (Value.ref fI) [] (backTo pos (starEach (e :: es) X.env)) []) _ _ _
  refine PySem.W.callWith_K (first := []) (h₀ := X.base) I.ok.mod.kin B.kp (thn (ha.run pos pins _ σ H _ (I.tok _) h) fun us s1 ⟨vs, H1, I1, r, q⟩ => ⟨I1.kIn, ?_⟩) he hpl
  exact run_fn (dvs := []) (us := us) (vs := vs) F hr hb .nil hx I1 r (by rw [List.append_nil]; exact q)
theorem mcall {o : Expr} {name : Str} {apos pos : Pos} {args : List Expr} {env : Env} (hb : attributeBase o name env (eval o env) = eval o env) (hl : (apos.endLine == pos.line) = true) (hf : methodCallForm (args.length + ([] : List Keyword).length) (backTo pos (starEach args env)) (backToKw pos (keywordEach [] env)) = true) :
    eval (.Call (.Attribute o name apos) args [] pos) env = (do
      let ov ← eval o env
      standAt apos.atName
      let (f, first) ← holding [ov] (getMethod ov name (do return (← importBound o env).getD true))
      callWith pos f first (backTo pos (starEach args env)) (backToKw pos (keywordEach [] env))) := by
  rw [PySem.arm_eval_Call, hb]
  unfold methodCall methodCallPos calleeOf
  simp only [hf, hl, if_true, Bool.or_true, pure_bind]
/-- the fields' stores -/
def tFl (K : PySem.W.Frag) : Nat → List Str → TS
  | _, [] => tNext
  | i, f :: fs => tSeq (tOst K f (tVar 0) (tVar i)) (tFl K (i + 1) fs)
theorem pss_fl : ∀ {i : Nat} {fs : List Str} {st : List Stmt}, isFl X.N X.env.scope i fs st = true → PSs X st (tFl X.K i fs)
  | _, [], [], _ => pss_nil
  | _, [], _ :: _, h => by simp [isFl] at h
  | _, _ :: _, [], h => by simp [isFl] at h
  | i, f :: fs, st :: r, h => by
    cases st with
    | Assign ts v pos =>
      cases ts with
      | nil => simp [isFl] at h
      | cons t0 ts =>
        cases ts with
        | cons _ _ => simp [isFl] at h
        | nil =>
          cases t0 with
          | Attribute t1 g p2 =>
            cases t1 with
            | Name s p1 =>
              cases v with
              | Name x p3 =>
                simp only [isFl, Bool.and_eq_true, decide_eq_true_eq] at h
                obtain ⟨⟨⟨h1, h2⟩, h3⟩, h4⟩ := h
                subst h2
                obtain ⟨a1, a2, a3, a4⟩ := nmB_of h1
                obtain ⟨b1, b2, b3, b4⟩ := nmB_of h3
                exact pss_cons (ps_ost (pe_var a1 a2 a3 a4) (pe_var b1 b2 b3 b4)) (pss_fl h4)
              | _ => simp [isFl] at h
            | _ => simp [isFl] at h
          | _ => simp [isFl] at h
    | _ => simp [isFl] at h
theorem fl_go {K : PySem.W.Frag} {a C dx : Addr} {H : Hp} (T : OexC K C) (hne : dx ≠ a) : ∀ {fields : List Str} {i : Nat} {xs : List V} {fs : List (Str × V)} {H2 : Hp} {D : Ends} {σ : L2.St}, xs.length = fields.length → (∀ f ∈ fields, PySem.W.findIn K (.ref C) f = some none) → fs.length + fields.length ≤ 900 →
    σ[0]? = some (some (.ref a)) → (∀ n x, xs[n]? = some x → σ[i + n]? = some (some x)) → H2 a = some (exo a C (some dx)) → H2 dx = some (exd dx fs) → (∀ b, b ≠ a → b ≠ dx → H2 b = H b) →
    (∀ H3, H3 a = some (exo a C (some dx)) → H3 dx = some (exd dx ((fields.zip xs).reverse ++ fs)) → (∀ b, b ≠ a → b ≠ dx → H3 b = H b) → D.nx σ H3) → tFl K i fields D σ H2
  | [], i, xs, fs, H2, D, σ, _, _, _, _, _, h1, h2, h3, q => q H2 h1 (by simpa using h2) h3
  | f :: fields, i, [], fs, H2, D, σ, hl, _, _, _, _, _, _, _, _ => by simp at hl
  | f :: fields, i, x :: xs, fs, H2, D, σ, hl, hf, hn, h0, hx, h1, h2, h3, q => by
    show tOst K f (tVar 0) (tVar i) { D with nx := tFl K (i + 1) fields D } σ H2
    refine ⟨x, by simpa using hx 0 x rfl, _, h0, a, C, rfl, T, hf f List.mem_cons_self, .inr ⟨dx, fs, h1, h2, by simp at hn; omega, ?_⟩⟩
    refine fl_go T hne (xs := xs) (by simpa using hl) (fun g hg => hf g (List.mem_cons_of_mem _ hg)) (by simp at hn ⊢; omega) h0 (fun n y hy => ?_) (by rw [upd_ne (Ne.symm hne)]; exact h1) upd_same (fun b b1 b2 => by rw [upd_ne b2]; exact h3 b b1 b2) fun H3 k1 k2 k3 => q H3 k1 ?_ k3
    · have := hx (n + 1) y (by simpa using hy)
      rw [show i + 1 + n = i + (n + 1) by omega]
      exact this
    · rw [k2]
      simp
end

/-! ### the makers -/
section
variable {P : Program} {w : World} {K : PySem.W.Frag} {mg : Str → Option Value} {base : Heap} {f : Addr} {name qual : Str} {params : Arguments} {body : List Stmt} {scope : Scope} {dV kV doc pm cdv ct oc : Value} {an od : Option Addr} {osl : Array (Option Value)}
theorem passes_no {X : Cx} {W : WX} (tk : L2N.Takes X W) : Passes (L2N.CX X.prog X.w) X (fun _ _ _ => False) := L2N.passes_call tk fun _ _ _ _ h => h.elim
theorem takes_cx {k : Nat} {N : List Str} {A : Around} {outer : List Env} {s : Shared} {H : Hp} {E : XK} : L2N.Takes (cxOf (L2N.CX P w) P w K mg base N qual scope f cdv A outer s H E) (fun cls d _ H' => E cls d H') := L2N.takes_of (X := cxOf (L2N.CX P w) P w K mg base N qual scope f cdv A outer s H E) (E := E) (E₁ := fun e' s'' => L2N.CX P w outer H s E e' s'') rfl rfl rfl rfl
/-- TableError's -/
theorem init0 (lk : K.lookup f = some ⟨oc, od, .func (PySem.W.fnOf name qual params body scope dV kV doc pm an cdv ct), osl⟩) (hcd : PySem.W.codeIn K cdv qual = true) (S : FnScope ["self", "text", "word"] ["self", "text", "word"] scope) (hB : isI0 scope body = true)
    (hm : mg "ValueError" = none) (vV : PySem.W.findCls K (.type "ValueError") (.type "type") "__init__" = some (.val (.builtin "ValueError.__init__"))) :
    FnOk P w K mg base (L2N.CX P w) 1 f (PySem.W.fnOf name qual params body scope dV kV doc pm an cdv ct) ["self", "text", "word"] (spI0 K) := by
  refine fn_of lk hcd S (fun vs H Q E h => ?_) fun A outer s H vs Q E hr h => ?_
  · obtain ⟨a, C, t, w, e, _⟩ := h
    rw [e] <;> rfl
  · unfold isI0 at hB
    split at hB
    · rename_i v p1 i p2 s0 p3 t p4 p5 p6 s2 p7 w0 p8 w2 p9 p10
      simp only [Bool.and_eq_true, decide_eq_true_eq] at hB
      obtain ⟨⟨⟨⟨⟨⟨⟨⟨e0, e1⟩, e2⟩, e3⟩, e4⟩, e5⟩, e6⟩, e7⟩, e8⟩ := hB
      subst e1 e3 e7
      let X := cxOf (L2N.CX P w) P w K mg base ["self", "text", "word"] qual scope f cdv A outer s H E
      obtain ⟨a1, a2, a3, a4⟩ := nmB_of (X := X) e4
      obtain ⟨b1, b2, b3, b4⟩ := nmB_of (X := X) e5
      obtain ⟨c1, c2, c3, c4⟩ := nmB_of (X := X) e6
      obtain ⟨d1, d2, d3, d4⟩ := nmB_of (X := X) e8
      refine ⟨_, pss_cons (ps_expr (pe_veinit (X := X) (gl_of rfl e2).1 hm vV (pa_cons (pe_var a1 a2 a3 a4) (pa_cons (pe_var b1 b2 b3 b4) pa_nil)) (mcall rfl e0 rfl))) (pss_one (ps_ost (pe_var c1 c2 c3 c4) (pe_var d1 d2 d3 d4))), ?_⟩
      obtain ⟨a, C, t, w, e, T, hw, ha, q⟩ := h
      subst e
      refine ⟨_, rfl, _, rfl, a, C, [.str t], rfl, by simp, T, ha, ?_⟩
      refine ⟨_, rfl, _, rfl, a, C, rfl, T, hw, .inl ⟨ha, fun dx h1 h2 => q dx _ ⟨upd_same, ?_, h2, h1, fun b q1 q2 => ?_⟩⟩⟩
      · rw [upd_ne h2, upd_same]
      · rw [upd_ne q1, upd_ne q2]
    · cases hB
/-- the others' -/
theorem initN {N : List Str} {fields : List Str} {bnm word : Str} {C T fB : Addr} {fdB : FuncData} (lk : K.lookup f = some ⟨oc, od, .func (PySem.W.fnOf name qual params body scope dV kV doc pm an cdv ct), osl⟩) (hcd : PySem.W.codeIn K cdv qual = true) (S : FnScope N N scope) (hB : isIn N scope bnm word fields body = true)
    (hN : N.length = fields.length + 1) (hfl : fields.length ≤ 100) (hm : mg bnm = some (.ref T)) (hdb : (bnm == ("__debug__" : Str)) = false) (B : BaseI K T fB) (F : FnOk P w K mg base (L2N.CX P w) 1 fB fdB ["self", "text", "word"] (spI0 K)) (hb : Binds K fdB ["self", "text", "word"] [])
    (TC : OexC K C) (hw : PySem.W.findIn K (.ref C) "word" = some none) (hfs : ∀ f ∈ fields, PySem.W.findIn K (.ref C) f = some none) :
    FnOk P w K mg base (L2N.CX P w) 2 f (PySem.W.fnOf name qual params body scope dV kV doc pm an cdv ct) N (spIn C fields word) := by
  refine fn_of lk hcd S (fun vs H Q E h => ?_) fun A outer s H vs Q E hr h => ?_
  · obtain ⟨a, xs, e, hx, _⟩ := h
    rw [e, hN, List.length_cons, hx]
  · unfold isIn at hB
    split at hB
    · rename_i v p1 i p2 s0 p3 t k1 p4 w0 k2 p7 p5 p6 r
      simp only [Bool.and_eq_true, decide_eq_true_eq] at hB
      obtain ⟨⟨⟨⟨⟨⟨e0, e1⟩, e2⟩, e3⟩, e4⟩, e5⟩, e6⟩ := hB
      subst e1 e3 e5
      let X := cxOf (L2N.CX P w) P w K mg base N qual scope f cdv A outer s H E
      obtain ⟨a1, a2, a3, a4⟩ := nmB_of (X := X) e4
      refine ⟨_, pss_cons (ps_expr (pe_binit (X := X) F hr (passes_no (takes_cx (k := 0))) hb B (gl_of rfl e2).1 hdb hm (pa_cons (pe_var a1 a2 a3 a4) (pa_cons pe_str (pa_cons pe_str pa_nil))) (mcall rfl e0 rfl))) (pss_fl (X := X) e6), ?_⟩
      obtain ⟨a, xs, e, hx, ha, q⟩ := h
      subst e
      have hst : L2.start N (.ref a :: xs) = some (.ref a) :: xs.map some := by
        unfold L2.start
        rw [List.length_cons, hN, hx, Nat.sub_self, List.replicate_zero, List.append_nil, List.map_cons]
      rw [hst]
      refine ⟨_, rfl, a, C, t, w0, rfl, TC, hw, ha, fun dx H3 m => ?_⟩
      refine fl_go TC m.2.2.1 (H := H) hx hfs (by simp; omega) rfl (fun n x hn => ?_) m.1 m.2.1 m.2.2.2.2 fun H4 k1 k2 k3 => q dx H4 ⟨k1, k2, m.2.2.1, m.2.2.2.1, k3⟩
      rw [Nat.add_comm, List.getElem?_cons_succ, List.getElem?_map, hn]
      rfl
    · cases hB
end
end DE

set_option Elab.async false
set_option linter.all false
set_option maxRecDepth 100000
set_option maxHeartbeats 4000000
/-! DE8e: raise, try. -/
namespace DE
open PySem PySem.Spec PyProof.Rows L2
/-- the maker of an error, by data -/
def mkEr (c : Str) (fields : List Str) (word : Str) (ds : List D) : Option Er := if ds.length = fields.length then some ⟨c, fields.reverse ++ [(("word" : Str))], ds.reverse ++ [.str word]⟩ else none
structure ErrC (P : Program) (w : World) (K : PySem.W.Frag) (mg : Str → Option Value) (base : Heap) (nm : Str) (fields : List Str) (word : Str) (k : Nat) : Prop where
  ex : ∃ (C fI : Addr) (fd : FuncData) (ps : List Str), mg nm = some (.ref C) ∧ OexC K C ∧ PySem.W.findIn K (.ref C) "__init__" = some (some (.ref fI)) ∧ PySem.W.typeIn K (.ref fI) = some (.type "function") ∧ FnOk P w K mg base (L2N.CX P w) k fI fd ps (spIn C fields word) ∧ Binds K fd ps []
theorem Dens.rev {E : En} {G : Hp} : ∀ {ds : List D} {vs : List V}, Dens E G ds vs → Dens E G ds.reverse vs.reverse
  | [], vs, h => by
    have e : vs = [] := h
    rw [e]
    exact rfl
  | d :: ds, vs, h => by
    obtain ⟨v, r, h1, h2, h3⟩ := h
    rw [h1, List.reverse_cons, List.reverse_cons]
    exact (Dens.rev h3).append (Dens.one h2)
section
variable {X : Cx} {W : WX} {E : En} {e : Expr} {es : List Expr} {ta : TA} {p pos : Pos}
/-- C(..): from the values of the arguments on -/
theorem make_go {C fI : Addr} {k : Nat} {fd : FuncData} {ps : List Str} {fields : List Str} {word : Str} {pins : List (Addr × Obj)} {σ : L2.St} {H1 : Hp} {Q : XK} {us : List Value} {vs : List V} {s1 : Shared} (T : OexC X.K C) (iC : PySem.W.findIn X.K (.ref C) "__init__" = some (some (.ref fI)))
    (tI : PySem.W.typeIn X.K (.ref fI) = some (.type "function")) (F1 : FnOk X.prog X.w X.K X.mg X.base (L2N.CX X.prog X.w) k fI fd ps (spIn C fields word)) (hr : Room (k + 1) X.A) (hb : Binds X.K fd ps []) (hx : Passes (L2N.CX X.prog X.w) X (fun _ _ _ => False))
    (I1 : Inv X pins σ H1 s1) (r1 : Vals vs us) (hl : vs.length = fields.length) (hz : fields.length ≤ 100) (q : ∀ d, H1 d = none → Q (.ref C) (some d) (upd H1 d (.xd ((fields.zip vs).reverse ++ [(("word" : Str), V.str word)])))) :
    wpAny (model X.prog X.w) X.A (call (.ref C) us) (L2N.MkP X pins σ Q) X.xe s1 := by
  obtain ⟨nm, q0, N, bs, bm, sn, sub, ab, col, dd, k0, k1, k2, k3, k5, hC, hbm⟩ := T.cls
  obtain ⟨hp, g, dr, tk, os⟩ := s1
  have hsz : hp.objs.size ≤ hp.objs.size + 1 := Nat.le_succ _
  have hn : H1 (hp.objs.size + 1) = none := I1.hok.fresh hsz
  have hq : spIn C fields word (.ref (hp.objs.size + 1) :: vs) (upd H1 (hp.objs.size + 1) (exo (hp.objs.size + 1) C none)) (fun v H2 => v = .non ∧ ∃ (d : Addr) (fs : List (Str × V)), H2 (hp.objs.size + 1) = some (exo (hp.objs.size + 1) C (some d)) ∧ H2 d = some (exd d fs) ∧ H1 d = none ∧ Q (.ref C) (some d) (upd (del H2 (hp.objs.size + 1)) d (.xd fs))) (fun _ _ _ => False) := by
    refine ⟨_, vs, rfl, hl, upd_same, fun dx H3 m => ⟨rfl, dx, _, m.1, m.2.1, ?_, ?_⟩⟩
    · have z := m.2.2.2.1
      rw [upd_ne m.2.2.1] at z
      exact z
    · have hd1 : H1 dx = none := by
        have z := m.2.2.2.1
        rw [upd_ne m.2.2.1] at z
        exact z
      have e : upd (del H3 (hp.objs.size + 1)) dx (.xd ((fields.zip vs).reverse ++ [(("word" : Str), V.str word)])) = upd H1 dx (.xd ((fields.zip vs).reverse ++ [(("word" : Str), V.str word)])) := by
        funext b
        by_cases hbd : b = dx
        · rw [hbd, upd_same, upd_same]
        · rw [upd_ne hbd, upd_ne hbd]
          by_cases hba : b = hp.objs.size + 1
          · rw [hba, del_same, hn]
          · rw [del_ne hba, m.2.2.2.2 b hba hbd, upd_ne hba]
      rw [e]
      exact q dx hd1
  have kk : ∀ b o, hp.get? b = some o → ((hp.push (PySem.W.kdv_tup us)).push (PySem.HandSPX.excO C hp.objs.size)).get? b = some o := fun b o e => Heap.get?_push_of_some _ (Heap.get?_push_of_some _ e)
  have hget : ((hp.push (PySem.W.kdv_tup us)).push (PySem.HandSPX.excO C hp.objs.size)).get? (hp.objs.size + 1) = some (PySem.HandSPX.excO C hp.objs.size) := by heap_get
  have I2 : Inv X pins σ (upd H1 (hp.objs.size + 1) (exo (hp.objs.size + 1) C none)) ⟨(hp.push (PySem.W.kdv_tup us)).push (PySem.HandSPX.excO C hp.objs.size), g, dr, tk, os⟩ :=
    I1.laid (t' := tk) (a := hp.objs.size + 1) (o := exo (hp.objs.size + 1) C none) (h' := (hp.push (PySem.W.kdv_tup us)).push (PySem.HandSPX.excO C hp.objs.size)) kk hsz (exo_ok hget)
  have r2 : Vals (V.ref (hp.objs.size + 1) :: vs) (Value.ref (hp.objs.size + 1) :: us) := .cons rfl r1
  have hlen : (Value.ref (hp.objs.size + 1) :: us ++ []).length = ps.length := by
    have e := r2.length
    rw [F1.len _ _ _ _ hq] at e
    rw [List.append_nil]
    exact e.symm
  have hus : us.length ≤ sizeLine := by
    rw [← Paired.length r1, sizeLine_eq, hl]
    omega
  have b2 := hb _ (Value.ref (hp.objs.size + 1) :: us) I2.kIn hlen
  rw [List.append_nil] at b2
  refine wpAny_call (PySem.HandSPX.call_own F.excBase_ValueError (fun Y => PySem.HandSPX.refsVE_contains Y bm hbm) (I1.kIn _ _ hC) (PySem.W.looks_findIn I1.kIn iC) (fun self => PySem.W.bind_fn I1.kIn self tI) hus
    (codeAny_mono (F1.run _ X.stack _ _ ⟨Value.ref (hp.objs.size + 1) :: us, []⟩ (Value.ref (hp.objs.size + 1) :: us) _ _ (fun _ _ _ => False) (hr.make C us []) (I2.env0.make C us []) b2 r2 hq) fun r s' hq' => ?_))
  cases r with
  | error er => exact hx pins σ _ _ er s' I2 hq'
  | ok fl =>
    cases fl with
    | ret u =>
      obtain ⟨v, H2, os2, bare2, un2, hok2, rv, ev, d, fs, ea, ed, hd1, q2⟩ := hq'
      subst ev
      obtain ⟨h2, g2, d2, t2, os'⟩ := s'
      obtain ⟨t0, G, J, kG, ge, hoe, na⟩ := mk_end0 (d2 := d2) (t2 := t2) I1 hsz kk un2 hok2 os2 bare2 ea ed hd1
      refine ⟨rv, hp.objs.size + 1, _, _, ⟨G, g2, d2, t2, os'⟩, _, .ref C, some d, rfl, J, kG, ge, hoe, ⟨rfl, rfl, fun vs hv => ?_⟩, rfl, rfl, na, rfl, bare2, raises_own T.exC T.tyC, q2⟩
      cases hv
      rfl
    | next => exact False.elim hq'
    | brk => exact False.elim hq'
    | cont => exact False.elim hq'
def tMk (C : Addr) (fields : List Str) (word : Str) (ta : TA) : L2.St → Hp → XK → Prop := fun σ H Q => ta σ H fun vs H1 => vs.length = fields.length ∧ ∀ d, H1 d = none → Q (.ref C) (some d) (upd H1 d (.xd ((fields.zip vs).reverse ++ [(("word" : Str), V.str word)])))
/-- C(e, ..) as what is raised -/
theorem pmkN {C fI : Addr} {nm : Str} {k : Nat} {fd : FuncData} {ps : List Str} {fields : List Str} {word : Str} (T : OexC X.K C) (iC : PySem.W.findIn X.K (.ref C) "__init__" = some (some (.ref fI)))
    (tI : PySem.W.typeIn X.K (.ref fI) = some (.type "function")) (F1 : FnOk X.prog X.w X.K X.mg X.base (L2N.CX X.prog X.w) k fI fd ps (spIn C fields word)) (hr : Room (k + 1) X.A) (hb : Binds X.K fd ps []) (hx : Passes (L2N.CX X.prog X.w) X (fun _ _ _ => False))
    (hg : Gl X nm) (hm : X.mg nm = some (.ref C)) (hdb : (nm == ("__debug__" : Str)) = false) (hz : fields.length ≤ 100) (ha : PA X (e :: es) ta) (hst : starEach (e :: es) X.env = (false, eval e X.env) :: starEach es X.env) (hpl : (backTo pos (starEach es X.env)).any (·.1) = false) :
    L2N.PMk X (.Call (.Name nm p) (e :: es) [] pos) (tMk C fields word ta) := by
  intro pins s σ H Q I h
  refine wpAny_Call_Name_kw (ld_glob I hg hm ?_ hdb)
  refine PySem.W.callWith_K (h₀ := X.base) I.ok.mod.kin T.kC (thn (ha.run pos pins s σ H _ I h) fun us s1 ⟨vs, H1, I1, r1, hl, q1⟩ => ⟨I1.kIn, ?_⟩) hst hpl
  exact make_go T iC tI F1 hr hb hx I1 r1 hl hz q1
theorem pmkN0 {C fI : Addr} {nm : Str} {k : Nat} {fd : FuncData} {ps : List Str} {fields : List Str} {word : Str} (T : OexC X.K C) (iC : PySem.W.findIn X.K (.ref C) "__init__" = some (some (.ref fI)))
    (tI : PySem.W.typeIn X.K (.ref fI) = some (.type "function")) (F1 : FnOk X.prog X.w X.K X.mg X.base (L2N.CX X.prog X.w) k fI fd ps (spIn C fields word)) (hr : Room (k + 1) X.A) (hb : Binds X.K fd ps []) (hx : Passes (L2N.CX X.prog X.w) X (fun _ _ _ => False))
    (hg : Gl X nm) (hm : X.mg nm = some (.ref C)) (hdb : (nm == ("__debug__" : Str)) = false) (hz : fields.length ≤ 100) :
    L2N.PMk X (.Call (.Name nm p) [] [] pos) (tMk C fields word tNil) := by
  intro pins s σ H Q I h
  refine wpAny_Call_Name_kw (ld_glob I hg hm ?_ hdb)
  exact PySem.W.callWith_K0 I.kIn T.kC (make_go (vs := []) (us := []) T iC tI F1 hr hb hx I .nil h.1 hz h.2)
end
section
variable {X : Cx} {px : Option (Addr × Addr × Addr)} {C : Cfg} {W : WX} {k : Nat} {hh : Bool} {G0 H0 : Hp} {tch : List Nat} {e : Expr} {es : List Expr} {p pos : Pos}
/-- the makers that a body may use -/
structure Mks (X : Cx) (C : Cfg) (k : Nat) : Prop where
  of : ∀ c f, C.mkE c = some f → ∃ (fields : List Str) (word : Str) (j : Nat), f = mkEr c fields word ∧ fields.length ≤ 100 ∧ j + 1 ≤ k ∧ ErrC X.prog X.w X.K X.mg X.base c fields word j
theorem map_fst_zip {fs : List Str} {vs : List V} (h : vs.length = fs.length) : (fs.zip vs).map (·.1) = fs := by rw [List.map_fst_zip]; omega
theorem map_snd_zip {fs : List Str} {vs : List V} (h : vs.length = fs.length) : (fs.zip vs).map (·.2) = vs := by rw [List.map_snd_zip]; omega
/-- from the arguments' data -/
theorem rais_go {E : En} {D : Ends} {σ : L2.St} {ρ : Rho} {G H G1 H1 : Hp} {rs : List RV} {vs : List V} {c : Str} {CA : Addr} {fields : List Str} {word : Str} (hm : E.mg c = some (.ref CA)) (g0 : Gr G0 H0 G H) (r : Rep E H0 G H σ ρ) (g1 : Gr G H G1 H1) (dv : DenRs E G1 H1 H rs vs)
    (q : RS E W G0 H0 tch σ D (erS (mkEr c fields word) rs ρ)) : vs.length = fields.length ∧ ∀ d, H1 d = none → W (.ref CA) (some d) σ (upd H1 d (.xd ((fields.zip vs).reverse ++ [(("word" : Str), V.str word)]))) := by
  unfold erS at q
  cases ed : toDs rs with
  | none => rw [ed] at q; exact q.elim
  | some ds =>
    rw [ed] at q
    have q : RS E W G0 H0 tch σ D (match mkEr c fields word ds with
      | some e => some (.er e ρ)
      | none => none) := q
    unfold mkEr at q
    by_cases hl : ds.length = fields.length
    · rw [if_pos hl] at q
      obtain ⟨G2, b1, b2, b3⟩ := toDs_den ed g1 dv
      have hv : vs.length = fields.length := by rw [b3.length, hl]
      refine ⟨hv, fun d hd => ?_⟩
      have gf := Gr.frozen b1.i hd (o := .xd ((fields.zip vs).reverse ++ [(("word" : Str), V.str word)]))
      have gg := b1.trans gf
      refine q (.ref CA) (some d) σ _ _ (g0.trans gg) (r.mono gg) Off.refl ⟨CA, d, _, hm, rfl, rfl, upd_same, ?_, ?_⟩
      · rw [List.map_append, List.map_reverse, map_fst_zip hv]
        rfl
      · rw [List.map_append, List.map_reverse, map_snd_zip hv]
        exact (Dens.mono gf.g _ _ b3).rev.append (Dens.one rfl)
    · rw [if_neg hl] at q
      exact q.elim
theorem s_never {st : Stmt} : PS X st (cS (enX X px) W G0 H0 tch (fun _ => none)) := ps_imp (t := tNever) ps_never fun D σ H h => by
  obtain ⟨ρ, G, g0, r, h⟩ := h
  exact h.elim
theorem s_rais (c : Cs X px C W k hh) (hcalm : X.calm = true) (hr : Room k X.A) (M : Mks X C k) {nm : Str} {f : List DE.D → Option Er} {fa : Rho → Ans (List RV)} (hC : C.mkE nm = some f) (hg : Gl X nm) (hdb : (nm == ("__debug__" : Str)) = false) (ha : PA X (e :: es) (cA (enX X px) W fa)) (hst : starEach (e :: es) X.env = (false, eval e X.env) :: starEach es X.env) (hpl : ∀ pos, (backTo pos (starEach es X.env)).any (·.1) = false) {p2 : Pos} :
    PS X (.Raise (some (.Call (.Name nm p) (e :: es) [] p2)) none pos) (cS (enX X px) W G0 H0 tch (fun ρ => liftS (fa ρ) ρ fun rs => erS f rs ρ)) := by
  obtain ⟨fields, word, j, rfl, hz, hj, ⟨CA, fI, fd, ps, e1, T, iC, tI, F, hb⟩⟩ := M.of _ _ hC
  refine ps_imp (L2N.ps_raise hcalm c.tk (pmkN T iC tI F (hr.mono hj) hb (passes_no c.tk) hg e1 hdb hz ha hst (hpl p2))) fun D σ H h => ?_
  obtain ⟨ρ, G, g0, r, h⟩ := h
  exact ⟨H0, ρ, G, g0.i, r, (rs_expr g0 r h).imp fun rs G1 H1 g1 q vs dv => rais_go e1 g0 r g1 dv q⟩
theorem s_rais0 (c : Cs X px C W k hh) (hcalm : X.calm = true) (hr : Room k X.A) (M : Mks X C k) {nm : Str} {f : List DE.D → Option Er} (hC : C.mkE nm = some f) (hg : Gl X nm) (hdb : (nm == ("__debug__" : Str)) = false) {p2 : Pos} :
    PS X (.Raise (some (.Call (.Name nm p) [] [] p2)) none pos) (cS (enX X px) W G0 H0 tch (fun ρ => erS f [] ρ)) := by
  obtain ⟨fields, word, j, rfl, hz, hj, ⟨CA, fI, fd, ps, e1, T, iC, tI, F, hb⟩⟩ := M.of _ _ hC
  refine ps_imp (L2N.ps_raise hcalm c.tk (pmkN0 T iC tI F (hr.mono hj) hb (passes_no c.tk) hg e1 hdb hz)) fun D σ H h => ?_
  obtain ⟨ρ, G, g0, r, h⟩ := h
  exact rais_go (rs := []) e1 g0 r (Gr.refl g0.i) rfl h
/-! ### try -/
mutual
theorem Den.pin {E E' : En} (hK : E'.K = E.K) (hm : E'.mg = E.mg) (hp : E.px = none) {G : Hp} : ∀ (d : DE.D) (v : V), Den E G d v → Den E' G d v
  | .non, v, h => h
  | .bl _, v, h => h
  | .int _, v, h => h
  | .str _, v, h => h
  | .tup ds, v, h => by
    obtain ⟨a, vs, h1, h2, h3⟩ := h
    exact ⟨a, vs, h1, h2, Dens.pin hK hm hp ds vs h3⟩
  | .lst ds, v, h => by
    obtain ⟨a, vs, h1, h2, h3⟩ := h
    exact ⟨a, vs, h1, by rw [hK]; exact h2, Dens.pin hK hm hp ds vs h3⟩
  | .dicT ks ds, v, h => by
    obtain ⟨a, kvs, h1, h2, h3, h4⟩ := h
    exact ⟨a, kvs, h1, h2, h3, Dens.pin hK hm hp ds _ h4⟩
  | .dicK ks ds, v, h => by
    obtain ⟨a, kvs, h1, h2, h3, h4⟩ := h
    exact ⟨a, kvs, h1, h2, h3, Dens.pin hK hm hp ds _ h4⟩
  | .exc c ns ds, v, h => by
    obtain ⟨a, C, dd, fs, h1, h2, _⟩ := h
    rw [hp] at h2
    cases h2
theorem Dens.pin {E E' : En} (hK : E'.K = E.K) (hm : E'.mg = E.mg) (hp : E.px = none) {G : Hp} : ∀ (ds : List DE.D) (vs : List V), Dens E G ds vs → Dens E' G ds vs
  | [], vs, h => h
  | d :: ds, vs, h => by
    obtain ⟨v, r, h1, h2, h3⟩ := h
    exact ⟨v, r, h1, Den.pin hK hm hp d v h2, Dens.pin hK hm hp ds r h3⟩
end
mutual
/-- what holds no error needs no pin -/
theorem Den.unpin {E E' : En} (hK : E'.K = E.K) {G : Hp} : ∀ (d : DE.D) (v : V), noExc d = true → Den E G d v → Den E' G d v
  | .non, v, _, h => h
  | .bl _, v, _, h => h
  | .int _, v, _, h => h
  | .str _, v, _, h => h
  | .tup ds, v, n, h => by
    obtain ⟨a, vs, h1, h2, h3⟩ := h
    exact ⟨a, vs, h1, h2, Dens.unpin hK ds vs n h3⟩
  | .lst ds, v, n, h => by
    obtain ⟨a, vs, h1, h2, h3⟩ := h
    exact ⟨a, vs, h1, by rw [hK]; exact h2, Dens.unpin hK ds vs n h3⟩
  | .dicT ks ds, v, n, h => by
    obtain ⟨a, kvs, h1, h2, h3, h4⟩ := h
    exact ⟨a, kvs, h1, h2, h3, Dens.unpin hK ds _ n h4⟩
  | .dicK ks ds, v, n, h => by
    obtain ⟨a, kvs, h1, h2, h3, h4⟩ := h
    exact ⟨a, kvs, h1, h2, h3, Dens.unpin hK ds _ n h4⟩
  | .exc c ns ds, v, n, h => nomatch n
theorem Dens.unpin {E E' : En} (hK : E'.K = E.K) {G : Hp} : ∀ (ds : List DE.D) (vs : List V), noExcs ds = true → Dens E G ds vs → Dens E' G ds vs
  | [], vs, _, h => h
  | d :: ds, vs, n, h => by
    obtain ⟨v, r, h1, h2, h3⟩ := h
    have n' : (noExc d && noExcs ds) = true := n
    rw [Bool.and_eq_true] at n'
    exact ⟨v, r, h1, Den.unpin hK d v n'.1 h2, Dens.unpin hK ds r n'.2 h3⟩
end
theorem DenO.to {E E' : En} {G H : Hp} {l : Addr} {o : OV} (k : ∀ ds vs, (match o with | .l x => x | .tT _ x => x | .tK _ x => x) = ds → Dens E G ds vs → Dens E' G ds vs) (h : DenO E G H l o) : DenO E' G H l o := by
  cases o with
  | l ds => obtain ⟨vs, q1, q2⟩ := h; exact ⟨vs, q1, k _ _ rfl q2⟩
  | tT ks ds => obtain ⟨kvs, q1, q2, q3⟩ := h; exact ⟨kvs, q1, q2, k _ _ rfl q3⟩
  | tK ks ds => obtain ⟨kvs, q1, q2, q3⟩ := h; exact ⟨kvs, q1, q2, k _ _ rfl q3⟩
theorem Rep.pin {E E' : En} {B G H : Hp} {σ : L2.St} {ρ : Rho} (hK : E'.K = E.K) (hm : E'.mg = E.mg) (hp : E.px = none) (r : Rep E B G H σ ρ) : Rep E' B G H σ ρ := by
  refine ⟨r.len, fun i lv e => ?_, r.new, r.sep⟩
  obtain ⟨v, h1, h2⟩ := r.at_ i lv e
  refine ⟨v, h1, ?_⟩
  cases lv with
  | dat d => exact Den.pin hK hm hp d v h2
  | own o =>
    obtain ⟨l, q1, q2, q3⟩ := h2
    exact ⟨l, q1, q2, q3.to fun ds vs _ h => Dens.pin hK hm hp ds vs h⟩
theorem noExcR_at : ∀ {ρ : Rho} {i : Nat} {lv : LV}, noExcR ρ = true → ρ[i]? = some (some lv) → noExcL (some lv) = true
  | [], _, _, _, e => by simp at e
  | l :: r, 0, lv, h, e => by
    have h' : (noExcL l && noExcR r) = true := h
    rw [Bool.and_eq_true] at h'
    have e' : l = some lv := by simpa using e
    rw [← e']
    exact h'.1
  | l :: r, i + 1, lv, h, e => by
    have h' : (noExcL l && noExcR r) = true := h
    rw [Bool.and_eq_true] at h'
    exact noExcR_at h'.2 (by simpa using e)
theorem Rep.unpin {E E' : En} {B G H : Hp} {σ : L2.St} {ρ : Rho} (hK : E'.K = E.K) (n : noExcR ρ = true) (r : Rep E B G H σ ρ) : Rep E' B G H σ ρ := by
  refine ⟨r.len, fun i lv e => ?_, r.new, r.sep⟩
  obtain ⟨v, h1, h2⟩ := r.at_ i lv e
  have n1 := noExcR_at n e
  refine ⟨v, h1, ?_⟩
  cases lv with
  | dat d => exact Den.unpin hK d v n1 h2
  | own o =>
    obtain ⟨l, q1, q2, q3⟩ := h2
    refine ⟨l, q1, q2, q3.to fun ds vs e h => Dens.unpin hK ds vs ?_ h⟩
    subst e
    cases o <;> exact n1
theorem DenR.unpin {E E' : En} {G H H1 : Hp} {r : RV} {v : V} (hK : E'.K = E.K) (n : noExcV r = true) (h : DenR E G H H1 r v) : DenR E' G H H1 r v := by
  cases r with
  | dat d => exact Den.unpin hK d v n h
  | fr o =>
    obtain ⟨l, q1, q0, q2, q3⟩ := h
    refine ⟨l, q1, q0, q2, q3.to fun ds vs e h => Dens.unpin hK ds vs ?_ h⟩
    subst e
    cases o <;> exact n
  | br o =>
    obtain ⟨l, q1, q2, q3⟩ := h
    refine ⟨l, q1, q2, q3.to fun ds vs e h => Dens.unpin hK ds vs ?_ h⟩
    subst e
    cases o <;> exact n
end
end DE

set_option Elab.async false
set_option linter.all false
set_option maxRecDepth 100000
set_option maxHeartbeats 8000000
/-! DE8f: try; the recursion over statements. -/
namespace DE
open PySem PySem.Spec PyProof.Rows L2
theorem cl_same {E : En} {x : Str} {a b : V} {u v : Value} (h : ClOk E x a u) (h' : ClOk E x b v) : u = v := by
  rcases h.2 with h | ⟨h1, h2, _⟩ <;> rcases h'.2 with h' | ⟨h1', h2', _⟩
  · rw [h] at h'; exact Option.some.inj h'
  · rw [h] at h1'; cases h1'
  · rw [h'] at h1; cases h1
  · rw [h2] at h2'; exact Option.some.inj h2'
section
variable {X : Cx} {px : Option (Addr × Addr × Addr)} {C : Cfg} {W : WX} {k : Nat} {hh : Bool} {G0 H0 : Hp} {tch : List Nat} {e : Expr} {es : List Expr} {p pos : Pos}
theorem Cs.calm (c : Cs X px C W k false) : X.calm = true ∧ px = none ∧ Room k X.A := by
  cases c.mode with
  | calm hc hp r f => exact ⟨hc, hp, r⟩
def tsX (X : Cx) (G0 H0 : Hp) (tch : List Nat) (rs : Rho → SR) (a : Addr) (cls : Value) (d : Option Addr) : TS := fun D σ H => ∃ CA dd, cls = .ref CA ∧ d = some dd ∧ cS (enX X (some (a, CA, dd))) WF G0 H0 tch rs D σ H
theorem s_tri (c : Cs X none C W k false) {i : Nat} {cn n : Str} {body st : List Stmt} {s0 : Stmt} {rb rs : Rho → SR} {p1 p2 : Pos} (hi : i ∈ tch) (hs : C.isa cn cn = some true) (hg : Gl X cn) (hdb : (cn == ("__debug__" : Str)) = false) (hN : X.N[i]? = some n) (hln : X.env.scope.names.lookup n = some .local)
    (hbody : ∀ (W : WX) (pn : List (Addr × Obj)) (xe : Value → Shared → Prop), Cs (X.tr pn xe) none C W k false → PSs (X.tr pn xe) body (cS (enX X none) W G0 H0 tch rb))
    (hsuite : ∀ (a CA dd : Addr) (oe : Obj) (pn : List (Addr × Obj)), Cs (X.suite a ((a, oe) :: pn)) (some (a, CA, dd)) C.hot WF k true → PSs (X.suite a ((a, oe) :: pn)) (s0 :: st) (cS (enX X (some (a, CA, dd))) WF G0 H0 tch rs)) :
    PS X (.Try body [.ExceptHandler (some (.Name cn p1)) (some n) (s0 :: st) p2] [] [] pos) (cS (enX X none) W G0 H0 tch (fun ρ => match rb ρ with
      | some (.er e ρ') => match C.isa e.c cn with
        | some true => endS i (rs (ρ'.set i (some (.dat (.exc e.c e.ns e.fs)))))
        | some false => some (.er e ρ')
        | none => none
      | r => r)) := by
  obtain ⟨A0, cx, cv, t1, t2, t3, t4, t5⟩ := c.tab.isa _ _ _ hs
  have nm : Names X cn cv := ⟨hg, hdb, t3.2⟩
  obtain ⟨hcalm, _, hroom⟩ := c.calm
  have hf : ∀ (j : Nat) (fn : Fn), C.T[j]? = some fn → FnFact X.prog X.w X.K X.mg X.base fn k := by
    cases c.mode with
    | calm _ _ _ f => exact f
  refine ps_imp (L2N.ps_try_as (ts := tsX X G0 H0 tch rs) (tb := fun W' => cS (enX X none) W' G0 H0 tch rb) c.stk c.frm c.nd hN hln nm c.tk (fun W' pn xe tk own => hbody W' pn xe ⟨⟨c.nd, tk, c.tab, .calm hcalm rfl hroom hf⟩, c.kd, c.sets, own, c.stk, c.frm, c.hotF⟩) (fun a oe cls d pn hz hv => ⟨fun pins s σ H D I h => ?_⟩)) fun D σ H h => ?_
  · obtain ⟨CA, dd, e1, e2, q⟩ := h
    subst e1
    subst e2
    obtain ⟨vs, hv⟩ := hv
    refine (hsuite a CA dd oe pn ⟨⟨c.nd, fun u s' x => ?_, ⟨c.tab.isa, c.tab.fld, c.tab.blt⟩, .hot rfl ⟨a, CA, dd, oe, rfl, List.mem_cons_self, ⟨rfl, vs, hv, hz.2.2 vs hv⟩, hz.1, hz.2.1⟩ (L2H.roomH_mark hroom _) (fun j fn h => c.hotF rfl j fn h)⟩, c.kd, c.sets, PassesOwn.never, c.stk, c.frm, fun z => nomatch z⟩).run pins s σ H D I q
    obtain ⟨_, _, _, _, _, _, _, _, _, _, _, _, _, _, _, _, w⟩ := x
    exact w
  · obtain ⟨ρ, G, g0, r, h⟩ := h
    refine ⟨ρ, G, g0, r, ?_⟩
    dsimp only at h
    cases eb : rb ρ with
    | none => rw [eb] at h; exact h
    | some y =>
      rw [eb] at h
      cases y with
      | nx ρ' => exact h
      | bk ρ' => exact h
      | ct ρ' => exact h
      | rt r' => exact h
      | er e ρ' =>
        have h : RS (enX X none) W G0 H0 tch σ D (match C.isa e.c cn with
          | some true => endS i (rs (ρ'.set i (some (.dat (.exc e.c e.ns e.fs)))))
          | some false => some (.er e ρ')
          | none => none) := h
        intro cls d σ' G' H' gr r' off dx
        obtain ⟨CA, dd, fs, x1, x2, x3, x4, x5, x6⟩ := dx
        cases eisa : C.isa e.c cn with
        | none => rw [eisa] at h; exact h.elim
        | some b =>
          obtain ⟨A1, cx1, cv1, u1, u2, u3, u4, u5⟩ := c.tab.isa _ _ _ eisa
          have ecv := cl_same u3 t3
          subst ecv
          have eA : CA = A1 := Value.ref.inj (Option.some.inj (x1.symm.trans u1))
          subst eA
          refine ⟨b, by rw [x2]; exact u5, fun hb a ha => ?_, fun hb => ?_⟩
          · subst hb
            rw [eisa] at h
            have h : RS (enX X none) W G0 H0 tch σ D (endS i (rs (ρ'.set i (some (.dat (.exc e.c e.ns e.fs)))))) := h
            have dE : Den (enX X (some (a, CA, dd))) G' (.exc e.c e.ns e.fs) (.ref a) := ⟨a, CA, dd, fs, rfl, rfl, x1, x4, x5, Dens.pin (E := enX X none) (E' := enX X (some (a, CA, dd))) rfl rfl rfl _ _ x6⟩
            refine ⟨CA, dd, x2, x3, _, G', gr, (Rep.pin (E := enX X none) (E' := enX X (some (a, CA, dd))) rfl rfl rfl r').setD dE, ?_⟩
            have offs : ∀ {σ3 : L2.St}, Off tch (σ'.set i (some (.ref a))) σ3 → Off tch σ (σ3.set i none) := fun o => by
              have i1 : Off tch σ' (σ'.set i (some (.ref a))) := Off.set.mono fun j hj => by rw [List.mem_singleton.mp hj]; exact hi
              have i2 : ∀ {τ : L2.St}, Off tch τ (τ.set i none) := Off.set.mono fun j hj => by rw [List.mem_singleton.mp hj]; exact hi
              exact ((off.same i1).same o).same i2
            cases er : rs (ρ'.set i (some (.dat (.exc e.c e.ns e.fs)))) with
            | none => rw [er] at h; exact h.elim
            | some y =>
              rw [er] at h
              cases y with
              | nx ρ3 =>
                intro σ3 G3 H3 a3 b3 o3
                have h : RS (enX X none) W G0 H0 tch σ D (if noExcR (ρ3.set i none) = true then some (.nx (ρ3.set i none)) else none) := h
                split at h
                · rename_i hn
                  exact h _ G3 H3 a3 (Rep.unpin (E := enX X (some (a, CA, dd))) rfl hn b3.setN) (offs o3)
                · exact h.elim
              | bk ρ3 =>
                intro σ3 G3 H3 a3 b3 o3
                have h : RS (enX X none) W G0 H0 tch σ D (if noExcR (ρ3.set i none) = true then some (.bk (ρ3.set i none)) else none) := h
                split at h
                · rename_i hn
                  exact h _ G3 H3 a3 (Rep.unpin (E := enX X (some (a, CA, dd))) rfl hn b3.setN) (offs o3)
                · exact h.elim
              | ct ρ3 =>
                intro σ3 G3 H3 a3 b3 o3
                have h : RS (enX X none) W G0 H0 tch σ D (if noExcR (ρ3.set i none) = true then some (.ct (ρ3.set i none)) else none) := h
                split at h
                · rename_i hn
                  exact h _ G3 H3 a3 (Rep.unpin (E := enX X (some (a, CA, dd))) rfl hn b3.setN) (offs o3)
                · exact h.elim
              | rt rv =>
                intro v G3 H3 a3 d3 nb
                have h : RS (enX X none) W G0 H0 tch σ D (if noExcV rv = true then some (.rt rv) else none) := h
                split at h
                · rename_i hn
                  exact h v G3 H3 a3 (DenR.unpin (E := enX X (some (a, CA, dd))) rfl hn d3) nb
                · exact h.elim
              | er e' ρ3 => exact h.elim
          · subst hb
            rw [eisa] at h
            exact h cls d σ' G' H' gr r' off ⟨CA, dd, fs, x1, x2, x3, x4, x5, x6⟩
end
end DE

set_option Elab.async false
set_option linter.all false
set_option maxRecDepth 100000
set_option maxHeartbeats 8000000
/-! DE8f2: a return whose call takes a slot's own object for good. -/
namespace DE
open PySem PySem.Spec PyProof.Rows L2
def onlyR : SR → Prop
  | none => True
  | some (.rt _) => True
  | some (.er _ _) => True
  | _ => False
abbrev endR (Q : VK) : Ends := { nx := fun _ _ => False, rt := Q }
def tK (E : En) (W : WX) (G0 H0 : Hp) (tch : List Nat) (f : Rho → SR) : TE := fun σ H Q => cS E W G0 H0 tch f (endR Q) σ H
section
variable {X : Cx} {px : Option (Addr × Addr × Addr)} {C : Cfg} {W : WX} {k : Nat} {hh : Bool} {G0 H0 : Hp} {tch : List Nat} {a b e : Expr} {rest : List Expr} {pos : Pos} {f : Rho → EvR} {g : Rho → SR}
theorem onlyR_lift {α : Type} {x : Ans α} {ρ : Rho} {k : α → SR} (h : ∀ a, onlyR (k a)) : onlyR (liftS x ρ k) := by
  cases x with
  | none => trivial
  | some y =>
    cases y with
    | error e => trivial
    | ok a => exact h a
theorem s_retK (he : PE X e (tK (enX X px) W G0 H0 tch g)) (ho : ∀ ρ, onlyR (g ρ)) : PS X (.Return (some e) pos) (cS (enX X px) W G0 H0 tch g) := by
  refine ps_imp (ps_ret he) fun D σ H h => ?_
  obtain ⟨ρ, G, g0, r, h⟩ := h
  refine ⟨ρ, G, g0, r, ?_⟩
  have o := ho ρ
  cases q : g ρ with
  | none => rw [q] at h; exact h
  | some y =>
    rw [q] at h o
    cases y with
    | rt r => exact h
    | er e ρ' => exact h
    | nx ρ' => exact o.elim
    | bk ρ' => exact o.elim
    | ct ρ' => exact o.elim
theorem k_and (ha : PE X a (cE (enX X px) W f)) (hb : PE X (.BoolOp .And (b :: rest) pos) (tK (enX X px) W G0 H0 tch g)) : PE X (.BoolOp .And (a :: b :: rest) pos) (tK (enX X px) W G0 H0 tch fun ρ => liftS (f ρ) ρ fun x => match x with
    | .dat (.bl true) => g ρ
    | .dat (.bl false) => some (.rt (.dat (.bl false)))
    | _ => none) := by
  refine pe_imp (pe_and ha hb) fun σ H Q h => ?_
  obtain ⟨ρ, G, g0, r, h⟩ := h
  refine cS_expr g0 r h fun v rv G1 H1 g1 g2 r1 dv q => ?_
  split at q
  · exact ⟨true, dv, by rw [if_pos rfl]; exact ⟨ρ, G1, g2, r1, q⟩⟩
  · exact ⟨false, dv, by rw [if_neg (by decide)]; exact q (.bl false) G1 H1 g2 rfl rfl⟩
  · exact q.elim
/-- what a call that took an object for good leaves -/
theorem gr_took {G H G1 H1 G' H' : Hp} {l : Addr} (g0 : Gr G0 H0 G H) (g1 : Gr G H G1 H1) (n : H0 l = none) (b : Gr G1 (hid H1 l) G' H') : Gr G0 H0 G' H' := gr_hid (g0.trans g1) n b
theorem onlyR_give {fn : Option Fn} {s : Option (Option LV)} {rs : Ans (List RV)} {ρ : Rho} : onlyR (giveS fn s rs ρ) := by
  unfold giveS
  split
  · refine onlyR_lift fun rs => ?_
    unfold giveV
    split
    · split
      · split
        · trivial
        · trivial
      · trivial
    · trivial
  · trivial
theorem k_call (c : Cs X px C W k false) {j i : Nat} {as : IA} {y : Str} {py p : Pos} {es : List Expr} {fn : Fn} (hj : C.T[j]? = some fn) (hg : Gl X fn.name) (hdb : (fn.name == ("__debug__" : Str)) = false) (hy : nmB X.N X.env.scope i y = true) (ha : PA X es (cA (enX X px) W (evA C as)))
    (he : starEach (.Name y py :: es) X.env = (false, eval (.Name y py) X.env) :: starEach es X.env) (hpl : (backTo pos (starEach es X.env)).any (·.1) = false) :
    PE X (.Call (.Name fn.name p) (.Name y py :: es) [] pos) (tK (enX X px) W G0 H0 tch fun ρ => giveS C.T[j]? ρ[i]? (evA C as ρ) ρ) := by
  have hx : ∀ σ, PassesAt (L2N.CX X.prog X.w) X σ (L2.WE W σ) := fun σ => L2N.passAt c.toCc.tk σ
  obtain ⟨n1, n2, n3, n4⟩ := nmB_of hy
  cases c.toCc.mode with
  | calm hc hp r F =>
    obtain ⟨⟨fa, fd, ps, hm, hk, hb, F⟩⟩ := F j fn hj
    subst hp
    refine pe_imp (pe_callS (E := L2.WE W) F r hg hm hk hb hx (pa_cons (pe_var n1 n2 n3 n4) ha he) hdb he hpl) fun σ H Q h => ?_
    obtain ⟨ρ, G, g0, r, h⟩ := h
    dsimp only at h
    unfold giveS at h
    split at h
    · rename_i o own
      obtain ⟨l, e1, e2, e3⟩ := var_go r own
      have nl : H0 l = none := r.new i _ l own e1
      refine ⟨.ref l, e1, H0, ρ, G, g0.i, r, (rs_expr g0 r h).imp fun rs G1 H1 g1 q vs dv => ?_⟩
      rw [hj] at q
      unfold giveV at q
      cases ho : fn.ow with
      | false => simp only [ho] at q; exact q.elim
      | true =>
        simp only [ho] at q
        refine (spM_o ho).mpr ?_
        unfold giveO at q
        by_cases hn : rs.length + 1 = fn.n ∧ anyBr rs = false
        · rw [if_pos hn] at q
          obtain ⟨G2, a1, a2, a3⟩ := toDs_new hn.2 g1 dv
          cases hm : fn.m (o.d :: rs.map RV.d) with
          | none => rw [hm] at q; exact q.elim
          | some y1 =>
            rw [hm] at q
            cases y1 with
            | error e => exact q.elim
            | ok r1 =>
              cases hr : isBr r1 with
              | true => simp only [hr, if_true] at q; exact q.elim
              | false =>
                simp only [hr, if_false, Bool.false_eq_true] at q
                have mb : Mb H l := e3.mb
                exact ⟨rs.map RV.d, G2, l, o, vs, r1, a1.i, rfl, a1.n l e2 mb, e3.mono a1.g a1.h, a3, by rw [List.length_map]; exact hn.1, hm, hr, fun G' H' g' v dv' =>
                  q v G' H' (gr_took g0 a1 nl g') (dv'.back (ex_hid (g0.h.trans a1.h) nl)) hr⟩
        · rw [if_neg hn] at q
          exact q.elim
    · exact h.elim
end
end DE

set_option Elab.async false
set_option linter.all false
set_option maxRecDepth 100000
set_option maxHeartbeats 8000000
/-! DE8g: the recursion over statements. -/
namespace DE
open PySem PySem.Spec PyProof.Rows L2
theorem ps_fn {X : Cx} {E : En} {W : WX} {G0 H0 : Hp} {tch : List Nat} {st : Stmt} {f g : Rho → SR} (h : PS X st (cS E W G0 H0 tch f)) (q : ∀ ρ, g ρ = f ρ) : PS X st (cS E W G0 H0 tch g) := by
  have : g = f := funext q
  rw [this]
  exact h
theorem pss_fn {X : Cx} {E : En} {W : WX} {G0 H0 : Hp} {tch : List Nat} {st : List Stmt} {f g : Rho → SR} (h : PSs X st (cS E W G0 H0 tch f)) (q : ∀ ρ, g ρ = f ρ) : PSs X st (cS E W G0 H0 tch g) := by
  have : g = f := funext q
  rw [this]
  exact h
def SSt (s : IS) : Prop := ∀ (C : Cfg) (hh : Bool) (X : Cx) (px : Option (Addr × Addr × Addr)) (W : WX) (k : Nat) (G0 H0 : Hp) (tch : List Nat), Cs X px C W k hh → (hh = false → Mks X C k) → ∀ st, (∀ i ∈ tchS s, i ∈ tch) → ckS X.N C hh X.env.scope s st = true → PS X st (cS (enX X px) W G0 H0 tch (runS C s))
def SBl (b : IB) : Prop := ∀ (C : Cfg) (hh : Bool) (X : Cx) (px : Option (Addr × Addr × Addr)) (W : WX) (k : Nat) (G0 H0 : Hp) (tch : List Nat), Cs X px C W k hh → (hh = false → Mks X C k) → ∀ st, (∀ i ∈ tchB b, i ∈ tch) → ckB X.N C hh X.env.scope b st = true → PSs X st (cS (enX X px) W G0 H0 tch (runB C b))
/-- name = [..] -/
theorem s_asgLc {X : Cx} {px : Option (Addr × Addr × Addr)} {C : Cfg} {W : WX} {k : Nat} {G0 H0 : Hp} {tch : List Nat} (c : Cs X px C W k false) {i : Nat} {y : Str} {py pos spos : Pos} {elt : IE} {g : Tg} {src : ISrc} {ifs : IO} {el tg it : Expr} {fs : List Expr} {scope : Scope}
    (hi : i ∈ tch) (ht : tgB X.N X.env.scope i y = true) (hsw : swapB X.env.scope y py (.ListComp el [⟨tg, it, fs, 0⟩] scope pos) = true) (hck : ckE X.N C false X.env.scope (.lc elt g src ifs) (.ListComp el [⟨tg, it, fs, 0⟩] scope pos) = true) :
    PS X (.Assign [.Name y py] (.ListComp el [⟨tg, it, fs, 0⟩] scope pos) spos) (cS (enX X px) W G0 H0 tch (runS C (.asg i (.lc elt g src ifs)))) := by
  obtain ⟨a1, a2⟩ := tgB_of ht
  have hsw : (decide (X.env.scope.names.lookup y = some .local) && (py.line == pos.line) && !(scope.names.any fun (n, k) => n == y && (k == .local || k == .cell))) = true := hsw
  simp only [Bool.and_eq_true, decide_eq_true_eq, Bool.not_eq_true'] at hsw
  obtain ⟨⟨s1, s2⟩, s3⟩ := hsw
  simp only [ckE, Bool.and_eq_true, Bool.not_eq_true', decide_eq_true_eq] at hck
  obtain ⟨⟨⟨⟨⟨⟨_, _⟩, h1⟩, h2⟩, h3⟩, h4⟩, h5⟩ := hck
  have hs := sS C false src X px W k c.toCc it tg h1
  obtain ⟨hcalm, _, _⟩ := c.calm
  have ht' : ∀ (s : Shared) (H : Hp) (C' : Addr) (cl : List (Str × Addr)) (fp : List Addr), PTs (X.blk s H scope (compEnvC scope cl C' X.env) fp) fs (cT (enX X px) WF (evIf C ifs)) := fun s H C' cl fp => (sO C false ifs _ px WF k (cc_blk c.toCc (s := s) (H := H) (scope := scope) (C' := C') (cl := cl) (fp := fp))).2 fs h4
  have he' : ∀ (s : Shared) (H : Hp) (C' : Addr) (cl : List (Str × Addr)) (fp : List Addr), PE (X.blk s H scope (compEnvC scope cl C' X.env) fp) el (cE (enX X px) WF (evE C elt)) := fun s H C' cl fp => (sE C false elt).1 _ px WF k (cc_blk c.toCc (s := s) (H := H) (scope := scope) (C' := C') (cl := cl) (fp := fp)) el h5
  have main := ps_setLc (spos := spos) hcalm c.nd a1 s1 (sw_true (gs := [⟨tg, it, fs, 0⟩]) (l := spos.line) c.kd s1 s2 s3) hs.1 (blkOk_by h2) (fun s H C' cl fp => pg_of (X := X.blk s H scope (compEnvC scope cl C' X.env) fp) (E := enX X px) c.nd hcalm setS_blk rfl h3) ht' he' hs.2
  refine ps_imp main fun D σ H h => ?_
  have h2' : cS (enX X px) W G0 H0 tch (fun ρ => liftS ((bindR (evSrc C src ρ) fun ds => bindR (optR (szV ds)) fun ds => bindR (compL (turnL g (evIf C ifs) (evE C elt) ρ) ds) fun rs => some (.ok (RV.fr (.l rs)))) : EvR) ρ fun r => match r with
    | .dat d => some (.nx (ρ.set i (some (.dat d))))
    | .fr o => some (.nx (ρ.set i (some (.own o))))
    | .br _ => none) D σ H := by
    obtain ⟨ρ, G, g0, r, h⟩ := h
    refine ⟨ρ, G, g0, r, ?_⟩
    rw [runS, evE] at h
    exact h
  have := set_go (f := fun ρ => bindR (evSrc C src ρ) fun ds => bindR (optR (szV ds)) fun ds => bindR (compL (turnL g (evIf C ifs) (evE C elt) ρ) ds) fun rs => some (.ok (.fr (.l rs)))) D σ H h2' hi
  exact c_lc (pos := pos) c.toCc hs.1 h3 ht' he' σ H _ this
/-- name = {..} -/
theorem s_asgDc {X : Cx} {px : Option (Addr × Addr × Addr)} {C : Cfg} {W : WX} {k : Nat} {G0 H0 : Hp} {tch : List Nat} (c : Cs X px C W k false) {i : Nat} {y : Str} {py pos spos : Pos} {kx vx : IE} {g : Tg} {src : ISrc} {ifs : IO} {kl vl tg it : Expr} {fs : List Expr} {scope : Scope}
    (hi : i ∈ tch) (ht : tgB X.N X.env.scope i y = true) (hsw : swapD X.env.scope y py (.DictComp kl vl [⟨tg, it, fs, 0⟩] scope pos) = true) (hck : ckE X.N C false X.env.scope (.dc kx vx g src ifs) (.DictComp kl vl [⟨tg, it, fs, 0⟩] scope pos) = true) :
    PS X (.Assign [.Name y py] (.DictComp kl vl [⟨tg, it, fs, 0⟩] scope pos) spos) (cS (enX X px) W G0 H0 tch (runS C (.asg i (.dc kx vx g src ifs)))) := by
  obtain ⟨a1, a2⟩ := tgB_of ht
  have hsw : (decide (X.env.scope.names.lookup y = some .local) && (py.line == pos.line) && !(scope.names.any fun (n, k) => n == y && (k == .local || k == .cell))) = true := hsw
  simp only [Bool.and_eq_true, decide_eq_true_eq, Bool.not_eq_true'] at hsw
  obtain ⟨⟨s1, s2⟩, s3⟩ := hsw
  simp only [ckE, Bool.and_eq_true, Bool.not_eq_true', decide_eq_true_eq] at hck
  obtain ⟨⟨⟨⟨⟨⟨⟨_, _⟩, h1⟩, h2⟩, h3⟩, h4⟩, h5⟩, h6⟩ := hck
  have hs := sS C false src X px W k c.toCc it tg h1
  obtain ⟨hcalm, _, _⟩ := c.calm
  have hu : X.A.units < cLine := by have := c.toCc.units; omega
  have ht' : ∀ (s : Shared) (H : Hp) (C' : Addr) (cl : List (Str × Addr)) (fp : List Addr), PTs (X.blk s H scope (compEnvC scope cl C' X.env) fp) fs (cT (enX X px) WF (evIf C ifs)) := fun s H C' cl fp => (sO C false ifs _ px WF k (cc_blk c.toCc (s := s) (H := H) (scope := scope) (C' := C') (cl := cl) (fp := fp))).2 fs h4
  have hk' : ∀ (s : Shared) (H : Hp) (C' : Addr) (cl : List (Str × Addr)) (fp : List Addr), PE (X.blk s H scope (compEnvC scope cl C' X.env) fp) kl (cE (enX X px) WF (evE C kx)) := fun s H C' cl fp => (sE C false kx).1 _ px WF k (cc_blk c.toCc (s := s) (H := H) (scope := scope) (C' := C') (cl := cl) (fp := fp)) kl h5
  have hv' : ∀ (s : Shared) (H : Hp) (C' : Addr) (cl : List (Str × Addr)) (fp : List Addr), PE (X.blk s H scope (compEnvC scope cl C' X.env) fp) vl (cE (enX X px) WF (evE C vx)) := fun s H C' cl fp => (sE C false vx).1 _ px WF k (cc_blk c.toCc (s := s) (H := H) (scope := scope) (C' := C') (cl := cl) (fp := fp)) vl h6
  have main := ps_dm (spos := spos) hu hcalm c.nd a1 s1 (sw_dm (kx := kl) (vx := vl) (gs := [⟨tg, it, fs, 0⟩]) (l := spos.line) c.kd s1 s2 s3) hs.1 (blkOk_by h2) (fun s H C' cl fp => pg_of (X := X.blk s H scope (compEnvC scope cl C' X.env) fp) (E := enX X px) c.nd hcalm setS_blk rfl h3) ht' hk' hv' hs.2
  refine ps_imp main fun D σ H h => ?_
  have h2' : cS (enX X px) W G0 H0 tch (fun ρ => liftS ((bindR (evSrc C src ρ) fun ds => bindR (optR (szV ds)) fun ds => bindR (dcL (turnD g (evIf C ifs) (evE C kx) (evE C vx) ρ) ds [] []) fun o => some (.ok (RV.fr o))) : EvR) ρ fun r => match r with
    | .dat d => some (.nx (ρ.set i (some (.dat d))))
    | .fr o => some (.nx (ρ.set i (some (.own o))))
    | .br _ => none) D σ H := by
    obtain ⟨ρ, G, g0, r, h⟩ := h
    refine ⟨ρ, G, g0, r, ?_⟩
    rw [runS, evE] at h
    exact h
  have := set_go (f := fun ρ => bindR (evSrc C src ρ) fun ds => bindR (optR (szV ds)) fun ds => bindR (dcL (turnD g (evIf C ifs) (evE C kx) (evE C vx) ρ) ds [] []) fun o => some (.ok (.fr o))) D σ H h2' hi
  exact c_dm c.toCc (kl := kl) (vl := vl) (ifs := fs) hs.1 h3 σ H _ this
theorem s_kc {X : Cx} {px : Option (Addr × Addr × Addr)} {C : Cfg} {W : WX} {k : Nat} {G0 H0 : Hp} {tch : List Nat} (c : Cs X px C W k false) {j i : Nat} {as : IA} {e : Expr} (h : ckKc X.N C false X.env.scope j i as e = true) :
    PE X e (tK (enX X px) W G0 H0 tch fun ρ => giveS C.T[j]? ρ[i]? (evA C as ρ) ρ) := by
  unfold ckKc at h
  split at h
  · rename_i x px' y py es pos
    simp only [Bool.and_eq_true, decide_eq_true_eq] at h
    obtain ⟨⟨⟨h1, h2⟩, h3⟩, h4⟩ := h
    cases q : C.T[j]? with
    | none => rw [q] at h2; cases h2
    | some fn =>
      rw [q] at h2
      cases h2
      obtain ⟨g1, g2, _⟩ := gl_of rfl h1
      have := k_call (px := px) (W := W) (G0 := G0) (H0 := H0) (tch := tch) (py := py) (p := px') (pos := pos) c q g1 g2 h3 ((sA C false as).1 X px W k c.toCc es h4) (star_cons rfl) (plain_args h4)
      rw [q] at this
      exact this
  · cases h
theorem s_ks {X : Cx} {px : Option (Addr × Addr × Addr)} {C : Cfg} {W : WX} {k : Nat} {G0 H0 : Hp} {tch : List Nat} (c : Cs X px C W k false) {j i : Nat} {as : IA} {pos : Pos} : ∀ {pre : IA} {es : List Expr}, ckKs X.N C false X.env.scope j i as pre es = true →
    PE X (.BoolOp .And es pos) (tK (enX X px) W G0 H0 tch fun ρ => liftS (evK C pre ρ) ρ fun b => match b with
      | false => some (.rt (.dat (.bl false)))
      | true => giveS C.T[j]? ρ[i]? (evA C as ρ) ρ)
  | .nil, [e], h => pe_one (s_kc c h)
  | .nil, [], h => by simp [ckKs] at h
  | .nil, _ :: _ :: _, h => by simp [ckKs] at h
  | .cons a r, [], h => by simp [ckKs] at h
  | .cons a r, e :: es, h => by
    have h' : (ckE X.N C false X.env.scope a e && ckKs X.N C false X.env.scope j i as r es) = true := h
    rw [Bool.and_eq_true] at h'
    cases es with
    | nil => cases r <;> simp [ckKs] at h'
    | cons e2 es =>
      have q := k_and (G0 := G0) (H0 := H0) (tch := tch) (pos := pos) ((sE C false a).1 X px W k c.toCc e h'.1) (s_ks c (pos := pos) h'.2)
      have fe : (fun ρ => liftS (evE C a ρ) ρ fun x => match x with
          | .dat (.bl true) => liftS (evK C r ρ) ρ fun b => match b with
            | false => some (.rt (.dat (.bl false)))
            | true => giveS C.T[j]? ρ[i]? (evA C as ρ) ρ
          | .dat (.bl false) => some (.rt (.dat (.bl false)))
          | _ => none) = fun ρ => liftS (evK C (.cons a r) ρ) ρ fun b => match b with
            | false => some (.rt (.dat (.bl false)))
            | true => giveS C.T[j]? ρ[i]? (evA C as ρ) ρ := funext fun ρ => by
        show _ = liftS (bindR (evE C a ρ) fun x => match x with
          | .dat (.bl true) => evK C r ρ
          | .dat (.bl false) => some (.ok false)
          | _ => none) ρ _
        cases evE C a ρ with
        | none => rfl
        | some y =>
          cases y with
          | error e => rfl
          | ok x =>
            cases x with
            | fr o => rfl
            | br o => rfl
            | dat d =>
              cases d with
              | bl b => cases b <;> rfl
              | _ => rfl
      rw [← fe]
      exact q
section
theorem f_src {C : Cfg} {hh : Bool} {X : Cx} {px : Option (Addr × Addr × Addr)} {W : WX} {k : Nat} {G0 H0 : Hp} {js : List Nat} (c : Cc X px C W k hh) {tg e : Expr} : ∀ {src : ISrc}, ckSrc X.N C hh X.env.scope src e = true → PI X tg e (wF (enX X px) W G0 H0 js (evFor C src js)) ∧ ∀ x, foldedSetIterable e X.env x = pure x
  | .it a, h => by
    have h' : ckE X.N C hh X.env.scope a e = true := by simpa [ckSrc] using h
    refine ⟨?_, fold_of h'⟩
    by_cases hv : ∃ j, a = .var j
    · obtain ⟨j, rfl⟩ := hv
      cases e with
      | Name x p => exact f_var (show nmB X.N X.env.scope j x = true from h')
      | _ => simp [ckE] at h'
    · exact f_it (fun j z => hv ⟨j, z⟩) ((sE C hh a).1 X px W k c e h')
  | .range (.cons a .nil), h => by
    cases e with
    | Call f es ks pos =>
      cases f with
      | Name x p =>
        match es, ks, h with
        | [e], [], h =>
          simp only [ckSrc, Bool.and_eq_true, decide_eq_true_eq] at h
          obtain ⟨⟨h1, h2⟩, h3⟩ := h
          subst h2
          refine ⟨f_range ?_, fun _ => rfl⟩
          have e1 : evSrc C (.range (.cons a .nil)) = fun ρ => bindR (evA C (.cons a .nil) ρ) fun rs => optR (rangeV rs) := funext fun ρ => by rw [evSrc]
          rw [e1]
          exact i_range1 (gl_of rfl h1).1 (c.tab.blt _ (by decide +kernel)) (star_cons (ck_star h3)) ((sA C hh (.cons a .nil)).1 X px W k c [e] (by simp only [ckA, Bool.and_eq_true]; exact ⟨h3, trivial⟩)) fun ρ rs e => evA_len e
        | [_], _ :: _, h => simp [ckSrc] at h
        | [], _, h => simp [ckSrc] at h
        | _ :: _ :: _, _, h => simp [ckSrc] at h
      | _ => simp [ckSrc] at h
    | _ => simp [ckSrc] at h
  | .range (.cons a (.cons b .nil)), h => by
    cases e with
    | Call f es ks pos =>
      cases f with
      | Name x p =>
        match es, ks, h with
        | [e, e2], [], h =>
          simp only [ckSrc, Bool.and_eq_true, decide_eq_true_eq] at h
          obtain ⟨⟨⟨h1, h2⟩, h3⟩, h4⟩ := h
          subst h2
          refine ⟨f_range ?_, fun _ => rfl⟩
          have e1 : evSrc C (.range (.cons a (.cons b .nil))) = fun ρ => bindR (evA C (.cons a (.cons b .nil)) ρ) fun rs => optR (rangeV rs) := funext fun ρ => by rw [evSrc]
          rw [e1]
          exact i_range2 (gl_of rfl h1).1 (c.tab.blt _ (by decide +kernel)) (by rw [star_cons (ck_star h3), star_cons (ck_star h4)]; rfl) (star_cons (ck_star h4)) ((sA C hh (.cons a (.cons b .nil))).1 X px W k c [e, e2] (by simp only [ckA, Bool.and_eq_true]; exact ⟨h3, h4, trivial⟩)) fun ρ rs e => evA_len e
        | [_, _], _ :: _, h => simp [ckSrc] at h
        | [], _, h => simp [ckSrc] at h
        | [_], _, h => simp [ckSrc] at h
        | _ :: _ :: _ :: _, _, h => simp [ckSrc] at h
      | _ => simp [ckSrc] at h
    | _ => simp [ckSrc] at h
  | .range .nil, h => by cases e <;> simp [ckSrc] at h
  | .range (.cons _ (.cons _ (.cons _ _))), h => by cases e <;> simp [ckSrc] at h
  | .rev (.cons a .nil), h => by
    cases e with
    | Call f es ks pos =>
      cases f with
      | Name x p =>
        match es, ks, h with
        | [e], [], h =>
          simp only [ckSrc, Bool.and_eq_true, decide_eq_true_eq] at h
          obtain ⟨⟨h1, h2⟩, h3⟩ := h
          subst h2
          refine ⟨f_rev ?_, fun _ => rfl⟩
          have e1 : evSrc C (.rev (.cons a .nil)) = fun ρ => bindR (evA C (.cons a .nil) ρ) fun rs => optR (revV rs) := funext fun ρ => by rw [evSrc]
          rw [e1]
          exact i_rev (fun _ _ _ _ ⟨_, x, y⟩ => x.trans y) (gl_of rfl h1).1 (c.tab.blt _ (by decide +kernel)) (star_cons (ck_star h3)) ((sA C hh (.cons a .nil)).1 X px W k c [e] (by simp only [ckA, Bool.and_eq_true]; exact ⟨h3, trivial⟩))
        | [_], _ :: _, h => simp [ckSrc] at h
        | [], _, h => simp [ckSrc] at h
        | _ :: _ :: _, _, h => simp [ckSrc] at h
      | _ => simp [ckSrc] at h
    | _ => simp [ckSrc] at h
  | .revR a, h => by
    cases e with
    | Call f es ks pos =>
      cases f with
      | Name x p =>
        match es, ks, h with
        | [.Call (.Name y p2) [e] [] pos2], [], h =>
          simp only [ckSrc, Bool.and_eq_true, decide_eq_true_eq] at h
          obtain ⟨⟨⟨⟨h1, h2⟩, h3⟩, h4⟩, h5⟩ := h
          subst h2 h4
          refine ⟨f_revR ?_, fun _ => rfl⟩
          have e1 : evSrc C (.revR a) = fun ρ => bindR (evE C a ρ) fun x => optR (rvrV x) := funext fun ρ => by rw [evSrc]
          rw [e1]
          exact i_revR (gl_of rfl h1).1 (c.tab.blt _ (by decide +kernel)) (gl_of rfl h3).1 (c.tab.blt _ (by decide +kernel)) (star_cons (ck_star h5)) ((sE C hh a).1 X px W k c e h5)
      | _ => simp [ckSrc] at h
    | _ => simp [ckSrc] at h
  | .rev .nil, h => by cases e <;> simp [ckSrc] at h
  | .rev (.cons _ (.cons _ _)), h => by cases e <;> simp [ckSrc] at h
mutual
theorem sSt : ∀ s : IS, SSt s
  | .asg i e => fun C hh X px W k G0 H0 tch c M st ht h => by
    rw [ckS] at h
    cases hv : vName st with
    | none => rw [hv] at h; cases h
    | some t =>
      obtain ⟨x, p, v⟩ := t
      rw [hv] at h
      obtain ⟨pos, rfl⟩ := vName_eq hv
      simp only [Bool.and_eq_true, Bool.or_eq_true] at h
      obtain ⟨⟨h1, h2⟩, h3⟩ := h
      have hi : i ∈ tch := ht i (List.mem_singleton_self i)
      cases hn : notComp v with
      | true => exact ps_fn (s_asg c hi h1 ((sE C hh e).1 X px W k c.toCc v h2) (swaps_no hn)) fun ρ => by rw [runS] <;> rfl
      | false =>
       rw [hn] at h3
       cases hcl : cellB X.env.scope x v with
       | true => exact ps_fn (s_asg c hi h1 ((sE C hh e).1 X px W k c.toCc v h2) (swaps_cell hcl)) fun ρ => by rw [runS] <;> rfl
       | false =>
        rw [hcl] at h3
        cases hsd : swapD X.env.scope x p v with
        | true =>
         cases v with
         | DictComp kl vl gens scope pos2 =>
           cases e with
           | dc kx vx g src ifs =>
             match gens, h2, hsd with
             | [⟨tg, it, fs, asy⟩], h2, hsd =>
               have h2c := h2
               simp only [ckE, Bool.and_eq_true, Bool.not_eq_true', decide_eq_true_eq] at h2c
               obtain ⟨⟨⟨⟨⟨⟨⟨ha, h0⟩, _⟩, _⟩, _⟩, _⟩, _⟩, _⟩ := h2c
               subst ha
               subst h0
               exact s_asgDc c hi h1 hsd h2
             | [], h2, _ => simp [ckE] at h2
             | _ :: _ :: _, h2, _ => simp [ckE] at h2
           | _ => simp [ckE] at h2
         | _ => simp [swapD] at hsd
        | false =>
        rw [hsd] at h3
        have h3 : swapB X.env.scope x p v = true := by simpa using h3
        cases v with
        | ListComp el gens scope pos2 =>
          cases e with
          | lc elt g src ifs =>
            match gens, h2, h3 with
            | [⟨tg, it, fs, asy⟩], h2, h3 =>
              have h2c := h2
              simp only [ckE, Bool.and_eq_true, Bool.not_eq_true', decide_eq_true_eq] at h2c
              obtain ⟨⟨⟨⟨⟨⟨ha, h0⟩, _⟩, _⟩, _⟩, _⟩, _⟩ := h2c
              subst ha
              subst h0
              exact s_asgLc c hi h1 h3 h2
            | [], h2, _ => simp [ckE] at h2
            | _ :: _ :: _, h2, _ => simp [ckE] at h2
          | _ => simp [ckE] at h2
        | _ => simp [swapB] at h3
  | .asgT is e => fun C hh X px W k G0 H0 tch c M st ht h => by
    rw [ckS] at h
    cases hv : vTup st with
    | none => rw [hv] at h; cases h
    | some t =>
      obtain ⟨es, v⟩ := t
      rw [hv] at h
      obtain ⟨a, b, pos, rfl⟩ := vTup_eq hv
      simp only [Bool.and_eq_true, Bool.not_eq_true'] at h
      obtain ⟨⟨⟨⟨h0, h1⟩, h2⟩, h3⟩, h4⟩ := h
      subst h0
      exact ps_fn (s_asgT c c.calm.1 (fun i hi => ht i hi) h1 ((sE C false e).1 X px W k c.toCc v h2) h3 (fun a b d z => by rw [z] at h4; cases h4)) fun ρ => by rw [runS] <;> rfl
  | .setL i kx e => fun C hh X px W k G0 H0 tch c M st ht h => by
    rw [ckS] at h
    cases hv : vSub st with
    | none => rw [hv] at h; cases h
    | some t =>
      obtain ⟨x, y, v⟩ := t
      rw [hv] at h
      obtain ⟨a, b, pos, rfl⟩ := vSub_eq hv
      simp only [Bool.and_eq_true] at h
      obtain ⟨⟨⟨h1, h2⟩, h3⟩, h4⟩ := h
      exact ps_fn (s_setL c (ht i (List.mem_singleton_self i)) h1 h2 ((sE C hh kx).1 X px W k c.toCc y h2) ((sE C hh e).1 X px W k c.toCc v h3) h4) fun ρ => by rw [runS] <;> rfl
  | .setD i kx e => fun C hh X px W k G0 H0 tch c M st ht h => by
    rw [ckS] at h
    cases hv : vSub st with
    | none => rw [hv] at h; cases h
    | some t =>
      obtain ⟨x, y, v⟩ := t
      rw [hv] at h
      obtain ⟨a, b, pos, rfl⟩ := vSub_eq hv
      simp only [Bool.and_eq_true] at h
      obtain ⟨⟨⟨h1, h2⟩, h3⟩, h4⟩ := h
      exact ps_fn (s_setD c (ht i (List.mem_singleton_self i)) h1 ((sE C hh kx).1 X px W k c.toCc y h2) ((sE C hh e).1 X px W k c.toCc v h3) h4) fun ρ => by rw [runS] <;> rfl
  | .app i e => fun C hh X px W k G0 H0 tch c M st ht h => by
    rw [ckS] at h
    cases hv : vApp st with
    | none => rw [hv] at h; cases h
    | some t =>
      obtain ⟨x, m, ap, v, cp⟩ := t
      rw [hv] at h
      obtain ⟨a, pos, rfl⟩ := vApp_eq hv
      simp only [Bool.and_eq_true, decide_eq_true_eq] at h
      obtain ⟨⟨⟨h1, h2⟩, h3⟩, h4⟩ := h
      subst h2
      exact ps_fn (s_app c (ht i (List.mem_singleton_self i)) h1 h3 h4 ((sE C hh e).1 X px W k c.toCc v h4)) fun ρ => by rw [runS] <;> rfl
  | .popD i e => fun C hh X px W k G0 H0 tch c M st ht h => by
    rw [ckS] at h
    cases hv : vApp st with
    | none => rw [hv] at h; cases h
    | some t =>
      obtain ⟨x, m, ap, v, cp⟩ := t
      rw [hv] at h
      obtain ⟨a, pos, rfl⟩ := vApp_eq hv
      simp only [Bool.and_eq_true, decide_eq_true_eq] at h
      obtain ⟨⟨⟨h1, h2⟩, h3⟩, h4⟩ := h
      subst h2
      exact ps_fn (s_popD c (ht i (List.mem_singleton_self i)) h1 h3 h4 ((sE C hh e).1 X px W k c.toCc v h4)) fun ρ => by rw [runS] <;> rfl
  | .expr e => fun C hh X px W k G0 H0 tch c M st ht h => by
    rw [ckS] at h
    cases hv : vExpr st with
    | none => rw [hv] at h; cases h
    | some v =>
      rw [hv] at h
      obtain ⟨pos, rfl⟩ := vExpr_eq hv
      simp only [Bool.and_eq_true] at h
      exact ps_fn (s_expr ((sE C hh e).1 X px W k c.toCc v h.1) h.2) fun ρ => by rw [runS]
  | .iff cx a b => fun C hh X px W k G0 H0 tch c M st ht h => by
    rw [ckS] at h
    cases hv : vIf st with
    | none => rw [hv] at h; cases h
    | some t =>
      obtain ⟨x, sa, sb⟩ := t
      rw [hv] at h
      obtain ⟨pos, rfl⟩ := vIf_eq hv
      simp only [Bool.and_eq_true] at h
      obtain ⟨⟨h1, h2⟩, h3⟩ := h
      exact ps_fn (s_iff ((sE C hh cx).2 X px W k c.toCc x h1) (sBl a C hh X px W k G0 H0 tch c M sa (fun i hi => ht i (List.mem_append_left _ hi)) h2) (sBl b C hh X px W k G0 H0 tch c M sb (fun i hi => ht i (List.mem_append_right _ hi)) h3)) fun ρ => by rw [runS] <;> rfl
  | .forr g src b => fun C hh X px W k G0 H0 tch c M st ht h => by
    rw [ckS] at h
    cases hv : vFor st with
    | none => rw [hv] at h; cases h
    | some t =>
      obtain ⟨tg, it, s⟩ := t
      rw [hv] at h
      obtain ⟨pos, rfl⟩ := vFor_eq hv
      simp only [Bool.and_eq_true, Bool.not_eq_true'] at h
      obtain ⟨⟨⟨h0, h1⟩, h2⟩, h3⟩ := h
      subst h0
      obtain ⟨f1, f2⟩ := f_src (G0 := G0) (H0 := H0) (js := g.slots ++ tchB b) c.toCc (tg := tg) h2
      exact ps_fn (s_for c c.calm.1 (js := g.slots ++ tchB b) (rb := runB C b) (fun i hi => ht i hi) (fun i hi => List.mem_append_left _ hi) (fun ρ => (keepsB b C ρ).mono fun i hi => List.mem_append_right _ hi) f1 h1
        (fun G1 => sBl b C false X px W k G1 H0 (g.slots ++ tchB b) c M s (fun i hi => List.mem_append_right _ hi) h3) f2) fun ρ => by rw [runS] <;> rfl
  | .whil cx b => fun C hh X px W k G0 H0 tch c M st ht h => by
    rw [ckS] at h
    cases hv : vWhile st with
    | none => rw [hv] at h; cases h
    | some t =>
      obtain ⟨x, s⟩ := t
      rw [hv] at h
      obtain ⟨pos, rfl⟩ := vWhile_eq hv
      simp only [Bool.and_eq_true] at h
      exact ps_fn (s_while (n := C.fuel) c ((sE C hh cx).2 X px W k c.toCc x h.1) (sBl b C hh X px W k G0 H0 tch c M s (fun i hi => ht i hi) h.2)) fun ρ => by rw [runS]
  | .ret e => fun C hh X px W k G0 H0 tch c M st ht h => by
    rw [ckS] at h
    cases hv : vRet st with
    | none => rw [hv] at h; cases h
    | some t =>
      rw [hv] at h
      obtain ⟨pos, rfl⟩ := vRet_eq hv
      cases t with
      | none => cases h
      | some v => exact ps_fn (s_ret ((sE C hh e).1 X px W k c.toCc v h)) fun ρ => by rw [runS] <;> rfl
  | .retV i => fun C hh X px W k G0 H0 tch c M st ht h => by
    rw [ckS] at h
    cases hv : vRetN st with
    | none => rw [hv] at h; cases h
    | some x =>
      rw [hv] at h
      obtain ⟨p, pos, rfl⟩ := vRetN_eq hv
      exact ps_fn (s_retV h) fun ρ => by rw [runS] <;> rfl
  | .retN => fun C hh X px W k G0 H0 tch c M st ht h => by
    rw [ckS] at h
    cases hv : vRet st with
    | none => rw [hv] at h; cases h
    | some t =>
      rw [hv] at h
      obtain ⟨pos, rfl⟩ := vRet_eq hv
      cases t with
      | none => exact ps_fn s_retN fun ρ => by rw [runS]
      | some v => cases h
  | .retK pre j i as => fun C hh X px W k G0 H0 tch c M st ht h => by
    rw [ckS] at h
    cases hv : vRet st with
    | none => rw [hv] at h; cases h
    | some t =>
      rw [hv] at h
      obtain ⟨pos, rfl⟩ := vRet_eq hv
      cases t with
      | none => cases h
      | some e =>
        simp only [Bool.and_eq_true, Bool.not_eq_true'] at h
        obtain ⟨h0, h1⟩ := h
        subst h0
        have only : ∀ ρ, onlyR (runS C (.retK pre j i as) ρ) := fun ρ => by
          rw [runS]
          refine onlyR_lift fun b => ?_
          cases b with
          | false => trivial
          | true => exact onlyR_give
        refine s_retK ?_ only
        have eq : runS C (.retK pre j i as) = fun ρ => liftS (evK C pre ρ) ρ fun b => match b with
          | false => some (.rt (.dat (.bl false)))
          | true => giveS C.T[j]? ρ[i]? (evA C as ρ) ρ := funext fun ρ => by rw [runS] <;> rfl
        rw [eq]
        cases pre with
        | nil => exact s_kc c h1
        | cons a r =>
          cases e with
          | BoolOp op es p =>
            cases op with
            | And => exact s_ks c h1
            | Or => simp [ckK] at h1
          | _ => simp [ckK] at h1
  | .rais cn as => fun C hh X px W k G0 H0 tch c M st ht h => by
    rw [ckS] at h
    cases hv : vRais st with
    | none => rw [hv] at h; cases h
    | some t =>
      obtain ⟨x, es⟩ := t
      rw [hv] at h
      obtain ⟨a, b, pos, rfl⟩ := vRais_eq hv
      simp only [Bool.and_eq_true, Bool.not_eq_true', decide_eq_true_eq] at h
      obtain ⟨⟨⟨h0, h1⟩, h2⟩, h3⟩ := h
      subst h0
      subst h2
      obtain ⟨g1, g2, _⟩ := gl_of rfl h1
      cases hC : C.mkE cn with
      | none => exact ps_fn s_never fun ρ => by rw [runS, hC]
      | some f =>
        cases es with
        | nil =>
          cases as with
          | nil => exact ps_fn (s_rais0 c c.calm.1 c.calm.2.2 (M rfl) hC g1 g2) fun ρ => by rw [runS, hC, evA] <;> rfl
          | cons a r => simp [ckA] at h3
        | cons e es =>
          cases as with
          | nil => simp [ckA] at h3
          | cons a2 r =>
            have h3' := h3
            rw [ckA, Bool.and_eq_true] at h3'
            exact ps_fn (s_rais c c.calm.1 c.calm.2.2 (M rfl) hC g1 g2 ((sA C false (.cons a2 r)).1 X px W k c.toCc (e :: es) h3) (star_cons (ck_star h3'.1)) (fun pos => plain_args h3'.2)) fun ρ => by rw [runS, hC]
  | .tri b cn i s => fun C hh X px W k G0 H0 tch c M st ht h => by
    rw [ckS] at h
    cases hv : vTry st with
    | none => rw [hv] at h; cases h
    | some t =>
      obtain ⟨body, x, n, s0, r⟩ := t
      rw [hv] at h
      obtain ⟨p1, p2, pos, rfl⟩ := vTry_eq hv
      simp only [Bool.and_eq_true, Bool.not_eq_true', decide_eq_true_eq] at h
      obtain ⟨⟨⟨⟨⟨⟨⟨h0, h1⟩, h2⟩, h3⟩, h4⟩, h5⟩, h6⟩, h7⟩ := h
      subst h0
      subst h4
      obtain ⟨g1, g2, _⟩ := gl_of rfl h3
      obtain ⟨_, hp, _⟩ := c.calm
      subst hp
      exact ps_fn (s_tri c (rb := runB C b) (rs := runB C.hot s) (ht i List.mem_cons_self) h1 g1 g2 h5 h6
        (fun W' pn xe c' => sBl b C false (X.tr pn xe) none W' k G0 H0 tch c' (fun _ => ⟨(M rfl).of⟩) body (fun j hj => ht j (List.mem_cons_of_mem _ (List.mem_append_left _ hj))) h2)
        (fun a CA dd oe pn c' => sBl s C.hot true (X.suite a ((a, oe) :: pn)) (some (a, CA, dd)) WF k G0 H0 tch c' (fun z => nomatch z) (s0 :: r) (fun j hj => ht j (List.mem_cons_of_mem _ (List.mem_append_right _ hj))) h7)) fun ρ => by rw [runS] <;> rfl
  | .brk => fun C hh X px W k G0 H0 tch c M st ht h => by
    rw [ckS] at h
    obtain ⟨pos, rfl⟩ := vBrk_eq h
    exact ps_fn s_brk fun ρ => by rw [runS]
  | .cnt => fun C hh X px W k G0 H0 tch c M st ht h => by
    rw [ckS] at h
    obtain ⟨pos, rfl⟩ := vCnt_eq h
    exact ps_fn s_cnt fun ρ => by rw [runS]
  | .pas => fun C hh X px W k G0 H0 tch c M st ht h => by
    rw [ckS] at h
    obtain ⟨pos, rfl⟩ := vPas_eq h
    exact ps_fn s_pas fun ρ => by rw [runS]
theorem sBl : ∀ b : IB, SBl b
  | .nil => fun C hh X px W k G0 H0 tch c M st ht h => by
    unfold ckB at h
    cases st with
    | nil => exact pss_fn ss_nil fun ρ => by rw [runB]
    | cons s r => cases h
  | .cons s r => fun C hh X px W k G0 H0 tch c M st ht h => by
    unfold ckB at h
    cases st with
    | nil => cases h
    | cons t ts =>
      simp only [Bool.and_eq_true] at h
      exact pss_fn (ss_cons (sSt s C hh X px W k G0 H0 tch c M t (fun i hi => ht i (List.mem_append_left _ hi)) h.1) (sBl r C hh X px W k G0 H0 tch c M ts (fun i hi => ht i (List.mem_append_right _ hi)) h.2)) fun ρ => by rw [runB] <;> rfl
  | .frz i r => fun C hh X px W k G0 H0 tch c M st ht h0 => by
    have h : ckB X.N C hh X.env.scope r st = true := by
      unfold ckB at h0
      exact h0
    exact pss_fn (ss_frz (sBl r C hh X px W k G0 H0 tch c M st (fun j hj => ht j (List.mem_cons_of_mem _ hj)) h)) fun ρ => by rw [runB] <;> rfl
  | .kil is r => fun C hh X px W k G0 H0 tch c M st ht h0 => by
    have h : ckB X.N C hh X.env.scope r st = true := by
      unfold ckB at h0
      exact h0
    exact pss_fn (ss_kil (sBl r C hh X px W k G0 H0 tch c M st (fun j hj => ht j (List.mem_append_right _ hj)) h)) fun ρ => by rw [runB]
end
end
end DE

set_option Elab.async false
set_option linter.all false
set_option maxRecDepth 100000
set_option maxHeartbeats 8000000
/-! DE9: defs by their bodies. -/
namespace DE
open PySem PySem.Spec PyProof.Rows L2
theorem FnFact.mono {P : Program} {w : World} {K : PySem.W.Frag} {mg : Str → Option Value} {base : Heap} {fn : Fn} {j k : Nat} (F : FnFact P w K mg base fn j) (h : j ≤ k) : FnFact P w K mg base fn k := by
  obtain ⟨f, fd, ps, h1, h2, h3, h4⟩ := F.ex
  exact ⟨f, fd, ps, h1, h2, h3, h4.mono h⟩
theorem FnHFact.mono {P : Program} {w : World} {K : PySem.W.Frag} {mg : Str → Option Value} {base : Heap} {fn : Fn} {j k : Nat} (F : FnHFact P w K mg base fn j) (h : j ≤ k) : FnHFact P w K mg base fn k := by
  obtain ⟨f, fd, ps, h1, h2, h3, h4⟩ := F.ex
  exact ⟨f, fd, ps, h1, h2, h3, ⟨fun A outer s H args us vs Q p C dd hr => h4.run A outer s H args us vs Q p C dd (hr.mono h), h4.len⟩⟩
/-- what all bodies of a text lean on -/
structure Txt (P : Program) (w : World) (K : PySem.W.Frag) (mg : Str → Option Value) (base : Heap) (C : Cfg) (k : Nat) : Prop where
  tab : Tab ⟨K, mg, none⟩ C
  T : ∀ (j : Nat) (fn : Fn), C.T[j]? = some fn → FnFact P w K mg base fn k
  H : ∀ (j : Nat) (fn : Fn), C.H[j]? = some fn → FnHFact P w K mg base fn k
  M : ∀ c f, C.mkE c = some f → ∃ (fields : List Str) (word : Str) (j : Nat), f = mkEr c fields word ∧ fields.length ≤ 100 ∧ j + 1 ≤ k ∧ ErrC P w K mg base c fields word j
theorem rep_start {E : En} {G H : Hp} {N ps : List Str} {vs : List V} {ds : List D} (hl : ds.length = ps.length) (hN : ps.length ≤ N.length) (dd : Dens E G ds vs) : Rep E H G H (L2.start N vs) (ds.map (fun d => some (.dat d)) ++ List.replicate (N.length - ps.length) none) := by
  have hv : vs.length = ds.length := dd.length
  refine ⟨?_, fun i lv e => ?_, fun i o l e => ?_, fun i j o o' v _ e => ?_⟩
  · unfold L2.start
    rw [List.length_append, List.length_append, List.length_map, List.length_map, List.length_replicate, List.length_replicate]
    omega
  · have key : ∃ d, lv = .dat d ∧ ds[i]? = some d := by
      by_cases hi : i < ds.length
      · rw [List.getElem?_append_left (by simpa using hi), List.getElem?_map] at e
        cases q : ds[i]? with
        | none => rw [q] at e; cases e
        | some d => rw [q] at e; cases e; exact ⟨d, rfl, rfl⟩
      · rw [List.getElem?_append_right (by simpa using hi), List.getElem?_replicate] at e
        split at e <;> cases e
    obtain ⟨d, rfl, ed⟩ := key
    obtain ⟨v, e1, e2⟩ := dd.get ed
    refine ⟨v, ?_, e2⟩
    have hi : i < vs.length := by
      have := (List.getElem?_eq_some_iff.mp e1).1
      exact this
    unfold L2.start
    rw [List.getElem?_append_left (by simpa using hi), List.getElem?_map, e1]
    rfl
  · exfalso
    by_cases hi : i < ds.length
    · rw [List.getElem?_append_left (by simpa using hi), List.getElem?_map] at e
      cases q : ds[i]? with
      | none => rw [q] at e; cases e
      | some d => rw [q] at e; cases e
    · rw [List.getElem?_append_right (by simpa using hi), List.getElem?_replicate] at e
      split at e <;> cases e
  · exfalso
    by_cases hi : i < ds.length
    · rw [List.getElem?_append_left (by simpa using hi), List.getElem?_map] at e
      cases q : ds[i]? with
      | none => rw [q] at e; cases e
      | some d => rw [q] at e; cases e
    · rw [List.getElem?_append_right (by simpa using hi), List.getElem?_replicate] at e
      split at e <;> cases e
section
variable {P : Program} {w : World} {K : PySem.W.Frag} {mg : Str → Option Value} {base : Heap} {f : Addr} {fname name qual : Str} {params : Arguments} {body : List Stmt} {scope : Scope} {dV kV doc pm cdv ct oc : Value} {an od : Option Addr} {osl : Array (Option Value)} {C : Cfg} {k n : Nat} {N ps : List Str} {b : IB}
/-- the end of a body by data -/
theorem body_rs {E : En} {W : WX} {G H : Hp} {σ : L2.St} {Q : VK} {Ee : XK} {ds : List D} {tch : List Nat} (hW : ∀ cls d σ H', Ee cls d H' → W cls d σ H')
    (q : QA E (fun cls d _ H' => Ee cls d H') [] G H (fun r G' H' => isBr r = false ∧ ∀ v, DenR E G' H' H r v → Q v H') ((mkFn C fname n N.length b).m ds)) :
    RS E W G H tch σ { nx := fun _ H' => Q .non H', rt := Q } (runB C b (ds.map (fun d => some (.dat d)) ++ List.replicate (N.length - n) none)) := by
  unfold mkFn at q
  dsimp only at q
  cases e : runB C b (ds.map (fun d => some (.dat d)) ++ List.replicate (N.length - n) none) with
  | none => rw [e] at q; exact q.elim
  | some y =>
    rw [e] at q
    cases y with
    | nx ρ' => exact fun σ' G' H' a b o => (q G' H' a).2 _ rfl
    | bk ρ' => exact q.elim
    | ct ρ' => exact q.elim
    | rt r => exact fun v G' H' a d nb => (q G' H' a).2 v d
    | er e ρ' => exact fun cls d σ' G' H' a b o dx => hW _ _ _ _ (q cls d G' H' a dx)
theorem fn_ok (lk : K.lookup f = some ⟨oc, od, .func (PySem.W.fnOf name qual params body scope dV kV doc pm an cdv ct), osl⟩) (hcd : PySem.W.codeIn K cdv qual = true) (S : FnScope N ps scope) (hn : ps.length = n) (hck : ckB N C false scope b body = true) (T : Txt P w K mg base C k) : FnOk P w K mg base (L2N.CX P w) (k + 1) f (PySem.W.fnOf name qual params body scope dV kV doc pm an cdv ct) ps (spM ⟨K, mg, none⟩ (mkFn C fname n N.length b)) := by
  have hpl : ps.length ≤ N.length := by have := congrArg List.length S.pre; rw [List.length_take] at this; omega
  refine fn_of lk hcd S (fun vs H Q E h => ?_) fun A outer s H vs Q E hr h => ?_
  · obtain ⟨ds, G, _, h2, h3, _⟩ := h
    rw [h2.length, h3]
    exact hn.symm
  · obtain ⟨ds, G, i, dd, hl, q⟩ := h
    have hl : ds.length = n := hl
    let X := cxOf (L2N.CX P w) P w K mg base N qual scope f cdv A outer s H E
    have hX : L2N.Takes X (fun cls d _ H' => E cls d H') := takes_cx (k := 0)
    have c : Cs X none C (fun cls d _ H' => E cls d H') k false := ⟨⟨S.nd, hX, ⟨T.tab.isa, T.tab.fld, T.tab.blt⟩, .calm rfl rfl hr T.T⟩, S.kind, fun x hx => ⟨loc_of rfl hx, .inl rfl⟩, passes_of (X := X) (K := fun e s'' => L2N.CX P w outer H s E e s'') (E₁ := fun e s'' => L2N.CX P w outer H s E e s'') rfl, rfl, rfl, fun _ => T.H⟩
    refine ⟨_, sBl b C false X none _ k G H (tchB b) c (fun _ => ⟨T.M⟩) body (fun i h => h) hck, ?_⟩
    refine ⟨_, G, Gr.refl i, rep_start (N := N) (ps := ps) (by omega) hpl dd, ?_⟩
    rw [hn]
    exact body_rs (fun _ _ _ _ h => h) q
theorem rep_startO {E : En} {G H : Hp} {N ps : List Str} {vs : List V} {ds : List D} {l : Addr} {o : OV} (hl : ds.length + 1 = ps.length) (hN : ps.length ≤ N.length) (hg : G l = none) (ho : DenO E G H l o) (dd : Dens E G ds vs) :
    Rep E (hid H l) G H (L2.start N (.ref l :: vs)) (some (.own o) :: (ds.map (fun d => some (.dat d)) ++ List.replicate (N.length - ps.length) none)) := by
  have hv : vs.length = ds.length := dd.length
  have e0 : L2.start N (.ref l :: vs) = some (.ref l) :: (vs.map some ++ List.replicate (N.length - (vs.length + 1)) none) := by
    unfold L2.start
    rw [List.map_cons, List.length_cons, List.cons_append]
  rw [e0]
  have tail : ∀ (i : Nat) (lv : LV), (ds.map (fun d => some (LV.dat d)) ++ List.replicate (N.length - ps.length) none)[i]? = some (some lv) → ∃ d, lv = .dat d ∧ ds[i]? = some d := fun i lv e => by
    by_cases hi : i < ds.length
    · rw [List.getElem?_append_left (by simpa using hi), List.getElem?_map] at e
      cases q : ds[i]? with
      | none => rw [q] at e; cases e
      | some d => rw [q] at e; cases e; exact ⟨d, rfl, rfl⟩
    · rw [List.getElem?_append_right (by simpa using hi), List.getElem?_replicate] at e
      split at e <;> cases e
  refine ⟨?_, fun i lv e => ?_, fun i o' l' e e' => ?_, fun i j o1 o2 v ne e1 e2 _ => ?_⟩
  · simp only [List.length_cons, List.length_append, List.length_map, List.length_replicate]
    omega
  · cases i with
    | zero =>
      cases e
      exact ⟨.ref l, rfl, l, rfl, hg, ho⟩
    | succ i =>
      rw [List.getElem?_cons_succ] at e
      obtain ⟨d, rfl, ed⟩ := tail i lv e
      obtain ⟨v, e1, e2⟩ := dd.get ed
      refine ⟨v, ?_, e2⟩
      have hi : i < vs.length := (List.getElem?_eq_some_iff.mp e1).1
      rw [List.getElem?_cons_succ, List.getElem?_append_left (by simpa using hi), List.getElem?_map, e1]
      rfl
  · cases i with
    | zero =>
      cases e'
      exact hid_at
    | succ i =>
      rw [List.getElem?_cons_succ] at e
      obtain ⟨d, z, _⟩ := tail i _ e
      cases z
  · cases i with
    | zero =>
      cases j with
      | zero => exact absurd rfl ne
      | succ j =>
        rw [List.getElem?_cons_succ] at e2
        obtain ⟨d, z, _⟩ := tail j _ e2
        cases z
    | succ i =>
      rw [List.getElem?_cons_succ] at e1
      obtain ⟨d, z, _⟩ := tail i _ e1
      cases z
theorem dOV_d (o : OV) : dOV o.d = some o := by cases o <;> rfl
theorem fn_okO (lk : K.lookup f = some ⟨oc, od, .func (PySem.W.fnOf name qual params body scope dV kV doc pm an cdv ct), osl⟩) (hcd : PySem.W.codeIn K cdv qual = true) (S : FnScope N ps scope) (hn : ps.length = n) (hck : ckB N C false scope b body = true) (T : Txt P w K mg base C k) : FnOk P w K mg base (L2N.CX P w) (k + 1) f (PySem.W.fnOf name qual params body scope dV kV doc pm an cdv ct) ps (spM ⟨K, mg, none⟩ (mkFnO C fname n N.length b)) := by
  have hpl : ps.length ≤ N.length := by have := congrArg List.length S.pre; rw [List.length_take] at this; omega
  refine fn_of lk hcd S (fun vs H Q E h => (spM_len h).trans hn.symm) fun A outer s H vs Q E hr h => ?_
  obtain ⟨ds, G, l, o, ws, r, i, rfl, gl, ho, dd, hl, em, _, q⟩ := (spM_o rfl).mp h
  have hl : ds.length + 1 = n := hl
  let X := cxOf (L2N.CX P w) P w K mg base N qual scope f cdv A outer s H E
  have hX : L2N.Takes X (fun cls d _ H' => E cls d H') := takes_cx (k := 0)
  have c : Cs X none C (fun cls d _ H' => E cls d H') k false := ⟨⟨S.nd, hX, ⟨T.tab.isa, T.tab.fld, T.tab.blt⟩, .calm rfl rfl hr T.T⟩, S.kind, fun x hx => ⟨loc_of rfl hx, .inl rfl⟩, passes_of (X := X) (K := fun e s'' => L2N.CX P w outer H s E e s'') (E₁ := fun e s'' => L2N.CX P w outer H s E e s'') rfl, rfl, rfl, fun _ => T.H⟩
  refine ⟨_, sBl b C false X none _ k G (hid H l) (tchB b) c (fun _ => ⟨T.M⟩) body (fun i h => h) hck, ?_⟩
  refine ⟨_, G, ⟨Ex.refl _, hid_ex, i, fun b h _ => h⟩, rep_startO (N := N) (ps := ps) (by omega) hpl gl ho dd, ?_⟩
  have em : ((match dOV o.d with
      | some o => match runB C b (some (.own o) :: (ds.map (fun d => some (.dat d)) ++ List.replicate (N.length - n) none)) with
        | some (.nx _) => some (.ok (.dat .non))
        | some (.rt r) => some (.ok r)
        | some (.er e _) => some (.error e)
        | _ => none
      | none => none) : EvR) = some (.ok r) := em
  rw [dOV_d] at em
  rw [hn]
  dsimp only at em
  cases e : runB C b (some (.own o) :: (ds.map (fun d => some (.dat d)) ++ List.replicate (N.length - n) none)) with
  | none => rw [e] at em; cases em
  | some y =>
    rw [e] at em
    cases y with
    | nx ρ' => cases em; exact fun σ' G' H' a b o => q G' H' a _ rfl
    | bk ρ' => cases em
    | ct ρ' => cases em
    | rt r' => cases em; exact fun v G' H' a d nb => q G' H' a v d
    | er e' ρ' => cases em
theorem fn_factO (lk : K.lookup f = some ⟨oc, od, .func (PySem.W.fnOf name qual params body scope dV kV doc pm an cdv ct), osl⟩) (hcd : PySem.W.codeIn K cdv qual = true) (S : FnScope N ps scope) (hm : mg fname = some (.ref f)) (hk : PySem.W.keepIn K (.ref f) = true)
    (hb : Binds K (PySem.W.fnOf name qual params body scope dV kV doc pm an cdv ct) ps []) (hn : ps.length = n) (hck : ckB N C false scope b body = true) (T : Txt P w K mg base C k) : FnFact P w K mg base (mkFnO C fname n N.length b) (k + 1) :=
  ⟨f, _, ps, hm, hk, hb, fn_okO lk hcd S hn hck T⟩
theorem fn_fact (lk : K.lookup f = some ⟨oc, od, .func (PySem.W.fnOf name qual params body scope dV kV doc pm an cdv ct), osl⟩) (hcd : PySem.W.codeIn K cdv qual = true) (S : FnScope N ps scope) (hm : mg fname = some (.ref f)) (hk : PySem.W.keepIn K (.ref f) = true)
    (hb : Binds K (PySem.W.fnOf name qual params body scope dV kV doc pm an cdv ct) ps []) (hn : ps.length = n) (hck : ckB N C false scope b body = true) (T : Txt P w K mg base C k) : FnFact P w K mg base (mkFn C fname n N.length b) (k + 1) :=
  ⟨f, _, ps, hm, hk, hb, fn_ok lk hcd S hn hck T⟩
theorem fnH_fact (lk : K.lookup f = some ⟨oc, od, .func (PySem.W.fnOf name qual params body scope dV kV doc pm an cdv ct), osl⟩) (hcd : PySem.W.codeIn K cdv qual = true) (S : FnScope N ps scope) (hm : mg fname = some (.ref f)) (hk : PySem.W.keepIn K (.ref f) = true)
    (hb : Binds K (PySem.W.fnOf name qual params body scope dV kV doc pm an cdv ct) ps []) (hn : ps.length = n) (hck : ckB N C.hot true scope b body = true) (T : Txt P w K mg base C k) : FnHFact P w K mg base (mkFn C.hot fname n N.length b) (k + 1) := by
  have hpl : ps.length ≤ N.length := by have := congrArg List.length S.pre; rw [List.length_take] at this; omega
  refine ⟨f, _, ps, hm, hk, hb, ⟨fun A outer s H args us vs Q p CA dd hr hot hpin hC hd e0 hbt r hus h => ?_, hn⟩⟩
  obtain ⟨ds, G, i, dn, hl, q⟩ := h
  have hl : ds.length = n := hl
  have hvl : vs.length = ps.length := by rw [r.length]; exact hus
  have KX : K.In s.heap := e0.mod.kin.keeps fun b o e => (e0.bs b o e).1
  have lim : s.heap.NoLimit := e0.mod.nolimit.keeps fun b o e => (e0.bs b o e).1
  have hkind : ∀ y ∈ ps.zip us, scope.names.lookup y.1 = some .local ∨ (scope.names.lookup y.1 = some .cell ∧ ((cellsFrom (s.heap.objs.size + 1) scope.names []).lookup y.1).isSome = true) := fun ⟨n, v⟩ hy => by
    rcases S.par n (List.of_mem_zip hy).1 with q | q
    · exact .inl q
    · exact .inr ⟨q, PySem.W.cellsFrom_some _ _ _ (.inl q)⟩
  refine codeAny_call_function hr.depth (KX _ _ lk) rfl S.co S.gen rfl (PySem.W.codeRec_of KX hcd) (hbt _ _ _ _ ?_)
  refine wpAny_newFunctionEnv_cells S.kind hkind fun env he s1 x => ?_
  subst he
  refine ⟨lim.keeps x.toInCall.keep, codeAny_func ?_⟩
  let X := L2H.cxH (L2N.CX P w) P w K mg base N qual scope f cdv A outer s H (fun _ _ _ => False) p
  have I : Inv X [] (L2.start N vs) H s1 := L2H.inv_startH S hpin e0 hvl r x
  have c : Cs X (some (p.1, CA, dd)) C.hot WF k true := ⟨⟨S.nd, fun u s' x => by
      obtain ⟨_, _, _, _, _, _, _, _, _, _, _, _, _, _, _, _, w⟩ := x
      exact (show False from w).elim, ⟨T.tab.isa, T.tab.fld, T.tab.blt⟩, .hot rfl ⟨p.1, CA, dd, p.2, rfl, List.mem_singleton_self p, ⟨hot.1, hot.2⟩, hC, hd⟩ (hr.deeper _) T.H⟩, S.kind, fun x hx => ⟨loc_of rfl hx, .inl rfl⟩, passes_of (X := X) (K := fun e s'' => L2N.CX P w outer H s (fun _ _ _ => False) e s'') (E₁ := fun e s'' => L2N.CX P w outer H s (fun _ _ _ => False) e s'') rfl, rfl, rfl, fun z => nomatch z⟩
  have ht := sBl b C.hot true X (some (p.1, CA, dd)) WF k G H (tchB b) c (fun z => nomatch z) body (fun i h => h) hck
  have hq : cS (enX X (some (p.1, CA, dd))) WF G H (tchB b) (runB C.hot b) { nx := fun _ H' => Q .non H', rt := Q } (L2.start N vs) H := by
    refine ⟨_, G, Gr.refl i, rep_start (N := N) (ps := ps) (by omega) hpl dn, ?_⟩
    rw [hn]
    exact body_rs (Ee := fun _ _ _ => False) (fun _ _ _ _ h => h) q
  refine wpAny_mono (ht.run [] s1 (L2.start N vs) H _ I hq) (fun fl s' hs => ?_) fun e s' hs => hs
  have fin : ∀ {σ' : L2.St} {H' : Hp} {v : V} {u : Value}, Inv X [] σ' H' s' → RelV v u → Q v H' → CE outer P w H s Q u s' := fun {σ' H' v u} J rv q => ⟨v, H', J.os, J.bare, J.base, J.hok, rv, q⟩
  cases fl with
  | ret u =>
    obtain ⟨v, σ', H', J, rv, q⟩ := hs
    exact fin J rv q
  | next =>
    obtain ⟨σ', H', J, q⟩ := hs
    exact fin (v := V.non) (u := Value.none) J rfl q
  | brk =>
    obtain ⟨_, _, _, q⟩ := hs
    exact False.elim q
  | cont =>
    obtain ⟨_, _, _, q⟩ := hs
    exact False.elim q
end
end DE

set_option Elab.async false
set_option linter.all false
set_option maxRecDepth 100000
set_option maxHeartbeats 8000000
/-! DE10: a law's text: its classes, its defs, its end. -/
namespace DE
open PySem PySem.Spec PyProof.Rows L2
/-! ### tables -/
def initOf : Stmt → Stmt
  | .ClassDef _ _ _ b _ _ _ _ _ _ _ => b.getD 0 (.Pass ⟨0, 0, 0, 0⟩)
  | s => s
theorem all_nil {α : Type} {p : α → Prop} : ∀ x ∈ ([] : List α), p x := fun _ h => nomatch h
theorem all_cons {α : Type} {p : α → Prop} {a : α} {l : List α} (h : p a) (t : ∀ x ∈ l, p x) : ∀ x ∈ a :: l, p x := fun x hx => (List.mem_cons.mp hx).elim (fun e => e ▸ h) (t x)
def cfg (isa : List (Str × Str × Bool)) (mk : List (Str × List Str × Str)) (fld : List (Str × Str)) (fuel : Nat) (T H : List Fn) : Cfg where
  T := T
  H := H
  isa := fun c x => (isa.find? fun p => decide (p.1 = c) && decide (p.2.1 = x)).map (·.2.2)
  mkE := fun c => (mk.find? fun p => decide (p.1 = c)).map fun p => mkEr p.1 p.2.1 p.2.2
  fld := fun c x => fld.any fun p => decide (p.1 = c) && decide (p.2 = x)
  fuel := fuel
section
variable {P : Program} {w : World} {K : PySem.W.Frag} {mg : Str → Option Value} {base : Heap}
/-- what the classes' tables lean on -/
def IsaOk (K : PySem.W.Frag) (mg : Str → Option Value) (p : Str × Str × Bool) : Prop := ∃ A cx cv, mg p.1 = some (.ref A) ∧ EcC K A ∧ ClOk ⟨K, mg, none⟩ p.2.1 cx cv ∧ PySem.W.kitOne K (.ref A) cv = some p.2.2 ∧ PySem.W.exmOne K (.ref A) cv = some p.2.2
def FldOk (K : PySem.W.Frag) (mg : Str → Option Value) (p : Str × Str) : Prop := ∃ A, mg p.1 = some (.ref A) ∧ EcC K A ∧ PySem.W.findIn K (.ref A) p.2 = some none
def MkOk (P : Program) (w : World) (K : PySem.W.Frag) (mg : Str → Option Value) (base : Heap) (p : Str × List Str × Str) : Prop := p.2.1.length ≤ 100 ∧ ErrC P w K mg base p.1 p.2.1 p.2.2 2
theorem find_mem {α : Type} {p : α → Bool} {l : List α} {a : α} (h : l.find? p = some a) : a ∈ l ∧ p a = true := ⟨List.mem_of_find?_eq_some h, List.find?_some h⟩
theorem txt_of {isa : List (Str × Str × Bool)} {mk : List (Str × List Str × Str)} {fld : List (Str × Str)} {fuel : Nat} {T H : List Fn} {k : Nat} (h1 : ∀ p ∈ isa, IsaOk K mg p) (h2 : ∀ p ∈ mk, MkOk P w K mg base p) (h3 : ∀ p ∈ fld, FldOk K mg p) (hb : ∀ x ∈ bNames, mg x = none) (hk : 3 ≤ k)
    (hT : ∀ fn ∈ T, FnFact P w K mg base fn k) (hH : ∀ fn ∈ H, FnHFact P w K mg base fn k) : Txt P w K mg base (cfg isa mk fld fuel T H) k := by
  refine ⟨⟨fun c x b h => ?_, fun c n h => ?_, hb⟩, fun j fn h => hT fn (List.mem_of_getElem? h), fun j fn h => hH fn (List.mem_of_getElem? h), fun c f h => ?_⟩
  · have h : (isa.find? fun p => decide (p.1 = c) && decide (p.2.1 = x)).map (·.2.2) = some b := h
    cases q : isa.find? fun p => decide (p.1 = c) && decide (p.2.1 = x) with
    | none => rw [q] at h; cases h
    | some p =>
      rw [q] at h
      obtain ⟨m1, m2⟩ := find_mem q
      simp only [Bool.and_eq_true, decide_eq_true_eq] at m2
      obtain ⟨e1, e2⟩ := m2
      have e3 : p.2.2 = b := Option.some.inj h
      have z := h1 p m1
      unfold IsaOk at z
      rw [e1, e2, e3] at z
      exact z
  · have h : (fld.any fun p => decide (p.1 = c) && decide (p.2 = n)) = true := h
    obtain ⟨p, m1, m2⟩ := List.any_eq_true.mp h
    simp only [Bool.and_eq_true, decide_eq_true_eq] at m2
    obtain ⟨e1, e2⟩ := m2
    have z := h3 p m1
    unfold FldOk at z
    rw [e1, e2] at z
    exact z
  · have h' : ((mk.find? fun p => decide (p.1 = c)).map fun p => mkEr p.1 p.2.1 p.2.2) = some f := h
    cases q : mk.find? fun p => decide (p.1 = c) with
    | none => rw [q] at h'; cases h'
    | some p =>
      rw [q] at h'
      obtain ⟨m1, m2⟩ := find_mem q
      have e1 : p.1 = c := of_decide_eq_true m2
      subst e1
      have e3 := Option.some.inj h'
      exact ⟨p.2.1, p.2.2, 2, e3.symm, (h2 p m1).1, hk, (h2 p m1).2⟩
theorem isa_own {c x : Str} {b : Bool} {A B : Addr} (h1 : mg c = some (.ref A)) (h2 : EcC K A) (h3 : mg x = some (.ref B)) (h4 : PySem.W.isClsIn K B = true) (h5 : PySem.W.typeIn K (.ref B) = some (.type "type")) (h6 : PySem.W.subIn K (.ref A) (.ref B) = some b) (h7 : PySem.W.subIn K (.ref B) (.type "BaseException") = some true) (h8 : A = B → b = true) : IsaOk K mg (c, x, b) := by
  have e2 : ((PySem.W.clsIn K B).isSome && PySem.W.typeIn K (.ref B) == some (.type "type")) = true := by
    have h4' : (PySem.W.clsIn K B).isSome = true := h4
    rw [h4', h5] <;> rfl
  have kc : PySem.W.kitCls K (.ref A) (.ref B) = some b := by
    show (if ((PySem.W.clsIn K B).isSome && PySem.W.typeIn K (.ref B) == some (.type "type")) = true then PySem.W.subIn K (.ref A) (.ref B) else none) = some b
    rw [if_pos e2]
    exact h6
  refine ⟨A, .ref B, .ref B, h1, h2, ⟨.own B, .inl h3⟩, ?_, ?_⟩
  · unfold PySem.W.kitOne
    by_cases hab : A = B
    · rw [h8 hab, hab]
      simp
    · rw [if_neg (by simpa using hab)]
      exact kc
  · unfold PySem.W.exmOne
    rw [h7]
    exact kc
theorem isa_ve {c : Str} {b : Bool} {A : Addr} {T : String} (h1 : mg c = some (.ref A)) (h2 : EcC K A) (h3 : mg (Str.ofString T) = none) (h4 : bootBuiltins (Str.ofString T) = some (.type T)) (h5 : Str.ofString T ≠ "__name__") (h6 : PySem.W.subIn K (.ref A) (.type T) = some b) (h7 : PySem.W.subIn K (.type T) (.type "BaseException") = some true) (h8 : PySem.W.kitMeta T = true) : IsaOk K mg (c, Str.ofString T, b) := by
  have kc : PySem.W.kitCls K (.ref A) (.type T) = some b := by
    show (if PySem.W.kitMeta T = true then PySem.W.subIn K (.ref A) (.type T) else none) = some b
    rw [if_pos h8]
    exact h6
  refine ⟨A, .ty T, .type T, h1, h2, ⟨.ty T, .inr ⟨h3, h4, h5⟩⟩, ?_, ?_⟩
  · unfold PySem.W.kitOne
    rw [if_neg (by simp)]
    exact kc
  · unfold PySem.W.exmOne
    rw [h7]
    exact kc
/-! ### errors -/
theorem err_ok {T fB C fI : Addr} {sB sC : Stmt} {bnm nm word qB q : Str} {fields N : List Str} {oB cdB ctB kB dB pB oC2 cdC ctC kC2 dC2 pC2 : Value} {odd : Option Addr} {anB anC : Option Addr} {slB slC : Array (Option Value)} {odC : Option Addr}
    (gT : mg bnm = some (.ref T)) (hdb : (bnm == ("__debug__" : Str)) = false) (B : BaseI K T fB) (lB : K.lookup fB = some ⟨oB, odd, .func (PySem.W.fnOf "__init__" qB (defArgs sB) (defBody sB) (defScope sB) .none kB dB pB anB cdB ctB), slB⟩) (cB : PySem.W.codeIn K cdB qB = true)
    (SB : FnScope ["self", "text", "word"] ["self", "text", "word"] (defScope sB)) (iB : isI0 (defScope sB) (defBody sB) = true) (hve : mg "ValueError" = none) (vV : PySem.W.findCls K (.type "ValueError") (.type "type") "__init__" = some (.val (.builtin "ValueError.__init__")))
    (bB : ∀ (kV doc pm : Value) (an : Option Addr) (cdv ct : Value) (us : List Value), us.length = (["self", "text", "word"] : List Str).length → bindArgs (PySem.W.fnOf "__init__" qB (defArgs sB) (defBody sB) (defScope sB) .none kV doc pm an cdv ct) ⟨us, []⟩ = pure ((["self", "text", "word"] : List Str).zip us))
    (gC : mg nm = some (.ref C)) (TC : OexC K C) (fi : PySem.W.findIn K (.ref C) "__init__" = some (some (.ref fI))) (ti : PySem.W.typeIn K (.ref fI) = some (.type "function"))
    (lC : K.lookup fI = some ⟨oC2, odC, .func (PySem.W.fnOf "__init__" q (defArgs sC) (defBody sC) (defScope sC) .none kC2 dC2 pC2 anC cdC ctC), slC⟩) (cC : PySem.W.codeIn K cdC q = true)
    (SC : FnScope N N (defScope sC)) (iC : isIn N (defScope sC) bnm word fields (defBody sC) = true) (hN : N.length = fields.length + 1) (hfl : fields.length ≤ 100)
    (hw : PySem.W.findIn K (.ref C) "word" = some none) (hfs : ∀ f ∈ fields, PySem.W.findIn K (.ref C) f = some none)
    (bC : ∀ (kV doc pm : Value) (an : Option Addr) (cdv ct : Value) (us : List Value), us.length = N.length → bindArgs (PySem.W.fnOf "__init__" q (defArgs sC) (defBody sC) (defScope sC) .none kV doc pm an cdv ct) ⟨us, []⟩ = pure (N.zip us)) :
    MkOk P w K mg base (nm, fields, word) := by
  have F0 := init0 (P := P) (w := w) (mg := mg) (base := base) lB cB SB iB hve vV
  have FN := initN (P := P) (w := w) (mg := mg) (base := base) lC cC SC iC hN hfl gT hdb B F0 (.all (bB _ _ _ _ _ _)) TC hw hfs
  exact ⟨hfl, C, fI, _, N, gC, TC, fi, ti, FN, .all (bC _ _ _ _ _ _)⟩
/-! ### defs -/
variable {f : Addr} {fd : FuncData} {nm : Str} {st : Stmt} {C : Cfg} {k n : Nat} {N ps : List Str} {b : IB}
theorem fn_okD (F : L2.Fun K nm nm st f fd) (hm : mg nm = some (.ref f)) (S : FnScope N ps (defScope st)) (hn : ps.length = n)
    (hb : ∀ (kV doc pm : Value) (an : Option Addr) (cdv ct : Value) (us : List Value), us.length = ps.length → bindArgs (PySem.W.fnOf nm nm (defArgs st) (defBody st) (defScope st) .none kV doc pm an cdv ct) ⟨us, []⟩ = pure (ps.zip us))
    (hck : ckB N C false (defScope st) b (defBody st) = true) (T : Txt P w K mg base C k) : FnFact P w K mg base (mkFn C nm n N.length b) (k + 1) := by
  obtain ⟨oc, od, kV, doc, pm, an, cdv, ct, osl, rfl, lk, hcd⟩ := F.ex
  exact fn_fact lk hcd S hm F.kp (.all (hb _ _ _ _ _ _)) hn hck T
theorem fn_okDO (F : L2.Fun K nm nm st f fd) (hm : mg nm = some (.ref f)) (S : FnScope N ps (defScope st)) (hn : ps.length = n)
    (hb : ∀ (kV doc pm : Value) (an : Option Addr) (cdv ct : Value) (us : List Value), us.length = ps.length → bindArgs (PySem.W.fnOf nm nm (defArgs st) (defBody st) (defScope st) .none kV doc pm an cdv ct) ⟨us, []⟩ = pure (ps.zip us))
    (hck : ckB N C false (defScope st) b (defBody st) = true) (T : Txt P w K mg base C k) : FnFact P w K mg base (mkFnO C nm n N.length b) (k + 1) := by
  obtain ⟨oc, od, kV, doc, pm, an, cdv, ct, osl, rfl, lk, hcd⟩ := F.ex
  exact fn_factO lk hcd S hm F.kp (.all (hb _ _ _ _ _ _)) hn hck T
theorem fnH_okD (F : L2.Fun K nm nm st f fd) (hm : mg nm = some (.ref f)) (S : FnScope N ps (defScope st)) (hn : ps.length = n)
    (hb : ∀ (kV doc pm : Value) (an : Option Addr) (cdv ct : Value) (us : List Value), us.length = ps.length → bindArgs (PySem.W.fnOf nm nm (defArgs st) (defBody st) (defScope st) .none kV doc pm an cdv ct) ⟨us, []⟩ = pure (ps.zip us))
    (hck : ckB N C.hot true (defScope st) b (defBody st) = true) (T : Txt P w K mg base C k) : FnHFact P w K mg base (mkFn C.hot nm n N.length b) (k + 1) := by
  obtain ⟨oc, od, kV, doc, pm, an, cdv, ct, osl, rfl, lk, hcd⟩ := F.ex
  exact fnH_fact lk hcd S hm F.kp (.all (hb _ _ _ _ _ _)) hn hck T
/-! ### the end -/
def spLaw (K : PySem.W.Frag) : Sp := fun vs H Q _ => ∃ (a : Addr) (ns : List Int), vs = [.ref a] ∧ ns.length ≤ 63 ∧ SqL K H a (ns.map V.int) ∧ ∀ H', Q (.bl true) H'
theorem law_sp {fn : Fn} (hn : fn.n = 1) (ho : fn.ow = false) (h : ∀ ns : List Int, ns.length ≤ 63 → fn.m [.lst (ns.map D.int)] = some (.ok (.dat (.bl true)))) : ∀ vs H Q E, spLaw K vs H Q E → spM ⟨K, mg, none⟩ fn vs H Q E := by
  intro vs H Q E q
  obtain ⟨a, ns, e, hl, hs, q⟩ := q
  subst e
  refine (spM_n ho).mpr ?_
  refine ⟨[.lst (ns.map D.int)], fun b => if b = a then H b else none, fun b o e => ?_, ⟨.ref a, [], rfl, ⟨a, ns.map V.int, rfl, ?_, Dens.ints ns⟩, rfl⟩, hn.symm, ?_⟩
  · have e : (if b = a then H b else none) = some o := e
    split at e
    · exact e
    · cases e
  · rcases hs with (hs | ⟨o, hs⟩) | hs
    · exact .inl (.inl (by show (if a = a then H a else none) = _; rw [if_pos rfl]; exact hs))
    · exact .inl (.inr ⟨o, by show (if a = a then H a else none) = _; rw [if_pos rfl]; exact hs⟩)
    · exact .inr hs
  · rw [h ns hl]
    intro G' H' g
    refine ⟨rfl, fun v dv => ?_⟩
    cases (show v = _ from dv)
    exact q H'
theorem law_ok (F : L2.Fun K nm nm st f fd) (hm : mg nm = some (.ref f)) (S : FnScope N ps (defScope st)) (hn : ps.length = 1)
    (hb : ∀ (kV doc pm : Value) (an : Option Addr) (cdv ct : Value) (us : List Value), us.length = ps.length → bindArgs (PySem.W.fnOf nm nm (defArgs st) (defBody st) (defScope st) .none kV doc pm an cdv ct) ⟨us, []⟩ = pure (ps.zip us))
    (hck : ckB N C false (defScope st) b (defBody st) = true) (T : Txt P w K mg base C k) (h : ∀ ns : List Int, ns.length ≤ 63 → (mkFn C nm 1 N.length b).m [.lst (ns.map D.int)] = some (.ok (.dat (.bl true)))) : FnOk P w K mg base (L2N.CX P w) (k + 1) f fd ps (spLaw K) := by
  obtain ⟨oc, od, kV, doc, pm, an, cdv, ct, osl, rfl, lk, hcd⟩ := F.ex
  exact (fn_ok (fname := nm) lk hcd S hn hck T).imp (law_sp (K := K) (mg := mg) rfl rfl h)
end
end DE

set_option Elab.async false
set_option linter.all false
set_option maxRecDepth 100000
set_option maxHeartbeats 4000000
/-! DE11: plain tools: computation rules, loops, places and rows. -/
namespace DE
open PySem L2
/-! ### computation -/
theorem bindR_ok {α β : Type} (a : α) (k : α → Ans β) : bindR (some (.ok a)) k = k a := rfl
theorem bindR_er {α β : Type} (e : Er) (k : α → Ans β) : bindR (some (.error e)) k = some (.error e) := rfl
theorem optR_some {α : Type} (a : α) : optR (some a) = some (.ok a) := rfl
theorem liftS_ok {α : Type} (a : α) (ρ : Rho) (k : α → SR) : liftS (some (.ok a)) ρ k = k a := rfl
theorem liftS_er {α : Type} (e : Er) (ρ : Rho) (k : α → SR) : liftS (some (.error e)) ρ k = some (.er e ρ) := rfl
theorem blR_some (b : Bool) : blR (some b) = some (.dat (.bl b)) := rfl
theorem bin_add (i j : Int) : binV .add (.dat (.int i)) (.dat (.int j)) = some (.dat (.int (i + j))) := rfl
theorem bin_sub (i j : Int) : binV .sub (.dat (.int i)) (.dat (.int j)) = some (.dat (.int (i - j))) := rfl
theorem bin_mul {i j : Int} (h : small i = true ∨ small j = true) : binV .mul (.dat (.int i)) (.dat (.int j)) = some (.dat (.int (i * j))) := by
  show (if small i = true ∨ small j = true then _ else _) = _
  rw [if_pos h]
theorem bin_mod {i j : Int} (h : j ≠ 0) : binV .mod (.dat (.int i)) (.dat (.int j)) = some (.dat (.int (i.fmod j))) := by
  show (if j ≠ 0 then _ else _) = _
  rw [if_pos h]
theorem bin_fdiv {i j : Int} (h : j ≠ 0 ∧ j.natAbs < 1073741824) : binV .fdiv (.dat (.int i)) (.dat (.int j)) = some (.dat (.int (i.fdiv j))) := by
  show (if j ≠ 0 ∧ j.natAbs < 1073741824 then _ else _) = _
  rw [if_pos h]
theorem bin_pow {i j : Int} (h : 0 ≤ j ∧ j ≤ 1000000 ∧ i.natAbs < 2 ^ 64) : binV .pow (.dat (.int i)) (.dat (.int j)) = some (.dat (.int (i ^ j.toNat))) := by
  show (if 0 ≤ j ∧ j ≤ 1000000 ∧ i.natAbs < 2 ^ 64 then _ else _) = _
  rw [if_pos h]
theorem cmp_lt (i j : Int) : cmpV .lt (.dat (.int i)) (.dat (.int j)) = some (decide (i < j)) := rfl
theorem cmp_le (i j : Int) : cmpV .le (.dat (.int i)) (.dat (.int j)) = some (decide (i ≤ j)) := rfl
theorem cmp_gt (i j : Int) : cmpV .gt (.dat (.int i)) (.dat (.int j)) = some (decide (j < i)) := rfl
theorem cmp_ge (i j : Int) : cmpV .ge (.dat (.int i)) (.dat (.int j)) = some (decide (j ≤ i)) := rfl
theorem cmp_eq (i j : Int) : cmpV .eq (.dat (.int i)) (.dat (.int j)) = some (decide (i = j)) := rfl
theorem cmp_ne (i j : Int) : cmpV .ne (.dat (.int i)) (.dat (.int j)) = some (!decide (i = j)) := rfl
theorem cmp_eqs (i j : Str) : cmpV .eq (.dat (.str i)) (.dat (.str j)) = some (decide (i = j)) := rfl
theorem cmp_nes (i j : Str) : cmpV .ne (.dat (.str i)) (.dat (.str j)) = some (!decide (i = j)) := rfl
theorem bi_int (i : Int) : biV .int [.dat (.int i)] = some (.dat (.int i)) := rfl
theorem bi_lenl (ds : List D) : biV .len [.dat (.lst ds)] = some (.dat (.int ds.length)) := rfl
theorem bi_lent (ds : List D) : biV .len [.dat (.tup ds)] = some (.dat (.int ds.length)) := rfl
theorem bi_lenb (ds : List D) : biV .len [.br (.l ds)] = some (.dat (.int ds.length)) := rfl
theorem bi_lenf (ds : List D) : biV .len [.fr (.l ds)] = some (.dat (.int ds.length)) := rfl
theorem ix_l {ds : List D} {i : Int} {d : D} (h : atI ds i = some d) : ixW (.dat (.lst ds)) (.dat (.int i)) = some (.dat d) := by
  show (match atI ds i with | some d => some (RV.dat d) | none => none) = _
  rw [h]
theorem ix_t {ds : List D} {i : Int} {d : D} (h : atI ds i = some d) : ixW (.dat (.tup ds)) (.dat (.int i)) = some (.dat d) := by
  show (match atI ds i with | some d => some (RV.dat d) | none => none) = _
  rw [h]
theorem ix_b {ds : List D} {i : Int} {d : D} (h : atI ds i = some d) : ixW (.br (.l ds)) (.dat (.int i)) = some (.dat d) := by
  show (match atI ds i with | some d => some (RV.dat d) | none => none) = _
  rw [h]
theorem ix_f {ds : List D} {i : Int} {d : D} (h : atI ds i = some d) : ixW (.fr (.l ds)) (.dat (.int i)) = some (.dat d) := by
  show (match atI ds i with | some d => some (RV.dat d) | none => none) = _
  rw [h]
theorem atI_nat {α : Type} (xs : List α) (n : Nat) : atI xs (n : Int) = xs[n]? := by
  unfold atI ixN
  rw [if_pos (Int.natCast_nonneg n)]
  by_cases h : n < xs.length
  · rw [if_pos (by exact_mod_cast h)]
    rfl
  · rw [if_neg (by exact_mod_cast h), List.getElem?_eq_none (by omega)]
    rfl
theorem atI_get {α : Type} {xs : List α} {i : Int} {x : α} (h0 : 0 ≤ i) (h : xs[i.toNat]? = some x) : atI xs i = some x := by
  have e : i = (i.toNat : Int) := by omega
  rw [e, atI_nat]
  exact h
/-! ### loops -/
def outS : SO → Bool
  | .rt _ => true
  | .er _ _ => true
  | _ => false
theorem forL_go {step : D → Rho → SR} {P : Nat → Rho → Prop} {R : Nat → SO → Prop} : ∀ (ds : List D) (i0 : Nat) (ρ : Rho), P i0 ρ →
    (∀ i d ρ, ds[i]? = some d → P (i0 + i) ρ → (∃ ρ', (step d ρ = some (.nx ρ') ∨ step d ρ = some (.ct ρ')) ∧ P (i0 + i + 1) ρ') ∨ ∃ o, step d ρ = some o ∧ outS o = true ∧ R (i0 + i) o) →
    (∃ ρ', forL step ds ρ = some (.nx ρ') ∧ P (i0 + ds.length) ρ') ∨ ∃ i o, forL step ds ρ = some o ∧ outS o = true ∧ R i o
  | [], i0, ρ, h, _ => .inl ⟨ρ, rfl, h⟩
  | d :: ds, i0, ρ, h, hs => by
    have again := fun ρ' (h' : P (i0 + 1) ρ') => forL_go ds (i0 + 1) ρ' h' fun i d' ρ e p => by
      have := hs (i + 1) d' ρ (by simpa using e) (by rw [show i0 + (i + 1) = i0 + 1 + i by omega]; exact p)
      rw [show i0 + (i + 1) = i0 + 1 + i by omega] at this
      exact this
    have len : i0 + (d :: ds).length = i0 + 1 + ds.length := by rw [List.length_cons]; omega
    rw [len]
    rcases hs 0 d ρ rfl h with ⟨ρ', e, p⟩ | ⟨o, e, ho, r⟩
    · have hf : forL step (d :: ds) ρ = forL step ds ρ' := by
        unfold forL
        rcases e with e | e <;> rw [e]
        all_goals cases ds <;> rfl
      rw [hf]
      exact again ρ' p
    · refine .inr ⟨i0, o, ?_, ho, r⟩
      unfold forL
      rw [e]
      cases o with
      | rt r => rfl
      | er e ρ => rfl
      | _ => cases ho
/-- a loop that runs to its end -/
theorem forL_inv {step : D → Rho → SR} {P : Nat → Rho → Prop} {ds : List D} {ρ : Rho} (h : P 0 ρ) (hs : ∀ i d ρ, ds[i]? = some d → P i ρ → ∃ ρ', (step d ρ = some (.nx ρ') ∨ step d ρ = some (.ct ρ')) ∧ P (i + 1) ρ') :
    ∃ ρ', forL step ds ρ = some (.nx ρ') ∧ P ds.length ρ' := by
  rcases forL_go (P := P) (R := fun _ _ => False) ds 0 ρ h fun i d ρ e p => .inl (by
    rw [Nat.zero_add] at p ⊢
    exact hs i d ρ e p) with ⟨ρ', e, p⟩ | ⟨i, o, _, _, r⟩
  · rw [Nat.zero_add] at p
    exact ⟨ρ', e, p⟩
  · exact r.elim
theorem forL_out {step : D → Rho → SR} {P : Nat → Rho → Prop} {R : Nat → SO → Prop} {ds : List D} {ρ : Rho} (h : P 0 ρ) (hs : ∀ i d ρ, ds[i]? = some d → P i ρ → (∃ ρ', (step d ρ = some (.nx ρ') ∨ step d ρ = some (.ct ρ')) ∧ P (i + 1) ρ') ∨ ∃ o, step d ρ = some o ∧ outS o = true ∧ R i o) :
    (∃ ρ', forL step ds ρ = some (.nx ρ') ∧ P ds.length ρ') ∨ ∃ i o, forL step ds ρ = some o ∧ outS o = true ∧ R i o := by
  have := forL_go (P := P) (R := R) ds 0 ρ h fun i d ρ e p => by
    rw [Nat.zero_add] at p ⊢
    exact hs i d ρ e p
  rw [Nat.zero_add] at this
  exact this
theorem rng_get {lo : Int} {n i : Nat} {d : D} (e : (rangeD lo n)[i]? = some d) : i < n ∧ d = .int (lo + i) := by
  have h : i < n := by
    have := (List.getElem?_eq_some_iff.mp e).1
    rw [rangeD_len] at this
    exact this
  rw [rangeD_get n lo i h] at e
  exact ⟨h, (Option.some.inj e).symm⟩
/-- a comprehension that drops nothing -/
theorem compL_map {step : D → Ans (Option D)} {f : D → D} : ∀ {ds : List D}, (∀ d ∈ ds, step d = some (.ok (some (f d)))) → compL step ds = some (.ok (ds.map f))
  | [], _ => rfl
  | d :: ds, h => by
    unfold compL
    rw [h d List.mem_cons_self, compL_map fun d hd => h d (List.mem_cons_of_mem _ hd)]
    rfl
theorem compL_fm {step : D → Ans (Option D)} {f : D → Option D} : ∀ {ds : List D}, (∀ d ∈ ds, step d = some (.ok (f d))) → compL step ds = some (.ok (ds.filterMap f))
  | [], _ => rfl
  | d :: ds, h => by
    unfold compL
    rw [h d List.mem_cons_self, compL_fm fun d hd => h d (List.mem_cons_of_mem _ hd)]
    cases q : f d with
    | none => simp [List.filterMap_cons, q]
    | some x => simp [List.filterMap_cons, q]
theorem compL_of {α : Type} {step : D → Ans (Option D)} {g h : α → D} : ∀ {xs : List α}, (∀ x ∈ xs, step (g x) = some (.ok (some (h x)))) → compL step (xs.map g) = some (.ok (xs.map h))
  | [], _ => rfl
  | x :: xs, hh => by
    show compL step (g x :: xs.map g) = _
    unfold compL
    rw [hh x List.mem_cons_self, compL_of fun d hd => hh d (List.mem_cons_of_mem _ hd)]
    rfl
theorem compL_if {α : Type} {step : D → Ans (Option D)} {g : α → D} {h : α → Option D} : ∀ {xs : List α}, (∀ x ∈ xs, step (g x) = some (.ok (h x))) → compL step (xs.map g) = some (.ok (xs.filterMap h))
  | [], _ => rfl
  | x :: xs, hh => by
    show compL step (g x :: xs.map g) = _
    unfold compL
    rw [hh x List.mem_cons_self, compL_if fun d hd => hh d (List.mem_cons_of_mem _ hd)]
    cases q : h x with
    | none => simp [List.filterMap_cons, q]
    | some y => simp [List.filterMap_cons, q]
/-! ### drawn numbers -/
def Drawn : List Int → List Int → Prop
  | [], [] => True
  | x :: xs, s :: ss => (0 ≤ x ∧ x < s) ∧ Drawn xs ss
  | _, _ => False
theorem drawn_cons {xs ss : List Int} {s : Int} (h : Drawn xs (s :: ss)) : ∃ x r, xs = x :: r ∧ 0 ≤ x ∧ x < s ∧ Drawn r ss := by
  cases xs with
  | nil => exact h.elim
  | cons x r => exact ⟨x, r, rfl, h.1.1, h.1.2, h.2⟩
theorem drawn_nil {xs : List Int} (h : Drawn xs []) : xs = [] := by
  cases xs with
  | nil => rfl
  | cons x r => exact h.elim
theorem drawn_snoc : ∀ {xs ss : List Int} {x s : Int}, Drawn xs ss → 0 ≤ x → x < s → Drawn (xs ++ [x]) (ss ++ [s])
  | [], [], x, s, _, h1, h2 => ⟨⟨h1, h2⟩, trivial⟩
  | [], _ :: _, _, _, h, _, _ => h.elim
  | _ :: _, [], _, _, h, _, _ => h.elim
  | a :: xs, b :: ss, x, s, h, h1, h2 => ⟨h.1, drawn_snoc h.2 h1 h2⟩
theorem drawn_len : ∀ {xs ss : List Int}, Drawn xs ss → xs.length = ss.length
  | [], [], _ => rfl
  | [], _ :: _, h => h.elim
  | _ :: _, [], h => h.elim
  | _ :: xs, _ :: ss, h => by rw [List.length_cons, List.length_cons, drawn_len h.2]
theorem fmod_bd {a b : Int} (h : 0 < b) : 0 ≤ a.fmod b ∧ a.fmod b < b := ⟨Int.fmod_nonneg_of_pos a h, Int.fmod_lt_of_pos a h⟩
end DE

set_option Elab.async false
set_option linter.all false
set_option maxRecDepth 100000
set_option maxHeartbeats 4000000
/-! DE12: places, rows, sums, by data. -/
namespace DE
open PySem L2
abbrev Pl := List Int
abbrev Ent := Pl × Int
def pD (p : Pl) : D := .tup (p.map D.int)
def eD (e : Ent) : D := .tup [pD e.1, .int e.2]
def kI (p : Pl) : List Key := p.map Sum.inl
theorem keysOf_ints (p : Pl) : keysOf (p.map D.int) = some (kI p) := by
  induction p with
  | nil => rfl
  | cons x p ih =>
    show (match keyOf (.int x), keysOf (p.map D.int) with | some k, some ks => some (k :: ks) | _, _ => none) = _
    rw [ih]
    rfl
theorem tkeyOf_pD (p : Pl) : tkeyOf (pD p) = some (kI p) := keysOf_ints p
theorem tkeyD_kI (p : Pl) : tkeyD (kI p) = pD p := by
  unfold tkeyD kI pD
  rw [List.map_map]
  rfl
theorem kI_inj {p q : Pl} (h : kI p = kI q) : p = q := by
  unfold kI at h
  exact List.map_inj_right (fun a b => Sum.inl.inj) |>.mp h
/-! ### sums -/
def putA : List Ent → Pl → Int → List Ent
  | [], p, n => [(p, n)]
  | e :: r, p, n => if e.1 = p then (e.1, n) :: r else e :: putA r p n
def getA : List Ent → Pl → Option Int
  | [], _ => none
  | e :: r, p => if e.1 = p then some e.2 else getA r p
abbrev ksA (as : List Ent) : List (List Key) := as.map fun e => kI e.1
abbrev vsA (as : List Ent) : List D := as.map fun e => .int e.2
theorem dget_A (p : Pl) : ∀ as : List Ent, dget (ksA as) (vsA as) (kI p) = (getA as p).map D.int
  | [] => rfl
  | e :: r => by
    show (if kI e.1 = kI p then some (D.int e.2) else dget (ksA r) (vsA r) (kI p)) = (if e.1 = p then some e.2 else getA r p).map D.int
    by_cases h : e.1 = p
    · rw [if_pos h, if_pos (by rw [h])]
      rfl
    · rw [if_neg h, if_neg (fun z => h (kI_inj z)), dget_A p r]
theorem hasK_A (p : Pl) : ∀ as : List Ent, hasK (ksA as) (kI p) = (getA as p).isSome
  | [] => rfl
  | e :: r => by
    show (decide (kI e.1 = kI p) || hasK (ksA r) (kI p)) = (if e.1 = p then some e.2 else getA r p).isSome
    by_cases h : e.1 = p
    · rw [if_pos h, decide_eq_true (by rw [h])]
      rfl
    · rw [if_neg h, decide_eq_false (fun z => h (kI_inj z)), hasK_A p r]
      rfl
theorem put_has (p : Pl) (n : Int) : ∀ as : List Ent, (getA as p).isSome = true → (as.map (·.1)).Nodup → ksA (putA as p n) = ksA as ∧ vsA (putA as p n) = dputV (ksA as) (vsA as) (kI p) (.int n)
  | [], h, _ => by cases h
  | e :: r, h, nd => by
    by_cases hp : e.1 = p
    · have e1 : putA (e :: r) p n = (e.1, n) :: r := by unfold putA; rw [if_pos hp]
      rw [e1]
      refine ⟨rfl, ?_⟩
      show D.int n :: vsA r = (if kI e.1 = kI p then D.int n else D.int e.2) :: dputV (ksA r) (vsA r) (kI p) (.int n)
      rw [if_pos (by rw [hp])]
      congr 1
      have nin : p ∉ r.map (·.1) := by
        rw [List.map_cons, List.nodup_cons, hp] at nd
        exact nd.1
      clear h nd e1
      induction r with
      | nil => rfl
      | cons a r ih =>
        rw [List.map_cons, List.mem_cons, not_or] at nin
        show D.int a.2 :: vsA r = (if kI a.1 = kI p then D.int n else D.int a.2) :: dputV (ksA r) (vsA r) (kI p) (.int n)
        rw [if_neg (fun z => nin.1 (kI_inj z).symm), ← ih nin.2]
    · have e1 : putA (e :: r) p n = e :: putA r p n := by
        show (if e.1 = p then _ else _) = _
        rw [if_neg hp]
      rw [e1]
      have h' : (getA r p).isSome = true := by
        unfold getA at h
        rw [if_neg hp] at h
        exact h
      rw [List.map_cons, List.nodup_cons] at nd
      obtain ⟨i1, i2⟩ := put_has p n r h' nd.2
      refine ⟨?_, ?_⟩
      · show kI e.1 :: ksA (putA r p n) = kI e.1 :: ksA r
        rw [i1]
      · show D.int e.2 :: vsA (putA r p n) = (if kI e.1 = kI p then D.int n else D.int e.2) :: dputV (ksA r) (vsA r) (kI p) (.int n)
        rw [if_neg (fun z => hp (kI_inj z)), i2]
theorem put_new (p : Pl) (n : Int) : ∀ as : List Ent, (getA as p).isSome = false → putA as p n = as ++ [(p, n)]
  | [], _ => rfl
  | e :: r, h => by
    by_cases hp : e.1 = p
    · unfold getA at h
      rw [if_pos hp] at h
      cases h
    · unfold getA at h
      rw [if_neg hp] at h
      unfold putA
      rw [if_neg hp, put_new p n r h]
      rfl
theorem put_keys (p : Pl) (n : Int) : ∀ as : List Ent, ∀ q ∈ (putA as p n).map (·.1), q = p ∨ q ∈ as.map (·.1)
  | [], q, h => .inl (by simpa [putA] using h)
  | e :: r, q, h => by
    by_cases hp : e.1 = p
    · unfold putA at h
      rw [if_pos hp] at h
      exact .inr (by simpa using h)
    · unfold putA at h
      rw [if_neg hp] at h
      rcases List.mem_cons.mp h with h | h
      · exact .inr (by rw [h]; simp)
      · rcases put_keys p n r q h with h | h
        · exact .inl h
        · exact .inr (List.mem_cons_of_mem _ h)
theorem put_nodup (p : Pl) (n : Int) : ∀ as : List Ent, (as.map (·.1)).Nodup → ((putA as p n).map (·.1)).Nodup
  | [], _ => by simp [putA]
  | e :: r, nd => by
    by_cases hp : e.1 = p
    · unfold putA
      rw [if_pos hp]
      exact nd
    · unfold putA
      rw [if_neg hp]
      rw [List.map_cons, List.nodup_cons] at nd ⊢
      refine ⟨fun h => ?_, put_nodup p n r nd.2⟩
      rcases put_keys p n r _ h with h | h
      · exact hp h
      · exact nd.1 h
theorem put_len (p : Pl) (n : Int) : ∀ as : List Ent, (putA as p n).length ≤ as.length + 1
  | [] => by simp [putA]
  | e :: r => by
    unfold putA
    split
    · simp
    · rw [List.length_cons, List.length_cons]
      have := put_len p n r
      omega
def sumA (es : List Ent) : List Ent := es.foldl (fun as e => putA as e.1 ((getA as e.1).getD 0 + e.2)) []
theorem sumA_snoc (es : List Ent) (e : Ent) : sumA (es ++ [e]) = putA (sumA es) e.1 ((getA (sumA es) e.1).getD 0 + e.2) := by
  unfold sumA
  rw [List.foldl_append]
  rfl
theorem snoc_ind {α : Type} {p : List α → Prop} (h0 : p []) (hs : ∀ l a, p l → p (l ++ [a])) : ∀ l, p l := by
  have : ∀ l : List α, p l.reverse := by
    intro l
    induction l with
    | nil => exact h0
    | cons a l ih =>
      rw [List.reverse_cons]
      exact hs _ _ ih
  intro l
  have := this l.reverse
  rwa [List.reverse_reverse] at this
theorem sumA_nodup : ∀ es : List Ent, ((sumA es).map (·.1)).Nodup := snoc_ind (by simp [sumA]) fun l a ih => by
  rw [sumA_snoc]
  exact put_nodup _ _ _ ih
theorem sumA_keys : ∀ es : List Ent, ∀ q ∈ (sumA es).map (·.1), q ∈ es.map (·.1) := snoc_ind (by simp [sumA]) fun l a ih q h => by
  rw [sumA_snoc] at h
  rw [List.map_append, List.mem_append]
  rcases put_keys _ _ _ q h with h | h
  · exact .inr (by simp [h])
  · exact .inl (ih q h)
theorem sumA_len : ∀ es : List Ent, (sumA es).length ≤ es.length := snoc_ind (by simp [sumA]) fun l a ih => by
  rw [sumA_snoc, List.length_append]
  have := put_len a.1 ((getA (sumA l) a.1).getD 0 + a.2) (sumA l)
  simp
  omega
/-- the step of a sum, by the evaluator -/
theorem putD_A {i : Nat} {ρ : Rho} {as : List Ent} {p : Pl} {n : Int} (nd : (as.map (·.1)).Nodup) (hl : as.length < 16777216) : putX i ρ (.int n) (.tT (ksA as) (vsA as)) (.dat (pD p)) = some (.nx (ρ.set i (some (.own (.tT (ksA (putA as p n)) (vsA (putA as p n))))))) := by
  show (match tkeyOf (pD p) with
    | some q => if (ksA as).length < 16777216 then some (SO.nx (ρ.set i (some (.own (if hasK (ksA as) q = true then OV.tT (ksA as) (dputV (ksA as) (vsA as) q (D.int n)) else OV.tT (ksA as ++ [q]) (vsA as ++ [D.int n])))))) else none
    | none => none) = _
  rw [tkeyOf_pD]
  show (if (ksA as).length < 16777216 then _ else _) = _
  rw [if_pos (by rw [List.length_map]; exact hl), hasK_A]
  cases h : (getA as p).isSome with
  | true =>
    obtain ⟨h1, h2⟩ := put_has p n as h nd
    rw [if_pos rfl, h1, h2]
  | false =>
    rw [if_neg (by decide), put_new p n as h]
    simp [ksA, vsA]
theorem get_A (as : List Ent) (p : Pl) : getV (.br (.tT (ksA as) (vsA as))) (.dat (pD p)) (.dat (.int 0)) = some (.dat (.int ((getA as p).getD 0))) := by
  show (match dictV (.br (.tT (ksA as) (vsA as))) (pD p) with
    | some (some v) => some (RV.dat v)
    | some none => some (.dat (.int 0))
    | none => none) = _
  have e : dictV (.br (.tT (ksA as) (vsA as))) (pD p) = some ((getA as p).map D.int) := by
    show (match some (ksA as), tkeyOf (pD p) with
      | some ks, some q => some (dget ks (vsA as) q)
      | _, _ => _) = _
    rw [tkeyOf_pD]
    show some (dget (ksA as) (vsA as) (kI p)) = _
    rw [dget_A]
  rw [e]
  cases getA as p with
  | none => rfl
  | some v => rfl
/-! ### order -/
theorem pyD_ints (p : Pl) : pyDs (p.map D.int) = p.map PyData.int := by
  induction p with
  | nil => rfl
  | cons x p ih =>
    show PyData.int x :: pyDs (p.map D.int) = _
    rw [ih]
    rfl
theorem pyD_pD (p : Pl) : pyD (pD p) = .tuple (p.map .int) := by
  show PyData.tuple (pyDs (p.map D.int)) = _
  rw [pyD_ints]
theorem lt_pD (p q : Pl) : PySem.W.dataLt (pyD (pD p)) (pyD (pD q)) = decide (p < q) := by
  rw [pyD_pD, pyD_pD, PySem.W.dataLt_tuple]
  exact PySem.W.dataLt_ints p q
theorem okDs_ints (p : Pl) (n : Nat) : okDs (p.map D.int) n = true := by
  induction p with
  | nil => rfl
  | cons x p ih =>
    show (okD (.int x) n && okDs (p.map D.int) n) = true
    rw [ih]
    rfl
theorem okD_pD (p : Pl) (n : Nat) : okD (pD p) (n + 1) = true := okDs_ints p n
theorem alike_ints : ∀ p q : Pl, PySem.W.alikeAll (p.map PyData.int) (q.map PyData.int) = true
  | [], _ => by cases ‹Pl› <;> rfl
  | _ :: _, [] => rfl
  | x :: p, y :: q => by
    show (PySem.W.alike (.int x) (.int y) && PySem.W.alikeAll (p.map PyData.int) (q.map PyData.int)) = true
    rw [alike_ints p q]
    rfl
theorem alike_pD (p q : Pl) : alikeD (pD p) (pD q) = true := by
  unfold alikeD
  rw [pyD_pD, pyD_pD]
  exact alike_ints p q
theorem ltD_pD (p q : Pl) : ltD (pD p) (pD q) = some (decide (p < q)) := by
  have h : ltD (pD p) (pD q) = if okD (pD p) 60 = true ∧ okD (pD q) 60 = true ∧ PySem.W.alike (pyD (pD p)) (pyD (pD q)) = true then some (PySem.W.dataLt (pyD (pD p)) (pyD (pD q))) else none := rfl
  rw [h, if_pos ⟨okD_pD p 59, okD_pD q 59, alike_pD p q⟩, lt_pD]
def sortP (ps : List Pl) : List Pl := ps.mergeSort fun a b => !decide (b < a)
theorem sortD_P (ps : List Pl) : sortD (ps.map pD) = (sortP ps).map pD := by
  unfold sortD sortP
  exact (List.map_mergeSort fun a _ b _ => by rw [lt_pD]).symm
theorem okDs_ps : ∀ (ps : List Pl) (n : Nat), okDs (ps.map pD) (n + 1) = true
  | [], _ => rfl
  | p :: ps, n => by
    show (okD (pD p) (n + 1) && okDs (ps.map pD) (n + 1)) = true
    rw [okD_pD, okDs_ps ps n]
    rfl
theorem allB_of {p : D → Bool} : ∀ {ds : List D}, (∀ d ∈ ds, p d = true) → allB p ds = true
  | [], _ => rfl
  | d :: ds, h => by
    show (p d && allB p ds) = true
    rw [h d List.mem_cons_self, allB_of fun d hd => h d (List.mem_cons_of_mem _ hd)]
    rfl
theorem sortOk_P (ps : List Pl) (h : ∀ p ∈ ps, p ≠ []) : sortOk (ps.map pD) = true := by
  unfold sortOk
  rw [okDs_ps ps 59]
  have h1 : allB (fun x => allB (fun y => alikeD x y) (ps.map pD)) (ps.map pD) = true := allB_of fun x hx => allB_of fun y hy => by
    obtain ⟨p, _, rfl⟩ := List.mem_map.mp hx
    obtain ⟨q, _, rfl⟩ := List.mem_map.mp hy
    exact alike_pD p q
  rw [h1, Bool.true_and, Bool.true_and]
  refine (Bool.or_eq_true _ _).mpr (.inl (allB_of fun x hx => ?_))
  obtain ⟨p, hp, rfl⟩ := List.mem_map.mp hx
  cases p with
  | nil => exact absurd rfl (h [] hp)
  | cons a p => rfl
theorem sortP_mem {ps : List Pl} {p : Pl} : p ∈ sortP ps ↔ p ∈ ps := List.mem_mergeSort
theorem sortP_pw (ps : List Pl) (nd : ps.Nodup) : (sortP ps).Pairwise fun a b => a < b := by
  have h1 : (sortP ps).Pairwise fun a b => (!decide (b < a)) = true := List.pairwise_mergeSort (fun a b c hab hbc => by
    simp only [Bool.not_eq_true', decide_eq_false_iff_not] at hab hbc ⊢
    exact fun h => hab (List.lt_of_le_of_lt (by simpa using hbc) h)) (fun a b => by
    simp only [Bool.or_eq_true, Bool.not_eq_true', decide_eq_false_iff_not]
    by_cases h : b < a
    · exact .inr (fun z => absurd (List.lt_trans h z) (List.lt_irrefl _))
    · exact .inl h) ps
  have h2 : (sortP ps).Pairwise fun a b => a ≠ b := (List.mergeSort_perm ps _).nodup_iff.mpr nd
  refine (h1.and h2).imp fun {a b} h => ?_
  obtain ⟨x, y⟩ := h
  have x : ¬ b < a := by simpa using x
  by_cases z : a < b
  · exact z
  · exact absurd (List.le_antisymm (by simpa using x) (by simpa using z)) y
end DE

set_option Elab.async false
set_option linter.all false
set_option maxRecDepth 100000
set_option maxHeartbeats 4000000
/-! DE13: the evaluator by steps: a name for each step, so that nothing is looked at before its parts are known. -/
namespace DE
open PySem L2
section
variable {C : Cfg} {ρ : Rho}
def u1 (f : RV → Option RV) (x : EvR) : EvR := bindR x fun x => optR (f x)
def u2 (f : RV → RV → Option RV) (x y : EvR) : EvR := bindR x fun x => bindR y fun y => optR (f x y)
def v2 (f : RV → RV → Option Bool) (x y : EvR) : Ans Bool := bindR x fun x => bindR y fun y => optR (f x y)
def v1 (f : RV → Option Bool) (x : EvR) : Ans Bool := bindR x fun x => optR (f x)
def ac (x : EvR) (xs : Ans (List RV)) : Ans (List RV) := bindR x fun x => bindR xs fun xs => some (.ok (x :: xs))
theorem u1_ok {f : RV → Option RV} {x : RV} : u1 f (some (.ok x)) = optR (f x) := rfl
theorem u2_ok {f : RV → RV → Option RV} {x y : RV} : u2 f (some (.ok x)) (some (.ok y)) = optR (f x y) := rfl
theorem v2_ok {f : RV → RV → Option Bool} {x y : RV} : v2 f (some (.ok x)) (some (.ok y)) = optR (f x y) := rfl
theorem v1_ok {f : RV → Option Bool} {x : RV} : v1 f (some (.ok x)) = optR (f x) := rfl
theorem ac_ok {x : RV} {xs : List RV} : ac (some (.ok x)) (some (.ok xs)) = some (.ok (x :: xs)) := rfl
def varV (x : Option (Option LV)) : EvR :=
  match x with
  | some (some (.dat d)) => some (.ok (.dat d))
  | some (some (.own o)) => some (.ok (.br o))
  | _ => none
theorem var_dat {d : D} : varV (some (some (.dat d))) = some (.ok (.dat d)) := rfl
theorem var_own {o : OV} : varV (some (some (.own o))) = some (.ok (.br o)) := rfl
theorem ev_var {i : Nat} : evE C (.var i) ρ = varV ρ[i]? := by rw [evE]; rfl
theorem ev_int {n : Int} : evE C (.int n) ρ = some (.ok (.dat (.int n))) := by rw [evE]
theorem ev_str {n : Str} : evE C (.str n) ρ = some (.ok (.dat (.str n))) := by rw [evE]
theorem ev_bl {n : Bool} : evE C (.bl n) ρ = some (.ok (.dat (.bl n))) := by rw [evE]
theorem ev_non : evE C .non ρ = some (.ok (.dat .non)) := by rw [evE]
theorem ev_bin {o : BOp} {a b : IE} : evE C (.bin o a b) ρ = u2 (binV o) (evE C a ρ) (evE C b ρ) := by rw [evE]; rfl
def negV (x : RV) : Option RV := match x with | .dat (.int i) => some (.dat (.int (-i))) | _ => none
theorem neg_int (i : Int) : negV (.dat (.int i)) = some (.dat (.int (-i))) := rfl
theorem ev_neg {a : IE} : evE C (.neg a) ρ = u1 negV (evE C a ρ) := by
  rw [evE]
  show bindR _ _ = bindR _ _
  congr 1
  funext x
  cases x with
  | dat d => cases d <;> rfl
  | _ => rfl
theorem ev_cmp {o : COp} {a b : IE} : evE C (.cmp o a b) ρ = u2 (fun x y => blR (cmpV o x y)) (evE C a ρ) (evE C b ρ) := by rw [evE]; rfl
theorem ev_ix {a b : IE} : evE C (.ix a b) ρ = u2 ixW (evE C a ρ) (evE C b ρ) := by rw [evE]; rfl
def notB (x : RV) : Option RV := match x with | .dat (.bl b) => some (.dat (.bl (!b))) | _ => none
theorem not_bl (b : Bool) : notB (.dat (.bl b)) = some (.dat (.bl (!b))) := rfl
theorem ev_nott {a : IE} : evE C (.nott a) ρ = u1 notB (evE C a ρ) := by
  rw [evE]
  show bindR _ _ = bindR _ _
  congr 1
  funext x
  cases x with
  | dat d => cases d <;> rfl
  | _ => rfl
def tupV (rs : Ans (List RV)) : EvR := bindR rs fun rs => match toDs rs with | some ds => some (.ok (.dat (.tup ds))) | none => none
theorem tup_ok {rs : List RV} {ds : List D} (h : toDs rs = some ds) : tupV (some (.ok rs)) = some (.ok (.dat (.tup ds))) := by
  show (match toDs rs with | some ds => some (Except.ok (RV.dat (.tup ds))) | none => none) = _
  rw [h]
def lstU (rs : Ans (List RV)) : EvR := bindR rs fun rs => match toDs rs with | some ds => some (.ok (.fr (.l ds))) | none => none
theorem lst_ok {rs : List RV} {ds : List D} (h : toDs rs = some ds) : lstU (some (.ok rs)) = some (.ok (.fr (.l ds))) := by
  show (match toDs rs with | some ds => some (Except.ok (RV.fr (.l ds))) | none => none) = _
  rw [h]
theorem ev_tup {as : IA} : evE C (.tup as) ρ = tupV (evA C as ρ) := by rw [evE]; rfl
theorem ev_lst {as : IA} : evE C (.lst as) ρ = lstU (evA C as ρ) := by rw [evE]; rfl
theorem ev_dictT : evE C .dictT ρ = some (.ok (.fr (.tT [] []))) := by rw [evE]
theorem ev_dictK : evE C .dictK ρ = some (.ok (.fr (.tK [] []))) := by rw [evE]
theorem toDs_nil : toDs [] = some [] := rfl
theorem toDs_dat {d : D} {rs : List RV} {ds : List D} (h : toDs rs = some ds) : toDs (.dat d :: rs) = some (d :: ds) := by
  show (match toD (.dat d), toDs rs with | some d, some ds => some (d :: ds) | _, _ => none) = _
  rw [h]
  rfl
theorem toDs_fr {o : OV} {rs : List RV} {ds : List D} (h : toDs rs = some ds) : toDs (.fr o :: rs) = some (o.d :: ds) := by
  show (match toD (.fr o), toDs rs with | some d, some ds => some (d :: ds) | _, _ => none) = _
  rw [h]
  rfl
theorem ea_nil : evA C .nil ρ = some (.ok []) := by rw [evA]
theorem ea_cons {a : IE} {r : IA} : evA C (.cons a r) ρ = ac (evE C a ρ) (evA C r ρ) := by rw [evA]; rfl
def biU (b : Bi) (rs : Ans (List RV)) : EvR := bindR rs fun rs => optR (biV b rs)
theorem bi_ok {b : Bi} {rs : List RV} : biU b (some (.ok rs)) = optR (biV b rs) := rfl
theorem ev_bi {b : Bi} {as : IA} : evE C (.bi b as) ρ = biU b (evA C as ρ) := by rw [evE]; rfl
def callU (f : Option Fn) (rs : Ans (List RV)) : EvR := bindR rs fun rs => match f with | some fn => callV fn rs | none => none
theorem call_ok {fn : Fn} {rs : List RV} : callU (some fn) (some (.ok rs)) = callV fn rs := rfl
theorem ev_call {j : Nat} {as : IA} : evE C (.call j as) ρ = callU C.T[j]? (evA C as ρ) := by rw [evE]; rfl
/-- a call, by what the def gives -/
theorem callV_n {fn : Fn} {rs : List RV} (ho : fn.ow = false) : callV fn rs = callN fn rs := by
  unfold callV
  rw [ho]
theorem callV_ok {fn : Fn} {rs : List RV} {r : RV} (hn : rs.length = fn.n) (h : fn.m (rs.map RV.d) = some (.ok r)) (hb : isBr r = false) (hf : anyBr rs = true → flatR r = true) (ho : fn.ow = false := by rfl) : callV fn rs = some (.ok r) := by
  rw [callV_n ho]
  unfold callN
  rw [if_pos hn, h]
  show (if isBr r = true ∨ (anyBr rs = true ∧ flatR r = false) then _ else _) = _
  rw [if_neg]
  rintro (z | ⟨z1, z2⟩)
  · rw [hb] at z; cases z
  · rw [hf z1] at z2; cases z2
theorem callV_er {fn : Fn} {rs : List RV} {e : Er} (hn : rs.length = fn.n) (h : fn.m (rs.map RV.d) = some (.error e)) (hf : anyBr rs = true → flatDs e.fs = true) (ho : fn.ow = false := by rfl) : callV fn rs = some (.error e) := by
  rw [callV_n ho]
  unfold callN
  rw [if_pos hn, h]
  show (if anyBr rs = true ∧ flatDs e.fs = false then _ else _) = _
  rw [if_neg]
  rintro ⟨z1, z2⟩
  rw [hf z1] at z2
  cases z2
def slU (x : EvR) (lo hi : Ans (Option Int)) : EvR := bindR x fun x => bindR lo fun l => bindR hi fun u => optR (slV x l u)
theorem sl_ok {x : RV} {l u : Option Int} : slU (some (.ok x)) (some (.ok l)) (some (.ok u)) = optR (slV x l u) := rfl
theorem ev_sl {a : IE} {lo hi : IO} : evE C (.sl a lo hi) ρ = slU (evE C a ρ) (evO C lo ρ) (evO C hi ρ) := by rw [evE]; rfl
theorem eo_no : evO C .no ρ = some (.ok none) := by rw [evO]
def soU (x : EvR) : Ans (Option Int) := bindR x fun x => match x with | .dat (.int i) => some (.ok (some i)) | _ => none
theorem so_ok {i : Int} : soU (some (.ok (.dat (.int i)))) = some (.ok (some i)) := rfl
theorem eo_so {a : IE} : evO C (.so a) ρ = soU (evE C a ρ) := by rw [evO]; rfl
def getU (d k x : EvR) : EvR := bindR d fun d => bindR (optR (dicV d)) fun d => bindR k fun k => bindR x fun x => optR (getV d k x)
theorem get_ok {d k x : RV} (h : isDic d = true) : getU (some (.ok d)) (some (.ok k)) (some (.ok x)) = optR (getV d k x) := by
  have e : dicV d = some d := by unfold dicV; rw [h]
  show bindR (optR (dicV d)) _ = _
  rw [e]
  rfl
theorem ev_get {d k x : IE} : evE C (.get d k x) ρ = getU (evE C d ρ) (evE C k ρ) (evE C x ρ) := by rw [evE]; rfl
theorem ev_attr {a : IE} {n : Str} : evE C (.attr a n) ρ = u1 (fun x => attrV C.fld x n) (evE C a ρ) := by rw [evE]; rfl
theorem ev_isi {a : IE} {c : Cl} : evE C (.isi a c) ρ = u1 (fun x => blR (isiV C.isa x c)) (evE C a ρ) := by rw [evE]; rfl
def iteE (t : Ans Bool) (a b : Rho → EvR) (ρ : Rho) : EvR := bindR t fun k => match k with | true => a ρ | false => b ρ
theorem iteE_t {a b : Rho → EvR} : iteE (some (.ok true)) a b ρ = a ρ := rfl
theorem iteE_f {a b : Rho → EvR} : iteE (some (.ok false)) a b ρ = b ρ := rfl
theorem ev_ife {c a b : IE} : evE C (.ife c a b) ρ = iteE (evT C c ρ) (evE C a) (evE C b) ρ := by rw [evE]; rfl
/-- and, or: the rest only where it is asked -/
def andU (x : EvR) (r : Rho → EvR) (ρ : Rho) : EvR := bindR x fun x => match x with | .dat (.bl true) => r ρ | .dat (.bl false) => some (.ok (.dat (.bl false))) | _ => none
def orU (x : EvR) (r : Rho → EvR) (ρ : Rho) : EvR := bindR x fun x => match x with | .dat (.bl false) => r ρ | .dat (.bl true) => some (.ok (.dat (.bl true))) | _ => none
theorem andU_t {r : Rho → EvR} : andU (some (.ok (.dat (.bl true)))) r ρ = r ρ := rfl
theorem andU_f {r : Rho → EvR} : andU (some (.ok (.dat (.bl false)))) r ρ = some (.ok (.dat (.bl false))) := rfl
theorem orU_t {r : Rho → EvR} : orU (some (.ok (.dat (.bl true)))) r ρ = some (.ok (.dat (.bl true))) := rfl
theorem orU_f {r : Rho → EvR} : orU (some (.ok (.dat (.bl false)))) r ρ = r ρ := rfl
theorem ev_andd {as : IA} : evE C (.andd as) ρ = evAnd C as ρ := by rw [evE]
theorem ev_orr {as : IA} : evE C (.orr as) ρ = evOr C as ρ := by rw [evE]
theorem en_1 {a : IE} : evAnd C (.cons a .nil) ρ = evE C a ρ := by rw [evAnd]
theorem en_2 {a b : IE} {r : IA} : evAnd C (.cons a (.cons b r)) ρ = andU (evE C a ρ) (evAnd C (.cons b r)) ρ := by rw [evAnd] <;> rfl
theorem er_1 {a : IE} : evOr C (.cons a .nil) ρ = evE C a ρ := by rw [evOr]
theorem er_2 {a b : IE} {r : IA} : evOr C (.cons a (.cons b r)) ρ = orU (evE C a ρ) (evOr C (.cons b r)) ρ := by rw [evOr] <;> rfl
/-! ### tests -/
def andT (x : Ans Bool) (r : Rho → Ans Bool) (ρ : Rho) : Ans Bool := bindR x fun k => match k with | true => r ρ | false => some (.ok false)
def orT (x : Ans Bool) (r : Rho → Ans Bool) (ρ : Rho) : Ans Bool := bindR x fun k => match k with | false => r ρ | true => some (.ok true)
theorem andT_t {r : Rho → Ans Bool} : andT (some (.ok true)) r ρ = r ρ := rfl
theorem andT_f {r : Rho → Ans Bool} : andT (some (.ok false)) r ρ = some (.ok false) := rfl
theorem orT_t {r : Rho → Ans Bool} : orT (some (.ok true)) r ρ = some (.ok true) := rfl
theorem orT_f {r : Rho → Ans Bool} : orT (some (.ok false)) r ρ = r ρ := rfl
def notT (x : Ans Bool) : Ans Bool := bindR x fun k => some (.ok (!k))
theorem notT_ok {k : Bool} : notT (some (.ok k)) = some (.ok (!k)) := rfl
theorem et_andd {as : IA} : evT C (.andd as) ρ = evAndT C as ρ := by rw [evT]
theorem et_orr {as : IA} : evT C (.orr as) ρ = evOrT C as ρ := by rw [evT]
theorem et_nott {a : IE} : evT C (.nott a) ρ = notT (evT C a ρ) := by rw [evT]; rfl
theorem et_cmp {o : COp} {a b : IE} : evT C (.cmp o a b) ρ = v2 (cmpV o) (evE C a ρ) (evE C b ρ) := by rw [evT]; rfl
theorem et_var {i : Nat} : evT C (.var i) ρ = v1 truV (varV ρ[i]?) := by rw [evT, ev_var]; rfl
theorem et_isi {a : IE} {c : Cl} : evT C (.isi a c) ρ = v1 (fun x => isiV C.isa x c) (evE C a ρ) := by rw [evT]; rfl
theorem et_call {j : Nat} {as : IA} : evT C (.call j as) ρ = v1 truV (callU C.T[j]? (evA C as ρ)) := by rw [evT]; rfl
theorem et_bi {b : Bi} {as : IA} : evT C (.bi b as) ρ = v1 truV (biU b (evA C as ρ)) := by rw [evT]; rfl
theorem et_ix {a b : IE} : evT C (.ix a b) ρ = v1 truV (u2 ixW (evE C a ρ) (evE C b ρ)) := by rw [evT]; rfl
def chT (o o' : COp) (a b : EvR) (c : Rho → EvR) (ρ : Rho) : Ans Bool := bindR a fun x => bindR b fun y => bindR (optR (cmpV o x y)) fun k => match k with | true => bindR (c ρ) fun z => optR (cmpV o' y z) | false => some (.ok false)
theorem chT_ok {o o' : COp} {x y : RV} {c : Rho → EvR} : chT o o' (some (.ok x)) (some (.ok y)) c ρ = andT (optR (cmpV o x y)) (fun ρ => v1 (cmpV o' y) (c ρ)) ρ := rfl
theorem et_chain {o o' : COp} {a b c : IE} : evT C (.chain o o' a b c) ρ = chT o o' (evE C a ρ) (evE C b ρ) (evE C c) ρ := by rw [evT] <;> rfl
theorem tru_bl (b : Bool) : truV (.dat (.bl b)) = some b := rfl
theorem ent_1 {a : IE} : evAndT C (.cons a .nil) ρ = evT C a ρ := by rw [evAndT]
theorem ent_2 {a b : IE} {r : IA} : evAndT C (.cons a (.cons b r)) ρ = andT (evT C a ρ) (evAndT C (.cons b r)) ρ := by rw [evAndT] <;> rfl
theorem ert_1 {a : IE} : evOrT C (.cons a .nil) ρ = evT C a ρ := by rw [evOrT]
theorem ert_2 {a b : IE} {r : IA} : evOrT C (.cons a (.cons b r)) ρ = orT (evT C a ρ) (evOrT C (.cons b r)) ρ := by rw [evOrT] <;> rfl
/-! ### comprehensions -/
def lcU (ds : Ans (List D)) (step : D → Ans (Option D)) : EvR := bindR ds fun ds => bindR (optR (szV ds)) fun ds => bindR (compL step ds) fun rs => some (.ok (.fr (.l rs)))
theorem lc_ok {ds rs : List D} {step : D → Ans (Option D)} (hz : ds.length ≤ 16777216) (h : compL step ds = some (.ok rs)) : lcU (some (.ok ds)) step = some (.ok (.fr (.l rs))) := by
  have e : szV ds = some ds := by unfold szV; rw [if_pos hz]
  show bindR (optR (szV ds)) _ = _
  rw [e]
  show bindR (compL step ds) _ = _
  rw [h]
  rfl
theorem ev_lc {elt : IE} {g : Tg} {src : ISrc} {ifs : IO} : evE C (.lc elt g src ifs) ρ = lcU (evSrc C src ρ) (turnL g (evIf C ifs) (evE C elt) ρ) := by rw [evE]; rfl
def itU (x : EvR) : Ans (List D) := bindR x fun x => optR (walkV x)
theorem it_ok {x : RV} {ds : List D} (h : walkV x = some ds) : itU (some (.ok x)) = some (.ok ds) := by
  show optR (walkV x) = _
  rw [h]
  rfl
def rgU (x : Ans (List RV)) : Ans (List D) := bindR x fun x => optR (rangeV x)
theorem it_fr {ds : List D} : itU (some (.ok (.fr (.l ds)))) = some (.ok ds) := rfl
theorem it_dl {ds : List D} : itU (some (.ok (.dat (.lst ds)))) = some (.ok ds) := rfl
theorem it_dt {ds : List D} : itU (some (.ok (.dat (.tup ds)))) = some (.ok ds) := rfl
theorem it_br {ds : List D} : itU (some (.ok (.br (.l ds)))) = some (.ok ds) := rfl
theorem rg_1 {n : Int} (h : ints62 n = true) : rgU (some (.ok [.dat (.int n)])) = some (.ok (rangeD 0 n.toNat)) := by
  show optR (if ints62 n = true then _ else _) = _
  rw [if_pos h]
  rfl
theorem rg_2 {a b : Int} (h : ints62 a = true ∧ ints62 b = true) : rgU (some (.ok [.dat (.int a), .dat (.int b)])) = some (.ok (rangeD a (b - a).toNat)) := by
  show optR (if ints62 a = true ∧ ints62 b = true then _ else _) = _
  rw [if_pos h]
  rfl
theorem es_it {a : IE} : evSrc C (.it a) ρ = itU (evE C a ρ) := by rw [evSrc]; rfl
theorem es_rg {as : IA} : evSrc C (.range as) ρ = rgU (evA C as ρ) := by rw [evSrc]; rfl
/-- a comprehension's turn: no test -/
theorem turn_no {g : Tg} {elt : IE} {d : D} {ρ' : Rho} {x : RV} {y : D} (h : setG g d ρ = some ρ') (hx : evE C elt ρ' = some (.ok x)) (hy : toD x = some y) : turnL g (evIf C .no) (evE C elt) ρ d = some (.ok (some y)) := by
  unfold turnL
  rw [h]
  show bindR (evIf C .no ρ') _ = _
  have e : evIf C .no ρ' = some (.ok true) := by rw [evIf]
  rw [e]
  show bindR (evE C elt ρ') _ = _
  rw [hx]
  show (match toD x with | some y => some (Except.ok (some y)) | none => none) = _
  rw [hy]
theorem turn_so {g : Tg} {elt c : IE} {d : D} {ρ' : Rho} {k : Bool} {x : RV} {y : D} (h : setG g d ρ = some ρ') (hc : evT C c ρ' = some (.ok k)) (hx : k = true → evE C elt ρ' = some (.ok x)) (hy : k = true → toD x = some y) : turnL g (evIf C (.so c)) (evE C elt) ρ d = some (.ok (if k = true then some y else none)) := by
  unfold turnL
  rw [h]
  show bindR (evIf C (.so c) ρ') _ = _
  have e : evIf C (.so c) ρ' = evT C c ρ' := by rw [evIf]
  rw [e, hc]
  cases k with
  | false => rfl
  | true =>
    show bindR (evE C elt ρ') _ = _
    rw [hx rfl]
    show (match toD x with | some y => some (Except.ok (some y)) | none => none) = _
    rw [hy rfl]
    rfl
theorem toDs_cd {d : D} {rs : List RV} : toDs (.dat d :: rs) = (toDs rs).map fun ds => d :: ds := by
  cases h : toDs rs with
  | none =>
    show (match toD (.dat d), toDs rs with | some d, some ds => some (d :: ds) | _, _ => none) = _
    rw [h]
    rfl
  | some ds => exact toDs_dat h
theorem toDs_cf {o : OV} {rs : List RV} : toDs (.fr o :: rs) = (toDs rs).map fun ds => o.d :: ds := by
  cases h : toDs rs with
  | none =>
    show (match toD (.fr o), toDs rs with | some d, some ds => some (d :: ds) | _, _ => none) = _
    rw [h]
    rfl
  | some ds => exact toDs_fr h
def tupM (o : Option (List D)) : EvR := match o with | some ds => some (.ok (.dat (.tup ds))) | none => none
theorem tupV_ok {rs : List RV} : tupV (some (.ok rs)) = tupM (toDs rs) := rfl
theorem tupM_ok {ds : List D} : tupM (some ds) = some (.ok (.dat (.tup ds))) := rfl
def lstM (o : Option (List D)) : EvR := match o with | some ds => some (.ok (.fr (.l ds))) | none => none
theorem lstU_ok {rs : List RV} : lstU (some (.ok rs)) = lstM (toDs rs) := rfl
theorem lstM_ok {ds : List D} : lstM (some ds) = some (.ok (.fr (.l ds))) := rfl
theorem get_br {ks : List (List Key)} {vs : List D} {k x : RV} : getU (some (.ok (.br (.tT ks vs)))) (some (.ok k)) (some (.ok x)) = optR (getV (.br (.tT ks vs)) k x) := get_ok rfl
theorem get_dat {ks : List (List Key)} {vs : List D} {k x : RV} : getU (some (.ok (.dat (.dicT ks vs)))) (some (.ok k)) (some (.ok x)) = optR (getV (.dat (.dicT ks vs)) k x) := get_ok rfl
/-! ### statements -/
def nxt (o : SR) (k : Rho → SR) : SR := match o with | some (.nx ρ') => k ρ' | o => o
theorem nxt_nx {ρ' : Rho} {k : Rho → SR} : nxt (some (.nx ρ')) k = k ρ' := rfl
theorem nxt_rt {r : RV} {k : Rho → SR} : nxt (some (.rt r)) k = some (.rt r) := rfl
theorem nxt_er {e : Er} {ρ' : Rho} {k : Rho → SR} : nxt (some (.er e ρ')) k = some (.er e ρ') := rfl
theorem nxt_bk {ρ' : Rho} {k : Rho → SR} : nxt (some (.bk ρ')) k = some (.bk ρ') := rfl
theorem nxt_ct {ρ' : Rho} {k : Rho → SR} : nxt (some (.ct ρ')) k = some (.ct ρ') := rfl
theorem rb_nil : runB C .nil ρ = some (.nx ρ) := by rw [runB]
theorem rb_cons {s : IS} {r : IB} : runB C (.cons s r) ρ = nxt (runS C s ρ) (runB C r) := by
  rw [runB]
  unfold nxt
  cases runS C s ρ with
  | none => rfl
  | some o => cases o <;> rfl
def frzS (i : Nat) (x : Option (Option LV)) (ρ : Rho) : Rho := match x with | some (some (.own o)) => ρ.set i (some (.dat o.d)) | _ => ρ
theorem frz_own {i : Nat} {o : OV} : frzS i (some (some (.own o))) ρ = ρ.set i (some (.dat o.d)) := rfl
theorem frz_dat {i : Nat} {d : D} : frzS i (some (some (.dat d))) ρ = ρ := rfl
theorem frz_no {i : Nat} : frzS i (some none) ρ = ρ := rfl
theorem rb_frz {i : Nat} {r : IB} : runB C (.frz i r) ρ = runB C r (frzS i ρ[i]? ρ) := by
  rw [runB]
  unfold frzS
  cases ρ[i]? with
  | none => rfl
  | some x =>
    cases x with
    | none => rfl
    | some v => cases v <;> rfl
def asgS (i : Nat) (ρ : Rho) (x : EvR) : SR := liftS x ρ fun r => match r with | .dat d => some (.nx (ρ.set i (some (.dat d)))) | .fr o => some (.nx (ρ.set i (some (.own o)))) | .br _ => none
theorem asg_dat {i : Nat} {d : D} : asgS i ρ (some (.ok (.dat d))) = some (.nx (ρ.set i (some (.dat d)))) := rfl
theorem asg_fr {i : Nat} {o : OV} : asgS i ρ (some (.ok (.fr o))) = some (.nx (ρ.set i (some (.own o)))) := rfl
theorem asg_er {i : Nat} {e : Er} : asgS i ρ (some (.error e)) = some (.er e ρ) := rfl
theorem rs_asg {i : Nat} {e : IE} : runS C (.asg i e) ρ = asgS i ρ (evE C e ρ) := by rw [runS]; rfl
def asgTS (is : List Nat) (ρ : Rho) (x : EvR) : SR := liftS x ρ fun r => match r with | .dat (.tup ds) => (match setT is ds ρ with | some ρ' => some (.nx ρ') | none => none) | _ => none
theorem asgT_ok {is : List Nat} {ds : List D} {ρ' : Rho} (h : setT is ds ρ = some ρ') : asgTS is ρ (some (.ok (.dat (.tup ds)))) = some (.nx ρ') := by
  show (match setT is ds ρ with | some ρ' => some (SO.nx ρ') | none => none) = _
  rw [h]
theorem rs_asgT {is : List Nat} {e : IE} : runS C (.asgT is e) ρ = asgTS is ρ (evE C e ρ) := by
  rw [runS]
  rfl
def appS (i : Nat) (ρ : Rho) (s : Option (Option LV)) (x : EvR) : SR := match s with
  | some (some (.own (.l ds))) => liftS x ρ fun r => (match toD r with | some d => if ds.length < 16777216 then some (.nx (ρ.set i (some (.own (.l (ds ++ [d])))))) else none | none => none)
  | _ => none
theorem app_ok {i : Nat} {ds : List D} {r : RV} {d : D} (h : toD r = some d) (hl : ds.length < 16777216) : appS i ρ (some (some (.own (.l ds)))) (some (.ok r)) = some (.nx (ρ.set i (some (.own (.l (ds ++ [d])))))) := by
  show (match toD r with | some d => if ds.length < 16777216 then some (SO.nx (ρ.set i (some (.own (.l (ds ++ [d])))))) else none | none => none) = _
  rw [h]
  exact if_pos hl
theorem app_dat {i : Nat} {ds : List D} {d : D} : appS i ρ (some (some (.own (.l ds)))) (some (.ok (.dat d))) = if ds.length < 16777216 then some (.nx (ρ.set i (some (.own (.l (ds ++ [d])))))) else none := rfl
theorem app_fr {i : Nat} {ds : List D} {o : OV} : appS i ρ (some (some (.own (.l ds)))) (some (.ok (.fr o))) = if ds.length < 16777216 then some (.nx (ρ.set i (some (.own (.l (ds ++ [o.d])))))) else none := rfl
theorem rs_app {i : Nat} {e : IE} : runS C (.app i e) ρ = appS i ρ ρ[i]? (evE C e ρ) := by
  rw [runS]
  unfold appS
  rfl
def setS (i : Nat) (ρ : Rho) (x : EvR) (s : Option (Option LV)) (k : EvR) : SR := liftS x ρ fun r => match toD r, s with
  | some d, some (some (.own o)) => liftS k ρ fun j => putX i ρ d o j
  | _, _ => none
theorem set_ok {i : Nat} {r : RV} {d : D} {o : OV} {j : RV} (h : toD r = some d) : setS i ρ (some (.ok r)) (some (some (.own o))) (some (.ok j)) = putX i ρ d o j := by
  show (match toD r, some (some (LV.own o)) with | some d, some (some (.own o)) => liftS (some (.ok j)) ρ fun j => putX i ρ d o j | _, _ => none) = _
  rw [h]
  rfl
theorem set_dat {i : Nat} {d : D} {o : OV} {j : RV} : setS i ρ (some (.ok (.dat d))) (some (some (.own o))) (some (.ok j)) = putX i ρ d o j := rfl
theorem rs_setL {i : Nat} {k e : IE} : runS C (.setL i k e) ρ = setS i ρ (evE C e ρ) ρ[i]? (evE C k ρ) := by
  rw [runS]
  rfl
def iteS (t : Ans Bool) (a b : Rho → SR) (ρ : Rho) : SR := liftS t ρ fun k => match k with | true => a ρ | false => b ρ
theorem iteS_t {a b : Rho → SR} : iteS (some (.ok true)) a b ρ = a ρ := rfl
theorem iteS_f {a b : Rho → SR} : iteS (some (.ok false)) a b ρ = b ρ := rfl
theorem rs_iff {c : IE} {a b : IB} : runS C (.iff c a b) ρ = iteS (evT C c ρ) (runB C a) (runB C b) ρ := by rw [runS]; rfl
def forS (ds : Ans (List D)) (step : D → Rho → SR) (ρ : Rho) : SR := liftS ds ρ fun ds => forL step ds ρ
theorem for_ok {ds : List D} {step : D → Rho → SR} : forS (some (.ok ds)) step ρ = forL step ds ρ := rfl
theorem rs_for {g : Tg} {src : ISrc} {b : IB} : runS C (.forr g src b) ρ = forS (evFor C src (g.slots ++ tchB b) ρ) (stepL g (runB C b)) ρ := by rw [runS]; rfl
theorem rs_while {c : IE} {b : IB} : runS C (.whil c b) ρ = whileL (evT C c) (runB C b) C.fuel ρ := by rw [runS]
theorem ef_rg {as : IA} {js : List Nat} : evFor C (.range as) js ρ = rgU (evA C as ρ) := by
  show evSrc C (.range as) ρ = _
  rw [es_rg]
def itF (x : EvR) : Ans (List D) := bindR x fun x => match isBr x with | false => optR (walkV x) | true => none
/-- a for over a name -/
theorem ef_var {i : Nat} {js : List Nat} {d : D} {ds : List D} (h : ρ[i]? = some (some (.dat d))) (hs : walkV (.dat d) = some ds) : evFor C (.it (.var i)) js ρ = some (.ok ds) := by
  show bindR (evE C (.var i) ρ) _ = _
  rw [ev_var, h]
  show optR (walkV (.dat d)) = _
  rw [hs]
  rfl
theorem ef_own {i : Nat} {js : List Nat} {ds : List D} (h : ρ[i]? = some (some (.own (.l ds)))) (hj : js.contains i = false) : evFor C (.it (.var i)) js ρ = some (.ok ds) := by
  show bindR (evE C (.var i) ρ) _ = _
  rw [ev_var, h]
  show (match js.contains i with | false => optR (walkV (.br (.l ds))) | true => none) = _
  rw [hj]
  rfl
def retS (ρ : Rho) (x : EvR) : SR := liftS x ρ fun r => match r with | .br _ => none | r => some (.rt r)
theorem ret_dat {d : D} : retS ρ (some (.ok (.dat d))) = some (.rt (.dat d)) := rfl
theorem ret_fr {o : OV} : retS ρ (some (.ok (.fr o))) = some (.rt (.fr o)) := rfl
theorem ret_er {e : Er} : retS ρ (some (.error e)) = some (.er e ρ) := rfl
theorem rs_ret {e : IE} : runS C (.ret e) ρ = retS ρ (evE C e ρ) := by
  rw [runS]
  unfold retS
  congr 1
def retVS (s : Option (Option LV)) : SR := match s with | some (some (.dat d)) => some (.rt (.dat d)) | some (some (.own o)) => some (.rt (.fr o)) | _ => none
theorem retV_dat {d : D} : retVS (some (some (.dat d))) = some (.rt (.dat d)) := rfl
theorem retV_own {o : OV} : retVS (some (some (.own o))) = some (.rt (.fr o)) := rfl
theorem rs_retV {i : Nat} : runS C (.retV i) ρ = retVS ρ[i]? := by rw [runS]; rfl
theorem rs_retN : runS C .retN ρ = some (.rt (.dat .non)) := by rw [runS]
theorem rs_brk : runS C .brk ρ = some (.bk ρ) := by rw [runS]
theorem rs_cnt : runS C .cnt ρ = some (.ct ρ) := by rw [runS]
theorem rs_pas : runS C .pas ρ = some (.nx ρ) := by rw [runS]
def dropS (ρ : Rho) (x : EvR) : SR := liftS x ρ fun _ => some (.nx ρ)
theorem drop_ok {r : RV} : dropS ρ (some (.ok r)) = some (.nx ρ) := rfl
theorem drop_er {e : Er} : dropS ρ (some (.error e)) = some (.er e ρ) := rfl
theorem rn_expr {e : IE} : runS C (.expr e) ρ = dropS ρ (evE C e ρ) := by rw [runS]; rfl
def raiS (f : Option (List D → Option Er)) (rs : Ans (List RV)) (ρ : Rho) : SR := match f with | some f => liftS rs ρ fun rs => erS f rs ρ | none => none
theorem rai_ok {f : List D → Option Er} {rs : List RV} {ds : List D} {e : Er} (h : toDs rs = some ds) (he : f ds = some e) : raiS (some f) (some (.ok rs)) ρ = some (.er e ρ) := by
  show erS f rs ρ = _
  unfold erS
  rw [h]
  show (match f ds with | some e => some (SO.er e ρ) | none => none) = _
  rw [he]
theorem rai_f {f : List D → Option Er} {rs : List RV} : raiS (some f) (some (.ok rs)) ρ = erS f rs ρ := rfl
theorem rs_rais {c : Str} {as : IA} : runS C (.rais c as) ρ = raiS (C.mkE c) (evA C as ρ) ρ := by rw [runS]; rfl
def triS (C : Cfg) (o : SR) (c : Str) (i : Nat) (s : Rho → SR) : SR := match o with
  | some (.er e ρ') => (match C.isa e.c c with | some true => endS i (s (ρ'.set i (some (.dat (.exc e.c e.ns e.fs))))) | some false => some (.er e ρ') | none => none)
  | r => r
theorem tri_nx {c : Str} {i : Nat} {s : Rho → SR} {ρ' : Rho} : triS C (some (.nx ρ')) c i s = some (.nx ρ') := rfl
theorem tri_rt {c : Str} {i : Nat} {s : Rho → SR} {r : RV} : triS C (some (.rt r)) c i s = some (.rt r) := rfl
theorem tri_er {c : Str} {i : Nat} {s : Rho → SR} {ρ' : Rho} {e : Er} (h : C.isa e.c c = some true) : triS C (some (.er e ρ')) c i s = endS i (s (ρ'.set i (some (.dat (.exc e.c e.ns e.fs))))) := by
  show (match C.isa e.c c with | some true => endS i (s (ρ'.set i (some (.dat (.exc e.c e.ns e.fs))))) | some false => some (.er e ρ') | none => none) = _
  rw [h]
theorem rs_tri {b s : IB} {c : Str} {i : Nat} : runS C (.tri b c i s) ρ = triS C (runB C b ρ) c i (runB C.hot s) := by
  rw [runS]
  unfold triS
  cases runB C b ρ with
  | none => rfl
  | some o => cases o <;> rfl
/-- a def's answer from its body's -/
def endF (o : SR) : EvR := match o with | some (.nx _) => some (.ok (.dat .non)) | some (.rt r) => some (.ok r) | some (.er e _) => some (.error e) | _ => none
theorem endF_rt {r : RV} : endF (some (.rt r)) = some (.ok r) := rfl
theorem endF_nx : endF (some (.nx ρ)) = some (.ok (.dat .non)) := rfl
theorem endF_er {e : Er} : endF (some (.er e ρ)) = some (.error e) := rfl
theorem mk_m {name : Str} {n m : Nat} {b : IB} {ds : List D} : (mkFn C name n m b).m ds = endF (runB C b (ds.map (fun d => some (.dat d)) ++ List.replicate (m - n) none)) := rfl
theorem isi_exc {isa : Str → Str → Option Bool} {c x : Str} {ns : List Str} {fs : List D} : isiV isa (.dat (.exc c ns fs)) (.own x) = isa c x := rfl
theorem attr_ok {fld : Str → Str → Bool} {c f : Str} {ns : List Str} {fs : List D} {d : D} (h : fld c f = true) (h2 : fldD ns fs f = some d) : attrV fld (.dat (.exc c ns fs)) f = some (.dat d) := by
  show (if fld c f = true then (match fldD ns fs f with | some d => some (RV.dat d) | none => none) else none) = _
  rw [if_pos h, h2]
/-! ### items by written places -/
theorem ixl_0 {a0 : D} {ds : List D} : ixW (.dat (.lst (a0 :: ds))) (.dat (.int 0)) = some (.dat a0) := ix_l (atI_get (by decide) rfl)
theorem ixt_0 {a0 : D} {ds : List D} : ixW (.dat (.tup (a0 :: ds))) (.dat (.int 0)) = some (.dat a0) := ix_t (atI_get (by decide) rfl)
theorem ixb_0 {a0 : D} {ds : List D} : ixW (.br (.l (a0 :: ds))) (.dat (.int 0)) = some (.dat a0) := ix_b (atI_get (by decide) rfl)
theorem ixf_0 {a0 : D} {ds : List D} : ixW (.fr (.l (a0 :: ds))) (.dat (.int 0)) = some (.dat a0) := ix_f (atI_get (by decide) rfl)
theorem ixl_1 {a0 a1 : D} {ds : List D} : ixW (.dat (.lst (a0 :: a1 :: ds))) (.dat (.int 1)) = some (.dat a1) := ix_l (atI_get (by decide) rfl)
theorem ixt_1 {a0 a1 : D} {ds : List D} : ixW (.dat (.tup (a0 :: a1 :: ds))) (.dat (.int 1)) = some (.dat a1) := ix_t (atI_get (by decide) rfl)
theorem ixb_1 {a0 a1 : D} {ds : List D} : ixW (.br (.l (a0 :: a1 :: ds))) (.dat (.int 1)) = some (.dat a1) := ix_b (atI_get (by decide) rfl)
theorem ixf_1 {a0 a1 : D} {ds : List D} : ixW (.fr (.l (a0 :: a1 :: ds))) (.dat (.int 1)) = some (.dat a1) := ix_f (atI_get (by decide) rfl)
theorem ixl_2 {a0 a1 a2 : D} {ds : List D} : ixW (.dat (.lst (a0 :: a1 :: a2 :: ds))) (.dat (.int 2)) = some (.dat a2) := ix_l (atI_get (by decide) rfl)
theorem ixt_2 {a0 a1 a2 : D} {ds : List D} : ixW (.dat (.tup (a0 :: a1 :: a2 :: ds))) (.dat (.int 2)) = some (.dat a2) := ix_t (atI_get (by decide) rfl)
theorem ixb_2 {a0 a1 a2 : D} {ds : List D} : ixW (.br (.l (a0 :: a1 :: a2 :: ds))) (.dat (.int 2)) = some (.dat a2) := ix_b (atI_get (by decide) rfl)
theorem ixf_2 {a0 a1 a2 : D} {ds : List D} : ixW (.fr (.l (a0 :: a1 :: a2 :: ds))) (.dat (.int 2)) = some (.dat a2) := ix_f (atI_get (by decide) rfl)
theorem ixl_3 {a0 a1 a2 a3 : D} {ds : List D} : ixW (.dat (.lst (a0 :: a1 :: a2 :: a3 :: ds))) (.dat (.int 3)) = some (.dat a3) := ix_l (atI_get (by decide) rfl)
theorem ixt_3 {a0 a1 a2 a3 : D} {ds : List D} : ixW (.dat (.tup (a0 :: a1 :: a2 :: a3 :: ds))) (.dat (.int 3)) = some (.dat a3) := ix_t (atI_get (by decide) rfl)
theorem ixb_3 {a0 a1 a2 a3 : D} {ds : List D} : ixW (.br (.l (a0 :: a1 :: a2 :: a3 :: ds))) (.dat (.int 3)) = some (.dat a3) := ix_b (atI_get (by decide) rfl)
theorem ixf_3 {a0 a1 a2 a3 : D} {ds : List D} : ixW (.fr (.l (a0 :: a1 :: a2 :: a3 :: ds))) (.dat (.int 3)) = some (.dat a3) := ix_f (atI_get (by decide) rfl)
theorem ixl_4 {a0 a1 a2 a3 a4 : D} {ds : List D} : ixW (.dat (.lst (a0 :: a1 :: a2 :: a3 :: a4 :: ds))) (.dat (.int 4)) = some (.dat a4) := ix_l (atI_get (by decide) rfl)
theorem ixt_4 {a0 a1 a2 a3 a4 : D} {ds : List D} : ixW (.dat (.tup (a0 :: a1 :: a2 :: a3 :: a4 :: ds))) (.dat (.int 4)) = some (.dat a4) := ix_t (atI_get (by decide) rfl)
theorem ixb_4 {a0 a1 a2 a3 a4 : D} {ds : List D} : ixW (.br (.l (a0 :: a1 :: a2 :: a3 :: a4 :: ds))) (.dat (.int 4)) = some (.dat a4) := ix_b (atI_get (by decide) rfl)
theorem ixf_4 {a0 a1 a2 a3 a4 : D} {ds : List D} : ixW (.fr (.l (a0 :: a1 :: a2 :: a3 :: a4 :: ds))) (.dat (.int 4)) = some (.dat a4) := ix_f (atI_get (by decide) rfl)
theorem ixl_5 {a0 a1 a2 a3 a4 a5 : D} {ds : List D} : ixW (.dat (.lst (a0 :: a1 :: a2 :: a3 :: a4 :: a5 :: ds))) (.dat (.int 5)) = some (.dat a5) := ix_l (atI_get (by decide) rfl)
theorem ixt_5 {a0 a1 a2 a3 a4 a5 : D} {ds : List D} : ixW (.dat (.tup (a0 :: a1 :: a2 :: a3 :: a4 :: a5 :: ds))) (.dat (.int 5)) = some (.dat a5) := ix_t (atI_get (by decide) rfl)
theorem ixb_5 {a0 a1 a2 a3 a4 a5 : D} {ds : List D} : ixW (.br (.l (a0 :: a1 :: a2 :: a3 :: a4 :: a5 :: ds))) (.dat (.int 5)) = some (.dat a5) := ix_b (atI_get (by decide) rfl)
theorem ixf_5 {a0 a1 a2 a3 a4 a5 : D} {ds : List D} : ixW (.fr (.l (a0 :: a1 :: a2 :: a3 :: a4 :: a5 :: ds))) (.dat (.int 5)) = some (.dat a5) := ix_f (atI_get (by decide) rfl)
theorem ixl_6 {a0 a1 a2 a3 a4 a5 a6 : D} {ds : List D} : ixW (.dat (.lst (a0 :: a1 :: a2 :: a3 :: a4 :: a5 :: a6 :: ds))) (.dat (.int 6)) = some (.dat a6) := ix_l (atI_get (by decide) rfl)
theorem ixt_6 {a0 a1 a2 a3 a4 a5 a6 : D} {ds : List D} : ixW (.dat (.tup (a0 :: a1 :: a2 :: a3 :: a4 :: a5 :: a6 :: ds))) (.dat (.int 6)) = some (.dat a6) := ix_t (atI_get (by decide) rfl)
theorem ixb_6 {a0 a1 a2 a3 a4 a5 a6 : D} {ds : List D} : ixW (.br (.l (a0 :: a1 :: a2 :: a3 :: a4 :: a5 :: a6 :: ds))) (.dat (.int 6)) = some (.dat a6) := ix_b (atI_get (by decide) rfl)
theorem ixf_6 {a0 a1 a2 a3 a4 a5 a6 : D} {ds : List D} : ixW (.fr (.l (a0 :: a1 :: a2 :: a3 :: a4 :: a5 :: a6 :: ds))) (.dat (.int 6)) = some (.dat a6) := ix_f (atI_get (by decide) rfl)
theorem ixl_7 {a0 a1 a2 a3 a4 a5 a6 a7 : D} {ds : List D} : ixW (.dat (.lst (a0 :: a1 :: a2 :: a3 :: a4 :: a5 :: a6 :: a7 :: ds))) (.dat (.int 7)) = some (.dat a7) := ix_l (atI_get (by decide) rfl)
theorem ixt_7 {a0 a1 a2 a3 a4 a5 a6 a7 : D} {ds : List D} : ixW (.dat (.tup (a0 :: a1 :: a2 :: a3 :: a4 :: a5 :: a6 :: a7 :: ds))) (.dat (.int 7)) = some (.dat a7) := ix_t (atI_get (by decide) rfl)
theorem ixb_7 {a0 a1 a2 a3 a4 a5 a6 a7 : D} {ds : List D} : ixW (.br (.l (a0 :: a1 :: a2 :: a3 :: a4 :: a5 :: a6 :: a7 :: ds))) (.dat (.int 7)) = some (.dat a7) := ix_b (atI_get (by decide) rfl)
theorem ixf_7 {a0 a1 a2 a3 a4 a5 a6 a7 : D} {ds : List D} : ixW (.fr (.l (a0 :: a1 :: a2 :: a3 :: a4 :: a5 :: a6 :: a7 :: ds))) (.dat (.int 7)) = some (.dat a7) := ix_f (atI_get (by decide) rfl)
theorem ixl_8 {a0 a1 a2 a3 a4 a5 a6 a7 a8 : D} {ds : List D} : ixW (.dat (.lst (a0 :: a1 :: a2 :: a3 :: a4 :: a5 :: a6 :: a7 :: a8 :: ds))) (.dat (.int 8)) = some (.dat a8) := ix_l (atI_get (by decide) rfl)
theorem ixt_8 {a0 a1 a2 a3 a4 a5 a6 a7 a8 : D} {ds : List D} : ixW (.dat (.tup (a0 :: a1 :: a2 :: a3 :: a4 :: a5 :: a6 :: a7 :: a8 :: ds))) (.dat (.int 8)) = some (.dat a8) := ix_t (atI_get (by decide) rfl)
theorem ixb_8 {a0 a1 a2 a3 a4 a5 a6 a7 a8 : D} {ds : List D} : ixW (.br (.l (a0 :: a1 :: a2 :: a3 :: a4 :: a5 :: a6 :: a7 :: a8 :: ds))) (.dat (.int 8)) = some (.dat a8) := ix_b (atI_get (by decide) rfl)
theorem ixf_8 {a0 a1 a2 a3 a4 a5 a6 a7 a8 : D} {ds : List D} : ixW (.fr (.l (a0 :: a1 :: a2 :: a3 :: a4 :: a5 :: a6 :: a7 :: a8 :: ds))) (.dat (.int 8)) = some (.dat a8) := ix_f (atI_get (by decide) rfl)
theorem ixl_9 {a0 a1 a2 a3 a4 a5 a6 a7 a8 a9 : D} {ds : List D} : ixW (.dat (.lst (a0 :: a1 :: a2 :: a3 :: a4 :: a5 :: a6 :: a7 :: a8 :: a9 :: ds))) (.dat (.int 9)) = some (.dat a9) := ix_l (atI_get (by decide) rfl)
theorem ixt_9 {a0 a1 a2 a3 a4 a5 a6 a7 a8 a9 : D} {ds : List D} : ixW (.dat (.tup (a0 :: a1 :: a2 :: a3 :: a4 :: a5 :: a6 :: a7 :: a8 :: a9 :: ds))) (.dat (.int 9)) = some (.dat a9) := ix_t (atI_get (by decide) rfl)
theorem ixb_9 {a0 a1 a2 a3 a4 a5 a6 a7 a8 a9 : D} {ds : List D} : ixW (.br (.l (a0 :: a1 :: a2 :: a3 :: a4 :: a5 :: a6 :: a7 :: a8 :: a9 :: ds))) (.dat (.int 9)) = some (.dat a9) := ix_b (atI_get (by decide) rfl)
theorem ixf_9 {a0 a1 a2 a3 a4 a5 a6 a7 a8 a9 : D} {ds : List D} : ixW (.fr (.l (a0 :: a1 :: a2 :: a3 :: a4 :: a5 :: a6 :: a7 :: a8 :: a9 :: ds))) (.dat (.int 9)) = some (.dat a9) := ix_f (atI_get (by decide) rfl)
theorem ixl_10 {a0 a1 a2 a3 a4 a5 a6 a7 a8 a9 a10 : D} {ds : List D} : ixW (.dat (.lst (a0 :: a1 :: a2 :: a3 :: a4 :: a5 :: a6 :: a7 :: a8 :: a9 :: a10 :: ds))) (.dat (.int 10)) = some (.dat a10) := ix_l (atI_get (by decide) rfl)
theorem ixt_10 {a0 a1 a2 a3 a4 a5 a6 a7 a8 a9 a10 : D} {ds : List D} : ixW (.dat (.tup (a0 :: a1 :: a2 :: a3 :: a4 :: a5 :: a6 :: a7 :: a8 :: a9 :: a10 :: ds))) (.dat (.int 10)) = some (.dat a10) := ix_t (atI_get (by decide) rfl)
theorem ixb_10 {a0 a1 a2 a3 a4 a5 a6 a7 a8 a9 a10 : D} {ds : List D} : ixW (.br (.l (a0 :: a1 :: a2 :: a3 :: a4 :: a5 :: a6 :: a7 :: a8 :: a9 :: a10 :: ds))) (.dat (.int 10)) = some (.dat a10) := ix_b (atI_get (by decide) rfl)
theorem ixf_10 {a0 a1 a2 a3 a4 a5 a6 a7 a8 a9 a10 : D} {ds : List D} : ixW (.fr (.l (a0 :: a1 :: a2 :: a3 :: a4 :: a5 :: a6 :: a7 :: a8 :: a9 :: a10 :: ds))) (.dat (.int 10)) = some (.dat a10) := ix_f (atI_get (by decide) rfl)
theorem ixl_11 {a0 a1 a2 a3 a4 a5 a6 a7 a8 a9 a10 a11 : D} {ds : List D} : ixW (.dat (.lst (a0 :: a1 :: a2 :: a3 :: a4 :: a5 :: a6 :: a7 :: a8 :: a9 :: a10 :: a11 :: ds))) (.dat (.int 11)) = some (.dat a11) := ix_l (atI_get (by decide) rfl)
theorem ixt_11 {a0 a1 a2 a3 a4 a5 a6 a7 a8 a9 a10 a11 : D} {ds : List D} : ixW (.dat (.tup (a0 :: a1 :: a2 :: a3 :: a4 :: a5 :: a6 :: a7 :: a8 :: a9 :: a10 :: a11 :: ds))) (.dat (.int 11)) = some (.dat a11) := ix_t (atI_get (by decide) rfl)
theorem ixb_11 {a0 a1 a2 a3 a4 a5 a6 a7 a8 a9 a10 a11 : D} {ds : List D} : ixW (.br (.l (a0 :: a1 :: a2 :: a3 :: a4 :: a5 :: a6 :: a7 :: a8 :: a9 :: a10 :: a11 :: ds))) (.dat (.int 11)) = some (.dat a11) := ix_b (atI_get (by decide) rfl)
theorem ixf_11 {a0 a1 a2 a3 a4 a5 a6 a7 a8 a9 a10 a11 : D} {ds : List D} : ixW (.fr (.l (a0 :: a1 :: a2 :: a3 :: a4 :: a5 :: a6 :: a7 :: a8 :: a9 :: a10 :: a11 :: ds))) (.dat (.int 11)) = some (.dat a11) := ix_f (atI_get (by decide) rfl)
theorem ixl_12 {a0 a1 a2 a3 a4 a5 a6 a7 a8 a9 a10 a11 a12 : D} {ds : List D} : ixW (.dat (.lst (a0 :: a1 :: a2 :: a3 :: a4 :: a5 :: a6 :: a7 :: a8 :: a9 :: a10 :: a11 :: a12 :: ds))) (.dat (.int 12)) = some (.dat a12) := ix_l (atI_get (by decide) rfl)
theorem ixt_12 {a0 a1 a2 a3 a4 a5 a6 a7 a8 a9 a10 a11 a12 : D} {ds : List D} : ixW (.dat (.tup (a0 :: a1 :: a2 :: a3 :: a4 :: a5 :: a6 :: a7 :: a8 :: a9 :: a10 :: a11 :: a12 :: ds))) (.dat (.int 12)) = some (.dat a12) := ix_t (atI_get (by decide) rfl)
theorem ixb_12 {a0 a1 a2 a3 a4 a5 a6 a7 a8 a9 a10 a11 a12 : D} {ds : List D} : ixW (.br (.l (a0 :: a1 :: a2 :: a3 :: a4 :: a5 :: a6 :: a7 :: a8 :: a9 :: a10 :: a11 :: a12 :: ds))) (.dat (.int 12)) = some (.dat a12) := ix_b (atI_get (by decide) rfl)
theorem ixf_12 {a0 a1 a2 a3 a4 a5 a6 a7 a8 a9 a10 a11 a12 : D} {ds : List D} : ixW (.fr (.l (a0 :: a1 :: a2 :: a3 :: a4 :: a5 :: a6 :: a7 :: a8 :: a9 :: a10 :: a11 :: a12 :: ds))) (.dat (.int 12)) = some (.dat a12) := ix_f (atI_get (by decide) rfl)
theorem ixl_13 {a0 a1 a2 a3 a4 a5 a6 a7 a8 a9 a10 a11 a12 a13 : D} {ds : List D} : ixW (.dat (.lst (a0 :: a1 :: a2 :: a3 :: a4 :: a5 :: a6 :: a7 :: a8 :: a9 :: a10 :: a11 :: a12 :: a13 :: ds))) (.dat (.int 13)) = some (.dat a13) := ix_l (atI_get (by decide) rfl)
theorem ixt_13 {a0 a1 a2 a3 a4 a5 a6 a7 a8 a9 a10 a11 a12 a13 : D} {ds : List D} : ixW (.dat (.tup (a0 :: a1 :: a2 :: a3 :: a4 :: a5 :: a6 :: a7 :: a8 :: a9 :: a10 :: a11 :: a12 :: a13 :: ds))) (.dat (.int 13)) = some (.dat a13) := ix_t (atI_get (by decide) rfl)
theorem ixb_13 {a0 a1 a2 a3 a4 a5 a6 a7 a8 a9 a10 a11 a12 a13 : D} {ds : List D} : ixW (.br (.l (a0 :: a1 :: a2 :: a3 :: a4 :: a5 :: a6 :: a7 :: a8 :: a9 :: a10 :: a11 :: a12 :: a13 :: ds))) (.dat (.int 13)) = some (.dat a13) := ix_b (atI_get (by decide) rfl)
theorem ixf_13 {a0 a1 a2 a3 a4 a5 a6 a7 a8 a9 a10 a11 a12 a13 : D} {ds : List D} : ixW (.fr (.l (a0 :: a1 :: a2 :: a3 :: a4 :: a5 :: a6 :: a7 :: a8 :: a9 :: a10 :: a11 :: a12 :: a13 :: ds))) (.dat (.int 13)) = some (.dat a13) := ix_f (atI_get (by decide) rfl)
theorem ixl_14 {a0 a1 a2 a3 a4 a5 a6 a7 a8 a9 a10 a11 a12 a13 a14 : D} {ds : List D} : ixW (.dat (.lst (a0 :: a1 :: a2 :: a3 :: a4 :: a5 :: a6 :: a7 :: a8 :: a9 :: a10 :: a11 :: a12 :: a13 :: a14 :: ds))) (.dat (.int 14)) = some (.dat a14) := ix_l (atI_get (by decide) rfl)
theorem ixt_14 {a0 a1 a2 a3 a4 a5 a6 a7 a8 a9 a10 a11 a12 a13 a14 : D} {ds : List D} : ixW (.dat (.tup (a0 :: a1 :: a2 :: a3 :: a4 :: a5 :: a6 :: a7 :: a8 :: a9 :: a10 :: a11 :: a12 :: a13 :: a14 :: ds))) (.dat (.int 14)) = some (.dat a14) := ix_t (atI_get (by decide) rfl)
theorem ixb_14 {a0 a1 a2 a3 a4 a5 a6 a7 a8 a9 a10 a11 a12 a13 a14 : D} {ds : List D} : ixW (.br (.l (a0 :: a1 :: a2 :: a3 :: a4 :: a5 :: a6 :: a7 :: a8 :: a9 :: a10 :: a11 :: a12 :: a13 :: a14 :: ds))) (.dat (.int 14)) = some (.dat a14) := ix_b (atI_get (by decide) rfl)
theorem ixf_14 {a0 a1 a2 a3 a4 a5 a6 a7 a8 a9 a10 a11 a12 a13 a14 : D} {ds : List D} : ixW (.fr (.l (a0 :: a1 :: a2 :: a3 :: a4 :: a5 :: a6 :: a7 :: a8 :: a9 :: a10 :: a11 :: a12 :: a13 :: a14 :: ds))) (.dat (.int 14)) = some (.dat a14) := ix_f (atI_get (by decide) rfl)
theorem ixl_15 {a0 a1 a2 a3 a4 a5 a6 a7 a8 a9 a10 a11 a12 a13 a14 a15 : D} {ds : List D} : ixW (.dat (.lst (a0 :: a1 :: a2 :: a3 :: a4 :: a5 :: a6 :: a7 :: a8 :: a9 :: a10 :: a11 :: a12 :: a13 :: a14 :: a15 :: ds))) (.dat (.int 15)) = some (.dat a15) := ix_l (atI_get (by decide) rfl)
theorem ixt_15 {a0 a1 a2 a3 a4 a5 a6 a7 a8 a9 a10 a11 a12 a13 a14 a15 : D} {ds : List D} : ixW (.dat (.tup (a0 :: a1 :: a2 :: a3 :: a4 :: a5 :: a6 :: a7 :: a8 :: a9 :: a10 :: a11 :: a12 :: a13 :: a14 :: a15 :: ds))) (.dat (.int 15)) = some (.dat a15) := ix_t (atI_get (by decide) rfl)
theorem ixb_15 {a0 a1 a2 a3 a4 a5 a6 a7 a8 a9 a10 a11 a12 a13 a14 a15 : D} {ds : List D} : ixW (.br (.l (a0 :: a1 :: a2 :: a3 :: a4 :: a5 :: a6 :: a7 :: a8 :: a9 :: a10 :: a11 :: a12 :: a13 :: a14 :: a15 :: ds))) (.dat (.int 15)) = some (.dat a15) := ix_b (atI_get (by decide) rfl)
theorem ixf_15 {a0 a1 a2 a3 a4 a5 a6 a7 a8 a9 a10 a11 a12 a13 a14 a15 : D} {ds : List D} : ixW (.fr (.l (a0 :: a1 :: a2 :: a3 :: a4 :: a5 :: a6 :: a7 :: a8 :: a9 :: a10 :: a11 :: a12 :: a13 :: a14 :: a15 :: ds))) (.dat (.int 15)) = some (.dat a15) := ix_f (atI_get (by decide) rfl)
end
end DE

set_option Elab.async false
set_option linter.all false
set_option maxRecDepth 100000
set_option maxHeartbeats 4000000
/-! DE14: rows of sums by the evaluator, equal data. -/
namespace DE
open PySem L2
/-- entries of one size -/
def Sized (s : Int) (es : List Ent) : Prop := ∀ e ∈ es, (e.1.length : Int) = s
theorem flat_p (p : Pl) : flatDs (p.map D.int) = true := by
  induction p with
  | nil => rfl
  | cons x p ih =>
    show (flatD (.int x) && flatDs (p.map D.int)) = true
    rw [ih]
    rfl
theorem flat_e (e : Ent) : flatD (eD e) = true := by
  show (flatDs (e.1.map D.int) && (flatD (.int e.2) && true)) = true
  rw [flat_p]
  rfl
theorem flat_es : ∀ es : List Ent, flatDs (es.map eD) = true
  | [] => rfl
  | e :: es => by
    show (flatD (eD e) && flatDs (es.map eD)) = true
    rw [flat_e, flat_es es]
    rfl
/-! ### equal data -/
theorem eqv_ints : ∀ p : Pl, PyData.eqvAll (p.map PyData.int) (p.map PyData.int) = true
  | [] => rfl
  | x :: p => by
    show (PyData.eqv (.int x) (.int x) && PyData.eqvAll (p.map PyData.int) (p.map PyData.int)) = true
    rw [eqv_ints p]
    show (x == x && true) = true
    simp
theorem pyD_eD (e : Ent) : pyD (eD e) = .tuple [.tuple (e.1.map .int), .int e.2] := by
  show PyData.tuple [pyD (pD e.1), .int e.2] = _
  rw [pyD_pD]
theorem eqv_e (e : Ent) : PyData.eqv (pyD (eD e)) (pyD (eD e)) = true := by
  rw [pyD_eD]
  show (PyData.eqvAll (e.1.map PyData.int) (e.1.map PyData.int) && ((e.2 == e.2) && true)) = true
  rw [eqv_ints]
  simp
theorem eqv_es : ∀ es : List Ent, PyData.eqvAll (pyDs (es.map eD)) (pyDs (es.map eD)) = true
  | [] => rfl
  | e :: es => by
    show (PyData.eqv (pyD (eD e)) (pyD (eD e)) && PyData.eqvAll (pyDs (es.map eD)) (pyDs (es.map eD))) = true
    rw [eqv_e, eqv_es es]
    rfl
theorem okD_e (e : Ent) (n : Nat) : okD (eD e) (n + 2) = true := by
  show (okD (pD e.1) (n + 1) && (okD (.int e.2) (n + 1) && true)) = true
  rw [okD_pD]
  rfl
theorem okDs_es : ∀ (es : List Ent) (n : Nat), okDs (es.map eD) (n + 2) = true
  | [], _ => rfl
  | e :: es, n => by
    show (okD (eD e) (n + 2) && okDs (es.map eD) (n + 2)) = true
    rw [okD_e, okDs_es es n]
    rfl
theorem eqV_rows (es : List Ent) : eqV (.lst (es.map eD)) (.lst (es.map eD)) = some true := by
  have h : eqV (.lst (es.map eD)) (.lst (es.map eD)) = if okD (.lst (es.map eD)) 60 = true ∧ okD (.lst (es.map eD)) 60 = true then some (PyData.eqv (pyD (.lst (es.map eD))) (pyD (.lst (es.map eD)))) else none := rfl
  have ok : okD (.lst (es.map eD)) 60 = true := okDs_es es 57
  rw [h, if_pos ⟨ok, ok⟩]
  exact congrArg some (eqv_es es)
/-! ### rows of sums -/
def rowOf (as : List Ent) : List Ent := (sortP (as.map (·.1))).filterMap fun p => if (getA as p).getD 0 = 0 then none else some (p, (getA as p).getD 0)
theorem get_mem : ∀ {as : List Ent} {p : Pl}, p ∈ as.map (·.1) → ∃ n, getA as p = some n
  | [], p, h => by simp at h
  | e :: r, p, h => by
    by_cases hp : e.1 = p
    · exact ⟨e.2, by show (if e.1 = p then some e.2 else getA r p) = _; rw [if_pos hp]⟩
    · obtain ⟨n, hn⟩ := get_mem (as := r) (p := p) ((List.mem_cons.mp h).elim (fun z => absurd z.symm hp) id)
      exact ⟨n, by show (if e.1 = p then some e.2 else getA r p) = _; rw [if_neg hp]; exact hn⟩
theorem dix_A {x : RV} {as : List Ent} {p : Pl} {n : Int} (hd : isDic x = true) (hk : keysT x = some (ksA as)) (hv : valsT x = vsA as) (h : getA as p = some n) : ixW x (.dat (pD p)) = some (.dat (.int n)) := by
  unfold ixW
  rw [hd]
  show (match dictV x (pD p) with | some (some d) => some (RV.dat d) | _ => none) = _
  have e : dictV x (pD p) = some (some (.int n)) := by
    unfold dictV
    rw [hk, tkeyOf_pD, hv]
    show some (dget (ksA as) (vsA as) (kI p)) = _
    rw [dget_A, h]
    rfl
  rw [e]
theorem sorted_A {x : RV} {as : List Ent} (hk : keysT x = some (ksA as)) (hne : ∀ p ∈ as.map (·.1), p ≠ []) : biV .sorted [x] = some (.fr (.l ((sortP (as.map (·.1))).map pD))) := by
  have e : (ksA as).map tkeyD = (as.map (·.1)).map pD := by
    rw [List.map_map, List.map_map]
    exact List.map_congr_left fun a _ => tkeyD_kI a.1
  show (match keysT x with
    | some ks => if sortOk (ks.map tkeyD) = true then some (RV.fr (.l (sortD (ks.map tkeyD)))) else none
    | none => _) = _
  rw [hk]
  show (if sortOk ((ksA as).map tkeyD) = true then some (RV.fr (.l (sortD ((ksA as).map tkeyD)))) else none) = _
  rw [e, if_pos (sortOk_P _ hne), sortD_P]
/-- [(place, sums[place]) for place in sorted(sums) if sums[place] != 0] -/
theorem lc_rows {C : Cfg} {ρ : Rho} {i j : Nat} {x : RV} {as : List Ent} (hv : varV ρ[i]? = some (.ok x)) (hij : i ≠ j) (hj : j < ρ.length) (hd : isDic x = true) (hk : keysT x = some (ksA as)) (hvs : valsT x = vsA as) :
    compL (turnL (.n j) (evIf C (.so (.cmp .ne (.ix (.var i) (.var j)) (.int 0)))) (evE C (.tup (.cons (.var j) (.cons (.ix (.var i) (.var j)) .nil)))) ρ) ((sortP (as.map (·.1))).map pD) = some (.ok ((rowOf as).map eD)) := by
  have h := compL_if (step := turnL (.n j) (evIf C (.so (.cmp .ne (.ix (.var i) (.var j)) (.int 0)))) (evE C (.tup (.cons (.var j) (.cons (.ix (.var i) (.var j)) .nil)))) ρ) (g := pD) (h := fun p => if (!decide ((getA as p).getD 0 = 0)) = true then some (eD (p, (getA as p).getD 0)) else none) (xs := sortP (as.map (·.1))) fun p hp => by
    obtain ⟨n, hn⟩ := get_mem (sortP_mem.mp hp)
    have hx := dix_A (p := p) hd hk hvs hn
    have e1 : varV (ρ.set j (some (.dat (pD p))))[i]? = some (.ok x) := by rw [List.getElem?_set_ne (Ne.symm hij)]; exact hv
    have e2 : varV (ρ.set j (some (.dat (pD p))))[j]? = some (.ok (.dat (pD p))) := by rw [List.getElem?_set_self hj]; rfl
    rw [hn]
    refine turn_so (ρ' := ρ.set j (some (.dat (pD p)))) (k := !decide (n = 0)) (x := .dat (eD (p, n))) rfl ?_ (fun _ => ?_) fun _ => rfl
    · rw [et_cmp, ev_ix, ev_var, ev_var, ev_int, e1, e2, u2_ok, hx, optR_some, v2_ok, cmp_ne, optR_some]
    · rw [ev_tup, ea_cons, ea_cons, ea_nil, ev_ix, ev_var, ev_var, e1, e2, u2_ok, hx, optR_some, ac_ok, ac_ok, tupV_ok, toDs_cd, toDs_cd, toDs_nil]
      rfl
  rw [h]
  congr 2
  unfold rowOf
  rw [List.map_filterMap]
  congr 1
  funext p
  by_cases z : (getA as p).getD 0 = 0
  · rw [if_pos z, if_neg (by simp [z])]
    rfl
  · rw [if_neg z, if_pos (by simp [z])]
    rfl
/-- the loop that adds up -/
theorem sum_loop {C : Cfg} {ρ : Rho} {b : IB} {i j k : Nat} {es : List Ent} (hl : es.length < 16777216) (hi : ρ[i]? = some (some (.own (.tT [] [])))) (hne : i ≠ j ∧ i ≠ k ∧ j ≠ k) (hb : i < ρ.length ∧ j < ρ.length ∧ k < ρ.length)
    (hB : b = .cons (.setL i (.var j) (.bin .add (.get (.var i) (.var j) (.int 0)) (.var k))) .nil) :
    ∃ ρ', forL (stepL (.t [j, k]) (runB C b)) (es.map eD) ρ = some (.nx ρ') ∧ ρ'.length = ρ.length ∧ ρ'[i]? = some (some (.own (.tT (ksA (sumA es)) (vsA (sumA es))))) ∧ ∀ m, m ≠ i → m ≠ j → m ≠ k → ρ'[m]? = ρ[m]? := by
  obtain ⟨ρ', e, h⟩ := forL_inv (step := stepL (.t [j, k]) (runB C b)) (ds := es.map eD) (ρ := ρ)
    (P := fun n ρ' => ρ'.length = ρ.length ∧ ρ'[i]? = some (some (.own (.tT (ksA (sumA (es.take n))) (vsA (sumA (es.take n)))))) ∧ ∀ m, m ≠ i → m ≠ j → m ≠ k → ρ'[m]? = ρ[m]?)
    ⟨rfl, hi, fun _ _ _ _ => rfl⟩ (by
      intro n d ρ1 hd ⟨q1, q2, q3⟩
      rw [List.getElem?_map] at hd
      cases he : es[n]? with
      | none => rw [he] at hd; cases hd
      | some e =>
        rw [he] at hd
        cases hd
        have hn : n < es.length := (List.getElem?_eq_some_iff.mp he).1
        have t1 : es.take (n + 1) = es.take n ++ [e] := by rw [List.take_succ, he]; rfl
        have hlen : (sumA (es.take n)).length < 16777216 := by
          have := sumA_len (es.take n)
          rw [List.length_take] at this
          omega
        let ρ2 := (ρ1.set j (some (.dat (pD e.1)))).set k (some (.dat (.int e.2)))
        have l2 : ρ2.length = ρ.length := by rw [List.length_set, List.length_set, q1]
        have gi : ρ2[i]? = some (some (.own (.tT (ksA (sumA (es.take n))) (vsA (sumA (es.take n)))))) := by
          rw [List.getElem?_set_ne (Ne.symm hne.2.1), List.getElem?_set_ne (Ne.symm hne.1)]
          exact q2
        have gj : ρ2[j]? = some (some (.dat (pD e.1))) := by
          rw [List.getElem?_set_ne (Ne.symm hne.2.2), List.getElem?_set_self (by rw [q1]; exact hb.2.1)]
        have gk : ρ2[k]? = some (some (.dat (.int e.2))) := List.getElem?_set_self (by rw [List.length_set, q1]; exact hb.2.2)
        have st : stepL (.t [j, k]) (runB C b) (eD e) ρ1 = runB C b ρ2 := rfl
        refine ⟨ρ2.set i (some (.own (.tT (ksA (sumA (es.take (n + 1)))) (vsA (sumA (es.take (n + 1))))))), .inl ?_, by rw [List.length_set, l2], List.getElem?_set_self (by rw [l2]; exact hb.1), fun m m1 m2 m3 => ?_⟩
        · rw [st, hB, rb_cons, rs_setL, ev_bin, ev_get, ev_var, ev_var, ev_var, ev_int, gi, gj, gk, var_own, var_dat, var_dat, get_br, get_A, optR_some, u2_ok, bin_add, optR_some, set_dat, putD_A (sumA_nodup _) hlen, nxt_nx, rb_nil, t1, sumA_snoc]
        · rw [List.getElem?_set_ne (Ne.symm m1), List.getElem?_set_ne (Ne.symm m3), List.getElem?_set_ne (Ne.symm m2)]
          exact q3 m m1 m2 m3)
  refine ⟨ρ', e, h.1, ?_, h.2.2⟩
  have := h.2.1
  rw [List.length_map, List.take_length] at this
  exact this
/-! ### what a row of sums is -/
theorem rowOf_mem {as : List Ent} {e : Ent} (h : e ∈ rowOf as) : e.1 ∈ as.map (·.1) ∧ e.2 ≠ 0 := by
  unfold rowOf at h
  obtain ⟨p, hp, e1⟩ := List.mem_filterMap.mp h
  split at e1
  · cases e1
  · rename_i hz
    cases e1
    exact ⟨sortP_mem.mp hp, hz⟩
theorem rowOf_pw {as : List Ent} (nd : (as.map (·.1)).Nodup) : (rowOf as).Pairwise fun a b => a.1 < b.1 := by
  unfold rowOf
  rw [List.pairwise_filterMap]
  refine (sortP_pw _ nd).imp fun {a b} h x hx y hy => ?_
  split at hx
  · cases hx
  · split at hy
    · cases hy
    · cases hx
      cases hy
      exact h
end DE

set_option Elab.async false
set_option linter.all false
set_option maxRecDepth 100000
set_option maxHeartbeats 4000000
/-! DE15: rows that are rows already. -/
namespace DE
open PySem L2
theorem getA_none : ∀ {as : List Ent} {p : Pl}, p ∉ as.map (·.1) → getA as p = none
  | [], p, _ => rfl
  | e :: r, p, h => by
    rw [List.map_cons, List.mem_cons, not_or] at h
    show (if e.1 = p then some e.2 else getA r p) = none
    rw [if_neg (fun z => h.1 z.symm)]
    exact getA_none h.2
theorem getA_some : ∀ {as : List Ent} {e : Ent}, (as.map (·.1)).Nodup → e ∈ as → getA as e.1 = some e.2
  | a :: r, e, nd, h => by
    rw [List.map_cons, List.nodup_cons] at nd
    show (if a.1 = e.1 then some a.2 else getA r e.1) = some e.2
    rcases List.mem_cons.mp h with h | h
    · rw [h, if_pos rfl]
    · rw [if_neg fun z => nd.1 (by rw [z]; exact List.mem_map_of_mem h)]
      exact getA_some nd.2 h
theorem sumA_self : ∀ es : List Ent, (es.map (·.1)).Nodup → sumA es = es := snoc_ind (fun _ => rfl) fun l a ih nd => by
  rw [List.map_append, List.nodup_append] at nd
  obtain ⟨n1, n2, n3⟩ := nd
  have hn : getA l a.1 = none := getA_none fun z => n3 _ z _ (by simp) rfl
  rw [sumA_snoc, ih n1, hn, put_new _ _ _ (by rw [hn]; rfl)]
  simp
theorem perm_sorted : ∀ {xs ys : List Pl}, xs.Perm ys → xs.Pairwise (· < ·) → ys.Pairwise (· < ·) → xs = ys
  | [], ys, h, _, _ => by rw [List.nil_perm.mp h]
  | x :: xs, [], h, _, _ => absurd h.length_eq (by simp)
  | x :: xs, y :: ys, h, h1, h2 => by
    rw [List.pairwise_cons] at h1 h2
    have e : x = y := by
      rcases List.mem_cons.mp (h.mem_iff.mp List.mem_cons_self) with z | z
      · exact z
      · rcases List.mem_cons.mp (h.mem_iff.mpr List.mem_cons_self) with w | w
        · exact w.symm
        · exact absurd (List.lt_trans (h1.1 _ w) (h2.1 _ z)) (List.lt_irrefl _)
    subst e
    rw [perm_sorted (List.perm_cons x |>.mp h) h1.2 h2.2]
theorem nodup_pw {ys : List Ent} (h : ys.Pairwise fun a b => a.1 < b.1) : (ys.map (·.1)).Nodup := by
  rw [List.nodup_iff_pairwise_ne, List.pairwise_map]
  exact h.imp fun {a b} q z => by rw [z] at q; exact List.lt_irrefl _ q
/-- the row of entries with different places is the entries in order -/
theorem row_perm {xs ys : List Ent} (hp : xs.Perm ys) (hs : ys.Pairwise fun a b => a.1 < b.1) (nz : ∀ e ∈ ys, e.2 ≠ 0) : rowOf (sumA xs) = ys := by
  have ny := nodup_pw hs
  have nx : (xs.map (·.1)).Nodup := (hp.map _).nodup_iff.mpr ny
  rw [sumA_self xs nx]
  have e : sortP (xs.map (·.1)) = ys.map (·.1) := perm_sorted ((List.mergeSort_perm _ _).trans (hp.map _)) (sortP_pw _ nx) (by rw [List.pairwise_map]; exact hs)
  unfold rowOf
  rw [e, List.filterMap_map]
  have : ∀ zs : List Ent, (∀ e ∈ zs, e ∈ ys) → zs.filterMap ((fun p => if (getA xs p).getD 0 = 0 then none else some (p, (getA xs p).getD 0)) ∘ (·.1)) = zs := by
    intro zs
    induction zs with
    | nil => exact fun _ => rfl
    | cons z zs ih =>
      intro h
      have hz := h z List.mem_cons_self
      have g : getA xs z.1 = some z.2 := getA_some nx (hp.mem_iff.mpr hz)
      have n0 : ¬ z.2 = 0 := nz z hz
      have q : ((fun p => if (getA xs p).getD 0 = 0 then none else some (p, (getA xs p).getD 0)) ∘ (·.1)) z = some z := by
        show (if (getA xs z.1).getD 0 = 0 then none else some (z.1, (getA xs z.1).getD 0)) = some z
        rw [g]
        exact if_neg n0
      rw [List.filterMap_cons, q]
      show z :: _ = _
      rw [ih fun e he => h e (List.mem_cons_of_mem _ he)]
  exact this ys fun _ h => h
theorem row_self {ys : List Ent} (hs : ys.Pairwise fun a b => a.1 < b.1) (nz : ∀ e ∈ ys, e.2 ≠ 0) : rowOf (sumA ys) = ys := row_perm (List.Perm.refl _) hs nz
/-! ### negated places -/
def negP (p : Pl) : Pl := p.map fun x => -x
theorem negP_lt : ∀ {p q : Pl}, p.length = q.length → p < q → negP q < negP p
  | [], [], _, h => absurd h (List.lt_irrefl _)
  | [], _ :: _, e, _ => by simp at e
  | _ :: _, [], e, _ => by simp at e
  | a :: p, b :: q, e, h => by
    rw [List.cons_lt_cons_iff] at h
    show (-b :: negP q) < (-a :: negP p)
    rw [List.cons_lt_cons_iff]
    rcases h with h | ⟨h1, h2⟩
    · exact .inl (by omega)
    · exact .inr ⟨by rw [h1], negP_lt (by simpa using e) h2⟩
/-- the mirror of a row, as a row of sums -/
theorem row_mirror {es : List Ent} (hs : es.Pairwise fun a b => a.1 < b.1) (nz : ∀ e ∈ es, e.2 ≠ 0) (al : ∃ s, ∀ e ∈ es, e.1.length = s) : rowOf (sumA (es.map fun e => (negP e.1, e.2))) = (es.map fun e => (negP e.1, e.2)).reverse := by
  obtain ⟨s, al⟩ := al
  refine row_perm (List.reverse_perm _).symm ?_ ?_
  · rw [List.pairwise_reverse, List.pairwise_map]
    exact hs.imp_of_mem fun {a b} ha hb h => negP_lt (by rw [al a ha, al b hb]) h
  · intro e he
    rw [List.mem_reverse] at he
    obtain ⟨f, hf, rfl⟩ := List.mem_map.mp he
    exact nz f hf
/-! ### a comprehension over indexes -/
theorem rangeD_map (n : Nat) : rangeD 0 n = (List.range n).map fun i => D.int (i : Nat) := by
  refine List.ext_getElem? fun i => ?_
  by_cases h : i < n
  · rw [rangeD_get n 0 i h, List.getElem?_map, List.getElem?_range h]
    simp
  · rw [List.getElem?_eq_none (by rw [rangeD_len]; omega), List.getElem?_eq_none (by rw [List.length_map, List.length_range]; omega)]
theorem lc_idx {C : Cfg} {ρ : Rho} {e : IE} {j : Nat} (r : List D) (hn : r.length ≤ 16777216) (h : ∀ i d, r[i]? = some d → evE C e (ρ.set j (some (.dat (.int (i : Nat))))) = some (.ok (.dat d))) : lcU (some (.ok (rangeD 0 r.length))) (turnL (.n j) (evIf C .no) (evE C e) ρ) = some (.ok (.fr (.l r))) := by
  refine lc_ok (by rw [rangeD_len]; exact hn) ?_
  rw [rangeD_map]
  have q := compL_of (step := turnL (.n j) (evIf C .no) (evE C e) ρ) (g := fun i : Nat => D.int i) (h := fun i => (r[i]?).getD .non) (xs := List.range r.length) fun i hi => by
    have hi : i < r.length := List.mem_range.mp hi
    have e1 : r[i]? = some r[i] := List.getElem?_eq_getElem hi
    rw [e1]
    exact turn_no rfl (h i _ e1) rfl
  rw [q]
  congr 2
  refine List.ext_getElem? fun i => ?_
  rw [List.getElem?_map]
  by_cases h : i < r.length
  · rw [List.getElem?_range h]
    show some ((r[i]?).getD .non) = r[i]?
    rw [List.getElem?_eq_getElem h]
    rfl
  · rw [List.getElem?_eq_none (by rw [List.length_range]; omega), List.getElem?_eq_none (by omega)]
    rfl
def addP (p q : Pl) : Pl := List.zipWith (· + ·) p q
def subP (p q : Pl) : Pl := List.zipWith (· - ·) p q
theorem addP_len {p q : Pl} (h : p.length = q.length) : (addP p q).length = p.length := by unfold addP; rw [List.length_zipWith]; omega
theorem subP_len {p q : Pl} (h : p.length = q.length) : (subP p q).length = p.length := by unfold subP; rw [List.length_zipWith]; omega
theorem ix_p {p : Pl} {i : Nat} {x : Int} (h : p[i]? = some x) : ixW (.dat (pD p)) (.dat (.int (i : Nat))) = some (.dat (.int x)) := ix_t (by rw [atI_nat, List.getElem?_map, h]; rfl)
theorem zip_get {f : Int → Int → Int} {p q : Pl} {i : Nat} {d : D} (h : ((List.zipWith f p q).map D.int)[i]? = some d) : ∃ x y, p[i]? = some x ∧ q[i]? = some y ∧ d = .int (f x y) := by
  rw [List.getElem?_map, List.getElem?_zipWith] at h
  cases hp : p[i]? with
  | none => rw [hp] at h; simp at h
  | some x =>
    cases hq : q[i]? with
    | none => rw [hp, hq] at h; simp at h
    | some y =>
      rw [hp, hq] at h
      exact ⟨x, y, rfl, rfl, by simpa using h.symm⟩
/-! ### reversed -/
def rvU (x : Ans (List RV)) : Ans (List D) := bindR x fun x => optR (revV x)
theorem rv_dat {ds : List D} : rvU (some (.ok [.dat (.lst ds)])) = some (.ok ds.reverse) := rfl
theorem rv_fr {ds : List D} : rvU (some (.ok [.fr (.l ds)])) = some (.ok ds.reverse) := rfl
theorem es_rev {C : Cfg} {ρ : Rho} {as : IA} : evSrc C (.rev as) ρ = rvU (evA C as ρ) := by rw [evSrc]; rfl
/-! ### rows compared -/
theorem eqv_ints2 : ∀ p q : Pl, PyData.eqvAll (p.map PyData.int) (q.map PyData.int) = decide (p = q)
  | [], [] => rfl
  | [], _ :: _ => rfl
  | _ :: _, [] => rfl
  | x :: p, y :: q => by
    show ((x == y) && PyData.eqvAll (p.map PyData.int) (q.map PyData.int)) = decide (x :: p = y :: q)
    rw [eqv_ints2 p q]
    by_cases h : x = y <;> by_cases h' : p = q <;> simp [h, h']
theorem eqv_e2 (e f : Ent) : PyData.eqv (pyD (eD e)) (pyD (eD f)) = decide (e = f) := by
  rw [pyD_eD, pyD_eD]
  show (PyData.eqvAll (e.1.map PyData.int) (f.1.map PyData.int) && ((e.2 == f.2) && true)) = decide (e = f)
  rw [eqv_ints2]
  obtain ⟨a, b⟩ := e
  obtain ⟨c, d⟩ := f
  by_cases h : a = c <;> by_cases h' : b = d <;> simp [h, h']
theorem eqv_es2 : ∀ a b : List Ent, PyData.eqvAll (pyDs (a.map eD)) (pyDs (b.map eD)) = decide (a = b)
  | [], [] => rfl
  | [], _ :: _ => rfl
  | _ :: _, [] => rfl
  | x :: a, y :: b => by
    show (PyData.eqv (pyD (eD x)) (pyD (eD y)) && PyData.eqvAll (pyDs (a.map eD)) (pyDs (b.map eD))) = decide (x :: a = y :: b)
    rw [eqv_e2, eqv_es2 a b]
    by_cases h : x = y <;> by_cases h' : a = b <;> simp [h, h']
theorem eqV_ents (a b : List Ent) : eqV (.lst (a.map eD)) (.lst (b.map eD)) = some (decide (a = b)) := by
  have h : eqV (.lst (a.map eD)) (.lst (b.map eD)) = if okD (.lst (a.map eD)) 60 = true ∧ okD (.lst (b.map eD)) 60 = true then some (PyData.eqv (pyD (.lst (a.map eD))) (pyD (.lst (b.map eD)))) else none := rfl
  have ok : ∀ c : List Ent, okD (.lst (c.map eD)) 60 = true := fun c => okDs_es c 57
  rw [h, if_pos ⟨ok a, ok b⟩]
  exact congrArg some (eqv_es2 a b)
end DE

set_option Elab.async false
set_option linter.all false
set_option maxRecDepth 100000
set_option maxHeartbeats 4000000
/-! DE16: data by encoders that stay shut: lists of things, walked and built; loops by folds. -/
namespace DE
open PySem L2
/-- a list by its items' encoder: as data, as an own object, as the items -/
def lD {α : Type} (f : α → D) (xs : List α) : D := .lst (xs.map f)
def lO {α : Type} (f : α → D) (xs : List α) : OV := .l (xs.map f)
def mL {α : Type} (f : α → D) (xs : List α) : List D := xs.map f
def iN (n : Nat) : D := .int (n : Nat)
abbrev rD (es : List Ent) : D := lD eD es
abbrev rO (es : List Ent) : OV := lO eD es
/-- a dict of numbers by places -/
def dO (as : List Ent) : OV := .tT (ksA as) (vsA as)
def dD (as : List Ent) : D := .dicT (ksA as) (vsA as)
/-- small enough for a list -/
def Sm (n : Nat) : Prop := n ≤ 5000000
section
variable {α β : Type} {f : α → D} {g : β → D} {xs ys : List α} {C : Cfg} {ρ : Rho}
/-! ### views -/
theorem d_dat {d : D} : (RV.dat d).d = d := rfl
theorem d_fl {ds : List D} : (RV.fr (.l ds)).d = .lst ds := rfl
theorem d_bl {ds : List D} : (RV.br (.l ds)).d = .lst ds := rfl
theorem d_fg : (RV.fr (lO f xs)).d = lD f xs := rfl
theorem d_bg : (RV.br (lO f xs)).d = lD f xs := rfl
theorem o_g : (lO f xs).d = lD f xs := rfl
theorem o_l {ds : List D} : (OV.l ds).d = .lst ds := rfl
theorem o_dO {as : List Ent} : (dO as).d = dD as := rfl
theorem d_fd {as : List Ent} : (RV.fr (dO as)).d = dD as := rfl
theorem d_bd {as : List Ent} : (RV.br (dO as)).d = dD as := rfl
theorem isbr_d {d : D} : isBr (.dat d) = false := rfl
theorem isbr_f {o : OV} : isBr (.fr o) = false := rfl
theorem isbr_b {o : OV} : isBr (.br o) = true := rfl
theorem nil_l (f : α → D) : D.lst [] = lD f [] := rfl
theorem nil_o (f : α → D) : OV.l [] = lO f [] := rfl
theorem one_o (f : α → D) (x : α) : OV.l [f x] = lO f [x] := rfl
theorem one_l (f : α → D) (x : α) : D.lst [f x] = lD f [x] := rfl
theorem two_o (f : α → D) (x y : α) : OV.l [f x, f y] = lO f [x, y] := rfl
theorem two_l (f : α → D) (x y : α) : D.lst [f x, f y] = lD f [x, y] := rfl
theorem thr_o (f : α → D) (x y z : α) : OV.l [f x, f y, f z] = lO f [x, y, z] := rfl
theorem thr_l (f : α → D) (x y z : α) : D.lst [f x, f y, f z] = lD f [x, y, z] := rfl
theorem ent_d {p : Pl} {n : Int} : D.tup [pD p, .int n] = eD (p, n) := rfl
theorem tup0 : D.tup [] = pD [] := rfl
theorem tup1 {a : Int} : D.tup [.int a] = pD [a] := rfl
theorem tup2 {a b : Int} : D.tup [.int a, .int b] = pD [a, b] := rfl
theorem tup3 {a b c : Int} : D.tup [.int a, .int b, .int c] = pD [a, b, c] := rfl
/-! ### what is walked -/
theorem it_g : itU (some (.ok (.dat (lD f xs)))) = some (.ok (mL f xs)) := rfl
theorem it_gf : itU (some (.ok (.fr (lO f xs)))) = some (.ok (mL f xs)) := rfl
theorem it_gb : itU (some (.ok (.br (lO f xs)))) = some (.ok (mL f xs)) := rfl
theorem it_p {p : Pl} : itU (some (.ok (.dat (pD p)))) = some (.ok (mL D.int p)) := rfl
theorem it_t2 {a b : D} : itU (some (.ok (.dat (.tup [a, b])))) = some (.ok [a, b]) := rfl
/-- a for over a name: its slot -/
def efV (c : Bool) (x : Option (Option LV)) : Ans (List D) := match x with
  | some (some (.dat d)) => optR (walkV (.dat d))
  | some (some (.own o)) => (match c with | false => optR (walkV (.br o)) | true => none)
  | _ => none
theorem ef_v {i : Nat} {js : List Nat} : evFor C (.it (.var i)) js ρ = efV (js.contains i) ρ[i]? := by
  show bindR (evE C (.var i) ρ) _ = _
  rw [ev_var]
  unfold efV varV
  cases ρ[i]? with
  | none => rfl
  | some x =>
    cases x with
    | none => rfl
    | some l => cases l <;> rfl
theorem efV_g {c : Bool} : efV c (some (some (.dat (lD f xs)))) = some (.ok (mL f xs)) := rfl
theorem efV_p {c : Bool} {p : Pl} : efV c (some (some (.dat (pD p)))) = some (.ok (mL D.int p)) := rfl
theorem efV_l {c : Bool} {ds : List D} : efV c (some (some (.dat (.lst ds)))) = some (.ok ds) := rfl
theorem efV_t {c : Bool} {ds : List D} : efV c (some (some (.dat (.tup ds)))) = some (.ok ds) := rfl
theorem efV_o : efV false (some (some (.own (lO f xs)))) = some (.ok (mL f xs)) := rfl
/-- a for over something made for it -/
def efN (x : EvR) : Ans (List D) := bindR x fun x => match isBr x with | false => optR (walkV x) | true => none
theorem efN_g : efN (some (.ok (.dat (lD f xs)))) = some (.ok (mL f xs)) := rfl
theorem efN_gf : efN (some (.ok (.fr (lO f xs)))) = some (.ok (mL f xs)) := rfl
theorem efN_l {ds : List D} : efN (some (.ok (.fr (.l ds)))) = some (.ok ds) := rfl
theorem efN_t {ds : List D} : efN (some (.ok (.dat (.tup ds)))) = some (.ok ds) := rfl
theorem efN_p {p : Pl} : efN (some (.ok (.dat (pD p)))) = some (.ok (mL D.int p)) := rfl
theorem ef_n {a : IE} {js : List Nat} (h : (match a with | .var _ => false | _ => true) = true) : evFor C (.it a) js ρ = efN (evE C a ρ) := by
  show bindR (evE C a ρ) _ = bindR (evE C a ρ) _
  cases evE C a ρ with
  | none => rfl
  | some y =>
    cases y with
    | error e => rfl
    | ok x =>
      cases x with
      | br o => cases a <;> first | rfl | cases h
      | _ => rfl
theorem ef_call {j : Nat} {as : IA} {js : List Nat} : evFor C (.it (.call j as)) js ρ = efN (evE C (.call j as) ρ) := ef_n rfl
theorem ef_lst {as : IA} {js : List Nat} : evFor C (.it (.lst as)) js ρ = efN (evE C (.lst as) ρ) := ef_n rfl
theorem ef_tup {as : IA} {js : List Nat} : evFor C (.it (.tup as)) js ρ = efN (evE C (.tup as) ρ) := ef_n rfl
theorem ef_bi {b : Bi} {as : IA} {js : List Nat} : evFor C (.it (.bi b as)) js ρ = efN (evE C (.bi b as) ρ) := ef_n rfl
theorem ef_bin {o : BOp} {a b : IE} {js : List Nat} : evFor C (.it (.bin o a b)) js ρ = efN (evE C (.bin o a b) ρ) := ef_n rfl
theorem ef_ix {a b : IE} {js : List Nat} : evFor C (.it (.ix a b)) js ρ = efN (evE C (.ix a b) ρ) := ef_n rfl
theorem ef_sl {a : IE} {l u : IO} {js : List Nat} : evFor C (.it (.sl a l u)) js ρ = efN (evE C (.sl a l u) ρ) := ef_n rfl
theorem ef_lc {e : IE} {t : Tg} {s : ISrc} {i : IO} {js : List Nat} : evFor C (.it (.lc e t s i)) js ρ = efN (evE C (.lc e t s i) ρ) := ef_n rfl
theorem ef_rv {as : IA} {js : List Nat} : evFor C (.rev as) js ρ = rvU (evA C as ρ) := by
  show evSrc C (.rev as) ρ = _
  rw [es_rev]
theorem rangeD_g (n : Nat) : rangeD 0 n = mL iN (List.range n) := rangeD_map n
theorem sm_ints {n : Nat} (h : Sm n) : ints62 (n : Int) = true := by
  unfold Sm at h
  unfold ints62
  simp
  omega
theorem rg_g {n : Nat} (h : Sm n) : rgU (some (.ok [.dat (.int (n : Nat))])) = some (.ok (mL iN (List.range n))) := by
  rw [rg_1 (sm_ints h), ← rangeD_g]
  rfl
theorem rg_i {n : Int} (h : n < 5000000) (h2 : -5000000 < n) : rgU (some (.ok [.dat (.int n)])) = some (.ok (mL iN (List.range n.toNat))) := by
  rw [rg_1 (by unfold ints62; simp; omega), ← rangeD_g]
/-- a range from a on -/
def iA (a : Int) (n : Nat) : D := .int (a + (n : Nat))
theorem rangeD_a (n : Nat) : ∀ a : Int, rangeD a n = mL (iA a) (List.range n) := by
  intro a
  refine List.ext_getElem? fun i => ?_
  unfold mL
  by_cases h : i < n
  · rw [rangeD_get n a i h, List.getElem?_map, List.getElem?_range h]
    rfl
  · rw [List.getElem?_eq_none (by rw [rangeD_len]; omega), List.getElem?_eq_none (by rw [List.length_map, List.length_range]; omega)]
theorem rg_ab {a b : Int} (h : ints62 a = true) (h2 : ints62 b = true) : rgU (some (.ok [.dat (.int a), .dat (.int b)])) = some (.ok (mL (iA a) (List.range (b - a).toNat))) := by
  rw [rg_2 ⟨h, h2⟩, rangeD_a]
theorem rv_g : rvU (some (.ok [.dat (lD f xs)])) = some (.ok (mL f xs.reverse)) := by
  unfold mL
  rw [List.map_reverse]
  rfl
theorem rv_gf : rvU (some (.ok [.fr (lO f xs)])) = some (.ok (mL f xs.reverse)) := by
  unfold mL
  rw [List.map_reverse]
  rfl
/-! ### comprehensions -/
def compG (step : α → Ans (Option D)) : List α → Ans (List D)
  | [] => some (.ok [])
  | d :: ds => match step d with
    | some (.ok o) => match compG step ds with
      | some (.ok r) => some (.ok (match o with | some x => x :: r | none => r))
      | _ => none
    | _ => none
theorem compL_g {step : D → Ans (Option D)} : ∀ {xs : List α}, compL step (mL f xs) = compG (fun x => step (f x)) xs
  | [] => rfl
  | x :: xs => by
    show compL step (f x :: mL f xs) = _
    unfold compL compG
    rw [compL_g] <;> rfl
theorem compG_map {step : α → Ans (Option D)} {k : α → β} : ∀ {xs : List α}, (∀ x ∈ xs, step x = some (.ok (some (g (k x))))) → compG step xs = some (.ok (mL g (xs.map k)))
  | [], _ => rfl
  | x :: xs, h => by
    unfold compG
    rw [h x List.mem_cons_self, compG_map fun x hx => h x (List.mem_cons_of_mem _ hx)]
    rfl
theorem compG_fil {step : α → Ans (Option D)} {k : α → β} {c : α → Bool} : ∀ {xs : List α}, (∀ x ∈ xs, step x = some (.ok (if c x = true then some (g (k x)) else none))) → compG step xs = some (.ok (mL g ((xs.filter c).map k)))
  | [], _ => rfl
  | x :: xs, h => by
    unfold compG
    rw [h x List.mem_cons_self, compG_fil fun x hx => h x (List.mem_cons_of_mem _ hx)]
    cases q : c x with
    | true => rw [List.filter_cons, q]; rfl
    | false => rw [List.filter_cons, q]; rfl
theorem lc_map {T : D → Ans (Option D)} (g : β → D) (k : α → β) (hz : Sm xs.length) (h : ∀ x ∈ xs, T (f x) = some (.ok (some (g (k x))))) : lcU (some (.ok (mL f xs))) T = some (.ok (.fr (lO g (xs.map k)))) := by
  refine lc_ok (by unfold mL; rw [List.length_map]; exact Nat.le_trans hz (by decide)) ?_
  rw [compL_g, compG_map (g := g) (k := k) h]
  rfl
theorem lc_fil {T : D → Ans (Option D)} (g : β → D) (k : α → β) (c : α → Bool) (hz : Sm xs.length) (h : ∀ x ∈ xs, T (f x) = some (.ok (if c x = true then some (g (k x)) else none))) : lcU (some (.ok (mL f xs))) T = some (.ok (.fr (lO g ((xs.filter c).map k)))) := by
  refine lc_ok (by unfold mL; rw [List.length_map]; exact Nat.le_trans hz (by decide)) ?_
  rw [compL_g, compG_fil (g := g) (k := k) (c := c) h]
  rfl
/-- a turn by its parts -/
def tst (k : Ans Bool) (x : EvR) : Ans (Option D) := bindR k fun k => match k with
  | true => bindR x fun x => match toD x with
    | some y => some (.ok (some y))
    | none => none
  | false => some (.ok none)
def turnM (o : Option Rho) (fi : Rho → Ans Bool) (fe : Rho → EvR) : Ans (Option D) := match o with
  | some ρ' => tst (fi ρ') (fe ρ')
  | none => none
theorem turn_m {t : Tg} {fi : Rho → Ans Bool} {fe : Rho → EvR} {d : D} : turnL t fi fe ρ d = turnM (setG t d ρ) fi fe := by
  unfold turnL turnM
  cases setG t d ρ with
  | none => rfl
  | some ρ' => rfl
theorem turnM_s {ρ' : Rho} {fi : Rho → Ans Bool} {fe : Rho → EvR} : turnM (some ρ') fi fe = tst (fi ρ') (fe ρ') := rfl
theorem tst_d {d : D} : tst (some (.ok true)) (some (.ok (.dat d))) = some (.ok (some d)) := rfl
theorem tst_o {o : OV} : tst (some (.ok true)) (some (.ok (.fr o))) = some (.ok (some o.d)) := rfl
theorem tst_f {x : EvR} : tst (some (.ok false)) x = some (.ok none) := rfl
theorem tst_b {b : Bool} {d : D} : tst (some (.ok b)) (some (.ok (.dat d))) = some (.ok (if b = true then some d else none)) := by cases b <;> rfl
theorem ei_no : evIf C .no ρ = some (.ok true) := by rw [evIf]
theorem ei_so {c : IE} : evIf C (.so c) ρ = evT C c ρ := by rw [evIf]
theorem sg_n {i : Nat} {d : D} : setG (.n i) d ρ = some (ρ.set i (some (.dat d))) := rfl
theorem sg_e {i j : Nat} {e : Ent} : setG (.t [i, j]) (eD e) ρ = some ((ρ.set i (some (.dat (pD e.1)))).set j (some (.dat (.int e.2)))) := rfl
theorem sg_2 {i j : Nat} {a b : D} : setG (.t [i, j]) (.tup [a, b]) ρ = some ((ρ.set i (some (.dat a))).set j (some (.dat b))) := rfl
theorem sg_3 {i j k : Nat} {a b c : D} : setG (.t [i, j, k]) (.tup [a, b, c]) ρ = some (((ρ.set i (some (.dat a))).set j (some (.dat b))).set k (some (.dat c))) := rfl
/-! ### loops -/
def stepM (o : Option Rho) (b : Rho → SR) : SR := match o with | some ρ' => b ρ' | none => none
theorem step_m {t : Tg} {b : Rho → SR} {d : D} : stepL t b d ρ = stepM (setG t d ρ) b := by
  unfold stepL stepM
  cases setG t d ρ <;> rfl
theorem stepM_s {ρ' : Rho} {b : Rho → SR} : stepM (some ρ') b = b ρ' := rfl
def forG (step : α → Rho → SR) : List α → Rho → SR
  | [], ρ => some (.nx ρ)
  | d :: ds, ρ => match step d ρ with
    | some (.nx ρ') => forG step ds ρ'
    | some (.ct ρ') => forG step ds ρ'
    | some (.bk ρ') => some (.nx ρ')
    | some (.rt r) => some (.rt r)
    | some (.er e ρ') => some (.er e ρ')
    | none => none
theorem forL_g {step : D → Rho → SR} : ∀ {xs : List α} {ρ : Rho}, forL step (mL f xs) ρ = forG (fun x => step (f x)) xs ρ
  | [], _ => rfl
  | x :: xs, ρ => by
    show forL step (f x :: mL f xs) ρ = _
    unfold forL forG
    cases step (f x) ρ with
    | none => rfl
    | some o =>
      cases o with
      | nx ρ' => exact forL_g
      | ct ρ' => exact forL_g
      | _ => rfl
/-- one turn on -/
theorem forL_nx {step : D → Rho → SR} {d : D} {ds : List D} {ρ' : Rho} (h : step d ρ = some (.nx ρ')) : forL step (d :: ds) ρ = forL step ds ρ' := by
  unfold forL
  rw [h]
  cases ds <;> rfl
theorem forL_stop {step : D → Rho → SR} {d : D} {ds : List D} {o : SO} (h : step d ρ = some o) (ho : outS o = true) : forL step (d :: ds) ρ = some o := by
  unfold forL
  rw [h]
  cases o with
  | rt r => rfl
  | er e ρ => rfl
  | _ => cases ho
theorem forL_end {step : D → Rho → SR} : forL step [] ρ = some (.nx ρ) := rfl
/-- a loop that runs to its end, by what it holds -/
theorem for_fold {step : D → Rho → SR} {S : Type} (R : S → Rho) (F : S → α → S) (s0 : S) (hρ : ρ = R s0) (h : ∀ s x, x ∈ xs → step (f x) (R s) = some (.nx (R (F s x)))) : forL step (mL f xs) ρ = some (.nx (R (xs.foldl F s0))) := by
  subst hρ
  induction xs generalizing s0 with
  | nil => rfl
  | cons x xs ih =>
    show forL step (f x :: mL f xs) _ = _
    rw [forL_nx (h s0 x List.mem_cons_self)]
    exact ih (F s0 x) fun s y hy => h s y (List.mem_cons_of_mem _ hy)
/-- the same with what holds of the parts -/
theorem for_inv {step : D → Rho → SR} {S : Type} (R : S → Rho) (F : S → α → S) (I : List α → S → Prop) (s0 : S) (hρ : ρ = R s0) (h0 : I [] s0) (h : ∀ s pre x post, xs = pre ++ x :: post → I pre s → step (f x) (R s) = some (.nx (R (F s x))) ∧ I (pre ++ [x]) (F s x)) : forL step (mL f xs) ρ = some (.nx (R (xs.foldl F s0))) ∧ I xs (xs.foldl F s0) := by
  subst hρ
  have key : ∀ (post pre : List α) (s : S), xs = pre ++ post → I pre s → forL step (mL f post) (R s) = some (.nx (R (post.foldl F s))) ∧ I xs (post.foldl F s) := by
    intro post
    induction post with
    | nil =>
      intro pre s e i
      rw [List.append_nil] at e
      subst e
      exact ⟨rfl, i⟩
    | cons x post ih =>
      intro pre s e i
      obtain ⟨h1, h2⟩ := h s pre x post e i
      obtain ⟨h3, h4⟩ := ih (pre ++ [x]) (F s x) (by rw [e, List.append_assoc]; rfl) h2
      refine ⟨?_, h4⟩
      show forL step (f x :: mL f post) _ = _
      rw [forL_nx h1]
      exact h3
  exact key xs [] s0 rfl h0
/-- a loop that only looks -/
theorem for_look {step : D → Rho → SR} (h : ∀ x, x ∈ xs → step (f x) ρ = some (.nx ρ)) : forL step (mL f xs) ρ = some (.nx ρ) := by
  have := for_fold (f := f) (xs := xs) (step := step) (ρ := ρ) (S := Unit) (fun _ => ρ) (fun s _ => s) () rfl fun _ x hx => h x hx
  exact this
/-- a search -/
theorem for_any {step : D → Rho → SR} (c : α → Bool) (o : SO) (ho : outS o = true) (h : ∀ x, x ∈ xs → step (f x) ρ = some (if c x = true then o else .nx ρ)) : forL step (mL f xs) ρ = some (if xs.any c = true then o else .nx ρ) := by
  induction xs with
  | nil => rfl
  | cons x xs ih =>
    show forL step (f x :: mL f xs) _ = _
    have h1 := h x List.mem_cons_self
    cases q : c x with
    | true =>
      rw [q, if_pos rfl] at h1
      rw [forL_stop h1 ho, List.any_cons, q]
      rfl
    | false =>
      rw [q, if_neg (by decide)] at h1
      rw [forL_nx h1, ih fun y hy => h y (List.mem_cons_of_mem _ hy), List.any_cons, q]
      rfl
/-- a loop that may leave: the state or the end -/
def foldX {S : Type} (F : S → α → S ⊕ SO) : List α → S → S ⊕ SO
  | [], s => .inl s
  | x :: xs, s => match F s x with
    | .inl s' => foldX F xs s'
    | .inr o => .inr o
def outX {S : Type} (R : S → Rho) : S ⊕ SO → SO
  | .inl s => .nx (R s)
  | .inr o => o
theorem for_exit {step : D → Rho → SR} {S : Type} (R : S → Rho) (F : S → α → S ⊕ SO) (s0 : S) (hρ : ρ = R s0) (h : ∀ s x, x ∈ xs → step (f x) (R s) = some (outX R (F s x)) ∧ ∀ o, F s x = .inr o → outS o = true) : forL step (mL f xs) ρ = some (outX R (foldX F xs s0)) := by
  subst hρ
  induction xs generalizing s0 with
  | nil => rfl
  | cons x xs ih =>
    show forL step (f x :: mL f xs) _ = _
    obtain ⟨h1, h2⟩ := h s0 x List.mem_cons_self
    unfold foldX
    cases q : F s0 x with
    | inl s' =>
      rw [q] at h1
      rw [forL_nx h1]
      exact ih s' fun s y hy => h s y (List.mem_cons_of_mem _ hy)
    | inr o =>
      rw [q] at h1
      exact forL_stop h1 (h2 o q)
/-! ### lists grown -/
theorem app_g {i : Nat} {x : α} (h : Sm xs.length) : appS i ρ (some (some (.own (lO f xs)))) (some (.ok (.dat (f x)))) = some (.nx (ρ.set i (some (.own (lO f (xs ++ [x])))))) := by
  show (if (xs.map f).length < 16777216 then some (SO.nx (ρ.set i (some (.own (.l (xs.map f ++ [f x])))))) else none) = _
  unfold Sm at h
  rw [if_pos (by rw [List.length_map]; omega)]
  unfold lO
  rw [List.map_append]
  rfl
theorem app_go {f : List α → D} {g : α → D} {xs : List (List α)} {i : Nat} {x : List α} (h : Sm xs.length) (e : f = lD g) : appS i ρ (some (some (.own (lO f xs)))) (some (.ok (.fr (lO g x)))) = some (.nx (ρ.set i (some (.own (lO f (xs ++ [x])))))) := by
  subst e
  exact app_g (f := lD g) (x := x) h
theorem add_gg {xs ys : List α} (h : Sm xs.length) (h2 : Sm ys.length) : binV .add (.fr (lO f xs)) (.fr (lO f ys)) = some (.fr (lO f (xs ++ ys))) := by
  show (if (xs.map f).length + (ys.map f).length ≤ 16777216 then some (RV.fr (.l (xs.map f ++ ys.map f))) else none) = _
  unfold Sm at h h2
  rw [if_pos (by rw [List.length_map, List.length_map]; omega), ← List.map_append]
  rfl
theorem addV_lst {x y : RV} {a b : List D} (hx : lstV x = some a) (hy : lstV y = some b) (h : a.length + b.length ≤ 16777216) : binV .add x y = some (.fr (.l (a ++ b))) := by
  have ex : (∃ ds, x = .dat (.lst ds)) ∨ (∃ ds, x = .fr (.l ds)) ∨ ∃ ds, x = .br (.l ds) := by
    unfold lstV at hx
    split at hx
    · exact .inl ⟨_, rfl⟩
    · exact .inr (.inl ⟨_, rfl⟩)
    · exact .inr (.inr ⟨_, rfl⟩)
    · cases hx
  have ey : (∃ ds, y = .dat (.lst ds)) ∨ (∃ ds, y = .fr (.l ds)) ∨ ∃ ds, y = .br (.l ds) := by
    unfold lstV at hy
    split at hy
    · exact .inl ⟨_, rfl⟩
    · exact .inr (.inl ⟨_, rfl⟩)
    · exact .inr (.inr ⟨_, rfl⟩)
    · cases hy
  rcases ex with ⟨ds, rfl⟩ | ⟨ds, rfl⟩ | ⟨ds, rfl⟩ <;> rcases ey with ⟨es, rfl⟩ | ⟨es, rfl⟩ | ⟨es, rfl⟩ <;> (cases hx; cases hy; exact if_pos h)
theorem add_lg {x y : RV} (hx : lstV x = some (xs.map f)) (hy : lstV y = some (ys.map f)) (h : Sm xs.length) (h2 : Sm ys.length) : binV .add x y = some (.fr (lO f (xs ++ ys))) := by
  unfold Sm at h h2
  rw [addV_lst hx hy (by rw [List.length_map, List.length_map]; omega), ← List.map_append]
  rfl
theorem add_dd (h : Sm xs.length) (h2 : Sm ys.length) : binV .add (.dat (lD f xs)) (.dat (lD f ys)) = some (.fr (lO f (xs ++ ys))) := add_lg rfl rfl h h2
theorem add_df (h : Sm xs.length) (h2 : Sm ys.length) : binV .add (.dat (lD f xs)) (.fr (lO f ys)) = some (.fr (lO f (xs ++ ys))) := add_lg rfl rfl h h2
theorem add_db (h : Sm xs.length) (h2 : Sm ys.length) : binV .add (.dat (lD f xs)) (.br (lO f ys)) = some (.fr (lO f (xs ++ ys))) := add_lg rfl rfl h h2
theorem add_fd (h : Sm xs.length) (h2 : Sm ys.length) : binV .add (.fr (lO f xs)) (.dat (lD f ys)) = some (.fr (lO f (xs ++ ys))) := add_lg rfl rfl h h2
theorem add_fb (h : Sm xs.length) (h2 : Sm ys.length) : binV .add (.fr (lO f xs)) (.br (lO f ys)) = some (.fr (lO f (xs ++ ys))) := add_lg rfl rfl h h2
theorem add_bd (h : Sm xs.length) (h2 : Sm ys.length) : binV .add (.br (lO f xs)) (.dat (lD f ys)) = some (.fr (lO f (xs ++ ys))) := add_lg rfl rfl h h2
theorem add_bf (h : Sm xs.length) (h2 : Sm ys.length) : binV .add (.br (lO f xs)) (.fr (lO f ys)) = some (.fr (lO f (xs ++ ys))) := add_lg rfl rfl h h2
theorem add_bb2 (h : Sm xs.length) (h2 : Sm ys.length) : binV .add (.br (lO f xs)) (.br (lO f ys)) = some (.fr (lO f (xs ++ ys))) := add_lg rfl rfl h h2
theorem add_pp {p q : Pl} (h : Sm p.length) (h2 : Sm q.length) : binV .add (.dat (pD p)) (.dat (pD q)) = some (.dat (pD (p ++ q))) := by
  show (if (p.map D.int).length + (q.map D.int).length ≤ 16777216 then some (RV.dat (.tup (p.map D.int ++ q.map D.int))) else none) = _
  unfold Sm at h h2
  rw [if_pos (by rw [List.length_map, List.length_map]; omega), ← List.map_append]
  rfl
/-! ### truth, length, items -/
theorem tru_nil : truV (.dat (lD f [])) = some false := rfl
theorem tru_cons {x : α} : truV (.dat (lD f (x :: xs))) = some true := rfl
theorem tru_on : truV (.br (lO f [])) = some false := rfl
theorem tru_oc {x : α} : truV (.br (lO f (x :: xs))) = some true := rfl
theorem tru_fn : truV (.fr (lO f [])) = some false := rfl
theorem tru_fc {x : α} : truV (.fr (lO f (x :: xs))) = some true := rfl
theorem len_g : biV .len [.dat (lD f xs)] = some (.dat (.int xs.length)) := by
  show some (RV.dat (.int (((xs.map f).length : Nat) : Int))) = _
  rw [List.length_map]
theorem len_gf : biV .len [.fr (lO f xs)] = some (.dat (.int xs.length)) := by
  show some (RV.dat (.int (((xs.map f).length : Nat) : Int))) = _
  rw [List.length_map]
theorem len_gb : biV .len [.br (lO f xs)] = some (.dat (.int xs.length)) := by
  show some (RV.dat (.int (((xs.map f).length : Nat) : Int))) = _
  rw [List.length_map]
theorem len_pl {p : Pl} : biV .len [.dat (pD p)] = some (.dat (.int p.length)) := by
  show some (RV.dat (.int (((p.map D.int).length : Nat) : Int))) = _
  rw [List.length_map]
theorem len_e {e : Ent} : biV .len [.dat (eD e)] = some (.dat (.int 2)) := rfl
theorem lst_g : biV .lst [.dat (lD f xs)] = some (.fr (lO f xs)) := rfl
theorem lst_gf : biV .lst [.fr (lO f xs)] = some (.fr (lO f xs)) := rfl
theorem lst_gb : biV .lst [.br (lO f xs)] = some (.fr (lO f xs)) := rfl
theorem lst_p {p : Pl} : biV .lst [.dat (pD p)] = some (.fr (lO D.int p)) := rfl
theorem tup_gf {p : Pl} : biV .tup [.fr (lO D.int p)] = some (.dat (pD p)) := rfl
theorem tup_gb {p : Pl} : biV .tup [.br (lO D.int p)] = some (.dat (pD p)) := rfl
theorem tup_gd {p : Pl} : biV .tup [.dat (lD D.int p)] = some (.dat (pD p)) := rfl
theorem tup_p {p : Pl} : biV .tup [.dat (pD p)] = some (.dat (pD p)) := rfl
theorem ix_g0 {x : α} : ixW (.dat (lD f (x :: xs))) (.dat (.int 0)) = some (.dat (f x)) := ixl_0
theorem ix_f0 {x : α} : ixW (.fr (lO f (x :: xs))) (.dat (.int 0)) = some (.dat (f x)) := ixf_0
theorem ix_b0 {x : α} : ixW (.br (lO f (x :: xs))) (.dat (.int 0)) = some (.dat (f x)) := ixb_0
theorem ix_e0 {e : Ent} : ixW (.dat (eD e)) (.dat (.int 0)) = some (.dat (pD e.1)) := ixt_0
theorem ix_e1 {e : Ent} : ixW (.dat (eD e)) (.dat (.int 1)) = some (.dat (.int e.2)) := ixt_1
theorem ix_gn {n : Nat} {x : α} (h : xs[n]? = some x) : ixW (.dat (lD f xs)) (.dat (.int (n : Nat))) = some (.dat (f x)) := ix_l (by rw [DE.atI_nat, List.getElem?_map, h]; rfl)
theorem ix_fn {n : Nat} {x : α} (h : xs[n]? = some x) : ixW (.fr (lO f xs)) (.dat (.int (n : Nat))) = some (.dat (f x)) := ix_f (by rw [DE.atI_nat, List.getElem?_map, h]; rfl)
theorem ix_bn {n : Nat} {x : α} (h : xs[n]? = some x) : ixW (.br (lO f xs)) (.dat (.int (n : Nat))) = some (.dat (f x)) := ix_b (by rw [DE.atI_nat, List.getElem?_map, h]; rfl)
theorem ix_gi {i : Int} {x : α} (h0 : 0 ≤ i) (h : xs[i.toNat]? = some x) : ixW (.dat (lD f xs)) (.dat (.int i)) = some (.dat (f x)) := ix_l (atI_get h0 (by rw [List.getElem?_map, h]; rfl))
theorem ix_fi {i : Int} {x : α} (h0 : 0 ≤ i) (h : xs[i.toNat]? = some x) : ixW (.fr (lO f xs)) (.dat (.int i)) = some (.dat (f x)) := ix_f (atI_get h0 (by rw [List.getElem?_map, h]; rfl))
theorem ix_bi {i : Int} {x : α} (h0 : 0 ≤ i) (h : xs[i.toNat]? = some x) : ixW (.br (lO f xs)) (.dat (.int i)) = some (.dat (f x)) := ix_b (atI_get h0 (by rw [List.getElem?_map, h]; rfl))
theorem ix_pn {p : Pl} {n : Nat} {x : Int} (h : p[n]? = some x) : ixW (.dat (pD p)) (.dat (.int (n : Nat))) = some (.dat (.int x)) := ix_p h
theorem ix_pi {p : Pl} {i : Int} {x : Int} (h0 : 0 ≤ i) (h : p[i.toNat]? = some x) : ixW (.dat (pD p)) (.dat (.int i)) = some (.dat (.int x)) := ix_t (atI_get h0 (by rw [List.getElem?_map, h]; rfl))
theorem ix_p0 {x : Int} {p : Pl} : ixW (.dat (pD (x :: p))) (.dat (.int 0)) = some (.dat (.int x)) := ixt_0
theorem ix_p1 {x y : Int} {p : Pl} : ixW (.dat (pD (x :: y :: p))) (.dat (.int 1)) = some (.dat (.int y)) := ixt_1
theorem ix_p2 {x y z : Int} {p : Pl} : ixW (.dat (pD (x :: y :: z :: p))) (.dat (.int 2)) = some (.dat (.int z)) := ixt_2
theorem atI_last {α : Type} (xs : List α) (x : α) : atI (xs ++ [x]) (-1) = some x := by
  unfold atI ixN
  rw [if_neg (by decide)]
  rw [if_pos (by rw [List.length_append, List.length_singleton]; omega)]
  show (xs ++ [x])[_]? = _
  have e : (-1 + (((xs ++ [x]).length : Nat) : Int)).toNat = xs.length := by rw [List.length_append, List.length_singleton]; omega
  rw [e, List.getElem?_append_right (Nat.le_refl _), Nat.sub_self]
  rfl
theorem ix_gl {x : α} : ixW (.dat (lD f (xs ++ [x]))) (.dat (.int (-1))) = some (.dat (f x)) := ix_l (by rw [List.map_append]; exact atI_last _ _)
theorem ix_fl {x : α} : ixW (.fr (lO f (xs ++ [x]))) (.dat (.int (-1))) = some (.dat (f x)) := ix_f (by rw [List.map_append]; exact atI_last _ _)
theorem ix_bl {x : α} : ixW (.br (lO f (xs ++ [x]))) (.dat (.int (-1))) = some (.dat (f x)) := ix_b (by rw [List.map_append]; exact atI_last _ _)
theorem ix_pl {x : Int} {p : Pl} : ixW (.dat (pD (p ++ [x]))) (.dat (.int (-1))) = some (.dat (.int x)) := ix_t (by rw [List.map_append]; exact atI_last _ _)
/-! ### numbers in lists -/
theorem intsD_all (ns : List Int) : intsD (ns.map D.int) = some ns := by
  induction ns with
  | nil => rfl
  | cons n ns ih =>
    show (match intsD (ns.map D.int) with | some ms => some (n :: ms) | none => none) = _
    rw [ih]
theorem blsD_all (bs : List Bool) : blsD (bs.map D.bl) = some bs := by
  induction bs with
  | nil => rfl
  | cons n ns ih =>
    show (match blsD (ns.map D.bl) with | some ms => some (n :: ms) | none => none) = _
    rw [ih]
def lstMin : List Int → Int
  | [] => 0
  | n :: r => r.foldl min n
def lstMax : List Int → Int
  | [] => 0
  | n :: r => r.foldl max n
theorem lstI_of {x : RV} {ns : List Int} (h : lstV x = some (ns.map D.int)) : lstI x = some ns := by
  unfold lstI
  rw [h]
  exact intsD_all ns
theorem sum_of {x : RV} {ns : List Int} (h : lstV x = some (ns.map D.int)) : biV .sum [x] = some (.dat (.int ns.sum)) := by
  show sumV x = _
  unfold sumV
  rw [lstI_of h]
theorem min_of {x : RV} {ns : List Int} (h : lstV x = some (ns.map D.int)) (h0 : ns ≠ []) : biV .min [x] = some (.dat (.int (lstMin ns))) := by
  have hk : keysT x = none := by
    unfold lstV at h
    split at h
    · rfl
    · rfl
    · rfl
    · cases h
  show minX x = _
  unfold minX
  rw [hk]
  simp only
  unfold minV
  rw [lstI_of h]
  cases ns with
  | nil => exact absurd rfl h0
  | cons n r => rfl
theorem max_of {x : RV} {ns : List Int} (h : lstV x = some (ns.map D.int)) (h0 : ns ≠ []) : biV .max [x] = some (.dat (.int (lstMax ns))) := by
  show maxV x = _
  unfold maxV
  rw [lstI_of h]
  cases ns with
  | nil => exact absurd rfl h0
  | cons n r => rfl
theorem sum_g {ns : List Int} : biV .sum [.dat (lD D.int ns)] = some (.dat (.int ns.sum)) := sum_of rfl
theorem sum_f {ns : List Int} : biV .sum [.fr (lO D.int ns)] = some (.dat (.int ns.sum)) := sum_of rfl
theorem sum_b {ns : List Int} : biV .sum [.br (lO D.int ns)] = some (.dat (.int ns.sum)) := sum_of rfl
theorem min_g {ns : List Int} (h : ns ≠ []) : biV .min [.dat (lD D.int ns)] = some (.dat (.int (lstMin ns))) := min_of rfl h
theorem min_f {ns : List Int} (h : ns ≠ []) : biV .min [.fr (lO D.int ns)] = some (.dat (.int (lstMin ns))) := min_of rfl h
theorem min_b {ns : List Int} (h : ns ≠ []) : biV .min [.br (lO D.int ns)] = some (.dat (.int (lstMin ns))) := min_of rfl h
theorem max_g {ns : List Int} (h : ns ≠ []) : biV .max [.dat (lD D.int ns)] = some (.dat (.int (lstMax ns))) := max_of rfl h
theorem max_f {ns : List Int} (h : ns ≠ []) : biV .max [.fr (lO D.int ns)] = some (.dat (.int (lstMax ns))) := max_of rfl h
theorem max_b {ns : List Int} (h : ns ≠ []) : biV .max [.br (lO D.int ns)] = some (.dat (.int (lstMax ns))) := max_of rfl h
theorem any_f {bs : List Bool} : biV .any [.fr (lO D.bl bs)] = some (.dat (.bl (bs.any id))) := by
  show anyV _ = _
  unfold anyV lstB
  show (match blsD (bs.map D.bl) with | some bs => some (RV.dat (.bl (bs.any id))) | none => none) = _
  rw [blsD_all]
theorem all_f {bs : List Bool} : biV .all [.fr (lO D.bl bs)] = some (.dat (.bl (bs.all id))) := by
  show allV _ = _
  unfold allV lstB
  show (match blsD (bs.map D.bl) with | some bs => some (RV.dat (.bl (bs.all id))) | none => none) = _
  rw [blsD_all]
theorem abs_i {i : Int} : biV .abs [.dat (.int i)] = some (.dat (.int (if i < 0 then -i else i))) := rfl
/-! ### calls -/
def callC (ab : Bool) (x : EvR) : EvR := match x with
  | none => none
  | some (.error e) => if ab = true ∧ flatDs e.fs = false then none else some (.error e)
  | some (.ok r) => if isBr r = true ∨ (ab = true ∧ flatR r = false) then none else some (.ok r)
theorem callV_c {fn : Fn} {rs : List RV} (h : rs.length = fn.n) (ho : fn.ow = false) : callV fn rs = callC (anyBr rs) (fn.m (rs.map RV.d)) := by
  rw [callV_n ho]
  unfold callN callC
  rw [if_pos h] <;> (cases fn.m (rs.map RV.d) with
    | none => rfl
    | some x => cases x <;> rfl)
theorem call_1 {fn : Fn} {a : RV} (h : fn.n = 1) (h2 : fn.ow = false) : callV fn [a] = callC (isBr a) (fn.m [a.d]) := by
  rw [callV_c (by rw [h]; rfl) h2, show anyBr [a] = (isBr a) from by unfold anyBr; unfold anyBr; rw [Bool.or_false]]
  rfl
theorem call_2 {fn : Fn} {a b : RV} (h : fn.n = 2) (h2 : fn.ow = false) : callV fn [a, b] = callC (isBr a || isBr b) (fn.m [a.d, b.d]) := by
  rw [callV_c (by rw [h]; rfl) h2, show anyBr [a, b] = (isBr a || isBr b) from by unfold anyBr; unfold anyBr; unfold anyBr; rw [Bool.or_false]]
  rfl
theorem call_3 {fn : Fn} {a b c : RV} (h : fn.n = 3) (h2 : fn.ow = false) : callV fn [a, b, c] = callC (isBr a || (isBr b || isBr c)) (fn.m [a.d, b.d, c.d]) := by
  rw [callV_c (by rw [h]; rfl) h2, show anyBr [a, b, c] = (isBr a || (isBr b || isBr c)) from by unfold anyBr; unfold anyBr; unfold anyBr; unfold anyBr; rw [Bool.or_false]]
  rfl
theorem call_4 {fn : Fn} {a b c d : RV} (h : fn.n = 4) (h2 : fn.ow = false) : callV fn [a, b, c, d] = callC (isBr a || (isBr b || (isBr c || isBr d))) (fn.m [a.d, b.d, c.d, d.d]) := by
  rw [callV_c (by rw [h]; rfl) h2, show anyBr [a, b, c, d] = (isBr a || (isBr b || (isBr c || isBr d))) from by unfold anyBr; unfold anyBr; unfold anyBr; unfold anyBr; unfold anyBr; rw [Bool.or_false]]
  rfl
theorem call_5 {fn : Fn} {a b c d e : RV} (h : fn.n = 5) (h2 : fn.ow = false) : callV fn [a, b, c, d, e] = callC (isBr a || (isBr b || (isBr c || (isBr d || isBr e)))) (fn.m [a.d, b.d, c.d, d.d, e.d]) := by
  rw [callV_c (by rw [h]; rfl) h2, show anyBr [a, b, c, d, e] = (isBr a || (isBr b || (isBr c || (isBr d || isBr e)))) from by unfold anyBr; unfold anyBr; unfold anyBr; unfold anyBr; unfold anyBr; unfold anyBr; rw [Bool.or_false]]
  rfl
theorem call_6 {fn : Fn} {a b c d e g : RV} (h : fn.n = 6) (h2 : fn.ow = false) : callV fn [a, b, c, d, e, g] = callC (isBr a || (isBr b || (isBr c || (isBr d || (isBr e || isBr g))))) (fn.m [a.d, b.d, c.d, d.d, e.d, g.d]) := by
  rw [callV_c (by rw [h]; rfl) h2, show anyBr [a, b, c, d, e, g] = (isBr a || (isBr b || (isBr c || (isBr d || (isBr e || isBr g))))) from by unfold anyBr; unfold anyBr; unfold anyBr; unfold anyBr; unfold anyBr; unfold anyBr; unfold anyBr; rw [Bool.or_false]]
  rfl
/-- a call that takes its first argument for good -/
def callCO (ab : Bool) (x : EvR) : EvR := match ab with
  | true => none
  | false => match x with
    | some (.ok r) => if isBr r = true then none else some (.ok r)
    | _ => none
theorem co_d {d : D} : callCO false (some (.ok (.dat d))) = some (.ok (.dat d)) := rfl
theorem co_f {o : OV} : callCO false (some (.ok (.fr o))) = some (.ok (.fr o)) := rfl
theorem giveO_c {fn : Fn} {o : OV} {rs : List RV} (h : rs.length + 1 = fn.n) : giveO fn o rs = callCO (anyBr rs) (fn.m (o.d :: rs.map RV.d)) := by
  unfold giveO callCO
  cases q : anyBr rs with
  | true => rw [if_neg (fun z => by cases z.2)]
  | false =>
    rw [if_pos ⟨h, rfl⟩] <;> (cases fn.m (o.d :: rs.map RV.d) with
      | none => rfl
      | some x => cases x <;> rfl)
theorem callO_4 {fn : Fn} {o : OV} {b c d : RV} (h : fn.n = 4) (h2 : fn.ow = true) : callV fn [.fr o, b, c, d] = callCO (isBr b || (isBr c || isBr d)) (fn.m [o.d, b.d, c.d, d.d]) := by
  have e : callV fn [.fr o, b, c, d] = giveO fn o [b, c, d] := by
    unfold callV
    rw [h2]
    rfl
  rw [e, giveO_c (by rw [h]; rfl), show anyBr [b, c, d] = (isBr b || (isBr c || isBr d)) from by unfold anyBr; unfold anyBr; unfold anyBr; unfold anyBr; rw [Bool.or_false]]
  rfl
def endK (x : EvR) : SR := match x with
  | some (.ok r) => some (.rt r)
  | _ => none
theorem endK_ok {r : RV} : endK (some (.ok r)) = some (.rt r) := rfl
theorem giveS_3 {fn : Fn} {o : OV} {b c d : RV} (h : fn.n = 4) (h2 : fn.ow = true) : giveS (some fn) (some (some (.own o))) (some (.ok [b, c, d])) ρ = endK (callCO (isBr b || (isBr c || isBr d)) (fn.m [o.d, b.d, c.d, d.d])) := by
  have e : giveS (some fn) (some (some (.own o))) (some (.ok [b, c, d])) ρ = endK (giveO fn o [b, c, d]) := by
    show giveV (some fn) o [b, c, d] = _
    unfold giveV
    simp only [h2]
    cases giveO fn o [b, c, d] with
    | none => rfl
    | some x => cases x <;> rfl
  rw [e, giveO_c (by rw [h]; rfl), show anyBr [b, c, d] = (isBr b || (isBr c || isBr d)) from by unfold anyBr; unfold anyBr; unfold anyBr; unfold anyBr; rw [Bool.or_false]]
  rfl
def retKS (b : Ans Bool) (t : Rho → SR) (ρ : Rho) : SR := liftS b ρ fun b => match b with
  | false => some (.rt (.dat (.bl false)))
  | true => t ρ
theorem rs_retK {pre as : IA} {j i : Nat} : runS C (.retK pre j i as) ρ = retKS (evK C pre ρ) (fun ρ => giveS C.T[j]? ρ[i]? (evA C as ρ) ρ) ρ := by
  rw [runS]
  unfold retKS
  rfl
theorem retK_t {t : Rho → SR} : retKS (some (.ok true)) t ρ = t ρ := rfl
theorem retK_f {t : Rho → SR} : retKS (some (.ok false)) t ρ = some (.rt (.dat (.bl false))) := rfl
def andK (x : EvR) (r : Rho → Ans Bool) (ρ : Rho) : Ans Bool := bindR x fun x => match x with
  | .dat (.bl true) => r ρ
  | .dat (.bl false) => some (.ok false)
  | _ => none
theorem ek_nil : evK C .nil ρ = some (.ok true) := rfl
theorem ek_cons {a : IE} {r : IA} : evK C (.cons a r) ρ = andK (evE C a ρ) (evK C r) ρ := rfl
theorem andK_t {r : Rho → Ans Bool} : andK (some (.ok (.dat (.bl true)))) r ρ = r ρ := rfl
theorem andK_f {r : Rho → Ans Bool} : andK (some (.ok (.dat (.bl false)))) r ρ = some (.ok false) := rfl
theorem mkO_4 {nm : Str} {n m : Nat} {b : IB} {e g h : D} : (mkFnO C nm n m b).m [lD f xs, e, g, h] = endF (runB C b (some (.own (lO f xs)) :: some (.dat e) :: some (.dat g) :: some (.dat h) :: List.replicate (m - n) none)) := rfl
theorem cc_d {d : D} : callC false (some (.ok (.dat d))) = some (.ok (.dat d)) := rfl
theorem cc_f {o : OV} : callC false (some (.ok (.fr o))) = some (.ok (.fr o)) := rfl
theorem cc_e {e : Er} : callC false (some (.error e)) = some (.error e) := rfl
theorem cc_td {d : D} (h : flatD d = true) : callC true (some (.ok (.dat d))) = some (.ok (.dat d)) := by
  show (if isBr (.dat d) = true ∨ (true = true ∧ flatR (.dat d) = false) then none else _) = _
  rw [if_neg]
  rintro (z | ⟨_, z⟩)
  · cases z
  · have z : flatD d = false := z
    rw [h] at z
    cases z
theorem cc_tf {o : OV} (h : flatO o = true) : callC true (some (.ok (.fr o))) = some (.ok (.fr o)) := by
  show (if isBr (.fr o) = true ∨ (true = true ∧ flatR (.fr o) = false) then none else _) = _
  rw [if_neg]
  rintro (z | ⟨_, z⟩)
  · cases z
  · have z : flatO o = false := z
    rw [h] at z
    cases z
theorem cc_te {e : Er} (h : flatDs e.fs = true) : callC true (some (.error e)) = some (.error e) := by
  show (if true = true ∧ flatDs e.fs = false then none else _) = _
  rw [if_neg]
  rintro ⟨_, z⟩
  rw [h] at z
  cases z
theorem fl_int {i : Int} : flatD (.int i) = true := id rfl
theorem fl_bl {i : Bool} : flatD (.bl i) = true := id rfl
theorem fl_non : flatD .non = true := id rfl
theorem fl_str {s : Str} : flatD (.str s) = true := id rfl
theorem fl_p {p : Pl} : flatD (pD p) = true := flat_p p
theorem fl_e {e : Ent} : flatD (eD e) = true := flat_e e
theorem fl_t {ds : List D} : flatD (.tup ds) = flatDs ds := id rfl
theorem fls_n : flatDs [] = true := id rfl
theorem fls_c {d : D} {ds : List D} : flatDs (d :: ds) = (flatD d && flatDs ds) := id rfl
theorem fl_all {f : α → D} (h : ∀ x, flatD (f x) = true) : flatO (lO f xs) = true := by
  show flatDs (xs.map f) = true
  induction xs with
  | nil => rfl
  | cons x xs ih =>
    show (flatD (f x) && flatDs (xs.map f)) = true
    rw [h, ih]
    rfl
theorem fl_oe {es : List Ent} : flatO (lO eD es) = true := fl_all flat_e
theorem fl_op {ps : List Pl} : flatO (lO pD ps) = true := fl_all flat_p
theorem fl_oi {ns : List Int} : flatO (lO D.int ns) = true := fl_all fun _ => rfl
theorem fl_ob {ns : List Bool} : flatO (lO D.bl ns) = true := fl_all fun _ => rfl
theorem fl_d {as : List Ent} : flatO (dO as) = true := by
  show flatDs (as.map fun e => D.int e.2) = true
  induction as with
  | nil => rfl
  | cons x xs ih =>
    show (flatD (.int x.2) && flatDs (xs.map fun e => D.int e.2)) = true
    rw [ih]
    rfl
/-! ### equal data by encoders -/
structure Enc (f : α → D) (n : Nat) : Prop where
  ok : ∀ x m, n ≤ m → okD (f x) m = true
  eq : ∀ x y, PyData.eqv (pyD (f x)) (pyD (f y)) = true ↔ x = y
theorem enc_int : Enc D.int 0 := ⟨fun _ _ _ => rfl, fun x y => by
  show (x == y) = true ↔ _
  simp⟩
theorem enc_p : Enc pD 1 := ⟨fun p m h => by
  obtain ⟨k, rfl⟩ : ∃ k, m = k + 1 := ⟨m - 1, by omega⟩
  exact okD_pD p k, fun p q => by
  rw [pyD_pD, pyD_pD]
  show PyData.eqvAll (p.map PyData.int) (q.map PyData.int) = true ↔ _
  rw [eqv_ints2]
  simp⟩
theorem enc_e : Enc eD 2 := ⟨fun p m h => by
  obtain ⟨k, rfl⟩ : ∃ k, m = k + 2 := ⟨m - 2, by omega⟩
  exact okD_e p k, fun p q => by
  rw [eqv_e2]
  simp⟩
theorem enc_l {n : Nat} (h : Enc f n) : Enc (lD f) (n + 1) := ⟨fun xs m hm => by
  obtain ⟨k, rfl⟩ : ∃ k, m = k + 1 := ⟨m - 1, by omega⟩
  show okDs (xs.map f) k = true
  induction xs with
  | nil => rfl
  | cons x xs ih =>
    show (okD (f x) k && okDs (xs.map f) k) = true
    rw [h.ok x k (by omega), ih]
    rfl, fun xs ys => by
  show PyData.eqvAll (pyDs (xs.map f)) (pyDs (ys.map f)) = true ↔ _
  induction xs generalizing ys with
  | nil =>
    cases ys with
    | nil => exact ⟨fun _ => rfl, fun _ => rfl⟩
    | cons y ys => exact ⟨fun z => absurd (show false = true from z) (by decide), fun z => nomatch z⟩
  | cons x xs ih =>
    cases ys with
    | nil => exact ⟨fun z => absurd (show false = true from z) (by decide), fun z => nomatch z⟩
    | cons y ys =>
      show (PyData.eqv (pyD (f x)) (pyD (f y)) && PyData.eqvAll (pyDs (xs.map f)) (pyDs (ys.map f))) = true ↔ _
      rw [Bool.and_eq_true, h.eq, ih]
      simp⟩
theorem enc_bl : Enc D.bl 0 := ⟨fun _ _ _ => rfl, fun x y => by cases x <;> cases y <;> decide⟩
/-- pairs as tuples -/
def tD {α β : Type} (f : α → D) (g : β → D) (x : α × β) : D := .tup [f x.1, g x.2]
theorem enc_t {n m : Nat} (h : Enc f n) (h' : Enc g m) : Enc (tD f g) (max n m + 1) := ⟨fun x k hk => by
  obtain ⟨j, rfl⟩ : ∃ j, k = j + 1 := ⟨k - 1, by omega⟩
  show (okD (f x.1) j && (okD (g x.2) j && true)) = true
  rw [h.ok _ j (by omega), h'.ok _ j (by omega)]
  rfl, fun x y => by
  show (PyData.eqv (pyD (f x.1)) (pyD (f y.1)) && (PyData.eqv (pyD (g x.2)) (pyD (g y.2)) && true)) = true ↔ _
  rw [Bool.and_true, Bool.and_eq_true, h.eq, h'.eq]
  obtain ⟨a, b⟩ := x
  obtain ⟨c, d⟩ := y
  simp⟩
theorem eq_enc [DecidableEq α] {n : Nat} (h : Enc f n) (hn : n ≤ 60) (x y : α) (hs : ∀ z, f z ≠ .int 0 → True) : (if okD (f x) 60 = true ∧ okD (f y) 60 = true then some (PyData.eqv (pyD (f x)) (pyD (f y))) else none) = some (decide (x = y)) := by
  rw [if_pos ⟨h.ok x 60 hn, h.ok y 60 hn⟩]
  congr 1
  by_cases q : x = y
  · rw [decide_eq_true q]
    exact (h.eq x y).mpr q
  · rw [decide_eq_false q]
    cases z : PyData.eqv (pyD (f x)) (pyD (f y)) with
    | false => rfl
    | true => exact absurd ((h.eq x y).mp z) q
theorem eqV_l [DecidableEq α] {n : Nat} (h : Enc f n) (hn : n ≤ 59) (xs ys : List α) : eqV (lD f xs) (lD f ys) = some (decide (xs = ys)) := eq_enc (enc_l h) (by omega) xs ys fun _ _ => trivial
theorem eqV_rr (a b : List Ent) : eqV (rD a) (rD b) = some (decide (a = b)) := eqV_l enc_e (by decide) a b
theorem eqV_pp (a b : Pl) : eqV (pD a) (pD b) = some (decide (a = b)) := eq_enc enc_p (by decide) a b fun _ _ => trivial
theorem eqV_nn (a b : List Int) : eqV (lD D.int a) (lD D.int b) = some (decide (a = b)) := eqV_l enc_int (by decide) a b
theorem eqV_rrr (a b : List (List Ent)) : eqV (lD (lD eD) a) (lD (lD eD) b) = some (decide (a = b)) := eqV_l (enc_l enc_e) (by decide) a b
theorem eqV_plpl (a b : List Pl) : eqV (lD pD a) (lD pD b) = some (decide (a = b)) := eqV_l enc_p (by decide) a b
theorem eqV_bb (a b : Bool) : eqV (.bl a) (.bl b) = some (decide (a = b)) := by cases a <;> cases b <;> decide
theorem eqV_ee (a b : Ent) : eqV (eD a) (eD b) = some (decide (a = b)) := eq_enc enc_e (by decide) a b fun _ _ => trivial
theorem eqV_ii (a b : Int) : eqV (.int a) (.int b) = some (decide (a = b)) := rfl
theorem cmp_e (x y : RV) : cmpV .eq x y = eqV x.d y.d := rfl
theorem cmp_n (x y : RV) : cmpV .ne x y = notV (eqV x.d y.d) := rfl
theorem notV_s (b : Bool) : notV (some b) = some (!b) := rfl
theorem cmp_lp (p q : Pl) : cmpV .lt (.dat (pD p)) (.dat (pD q)) = some (decide (p < q)) := ltD_pD p q
end
end DE

set_option Elab.async false
set_option linter.all false
set_option maxRecDepth 100000
set_option maxHeartbeats 4000000
/-! DE17: more steps of the evaluator. -/
namespace DE
open PySem L2
section
variable {α : Type} {f : α → D} {xs : List α} {C : Cfg} {ρ : Rho} {nm : Str} {n m : Nat} {b : IB}
theorem mk_1 {d : D} : (mkFn C nm n m b).m [d] = endF (runB C b (some (.dat d) :: List.replicate (m - n) none)) := rfl
theorem mk_2 {d e : D} : (mkFn C nm n m b).m [d, e] = endF (runB C b (some (.dat d) :: some (.dat e) :: List.replicate (m - n) none)) := rfl
theorem mk_3 {d e g : D} : (mkFn C nm n m b).m [d, e, g] = endF (runB C b (some (.dat d) :: some (.dat e) :: some (.dat g) :: List.replicate (m - n) none)) := rfl
theorem mk_4 {d e g h : D} : (mkFn C nm n m b).m [d, e, g, h] = endF (runB C b (some (.dat d) :: some (.dat e) :: some (.dat g) :: some (.dat h) :: List.replicate (m - n) none)) := rfl
theorem mk_5 {d e g h i : D} : (mkFn C nm n m b).m [d, e, g, h, i] = endF (runB C b (some (.dat d) :: some (.dat e) :: some (.dat g) :: some (.dat h) :: some (.dat i) :: List.replicate (m - n) none)) := rfl
theorem mk_6 {d e g h i j : D} : (mkFn C nm n m b).m [d, e, g, h, i, j] = endF (runB C b (some (.dat d) :: some (.dat e) :: some (.dat g) :: some (.dat h) :: some (.dat i) :: some (.dat j) :: List.replicate (m - n) none)) := rfl
theorem rb_kil {is : List Nat} {r : IB} : runB C (.kil is r) ρ = runB C r (kilR is ρ) := by rw [runB]
theorem asgT_2 {i j : Nat} {a b : D} : asgTS [i, j] ρ (some (.ok (.dat (.tup [a, b])))) = some (.nx ((ρ.set i (some (.dat a))).set j (some (.dat b)))) := rfl
theorem asgT_3 {i j k : Nat} {a b c : D} : asgTS [i, j, k] ρ (some (.ok (.dat (.tup [a, b, c])))) = some (.nx (((ρ.set i (some (.dat a))).set j (some (.dat b))).set k (some (.dat c)))) := rfl
theorem app_gO {f : List α → D} {g : α → D} {xs : List (List α)} {i : Nat} {x : List α} (h : Sm xs.length) : appS i ρ (some (some (.own (lO (lD g) xs)))) (some (.ok (.fr (lO g x)))) = some (.nx (ρ.set i (some (.own (lO (lD g) (xs ++ [x])))))) := app_go h rfl
theorem iteS_e {e : Er} {a c : Rho → SR} : iteS (some (.error e)) a c ρ = some (.er e ρ) := rfl
theorem ac_er {e : Er} {xs : Ans (List RV)} : ac (some (.error e)) xs = some (.error e) := rfl
theorem callU_er {g : Option Fn} {e : Er} : callU g (some (.error e)) = some (.error e) := rfl
theorem u1_er {g : RV → Option RV} {e : Er} : u1 g (some (.error e)) = some (.error e) := rfl
theorem u2_er1 {g : RV → RV → Option RV} {e : Er} {y : EvR} : u2 g (some (.error e)) y = some (.error e) := rfl
theorem u2_er2 {g : RV → RV → Option RV} {x : RV} {e : Er} : u2 g (some (.ok x)) (some (.error e)) = some (.error e) := rfl
theorem andU_b {b : Bool} {r : Rho → EvR} {c : Bool} (h : r ρ = some (.ok (.dat (.bl c)))) : andU (some (.ok (.dat (.bl b)))) r ρ = some (.ok (.dat (.bl (b && c)))) := by
  cases b
  · rfl
  · exact h
theorem orU_b {b : Bool} {r : Rho → EvR} {c : Bool} (h : r ρ = some (.ok (.dat (.bl c)))) : orU (some (.ok (.dat (.bl b)))) r ρ = some (.ok (.dat (.bl (b || c)))) := by
  cases b
  · exact h
  · rfl
theorem andT_b {b : Bool} {r : Rho → Ans Bool} {c : Bool} (h : r ρ = some (.ok c)) : andT (some (.ok b)) r ρ = some (.ok (b && c)) := by
  cases b
  · rfl
  · exact h
theorem orT_b {b : Bool} {r : Rho → Ans Bool} {c : Bool} (h : r ρ = some (.ok c)) : orT (some (.ok b)) r ρ = some (.ok (b || c)) := by
  cases b
  · exact h
  · rfl
theorem iteS_b {b : Bool} {r q : Rho → SR} : iteS (some (.ok b)) r q ρ = if b = true then r ρ else q ρ := by cases b <;> rfl
theorem eqV_ss (a b : Str) : eqV (.str a) (.str b) = some (decide (a = b)) := rfl
theorem ix_t20 {a b : D} : ixW (.dat (.tup [a, b])) (.dat (.int 0)) = some (.dat a) := ixt_0
theorem ix_t21 {a b : D} : ixW (.dat (.tup [a, b])) (.dat (.int 1)) = some (.dat b) := ixt_1
theorem ix_t30 {a b c : D} : ixW (.dat (.tup [a, b, c])) (.dat (.int 0)) = some (.dat a) := ixt_0
theorem ix_t31 {a b c : D} : ixW (.dat (.tup [a, b, c])) (.dat (.int 1)) = some (.dat b) := ixt_1
theorem ix_t32 {a b c : D} : ixW (.dat (.tup [a, b, c])) (.dat (.int 2)) = some (.dat c) := ixt_2
theorem len_t2 {a b : D} : biV .len [.dat (.tup [a, b])] = some (.dat (.int 2)) := rfl
theorem len_t3 {a b c : D} : biV .len [.dat (.tup [a, b, c])] = some (.dat (.int 3)) := rfl
theorem eqV_tip (a b : Int) (p q : Pl) : eqV (.tup [.int a, pD p]) (.tup [.int b, pD q]) = some (decide ((a, p) = (b, q))) := eq_enc (enc_t enc_int enc_p) (by decide) (a, p) (b, q) fun _ _ => trivial
theorem eqV_trr (a b c d : List Ent) : eqV (.tup [rD a, rD b]) (.tup [rD c, rD d]) = some (decide ((a, b) = (c, d))) := eq_enc (enc_t (enc_l enc_e) (enc_l enc_e)) (by decide) (a, b) (c, d) fun _ _ => trivial
variable {isa : Str → Str → Option Bool}
theorem isi_dd {d : D} {c : Cl} {t : Ty} {b : Bool} (h : tyD d = some t) (h2 : isTy t c = some b) : isiV isa (.dat d) c = some b := by
  unfold isiV
  show (match tyD d with | some t => isTy t c | none => _) = _
  rw [h]
  exact h2
theorem isi_l : isiV isa (.dat (lD f xs)) .lst = some true := rfl
theorem isi_lf : isiV isa (.fr (lO f xs)) .lst = some true := rfl
theorem isi_lb : isiV isa (.br (lO f xs)) .lst = some true := rfl
theorem isi_p {p : Pl} : isiV isa (.dat (pD p)) .tup = some true := rfl
theorem isi_e {e : Ent} : isiV isa (.dat (eD e)) .tup = some true := rfl
theorem isi_t {ds : List D} : isiV isa (.dat (.tup ds)) .tup = some true := rfl
theorem isi_i {i : Int} : isiV isa (.dat (.int i)) .int = some true := rfl
theorem isi_ib {i : Int} : isiV isa (.dat (.int i)) .bool = some false := rfl
theorem isi_b {b : Bool} : isiV isa (.dat (.bl b)) .bool = some true := rfl
theorem isi_bi {b : Bool} : isiV isa (.dat (.bl b)) .int = some true := rfl
theorem isi_s {s : Str} : isiV isa (.dat (.str s)) .str = some true := rfl
theorem isi_n {c : Cl} (h : isTy .non c = some false) : isiV isa (.dat .non) c = some false := h
theorem isi_x {c x : Str} {ns : List Str} {fs : List D} : isiV isa (.dat (.exc c ns fs)) (.own x) = isa c x := rfl
/-! ### list(range(..)), list(reversed(xs)), reversed(range(n)), d.pop(k) -/
theorem ev_lsr1 {a : IE} : evE C (.lsr1 a) ρ = u1 lsr1V (evE C a ρ) := by rw [evE]; rfl
theorem ev_lsr2 {a b : IE} : evE C (.lsr2 a b) ρ = u2 lsr2V (evE C a ρ) (evE C b ρ) := by rw [evE]; rfl
theorem ev_lrv {a : IE} : evE C (.lrv a) ρ = u1 lrvV (evE C a ρ) := by rw [evE]; rfl
theorem lsr1_1 {n : Int} (h : n ≤ 16777216) (h2 : ints62 n = true) : lsr1V (.dat (.int n)) = some (.fr (.l (rangeD 0 n.toNat))) := by
  show (if n ≤ 16777216 ∧ ints62 n = true then _ else _) = _
  rw [if_pos ⟨h, h2⟩]
theorem lsr1_g {n : Nat} (h : Sm n) : lsr1V (.dat (.int (n : Nat))) = some (.fr (lO iN (List.range n))) := by
  have h' : ((n : Nat) : Int) ≤ 16777216 := by unfold Sm at h; omega
  rw [lsr1_1 h' (sm_ints h), Int.toNat_natCast, rangeD_g]
  rfl
theorem lsr2_ab {a b : Int} (h : ints62 a = true) (h2 : ints62 b = true) (h3 : b - a ≤ 16777216) : lsr2V (.dat (.int a)) (.dat (.int b)) = some (.fr (lO (iA a) (List.range (b - a).toNat))) := by
  show (if b - a ≤ 16777216 ∧ ints62 a = true ∧ ints62 b = true then _ else _) = _
  rw [if_pos ⟨h3, h, h2⟩, rangeD_a]
  rfl
theorem lrv_g : lrvV (.dat (lD f xs)) = some (.fr (lO f xs.reverse)) := by
  show some (RV.fr (.l (xs.map f).reverse)) = _
  rw [← List.map_reverse]
  rfl
theorem lrv_gf : lrvV (.fr (lO f xs)) = some (.fr (lO f xs.reverse)) := lrv_g (f := f) (xs := xs)
theorem lrv_gb : lrvV (.br (lO f xs)) = some (.fr (lO f xs.reverse)) := lrv_g (f := f) (xs := xs)
def rvrU (x : EvR) : Ans (List D) := bindR x fun x => optR (rvrV x)
theorem es_revR {a : IE} : evSrc C (.revR a) ρ = rvrU (evE C a ρ) := by rw [evSrc]; rfl
theorem ef_revR {a : IE} {js : List Nat} : evFor C (.revR a) js ρ = rvrU (evE C a ρ) := by
  show evSrc C (.revR a) ρ = _
  rw [es_revR]
theorem rvr_1 {n : Int} (h : ints62 n = true) : rvrU (some (.ok (.dat (.int n)))) = some (.ok (rangeD 0 n.toNat).reverse) := by
  show optR (if ints62 n = true then _ else _) = _
  rw [if_pos h]
  rfl
theorem rvr_g {n : Nat} (h : Sm n) : rvrU (some (.ok (.dat (.int (n : Nat))))) = some (.ok (mL iN (List.range n).reverse)) := by
  rw [rvr_1 (sm_ints h), Int.toNat_natCast, rangeD_g]
  unfold mL
  rw [List.map_reverse]
theorem max_2 {i j : Int} : biV .max [.dat (.int i), .dat (.int j)] = some (.dat (.int (if j > i then j else i))) := rfl
theorem min_2 {i j : Int} : biV .min [.dat (.int i), .dat (.int j)] = some (.dat (.int (if j < i then j else i))) := rfl
theorem ev_cntT {a : IE} : evE C (.cntT a) ρ = u1 cntV (evE C a ρ) := by rw [evE]; rfl
theorem ev_idxT {a : IE} : evE C (.idxT a) ρ = u1 idxV (evE C a ρ) := by rw [evE]; rfl
def popS (i : Nat) (ρ : Rho) (s : Option (Option LV)) (x : EvR) : SR := match s with
  | some (some (.own (.tT ks vs))) => liftS x ρ fun j => popX i ρ ks vs j
  | _ => none
theorem rs_popD {i : Nat} {e : IE} : runS C (.popD i e) ρ = popS i ρ ρ[i]? (evE C e ρ) := by
  rw [runS] <;> rfl
end
end DE

set_option Elab.async false
set_option linter.all false
set_option maxRecDepth 100000
set_option maxHeartbeats 4000000
/-! DE18: sums as shut dicts; the number of a list of entries at a place; rows by their numbers. -/
namespace DE
open PySem L2
/-! ### dicts of sums -/
def NdA (as : List Ent) : Prop := (as.map (·.1)).Nodup
section
variable {C : Cfg} {ρ : Rho}
theorem dO_nil : OV.tT [] [] = dO [] := rfl
theorem get_dO {as : List Ent} {p : Pl} : getU (some (.ok (.br (dO as)))) (some (.ok (.dat (pD p)))) (some (.ok (.dat (.int 0)))) = some (.ok (.dat (.int ((getA as p).getD 0)))) := by
  unfold dO
  rw [get_br, get_A]
  rfl
theorem get_dD {as : List Ent} {p : Pl} {n : Int} : getU (some (.ok (.dat (dD as)))) (some (.ok (.dat (pD p)))) (some (.ok (.dat (.int n)))) = some (.ok (.dat (.int ((getA as p).getD n)))) := by
  unfold dD
  rw [get_dat]
  have e : dictV (.dat (.dicT (ksA as) (vsA as))) (pD p) = some ((getA as p).map D.int) := by
    show (match some (ksA as), tkeyOf (pD p) with
      | some ks, some q => some (dget ks (vsA as) q)
      | _, _ => _) = _
    rw [tkeyOf_pD]
    show some (dget (ksA as) (vsA as) (kI p)) = _
    rw [dget_A]
  show optR (match dictV (.dat (.dicT (ksA as) (vsA as))) (pD p) with
    | some (some v) => some (RV.dat v)
    | some none => some (.dat (.int n))
    | none => none) = _
  rw [e]
  cases getA as p with
  | none => rfl
  | some v => rfl
theorem put_dO {i : Nat} {as : List Ent} {p : Pl} {n : Int} (nd : NdA as) (hl : Sm as.length) : putX i ρ (.int n) (dO as) (.dat (pD p)) = some (.nx (ρ.set i (some (.own (dO (putA as p n)))))) := by
  unfold dO
  exact putD_A nd (Nat.lt_of_le_of_lt hl (by decide))
theorem sort_dO {as : List Ent} (h : ∀ p ∈ as.map (·.1), p ≠ []) : biV .sorted [.br (dO as)] = some (.fr (lO pD (sortP (as.map (·.1))))) := sorted_A rfl h
theorem sort_dD {as : List Ent} (h : ∀ p ∈ as.map (·.1), p ≠ []) : biV .sorted [.dat (dD as)] = some (.fr (lO pD (sortP (as.map (·.1))))) := sorted_A rfl h
theorem ix_dO {as : List Ent} {p : Pl} {n : Int} (h : getA as p = some n) : ixW (.br (dO as)) (.dat (pD p)) = some (.dat (.int n)) := dix_A rfl rfl rfl h
theorem ix_dD {as : List Ent} {p : Pl} {n : Int} (h : getA as p = some n) : ixW (.dat (dD as)) (.dat (pD p)) = some (.dat (.int n)) := dix_A rfl rfl rfl h
/-- a row out of sums -/
theorem lc_row {T : D → Ans (Option D)} {as : List Ent} (hz : Sm as.length) (h : ∀ p n, getA as p = some n → T (pD p) = some (.ok (if (!decide (n = 0)) = true then some (eD (p, n)) else none))) : lcU (some (.ok (mL pD (sortP (as.map (·.1)))))) T = some (.ok (.fr (rO (rowOf as)))) := by
  rw [lc_fil (f := pD) (g := eD) (k := fun p => (p, (getA as p).getD 0)) (c := fun p => !decide ((getA as p).getD 0 = 0)) (by unfold sortP; rw [List.length_mergeSort, List.length_map]; exact hz) fun p hp => by
    obtain ⟨n, hn⟩ := get_mem (sortP_mem.mp hp)
    rw [h p n hn, hn]
    rfl]
  congr 4
  unfold rowOf
  rw [← List.filterMap_eq_map, List.filterMap_filter]
  congr 1
  funext p
  by_cases z : (getA as p).getD 0 = 0
  · rw [if_pos z, if_neg (by simp [z])]
  · rw [if_neg z, if_pos (by simp [z])]
    rfl
theorem mL_app {α : Type} {f : α → D} {a b : List α} : mL f (a ++ b) = mL f a ++ mL f b := List.map_append
theorem mL_nil {α : Type} {f : α → D} : mL f [] = [] := rfl
theorem mL_cons {α : Type} {f : α → D} {a : α} {b : List α} : mL f (a :: b) = f a :: mL f b := rfl
theorem mL_one {α : Type} {f : α → D} {a : α} : mL f [a] = [f a] := rfl
/-- a loop by what holds of its slots -/
theorem for_rel {α : Type} {f : α → D} {xs : List α} {step : D → Rho → SR} {ρ : Rho} (P : Nat → Rho → Prop) (h : P 0 ρ) (hs : ∀ i x ρ, xs[i]? = some x → P i ρ → ∃ ρ', step (f x) ρ = some (.nx ρ') ∧ P (i + 1) ρ') : ∃ ρ', forL step (mL f xs) ρ = some (.nx ρ') ∧ P xs.length ρ' := by
  have := forL_inv (step := step) (P := P) (ds := mL f xs) h fun i d ρ e p => by
    unfold mL at e
    rw [List.getElem?_map] at e
    cases q : xs[i]? with
    | none => rw [q] at e; cases e
    | some x =>
      rw [q] at e
      cases e
      obtain ⟨ρ', h1, h2⟩ := hs i x ρ q p
      exact ⟨ρ', .inl h1, h2⟩
  unfold mL at this
  rw [List.length_map] at this
  exact this
/-- a sum's loop -/
theorem sum_for {step : D → Rho → SR} {ρ : Rho} {es : List Ent} {R : List Ent → Rho} (hρ : ρ = R []) (hl : Sm es.length) (h : ∀ as e, NdA as → Sm as.length → step (eD e) (R as) = some (.nx (R (putA as e.1 ((getA as e.1).getD 0 + e.2))))) : forL step (mL eD es) ρ = some (.nx (R (sumA es))) := by
  have := for_inv (f := eD) (xs := es) (step := step) (ρ := ρ) R (fun as e => putA as e.1 ((getA as e.1).getD 0 + e.2)) (fun pre as => as = sumA pre ∧ pre.length ≤ es.length) [] hρ ⟨rfl, Nat.zero_le _⟩ fun as pre e post he ⟨hi, hn⟩ => by
    subst hi
    have hlen : pre.length + 1 ≤ es.length := by rw [he, List.length_append, List.length_cons]; omega
    refine ⟨h _ e (sumA_nodup pre) (Nat.le_trans (sumA_len pre) (Nat.le_trans hn hl)), ?_, by rw [List.length_append, List.length_singleton]; exact hlen⟩
    rw [sumA_snoc]
  rw [this.1, this.2.1]
end
/-! ### dict comprehensions -/
def dcU (ds : Ans (List D)) (step : D → Ans (Option (D × D))) : EvR := bindR ds fun ds => bindR (optR (szV ds)) fun ds => bindR (dcL step ds [] []) fun o => some (.ok (.fr o))
theorem ev_dc {C : Cfg} {ρ : Rho} {kx vx : IE} {g : Tg} {src : ISrc} {ifs : IO} : evE C (.dc kx vx g src ifs) ρ = dcU (evSrc C src ρ) (turnD g (evIf C ifs) (evE C kx) (evE C vx) ρ) := by rw [evE]; rfl
def tsD (k : Ans Bool) (x y : EvR) : Ans (Option (D × D)) := bindR k fun k => match k with
  | true => bindR x fun x => bindR y fun y => match pairV x y with
    | some p => some (.ok (some p))
    | none => none
  | false => some (.ok none)
def turnDM (o : Option Rho) (fi : Rho → Ans Bool) (fk fv : Rho → EvR) : Ans (Option (D × D)) := match o with
  | some ρ' => tsD (fi ρ') (fk ρ') (fv ρ')
  | none => none
theorem turn_d {ρ : Rho} {t : Tg} {fi : Rho → Ans Bool} {fk fv : Rho → EvR} {d : D} : turnD t fi fk fv ρ d = turnDM (setG t d ρ) fi fk fv := by
  unfold turnD turnDM
  cases setG t d ρ with
  | none => rfl
  | some ρ' => rfl
theorem turnDM_s {ρ' : Rho} {fi : Rho → Ans Bool} {fk fv : Rho → EvR} : turnDM (some ρ') fi fk fv = tsD (fi ρ') (fk ρ') (fv ρ') := rfl
theorem tsD_d {k v : D} : tsD (some (.ok true)) (some (.ok (.dat k))) (some (.ok (.dat v))) = some (.ok (some (k, v))) := rfl
theorem dcL_row {T : D → Ans (Option (D × D))} : ∀ (es as : List Ent), NdA (as ++ es) → (∀ e ∈ es, T (eD e) = some (.ok (some (pD e.1, .int e.2)))) → dcL T (mL eD es) (ksA as) (vsA as) = some (.ok (dO (as ++ es)))
  | [], as, _, _ => by rw [List.append_nil]; rfl
  | e :: es, as, nd, h => by
    have nd2 : NdA ((as ++ [e]) ++ es) := by rw [List.append_assoc]; exact nd
    have hn : getA as e.1 = none := getA_none fun z => by
      unfold NdA at nd
      rw [List.map_append, List.nodup_append] at nd
      exact nd.2.2 _ z _ (by simp) rfl
    have step : dcL T (mL eD (e :: es)) (ksA as) (vsA as) = dcL T (mL eD es) (ksA (as ++ [e])) (vsA (as ++ [e])) := by
      show dcL T (eD e :: mL eD es) _ _ = _
      conv => lhs; unfold dcL
      rw [h e List.mem_cons_self]
      show (match tkeyOf (pD e.1) with
        | some q => if hasK (ksA as) q = true then dcL T (mL eD es) (ksA as) (dputV (ksA as) (vsA as) q (D.int e.2)) else dcL T (mL eD es) (ksA as ++ [q]) (vsA as ++ [D.int e.2])
        | none => none) = _
      rw [tkeyOf_pD]
      show (if hasK (ksA as) (kI e.1) = true then _ else _) = _
      rw [hasK_A, hn, if_neg (by decide)]
      unfold ksA vsA
      rw [List.map_append, List.map_append]
      rfl
    rw [step, dcL_row es (as ++ [e]) nd2 fun x hx => h x (List.mem_cons_of_mem _ hx), List.append_assoc]
    rfl
theorem dc_row {T : D → Ans (Option (D × D))} {es : List Ent} (hz : Sm es.length) (nd : NdA es) (h : ∀ e ∈ es, T (eD e) = some (.ok (some (pD e.1, .int e.2)))) : dcU (some (.ok (mL eD es))) T = some (.ok (.fr (dO es))) := by
  have e : szV (mL eD es) = some (mL eD es) := by unfold szV; rw [if_pos (by unfold mL; rw [List.length_map]; exact Nat.le_trans hz (by decide))]
  show bindR (optR (szV (mL eD es))) _ = _
  rw [e]
  show bindR (dcL T (mL eD es) (ksA []) (vsA [])) _ = _
  rw [dcL_row es [] nd h]
  rfl
/-! ### the number at a place -/
def cof : List Ent → Pl → Int
  | [], _ => 0
  | e :: r, p => (if e.1 = p then e.2 else 0) + cof r p
theorem cof_app (a b : List Ent) (p : Pl) : cof (a ++ b) p = cof a p + cof b p := by
  induction a with
  | nil => show cof b p = 0 + cof b p; omega
  | cons e a ih =>
    show (if e.1 = p then e.2 else 0) + cof (a ++ b) p = (if e.1 = p then e.2 else 0) + cof a p + cof b p
    rw [ih]
    omega
theorem cof_perm {a b : List Ent} (h : a.Perm b) (p : Pl) : cof a p = cof b p := by
  induction h with
  | nil => rfl
  | cons x _ ih => show _ + cof _ p = _ + cof _ p; rw [ih]
  | swap x y l =>
    show (if y.1 = p then y.2 else 0) + ((if x.1 = p then x.2 else 0) + cof l p) = (if x.1 = p then x.2 else 0) + ((if y.1 = p then y.2 else 0) + cof l p)
    omega
  | trans _ _ h1 h2 => rw [h1, h2]
theorem cof_none {a : List Ent} {p : Pl} (h : p ∉ a.map (·.1)) : cof a p = 0 := by
  induction a with
  | nil => rfl
  | cons e a ih =>
    rw [List.map_cons, List.mem_cons, not_or] at h
    show (if e.1 = p then e.2 else 0) + cof a p = 0
    rw [if_neg (fun z => h.1 z.symm), ih h.2]
    rfl
theorem cof_get {a : List Ent} (nd : NdA a) (p : Pl) : cof a p = (getA a p).getD 0 := by
  induction a with
  | nil => rfl
  | cons e a ih =>
    have nd' : (e.1 :: a.map (·.1)).Nodup := nd
    rw [List.nodup_cons] at nd'
    show (if e.1 = p then e.2 else 0) + cof a p = (if e.1 = p then some e.2 else getA a p).getD 0
    by_cases h : e.1 = p
    · rw [if_pos h, if_pos h, cof_none (by rw [← h]; exact nd'.1)]
      show e.2 + 0 = e.2
      omega
    · rw [if_neg h, if_neg h, ih nd'.2]
      omega
theorem getA_put (as : List Ent) (p q : Pl) (n : Int) : getA (putA as p n) q = if p = q then some n else getA as q := by
  induction as with
  | nil => rfl
  | cons e r ih =>
    unfold putA
    by_cases h : e.1 = p
    · rw [if_pos h]
      show (if e.1 = q then some n else getA r q) = if p = q then some n else (if e.1 = q then some e.2 else getA r q)
      rw [h]
      by_cases hq : p = q
      · rw [if_pos hq, if_pos hq]
      · rw [if_neg hq, if_neg hq, if_neg hq]
    · rw [if_neg h]
      show (if e.1 = q then some e.2 else getA (putA r p n) q) = if p = q then some n else (if e.1 = q then some e.2 else getA r q)
      rw [ih]
      by_cases hq : e.1 = q
      · rw [if_pos hq, if_pos hq]
        by_cases hpq : p = q
        · exact absurd (hq.trans hpq.symm) h
        · rw [if_neg hpq]
      · rw [if_neg hq, if_neg hq]
theorem sumA_get : ∀ (es : List Ent) (p : Pl), (getA (sumA es) p).getD 0 = cof es p := fun es p => by
  revert p
  refine snoc_ind (p := fun es => ∀ p, (getA (sumA es) p).getD 0 = cof es p) (fun _ => rfl) (fun l a ih p => ?_) es
  rw [sumA_snoc, getA_put, cof_app]
  show _ = cof l p + ((if a.1 = p then a.2 else 0) + 0)
  by_cases h : a.1 = p
  · rw [if_pos h, if_pos h, ih, ← h]
    show cof l a.1 + a.2 = _
    omega
  · rw [if_neg h, if_neg h, ih]
    omega
/-- the row of a list of entries -/
def nf (es : List Ent) : List Ent := rowOf (sumA es)
/-- entries in order, none with the number 0 -/
structure Srt (es : List Ent) : Prop where
  ord : es.Pairwise fun a b => a.1 < b.1
  nz : ∀ e ∈ es, e.2 ≠ 0
theorem sumA_has {es : List Ent} {p : Pl} (h : cof es p ≠ 0) : p ∈ (sumA es).map (·.1) := by
  refine Classical.byContradiction fun z => h ?_
  rw [← sumA_get, getA_none z]
  rfl
theorem nf_mem {es : List Ent} {e : Ent} : e ∈ nf es ↔ e.2 = cof es e.1 ∧ e.2 ≠ 0 := by
  unfold nf rowOf
  rw [List.mem_filterMap]
  constructor
  · rintro ⟨p, hp, h⟩
    rw [sumA_get] at h
    split at h
    · cases h
    · rename_i z
      cases h
      exact ⟨rfl, z⟩
  · rintro ⟨h1, h2⟩
    refine ⟨e.1, sortP_mem.mpr (sumA_has (by rw [← h1]; exact h2)), ?_⟩
    rw [sumA_get, if_neg (by rw [← h1]; exact h2), ← h1]
theorem nf_srt (es : List Ent) : Srt (nf es) := ⟨rowOf_pw (sumA_nodup es), fun e h => (nf_mem.mp h).2⟩
theorem Srt.nd {es : List Ent} (h : Srt es) : NdA es := nodup_pw h.ord
theorem Srt.tail {e : Ent} {es : List Ent} (h : Srt (e :: es)) : Srt es := ⟨(List.pairwise_cons.mp h.ord).2, fun x hx => h.nz x (List.mem_cons_of_mem _ hx)⟩
theorem Srt.mem {es : List Ent} (h : Srt es) {e : Ent} : e ∈ es ↔ e.2 = cof es e.1 ∧ e.2 ≠ 0 := by
  constructor
  · intro he
    refine ⟨?_, h.nz e he⟩
    rw [cof_get h.nd, getA_some h.nd he]
    rfl
  · rintro ⟨h1, h2⟩
    rw [cof_get h.nd] at h1
    have : ∀ {as : List Ent} {p : Pl} {n : Int}, getA as p = some n → (p, n) ∈ as := by
      intro as p n
      induction as with
      | nil => intro z; cases z
      | cons a r ih =>
        intro z
        unfold getA at z
        split at z
        · rename_i q
          cases z
          rw [← q]
          exact List.mem_cons_self
        · exact List.mem_cons_of_mem _ (ih z)
    cases q : getA es e.1 with
    | none => rw [q] at h1; exact absurd h1 h2
    | some n =>
      rw [q] at h1
      have h1 : e.2 = n := h1
      have := this q
      rw [← h1] at this
      exact this
theorem srt_ext : ∀ {a b : List Ent}, Srt a → Srt b → (∀ p, cof a p = cof b p) → a = b := by
  intro a b ha hb h
  have hm : ∀ e, e ∈ a ↔ e ∈ b := fun e => by rw [ha.mem, hb.mem, h]
  have key : ∀ {a b : List Ent}, a.Pairwise (fun x y : Ent => x.1 < y.1) → b.Pairwise (fun x y : Ent => x.1 < y.1) → (∀ e, e ∈ a ↔ e ∈ b) → a = b := by
    intro a
    induction a with
    | nil =>
      intro b _ _ h
      cases b with
      | nil => rfl
      | cons x b => exact absurd ((h x).mpr List.mem_cons_self) (by simp)
    | cons x a ih =>
      intro b h1 h2 h
      cases b with
      | nil => exact absurd ((h x).mp List.mem_cons_self) (by simp)
      | cons y b =>
        rw [List.pairwise_cons] at h1 h2
        have e : x = y := by
          rcases List.mem_cons.mp ((h x).mp List.mem_cons_self) with z | z
          · exact z
          · rcases List.mem_cons.mp ((h y).mpr List.mem_cons_self) with w | w
            · exact w.symm
            · exact absurd (List.lt_trans (h1.1 _ w) (h2.1 _ z)) (List.lt_irrefl _)
        subst e
        congr 1
        refine ih h1.2 h2.2 fun e => ⟨fun he => ?_, fun he => ?_⟩
        · rcases List.mem_cons.mp ((h e).mp (List.mem_cons_of_mem _ he)) with z | z
          · rw [z] at he
            exact absurd (h1.1 _ he) (List.lt_irrefl _)
          · exact z
        · rcases List.mem_cons.mp ((h e).mpr (List.mem_cons_of_mem _ he)) with z | z
          · rw [z] at he
            exact absurd (h2.1 _ he) (List.lt_irrefl _)
          · exact z
  exact key ha.ord hb.ord hm
theorem nf_cof (es : List Ent) (p : Pl) : cof (nf es) p = cof es p := by
  by_cases h : cof es p = 0
  · rw [h]
    refine cof_none fun z => ?_
    obtain ⟨e, he, rfl⟩ := List.mem_map.mp z
    obtain ⟨h1, h2⟩ := nf_mem.mp he
    rw [h] at h1
    exact h2 h1
  · have : (p, cof es p) ∈ nf es := nf_mem.mpr ⟨rfl, h⟩
    exact ((nf_srt es).mem.mp this).1.symm
theorem nf_of {a b : List Ent} (hb : Srt b) (h : ∀ p, cof a p = cof b p) : nf a = b := srt_ext (nf_srt a) hb fun p => by rw [nf_cof, h]
theorem nf_eq {a b : List Ent} (h : ∀ p, cof a p = cof b p) : nf a = nf b := nf_of (nf_srt b) fun p => by rw [nf_cof, h]
theorem nf_iff {a b : List Ent} : nf a = nf b ↔ ∀ p, cof a p = cof b p := ⟨fun h p => by rw [← nf_cof a, h, nf_cof], nf_eq⟩
theorem nf_self {a : List Ent} (h : Srt a) : nf a = a := nf_of h fun _ => rfl
theorem nf_nf (a : List Ent) : nf (nf a) = nf a := nf_self (nf_srt a)
theorem nf_perm {a b : List Ent} (h : a.Perm b) : nf a = nf b := nf_eq (cof_perm h)
theorem nf_app_l (a b : List Ent) : nf (nf a ++ b) = nf (a ++ b) := nf_eq fun p => by rw [cof_app, cof_app, nf_cof]
theorem nf_app_r (a b : List Ent) : nf (a ++ nf b) = nf (a ++ b) := nf_eq fun p => by rw [cof_app, cof_app, nf_cof]
theorem nf_nil : nf [] = [] := nf_self ⟨List.Pairwise.nil, fun _ h => nomatch h⟩
theorem srt_nil : Srt [] := ⟨List.Pairwise.nil, fun _ h => nomatch h⟩
theorem nf_key {es : List Ent} {e : Ent} (h : e ∈ nf es) : ∃ f ∈ es, f.1 = e.1 := by
  obtain ⟨h1, h2⟩ := nf_mem.mp h
  refine Classical.byContradiction fun z => h2 ?_
  rw [h1]
  refine cof_none fun q => z ?_
  obtain ⟨f, hf, e1⟩ := List.mem_map.mp q
  exact ⟨f, hf, e1⟩
theorem nf_len (es : List Ent) : (nf es).length ≤ es.length := by
  unfold nf rowOf
  refine Nat.le_trans (List.length_filterMap_le _ _) ?_
  unfold sortP
  rw [List.length_mergeSort, List.length_map]
  exact sumA_len es
/-! ### rows -/
/-- all places have s coordinates -/
def Dim (s : Nat) (es : List Ent) : Prop := ∀ e ∈ es, e.1.length = s
theorem dim_nil {s : Nat} : Dim s [] := fun _ h => nomatch h
theorem Dim.cons {s : Nat} {e : Ent} {es : List Ent} (h : e.1.length = s) (t : Dim s es) : Dim s (e :: es) := fun x hx => (List.mem_cons.mp hx).elim (fun z => z ▸ h) (t x)
theorem Dim.app {s : Nat} {a b : List Ent} (h : Dim s a) (t : Dim s b) : Dim s (a ++ b) := fun x hx => (List.mem_append.mp hx).elim (h x) (t x)
theorem Dim.nf {s : Nat} {es : List Ent} (h : Dim s es) : Dim s (nf es) := fun e he => by
  obtain ⟨f, hf, e1⟩ := nf_key he
  rw [← e1]
  exact h f hf
/-- a row in s directions -/
structure Row (s : Nat) (es : List Ent) : Prop extends Srt es where
  dim : Dim s es
  s1 : 1 ≤ s
  s3 : s ≤ 3
theorem Row.of_nf {s : Nat} {es : List Ent} (h : Dim s es) (h1 : 1 ≤ s) (h3 : s ≤ 3) : Row s (nf es) := ⟨nf_srt es, h.nf, h1, h3⟩
theorem row_nil {s : Nat} (h1 : 1 ≤ s) (h3 : s ≤ 3) : Row s [] := ⟨srt_nil, dim_nil, h1, h3⟩
theorem Row.nf {s : Nat} {es : List Ent} (h : Row s es) : DE.nf es = es := nf_self h.toSrt
theorem Row.ne {s : Nat} {es : List Ent} (h : Row s es) : ∀ e ∈ es, e.1 ≠ [] := fun e he z => by
  have := h.dim e he
  have := h.s1
  rw [z] at *
  simp at *
  omega
theorem Dim.ne {s : Nat} {es : List Ent} (h : Dim s es) (h1 : 1 ≤ s) : ∀ e ∈ es, e.1 ≠ [] := fun e he z => by
  have := h e he
  rw [z] at this
  simp at this
  omega
end DE

set_option Elab.async false
set_option linter.all false
set_option maxRecDepth 100000
set_option maxHeartbeats 4000000
/-! DE19: errors by name; the common dimension of rows. -/
namespace DE
open PySem L2
section
variable {C : Cfg} {ρ : Rho}
def eMix : Er := ⟨"MixedDimensions", ["word"], [.str "MixedDimensions"]⟩
def eZero : Er := ⟨"ZeroRow", ["word"], [.str "ZeroRow"]⟩
def eOne (n : Int) : Er := ⟨"OneDirectionOnly", ["dimension", "word"], [.int n, .str "OneDirectionOnly"]⟩
def eNaf (n : Int) : Er := ⟨"NotAFactor", ["index", "word"], [.int n, .str "NotAFactor"]⟩
def eBad (n : Int) : Er := ⟨"BadPlace", ["index", "word"], [.int n, .str "BadPlace"]⟩
def eSym (p : Pl) : Er := ⟨"NotSymmetric", ["place", "word"], [pD p, .str "NotSymmetric"]⟩
def eNoR : Er := ⟨"NoRoot", ["word"], [.str "NoRoot"]⟩
/-- an error as data -/
def xD (e : Er) : D := .exc e.c e.ns e.fs
theorem er_mix : erS (mkEr "MixedDimensions" [] "MixedDimensions") [] ρ = some (.er eMix ρ) := rfl
theorem er_zero : erS (mkEr "ZeroRow" [] "ZeroRow") [] ρ = some (.er eZero ρ) := rfl
theorem er_one {n : Int} : erS (mkEr "OneDirectionOnly" ["dimension"] "OneDirectionOnly") [.dat (.int n)] ρ = some (.er (eOne n) ρ) := rfl
theorem er_naf {n : Int} : erS (mkEr "NotAFactor" ["index"] "NotAFactor") [.dat (.int n)] ρ = some (.er (eNaf n) ρ) := rfl
theorem er_bad {n : Int} : erS (mkEr "BadPlace" ["index"] "BadPlace") [.dat (.int n)] ρ = some (.er (eBad n) ρ) := rfl
theorem er_sym {p : Pl} : erS (mkEr "NotSymmetric" ["place"] "NotSymmetric") [.dat (pD p)] ρ = some (.er (eSym p) ρ) := rfl
theorem er_nor : erS (mkEr "NoRoot" [] "NoRoot") [] ρ = some (.er eNoR ρ) := rfl
theorem c_mix : eMix.c = "MixedDimensions" := id rfl
theorem c_zero : eZero.c = "ZeroRow" := id rfl
theorem c_one {n : Int} : (eOne n).c = "OneDirectionOnly" := id rfl
theorem c_naf {n : Int} : (eNaf n).c = "NotAFactor" := id rfl
theorem c_bad {n : Int} : (eBad n).c = "BadPlace" := id rfl
theorem c_sym {p : Pl} : (eSym p).c = "NotSymmetric" := id rfl
theorem c_nor : eNoR.c = "NoRoot" := id rfl
theorem w_mix {fld : Str → Str → Bool} (h : fld "MixedDimensions" "word" = true) : attrV fld (.dat (xD eMix)) "word" = some (.dat (.str "MixedDimensions")) := attr_ok h rfl
theorem w_zero {fld : Str → Str → Bool} (h : fld "ZeroRow" "word" = true) : attrV fld (.dat (xD eZero)) "word" = some (.dat (.str "ZeroRow")) := attr_ok h rfl
theorem w_one {n : Int} {fld : Str → Str → Bool} (h : fld "OneDirectionOnly" "word" = true) : attrV fld (.dat (xD (eOne n))) "word" = some (.dat (.str "OneDirectionOnly")) := attr_ok h rfl
theorem w_naf {n : Int} {fld : Str → Str → Bool} (h : fld "NotAFactor" "word" = true) : attrV fld (.dat (xD (eNaf n))) "word" = some (.dat (.str "NotAFactor")) := attr_ok h rfl
theorem w_bad {n : Int} {fld : Str → Str → Bool} (h : fld "BadPlace" "word" = true) : attrV fld (.dat (xD (eBad n))) "word" = some (.dat (.str "BadPlace")) := attr_ok h rfl
theorem w_sym {p : Pl} {fld : Str → Str → Bool} (h : fld "NotSymmetric" "word" = true) : attrV fld (.dat (xD (eSym p))) "word" = some (.dat (.str "NotSymmetric")) := attr_ok h rfl
theorem w_nor {fld : Str → Str → Bool} (h : fld "NoRoot" "word" = true) : attrV fld (.dat (xD eNoR)) "word" = some (.dat (.str "NoRoot")) := attr_ok h rfl
theorem f_one {n : Int} {fld : Str → Str → Bool} (h : fld "OneDirectionOnly" "dimension" = true) : attrV fld (.dat (xD (eOne n))) "dimension" = some (.dat (.int n)) := attr_ok h rfl
theorem f_naf {n : Int} {fld : Str → Str → Bool} (h : fld "NotAFactor" "index" = true) : attrV fld (.dat (xD (eNaf n))) "index" = some (.dat (.int n)) := attr_ok h rfl
theorem f_bad {n : Int} {fld : Str → Str → Bool} (h : fld "BadPlace" "index" = true) : attrV fld (.dat (xD (eBad n))) "index" = some (.dat (.int n)) := attr_ok h rfl
theorem f_sym {p : Pl} {fld : Str → Str → Bool} (h : fld "NotSymmetric" "place" = true) : attrV fld (.dat (xD (eSym p))) "place" = some (.dat (pD p)) := attr_ok h rfl
theorem fs_mix : flatDs eMix.fs = true := id rfl
theorem fs_zero : flatDs eZero.fs = true := id rfl
theorem fs_one {n : Int} : flatDs (eOne n).fs = true := id rfl
theorem fs_naf {n : Int} : flatDs (eNaf n).fs = true := id rfl
theorem fs_bad {n : Int} : flatDs (eBad n).fs = true := id rfl
theorem fs_nor : flatDs eNoR.fs = true := id rfl
theorem fs_sym {p : Pl} : flatDs (eSym p).fs = true := by
  show (flatD (pD p) && (flatD (.str "NotSymmetric") && true)) = true
  rw [fl_p]
  rfl
theorem isi_e2 {isa : Str → Str → Option Bool} {e : Er} {x : Str} : isiV isa (.dat (xD e)) (.own x) = isa e.c x := rfl
theorem isa_hot : C.hot.isa = C.isa := id rfl
theorem fld_hot : C.hot.fld = C.fld := id rfl
theorem tri_e {e : Er} {c : Str} {i : Nat} {s : Rho → SR} (h : C.isa e.c c = some true) : triS C (some (.er e ρ)) c i s = endS i (s (ρ.set i (some (.dat (xD e))))) := tri_er h
theorem tri_bk {c : Str} {i : Nat} {s : Rho → SR} : triS C (some (.bk ρ)) c i s = some (.bk ρ) := rfl
theorem tri_ct {c : Str} {i : Nat} {s : Rho → SR} : triS C (some (.ct ρ)) c i s = some (.ct ρ) := rfl
theorem end_bl {i : Nat} {b : Bool} : endS i (some (.rt (.dat (.bl b)))) = some (.rt (.dat (.bl b))) := rfl
theorem end_int {i : Nat} {b : Int} : endS i (some (.rt (.dat (.int b)))) = some (.rt (.dat (.int b))) := rfl
theorem end_nx {i : Nat} (h : noExcR (ρ.set i none) = true) : endS i (some (.nx ρ)) = some (.nx (ρ.set i none)) := by
  show (if noExcR (ρ.set i none) = true then some (SO.nx (ρ.set i none)) else none) = _
  rw [if_pos h]
end
theorem li_1 {a0 : Int} : D.lst [.int a0] = lD D.int [a0] := rfl
theorem oi_1 {a0 : Int} : OV.l [.int a0] = lO D.int [a0] := rfl
theorem li_2 {a0 a1 : Int} : D.lst [.int a0, .int a1] = lD D.int [a0, a1] := rfl
theorem oi_2 {a0 a1 : Int} : OV.l [.int a0, .int a1] = lO D.int [a0, a1] := rfl
theorem li_3 {a0 a1 a2 : Int} : D.lst [.int a0, .int a1, .int a2] = lD D.int [a0, a1, a2] := rfl
theorem oi_3 {a0 a1 a2 : Int} : OV.l [.int a0, .int a1, .int a2] = lO D.int [a0, a1, a2] := rfl
theorem li_4 {a0 a1 a2 a3 : Int} : D.lst [.int a0, .int a1, .int a2, .int a3] = lD D.int [a0, a1, a2, a3] := rfl
theorem oi_4 {a0 a1 a2 a3 : Int} : OV.l [.int a0, .int a1, .int a2, .int a3] = lO D.int [a0, a1, a2, a3] := rfl
theorem li_5 {a0 a1 a2 a3 a4 : Int} : D.lst [.int a0, .int a1, .int a2, .int a3, .int a4] = lD D.int [a0, a1, a2, a3, a4] := rfl
theorem oi_5 {a0 a1 a2 a3 a4 : Int} : OV.l [.int a0, .int a1, .int a2, .int a3, .int a4] = lO D.int [a0, a1, a2, a3, a4] := rfl
theorem li_6 {a0 a1 a2 a3 a4 a5 : Int} : D.lst [.int a0, .int a1, .int a2, .int a3, .int a4, .int a5] = lD D.int [a0, a1, a2, a3, a4, a5] := rfl
theorem oi_6 {a0 a1 a2 a3 a4 a5 : Int} : OV.l [.int a0, .int a1, .int a2, .int a3, .int a4, .int a5] = lO D.int [a0, a1, a2, a3, a4, a5] := rfl
theorem li_7 {a0 a1 a2 a3 a4 a5 a6 : Int} : D.lst [.int a0, .int a1, .int a2, .int a3, .int a4, .int a5, .int a6] = lD D.int [a0, a1, a2, a3, a4, a5, a6] := rfl
theorem oi_7 {a0 a1 a2 a3 a4 a5 a6 : Int} : OV.l [.int a0, .int a1, .int a2, .int a3, .int a4, .int a5, .int a6] = lO D.int [a0, a1, a2, a3, a4, a5, a6] := rfl
theorem li_8 {a0 a1 a2 a3 a4 a5 a6 a7 : Int} : D.lst [.int a0, .int a1, .int a2, .int a3, .int a4, .int a5, .int a6, .int a7] = lD D.int [a0, a1, a2, a3, a4, a5, a6, a7] := rfl
theorem oi_8 {a0 a1 a2 a3 a4 a5 a6 a7 : Int} : OV.l [.int a0, .int a1, .int a2, .int a3, .int a4, .int a5, .int a6, .int a7] = lO D.int [a0, a1, a2, a3, a4, a5, a6, a7] := rfl
theorem li_9 {a0 a1 a2 a3 a4 a5 a6 a7 a8 : Int} : D.lst [.int a0, .int a1, .int a2, .int a3, .int a4, .int a5, .int a6, .int a7, .int a8] = lD D.int [a0, a1, a2, a3, a4, a5, a6, a7, a8] := rfl
theorem oi_9 {a0 a1 a2 a3 a4 a5 a6 a7 a8 : Int} : OV.l [.int a0, .int a1, .int a2, .int a3, .int a4, .int a5, .int a6, .int a7, .int a8] = lO D.int [a0, a1, a2, a3, a4, a5, a6, a7, a8] := rfl
theorem li_10 {a0 a1 a2 a3 a4 a5 a6 a7 a8 a9 : Int} : D.lst [.int a0, .int a1, .int a2, .int a3, .int a4, .int a5, .int a6, .int a7, .int a8, .int a9] = lD D.int [a0, a1, a2, a3, a4, a5, a6, a7, a8, a9] := rfl
theorem oi_10 {a0 a1 a2 a3 a4 a5 a6 a7 a8 a9 : Int} : OV.l [.int a0, .int a1, .int a2, .int a3, .int a4, .int a5, .int a6, .int a7, .int a8, .int a9] = lO D.int [a0, a1, a2, a3, a4, a5, a6, a7, a8, a9] := rfl
theorem li_11 {a0 a1 a2 a3 a4 a5 a6 a7 a8 a9 a10 : Int} : D.lst [.int a0, .int a1, .int a2, .int a3, .int a4, .int a5, .int a6, .int a7, .int a8, .int a9, .int a10] = lD D.int [a0, a1, a2, a3, a4, a5, a6, a7, a8, a9, a10] := rfl
theorem oi_11 {a0 a1 a2 a3 a4 a5 a6 a7 a8 a9 a10 : Int} : OV.l [.int a0, .int a1, .int a2, .int a3, .int a4, .int a5, .int a6, .int a7, .int a8, .int a9, .int a10] = lO D.int [a0, a1, a2, a3, a4, a5, a6, a7, a8, a9, a10] := rfl
theorem li_12 {a0 a1 a2 a3 a4 a5 a6 a7 a8 a9 a10 a11 : Int} : D.lst [.int a0, .int a1, .int a2, .int a3, .int a4, .int a5, .int a6, .int a7, .int a8, .int a9, .int a10, .int a11] = lD D.int [a0, a1, a2, a3, a4, a5, a6, a7, a8, a9, a10, a11] := rfl
theorem oi_12 {a0 a1 a2 a3 a4 a5 a6 a7 a8 a9 a10 a11 : Int} : OV.l [.int a0, .int a1, .int a2, .int a3, .int a4, .int a5, .int a6, .int a7, .int a8, .int a9, .int a10, .int a11] = lO D.int [a0, a1, a2, a3, a4, a5, a6, a7, a8, a9, a10, a11] := rfl
theorem li_13 {a0 a1 a2 a3 a4 a5 a6 a7 a8 a9 a10 a11 a12 : Int} : D.lst [.int a0, .int a1, .int a2, .int a3, .int a4, .int a5, .int a6, .int a7, .int a8, .int a9, .int a10, .int a11, .int a12] = lD D.int [a0, a1, a2, a3, a4, a5, a6, a7, a8, a9, a10, a11, a12] := rfl
theorem oi_13 {a0 a1 a2 a3 a4 a5 a6 a7 a8 a9 a10 a11 a12 : Int} : OV.l [.int a0, .int a1, .int a2, .int a3, .int a4, .int a5, .int a6, .int a7, .int a8, .int a9, .int a10, .int a11, .int a12] = lO D.int [a0, a1, a2, a3, a4, a5, a6, a7, a8, a9, a10, a11, a12] := rfl
theorem li_14 {a0 a1 a2 a3 a4 a5 a6 a7 a8 a9 a10 a11 a12 a13 : Int} : D.lst [.int a0, .int a1, .int a2, .int a3, .int a4, .int a5, .int a6, .int a7, .int a8, .int a9, .int a10, .int a11, .int a12, .int a13] = lD D.int [a0, a1, a2, a3, a4, a5, a6, a7, a8, a9, a10, a11, a12, a13] := rfl
theorem oi_14 {a0 a1 a2 a3 a4 a5 a6 a7 a8 a9 a10 a11 a12 a13 : Int} : OV.l [.int a0, .int a1, .int a2, .int a3, .int a4, .int a5, .int a6, .int a7, .int a8, .int a9, .int a10, .int a11, .int a12, .int a13] = lO D.int [a0, a1, a2, a3, a4, a5, a6, a7, a8, a9, a10, a11, a12, a13] := rfl
theorem li_15 {a0 a1 a2 a3 a4 a5 a6 a7 a8 a9 a10 a11 a12 a13 a14 : Int} : D.lst [.int a0, .int a1, .int a2, .int a3, .int a4, .int a5, .int a6, .int a7, .int a8, .int a9, .int a10, .int a11, .int a12, .int a13, .int a14] = lD D.int [a0, a1, a2, a3, a4, a5, a6, a7, a8, a9, a10, a11, a12, a13, a14] := rfl
theorem oi_15 {a0 a1 a2 a3 a4 a5 a6 a7 a8 a9 a10 a11 a12 a13 a14 : Int} : OV.l [.int a0, .int a1, .int a2, .int a3, .int a4, .int a5, .int a6, .int a7, .int a8, .int a9, .int a10, .int a11, .int a12, .int a13, .int a14] = lO D.int [a0, a1, a2, a3, a4, a5, a6, a7, a8, a9, a10, a11, a12, a13, a14] := rfl
theorem li_16 {a0 a1 a2 a3 a4 a5 a6 a7 a8 a9 a10 a11 a12 a13 a14 a15 : Int} : D.lst [.int a0, .int a1, .int a2, .int a3, .int a4, .int a5, .int a6, .int a7, .int a8, .int a9, .int a10, .int a11, .int a12, .int a13, .int a14, .int a15] = lD D.int [a0, a1, a2, a3, a4, a5, a6, a7, a8, a9, a10, a11, a12, a13, a14, a15] := rfl
theorem oi_16 {a0 a1 a2 a3 a4 a5 a6 a7 a8 a9 a10 a11 a12 a13 a14 a15 : Int} : OV.l [.int a0, .int a1, .int a2, .int a3, .int a4, .int a5, .int a6, .int a7, .int a8, .int a9, .int a10, .int a11, .int a12, .int a13, .int a14, .int a15] = lO D.int [a0, a1, a2, a3, a4, a5, a6, a7, a8, a9, a10, a11, a12, a13, a14, a15] := rfl
theorem rr1_l {a0 : List Ent} : D.lst [lD eD a0] = lD (lD eD) [a0] := rfl
theorem rr1_o {a0 : List Ent} : OV.l [lD eD a0] = lO (lD eD) [a0] := rfl
theorem pp1_l {a0 : Pl} : D.lst [pD a0] = lD pD [a0] := rfl
theorem pp1_o {a0 : Pl} : OV.l [pD a0] = lO pD [a0] := rfl
theorem ee1_l {a0 : Ent} : D.lst [eD a0] = lD eD [a0] := rfl
theorem ee1_o {a0 : Ent} : OV.l [eD a0] = lO eD [a0] := rfl
theorem rrr1_l {a0 : List (List Ent)} : D.lst [lD (lD eD) a0] = lD (lD (lD eD)) [a0] := rfl
theorem rrr1_o {a0 : List (List Ent)} : OV.l [lD (lD eD) a0] = lO (lD (lD eD)) [a0] := rfl
theorem rr2_l {a0 a1 : List Ent} : D.lst [lD eD a0, lD eD a1] = lD (lD eD) [a0, a1] := rfl
theorem rr2_o {a0 a1 : List Ent} : OV.l [lD eD a0, lD eD a1] = lO (lD eD) [a0, a1] := rfl
theorem pp2_l {a0 a1 : Pl} : D.lst [pD a0, pD a1] = lD pD [a0, a1] := rfl
theorem pp2_o {a0 a1 : Pl} : OV.l [pD a0, pD a1] = lO pD [a0, a1] := rfl
theorem ee2_l {a0 a1 : Ent} : D.lst [eD a0, eD a1] = lD eD [a0, a1] := rfl
theorem ee2_o {a0 a1 : Ent} : OV.l [eD a0, eD a1] = lO eD [a0, a1] := rfl
theorem rrr2_l {a0 a1 : List (List Ent)} : D.lst [lD (lD eD) a0, lD (lD eD) a1] = lD (lD (lD eD)) [a0, a1] := rfl
theorem rrr2_o {a0 a1 : List (List Ent)} : OV.l [lD (lD eD) a0, lD (lD eD) a1] = lO (lD (lD eD)) [a0, a1] := rfl
theorem rr3_l {a0 a1 a2 : List Ent} : D.lst [lD eD a0, lD eD a1, lD eD a2] = lD (lD eD) [a0, a1, a2] := rfl
theorem rr3_o {a0 a1 a2 : List Ent} : OV.l [lD eD a0, lD eD a1, lD eD a2] = lO (lD eD) [a0, a1, a2] := rfl
theorem pp3_l {a0 a1 a2 : Pl} : D.lst [pD a0, pD a1, pD a2] = lD pD [a0, a1, a2] := rfl
theorem pp3_o {a0 a1 a2 : Pl} : OV.l [pD a0, pD a1, pD a2] = lO pD [a0, a1, a2] := rfl
theorem ee3_l {a0 a1 a2 : Ent} : D.lst [eD a0, eD a1, eD a2] = lD eD [a0, a1, a2] := rfl
theorem ee3_o {a0 a1 a2 : Ent} : OV.l [eD a0, eD a1, eD a2] = lO eD [a0, a1, a2] := rfl
theorem rrr3_l {a0 a1 a2 : List (List Ent)} : D.lst [lD (lD eD) a0, lD (lD eD) a1, lD (lD eD) a2] = lD (lD (lD eD)) [a0, a1, a2] := rfl
theorem rrr3_o {a0 a1 a2 : List (List Ent)} : OV.l [lD (lD eD) a0, lD (lD eD) a1, lD (lD eD) a2] = lO (lD (lD eD)) [a0, a1, a2] := rfl
theorem rr4_l {a0 a1 a2 a3 : List Ent} : D.lst [lD eD a0, lD eD a1, lD eD a2, lD eD a3] = lD (lD eD) [a0, a1, a2, a3] := rfl
theorem rr4_o {a0 a1 a2 a3 : List Ent} : OV.l [lD eD a0, lD eD a1, lD eD a2, lD eD a3] = lO (lD eD) [a0, a1, a2, a3] := rfl
theorem pp4_l {a0 a1 a2 a3 : Pl} : D.lst [pD a0, pD a1, pD a2, pD a3] = lD pD [a0, a1, a2, a3] := rfl
theorem pp4_o {a0 a1 a2 a3 : Pl} : OV.l [pD a0, pD a1, pD a2, pD a3] = lO pD [a0, a1, a2, a3] := rfl
theorem ee4_l {a0 a1 a2 a3 : Ent} : D.lst [eD a0, eD a1, eD a2, eD a3] = lD eD [a0, a1, a2, a3] := rfl
theorem ee4_o {a0 a1 a2 a3 : Ent} : OV.l [eD a0, eD a1, eD a2, eD a3] = lO eD [a0, a1, a2, a3] := rfl
theorem rrr4_l {a0 a1 a2 a3 : List (List Ent)} : D.lst [lD (lD eD) a0, lD (lD eD) a1, lD (lD eD) a2, lD (lD eD) a3] = lD (lD (lD eD)) [a0, a1, a2, a3] := rfl
theorem rrr4_o {a0 a1 a2 a3 : List (List Ent)} : OV.l [lD (lD eD) a0, lD (lD eD) a1, lD (lD eD) a2, lD (lD eD) a3] = lO (lD (lD eD)) [a0, a1, a2, a3] := rfl
theorem jg_0 {α : Type} {f : α → D} {a0 : α} {r : List α} : ixW (.dat (lD f (a0 :: r))) (.dat (.int 0)) = some (.dat (f a0)) := ix_l (atI_get (by decide) rfl)
theorem jb_0 {α : Type} {f : α → D} {a0 : α} {r : List α} : ixW (.br (lO f (a0 :: r))) (.dat (.int 0)) = some (.dat (f a0)) := ix_b (atI_get (by decide) rfl)
theorem jg_1 {α : Type} {f : α → D} {a0 a1 : α} {r : List α} : ixW (.dat (lD f (a0 :: a1 :: r))) (.dat (.int 1)) = some (.dat (f a1)) := ix_l (atI_get (by decide) rfl)
theorem jb_1 {α : Type} {f : α → D} {a0 a1 : α} {r : List α} : ixW (.br (lO f (a0 :: a1 :: r))) (.dat (.int 1)) = some (.dat (f a1)) := ix_b (atI_get (by decide) rfl)
theorem jg_2 {α : Type} {f : α → D} {a0 a1 a2 : α} {r : List α} : ixW (.dat (lD f (a0 :: a1 :: a2 :: r))) (.dat (.int 2)) = some (.dat (f a2)) := ix_l (atI_get (by decide) rfl)
theorem jb_2 {α : Type} {f : α → D} {a0 a1 a2 : α} {r : List α} : ixW (.br (lO f (a0 :: a1 :: a2 :: r))) (.dat (.int 2)) = some (.dat (f a2)) := ix_b (atI_get (by decide) rfl)
theorem jg_3 {α : Type} {f : α → D} {a0 a1 a2 a3 : α} {r : List α} : ixW (.dat (lD f (a0 :: a1 :: a2 :: a3 :: r))) (.dat (.int 3)) = some (.dat (f a3)) := ix_l (atI_get (by decide) rfl)
theorem jb_3 {α : Type} {f : α → D} {a0 a1 a2 a3 : α} {r : List α} : ixW (.br (lO f (a0 :: a1 :: a2 :: a3 :: r))) (.dat (.int 3)) = some (.dat (f a3)) := ix_b (atI_get (by decide) rfl)
theorem jg_4 {α : Type} {f : α → D} {a0 a1 a2 a3 a4 : α} {r : List α} : ixW (.dat (lD f (a0 :: a1 :: a2 :: a3 :: a4 :: r))) (.dat (.int 4)) = some (.dat (f a4)) := ix_l (atI_get (by decide) rfl)
theorem jb_4 {α : Type} {f : α → D} {a0 a1 a2 a3 a4 : α} {r : List α} : ixW (.br (lO f (a0 :: a1 :: a2 :: a3 :: a4 :: r))) (.dat (.int 4)) = some (.dat (f a4)) := ix_b (atI_get (by decide) rfl)
theorem jg_5 {α : Type} {f : α → D} {a0 a1 a2 a3 a4 a5 : α} {r : List α} : ixW (.dat (lD f (a0 :: a1 :: a2 :: a3 :: a4 :: a5 :: r))) (.dat (.int 5)) = some (.dat (f a5)) := ix_l (atI_get (by decide) rfl)
theorem jb_5 {α : Type} {f : α → D} {a0 a1 a2 a3 a4 a5 : α} {r : List α} : ixW (.br (lO f (a0 :: a1 :: a2 :: a3 :: a4 :: a5 :: r))) (.dat (.int 5)) = some (.dat (f a5)) := ix_b (atI_get (by decide) rfl)
theorem jg_6 {α : Type} {f : α → D} {a0 a1 a2 a3 a4 a5 a6 : α} {r : List α} : ixW (.dat (lD f (a0 :: a1 :: a2 :: a3 :: a4 :: a5 :: a6 :: r))) (.dat (.int 6)) = some (.dat (f a6)) := ix_l (atI_get (by decide) rfl)
theorem jb_6 {α : Type} {f : α → D} {a0 a1 a2 a3 a4 a5 a6 : α} {r : List α} : ixW (.br (lO f (a0 :: a1 :: a2 :: a3 :: a4 :: a5 :: a6 :: r))) (.dat (.int 6)) = some (.dat (f a6)) := ix_b (atI_get (by decide) rfl)
theorem jg_7 {α : Type} {f : α → D} {a0 a1 a2 a3 a4 a5 a6 a7 : α} {r : List α} : ixW (.dat (lD f (a0 :: a1 :: a2 :: a3 :: a4 :: a5 :: a6 :: a7 :: r))) (.dat (.int 7)) = some (.dat (f a7)) := ix_l (atI_get (by decide) rfl)
theorem jb_7 {α : Type} {f : α → D} {a0 a1 a2 a3 a4 a5 a6 a7 : α} {r : List α} : ixW (.br (lO f (a0 :: a1 :: a2 :: a3 :: a4 :: a5 :: a6 :: a7 :: r))) (.dat (.int 7)) = some (.dat (f a7)) := ix_b (atI_get (by decide) rfl)
theorem jg_8 {α : Type} {f : α → D} {a0 a1 a2 a3 a4 a5 a6 a7 a8 : α} {r : List α} : ixW (.dat (lD f (a0 :: a1 :: a2 :: a3 :: a4 :: a5 :: a6 :: a7 :: a8 :: r))) (.dat (.int 8)) = some (.dat (f a8)) := ix_l (atI_get (by decide) rfl)
theorem jb_8 {α : Type} {f : α → D} {a0 a1 a2 a3 a4 a5 a6 a7 a8 : α} {r : List α} : ixW (.br (lO f (a0 :: a1 :: a2 :: a3 :: a4 :: a5 :: a6 :: a7 :: a8 :: r))) (.dat (.int 8)) = some (.dat (f a8)) := ix_b (atI_get (by decide) rfl)
theorem jg_9 {α : Type} {f : α → D} {a0 a1 a2 a3 a4 a5 a6 a7 a8 a9 : α} {r : List α} : ixW (.dat (lD f (a0 :: a1 :: a2 :: a3 :: a4 :: a5 :: a6 :: a7 :: a8 :: a9 :: r))) (.dat (.int 9)) = some (.dat (f a9)) := ix_l (atI_get (by decide) rfl)
theorem jb_9 {α : Type} {f : α → D} {a0 a1 a2 a3 a4 a5 a6 a7 a8 a9 : α} {r : List α} : ixW (.br (lO f (a0 :: a1 :: a2 :: a3 :: a4 :: a5 :: a6 :: a7 :: a8 :: a9 :: r))) (.dat (.int 9)) = some (.dat (f a9)) := ix_b (atI_get (by decide) rfl)
theorem jg_10 {α : Type} {f : α → D} {a0 a1 a2 a3 a4 a5 a6 a7 a8 a9 a10 : α} {r : List α} : ixW (.dat (lD f (a0 :: a1 :: a2 :: a3 :: a4 :: a5 :: a6 :: a7 :: a8 :: a9 :: a10 :: r))) (.dat (.int 10)) = some (.dat (f a10)) := ix_l (atI_get (by decide) rfl)
theorem jb_10 {α : Type} {f : α → D} {a0 a1 a2 a3 a4 a5 a6 a7 a8 a9 a10 : α} {r : List α} : ixW (.br (lO f (a0 :: a1 :: a2 :: a3 :: a4 :: a5 :: a6 :: a7 :: a8 :: a9 :: a10 :: r))) (.dat (.int 10)) = some (.dat (f a10)) := ix_b (atI_get (by decide) rfl)
theorem jg_11 {α : Type} {f : α → D} {a0 a1 a2 a3 a4 a5 a6 a7 a8 a9 a10 a11 : α} {r : List α} : ixW (.dat (lD f (a0 :: a1 :: a2 :: a3 :: a4 :: a5 :: a6 :: a7 :: a8 :: a9 :: a10 :: a11 :: r))) (.dat (.int 11)) = some (.dat (f a11)) := ix_l (atI_get (by decide) rfl)
theorem jb_11 {α : Type} {f : α → D} {a0 a1 a2 a3 a4 a5 a6 a7 a8 a9 a10 a11 : α} {r : List α} : ixW (.br (lO f (a0 :: a1 :: a2 :: a3 :: a4 :: a5 :: a6 :: a7 :: a8 :: a9 :: a10 :: a11 :: r))) (.dat (.int 11)) = some (.dat (f a11)) := ix_b (atI_get (by decide) rfl)
theorem jg_12 {α : Type} {f : α → D} {a0 a1 a2 a3 a4 a5 a6 a7 a8 a9 a10 a11 a12 : α} {r : List α} : ixW (.dat (lD f (a0 :: a1 :: a2 :: a3 :: a4 :: a5 :: a6 :: a7 :: a8 :: a9 :: a10 :: a11 :: a12 :: r))) (.dat (.int 12)) = some (.dat (f a12)) := ix_l (atI_get (by decide) rfl)
theorem jb_12 {α : Type} {f : α → D} {a0 a1 a2 a3 a4 a5 a6 a7 a8 a9 a10 a11 a12 : α} {r : List α} : ixW (.br (lO f (a0 :: a1 :: a2 :: a3 :: a4 :: a5 :: a6 :: a7 :: a8 :: a9 :: a10 :: a11 :: a12 :: r))) (.dat (.int 12)) = some (.dat (f a12)) := ix_b (atI_get (by decide) rfl)
theorem jg_13 {α : Type} {f : α → D} {a0 a1 a2 a3 a4 a5 a6 a7 a8 a9 a10 a11 a12 a13 : α} {r : List α} : ixW (.dat (lD f (a0 :: a1 :: a2 :: a3 :: a4 :: a5 :: a6 :: a7 :: a8 :: a9 :: a10 :: a11 :: a12 :: a13 :: r))) (.dat (.int 13)) = some (.dat (f a13)) := ix_l (atI_get (by decide) rfl)
theorem jb_13 {α : Type} {f : α → D} {a0 a1 a2 a3 a4 a5 a6 a7 a8 a9 a10 a11 a12 a13 : α} {r : List α} : ixW (.br (lO f (a0 :: a1 :: a2 :: a3 :: a4 :: a5 :: a6 :: a7 :: a8 :: a9 :: a10 :: a11 :: a12 :: a13 :: r))) (.dat (.int 13)) = some (.dat (f a13)) := ix_b (atI_get (by decide) rfl)
theorem jg_14 {α : Type} {f : α → D} {a0 a1 a2 a3 a4 a5 a6 a7 a8 a9 a10 a11 a12 a13 a14 : α} {r : List α} : ixW (.dat (lD f (a0 :: a1 :: a2 :: a3 :: a4 :: a5 :: a6 :: a7 :: a8 :: a9 :: a10 :: a11 :: a12 :: a13 :: a14 :: r))) (.dat (.int 14)) = some (.dat (f a14)) := ix_l (atI_get (by decide) rfl)
theorem jb_14 {α : Type} {f : α → D} {a0 a1 a2 a3 a4 a5 a6 a7 a8 a9 a10 a11 a12 a13 a14 : α} {r : List α} : ixW (.br (lO f (a0 :: a1 :: a2 :: a3 :: a4 :: a5 :: a6 :: a7 :: a8 :: a9 :: a10 :: a11 :: a12 :: a13 :: a14 :: r))) (.dat (.int 14)) = some (.dat (f a14)) := ix_b (atI_get (by decide) rfl)
theorem jg_15 {α : Type} {f : α → D} {a0 a1 a2 a3 a4 a5 a6 a7 a8 a9 a10 a11 a12 a13 a14 a15 : α} {r : List α} : ixW (.dat (lD f (a0 :: a1 :: a2 :: a3 :: a4 :: a5 :: a6 :: a7 :: a8 :: a9 :: a10 :: a11 :: a12 :: a13 :: a14 :: a15 :: r))) (.dat (.int 15)) = some (.dat (f a15)) := ix_l (atI_get (by decide) rfl)
theorem jb_15 {α : Type} {f : α → D} {a0 a1 a2 a3 a4 a5 a6 a7 a8 a9 a10 a11 a12 a13 a14 a15 : α} {r : List α} : ixW (.br (lO f (a0 :: a1 :: a2 :: a3 :: a4 :: a5 :: a6 :: a7 :: a8 :: a9 :: a10 :: a11 :: a12 :: a13 :: a14 :: a15 :: r))) (.dat (.int 15)) = some (.dat (f a15)) := ix_b (atI_get (by decide) rfl)
/-! ### slices -/
def cutG {α : Type} (xs : List α) (lo hi : Option Int) : List α := (xs.drop (HT.sIx xs.length 0 lo)).take (HT.sIx xs.length xs.length hi - HT.sIx xs.length 0 lo)
theorem cutD_g {α : Type} (f : α → D) (xs : List α) (lo hi : Option Int) : cutD (xs.map f) lo hi = (cutG xs lo hi).map f := by
  unfold cutD cutG
  rw [List.length_map, List.map_take, List.map_drop]
theorem sl_p {p : Pl} {lo hi : Option Int} : slV (.dat (pD p)) lo hi = some (.dat (pD (cutG p lo hi))) := by
  show some (RV.dat (.tup (cutD (p.map D.int) lo hi))) = _
  rw [cutD_g]
  rfl
theorem sl_g {α : Type} {f : α → D} {xs : List α} {lo hi : Option Int} : slV (.dat (lD f xs)) lo hi = some (.fr (lO f (cutG xs lo hi))) := by
  show some (RV.fr (.l (cutD (xs.map f) lo hi))) = _
  rw [cutD_g]
  rfl
theorem sl_gf {α : Type} {f : α → D} {xs : List α} {lo hi : Option Int} : slV (.fr (lO f xs)) lo hi = some (.fr (lO f (cutG xs lo hi))) := by
  show some (RV.fr (.l (cutD (xs.map f) lo hi))) = _
  rw [cutD_g]
  rfl
theorem sl_gb {α : Type} {f : α → D} {xs : List α} {lo hi : Option Int} : slV (.br (lO f xs)) lo hi = some (.fr (lO f (cutG xs lo hi))) := by
  show some (RV.fr (.l (cutD (xs.map f) lo hi))) = _
  rw [cutD_g]
  rfl
theorem cut_hi {α : Type} (xs : List α) (n : Nat) : cutG xs none (some (n : Int)) = xs.take n := by
  unfold cutG
  rw [HT.sIx_nat, HT.sIx_none, List.drop_zero, Nat.sub_zero]
  by_cases h : n ≤ xs.length
  · rw [Nat.min_eq_left h]
  · rw [List.take_of_length_le (by omega), List.take_of_length_le (by omega)]
theorem cut_lo {α : Type} (xs : List α) (n : Nat) : cutG xs (some (n : Int)) none = xs.drop n := by
  unfold cutG
  rw [HT.sIx_nat, HT.sIx_none]
  by_cases h : n ≤ xs.length
  · rw [Nat.min_eq_left h, List.take_of_length_le (by rw [List.length_drop]; omega)]
  · rw [List.drop_eq_nil_of_le (by omega), List.drop_eq_nil_of_le (by omega), List.take_nil]
theorem cut_init {α : Type} (xs : List α) (x : α) : cutG (xs ++ [x]) none (some (-1)) = xs := by
  have q : cutG (xs ++ [x]) none (some (-1)) = (xs ++ [x]).take (-1 + (((xs ++ [x]).length : Nat) : Int)).toNat := rfl
  rw [q]
  have e : (-1 + (((xs ++ [x]).length : Nat) : Int)).toNat = xs.length := by rw [List.length_append, List.length_singleton]; omega
  rw [e, List.take_left']
  rfl
theorem cut_1 {α : Type} (x : α) (xs : List α) : cutG (x :: xs) (some 1) none = xs := cut_lo (x :: xs) 1
/-! ### dimensions -/
def dimR : List Ent → Nat
  | [] => 0
  | e :: _ => e.1.length
def cdim : Nat → List (List Ent) → Option Nat
  | f, [] => some f
  | f, r :: rs => if r = [] then cdim f rs else if f ≠ 0 ∧ dimR r ≠ f then none else cdim (dimR r) rs
def cpd : Nat → List Pl → Option Nat
  | f, [] => some f
  | f, p :: ps => if f ≠ 0 ∧ p.length ≠ f then none else cpd p.length ps
def ansI (o : Option Nat) : EvR := match o with
  | some n => some (.ok (.dat (.int (n : Nat))))
  | none => some (.error eMix)
theorem dim_of {s : Nat} {e : Ent} {es : List Ent} (h : Dim s (e :: es)) : dimR (e :: es) = s := h e List.mem_cons_self
theorem cdim_all {s : Nat} : ∀ {rs : List (List Ent)} {f : Nat}, (f = 0 ∨ f = s) → (∀ r ∈ rs, Dim s r) → ∃ n, cdim f rs = some n ∧ (n = f ∨ n = s) ∧ (∀ r ∈ rs, r ≠ [] → n = s)
  | [], f, hf, _ => ⟨f, rfl, .inl rfl, fun r h => nomatch h⟩
  | r :: rs, f, hf, h => by
    unfold cdim
    have ht : ∀ r ∈ rs, Dim s r := fun x hx => h x (List.mem_cons_of_mem _ hx)
    by_cases hr : r = []
    · rw [if_pos hr]
      obtain ⟨n, h1, h2, h3⟩ := cdim_all hf ht
      exact ⟨n, h1, h2, fun x hx hn => (List.mem_cons.mp hx).elim (fun z => absurd (z.trans hr) hn) fun z => h3 x z hn⟩
    · rw [if_neg hr]
      have hd : dimR r = s := by
        cases r with
        | nil => exact absurd rfl hr
        | cons e es => exact dim_of (h _ List.mem_cons_self)
      rw [if_neg (by rintro ⟨a, b⟩; rcases hf with z | z <;> omega), hd]
      obtain ⟨n, h1, h2, h3⟩ := cdim_all (f := s) (.inr rfl) ht
      exact ⟨n, h1, .inr (h2.elim id id), fun _ _ _ => h2.elim id id⟩
end DE

set_option Elab.async false
set_option linter.all false
set_option maxRecDepth 100000
set_option maxHeartbeats 4000000
/-! DE20: rows scaled, negated, mirrored, moved; their corners. -/
namespace DE
open PySem L2
def sclE (es : List Ent) (k : Int) : List Ent := es.map fun e => (e.1, e.2 * k)
def negE (es : List Ent) : List Ent := es.map fun e => (e.1, -e.2)
def mirE (es : List Ent) : List Ent := es.map fun e => (negP e.1, e.2)
def movE (es : List Ent) (q : Pl) : List Ent := es.map fun e => (addP e.1 q, e.2)
theorem sclE_len {es : List Ent} {k : Int} : (sclE es k).length = es.length := List.length_map _
theorem negE_len {es : List Ent} : (negE es).length = es.length := List.length_map _
theorem mirE_len {es : List Ent} : (mirE es).length = es.length := List.length_map _
theorem movE_len {es : List Ent} {q : Pl} : (movE es q).length = es.length := List.length_map _
theorem Dim.scl {s : Nat} {es : List Ent} {k : Int} (h : Dim s es) : Dim s (sclE es k) := fun e he => by
  obtain ⟨f, hf, rfl⟩ := List.mem_map.mp he
  exact h f hf
theorem Dim.neg {s : Nat} {es : List Ent} (h : Dim s es) : Dim s (negE es) := fun e he => by
  obtain ⟨f, hf, rfl⟩ := List.mem_map.mp he
  exact h f hf
theorem negP_len (p : Pl) : (negP p).length = p.length := by unfold negP; rw [List.length_map]
theorem Dim.mir {s : Nat} {es : List Ent} (h : Dim s es) : Dim s (mirE es) := fun e he => by
  obtain ⟨f, hf, rfl⟩ := List.mem_map.mp he
  show (negP f.1).length = s
  rw [negP_len]
  exact h f hf
theorem Dim.mov {s : Nat} {es : List Ent} {q : Pl} (h : Dim s es) (hq : q.length = s) : Dim s (movE es q) := fun e he => by
  obtain ⟨f, hf, rfl⟩ := List.mem_map.mp he
  show (addP f.1 q).length = s
  rw [addP_len (by rw [h f hf, hq])]
  exact h f hf
def colI (es : List Ent) (i : Nat) : List Int := es.map fun e => e.1.getD i 0
def lowP (es : List Ent) (s : Nat) : Pl := (List.range s).map fun i => lstMin (colI es i)
def topP (es : List Ent) (s : Nat) : Pl := (List.range s).map fun i => lstMax (colI es i)
theorem lowP_len (es : List Ent) (s : Nat) : (lowP es s).length = s := by unfold lowP; simp
theorem topP_len (es : List Ent) (s : Nat) : (topP es s).length = s := by unfold topP; simp
theorem pl_at {p : Pl} {i : Nat} (h : i < p.length) : p[i]? = some (p.getD i 0) := by
  rw [List.getD_eq_getElem?_getD, List.getElem?_eq_getElem h]
  rfl
/-! ### their numbers -/
theorem cof_scl (es : List Ent) (k : Int) (p : Pl) : cof (sclE es k) p = cof es p * k := by
  induction es with
  | nil => show (0 : Int) = 0 * k; rw [Int.zero_mul]
  | cons e es ih =>
    show (if e.1 = p then e.2 * k else 0) + cof (sclE es k) p = ((if e.1 = p then e.2 else 0) + cof es p) * k
    rw [ih, Int.add_mul]
    by_cases h : e.1 = p
    · rw [if_pos h, if_pos h]
    · rw [if_neg h, if_neg h, Int.zero_mul]
theorem negE_scl (es : List Ent) : negE es = sclE es (-1) := by
  unfold negE sclE
  congr 1
  funext e
  rw [Int.mul_neg_one]
theorem sclE_one (es : List Ent) : sclE es 1 = es := by
  unfold sclE
  rw [show (fun e : Ent => (e.1, e.2 * 1)) = id from funext fun e => by simp, List.map_id]
theorem cof_neg (es : List Ent) (p : Pl) : cof (negE es) p = -cof es p := by rw [negE_scl, cof_scl, Int.mul_neg_one]
theorem negP_negP (p : Pl) : negP (negP p) = p := by
  unfold negP
  rw [List.map_map, show ((fun x : Int => -x) ∘ fun x => -x) = id from funext fun x => by simp, List.map_id]
theorem negP_inj {p q : Pl} (h : negP p = negP q) : p = q := by rw [← negP_negP p, h, negP_negP]
theorem cof_mir (es : List Ent) (p : Pl) : cof (mirE es) p = cof es (negP p) := by
  induction es with
  | nil => rfl
  | cons e es ih =>
    show (if negP e.1 = p then e.2 else 0) + cof (mirE es) p = (if e.1 = negP p then e.2 else 0) + cof es (negP p)
    rw [ih]
    by_cases h : negP e.1 = p
    · rw [if_pos h, if_pos (by rw [← h, negP_negP])]
    · rw [if_neg h, if_neg (fun z => h (by rw [z, negP_negP]))]
theorem addP_negP {p q : Pl} (h : p.length = q.length) : addP (addP p (negP q)) q = p := by
  induction p generalizing q with
  | nil => rfl
  | cons a p ih =>
    cases q with
    | nil => simp at h
    | cons b q =>
      show (a + -b + b) :: addP (addP p (negP q)) q = a :: p
      rw [ih (by simpa using h)]
      congr 1
      omega
theorem addP_negP' {p q : Pl} (h : p.length = q.length) : addP (addP p q) (negP q) = p := by
  have := addP_negP (p := p) (q := negP q) (by rw [negP_len]; exact h)
  rw [negP_negP] at this
  exact this
theorem addP_comm (p q : Pl) : addP p q = addP q p := by
  unfold addP
  induction p generalizing q with
  | nil => cases q <;> rfl
  | cons a p ih =>
    cases q with
    | nil => rfl
    | cons b q =>
      show (a + b) :: List.zipWith (· + ·) p q = (b + a) :: List.zipWith (· + ·) q p
      rw [ih, Int.add_comm]
theorem addP_assoc (p q r : Pl) : addP (addP p q) r = addP p (addP q r) := by
  unfold addP
  induction p generalizing q r with
  | nil => rfl
  | cons a p ih =>
    cases q with
    | nil => rfl
    | cons b q =>
      cases r with
      | nil => rfl
      | cons c r =>
        show (a + b + c) :: _ = (a + (b + c)) :: _
        rw [Int.add_assoc]
        congr 1
        exact ih q r
theorem subP_eq (p q : Pl) : subP p q = addP p (negP q) := by
  induction p generalizing q with
  | nil => rfl
  | cons a p ih =>
    cases q with
    | nil => rfl
    | cons b q =>
      show (a - b) :: subP p q = (a + -b) :: addP p (negP q)
      rw [ih]
      congr 1
theorem negP_add (p q : Pl) : negP (addP p q) = addP (negP p) (negP q) := by
  induction p generalizing q with
  | nil => rfl
  | cons a p ih =>
    cases q with
    | nil => rfl
    | cons b q =>
      show -(a + b) :: negP (addP p q) = (-a + -b) :: addP (negP p) (negP q)
      rw [ih]
      congr 1
      omega
theorem cof_len {s : Nat} {es : List Ent} (h : Dim s es) {p : Pl} (hp : p.length ≠ s) : cof es p = 0 := cof_none fun z => by
  obtain ⟨e, he, rfl⟩ := List.mem_map.mp z
  exact hp (h e he)
theorem cof_mov {s : Nat} {es : List Ent} {q p : Pl} (h : Dim s es) (hq : q.length = s) (hp : p.length = s) : cof (movE es q) p = cof es (addP p (negP q)) := by
  induction es with
  | nil => rfl
  | cons e es ih =>
    show (if addP e.1 q = p then e.2 else 0) + cof (movE es q) p = (if e.1 = addP p (negP q) then e.2 else 0) + cof es (addP p (negP q))
    rw [ih fun x hx => h x (List.mem_cons_of_mem _ hx)]
    have he := h e List.mem_cons_self
    by_cases z : addP e.1 q = p
    · rw [if_pos z, if_pos (by rw [← z, addP_negP' (by rw [he, hq])])]
    · rw [if_neg z, if_neg (fun w => z (by rw [w, addP_negP (by rw [hp, hq])]))]
/-! ### order kept -/
theorem addP_lt : ∀ {p q r : Pl}, p.length = r.length → q.length = r.length → p < q → addP p r < addP q r
  | [], [], _, _, _, h => absurd h (List.lt_irrefl _)
  | [], _ :: _, r, e1, e2, _ => by rw [← e1] at e2; simp at e2
  | _ :: _, [], r, e1, e2, _ => by rw [← e1] at e2; simp at e2
  | _ :: _, _ :: _, [], e1, _, _ => by simp at e1
  | a :: p, b :: q, c :: r, e1, e2, h => by
    rw [List.cons_lt_cons_iff] at h
    show ((a + c) :: addP p r) < ((b + c) :: addP q r)
    rw [List.cons_lt_cons_iff]
    rcases h with h | ⟨h1, h2⟩
    · exact .inl (by omega)
    · exact .inr ⟨by rw [h1], addP_lt (by simpa using e1) (by simpa using e2) h2⟩
theorem Srt.mov {s : Nat} {es : List Ent} {q : Pl} (h : Srt es) (hd : Dim s es) (hq : q.length = s) : Srt (movE es q) := by
  refine ⟨?_, fun e he => ?_⟩
  · unfold movE
    rw [List.pairwise_map]
    exact h.ord.imp_of_mem fun {a b} ha hb z => addP_lt (by rw [hd a ha, hq]) (by rw [hd b hb, hq]) z
  · obtain ⟨f, hf, rfl⟩ := List.mem_map.mp he
    exact h.nz f hf
theorem Srt.scl {es : List Ent} {k : Int} (h : Srt es) (hk : k ≠ 0) : Srt (sclE es k) := by
  refine ⟨?_, fun e he => ?_⟩
  · unfold sclE
    rw [List.pairwise_map]
    exact h.ord
  · obtain ⟨f, hf, rfl⟩ := List.mem_map.mp he
    exact Int.mul_ne_zero (h.nz f hf) hk
theorem Srt.neg {es : List Ent} (h : Srt es) : Srt (negE es) := by rw [negE_scl]; exact h.scl (by decide)
theorem Srt.mir {s : Nat} {es : List Ent} (h : Srt es) (hd : Dim s es) : Srt (mirE es).reverse := by
  refine ⟨?_, fun e he => ?_⟩
  · unfold mirE
    rw [List.pairwise_reverse, List.pairwise_map]
    exact h.ord.imp_of_mem fun {a b} ha hb z => negP_lt (by rw [hd a ha, hd b hb]) z
  · obtain ⟨f, hf, rfl⟩ := List.mem_map.mp (List.mem_reverse.mp he)
    exact h.nz f hf
theorem nf_mir {s : Nat} {es : List Ent} (h : Srt es) (hd : Dim s es) : nf (mirE es) = (mirE es).reverse := nf_of (h.mir hd) fun p => cof_perm (List.reverse_perm _).symm p
theorem nf_scl {es : List Ent} {k : Int} (h : Srt es) (hk : k ≠ 0) : nf (sclE es k) = sclE es k := nf_self (h.scl hk)
theorem nf_scl0 (es : List Ent) : nf (sclE es 0) = [] := nf_of srt_nil fun p => by rw [cof_scl, Int.mul_zero]; rfl
theorem Row.mov {s : Nat} {es : List Ent} {q : Pl} (h : Row s es) (hq : q.length = s) : Row s (movE es q) := ⟨h.toSrt.mov h.dim hq, h.dim.mov hq, h.s1, h.s3⟩
theorem Row.scl {s : Nat} {es : List Ent} {k : Int} (h : Row s es) (hk : k ≠ 0) : Row s (sclE es k) := ⟨h.toSrt.scl hk, h.dim.scl, h.s1, h.s3⟩
theorem Row.neg {s : Nat} {es : List Ent} (h : Row s es) : Row s (negE es) := ⟨h.toSrt.neg, h.dim.neg, h.s1, h.s3⟩
theorem Row.mir {s : Nat} {es : List Ent} (h : Row s es) : Row s (mirE es).reverse := ⟨h.toSrt.mir h.dim, fun e he => h.dim.mir e (List.mem_reverse.mp he), h.s1, h.s3⟩
/-- the normal row of a row that is not zero -/
def corE (s : Nat) (es : List Ent) : List Ent := movE es (negP (lowP es s))
def norE (s : Nat) : List Ent → List Ent
  | [] => []
  | e :: r => if e.2 < 0 then negE (corE s (e :: r)) else corE s (e :: r)
theorem corE_len {s : Nat} {es : List Ent} : (corE s es).length = es.length := movE_len
theorem norE_len {s : Nat} {es : List Ent} : (norE s es).length = es.length := by
  cases es with
  | nil => rfl
  | cons e r =>
    show (if e.2 < 0 then negE (corE s (e :: r)) else corE s (e :: r)).length = _
    split
    · rw [negE_len, corE_len]
    · rw [corE_len]
theorem Row.cor {s : Nat} {es : List Ent} (h : Row s es) : Row s (corE s es) := h.mov (by rw [negP_len, lowP_len])
theorem Row.nor {s : Nat} {es : List Ent} (h : Row s es) : Row s (norE s es) := by
  cases es with
  | nil => exact h
  | cons e r =>
    show Row s (if e.2 < 0 then negE (corE s (e :: r)) else corE s (e :: r))
    split
    · exact h.cor.neg
    · exact h.cor
/-! ### bounds of the coordinates -/
def BdP (n : Int) (p : Pl) : Prop := ∀ x ∈ p, -n ≤ x ∧ x ≤ n
def Bd (n : Int) (es : List Ent) : Prop := ∀ e ∈ es, BdP n e.1
theorem BdP.mono {a b : Int} {p : Pl} (h : BdP a p) (hab : a ≤ b) : BdP b p := fun x hx => by
  have := h x hx
  omega
theorem Bd.mono {a b : Int} {es : List Ent} (h : Bd a es) (hab : a ≤ b) : Bd b es := fun e he => (h e he).mono hab
theorem BdP.add {a b : Int} : ∀ {p q : Pl}, BdP a p → BdP b q → BdP (a + b) (addP p q)
  | [], q, _, _ => by
    intro x hx
    cases hx
  | x :: p, [], _, _ => by
    intro y hy
    cases hy
  | x :: p, y :: q, h, h' => by
    intro z hz
    rcases List.mem_cons.mp (show z ∈ (x + y) :: addP p q from hz) with e | e
    · have h1 := h x List.mem_cons_self
      have h2 := h' y List.mem_cons_self
      omega
    · exact BdP.add (fun w hw => h w (List.mem_cons_of_mem _ hw)) (fun w hw => h' w (List.mem_cons_of_mem _ hw)) z e
theorem BdP.neg {a : Int} {p : Pl} (h : BdP a p) : BdP a (negP p) := fun x hx => by
  obtain ⟨y, hy, rfl⟩ := List.mem_map.mp hx
  have := h y hy
  omega
theorem Bd.mov {a b : Int} {es : List Ent} {q : Pl} (h : Bd a es) (hq : BdP b q) : Bd (a + b) (movE es q) := fun e he => by
  obtain ⟨f, hf, rfl⟩ := List.mem_map.mp he
  exact (h f hf).add hq
theorem Bd.scl {a k : Int} {es : List Ent} (h : Bd a es) : Bd a (sclE es k) := fun e he => by
  obtain ⟨f, hf, rfl⟩ := List.mem_map.mp he
  exact h f hf
theorem Bd.neg {a : Int} {es : List Ent} (h : Bd a es) : Bd a (negE es) := fun e he => by
  obtain ⟨f, hf, rfl⟩ := List.mem_map.mp he
  exact h f hf
theorem Bd.mir {a : Int} {es : List Ent} (h : Bd a es) : Bd a (mirE es) := fun e he => by
  obtain ⟨f, hf, rfl⟩ := List.mem_map.mp he
  exact (h f hf).neg
theorem Bd.rev {a : Int} {es : List Ent} (h : Bd a es) : Bd a es.reverse := fun e he => h e (List.mem_reverse.mp he)
theorem Bd.app {a : Int} {es fs : List Ent} (h : Bd a es) (h' : Bd a fs) : Bd a (es ++ fs) := fun e he => (List.mem_append.mp he).elim (h e) (h' e)
theorem Bd.nf {a : Int} {es : List Ent} (h : Bd a es) : Bd a (nf es) := fun e he => by
  obtain ⟨f, hf, e1⟩ := nf_key he
  rw [← e1]
  exact h f hf
theorem lstMin_mem {ns : List Int} (h : ns ≠ []) : lstMin ns ∈ ns := by
  cases ns with
  | nil => exact absurd rfl h
  | cons n r =>
    show r.foldl min n ∈ n :: r
    have : ∀ (r : List Int) (n : Int), r.foldl min n = n ∨ r.foldl min n ∈ r := by
      intro r
      induction r with
      | nil => exact fun n => .inl rfl
      | cons a r ih =>
        intro n
        rw [List.foldl_cons]
        rcases ih (min n a) with h | h
        · rw [h]
          rcases (by omega : min n a = n ∨ min n a = a) with q | q
          · exact .inl q
          · exact .inr (by rw [q]; exact List.mem_cons_self)
        · exact .inr (List.mem_cons_of_mem _ h)
    rcases this r n with q | q
    · rw [q]; exact List.mem_cons_self
    · exact List.mem_cons_of_mem _ q
theorem lstMax_mem {ns : List Int} (h : ns ≠ []) : lstMax ns ∈ ns := by
  cases ns with
  | nil => exact absurd rfl h
  | cons n r =>
    show r.foldl max n ∈ n :: r
    have : ∀ (r : List Int) (n : Int), r.foldl max n = n ∨ r.foldl max n ∈ r := by
      intro r
      induction r with
      | nil => exact fun n => .inl rfl
      | cons a r ih =>
        intro n
        rw [List.foldl_cons]
        rcases ih (max n a) with h | h
        · rw [h]
          rcases (by omega : max n a = n ∨ max n a = a) with q | q
          · exact .inl q
          · exact .inr (by rw [q]; exact List.mem_cons_self)
        · exact .inr (List.mem_cons_of_mem _ h)
    rcases this r n with q | q
    · rw [q]; exact List.mem_cons_self
    · exact List.mem_cons_of_mem _ q
theorem colI_bd {a : Int} {es : List Ent} (h : Bd a es) (h0 : 0 ≤ a) (i : Nat) : ∀ x ∈ colI es i, -a ≤ x ∧ x ≤ a := fun x hx => by
  obtain ⟨e, he, rfl⟩ := List.mem_map.mp hx
  rw [List.getD_eq_getElem?_getD]
  cases q : e.1[i]? with
  | none => exact ⟨by show -a ≤ 0; omega, h0⟩
  | some y => exact h e he y (List.mem_of_getElem? q)
theorem low_bd {a : Int} {es : List Ent} (h : Bd a es) (h0 : 0 ≤ a) (s : Nat) : BdP a (lowP es s) := fun x hx => by
  obtain ⟨i, _, rfl⟩ := List.mem_map.mp hx
  cases es with
  | nil => exact ⟨by show -a ≤ 0; omega, h0⟩
  | cons e r => exact colI_bd h h0 i _ (lstMin_mem (by simp [colI]))
theorem top_bd {a : Int} {es : List Ent} (h : Bd a es) (h0 : 0 ≤ a) (s : Nat) : BdP a (topP es s) := fun x hx => by
  obtain ⟨i, _, rfl⟩ := List.mem_map.mp hx
  cases es with
  | nil => exact ⟨by show -a ≤ 0; omega, h0⟩
  | cons e r => exact colI_bd h h0 i _ (lstMax_mem (by simp [colI]))
theorem spn_bd {a : Int} {es : List Ent} (h : Bd a es) (h0 : 0 ≤ a) (s : Nat) : BdP (a + a) (subP (topP es s) (lowP es s)) := by
  rw [subP_eq]
  exact (top_bd h h0 s).add (low_bd h h0 s).neg
theorem nor_bd {a : Int} {es : List Ent} (h : Bd a es) (h0 : 0 ≤ a) (s : Nat) : Bd (a + a) (norE s es) := by
  cases es with
  | nil => exact fun e he => nomatch he
  | cons e r =>
    have c : Bd (a + a) (corE s (e :: r)) := h.mov (low_bd h h0 s).neg
    show Bd (a + a) (if e.2 < 0 then negE (corE s (e :: r)) else corE s (e :: r))
    split
    · exact c.neg
    · exact c
theorem subP_tl (es : List Ent) (s : Nat) : subP (topP es s) (lowP es s) = (List.range s).map fun i => lstMax (colI es i) - lstMin (colI es i) := by
  unfold subP topP lowP
  rw [List.zipWith_map, List.zipWith_self]
/-- the number of places of the box -/
def boxN (s : Nat) (es : List Ent) : Int := (subP (topP es s) (lowP es s)).foldl (fun n x => n * (x + 1)) 1
theorem rev_cons {α : Type} (l : List α) (h : l ≠ []) : ∃ i x, l = i ++ [x] := ⟨l.dropLast, l.getLast h, (List.dropLast_concat_getLast h).symm⟩
end DE

set_option Elab.async false
set_option linter.all false
set_option maxRecDepth 100000
set_option maxHeartbeats 4000000
/-! DE20b: texts, by the lists of their signs. -/
namespace DE
open PySem L2
/-- the text with these signs -/
def tx (l : List Nat) : Str := ⟨l.toArray⟩
def sG (l : List Nat) : D := .str (tx l)
/-- a text of one sign -/
def cG (c : Nat) : D := .str ⟨#[c]⟩
theorem cG_eq (c : Nat) : cG c = sG [c] := rfl
theorem tx_l (z : Str) : tx z.cps.toList = z := by unfold tx; rw [Array.toArray_toList]
theorem l_tx (l : List Nat) : (tx l).cps.toList = l := rfl
theorem len_tx (l : List Nat) : (tx l).length = l.length := by show l.toArray.size = _; simp
theorem tx_inj {l m : List Nat} : tx l = tx m ↔ l = m := ⟨fun h => by have := congrArg (fun z : Str => z.cps.toList) h; exact this, fun h => by rw [h]⟩
theorem tx_app (l m : List Nat) : tx l ++ tx m = tx (l ++ m) := by
  refine Str.ext' (Array.toList_inj.mp ?_)
  show (l.toArray ++ m.toArray).toList = (l ++ m).toArray.toList
  simp
section
variable {C : Cfg} {ρ : Rho}
def m1U (m : Mt) (x k : EvR) : EvR := bindR x fun x => mtU m x k
theorem ev_m1 {m : Mt} {a b : IE} : evE C (.m1 m a b) ρ = m1U m (evE C a ρ) (evE C b ρ) := by rw [evE]; rfl
theorem et_m1 {m : Mt} {a b : IE} : evT C (.m1 m a b) ρ = v1 truV (m1U m (evE C a ρ) (evE C b ρ)) := by rw [evT]; rfl
theorem m1_s {m : Mt} {a : Str} {k : EvR} : m1U m (some (.ok (.dat (.str a)))) k = u1 (mtV m a) k := rfl
theorem m1_t {m : Mt} {a : List Nat} {k : EvR} : m1U m (some (.ok (.dat (sG a)))) k = u1 (mtV m (tx a)) k := rfl
end
theorem mt_stwD {a : List Nat} {b : Str} : mtV .stw (tx a) (.dat (.str b)) = some (.dat (.bl (Txt.startswith (tx a) b))) := rfl
/-- the pieces between a sign -/
def pcs (s : Str) (a : List Nat) : List (List Nat) := (Txt.split (tx a) s).map fun z => z.cps.toList
theorem mt_splitD {a : List Nat} {b : Str} (hb : (b.length == 0) = false) (h : Sm (a.length + 2)) : mtV .split (tx a) (.dat (.str b)) = some (.fr (lO sG (pcs b a))) := by
  show (if (b.length == 0) = false ∧ (tx a).length + 2 ≤ 16777216 then some (RV.fr (.l ((Txt.split (tx a) b).map D.str))) else none) = _
  rw [if_pos ⟨hb, by rw [len_tx]; exact Nat.le_of_lt_succ (by unfold Sm at h; omega)⟩]
  unfold lO pcs
  rw [List.map_map]
  congr 3
theorem strsD_s : ∀ ls : List (List Nat), strsD (ls.map sG) = some (ls.map tx)
  | [] => rfl
  | l :: ls => by
    show (match strsD (ls.map sG) with | some ns => some (tx l :: ns) | none => none) = _
    rw [strsD_s ls]
    rfl
/-- joined -/
def jn (s : Str) (ls : List (List Nat)) : List Nat := TL.joinL s.cps.toList ls
theorem jn_eq (s : Str) (ls : List (List Nat)) : Txt.join s (ls.map tx) = tx (jn s ls) := by
  refine TL.ext_tl ?_
  rw [TL.join_eq, TL.tl_join, List.map_map]
  show TL.joinL (TL.tl s) (ls.map (TL.tl ∘ tx)) = jn s ls
  unfold jn
  congr 1
  exact List.map_id ls
theorem jn_len (s : Str) : ∀ ls : List (List Nat), (jn s ls).length ≤ (ls.map (·.length)).sum + ls.length * s.length
  | [] => Nat.zero_le _
  | [p] => by
    show p.length ≤ p.length + 0 + _
    omega
  | p :: q :: r => by
    have h := jn_len s (q :: r)
    have e : jn s (p :: q :: r) = p ++ (s.cps.toList ++ jn s (q :: r)) := rfl
    have e2 : s.cps.toList.length = s.length := by simp [Str.length]
    rw [e, List.length_append, List.length_append, e2, List.map_cons, List.sum_cons]
    have e3 : (p :: q :: r).length * s.length = (q :: r).length * s.length + s.length := by rw [List.length_cons (a := p), Nat.succ_mul]
    omega
theorem sum_map_le {α : Type} {g : α → Nat} {n : Nat} : ∀ {l : List α}, (∀ x ∈ l, g x ≤ n) → (l.map g).sum ≤ l.length * n
  | [], _ => Nat.zero_le _
  | x :: l, h => by
    have h1 := h x (List.mem_cons_self ..)
    have h2 := sum_map_le (l := l) fun y hy => h y (List.mem_cons_of_mem _ hy)
    rw [List.map_cons, List.sum_cons, List.length_cons, Nat.succ_mul]
    omega
theorem mt_joinD {s : Str} {ls : List (List Nat)} (h : (ls.map (·.length)).sum + ls.length * s.length ≤ 16777216) : mtV .join s (.fr (lO sG ls)) = some (.dat (sG (jn s ls))) := by
  show (match strsD (ls.map sG) with | some ys => if (ys.map (fun z : Str => z.length)).sum + ys.length * s.length ≤ 16777216 then some (RV.dat (.str (Txt.join s ys))) else none | none => none) = _
  rw [strsD_s]
  show (if ((ls.map tx).map (fun z : Str => z.length)).sum + (ls.map tx).length * s.length ≤ 16777216 then some (RV.dat (.str (Txt.join s (ls.map tx)))) else none) = _
  have e : (ls.map tx).map (fun z : Str => z.length) = ls.map (fun l : List Nat => l.length) := by
    rw [List.map_map]
    exact List.map_congr_left (f := (fun z : Str => z.length) ∘ tx) (g := fun l : List Nat => l.length) fun l _ => len_tx l
  rw [e, List.length_map, if_pos h, jn_eq]
  rfl
/-! ### signs -/
theorem signs_mL (l : List Nat) : signsD (tx l) = mL cG l := rfl
theorem efV_s {c : Bool} {l : List Nat} : efV c (some (some (.dat (sG l)))) = some (.ok (mL cG l)) := rfl
theorem efN_s {l : List Nat} : efN (some (.ok (.dat (sG l)))) = some (.ok (mL cG l)) := rfl
theorem it_s {l : List Nat} : itU (some (.ok (.dat (sG l)))) = some (.ok (mL cG l)) := rfl
theorem in_s {c : Nat} {z : Str} : cmpV .isin (.dat (cG c)) (.dat (.str z)) = some (decide (c ∈ z.cps.toList)) := rfl
theorem notin_s {c : Nat} {z : Str} : cmpV .notin (.dat (cG c)) (.dat (.str z)) = some (!decide (c ∈ z.cps.toList)) := rfl
theorem eq_sG {l : List Nat} {z : Str} : cmpV .eq (.dat (sG l)) (.dat (.str z)) = some (decide (l = z.cps.toList)) := by
  show some (decide (tx l = z)) = _
  congr 1
  exact decide_eq_decide.mpr ⟨fun h => by rw [← h]; rfl, fun h => by rw [h, tx_l]⟩
theorem ne_sG {l : List Nat} {z : Str} : cmpV .ne (.dat (sG l)) (.dat (.str z)) = some (!decide (l = z.cps.toList)) := by
  show some (!decide (tx l = z)) = _
  congr 2
  exact decide_eq_decide.mpr ⟨fun h => by rw [← h]; rfl, fun h => by rw [h, tx_l]⟩
theorem eq_ss {l m : List Nat} : cmpV .eq (.dat (sG l)) (.dat (sG m)) = some (decide (l = m)) := eq_sG
theorem ne_ss {l m : List Nat} : cmpV .ne (.dat (sG l)) (.dat (sG m)) = some (!decide (l = m)) := ne_sG
theorem eqv_sz {l : List Nat} {z : Str} : eqV (sG l) (.str z) = some (decide (l = z.cps.toList)) := by
  show some (decide (tx l = z)) = _
  congr 1
  exact decide_eq_decide.mpr ⟨fun h => by rw [← h]; rfl, fun h => by rw [h, tx_l]⟩
theorem eqv_zs {l : List Nat} {z : Str} : eqV (.str z) (sG l) = some (decide (z.cps.toList = l)) := by
  show some (decide (z = tx l)) = _
  congr 1
  exact decide_eq_decide.mpr ⟨fun h => by rw [h]; rfl, fun h => by rw [← h, tx_l]⟩
theorem eqv_ss {l m : List Nat} : eqV (sG l) (sG m) = some (decide (l = m)) := eqv_sz
theorem eqv_cz {c : Nat} {z : Str} : eqV (cG c) (.str z) = some (decide ([c] = z.cps.toList)) := eqv_sz (l := [c])
theorem isi_sG {isa : Str → Str → Option Bool} {l : List Nat} : isiV isa (.dat (sG l)) .str = some true := rfl
theorem add_sG {l m : List Nat} (h : Sm (l.length + m.length)) : binV .add (.dat (sG l)) (.dat (sG m)) = some (.dat (sG (l ++ m))) := by
  show (if (tx l).length + (tx m).length ≤ 16777216 then some (RV.dat (.str (tx l ++ tx m))) else none) = _
  rw [if_pos (by rw [len_tx, len_tx]; unfold Sm at h; omega), tx_app]
  rfl
theorem add_sz {l : List Nat} {z : Str} (h : Sm (l.length + z.length)) : binV .add (.dat (sG l)) (.dat (.str z)) = some (.dat (sG (l ++ z.cps.toList))) := by
  have e : D.str z = sG z.cps.toList := by unfold sG; rw [tx_l]
  rw [e]
  exact add_sG (by rw [show z.cps.toList.length = z.length from by simp [Str.length]]; exact h)
theorem add_zs {l : List Nat} {z : Str} (h : Sm (z.length + l.length)) : binV .add (.dat (.str z)) (.dat (sG l)) = some (.dat (sG (z.cps.toList ++ l))) := by
  have e : D.str z = sG z.cps.toList := by unfold sG; rw [tx_l]
  rw [e]
  exact add_sG (by rw [show z.cps.toList.length = z.length from by simp [Str.length]]; exact h)
theorem ix_s0 {c : Nat} {l : List Nat} (h : Sm (l.length + 1)) : ixW (.dat (sG (c :: l))) (.dat (.int 0)) = some (.dat (cG c)) := by
  show (if (tx (c :: l)).length ≤ 16777216 then (match atI (c :: l) 0 with | some c => some (RV.dat (.str ⟨#[c]⟩)) | none => none) else none) = _
  rw [if_pos (by rw [len_tx, List.length_cons]; unfold Sm at h; omega), show atI (c :: l) 0 = some c from by rw [show (0 : Int) = ((0 : Nat) : Int) from rfl, DE.atI_nat]; rfl]
  rfl
theorem eq_cG {c : Nat} {z : Str} : cmpV .eq (.dat (cG c)) (.dat (.str z)) = some (decide ([c] = z.cps.toList)) := by rw [cG_eq, eq_sG]
theorem ne_cG {c : Nat} {z : Str} : cmpV .ne (.dat (cG c)) (.dat (.str z)) = some (!decide ([c] = z.cps.toList)) := by rw [cG_eq, ne_sG]
theorem sl_s {l : List Nat} {lo hi : Option Int} (h : Sm l.length) : slV (.dat (sG l)) lo hi = some (.dat (sG (cutG l lo hi))) := by
  show (if (tx l).length ≤ 16777216 then some (RV.dat (.str (cutS (tx l) lo hi))) else none) = _
  rw [if_pos (by rw [len_tx]; unfold Sm at h; omega)]
  congr 3
/-! ### numbers -/
def numS (i : Int) : List Nat := ((toString i : Str)).cps.toList
theorem bi_str {i : Int} (h : small i = true) : biV .str [.dat (.int i)] = some (.dat (sG (numS i))) := by
  have h2 : i.natAbs.log2 < 1920 := by
    unfold small at h
    rw [Bool.and_eq_true, decide_eq_true_eq, decide_eq_true_eq] at h
    by_cases h0 : i.natAbs = 0
    · rw [h0]
      decide
    · have := (Nat.log2_lt h0).mpr (show i.natAbs < 2 ^ 64 by omega)
      omega
  show (if i.natAbs.log2 < 1920 then some (RV.dat (.str (toString i))) else none) = _
  rw [if_pos h2]
  unfold numS sG
  rw [tx_l]
theorem bi_ints {l : List Nat} {n : Int} (h : l.length ≤ 640) (hn : intText? (tx l) = some n) : biV .int [.dat (sG l)] = some (.dat (.int n)) := by
  show (if (tx l).length ≤ 640 then (match intText? (tx l) with | some n => some (RV.dat (.int n)) | none => none) else none) = _
  rw [if_pos (by rw [len_tx]; exact h), hn]
/-- is it a decimal integer -/
def digs (l : List Nat) : List Nat := match l with
  | 45 :: r => r
  | l => l
def isDec (l : List Nat) : Bool := match digs l with
  | [] => false
  | c :: r => (c :: r).all (fun c => decide (48 ≤ c ∧ c ≤ 57)) && (!decide (c = 48) || decide (l = [48]))
theorem dec_int {l : List Nat} (h : isDec l = true) (hl : l.length ≤ 640) : ∃ n, intText? (tx l) = some n := by
  unfold isDec at h
  split at h
  · cases h
  · rename_i c r e
    rw [Bool.and_eq_true, List.all_eq_true] at h
    have hd : NumText.AllDigits (c :: r) := fun x hx => by simpa using h.1 x hx
    unfold digs at e
    split at e
    · rename_i r'
      subst e
      exact ⟨_, intText_neg (cs := c :: r) rfl hd (by simp) (by rw [len_tx]; omega)⟩
    · subst e
      exact ⟨_, intText_digits (x := tx (c :: r)) hd (by rw [l_tx]; simp) (by rw [len_tx]; omega)⟩
theorem sw_dash (l : List Nat) : Txt.startswith (tx l) "-" = decide (l.take 1 = [45]) := by
  have e : ("-" : Str) = tx [45] := by decide
  rw [e]
  show (decide (0 + (tx [45]).length ≤ (tx l).length) && Builtin.Str.subAt (tx l) (tx [45]) 0) = _
  rw [len_tx, len_tx]
  unfold Builtin.Str.subAt
  rw [len_tx]
  cases l with
  | nil => rfl
  | cons c r =>
    show (decide (0 + 1 ≤ (c :: r).length) && ((c :: r).toArray.extract 0 (0 + 1) == #[45])) = decide ([c] = [45])
    have : ((c :: r).toArray.extract 0 (0 + 1)) = #[c] := by simp
    rw [this]
    by_cases hc : c = 45 <;> simp [hc]
/-! ### a text's pieces are no longer than the text -/
theorem spl_len (S : List Nat) : ∀ (l : List Nat) (k : Nat) (acc : List Nat), ∀ p ∈ TL.spl S k acc l, p.length ≤ acc.length + l.length
  | [], k, acc => fun p hp => by
    rw [TL.spl_nil] at hp
    rw [List.mem_singleton.mp hp]
    omega
  | c :: r, 0, acc => fun p hp => by
    cases h : TL.pre S (c :: r) with
    | true =>
      rw [TL.spl_hit h] at hp
      rcases List.mem_cons.mp hp with e | hp
      · rw [e]
        omega
      · have := spl_len S r _ [] p hp
        rw [List.length_cons]
        simp at this
        omega
    | false =>
      rw [TL.spl_miss h] at hp
      have := spl_len S r 0 (acc ++ [c]) p hp
      rw [List.length_append] at this
      rw [List.length_cons]
      simp at this
      omega
  | c :: r, k + 1, acc => fun p hp => by
    rw [TL.spl_pass, List.drop_succ_cons, ← TL.spl_pass] at hp
    have := spl_len S r k acc p hp
    rw [List.length_cons]
    omega
theorem pcs_len {s : Str} {a : List Nat} (h1 : s.cps.toList ≠ []) (h2 : s.cps.all (· < 256) = true) : ∀ p ∈ pcs s a, p.length ≤ a.length := fun p hp => by
  have e : pcs s a = TL.spl (TL.tl s) 0 [] (TL.tl (tx a)) := TL.split_spl _ _ h1 (TL.kind_ok h2)
  rw [e] at hp
  have := spl_len _ _ _ _ p hp
  have e2 : (TL.tl (tx a)).length = a.length := rfl
  rw [e2, List.length_nil, Nat.zero_add] at this
  exact this
theorem pcs_num {s : Str} {a : List Nat} : (pcs s a).length ≤ a.length + 2 := by
  unfold pcs
  rw [List.length_map]
  have := PyProof.Rows.split_le (tx a) s
  rw [len_tx] at this
  exact this
theorem spl_ne (S : List Nat) : ∀ (l : List Nat) (k : Nat) (acc : List Nat), TL.spl S k acc l ≠ []
  | [], k, acc => by rw [TL.spl_nil]; simp
  | c :: r, 0, acc => by
    cases h : TL.pre S (c :: r) with
    | true => rw [TL.spl_hit h]; simp
    | false => rw [TL.spl_miss h]; exact spl_ne S r 0 _
  | c :: r, k + 1, acc => by
    rw [TL.spl_pass, List.drop_succ_cons, ← TL.spl_pass]
    exact spl_ne S r k acc
theorem pcs_ne {s : Str} {a : List Nat} (h1 : s.cps.toList ≠ []) (h2 : s.cps.all (· < 256) = true) : pcs s a ≠ [] := by
  have e : pcs s a = TL.spl (TL.tl s) 0 [] (TL.tl (tx a)) := TL.split_spl _ _ h1 (TL.kind_ok h2)
  rw [e]
  exact spl_ne _ _ _ _
/-- an error of class BadText -/
def eTxt (n : Int) : Er := ⟨"BadText", ["index", "word"], [.int n, .str "BadText"]⟩
theorem er_txt {ρ : Rho} {n : Int} : erS (mkEr "BadText" ["index"] "BadText") [.dat (.int n)] ρ = some (.er (eTxt n) ρ) := rfl
theorem c_txt {n : Int} : (eTxt n).c = "BadText" := id rfl
theorem w_txt {n : Int} {fld : Str → Str → Bool} (h : fld "BadText" "word" = true) : attrV fld (.dat (xD (eTxt n))) "word" = some (.dat (.str "BadText")) := attr_ok h rfl
theorem f_txt {n : Int} {fld : Str → Str → Bool} (h : fld "BadText" "index" = true) : attrV fld (.dat (xD (eTxt n))) "index" = some (.dat (.int n)) := attr_ok h rfl
theorem fs_txt {n : Int} : flatDs (eTxt n).fs = true := id rfl
theorem isnt_n1 : cmpV .isnt (.dat .non) (.dat .non) = some false := id rfl
theorem isnt_i1 {i : Int} : cmpV .isnt (.dat (.int i)) (.dat .non) = some true := id rfl
end DE

set_option Elab.async false
set_option linter.all false
set_option maxRecDepth 100000
set_option maxHeartbeats 4000000
/-! DE21: the rules in bundles. -/
namespace DE
def EV0 := And.intro @mk_1 (And.intro @mk_2 (And.intro @mk_3 (And.intro @mk_4 (And.intro @mk_5 (And.intro @mk_6 (And.intro @rb_nil (And.intro @rb_cons (And.intro @rb_frz (And.intro @rb_kil (And.intro @frz_own (And.intro @frz_dat (And.intro @frz_no (And.intro @nxt_nx (And.intro @nxt_rt (And.intro @nxt_er (And.intro @nxt_bk (And.intro @nxt_ct (And.intro @rs_asg (And.intro @asg_dat (And.intro @asg_fr (And.intro @asg_er (And.intro @rs_asgT (And.intro @asgT_2 (And.intro @asgT_3 (And.intro @rs_app (And.intro @app_g (And.intro @app_gO (And.intro @rs_setL (And.intro @set_dat (And.intro @rs_iff (And.intro @iteS_t (And.intro @iteS_f (And.intro @iteS_e (And.intro @rs_for (And.intro @for_ok (And.intro @ef_rg (And.intro @ef_v (And.intro @efV_g (And.intro @efV_p (And.intro @efV_l (And.intro @efV_t (And.intro @ef_call (And.intro @ef_lst (And.intro @ef_tup (And.intro @ef_bi (And.intro @ef_bin (And.intro @ef_ix (And.intro @ef_sl (And.intro @ef_lc (And.intro @ef_rv (And.intro @efN_g (And.intro @efN_gf (And.intro @efN_l (And.intro @efN_t (And.intro @efN_p (And.intro @rs_ret (And.intro @ret_dat (And.intro @ret_fr (@ret_er)))))))))))))))))))))))))))))))))))))))))))))))))))))))))))
def EV1 := And.intro @rs_retV (And.intro @retV_dat (And.intro @retV_own (And.intro @rs_retN (And.intro @rs_brk (And.intro @rs_cnt (And.intro @rs_pas (And.intro @rn_expr (And.intro @drop_ok (And.intro @drop_er (And.intro @rs_rais (And.intro @rs_tri (And.intro @tri_nx (And.intro @tri_rt (And.intro @endF_rt (And.intro @endF_nx (And.intro @endF_er (And.intro @ev_var (And.intro @var_dat (And.intro @var_own (And.intro @ev_int (And.intro @ev_str (And.intro @ev_bl (And.intro @ev_non (And.intro @ev_bin (And.intro @ev_neg (And.intro @neg_int (And.intro @ev_cmp (And.intro @ev_ix (And.intro @ev_nott (And.intro @not_bl (And.intro @ev_tup (And.intro @tupV_ok (And.intro @tupM_ok (And.intro @ev_lst (And.intro @lstU_ok (And.intro @lstM_ok (And.intro @toDs_nil (And.intro @toDs_cd (And.intro @toDs_cf (And.intro @ev_dictT (And.intro @ea_nil (And.intro @ea_cons (And.intro @ac_ok (And.intro @ac_er (And.intro @ev_bi (And.intro @bi_ok (And.intro @ev_call (And.intro @call_ok (And.intro @callU_er (And.intro @call_1 (And.intro @call_2 (And.intro @call_3 (And.intro @call_4 (And.intro @call_5 (And.intro @call_6 (And.intro @callO_4 (And.intro @co_d (And.intro @co_f (@giveS_3)))))))))))))))))))))))))))))))))))))))))))))))))))))))))))
def EV2 := And.intro @endK_ok (And.intro @rs_retK (And.intro @retK_t (And.intro @retK_f (And.intro @ek_nil (And.intro @ek_cons (And.intro @andK_t (And.intro @andK_f (And.intro @mkO_4 (And.intro @cc_d (And.intro @cc_f (And.intro @cc_e (And.intro @cc_td (And.intro @cc_tf (And.intro @cc_te (And.intro @fl_int (And.intro @fl_bl (And.intro @fl_non (And.intro @fl_str (And.intro @fl_p (And.intro @fl_e (And.intro @fl_t (And.intro @fls_n (And.intro @fls_c (And.intro @fl_oe (And.intro @fl_op (And.intro @fl_oi (And.intro @fl_ob (And.intro @fl_d (And.intro @isbr_d (And.intro @isbr_f (And.intro @isbr_b (And.intro @d_dat (And.intro @d_fl (And.intro @d_bl (And.intro @d_fg (And.intro @d_bg (And.intro @o_g (And.intro @o_l (And.intro @o_dO (And.intro @d_fd (And.intro @d_bd (And.intro @ent_d (And.intro @tup0 (And.intro @tup1 (And.intro @tup2 (And.intro @tup3 (And.intro @ev_sl (And.intro @sl_ok (And.intro @eo_no (And.intro @eo_so (And.intro @so_ok (And.intro @ev_get (And.intro @get_br (And.intro @get_dat (And.intro @ev_attr (And.intro @ev_isi (And.intro @ev_ife (And.intro @iteE_t (@iteE_f)))))))))))))))))))))))))))))))))))))))))))))))))))))))))))
def EV3 := And.intro @ev_andd (And.intro @ev_orr (And.intro @en_1 (And.intro @en_2 (And.intro @er_1 (And.intro @er_2 (And.intro @andU_t (And.intro @andU_f (And.intro @orU_t (And.intro @orU_f (And.intro @andU_b (And.intro @orU_b (And.intro @et_andd (And.intro @et_orr (And.intro @et_nott (And.intro @notT_ok (And.intro @et_cmp (And.intro @et_var (And.intro @et_isi (And.intro @et_call (And.intro @et_ix (And.intro @et_chain (And.intro @chT_ok (And.intro @tru_bl (And.intro @ent_1 (And.intro @ent_2 (And.intro @ert_1 (And.intro @ert_2 (And.intro @andT_t (And.intro @andT_f (And.intro @orT_t (And.intro @orT_f (And.intro @ev_lc (And.intro @ev_dc (And.intro @turn_d (And.intro @turnDM_s (And.intro @tsD_d (And.intro @dO_nil (And.intro @get_dO (And.intro @get_dD (And.intro @it_g (And.intro @it_gf (And.intro @it_gb (And.intro @it_p (And.intro @it_t2 (And.intro @it_dl (And.intro @it_fr (And.intro @turn_m (And.intro @turnM_s (And.intro @tst_d (And.intro @tst_o (And.intro @tst_f (And.intro @tst_b (And.intro @ei_no (And.intro @ei_so (And.intro @sg_n (And.intro @sg_e (And.intro @sg_2 (And.intro @sg_3 (@step_m)))))))))))))))))))))))))))))))))))))))))))))))))))))))))))
def EV4 := And.intro @stepM_s (And.intro @rv_g (And.intro @rv_gf (And.intro @rai_f (And.intro @es_it (And.intro @es_rg (And.intro @es_rev (And.intro @u1_ok (And.intro @u2_ok (And.intro @v1_ok (And.intro @v2_ok (And.intro @u1_er (And.intro @u2_er1 (And.intro @u2_er2 (And.intro @optR_some (And.intro @blR_some (And.intro @bin_add (And.intro @bin_sub (And.intro @cmp_lt (And.intro @cmp_le (And.intro @cmp_gt (And.intro @cmp_ge (And.intro @cmp_e (And.intro @cmp_n (And.intro @notV_s (And.intro @cmp_lp (And.intro @eqV_rr (And.intro @eqV_pp (And.intro @eqV_nn (And.intro @eqV_rrr (And.intro @eqV_plpl (And.intro @eqV_bb (And.intro @eqV_ee (And.intro @eqV_ii (And.intro @eqV_ss (And.intro @eqV_tip (And.intro @eqV_trr (And.intro @len_t2 (And.intro @len_t3 (And.intro @bi_int (And.intro @tru_nil (And.intro @tru_cons (And.intro @tru_on (And.intro @tru_oc (And.intro @tru_fn (And.intro @tru_fc (And.intro @len_g (And.intro @len_gf (And.intro @len_gb (And.intro @len_pl (And.intro @len_e (And.intro @lst_g (And.intro @lst_gf (And.intro @lst_gb (And.intro @lst_p (And.intro @tup_gf (And.intro @tup_gb (And.intro @tup_gd (And.intro @tup_p (@ix_g0)))))))))))))))))))))))))))))))))))))))))))))))))))))))))))
def EV5 := And.intro @ix_f0 (And.intro @ix_b0 (And.intro @ix_e0 (And.intro @ix_e1 (And.intro @ix_p0 (And.intro @ix_p1 (And.intro @ix_p2 (And.intro @ix_gl (And.intro @ix_fl (And.intro @ix_bl (And.intro @ix_pl (And.intro @ix_t20 (And.intro @ix_t21 (And.intro @ix_t30 (And.intro @ix_t31 (And.intro @ix_t32 (And.intro @sum_g (And.intro @sum_f (And.intro @sum_b (And.intro @any_f (And.intro @all_f (And.intro @abs_i (And.intro @isi_p (And.intro @isi_t (And.intro @isi_l (And.intro @isi_lf (And.intro @isi_lb (And.intro @isi_i (And.intro @isi_ib (And.intro @isi_b (And.intro @isi_bi (And.intro @isi_e (And.intro @isi_s (And.intro @isi_x (And.intro @isi_e2 (And.intro @isa_hot (And.intro @fld_hot (And.intro @tri_e (And.intro @tri_bk (And.intro @tri_ct (And.intro @end_bl (And.intro @end_int (And.intro @er_mix (And.intro @er_zero (And.intro @er_one (And.intro @er_naf (And.intro @er_bad (And.intro @er_sym (And.intro @er_nor (And.intro @c_mix (And.intro @c_zero (And.intro @c_one (And.intro @c_naf (And.intro @c_bad (And.intro @c_sym (And.intro @c_nor (And.intro @w_mix (And.intro @w_zero (And.intro @w_one (@w_naf)))))))))))))))))))))))))))))))))))))))))))))))))))))))))))
def EV6 := And.intro @w_bad (And.intro @w_sym (And.intro @w_nor (And.intro @f_one (And.intro @f_naf (And.intro @f_bad (And.intro @f_sym (And.intro @fs_mix (And.intro @fs_zero (And.intro @fs_one (And.intro @fs_naf (And.intro @fs_bad (And.intro @fs_sym (And.intro @fs_nor (And.intro @li_1 (And.intro @oi_1 (And.intro @li_2 (And.intro @oi_2 (And.intro @li_3 (And.intro @oi_3 (And.intro @li_4 (And.intro @oi_4 (And.intro @li_5 (And.intro @oi_5 (And.intro @li_6 (And.intro @oi_6 (And.intro @li_7 (And.intro @oi_7 (And.intro @li_8 (And.intro @oi_8 (And.intro @li_9 (And.intro @oi_9 (And.intro @li_10 (And.intro @oi_10 (And.intro @li_11 (And.intro @oi_11 (And.intro @li_12 (And.intro @oi_12 (And.intro @li_13 (And.intro @oi_13 (And.intro @li_14 (And.intro @oi_14 (And.intro @li_15 (And.intro @oi_15 (And.intro @li_16 (And.intro @oi_16 (And.intro @rr1_l (And.intro @rr1_o (And.intro @rr2_l (And.intro @rr2_o (And.intro @rr3_l (And.intro @rr3_o (And.intro @rr4_l (And.intro @rr4_o (And.intro @pp1_l (And.intro @pp1_o (And.intro @pp2_l (And.intro @pp2_o (And.intro @pp3_l (@pp3_o)))))))))))))))))))))))))))))))))))))))))))))))))))))))))))
def EV7 := And.intro @pp4_l (And.intro @pp4_o (And.intro @ee1_l (And.intro @ee1_o (And.intro @ee2_l (And.intro @ee2_o (And.intro @ee3_l (And.intro @ee3_o (And.intro @ee4_l (And.intro @ee4_o (And.intro @rrr1_l (And.intro @rrr1_o (And.intro @rrr2_l (And.intro @rrr2_o (And.intro @rrr3_l (And.intro @rrr3_o (And.intro @rrr4_l (And.intro @rrr4_o (And.intro @jg_1 (And.intro @jb_1 (And.intro @jg_2 (And.intro @jb_2 (And.intro @jg_3 (And.intro @jb_3 (And.intro @jg_4 (And.intro @jb_4 (And.intro @jg_5 (And.intro @jb_5 (And.intro @jg_6 (And.intro @jb_6 (And.intro @jg_7 (And.intro @jb_7 (And.intro @jg_8 (And.intro @jb_8 (And.intro @jg_9 (And.intro @jb_9 (And.intro @jg_10 (And.intro @jb_10 (And.intro @jg_11 (And.intro @jb_11 (And.intro @jg_12 (And.intro @jb_12 (And.intro @jg_13 (And.intro @jb_13 (And.intro @jg_14 (And.intro @jb_14 (And.intro @jg_15 (And.intro @jb_15 (And.intro @sl_p (And.intro @sl_g (And.intro @sl_gf (And.intro @sl_gb (And.intro @cut_init (And.intro @cut_1 (And.intro @ev_lsr1 (And.intro @ev_lsr2 (And.intro @ev_lrv (And.intro @lrv_g (And.intro @lrv_gf (@lrv_gb)))))))))))))))))))))))))))))))))))))))))))))))))))))))))))
def EV8 := And.intro @es_revR (And.intro @ef_revR (And.intro @rs_popD (And.intro @max_2 (And.intro @min_2 (And.intro @ev_cntT (And.intro @ev_idxT (And.intro @et_bi (And.intro @ev_m1 (And.intro @et_m1 (And.intro @m1_s (And.intro @m1_t (And.intro @mt_stwD (And.intro @signs_mL (And.intro @efV_s (And.intro @efN_s (And.intro @it_s (And.intro @in_s (And.intro @notin_s (And.intro @eqv_sz (And.intro @eqv_zs (And.intro @eqv_ss (And.intro @eqv_cz (And.intro @isi_sG (And.intro @er_txt (And.intro @c_txt (And.intro @w_txt (And.intro @f_txt (And.intro @fs_txt (And.intro @isnt_n1 (@isnt_i1))))))))))))))))))))))))))))))
end DE

set_option Elab.async false
set_option linter.all false
set_option maxRecDepth 100000
set_option maxHeartbeats 4000000
/-! DE22: sums of entries as linear things; products of rows. -/
namespace DE
open PySem L2
/-- sums that begin with some entries -/
theorem sum_from {step : D → Rho → SR} {ρ : Rho} {es0 b : List Ent} {R : List Ent → Rho} (k : Ent → Ent) (hρ : ρ = R (sumA es0)) (hl : Sm (es0.length + b.length)) (h : ∀ as e, e ∈ b → NdA as → Sm as.length → step (eD e) (R as) = some (.nx (R (putA as (k e).1 ((getA as (k e).1).getD 0 + (k e).2))))) : forL step (mL eD b) ρ = some (.nx (R (sumA (es0 ++ b.map k)))) := by
  have := for_inv (f := eD) (xs := b) (step := step) (ρ := ρ) R (fun as e => putA as (k e).1 ((getA as (k e).1).getD 0 + (k e).2)) (fun pre as => as = sumA (es0 ++ pre.map k)) (sumA es0) hρ (by rw [List.map_nil, List.append_nil]) fun as pre e post he hi => by
    subst hi
    have hlen : pre.length + 1 ≤ b.length := by rw [he, List.length_append, List.length_cons]; omega
    have hs := sumA_len (es0 ++ pre.map k)
    rw [List.length_append, List.length_map] at hs
    refine ⟨h _ e (by rw [he]; simp) (sumA_nodup _) (by unfold Sm at *; omega), ?_⟩
    rw [List.map_append, ← List.append_assoc]
    exact (sumA_snoc _ (k e)).symm
  rw [this.1, this.2]
/-! ### products -/
def mulE (a b : List Ent) : List Ent := a.flatMap fun x => b.map fun y => (addP x.1 y.1, x.2 * y.2)
theorem mulE_cons (x : Ent) (a b : List Ent) : mulE (x :: a) b = (b.map fun y => (addP x.1 y.1, x.2 * y.2)) ++ mulE a b := rfl
theorem mulE_app (a a' b : List Ent) : mulE (a ++ a') b = mulE a b ++ mulE a' b := List.flatMap_append
theorem mulE_len (a b : List Ent) : (mulE a b).length = a.length * b.length := by
  induction a with
  | nil => simp [mulE]
  | cons x a ih => rw [mulE_cons, List.length_append, List.length_map, ih, List.length_cons, Nat.add_mul, Nat.one_mul, Nat.add_comm]
theorem Dim.mul {s : Nat} {a b : List Ent} (ha : Dim s a) (hb : Dim s b) : Dim s (mulE a b) := fun e he => by
  obtain ⟨x, hx, h⟩ := List.mem_flatMap.mp he
  obtain ⟨y, hy, rfl⟩ := List.mem_map.mp h
  show (addP x.1 y.1).length = s
  rw [addP_len (by rw [ha x hx, hb y hy])]
  exact ha x hx
theorem Bd.mul {m n : Int} {a b : List Ent} (ha : Bd m a) (hb : Bd n b) : Bd (m + n) (mulE a b) := fun e he => by
  obtain ⟨x, hx, h⟩ := List.mem_flatMap.mp he
  obtain ⟨y, hy, rfl⟩ := List.mem_map.mp h
  exact (ha x hx).add (hb y hy)
/-- all numbers may be multiplied by anything -/
def Sml (es : List Ent) : Prop := ∀ e ∈ es, small e.2 = true
def Num (n : Int) (es : List Ent) : Prop := ∀ e ∈ es, -n ≤ e.2 ∧ e.2 ≤ n
theorem Num.sml {n : Int} {es : List Ent} (h : Num n es) (hn : n < 2 ^ 63) : Sml es := fun e he => by
  have := h e he
  unfold small
  simp
  omega
theorem Num.mono {m n : Int} {es : List Ent} (h : Num m es) (hn : m ≤ n) : Num n es := fun e he => by
  have := h e he
  omega
/-- a linear form -/
def lin (es : List Ent) (f : Pl → Int) : Int := (es.map fun e => e.2 * f e.1).sum
theorem lin_nil (f : Pl → Int) : lin [] f = 0 := rfl
theorem lin_cons (e : Ent) (es : List Ent) (f : Pl → Int) : lin (e :: es) f = e.2 * f e.1 + lin es f := rfl
theorem lin_app (a b : List Ent) (f : Pl → Int) : lin (a ++ b) f = lin a f + lin b f := by
  unfold lin
  rw [List.map_append, List.sum_append]
theorem lin_cof (es : List Ent) (p : Pl) : cof es p = lin es fun q => if q = p then 1 else 0 := by
  induction es with
  | nil => rfl
  | cons e es ih =>
    rw [lin_cons, ← ih]
    show (if e.1 = p then e.2 else 0) + cof es p = _
    by_cases h : e.1 = p
    · rw [if_pos h, if_pos h, Int.mul_one]
    · rw [if_neg h, if_neg h, Int.mul_zero]
theorem lin_part (es : List Ent) (p : Pl) (f : Pl → Int) : lin es f = cof es p * f p + lin (es.filter fun e => !decide (e.1 = p)) f := by
  induction es with
  | nil => show (0 : Int) = 0 * f p + 0; rw [Int.zero_mul]; rfl
  | cons e es ih =>
    rw [lin_cons, ih]
    show _ = ((if e.1 = p then e.2 else 0) + cof es p) * f p + _
    by_cases h : e.1 = p
    · rw [if_pos h, List.filter_cons, if_neg (by simp [h]), h, Int.add_mul, Int.add_assoc]
    · rw [if_neg h, List.filter_cons, if_pos (by simp [h]), lin_cons, Int.zero_add]
      omega
theorem cof_filter (es : List Ent) (p q : Pl) : cof (es.filter fun e => !decide (e.1 = p)) q = if q = p then 0 else cof es q := by
  induction es with
  | nil => show (0 : Int) = if q = p then 0 else 0; split <;> rfl
  | cons e es ih =>
    by_cases h : e.1 = p
    · rw [List.filter_cons, if_neg (by simp [h]), ih]
      show _ = if q = p then 0 else (if e.1 = q then e.2 else 0) + cof es q
      by_cases hq : q = p
      · rw [if_pos hq, if_pos hq]
      · rw [if_neg hq, if_neg hq, if_neg (fun z => hq (by rw [← z, h]))]
        omega
    · rw [List.filter_cons, if_pos (by simp [h])]
      show (if e.1 = q then e.2 else 0) + cof _ q = if q = p then 0 else (if e.1 = q then e.2 else 0) + cof es q
      rw [ih]
      by_cases hq : q = p
      · rw [if_pos hq, if_pos hq, if_neg (fun z => h (by rw [z, hq]))]
        rfl
      · rw [if_neg hq, if_neg hq]
theorem lin_zero (f : Pl → Int) : ∀ (n : Nat) (es : List Ent), es.length ≤ n → (∀ p, cof es p = 0) → lin es f = 0
  | _, [], _, _ => rfl
  | 0, e :: es, h, _ => by simp at h
  | n + 1, e :: es, h, hz => by
    rw [lin_part (e :: es) e.1 f, hz, Int.zero_mul, Int.zero_add]
    refine lin_zero f n _ ?_ fun p => ?_
    · rw [List.filter_cons, if_neg (by simp)]
      have := List.length_filter_le (fun x : Ent => !decide (x.1 = e.1)) es
      rw [List.length_cons] at h
      omega
    · rw [cof_filter, hz]
      split <;> rfl
theorem lin_scl (es : List Ent) (k : Int) (f : Pl → Int) : lin (sclE es k) f = lin es f * k := by
  induction es with
  | nil => show (0 : Int) = 0 * k; rw [Int.zero_mul]
  | cons e es ih =>
    show e.2 * k * f e.1 + lin (sclE es k) f = (e.2 * f e.1 + lin es f) * k
    rw [ih, Int.add_mul, Int.mul_assoc, Int.mul_comm k, ← Int.mul_assoc]
theorem lin_ext {a b : List Ent} (h : ∀ p, cof a p = cof b p) (f : Pl → Int) : lin a f = lin b f := by
  have := lin_zero f _ (a ++ sclE b (-1)) (Nat.le_refl _) fun p => by
    rw [cof_app, cof_scl, h]
    omega
  rw [lin_app, lin_scl] at this
  omega
theorem lin_nf (es : List Ent) (f : Pl → Int) : lin (nf es) f = lin es f := lin_ext (nf_cof es) f
theorem lin_mir (es : List Ent) (f : Pl → Int) : lin (mirE es) f = lin es fun p => f (negP p) := by
  unfold lin mirE
  rw [List.map_map]
  rfl
theorem lin_perm {a b : List Ent} (h : a.Perm b) (f : Pl → Int) : lin a f = lin b f := lin_ext (cof_perm h) f
theorem lin_mul (a b : List Ent) (f : Pl → Int) : lin (mulE a b) f = lin a fun p => lin b fun q => f (addP p q) := by
  induction a with
  | nil => rfl
  | cons x a ih =>
    rw [mulE_cons, lin_app, ih, lin_cons]
    congr 1
    clear ih
    induction b with
    | nil => show (0 : Int) = x.2 * 0; rw [Int.mul_zero]
    | cons y b ihb =>
      show x.2 * y.2 * f (addP x.1 y.1) + lin (b.map fun y => (addP x.1 y.1, x.2 * y.2)) f = x.2 * (y.2 * f (addP x.1 y.1) + lin b fun q => f (addP x.1 q))
      rw [ihb, Int.mul_add, Int.mul_assoc]
theorem lin_fun_add (es : List Ent) (f g : Pl → Int) : lin es (fun p => f p + g p) = lin es f + lin es g := by
  induction es with
  | nil => rfl
  | cons e es ih => rw [lin_cons, lin_cons, lin_cons, ih, Int.mul_add]; omega
theorem lin_fun_mul (es : List Ent) (f : Pl → Int) (k : Int) : lin es (fun p => k * f p) = k * lin es f := by
  induction es with
  | nil => show (0 : Int) = k * 0; rw [Int.mul_zero]
  | cons e es ih => rw [lin_cons, lin_cons, ih, Int.mul_add, Int.mul_left_comm]
theorem lin_swap (a b : List Ent) (f : Pl → Pl → Int) : lin a (fun p => lin b fun q => f p q) = lin b fun q => lin a fun p => f p q := by
  induction a with
  | nil =>
    show (0 : Int) = lin b fun q => 0
    induction b with
    | nil => rfl
    | cons y b ih => rw [lin_cons, ← ih, Int.mul_zero]; rfl
  | cons x a ih =>
    rw [lin_cons, ih, ← lin_fun_mul, ← lin_fun_add]
    congr 1
theorem lin_congr {s : Nat} {es : List Ent} (h : Dim s es) {f g : Pl → Int} (hfg : ∀ p : Pl, p.length = s → f p = g p) : lin es f = lin es g := by
  unfold lin
  congr 1
  exact List.map_congr_left fun e he => by rw [hfg e.1 (h e he)]
/-- equal rows by linear forms -/
theorem nf_lin {a b : List Ent} (h : ∀ f, lin a f = lin b f) : nf a = nf b := nf_eq fun p => by rw [lin_cof, lin_cof, h]
theorem nf_mul_l (a b : List Ent) : nf (mulE (nf a) b) = nf (mulE a b) := nf_lin fun f => by rw [lin_mul, lin_mul, lin_nf]
theorem nf_mul_r (a b : List Ent) : nf (mulE a (nf b)) = nf (mulE a b) := nf_lin fun f => by
  rw [lin_mul, lin_mul]
  congr 1
  funext p
  rw [lin_nf]
theorem nf_mul_comm (a b : List Ent) : nf (mulE a b) = nf (mulE b a) := nf_lin fun f => by
  rw [lin_mul, lin_mul, lin_swap]
  congr 1
  funext q
  congr 1
  funext p
  rw [addP_comm]
theorem nf_mul_assoc (a b c : List Ent) : nf (mulE (mulE a b) c) = nf (mulE a (mulE b c)) := nf_lin fun f => by
  rw [lin_mul, lin_mul, lin_mul]
  congr 1
  funext p
  rw [lin_mul]
  congr 1
  funext q
  congr 1
  funext r
  rw [addP_assoc]
theorem mulE_num {m n : Int} {a b : List Ent} (ha : Num m a) (hb : Num n b) (hm : 0 ≤ m) (hn : 0 ≤ n) : Num (m * n) (mulE a b) := fun e he => by
  obtain ⟨x, hx, h⟩ := List.mem_flatMap.mp he
  obtain ⟨y, hy, rfl⟩ := List.mem_map.mp h
  show -(m * n) ≤ x.2 * y.2 ∧ x.2 * y.2 ≤ m * n
  have h1 := ha x hx
  have h2 := hb y hy
  have q1 : x.2 * y.2 ≤ m * n := by
    rcases Int.le_total 0 x.2 with hx0 | hx0
    · exact Int.le_trans (Int.mul_le_mul_of_nonneg_left h2.2 hx0) (Int.mul_le_mul_of_nonneg_right h1.2 hn)
    · have : x.2 * y.2 = (-x.2) * (-y.2) := by rw [Int.neg_mul_neg]
      rw [this]
      exact Int.le_trans (Int.mul_le_mul_of_nonneg_left (show -y.2 ≤ n by omega) (by omega)) (Int.mul_le_mul_of_nonneg_right (show -x.2 ≤ m by omega) hn)
  have q2 : -(x.2 * y.2) ≤ m * n := by
    rcases Int.le_total 0 x.2 with hx0 | hx0
    · have : -(x.2 * y.2) = x.2 * (-y.2) := by rw [Int.mul_neg]
      rw [this]
      exact Int.le_trans (Int.mul_le_mul_of_nonneg_left (show -y.2 ≤ n by omega) hx0) (Int.mul_le_mul_of_nonneg_right h1.2 hn)
    · have : -(x.2 * y.2) = (-x.2) * y.2 := by rw [Int.neg_mul]
      rw [this]
      exact Int.le_trans (Int.mul_le_mul_of_nonneg_left h2.2 (by omega)) (Int.mul_le_mul_of_nonneg_right (show -x.2 ≤ m by omega) hn)
  omega
theorem cof_bd {n : Int} {es : List Ent} (h : Num n es) (hn : 0 ≤ n) (p : Pl) : -(n * es.length) ≤ cof es p ∧ cof es p ≤ n * es.length := by
  induction es with
  | nil => show -(n * 0) ≤ 0 ∧ 0 ≤ n * 0; omega
  | cons e es ih =>
    have h1 := h e List.mem_cons_self
    have h2 := ih fun x hx => h x (List.mem_cons_of_mem _ hx)
    have e1 : n * ((e :: es).length : Nat) = n * (es.length : Nat) + n := by rw [List.length_cons]; push_cast; rw [Int.mul_add, Int.mul_one]
    rw [e1]
    show _ ≤ (if e.1 = p then e.2 else 0) + cof es p ∧ (if e.1 = p then e.2 else 0) + cof es p ≤ _
    split <;> omega
theorem Num.nf {n : Int} {es : List Ent} (h : Num n es) (hn : 0 ≤ n) : Num (n * es.length) (nf es) := fun e he => by
  rw [(nf_mem.mp he).1]
  exact cof_bd h hn e.1
/-! ### two dimensions -/
def Mixed (s t : Nat) (a b : List Ent) : Prop := a ≠ [] ∧ b ≠ [] ∧ s ≠ t
instance {s t : Nat} {a b : List Ent} : Decidable (Mixed s t a b) := inferInstanceAs (Decidable (a ≠ [] ∧ b ≠ [] ∧ s ≠ t))
theorem cdim_mixed {s t : Nat} {a b : List Ent} (ha : Dim s a) (hb : Dim t b) (s1 : 1 ≤ s) (h : Mixed s t a b) : cdim 0 [a, b] = none := by
  obtain ⟨x1, x2, x3⟩ := h
  cases a with
  | nil => exact absurd rfl x1
  | cons e r =>
    cases b with
    | nil => exact absurd rfl x2
    | cons g q =>
      have d1 : e.1.length = s := ha e List.mem_cons_self
      have d2 : g.1.length = t := hb g List.mem_cons_self
      show (if (e :: r) = [] then _ else if (0 : Nat) ≠ 0 ∧ _ then _ else (if (g :: q) = [] then _ else if e.1.length ≠ 0 ∧ g.1.length ≠ e.1.length then none else _)) = none
      rw [if_neg (by simp), if_neg (by simp), if_neg (by simp), if_pos (by omega)]
theorem cdim_alike {s t : Nat} {a b : List Ent} (ha : Dim s a) (hb : Dim t b) (h : ¬ Mixed s t a b) : ∃ n, cdim 0 [a, b] = some n := by
  cases a with
  | nil =>
    cases b with
    | nil => exact ⟨0, rfl⟩
    | cons g q => exact ⟨g.1.length, rfl⟩
  | cons e r =>
    have d1 : e.1.length = s := ha e List.mem_cons_self
    cases b with
    | nil => exact ⟨e.1.length, rfl⟩
    | cons g q =>
      have d2 : g.1.length = t := hb g List.mem_cons_self
      have hst : s = t := Classical.byContradiction fun z => h ⟨by simp, by simp, z⟩
      refine ⟨g.1.length, ?_⟩
      show (if (e :: r) = [] then _ else if (0 : Nat) ≠ 0 ∧ _ then _ else (if (g :: q) = [] then _ else if e.1.length ≠ 0 ∧ g.1.length ≠ e.1.length then none else some g.1.length)) = _
      rw [if_neg (by simp), if_neg (by simp), if_neg (by simp), if_neg (by omega)]
theorem alike_dim {s t : Nat} {a b : List Ent} (ha : Dim s a) (hb : Dim t b) (h : ¬ Mixed s t a b) : ∃ u, (u = s ∨ u = t) ∧ Dim u a ∧ Dim u b := by
  by_cases h1 : a = []
  · subst h1
    exact ⟨t, .inr rfl, dim_nil, hb⟩
  · by_cases h2 : b = []
    · subst h2
      exact ⟨s, .inl rfl, ha, dim_nil⟩
    · have : s = t := Classical.byContradiction fun z => h ⟨h1, h2, z⟩
      subst this
      exact ⟨s, .inl rfl, ha, hb⟩
end DE

set_option Elab.async false
set_option linter.all false
set_option maxRecDepth 100000
set_option maxHeartbeats 4000000
/-! DE23: products of rows: first and last entries, corners, cancelling; division in plain data. -/
namespace DE
open PySem L2
theorem lt_no {p : Pl} (h : p < p) : False := List.lt_irrefl _ h
theorem lt_tr {p q r : Pl} (h : p < q) (k : q < r) : p < r := List.lt_trans h k
theorem lt_ne {p q : Pl} (h : p < q) : p ≠ q := fun z => lt_no (z ▸ h)
theorem addP_ltl {p q r : Pl} (h1 : p.length = r.length) (h2 : q.length = r.length) (h : p < q) : addP r p < addP r q := by
  rw [addP_comm r p, addP_comm r q]
  exact addP_lt h1 h2 h
/-- places of the same length, in order from the first -/
theorem srt_head {e : Ent} {es : List Ent} (h : Srt (e :: es)) : ∀ x ∈ es, e.1 < x.1 := fun x hx => (List.pairwise_cons.mp h.ord).1 x hx
theorem mul_low {s : Nat} {f q : Ent} {F Q : List Ent} (hF : Srt (f :: F)) (hQ : Srt (q :: Q)) (dF : Dim s (f :: F)) (dQ : Dim s (q :: Q)) : ∀ x ∈ f :: F, ∀ y ∈ q :: Q, (x = f ∧ y = q) ∨ addP f.1 q.1 < addP x.1 y.1 := fun x hx y hy => by
  have lf := dF f List.mem_cons_self
  have lq := dQ q List.mem_cons_self
  have lx := dF x hx
  have ly := dQ y hy
  rcases List.mem_cons.mp hx with rfl | hx
  · rcases List.mem_cons.mp hy with rfl | hy
    · exact .inl ⟨rfl, rfl⟩
    · exact .inr (addP_ltl (by omega) (by omega) (srt_head hQ y hy))
  · have h1 : addP f.1 q.1 < addP x.1 q.1 := addP_lt (by omega) (by omega) (srt_head hF x hx)
    rcases List.mem_cons.mp hy with rfl | hy
    · exact .inr h1
    · exact .inr (lt_tr h1 (addP_ltl (by omega) (by omega) (srt_head hQ y hy)))
theorem lin_on {es : List Ent} {f g : Pl → Int} (h : ∀ e ∈ es, f e.1 = g e.1) : lin es f = lin es g := by
  unfold lin
  congr 1
  exact List.map_congr_left fun e he => by rw [h e he]
theorem lin_null (es : List Ent) : (lin es fun _ => 0) = 0 := by
  induction es with
  | nil => rfl
  | cons e es ih => rw [lin_cons, ih]; omega
theorem lin_off {es : List Ent} {f : Pl → Int} (h : ∀ e ∈ es, f e.1 = 0) : lin es f = 0 := by rw [lin_on (g := fun _ => 0) h, lin_null]
theorem cof_mul (a b : List Ent) (p : Pl) : cof (mulE a b) p = lin a fun x => lin b fun y => if addP x y = p then 1 else 0 := by rw [lin_cof, lin_mul]
theorem cof_first {s : Nat} {f q : Ent} {F Q : List Ent} (hF : Srt (f :: F)) (hQ : Srt (q :: Q)) (dF : Dim s (f :: F)) (dQ : Dim s (q :: Q)) : cof (mulE (f :: F) (q :: Q)) (addP f.1 q.1) = f.2 * q.2 := by
  rw [cof_mul, lin_cons]
  have low := mul_low hF hQ dF dQ
  have h2 : (lin F fun x => lin (q :: Q) fun y => if addP x y = addP f.1 q.1 then 1 else 0) = 0 := lin_off fun x hx => lin_off fun y hy => by
    rcases low x (List.mem_cons_of_mem _ hx) y hy with ⟨z, _⟩ | z
    · exact absurd (srt_head hF x hx) (by rw [z]; exact List.lt_irrefl _)
    · exact if_neg fun w => lt_no (w ▸ z)
  have h3 : (lin Q fun y => if addP f.1 y = addP f.1 q.1 then 1 else 0) = 0 := lin_off fun y hy => by
    rcases low f List.mem_cons_self y (List.mem_cons_of_mem _ hy) with ⟨_, z⟩ | z
    · exact absurd (srt_head hQ y hy) (by rw [z]; exact List.lt_irrefl _)
    · exact if_neg fun w => lt_no (w ▸ z)
  rw [h2, lin_cons, h3, if_pos rfl, Int.mul_one, Int.add_zero, Int.add_zero]
theorem head_least {R : List Ent} {e : Ent} (hR : Srt R) (he : e ∈ R) (h : ∀ x ∈ R, x.1 = e.1 ∨ e.1 < x.1) : ∃ r, R = e :: r := by
  cases R with
  | nil => cases he
  | cons x r =>
    rcases List.mem_cons.mp he with rfl | he
    · exact ⟨r, rfl⟩
    · have h1 := srt_head hR e he
      rcases h x List.mem_cons_self with z | z
      · exact absurd h1 (by rw [z]; exact List.lt_irrefl _)
      · exact absurd (lt_tr h1 z) (List.lt_irrefl _)
theorem nf_first {s : Nat} {f q : Ent} {F Q : List Ent} (hF : Srt (f :: F)) (hQ : Srt (q :: Q)) (dF : Dim s (f :: F)) (dQ : Dim s (q :: Q)) : ∃ r, nf (mulE (f :: F) (q :: Q)) = (addP f.1 q.1, f.2 * q.2) :: r := by
  have hc := cof_first hF hQ dF dQ
  refine head_least (nf_srt _) (nf_mem.mpr ⟨hc.symm, Int.mul_ne_zero (hF.nz f List.mem_cons_self) (hQ.nz q List.mem_cons_self)⟩) fun x hx => ?_
  obtain ⟨y, hy, e⟩ := nf_key hx
  obtain ⟨a, ha, hb⟩ := List.mem_flatMap.mp hy
  obtain ⟨b, hq1, rfl⟩ := List.mem_map.mp hb
  rcases mul_low hF hQ dF dQ a ha b hq1 with ⟨rfl, rfl⟩ | z
  · exact .inl e.symm
  · exact .inr (by rw [← e]; exact z)
theorem mulE_nil (a : List Ent) : mulE a [] = [] := by
  unfold mulE
  simp
theorem nil_mulE (a : List Ent) : mulE [] a = [] := rfl
/-- no zero divisors -/
theorem mul_null {s : Nat} {F X : List Ent} (hF : Srt F) (hX : Srt X) (dF : Dim s F) (dX : Dim s X) (hne : F ≠ []) (h : nf (mulE F X) = []) : X = [] := by
  cases X with
  | nil => rfl
  | cons q Q =>
    cases F with
    | nil => exact absurd rfl hne
    | cons f F =>
      obtain ⟨r, e⟩ := nf_first hF hX dF dX
      rw [h] at e
      cases e
theorem dim_neg {s : Nat} {es : List Ent} (h : Dim s es) : Dim s (negE es) := h.neg
theorem lin_negE (es : List Ent) (f : Pl → Int) : lin (negE es) f = -lin es f := by rw [negE_scl, lin_scl]; omega
/-- a factor cancels -/
theorem mul_cancel {s : Nat} {F A B : List Ent} (hF : Srt F) (dF : Dim s F) (hne : F ≠ []) (hA : Srt A) (hB : Srt B) (dA : Dim s A) (dB : Dim s B) (h : nf (mulE F A) = nf (mulE F B)) : A = B := by
  have hl : ∀ f, lin (mulE F A) f = lin (mulE F B) f := fun f => by rw [← lin_nf, h, lin_nf]
  have h0 : nf (mulE F (nf (A ++ negE B))) = [] := by
    rw [nf_mul_r]
    refine nf_of srt_nil fun p => ?_
    rw [lin_cof, lin_mul]
    have e1 := hl fun q => if q = p then 1 else 0
    rw [lin_mul, lin_mul] at e1
    have e2 : (lin F fun x => lin (A ++ negE B) fun y => if addP x y = p then 1 else 0) = (lin F fun x => lin A fun y => if addP x y = p then 1 else 0) - (lin F fun x => lin B fun y => if addP x y = p then 1 else 0) := by
      have e3 : ∀ x : Pl, (lin (A ++ negE B) fun y => if addP x y = p then 1 else 0) = (lin A fun y => if addP x y = p then 1 else 0) + (-1) * (lin B fun y => if addP x y = p then 1 else 0) := fun x => by rw [lin_app, lin_negE]; omega
      rw [show (fun x => lin (A ++ negE B) fun y => if addP x y = p then 1 else 0) = (fun x => (lin A fun y => if addP x y = p then 1 else 0) + (-1) * (lin B fun y => if addP x y = p then 1 else 0)) from funext e3, lin_fun_add, lin_fun_mul]
      omega
    rw [e2]
    show _ = (0 : Int)
    omega
  have := mul_null hF (nf_srt _) dF (dA.app dB.neg).nf hne h0
  refine srt_ext hA hB fun p => ?_
  have e : cof (nf (A ++ negE B)) p = 0 := by rw [this]; rfl
  rw [nf_cof, cof_app, cof_neg] at e
  omega
/-- φ least in both: such an entry stands in the product -/
theorem mul_corner {s : Nat} {F Q : List Ent} (hF : Srt F) (hQ : Srt Q) (dF : Dim s F) (dQ : Dim s Q) (φ : Pl → Int) (hφ : ∀ p q : Pl, p.length = s → q.length = s → φ (addP p q) = φ p + φ q) {f q : Ent} (hf : f ∈ F) (hq : q ∈ Q) (lf : ∀ x ∈ F, φ f.1 ≤ φ x.1) (lq : ∀ x ∈ Q, φ q.1 ≤ φ x.1) :
    ∃ e ∈ nf (mulE F Q), φ e.1 = φ f.1 + φ q.1 := by
  let cF := fun x : Ent => decide (φ x.1 = φ f.1)
  let cQ := fun x : Ent => decide (φ x.1 = φ q.1)
  have sF : Srt (F.filter cF) := ⟨hF.ord.filter _, fun e he => hF.nz e (List.mem_filter.mp he).1⟩
  have sQ : Srt (Q.filter cQ) := ⟨hQ.ord.filter _, fun e he => hQ.nz e (List.mem_filter.mp he).1⟩
  have d1 : Dim s (F.filter cF) := fun e he => dF e (List.mem_filter.mp he).1
  have d2 : Dim s (Q.filter cQ) := fun e he => dQ e (List.mem_filter.mp he).1
  have m1 : f ∈ F.filter cF := List.mem_filter.mpr ⟨hf, by simp [cF]⟩
  have m2 : q ∈ Q.filter cQ := List.mem_filter.mpr ⟨hq, by simp [cQ]⟩
  cases hF' : F.filter cF with
  | nil => rw [hF'] at m1; cases m1
  | cons f0 F' =>
    cases hQ' : Q.filter cQ with
    | nil => rw [hQ'] at m2; cases m2
    | cons q0 Q' =>
      have i1 : f0 ∈ F.filter cF := by rw [hF']; exact List.mem_cons_self
      have i2 : q0 ∈ Q.filter cQ := by rw [hQ']; exact List.mem_cons_self
      have v1 : φ f0.1 = φ f.1 := by simpa [cF] using (List.mem_filter.mp i1).2
      have v2 : φ q0.1 = φ q.1 := by simpa [cQ] using (List.mem_filter.mp i2).2
      have l1 := d1 f0 i1
      have l2 := d2 q0 i2
      rw [hF'] at sF d1
      rw [hQ'] at sQ d2
      have hc := cof_first sF sQ d1 d2
      have sub : ∀ (es : List Ent) (c : Ent → Bool) (g : Pl → Int), (∀ e ∈ es, c e = false → g e.1 = 0) → lin es g = lin (es.filter c) g := by
        intro es c g h
        induction es with
        | nil => rfl
        | cons e es ih =>
          have ih := ih fun x hx => h x (List.mem_cons_of_mem _ hx)
          cases hce : c e with
          | true => rw [List.filter_cons_of_pos (by simp [hce]), lin_cons, lin_cons, ih]
          | false => rw [List.filter_cons_of_neg (by simp [hce]), lin_cons, ih, h e List.mem_cons_self hce]; omega
      have key : cof (mulE F Q) (addP f0.1 q0.1) = cof (mulE (f0 :: F') (q0 :: Q')) (addP f0.1 q0.1) := by
        rw [cof_mul, cof_mul, ← hF', ← hQ']
        have a1 : (lin F fun x => lin Q fun y => if addP x y = addP f0.1 q0.1 then 1 else 0) = lin (F.filter cF) fun x => lin Q fun y => if addP x y = addP f0.1 q0.1 then 1 else 0 := by
          refine sub F cF _ fun x hx hcx => lin_off fun y hy => if_neg fun w => ?_
          have hne : φ x.1 ≠ φ f.1 := by simpa [cF] using hcx
          have := hφ x.1 y.1 (dF x hx) (dQ y hy)
          rw [w, hφ f0.1 q0.1 l1 l2] at this
          have := lf x hx
          have := lq y hy
          omega
        rw [a1]
        refine lin_on fun x hx => ?_
        refine sub Q cQ _ fun y hy hcy => if_neg fun w => ?_
        have hne : φ y.1 ≠ φ q.1 := by simpa [cQ] using hcy
        have := hφ x.1 y.1 (dF x (List.mem_filter.mp hx).1) (dQ y hy)
        rw [w, hφ f0.1 q0.1 l1 l2] at this
        have := lf x (List.mem_filter.mp hx).1
        have := lq y hy
        omega
      refine ⟨(addP f0.1 q0.1, f0.2 * q0.2), nf_mem.mpr ⟨by rw [key, hc], Int.mul_ne_zero (sF.nz f0 List.mem_cons_self) (sQ.nz q0 List.mem_cons_self)⟩, ?_⟩
      show φ (addP f0.1 q0.1) = _
      rw [hφ f0.1 q0.1 l1 l2]
      omega
end DE

set_option Elab.async false
set_option linter.all false
set_option maxRecDepth 100000
set_option maxHeartbeats 4000000
/-! DE24: dicts that lose keys, their least key; boxes; while. -/
namespace DE
open PySem L2
/-! ### while -/
theorem while_go {test : Rho → Ans Bool} {body : Rho → SR} {S : Type} (R : S → Rho) (I : S → Prop) (T : S → Bool) (F : S → S) (μ : S → Nat) (ht : ∀ s, I s → test (R s) = some (.ok (T s)))
    (hb : ∀ s, I s → T s = true → body (R s) = some (.nx (R (F s))) ∧ I (F s) ∧ μ (F s) < μ s) : ∀ (n : Nat) (s : S), I s → μ s < n → ∃ s', whileL test body n (R s) = some (.nx (R s')) ∧ I s' ∧ T s' = false
  | 0, s, _, h => absurd h (by omega)
  | n + 1, s, i, h => by
    cases t : T s with
    | false =>
      refine ⟨s, ?_, i, t⟩
      unfold whileL
      rw [ht s i, t]
      rfl
    | true =>
      obtain ⟨b1, b2, b3⟩ := hb s i t
      obtain ⟨s', w1, w2, w3⟩ := while_go R I T F μ ht hb n (F s) b2 (by omega)
      refine ⟨s', ?_, w2, w3⟩
      unfold whileL
      rw [ht s i, t]
      show (match body (R s) with | some (.nx ρ') => whileL test body n ρ' | some (.ct ρ') => whileL test body n ρ' | some (.bk ρ') => some (.nx ρ') | some (.rt r) => some (.rt r) | some (.er e ρ') => some (.er e ρ') | none => none) = _
      rw [b1]
      exact w1
/-! ### a key goes -/
def delA (as : List Ent) (p : Pl) : List Ent := as.filter fun e => !decide (e.1 = p)
theorem del_cons (e : Ent) (as : List Ent) (p : Pl) : delA (e :: as) p = if e.1 = p then delA as p else e :: delA as p := by
  unfold delA
  by_cases h : e.1 = p
  · rw [if_pos h, List.filter_cons_of_neg (by simp [h])]
  · rw [if_neg h, List.filter_cons_of_pos (by simp [h])]
theorem ddel_A (p : Pl) : ∀ as : List Ent, (ksA as).filter (fun k => decide (k ≠ kI p)) = ksA (delA as p) ∧ ddelV (ksA as) (vsA as) (kI p) = vsA (delA as p)
  | [] => ⟨rfl, rfl⟩
  | e :: as => by
    obtain ⟨i1, i2⟩ := ddel_A p as
    have e1 : ddelV (ksA (e :: as)) (vsA (e :: as)) (kI p) = if kI e.1 = kI p then ddelV (ksA as) (vsA as) (kI p) else D.int e.2 :: ddelV (ksA as) (vsA as) (kI p) := rfl
    rw [del_cons, e1]
    by_cases h : e.1 = p
    · subst h
      rw [if_pos rfl, if_pos rfl]
      exact ⟨by rw [← i1]; exact List.filter_cons_of_neg (by simp), i2⟩
    · have h' : ¬kI e.1 = kI p := fun z => h (kI_inj z)
      rw [if_neg h, if_neg h']
      refine ⟨?_, by rw [i2]; rfl⟩
      show List.filter _ (kI e.1 :: ksA as) = kI e.1 :: ksA (delA as p)
      rw [List.filter_cons_of_pos (by simpa using h'), i1]
theorem pop_dO {i : Nat} {ρ : Rho} {as : List Ent} {p : Pl} {n : Int} (h : getA as p = some n) : popS i ρ (some (some (.own (dO as)))) (some (.ok (.dat (pD p)))) = some (.nx (ρ.set i (some (.own (dO (delA as p)))))) := by
  show popX i ρ (ksA as) (vsA as) (.dat (pD p)) = _
  unfold popX
  simp only
  rw [tkeyOf_pD]
  simp only
  rw [dget_A, h]
  show some (SO.nx (ρ.set i (some (.own (.tT ((ksA as).filter fun k => decide (k ≠ kI p)) (ddelV (ksA as) (vsA as) (kI p))))))) = _
  rw [(ddel_A p as).1, (ddel_A p as).2]
  rfl
theorem getA_del (p q : Pl) : ∀ as : List Ent, getA (delA as p) q = if p = q then none else getA as q
  | [] => by
    have e : getA (delA [] p) q = none := rfl
    rw [e]
    split <;> rfl
  | e :: as => by
    have ih := getA_del p q as
    rw [del_cons]
    by_cases h : e.1 = p
    · rw [if_pos h, ih]
      by_cases hq : p = q
      · rw [if_pos hq, if_pos hq]
      · rw [if_neg hq, if_neg hq]
        show _ = if e.1 = q then some e.2 else getA as q
        rw [if_neg (by rw [h]; exact hq)]
    · rw [if_neg h]
      show (if e.1 = q then some e.2 else getA (delA as p) q) = _
      rw [ih]
      by_cases hq : p = q
      · rw [if_pos hq, if_pos hq, if_neg (by rw [← hq]; exact h)]
      · rw [if_neg hq, if_neg hq]
        rfl
theorem del_nd {as : List Ent} (h : NdA as) (p : Pl) : NdA (delA as p) := by
  unfold NdA delA at *
  exact h.sublist ((List.filter_sublist ..).map _)
theorem del_len (as : List Ent) (p : Pl) : (delA as p).length ≤ as.length := List.length_filter_le ..
theorem del_mem {as : List Ent} {p : Pl} {e : Ent} : e ∈ delA as p ↔ e ∈ as ∧ e.1 ≠ p := by
  unfold delA
  rw [List.mem_filter]
  simp
/-! ### the least key -/
def bestP (p : Pl) (r : List Pl) : Pl := r.foldl (fun b x => if x < b then x else b) p
def minA : List Ent → Pl
  | [] => []
  | e :: r => bestP e.1 (r.map (·.1))
theorem best_kI (p : Pl) : ∀ r : List Pl, bestK ltK (kI p) (r.map kI) = kI (bestP p r) := fun r => by
  unfold bestK bestP
  induction r generalizing p with
  | nil => rfl
  | cons x r ih =>
    rw [List.map_cons, List.foldl_cons, List.foldl_cons, ← ih]
    congr 1
    have e : ltK (kI x) (kI p) = decide (x < p) := by
      unfold ltK
      rw [tkeyD_kI, tkeyD_kI, lt_pD]
    rw [e]
    by_cases h : x < p
    · rw [if_pos (by simpa using h), if_pos h]
    · rw [if_neg (by simpa using h), if_neg h]
theorem best_mem (p : Pl) (r : List Pl) : bestP p r ∈ p :: r := by
  unfold bestP
  induction r generalizing p with
  | nil => exact List.mem_cons_self
  | cons x r ih =>
    rw [List.foldl_cons]
    by_cases h : x < p
    · rw [if_pos h]
      exact List.mem_cons_of_mem _ (ih x)
    · rw [if_neg h]
      rcases List.mem_cons.mp (ih p) with e | e
      · rw [e]; exact List.mem_cons_self
      · exact List.mem_cons_of_mem _ (List.mem_cons_of_mem _ e)
theorem pl_tri : ∀ a b : Pl, a < b ∨ a = b ∨ b < a
  | [], [] => .inr (.inl rfl)
  | [], _ :: _ => .inl (List.nil_lt_cons _ _)
  | _ :: _, [] => .inr (.inr (List.nil_lt_cons _ _))
  | x :: a, y :: b => by
    rw [List.cons_lt_cons_iff, List.cons_lt_cons_iff]
    rcases Int.lt_trichotomy x y with h | h | h
    · exact .inl (.inl h)
    · subst h
      rcases pl_tri a b with k | k | k
      · exact .inl (.inr ⟨rfl, k⟩)
      · exact .inr (.inl (by rw [k]))
      · exact .inr (.inr (.inr ⟨rfl, k⟩))
    · exact .inr (.inr (.inl h))
/-- a < b, b not above c -/
theorem lt_le {a b c : Pl} (h : a < b) (k : ¬c < b) : a < c := by
  rcases pl_tri b c with z | z | z
  · exact lt_tr h z
  · rw [← z]; exact h
  · exact absurd z k
theorem le_lt {a b c : Pl} (k : ¬b < a) (h : b < c) : a < c := by
  rcases pl_tri a b with z | z | z
  · exact lt_tr z h
  · rw [z]; exact h
  · exact absurd z k
theorem best_le (p : Pl) (r : List Pl) : ∀ x ∈ p :: r, ¬x < bestP p r := by
  unfold bestP
  induction r generalizing p with
  | nil =>
    intro x hx
    rw [List.mem_singleton.mp hx]
    exact List.lt_irrefl _
  | cons y r ih =>
    intro x hx
    rw [List.foldl_cons]
    by_cases h : y < p
    · rw [if_pos h]
      rcases List.mem_cons.mp hx with rfl | hx
      · exact fun z => ih y y List.mem_cons_self (lt_tr h z)
      · exact ih y x hx
    · rw [if_neg h]
      rcases List.mem_cons.mp hx with rfl | hx
      · exact ih x x List.mem_cons_self
      · rcases List.mem_cons.mp hx with rfl | hx
        · exact fun z => h (lt_le z (ih p p List.mem_cons_self))
        · exact ih p x (List.mem_cons_of_mem _ hx)
theorem minA_mem {as : List Ent} (h : as ≠ []) : minA as ∈ as.map (·.1) := by
  cases as with
  | nil => exact absurd rfl h
  | cons e r => exact best_mem e.1 (r.map (·.1))
theorem minA_le {as : List Ent} : ∀ x ∈ as, ¬x.1 < minA as := fun x hx => by
  cases as with
  | nil => cases hx
  | cons e r => exact best_le e.1 (r.map (·.1)) x.1 (List.mem_map.mpr ⟨x, hx, rfl⟩)
theorem min_dO {as : List Ent} (h : as ≠ []) (hne : ∀ p ∈ as.map (·.1), p ≠ []) : biV .min [.br (dO as)] = some (.dat (pD (minA as))) := by
  cases as with
  | nil => exact absurd rfl h
  | cons e r =>
    have e1 : (ksA (e :: r)).map tkeyD = ((e :: r).map (·.1)).map pD := by
      rw [List.map_map, List.map_map]
      exact List.map_congr_left fun x _ => tkeyD_kI x.1
    show (if sortOk ((ksA (e :: r)).map tkeyD) = true then minT (ksA (e :: r)) else none) = _
    rw [e1, if_pos (sortOk_P _ hne)]
    show some (RV.dat (tkeyD (bestK ltK (kI e.1) (ksA r)))) = _
    have e2 : ksA r = (r.map (·.1)).map kI := by rw [List.map_map]; rfl
    rw [e2, best_kI, tkeyD_kI]
    rfl
theorem tru_dO0 : truV (.br (dO [])) = some false := rfl
theorem tru_dO1 {e : Ent} {as : List Ent} : truV (.br (dO (e :: as))) = some true := rfl
theorem tru_dO {as : List Ent} : truV (.br (dO as)) = some (!as.isEmpty) := by cases as <;> rfl
/-! ### boxes -/
theorem getD_add {p q : Pl} {i : Nat} (hp : i < p.length) (hq : i < q.length) : (addP p q).getD i 0 = p.getD i 0 + q.getD i 0 := by
  unfold addP
  rw [List.getD_eq_getElem?_getD, List.getD_eq_getElem?_getD, List.getD_eq_getElem?_getD, List.getElem?_zipWith, List.getElem?_eq_getElem hp, List.getElem?_eq_getElem hq]
  rfl
theorem getD_sub {p q : Pl} {i : Nat} (hp : i < p.length) (hq : i < q.length) : (subP p q).getD i 0 = p.getD i 0 - q.getD i 0 := by
  unfold subP
  rw [List.getD_eq_getElem?_getD, List.getD_eq_getElem?_getD, List.getD_eq_getElem?_getD, List.getElem?_zipWith, List.getElem?_eq_getElem hp, List.getElem?_eq_getElem hq]
  rfl
theorem getD_neg {p : Pl} {i : Nat} (hp : i < p.length) : (negP p).getD i 0 = -p.getD i 0 := by
  unfold negP
  rw [List.getD_eq_getElem?_getD, List.getD_eq_getElem?_getD, List.getElem?_map, List.getElem?_eq_getElem hp]
  rfl
/-- between the corners, by places -/
def InP (s : Nat) (lo hi p : Pl) : Prop := p.length = s ∧ ∀ i, i < s → lo.getD i 0 ≤ p.getD i 0 ∧ p.getD i 0 ≤ hi.getD i 0
def volP : Pl → Pl → Int
  | l :: ls, h :: hs => (h - l + 1) * volP ls hs
  | _, _ => 1
def cdP : Pl → Pl → Pl → Int
  | l :: ls, h :: hs, x :: xs => (x - l) * volP ls hs + cdP ls hs xs
  | _, _, _ => 0
theorem in_tl {s : Nat} {l h x : Int} {ls hs xs : Pl} (k : InP (s + 1) (l :: ls) (h :: hs) (x :: xs)) : l ≤ x ∧ x ≤ h ∧ InP s ls hs xs := by
  obtain ⟨k1, k2⟩ := k
  refine ⟨(k2 0 (by omega)).1, (k2 0 (by omega)).2, by simpa using k1, fun i hi => ?_⟩
  have := k2 (i + 1) (by omega)
  simpa using this
theorem cd_bd : ∀ {s : Nat} {lo hi p : Pl}, lo.length = s → hi.length = s → InP s lo hi p → 0 ≤ cdP lo hi p ∧ cdP lo hi p < volP lo hi
  | 0, [], [], p, _, _, h => ⟨by cases p <;> exact Int.le_refl _, by cases p <;> exact Int.zero_lt_one⟩
  | s + 1, l :: ls, h :: hs, [], _, _, k => absurd k.1 (by simp)
  | s + 1, l :: ls, h :: hs, x :: xs, e1, e2, k => by
    obtain ⟨k1, k2, k3⟩ := in_tl k
    obtain ⟨i1, i2⟩ := cd_bd (by simpa using e1) (by simpa using e2) k3
    show 0 ≤ (x - l) * volP ls hs + cdP ls hs xs ∧ (x - l) * volP ls hs + cdP ls hs xs < (h - l + 1) * volP ls hs
    have a1 : 0 ≤ (x - l) * volP ls hs := Int.mul_nonneg (by omega) (by omega)
    have a2 : (x - l + 1) * volP ls hs ≤ (h - l + 1) * volP ls hs := Int.mul_le_mul_of_nonneg_right (by omega) (by omega)
    have a3 : (x - l + 1) * volP ls hs = (x - l) * volP ls hs + volP ls hs := by rw [Int.add_mul, Int.one_mul]
    omega
theorem cd_lt : ∀ {s : Nat} {lo hi p q : Pl}, lo.length = s → hi.length = s → InP s lo hi p → InP s lo hi q → p < q → cdP lo hi p < cdP lo hi q
  | 0, [], [], p, q, _, _, hp, hq, h => by
    have e1 := List.length_eq_zero_iff.mp hp.1
    have e2 := List.length_eq_zero_iff.mp hq.1
    subst e1 e2
    exact absurd h (List.lt_irrefl _)
  | s + 1, l :: ls, h :: hs, [], _, _, _, k, _, _ => absurd k.1 (by simp)
  | s + 1, l :: ls, h :: hs, _, [], _, _, _, k, _ => absurd k.1 (by simp)
  | s + 1, l :: ls, h :: hs, x :: xs, y :: ys, e1, e2, kp, kq, hlt => by
    obtain ⟨k1, k2, k3⟩ := in_tl kp
    obtain ⟨q1, q2, q3⟩ := in_tl kq
    have l1 : ls.length = s := by simpa using e1
    have l2 : hs.length = s := by simpa using e2
    obtain ⟨i1, i2⟩ := cd_bd l1 l2 k3
    obtain ⟨j1, j2⟩ := cd_bd l1 l2 q3
    show (x - l) * volP ls hs + cdP ls hs xs < (y - l) * volP ls hs + cdP ls hs ys
    rw [List.cons_lt_cons_iff] at hlt
    rcases hlt with z | ⟨z1, z2⟩
    · have a2 : (x - l + 1) * volP ls hs ≤ (y - l) * volP ls hs := Int.mul_le_mul_of_nonneg_right (by omega) (by omega)
      have a3 : (x - l + 1) * volP ls hs = (x - l) * volP ls hs + volP ls hs := by rw [Int.add_mul, Int.one_mul]
      omega
    · subst z1
      have := cd_lt l1 l2 k3 q3 z2
      omega
end DE
namespace DE
theorem asgT_e {ρ : Rho} {i j : Nat} {e : Ent} : asgTS [i, j] ρ (some (.ok (.dat (eD e)))) = some (.nx ((ρ.set i (some (.dat (pD e.1)))).set j (some (.dat (.int e.2))))) := rfl
theorem is_ln {α : Type} {f : α → D} {xs : List α} : cmpV .is_ (.dat (lD f xs)) (.dat .non) = some false := rfl
theorem is_nn : cmpV .is_ (.dat .non) (.dat .non) = some true := rfl
theorem isnt_ln {α : Type} {f : α → D} {xs : List α} : cmpV .isnt (.dat (lD f xs)) (.dat .non) = some true := rfl
theorem isnt_nn : cmpV .isnt (.dat .non) (.dat .non) = some false := rfl
/-! ### a chain as a value -/
def chE (o o' : COp) (a b : EvR) (c : Rho → EvR) (ρ : Rho) : EvR := bindR a fun x => bindR b fun y => bindR (optR (cmpV o x y)) fun k => match k with
  | true => bindR (c ρ) fun z => optR (blR (cmpV o' y z))
  | false => some (.ok (.dat (.bl false)))
theorem ev_chain {C : Cfg} {ρ : Rho} {o o' : COp} {a b c : IE} : evE C (.chain o o' a b c) ρ = chE o o' (evE C a ρ) (evE C b ρ) (evE C c) ρ := by rw [evE] <;> rfl
theorem chE_le {i j k : Int} {c : Rho → EvR} {ρ : Rho} (h : c ρ = some (.ok (.dat (.int k)))) : chE .le .le (some (.ok (.dat (.int i)))) (some (.ok (.dat (.int j)))) c ρ = some (.ok (.dat (.bl (decide (i ≤ j) && decide (j ≤ k))))) := by
  show (match decide (i ≤ j) with | true => bindR (c ρ) fun z => optR (blR (cmpV .le (.dat (.int j)) z)) | false => some (.ok (.dat (.bl false)))) = _
  rw [h]
  cases decide (i ≤ j) <;> rfl
end DE

set_option Elab.async false
set_option linter.all false
set_option maxRecDepth 100000
set_option maxHeartbeats 4000000
/-! DE25: division of rows in plain data. -/
namespace DE
open PySem L2
theorem lo_le {ns : List Int} : ∀ x ∈ ns, lstMin ns ≤ x := fun x hx => by
  cases ns with
  | nil => cases hx
  | cons n r => exact foldl_min_le r n x hx
theorem le_hi {ns : List Int} : ∀ x ∈ ns, x ≤ lstMax ns := fun x hx => by
  cases ns with
  | nil => cases hx
  | cons n r => exact foldl_max_ge r n x hx
theorem low_getD {es : List Ent} {s i : Nat} (h : i < s) : (lowP es s).getD i 0 = lstMin (colI es i) := by
  unfold lowP
  rw [List.getD_eq_getElem?_getD, List.getElem?_map, List.getElem?_range h]
  rfl
theorem top_getD {es : List Ent} {s i : Nat} (h : i < s) : (topP es s).getD i 0 = lstMax (colI es i) := by
  unfold topP
  rw [List.getD_eq_getElem?_getD, List.getElem?_map, List.getElem?_range h]
  rfl
theorem col_mem {es : List Ent} {e : Ent} (i : Nat) (h : e ∈ es) : e.1.getD i 0 ∈ colI es i := List.mem_map.mpr ⟨e, h, rfl⟩
theorem in_row {s : Nat} {es : List Ent} {e : Ent} (h : e ∈ es) (hd : Dim s es) : InP s (lowP es s) (topP es s) e.1 := ⟨hd e h, fun i hi => by
  rw [low_getD hi, top_getD hi]
  exact ⟨lo_le _ (col_mem i h), le_hi _ (col_mem i h)⟩⟩
theorem ex_low {es : List Ent} (h : es ≠ []) (i : Nat) : ∃ e ∈ es, e.1.getD i 0 = lstMin (colI es i) := by
  have : lstMin (colI es i) ∈ colI es i := lstMin_mem (by unfold colI; simpa using h)
  obtain ⟨e, he, q⟩ := List.mem_map.mp this
  exact ⟨e, he, q⟩
theorem ex_top {es : List Ent} (h : es ≠ []) (i : Nat) : ∃ e ∈ es, e.1.getD i 0 = lstMax (colI es i) := by
  have : lstMax (colI es i) ∈ colI es i := lstMax_mem (by unfold colI; simpa using h)
  obtain ⟨e, he, q⟩ := List.mem_map.mp this
  exact ⟨e, he, q⟩
/-! ### dicts without zeros -/
structure Gd (s : Nat) (as : List Ent) : Prop where
  nd : NdA as
  nz : ∀ e ∈ as, e.2 ≠ 0
  dim : Dim s as
theorem getA_in : ∀ {as : List Ent} {p : Pl} {n : Int}, getA as p = some n → (p, n) ∈ as
  | e :: as, p, n, h => by
    have h : (if e.1 = p then some e.2 else getA as p) = some n := h
    split at h
    · rename_i z
      cases h
      rw [← z]
      exact List.mem_cons_self
    · exact List.mem_cons_of_mem _ (getA_in h)
theorem Gd.cof_ne {s : Nat} {as : List Ent} (h : Gd s as) {e : Ent} (he : e ∈ as) : cof as e.1 ≠ 0 := by
  rw [cof_get h.nd, getA_some h.nd he]
  exact h.nz e he
theorem Gd.of_cof {s : Nat} {as : List Ent} (h : Gd s as) {p : Pl} (hp : cof as p ≠ 0) : p ∈ as.map (·.1) := Classical.byContradiction fun z => hp (cof_none z)
theorem Gd.nil {s : Nat} {as : List Ent} (h : Gd s as) (hz : ∀ p, cof as p = 0) : as = [] := by
  cases as with
  | nil => rfl
  | cons e r => exact absurd (hz e.1) (h.cof_ne List.mem_cons_self)
theorem Gd.row {s : Nat} {es : List Ent} (h : Row s es) : Gd s es := ⟨h.nd, h.nz, h.dim⟩
/-- the number at p less v -/
def decA (as : List Ent) (p : Pl) (v : Int) : List Ent := if (getA as p).getD 0 - v = 0 then delA (putA as p ((getA as p).getD 0 - v)) p else putA as p ((getA as p).getD 0 - v)
theorem dec_get (as : List Ent) (p q : Pl) (v : Int) : getA (decA as p v) q = if p = q then (if (getA as p).getD 0 - v = 0 then none else some ((getA as p).getD 0 - v)) else getA as q := by
  unfold decA
  split
  · rw [getA_del, getA_put]
    split <;> rfl
  · rw [getA_put]
theorem dec_nd {as : List Ent} (h : NdA as) (p : Pl) (v : Int) : NdA (decA as p v) := by
  unfold decA
  split
  · exact del_nd (put_nodup _ _ _ h) _
  · exact put_nodup _ _ _ h
theorem dec_key {as : List Ent} {p : Pl} {v : Int} {q : Pl} (h : q ∈ (decA as p v).map (·.1)) : q = p ∨ q ∈ as.map (·.1) := by
  unfold decA at h
  split at h
  · obtain ⟨e, he, rfl⟩ := List.mem_map.mp h
    exact put_keys _ _ _ _ (List.mem_map.mpr ⟨e, (del_mem.mp he).1, rfl⟩)
  · exact put_keys _ _ _ _ h
theorem dec_len (as : List Ent) (p : Pl) (v : Int) : (decA as p v).length ≤ as.length + 1 := by
  unfold decA
  split
  · exact Nat.le_trans (del_len _ _) (put_len _ _ _)
  · exact put_len _ _ _
theorem dec_gd {s : Nat} {as : List Ent} (h : Gd s as) {p : Pl} (hp : p.length = s) (v : Int) : Gd s (decA as p v) := by
  have nd := dec_nd h.nd p v
  refine ⟨nd, fun e he => ?_, fun e he => ?_⟩
  · have g := getA_some nd he
    rw [dec_get] at g
    split at g
    · split at g
      · cases g
      · rename_i z
        rw [← Option.some.inj g]
        exact z
    · exact h.nz _ (getA_in g)
  · rcases dec_key (List.mem_map.mpr ⟨e, he, rfl⟩) with z | z
    · rw [z]; exact hp
    · obtain ⟨f, hf, e2⟩ := List.mem_map.mp z
      rw [← e2]; exact h.dim f hf
theorem dec_cof {as : List Ent} (h : NdA as) (p q : Pl) (v : Int) : cof (decA as p v) q = cof as q - if p = q then v else 0 := by
  rw [cof_get (dec_nd h p v), dec_get, cof_get h]
  by_cases e : p = q
  · subst e
    rw [if_pos rfl, if_pos rfl]
    split
    · rename_i z
      show (0 : Int) = _
      omega
    · rfl
  · rw [if_neg e, if_neg e]
    omega
/-- t times F, moved by a, less -/
def decF (as : List Ent) (a : Pl) (F : List Ent) (t : Int) : List Ent := F.foldl (fun as e => decA as (addP a e.1) (t * e.2)) as
theorem decF_gd {s : Nat} {a : Pl} (ha : a.length = s) (t : Int) : ∀ (F as : List Ent), Gd s as → Dim s F → Gd s (decF as a F t)
  | [], as, h, _ => h
  | e :: F, as, h, d => decF_gd ha t F _ (dec_gd h (by rw [addP_len (by rw [ha, d e List.mem_cons_self]), ha]) _) fun x hx => d x (List.mem_cons_of_mem _ hx)
theorem decF_len (a : Pl) (t : Int) : ∀ (F as : List Ent), (decF as a F t).length ≤ as.length + F.length
  | [], as => Nat.le_refl _
  | e :: F, as => by
    have h1 := decF_len a t F (decA as (addP a e.1) (t * e.2))
    have h2 := dec_len as (addP a e.1) (t * e.2)
    rw [List.length_cons]
    have e1 : decF as a (e :: F) t = decF (decA as (addP a e.1) (t * e.2)) a F t := rfl
    rw [e1]
    omega
theorem decF_nd (a : Pl) (t : Int) : ∀ (F as : List Ent), NdA as → NdA (decF as a F t)
  | [], as, h => h
  | e :: F, as, h => decF_nd a t F _ (dec_nd h _ _)
theorem decF_cof (a : Pl) (t : Int) (q : Pl) : ∀ (F as : List Ent), NdA as → cof (decF as a F t) q = cof as q - t * lin F fun x => if addP a x = q then 1 else 0
  | [], as, h => by
    show cof as q = cof as q - t * 0
    omega
  | e :: F, as, h => by
    have e1 : decF as a (e :: F) t = decF (decA as (addP a e.1) (t * e.2)) a F t := rfl
    rw [e1, decF_cof a t q F _ (dec_nd h _ _), dec_cof h, lin_cons, Int.mul_add]
    by_cases k : addP a e.1 = q
    · rw [if_pos k, if_pos k, Int.mul_one]; omega
    · rw [if_neg k, if_neg k, Int.mul_zero, Int.mul_zero]; omega
theorem decF_key (a : Pl) (t : Int) {q : Pl} : ∀ {F as : List Ent}, q ∈ (decF as a F t).map (·.1) → q ∈ as.map (·.1) ∨ ∃ f ∈ F, q = addP a f.1
  | [], as, h => .inl h
  | e :: F, as, h => by
    rcases decF_key a t (F := F) (as := decA as (addP a e.1) (t * e.2)) h with z | ⟨f, hf, z⟩
    · rcases dec_key z with z | z
      · exact .inr ⟨e, List.mem_cons_self, z⟩
      · exact .inl z
    · exact .inr ⟨f, List.mem_cons_of_mem _ hf, z⟩
/-! ### the division -/
structure DS where
  as : List Ent
  part : List Ent
  stop : Bool
/-- in a box -/
def inBx (lo hi p : Pl) : Bool := (List.range p.length).all fun i => decide (lo.getD i 0 ≤ p.getD i 0) && decide (p.getD i 0 ≤ hi.getD i 0)
theorem inBx_iff {s : Nat} {lo hi p : Pl} (h : p.length = s) : inBx lo hi p = true ↔ InP s lo hi p := by
  unfold inBx InP
  rw [List.all_eq_true]
  constructor
  · intro k
    refine ⟨h, fun i hi => ?_⟩
    have := k i (List.mem_range.mpr (by omega))
    simpa using this
  · intro k i hi
    have := k.2 i (by rw [← h]; exact List.mem_range.mp hi)
    simpa using this
section
variable (s : Nat) (R F : List Ent)
def blo : Pl := subP (lowP R s) (lowP F s)
def bhi : Pl := subP (topP R s) (topP F s)
def ledE : Ent := F.headD ([], 0)
def atD (x : DS) : Pl := subP (minA x.as) (ledE F).1
def numD (x : DS) : Int := (getA x.as (minA x.as)).getD 0
def goD (x : DS) : Bool := !x.as.isEmpty && !x.stop
def endD (x : DS) : Bool := decide ((numD x).fmod (ledE F).2 ≠ 0) || !inBx (blo s R F) (bhi s R F) (atD F x)
def nxD (x : DS) : DS := if endD s R F x = true then { x with stop := true } else ⟨decF x.as (atD F x) F ((numD x).fdiv (ledE F).2), x.part ++ [(atD F x, (numD x).fdiv (ledE F).2)], false⟩
def muA (as : List Ent) : Nat := if as = [] then 0 else (volP (lowP R s) (topP R s) - cdP (lowP R s) (topP R s) (minA as)).toNat
def muD (x : DS) : Nat := if x.stop = true then 0 else 1 + muA s R x.as
/-- what stands all along -/
structure InvD (x : DS) : Prop where
  gd : Gd s x.as
  eq : ∀ q, cof R q = cof (mulE F x.part) q + cof x.as q
  box : ∀ e ∈ x.as, InP s (lowP R s) (topP R s) e.1
  dim : Dim s x.part
  len : x.as.length + F.length * muA s R x.as ≤ R.length + F.length * (volP (lowP R s) (topP R s)).toNat
  plen : x.part.length + muA s R x.as ≤ (volP (lowP R s) (topP R s)).toNat
  fit : ∀ Q, Row s Q → R = nf (mulE F Q) → x.stop = false ∧ ∃ suf, Q = x.part ++ suf
end
theorem muA_le {s : Nat} {R as : List Ent} (hb : ∀ e ∈ as, InP s (lowP R s) (topP R s) e.1) : muA s R as ≤ (volP (lowP R s) (topP R s)).toNat := by
  unfold muA
  split
  · exact Nat.zero_le _
  · rename_i h
    obtain ⟨e, he, e1⟩ := List.mem_map.mp (minA_mem h)
    have := cd_bd (lowP_len R s) (topP_len R s) (e1 ▸ hb e he)
    omega
theorem invD_start {s : Nat} {R F : List Ent} (hR : Row s R) : InvD s R F ⟨R, [], false⟩ := by
  have hb : ∀ e ∈ R, InP s (lowP R s) (topP R s) e.1 := fun e he => in_row he hR.dim
  have hm := muA_le hb
  refine ⟨.row hR, fun q => ?_, hb, dim_nil, Nat.add_le_add_left (Nat.mul_le_mul_left _ hm) _, by show 0 + muA s R R ≤ _; omega, fun Q _ _ => ⟨rfl, Q, rfl⟩⟩
  show cof R q = cof (mulE F []) q + cof R q
  rw [mulE_nil]
  show _ = 0 + _
  omega
theorem cof_part (F part : List Ent) (a : Pl) (t : Int) (q : Pl) : cof (mulE F (part ++ [(a, t)])) q = cof (mulE F part) q + t * lin F fun x => if addP a x = q then 1 else 0 := by
  rw [cof_mul, cof_mul]
  have e : ∀ x : Pl, (lin (part ++ [(a, t)]) fun y => if addP x y = q then 1 else 0) = (lin part fun y => if addP x y = q then 1 else 0) + t * (if addP a x = q then 1 else 0) := fun x => by
    rw [lin_app, lin_cons, lin_nil, addP_comm x a, Int.add_zero]
  rw [show (fun x => lin (part ++ [(a, t)]) fun y => if addP x y = q then 1 else 0) = fun x => (lin part fun y => if addP x y = q then 1 else 0) + t * (if addP a x = q then 1 else 0) from funext e, lin_fun_add, lin_fun_mul]
theorem add_sub {p q : Pl} (h : p.length = q.length) : addP (subP p q) q = p := by rw [subP_eq, addP_negP h]
theorem sub_add {p q : Pl} (h : p.length = q.length) : subP (addP p q) q = p := by rw [subP_eq, addP_negP' h]
/-- the corners of a product -/
theorem corner_box {s : Nat} {F Q : List Ent} (hF : Row s F) (hQ : Row s Q) (fne : F ≠ []) {q : Ent} (hq : q ∈ Q) : InP s (blo s (nf (mulE F Q)) F) (bhi s (nf (mulE F Q)) F) q.1 := by
  refine ⟨hQ.dim q hq, fun i hi => ?_⟩
  have lq := hQ.dim q hq
  unfold blo bhi
  rw [getD_sub (by rw [lowP_len]; exact hi) (by rw [lowP_len]; exact hi), getD_sub (by rw [topP_len]; exact hi) (by rw [topP_len]; exact hi), low_getD hi, low_getD hi, top_getD hi, top_getD hi]
  have qne : Q ≠ [] := fun z => by rw [z] at hq; cases hq
  constructor
  · obtain ⟨f, hf, ef⟩ := ex_low fne i
    obtain ⟨q1, hq1, eq1⟩ := ex_low qne i
    obtain ⟨e, he, ee⟩ := mul_corner hF.toSrt hQ.toSrt hF.dim hQ.dim (fun p => p.getD i 0) (fun p q hp hq => getD_add (by omega) (by omega)) hf hq1 (fun x hx => by rw [ef]; exact lo_le _ (col_mem i hx)) (fun x hx => by rw [eq1]; exact lo_le _ (col_mem i hx))
    have h1 : lstMin (colI (nf (mulE F Q)) i) ≤ e.1.getD i 0 := lo_le _ (col_mem i he)
    have h2 : lstMin (colI Q i) ≤ q.1.getD i 0 := lo_le _ (col_mem i hq)
    have ee : e.1.getD i 0 = f.1.getD i 0 + q1.1.getD i 0 := ee
    omega
  · obtain ⟨f, hf, ef⟩ := ex_top fne i
    obtain ⟨q1, hq1, eq1⟩ := ex_top qne i
    obtain ⟨e, he, ee⟩ := mul_corner hF.toSrt hQ.toSrt hF.dim hQ.dim (fun p => -p.getD i 0) (fun p q hp hq => by show -(addP p q).getD i 0 = _; rw [getD_add (by omega) (by omega)]; omega) hf hq1 (fun x hx => by
      have := le_hi _ (col_mem i hx)
      show -f.1.getD i 0 ≤ -x.1.getD i 0
      omega) (fun x hx => by
      have := le_hi _ (col_mem i hx)
      show -q1.1.getD i 0 ≤ -x.1.getD i 0
      omega)
    have h1 : e.1.getD i 0 ≤ lstMax (colI (nf (mulE F Q)) i) := le_hi _ (col_mem i he)
    have h2 : q.1.getD i 0 ≤ lstMax (colI Q i) := le_hi _ (col_mem i hq)
    have ee : -e.1.getD i 0 = -f.1.getD i 0 + -q1.1.getD i 0 := ee
    omega
/-- what stands at the least place of a multiple -/
theorem fit_head {s : Nat} {R F : List Ent} {x : DS} {f : Ent} {F' : List Ent} (hF : Row s (f :: F')) (eF : F = f :: F') (inv : InvD s R F x) (hne : x.as ≠ []) {Q : List Ent} (hQ : Row s Q) (hR : R = nf (mulE F Q)) : ∃ q suf, Q = x.part ++ q :: suf ∧ minA x.as = addP f.1 q.1 ∧ numD x = f.2 * q.2 := by
  subst eF
  obtain ⟨_, suf, eQ⟩ := inv.fit Q hQ hR
  have hc : ∀ p, cof x.as p = cof (mulE (f :: F') suf) p := fun p => by
    have h1 := inv.eq p
    rw [hR, nf_cof, eQ] at h1
    have h2 : cof (mulE (f :: F') (x.part ++ suf)) p = cof (mulE (f :: F') x.part) p + cof (mulE (f :: F') suf) p := by
      rw [cof_mul, cof_mul, cof_mul, ← lin_fun_add]
      congr 1
      funext y
      rw [lin_app]
    omega
  cases suf with
  | nil => exact absurd (inv.gd.nil fun p => by rw [hc, mulE_nil]; rfl) hne
  | cons q suf =>
    refine ⟨q, suf, eQ, ?_⟩
    have sub : ∀ e ∈ q :: suf, e ∈ Q := fun e he => by rw [eQ]; exact List.mem_append_right _ he
    have sS : Srt (q :: suf) := ⟨by
      have := hQ.ord
      rw [eQ] at this
      exact (List.pairwise_append.mp this).2.1, fun e he => hQ.nz e (sub e he)⟩
    have dS : Dim s (q :: suf) := fun e he => hQ.dim e (sub e he)
    have c1 : cof x.as (addP f.1 q.1) = f.2 * q.2 := by rw [hc, cof_first hF.toSrt sS hF.dim dS]
    have nz : f.2 * q.2 ≠ 0 := Int.mul_ne_zero (hF.nz f List.mem_cons_self) (sS.nz q List.mem_cons_self)
    have k1 := inv.gd.of_cof (by rw [c1]; exact nz)
    have em : minA x.as = addP f.1 q.1 := by
      obtain ⟨e, he, e1⟩ := List.mem_map.mp k1
      have m1 := minA_le e he
      rw [e1] at m1
      obtain ⟨e', he', e2⟩ := List.mem_map.mp (minA_mem hne)
      have nz2 : cof (mulE (f :: F') (q :: suf)) e'.1 ≠ 0 := by rw [← hc]; exact inv.gd.cof_ne he'
      have k2 : e'.1 ∈ (mulE (f :: F') (q :: suf)).map (·.1) := Classical.byContradiction fun z => nz2 (cof_none z)
      obtain ⟨y, hy, e3⟩ := List.mem_map.mp k2
      obtain ⟨a, ha, hb⟩ := List.mem_flatMap.mp hy
      obtain ⟨b, hb', rfl⟩ := List.mem_map.mp hb
      have e3 : addP a.1 b.1 = e'.1 := e3
      rcases mul_low hF.toSrt sS hF.dim dS a ha b hb' with ⟨rfl, rfl⟩ | z
      · rw [← e2, e3]
      · exact absurd (by rw [← e2, ← e3]; exact z) m1
    refine ⟨em, ?_⟩
    unfold numD
    rw [em, ← cof_get inv.gd.nd, c1]
theorem nx_inv {s : Nat} {R F : List Ent} {x : DS} (hF : Row s F) (fne : F ≠ []) (inv : InvD s R F x) (hg : goD x = true) : InvD s R F (nxD s R F x) ∧ muD s R (nxD s R F x) < muD s R x := by
  have hg : (!x.as.isEmpty && !x.stop) = true := hg
  rw [Bool.and_eq_true] at hg
  have hne : x.as ≠ [] := by simpa using hg.1
  have hst : x.stop = false := by simpa using hg.2
  cases F with
  | nil => exact absurd rfl fne
  | cons f F' =>
    have lf := hF.dim f List.mem_cons_self
    have lead : ledE (f :: F') = f := rfl
    obtain ⟨e0, he0, ee0⟩ := List.mem_map.mp (minA_mem hne)
    have lm : (minA x.as).length = s := by rw [← ee0]; exact inv.gd.dim e0 he0
    have la : (atD (f :: F') x).length = s := by unfold atD; rw [lead, subP_len (by omega), lm]
    have e1 : muD s R x = 1 + muA s R x.as := by unfold muD; rw [hst]; rfl
    unfold nxD
    by_cases hend : endD s R (f :: F') x = true
    · rw [if_pos hend]
      refine ⟨⟨inv.gd, inv.eq, inv.box, inv.dim, inv.len, inv.plen, fun Q hQ hR => ?_⟩, by rw [e1]; show 0 < _; omega⟩
      obtain ⟨q, suf, eQ, em, en⟩ := fit_head hF rfl inv hne hQ hR
      exfalso
      have hq : q ∈ Q := by rw [eQ]; simp
      have lq := hQ.dim q hq
      unfold endD at hend
      rw [Bool.or_eq_true] at hend
      have ea : atD (f :: F') x = q.1 := by
        unfold atD
        rw [em, lead, addP_comm, sub_add (by omega)]
      rcases hend with z | z
      · rw [en, lead] at z
        simp [Int.mul_fmod_right] at z
      · rw [ea, hR] at z
        have := (inBx_iff lq).mpr (corner_box hF hQ fne hq)
        rw [this] at z
        cases z
    · rw [if_neg hend]
      unfold endD at hend
      rw [Bool.or_eq_true] at hend
      have hdiv : (numD x).fmod f.2 = 0 := Classical.byContradiction fun z => hend (.inl (by simpa [lead] using z))
      have hin : InP s (blo s R (f :: F')) (bhi s R (f :: F')) (atD (f :: F') x) := (inBx_iff la).mp (by
        cases h : inBx (blo s R (f :: F')) (bhi s R (f :: F')) (atD (f :: F') x) with
        | true => rfl
        | false => exact absurd (.inr (by rw [h]; rfl)) hend)
      have hnum : numD x = f.2 * (numD x).fdiv f.2 := by
        have := Int.fmod_add_mul_fdiv (numD x) f.2
        rw [hdiv] at this
        omega
      rw [lead]
      have gd' := decF_gd la ((numD x).fdiv f.2) (f :: F') x.as inv.gd hF.dim
      have esum : addP (atD (f :: F') x) f.1 = minA x.as := by
        unfold atD
        rw [lead, add_sub (by omega)]
      have low : ∀ y ∈ f :: F', y = f ∨ minA x.as < addP (atD (f :: F') x) y.1 := fun y hy => by
        rcases List.mem_cons.mp hy with rfl | hy'
        · exact .inl rfl
        · refine .inr ?_
          rw [← esum]
          exact addP_ltl (by omega) (by rw [hF.dim y hy]; omega) (srt_head hF.toSrt y hy')
      -- the least place is gone
      have gone : cof (decF x.as (atD (f :: F') x) (f :: F') ((numD x).fdiv f.2)) (minA x.as) = 0 := by
        rw [decF_cof _ _ _ _ _ inv.gd.nd, lin_cons, if_pos esum]
        have h0 : (lin F' fun y => if addP (atD (f :: F') x) y = minA x.as then 1 else 0) = 0 := lin_off fun y hy => if_neg fun w => by
          rcases low y (List.mem_cons_of_mem _ hy) with z | z
          · exact absurd (srt_head hF.toSrt y hy) (by rw [z]; exact List.lt_irrefl _)
          · exact lt_no (w ▸ z)
        rw [h0, cof_get inv.gd.nd]
        have h1 : (getA x.as (minA x.as)).getD 0 = numD x := rfl
        rw [h1, Int.mul_one, Int.add_zero, Int.mul_comm, ← hnum]
        omega
      have above : ∀ e ∈ decF x.as (atD (f :: F') x) (f :: F') ((numD x).fdiv f.2), minA x.as < e.1 := fun e he => by
        have key : ¬e.1 < minA x.as := by
          rcases decF_key _ _ (List.mem_map.mpr ⟨e, he, rfl⟩) with z | ⟨y, hy, z⟩
          · obtain ⟨e2, h2, h3⟩ := List.mem_map.mp z
            rw [← h3]
            exact minA_le e2 h2
          · rcases low y hy with w | w
            · rw [z, w, esum]
              exact List.lt_irrefl _
            · rw [z]
              exact fun k => lt_no (lt_tr k w)
        rcases pl_tri (minA x.as) e.1 with k | k | k
        · exact k
        · exact absurd (by rw [← k]; exact gone) (gd'.cof_ne he)
        · exact absurd k key
      have box' : ∀ e ∈ decF x.as (atD (f :: F') x) (f :: F') ((numD x).fdiv f.2), InP s (lowP R s) (topP R s) e.1 := fun e he => by
        rcases decF_key _ _ (List.mem_map.mpr ⟨e, he, rfl⟩) with z | ⟨y, hy, z⟩
        · obtain ⟨e2, h2, h3⟩ := List.mem_map.mp z
          rw [← h3]
          exact inv.box e2 h2
        · rw [z]
          have ly := hF.dim y hy
          refine ⟨by rw [addP_len (by omega), la], fun i hi => ?_⟩
          have b1 := hin.2 i hi
          have b2 := (in_row hy hF.dim).2 i hi
          unfold blo bhi at b1
          rw [getD_sub (by rw [lowP_len]; exact hi) (by rw [lowP_len]; exact hi), getD_sub (by rw [topP_len]; exact hi) (by rw [topP_len]; exact hi)] at b1
          rw [getD_add (by omega) (by omega)]
          omega
      have hmu : muA s R (decF x.as (atD (f :: F') x) (f :: F') ((numD x).fdiv f.2)) < muA s R x.as := by
        have b0 := inv.box e0 he0
        rw [ee0] at b0
        have c0 := cd_bd (lowP_len R s) (topP_len R s) b0
        have u0 : muA s R x.as = (volP (lowP R s) (topP R s) - cdP (lowP R s) (topP R s) (minA x.as)).toNat := by unfold muA; rw [if_neg hne]
        rw [u0]
        unfold muA
        split
        · omega
        · rename_i hn
          obtain ⟨e, he, e2⟩ := List.mem_map.mp (minA_mem hn)
          have b1 := box' e he
          have l1 := cd_lt (lowP_len R s) (topP_len R s) b0 b1 (above e he)
          have c1 := cd_bd (lowP_len R s) (topP_len R s) b1
          rw [← e2]
          omega
      refine ⟨⟨gd', fun q => ?_, box', ?_, ?_, ?_, fun Q hQ hR => ?_⟩, ?_⟩
      · show cof R q = cof (mulE (f :: F') (x.part ++ [(atD (f :: F') x, (numD x).fdiv f.2)])) q + _
        rw [cof_part, decF_cof _ _ _ _ _ inv.gd.nd, inv.eq q]
        omega
      · refine inv.dim.app fun e he => ?_
        rw [List.mem_singleton.mp he]
        exact la
      · have h1 := decF_len (atD (f :: F') x) ((numD x).fdiv f.2) (f :: F') x.as
        have h2 := inv.len
        have h3 : (f :: F').length * (muA s R (decF x.as (atD (f :: F') x) (f :: F') ((numD x).fdiv f.2)) + 1) ≤ (f :: F').length * muA s R x.as := Nat.mul_le_mul_left _ hmu
        rw [Nat.mul_add, Nat.mul_one] at h3
        show (decF x.as (atD (f :: F') x) (f :: F') ((numD x).fdiv f.2)).length + (f :: F').length * muA s R (decF x.as (atD (f :: F') x) (f :: F') ((numD x).fdiv f.2)) ≤ _
        omega
      · have h2 := inv.plen
        show (x.part ++ [_]).length + muA s R (decF x.as (atD (f :: F') x) (f :: F') ((numD x).fdiv f.2)) ≤ _
        rw [List.length_append, List.length_singleton]
        omega
      · refine ⟨rfl, ?_⟩
        obtain ⟨q, suf, eQ, em, en⟩ := fit_head hF rfl inv hne hQ hR
        have hq : q ∈ Q := by rw [eQ]; simp
        have lq := hQ.dim q hq
        have ea : atD (f :: F') x = q.1 := by
          unfold atD
          rw [em, lead, addP_comm, sub_add (by omega)]
        have et : (numD x).fdiv f.2 = q.2 := by rw [en, Int.mul_fdiv_cancel_left _ (hF.nz f List.mem_cons_self)]
        refine ⟨suf, ?_⟩
        show Q = (x.part ++ [(atD (f :: F') x, (numD x).fdiv f.2)]) ++ suf
        rw [ea, et, List.append_assoc]
        exact eQ
      · rw [e1]
        show 1 + muA s R (decF x.as (atD (f :: F') x) (f :: F') ((numD x).fdiv f.2)) < _
        omega
/-- at the end -/
theorem end_fit {s : Nat} {R F : List Ent} {x : DS} (hF : Row s F) (fne : F ≠ []) (inv : InvD s R F x) (hg : goD x = false) {Q : List Ent} (hQ : Row s Q) (hR : R = nf (mulE F Q)) : x.as = [] ∧ x.part = Q := by
  cases F with
  | nil => exact absurd rfl fne
  | cons f F' =>
    obtain ⟨hst, suf, eQ⟩ := inv.fit Q hQ hR
    have h0 : x.as = [] := by
      unfold goD at hg
      rw [hst] at hg
      simpa using hg
    refine ⟨h0, ?_⟩
    have hc : ∀ p, cof (mulE (f :: F') suf) p = 0 := fun p => by
      have h1 := inv.eq p
      rw [hR, nf_cof, eQ, h0] at h1
      have h2 : cof (mulE (f :: F') (x.part ++ suf)) p = cof (mulE (f :: F') x.part) p + cof (mulE (f :: F') suf) p := by
        rw [cof_mul, cof_mul, cof_mul, ← lin_fun_add]
        congr 1
        funext y
        rw [lin_app]
      have h3 : cof [] p = 0 := rfl
      omega
    have sub : ∀ e ∈ suf, e ∈ Q := fun e he => by rw [eQ]; exact List.mem_append_right _ he
    have sS : Srt suf := ⟨by
      have := hQ.ord
      rw [eQ] at this
      exact (List.pairwise_append.mp this).2.1, fun e he => hQ.nz e (sub e he)⟩
    have := mul_null hF.toSrt sS hF.dim (fun e he => hQ.dim e (sub e he)) fne (nf_of srt_nil fun p => by rw [hc]; rfl)
    rw [eQ, this, List.append_nil]
theorem end_none {s : Nat} {R F : List Ent} {x : DS} (hR : Row s R) (inv : InvD s R F x) (h : ∀ Q, Row s Q → R ≠ nf (mulE F Q)) : x.as ≠ [] := fun z => by
  refine h (nf x.part) (.of_nf inv.dim hR.s1 hR.s3) ?_
  rw [nf_mul_r]
  refine (nf_of hR.toSrt fun p => ?_).symm
  have := inv.eq p
  rw [z] at this
  have h3 : cof [] p = 0 := rfl
  omega
end DE

set_option Elab.async false
set_option linter.all false
set_option maxRecDepth 100000
set_option maxHeartbeats 4000000
/-! DE26: what divides what: one entry more, a factor times a number; volumes; no errors within rows. -/
namespace DE
open PySem L2
theorem noExcs_all : ∀ {ds : List D}, (∀ d ∈ ds, noExc d = true) → noExcs ds = true
  | [], _ => rfl
  | d :: ds, h => by
    show (noExc d && noExcs ds) = true
    rw [h d List.mem_cons_self, noExcs_all fun x hx => h x (List.mem_cons_of_mem _ hx)]
    rfl
theorem ne_p (p : Pl) : noExc (pD p) = true := noExcs_all fun d hd => by
  obtain ⟨x, _, rfl⟩ := List.mem_map.mp hd
  rfl
theorem ne_e (e : Ent) : noExc (eD e) = true := by
  show (noExc (pD e.1) && noExcs [D.int e.2]) = true
  rw [ne_p]
  rfl
theorem ne_l {α : Type} {f : α → D} {xs : List α} (h : ∀ x ∈ xs, noExc (f x) = true) : noExc (lD f xs) = true := noExcs_all fun d hd => by
  obtain ⟨x, hx, rfl⟩ := List.mem_map.mp hd
  exact h x hx
theorem ne_r (es : List Ent) : noExc (rD es) = true := ne_l fun e _ => ne_e e
theorem neL_d {d : D} (h : noExc d = true) : noExcL (some (.dat d)) = true := h
theorem neL_l {α : Type} {f : α → D} {xs : List α} (h : ∀ x ∈ xs, noExc (f x) = true) : noExcL (some (.own (lO f xs))) = true := ne_l h
theorem neL_n : noExcL none = true := rfl
theorem neR_nil : noExcR [] = true := rfl
theorem neR_cons {l : Option LV} {r : Rho} (h : noExcL l = true) (k : noExcR r = true) : noExcR (l :: r) = true := by
  show (noExcL l && noExcR r) = true
  rw [h, k]
  rfl
/-! ### volumes -/
theorem vol_le {n : Int} (n0 : 0 ≤ n) : ∀ {s : Nat} {lo hi : Pl}, lo.length = s → hi.length = s → (∀ i, i < s → 0 ≤ hi.getD i 0 - lo.getD i 0 ∧ hi.getD i 0 - lo.getD i 0 ≤ n) → 1 ≤ volP lo hi ∧ volP lo hi ≤ (n + 1) ^ s
  | 0, [], [], _, _, _ => ⟨Int.le_refl _, by rw [Int.pow_zero]; exact Int.le_refl _⟩
  | s + 1, l :: ls, h :: hs, e1, e2, k => by
    obtain ⟨i1, i2⟩ := vol_le n0 (s := s) (lo := ls) (hi := hs) (by simpa using e1) (by simpa using e2) fun i hi => by
      have := k (i + 1) (by omega)
      simpa using this
    have k0 := k 0 (by omega)
    have k1 : 0 ≤ h - l ∧ h - l ≤ n := by simpa using k0
    show 1 ≤ (h - l + 1) * volP ls hs ∧ (h - l + 1) * volP ls hs ≤ (n + 1) ^ (s + 1)
    have a1 : (h - l + 1) * volP ls hs ≤ (n + 1) * volP ls hs := Int.mul_le_mul_of_nonneg_right (by omega) (by omega)
    have a2 : (n + 1) * volP ls hs ≤ (n + 1) * (n + 1) ^ s := Int.mul_le_mul_of_nonneg_left i2 (by omega)
    have a3 : 1 * volP ls hs ≤ (h - l + 1) * volP ls hs := Int.mul_le_mul_of_nonneg_right (by omega) (by omega)
    rw [Int.pow_succ, Int.mul_comm ((n + 1) ^ s)]
    omega
/-! ### what divides -/
theorem two_apart {s : Nat} {F : List Ent} (hF : Row s F) {x y : Ent} {F' : List Ent} (e : F = x :: y :: F') : ∃ i, i < s ∧ lstMin (colI F i) < lstMax (colI F i) := by
  have hx : x ∈ F := by rw [e]; exact List.mem_cons_self
  have hy : y ∈ F := by rw [e]; exact List.mem_cons_of_mem _ List.mem_cons_self
  have hlt : x.1 < y.1 := by
    have := hF.ord
    rw [e] at this
    exact (List.pairwise_cons.mp this).1 y List.mem_cons_self
  have hne : x.1 ≠ y.1 := lt_ne hlt
  have lx := hF.dim x hx
  have ly := hF.dim y hy
  obtain ⟨i, hi, hd⟩ : ∃ i, i < s ∧ x.1.getD i 0 ≠ y.1.getD i 0 := Classical.byContradiction fun z => hne (List.ext_getElem? fun i => by
    by_cases h : i < s
    · have : x.1.getD i 0 = y.1.getD i 0 := Classical.byContradiction fun w => z ⟨i, h, w⟩
      rw [List.getD_eq_getElem?_getD, List.getD_eq_getElem?_getD, List.getElem?_eq_getElem (by omega), List.getElem?_eq_getElem (by omega)] at this
      rw [List.getElem?_eq_getElem (by omega), List.getElem?_eq_getElem (by omega)]
      exact congrArg some this
    · rw [List.getElem?_eq_none (by omega), List.getElem?_eq_none (by omega)])
  have h1 := lo_le _ (col_mem i hx)
  have h2 := lo_le _ (col_mem i hy)
  have h3 := le_hi _ (col_mem i hx)
  have h4 := le_hi _ (col_mem i hy)
  exact ⟨i, hi, by omega⟩
theorem diff_mul {s : Nat} {F A B : List Ent} {E : List Ent} (h : ∀ p, cof (mulE F A) p = cof (mulE F B) p + cof E p) : nf (mulE F (nf (A ++ negE B))) = nf E := by
  rw [nf_mul_r]
  refine nf_eq fun p => ?_
  have e3 : ∀ x : Pl, (lin (A ++ negE B) fun y => if addP x y = p then 1 else 0) = (lin A fun y => if addP x y = p then 1 else 0) + (-1) * (lin B fun y => if addP x y = p then 1 else 0) := fun x => by rw [lin_app, lin_negE]; omega
  rw [cof_mul, show (fun x => lin (A ++ negE B) fun y => if addP x y = p then 1 else 0) = (fun x => (lin A fun y => if addP x y = p then 1 else 0) + (-1) * (lin B fun y => if addP x y = p then 1 else 0)) from funext e3, lin_fun_add, lin_fun_mul, ← cof_mul, ← cof_mul, h p]
  omega
/-- one entry more than a multiple -/
theorem no_extra {s : Nat} {F Q : List Ent} (hF : Row s F) (hQ : Row s Q) {p : Pl} {x : Int} (hx : x ≠ 0) (hp : p.length = s) (h : ∀ f, F = [f] → x.fmod f.2 ≠ 0) (fne : F ≠ []) : ∀ Q', Row s Q' → nf (mulE F Q ++ [(p, x)]) ≠ nf (mulE F Q') := fun Q' hQ' e => by
  have hc : ∀ q, cof (mulE F Q') q = cof (mulE F Q) q + cof [(p, x)] q := fun q => by rw [← nf_cof (mulE F Q'), ← e, nf_cof, cof_app]
  have hd := diff_mul (s := s) hc
  have s1 : nf [(p, x)] = [(p, x)] := nf_self ⟨List.pairwise_singleton _ _, fun e he => by rw [List.mem_singleton.mp he]; exact hx⟩
  rw [s1] at hd
  have hD : Row s (nf (Q' ++ negE Q)) := .of_nf (hQ'.dim.app hQ.dim.neg) hF.s1 hF.s3
  generalize nf (Q' ++ negE Q) = Dd at hd hD
  cases Dd with
  | nil => rw [mulE_nil, nf_nil] at hd; cases hd
  | cons d D' =>
    cases F with
    | nil => exact absurd rfl fne
    | cons f F' =>
      obtain ⟨r, e1⟩ := nf_first hF.toSrt hD.toSrt hF.dim hD.dim
      rw [hd] at e1
      have e2 : x = f.2 * d.2 := by
        have := congrArg (fun l : List Ent => (l.headD ([], 0)).2) e1
        exact this
      cases F' with
      | nil => exact h f rfl (by rw [e2, Int.mul_fmod_right])
      | cons g F'' =>
        obtain ⟨i, hi, hlt⟩ := two_apart hF rfl
        obtain ⟨f1, hf1, ef1⟩ := ex_low (es := f :: g :: F'') (by simp) i
        obtain ⟨f2, hf2, ef2⟩ := ex_top (es := f :: g :: F'') (by simp) i
        obtain ⟨d1, hd1, ed1⟩ := ex_low (es := d :: D') (by simp) i
        obtain ⟨d2, hd2, ed2⟩ := ex_top (es := d :: D') (by simp) i
        obtain ⟨u, hu, eu⟩ := mul_corner hF.toSrt hD.toSrt hF.dim hD.dim (fun p => p.getD i 0) (fun p q hp hq => getD_add (by omega) (by omega)) hf1 hd1 (fun x hx => by rw [ef1]; exact lo_le _ (col_mem i hx)) (fun x hx => by rw [ed1]; exact lo_le _ (col_mem i hx))
        obtain ⟨v, hv, ev⟩ := mul_corner hF.toSrt hD.toSrt hF.dim hD.dim (fun p => -p.getD i 0) (fun p q hp hq => by show -(addP p q).getD i 0 = _; rw [getD_add (by omega) (by omega)]; omega) hf2 hd2 (fun x hx => by
          have := le_hi _ (col_mem i hx)
          show -f2.1.getD i 0 ≤ -x.1.getD i 0
          omega) (fun x hx => by
          have := le_hi _ (col_mem i hx)
          show -d2.1.getD i 0 ≤ -x.1.getD i 0
          omega)
        rw [hd] at hu hv
        have eu : u.1.getD i 0 = f1.1.getD i 0 + d1.1.getD i 0 := eu
        have ev : -v.1.getD i 0 = -f2.1.getD i 0 + -d2.1.getD i 0 := ev
        rw [List.mem_singleton.mp hu] at eu
        rw [List.mem_singleton.mp hv] at ev
        have h1 := lo_le _ (col_mem i hd2)
        omega
theorem scl_mul (F P : List Ent) (t : Int) : nf (mulE (sclE F t) P) = nf (mulE F (sclE P t)) := nf_lin fun f => by
  rw [lin_mul, lin_mul, lin_scl]
  have : (fun p => lin (sclE P t) fun q => f (addP p q)) = fun p => t * lin P fun q => f (addP p q) := funext fun p => by rw [lin_scl, Int.mul_comm]
  rw [this, lin_fun_mul, Int.mul_comm]
/-- a factor times a number -/
theorem no_number {s : Nat} {F Q : List Ent} (hF : Row s F) (hQ : Row s Q) (fne : F ≠ []) {t : Int} (ht : t ≠ 0) (h : ∃ e ∈ Q, e.2.fmod t ≠ 0) : ∀ Q', Row s Q' → nf (mulE F Q) ≠ nf (mulE (sclE F t) Q') := fun Q' hQ' e => by
  rw [scl_mul] at e
  have e1 := mul_cancel hF.toSrt hF.dim fne hQ.toSrt (hQ'.toSrt.scl ht) hQ.dim hQ'.dim.scl e
  obtain ⟨x, hx, hm⟩ := h
  rw [e1] at hx
  obtain ⟨y, _, rfl⟩ := List.mem_map.mp hx
  exact hm (Int.mul_fmod_left _ _)
def divE (es : List Ent) (t : Int) : List Ent := es.map fun e => (e.1, e.2.fdiv t)
theorem div_row {s : Nat} {Q : List Ent} (hQ : Row s Q) {t : Int} (ht : t ≠ 0) (h : ∀ e ∈ Q, e.2.fmod t = 0) : Row s (divE Q t) ∧ sclE (divE Q t) t = Q := by
  have val : ∀ e ∈ Q, e.2.fdiv t * t = e.2 := fun e he => by
    have := Int.fmod_add_mul_fdiv e.2 t
    rw [h e he, Int.mul_comm] at this
    omega
  refine ⟨⟨⟨?_, fun e he => ?_⟩, fun e he => ?_, hQ.s1, hQ.s3⟩, ?_⟩
  · unfold divE
    rw [List.pairwise_map]
    exact hQ.ord
  · obtain ⟨f, hf, rfl⟩ := List.mem_map.mp he
    intro z
    have := val f hf
    have z : f.2.fdiv t = 0 := z
    rw [z, Int.zero_mul] at this
    exact hQ.nz f hf this.symm
  · obtain ⟨f, hf, rfl⟩ := List.mem_map.mp he
    exact hQ.dim f hf
  · unfold sclE divE
    rw [List.map_map]
    have : ∀ e ∈ Q, ((fun e : Ent => (e.1, e.2 * t)) ∘ fun e : Ent => (e.1, e.2.fdiv t)) e = e := fun e he => by
      show (e.1, e.2.fdiv t * t) = e
      rw [val e he]
    rw [List.map_congr_left this, List.map_id']
end DE

set_option Elab.async false
set_option linter.all false
set_option maxRecDepth 100000
set_option maxHeartbeats 8000000
namespace LW
open PySem PySem.Spec PyProof.Rows L2 DE
abbrev pw : Program := PySem.Challenge.pw_owntables_k03_read_place
def stn (i : Nat) : Stmt := pw.main.body.getD i (.Pass ⟨0, 0, 0, 0⟩)
def isaT : List (Str × Str × Bool) := [("BadText", "TableError", true), ("BadText", "ValueError", true), ("BadText", "BadPlace", false), ("BadText", "BadLine", false), ("BadText", "BadText", true), ("TableError", "TableError", true), ("TableError", "ValueError", true), ("TableError", "BadPlace", false), ("TableError", "BadLine", false), ("TableError", "BadText", false)]
def mkT : List (Str × List Str × Str) := [("BadText", ["index"], "BadText")]
def fldT : List (Str × Str) := [("BadText", "word"), ("BadText", "index")]
def fuel : Nat := 1000000
def isaF (c x : Str) : Option Bool := (isaT.find? fun p => decide (p.1 = c) && decide (p.2.1 = x)).map (·.2.2)
def fldF (c x : Str) : Bool := fldT.any fun p => decide (p.1 = c) && decide (p.2 = x)
theorem I_BadText_TableError : isaF "BadText" "TableError" = some true := id rfl
theorem I_BadText_ValueError : isaF "BadText" "ValueError" = some true := id rfl
theorem I_BadText_BadPlace : isaF "BadText" "BadPlace" = some false := id rfl
theorem I_BadText_BadLine : isaF "BadText" "BadLine" = some false := id rfl
theorem I_BadText_BadText : isaF "BadText" "BadText" = some true := id rfl
theorem I_TableError_TableError : isaF "TableError" "TableError" = some true := id rfl
theorem I_TableError_ValueError : isaF "TableError" "ValueError" = some true := id rfl
theorem I_TableError_BadPlace : isaF "TableError" "BadPlace" = some false := id rfl
theorem I_TableError_BadLine : isaF "TableError" "BadLine" = some false := id rfl
theorem I_TableError_BadText : isaF "TableError" "BadText" = some false := id rfl
theorem FL_BadText_word : fldF "BadText" "word" = true := id rfl
theorem FL_BadText_index : fldF "BadText" "index" = true := id rfl
abbrev cf : List Fn → List Fn → Cfg := cfg isaT mkT fldT fuel
-- is_decimal
def bt_is_decimal_3 : IB := .cons (.ret (.orr (.cons (.cmp .ne (.ix (.var 1) (.int 0)) (.str "0")) (.cons (.cmp .eq (.var 0) (.str "0")) .nil)))) .nil
def bt_is_decimal_2 : IB := .cons (.iff (.orr (.cons (.cmp .eq (.var 1) (.str "")) (.cons (.nott (.bi .all (.cons (.lc (.cmp .isin (.var 2) (.str "0123456789")) (.n 2) (.it (.var 1)) .no) .nil))) .nil))) (.cons (.ret (.bl false)) .nil) (.nil)) bt_is_decimal_3
def bt_is_decimal_1 : IB := .cons (.iff (.m1 .stw (.var 0) (.str "-")) (.cons (.asg 1 (.sl (.var 0) (.so (.int 1)) .no)) .nil) (.nil)) bt_is_decimal_2
def b_is_decimal : IB := .cons (.asg 1 (.var 0)) bt_is_decimal_1
def N_is_decimal : List Str := ["text", "digits", "sign"]
def c_is_decimal : Cfg := cf [] []
def f_is_decimal : Fn := mkFn c_is_decimal "is_decimal" 1 3 b_is_decimal
theorem n_is_decimal : f_is_decimal.n = 1 ∧ f_is_decimal.ow = false := ⟨id rfl, id rfl⟩
-- write_place
def b_write_place : IB := .cons (.ret (.m1 .join (.str ",") (.lc (.bi .str (.cons (.var 1) .nil)) (.n 1) (.it (.var 0)) .no))) .nil
def N_write_place : List Str := ["place", "x"]
def c_write_place : Cfg := cf [] []
def f_write_place : Fn := mkFn c_write_place "write_place" 1 2 b_write_place
theorem n_write_place : f_write_place.n = 1 ∧ f_write_place.ow = false := ⟨id rfl, id rfl⟩
-- place_of_text
def b_place_of_text : IB := .cons (.ret (.bi .tup (.cons (.lc (.bi .int (.cons (.var 1) .nil)) (.n 1) (.it (.m1 .split (.var 0) (.str ","))) .no) .nil))) .nil
def N_place_of_text : List Str := ["text", "piece"]
def c_place_of_text : Cfg := cf [] []
def f_place_of_text : Fn := mkFn c_place_of_text "place_of_text" 1 2 b_place_of_text
theorem n_place_of_text : f_place_of_text.n = 1 ∧ f_place_of_text.ow = false := ⟨id rfl, id rfl⟩
-- _law_cell
def bt_l_cell_2 : IB := .cons (.ret (.bin .mod (.bi .int (.cons (.bin .add (.bin .add (.bin .mul (.ix (.var 0) (.bin .mod (.bi .int (.cons (.var 1) .nil)) (.bi .len (.cons (.var 0) .nil)))) (.int 48271)) (.bin .mul (.int 69621) (.var 1))) (.int 11)) .nil)) (.int 2147483647))) .nil
def bt_l_cell_1 : IB := .cons (.iff (.cmp .eq (.bi .len (.cons (.var 0) .nil)) (.int 0)) (.cons (.ret (.bin .add (.bin .mul (.int 101) (.var 1)) (.int 7))) .nil) (.nil)) bt_l_cell_2
def b_l_cell : IB := .cons (.iff (.cmp .lt (.var 1) (.bi .len (.cons (.var 0) .nil))) (.cons (.ret (.ix (.var 0) (.var 1))) .nil) (.nil)) bt_l_cell_1
def N_l_cell : List Str := ["_law_script", "_law_k"]
def c_l_cell : Cfg := cf [] []
def f_l_cell : Fn := mkFn c_l_cell "_law_cell" 2 2 b_l_cell
theorem n_l_cell : f_l_cell.n = 2 ∧ f_l_cell.ow = false := ⟨id rfl, id rfl⟩
-- _law_draws
def L_l_draws_1 : IB := .cons (.iff (.cmp .ge (.var 0) (.bin .pow (.int 10) (.int 18))) (.cons (.app 2 (.bin .mod (.bi .int (.cons (.var 3) .nil)) (.ix (.var 1) (.var 4)))) (.cons (.asg 3 (.bin .fdiv (.var 3) (.ix (.var 1) (.var 4)))) .nil)) (.cons (.asg 5 (.bin .mod (.bi .int (.cons (.bin .add (.bin .add (.var 0) (.bin .mul (.int 7919) (.var 4))) (.int 13)) .nil)) (.int 2147483647))) (.cons (.asg 5 (.bin .mod (.bi .int (.cons (.bin .mul (.var 5) (.bin .add (.var 5) (.int 48271))) .nil)) (.int 2147483629))) (.cons (.asg 5 (.bin .mod (.bi .int (.cons (.bin .add (.bin .mul (.var 5) (.bin .add (.var 5) (.int 69621))) (.bin .mul (.int 31) (.var 4))) .nil)) (.int 2147483647))) (.cons (.app 2 (.bin .mod (.bi .int (.cons (.bin .fdiv (.var 5) (.int 9)) .nil)) (.ix (.var 1) (.var 4)))) .nil))))) (.kil [4, 5] .nil)
def bt_l_draws_3 : IB := .cons (.retV 2) .nil
def bt_l_draws_2 : IB := .cons (.forr (.n 4) (.range (.cons (.bi .len (.cons (.var 1) .nil)) .nil)) L_l_draws_1) bt_l_draws_3
def bt_l_draws_1 : IB := .cons (.asg 3 (.bin .sub (.var 0) (.bin .pow (.int 10) (.int 18)))) bt_l_draws_2
def b_l_draws : IB := .cons (.asg 2 (.lst (.nil))) bt_l_draws_1
def N_l_draws : List Str := ["_law_cell_here", "_law_sizes", "_law_draws_here", "_law_rest", "_law_k", "_law_mixed"]
def c_l_draws : Cfg := cf [] []
def f_l_draws : Fn := mkFn c_l_draws "_law_draws" 2 6 b_l_draws
theorem n_l_draws : f_l_draws.n = 2 ∧ f_l_draws.ow = false := ⟨id rfl, id rfl⟩
-- _law_is_integer
def b_l_is_integer : IB := .cons (.ret (.andd (.cons (.isi (.var 0) .int) (.cons (.nott (.isi (.var 0) .bool)) .nil)))) .nil
def N_l_is_integer : List Str := ["_law_actual"]
def c_l_is_integer : Cfg := cf [] []
def f_l_is_integer : Fn := mkFn c_l_is_integer "_law_is_integer" 1 1 b_l_is_integer
theorem n_l_is_integer : f_l_is_integer.n = 1 ∧ f_l_is_integer.ow = false := ⟨id rfl, id rfl⟩
def k_l_is_integer : Cfg := cf [] []
def h_l_is_integer : Fn := mkFn k_l_is_integer.hot "_law_is_integer" 1 1 b_l_is_integer
theorem nh_l_is_integer : h_l_is_integer.n = 1 ∧ h_l_is_integer.ow = false := ⟨id rfl, id rfl⟩
-- _law_is_error
def b_l_is_error : IB := .cons (.ret (.andd (.cons (.isi (.var 0) (.own "TableError")) (.cons (.isi (.var 0) (.own "ValueError")) (.cons (.isi (.attr (.var 0) "word") .str) (.cons (.cmp .eq (.attr (.var 0) "word") (.var 1)) .nil)))))) .nil
def N_l_is_error : List Str := ["_law_e", "_law_word"]
def c_l_is_error : Cfg := cf [] []
def f_l_is_error : Fn := mkFn c_l_is_error "_law_is_error" 2 2 b_l_is_error
theorem n_l_is_error : f_l_is_error.n = 2 ∧ f_l_is_error.ow = false := ⟨id rfl, id rfl⟩
def k_l_is_error : Cfg := cf [] []
def h_l_is_error : Fn := mkFn k_l_is_error.hot "_law_is_error" 2 2 b_l_is_error
theorem nh_l_is_error : h_l_is_error.n = 2 ∧ h_l_is_error.ow = false := ⟨id rfl, id rfl⟩
-- _law_odd_piece
def bt_l_odd_piece_2 : IB := .cons (.ret (.ix (.var 1) (.var 0))) .nil
def bt_l_odd_piece_1 : IB := .cons (.asg 1 (.bin .add (.var 1) (.lst (.cons (.str "1_0") (.cons (.str "7\n") (.cons (.str "\t7") (.cons (.str "1e3") (.cons (.str "0x1") (.cons (.str "1@0") .nil))))))))) bt_l_odd_piece_2
def b_l_odd_piece : IB := .cons (.asg 1 (.lst (.cons (.str "") (.cons (.str "0") (.cons (.str "-0") (.cons (.str "00") (.cons (.str "7") (.cons (.str "-12") (.cons (.str "+1") (.cons (.str " 1") (.cons (.str "1 ") (.cons (.str "a") (.cons (.str "-") (.cons (.str "--1") (.cons (.str "1.0") (.cons (.str "01") (.cons (.str "-01") (.cons (.str "9") (.cons (.str "12a") (.cons (.str "1-") .nil)))))))))))))))))))) bt_l_odd_piece_1
def N_l_odd_piece : List Str := ["_law_which", "_law_pieces"]
def c_l_odd_piece : Cfg := cf [] []
def f_l_odd_piece : Fn := mkFn c_l_odd_piece "_law_odd_piece" 1 2 b_l_odd_piece
theorem n_l_odd_piece : f_l_odd_piece.n = 1 ∧ f_l_odd_piece.ow = false := ⟨id rfl, id rfl⟩
-- _law_decimal
def L_l_decimal_1 : IB := .cons (.iff (.cmp .notin (.var 2) (.str "0123456789")) (.cons (.ret (.bl false)) .nil) (.nil)) (.kil [2] .nil)
def bt_l_decimal_4 : IB := .cons (.ret (.orr (.cons (.cmp .ne (.ix (.var 1) (.int 0)) (.str "0")) (.cons (.cmp .eq (.var 0) (.str "0")) .nil)))) .nil
def bt_l_decimal_3 : IB := .cons (.forr (.n 2) (.it (.var 1)) L_l_decimal_1) bt_l_decimal_4
def bt_l_decimal_2 : IB := .cons (.iff (.cmp .eq (.var 1) (.str "")) (.cons (.ret (.bl false)) .nil) (.nil)) bt_l_decimal_3
def bt_l_decimal_1 : IB := .cons (.iff (.cmp .eq (.sl (.var 0) .no (.so (.int 1))) (.str "-")) (.cons (.asg 1 (.sl (.var 0) (.so (.int 1)) .no)) .nil) (.nil)) bt_l_decimal_2
def b_l_decimal : IB := .cons (.asg 1 (.var 0)) bt_l_decimal_1
def N_l_decimal : List Str := ["_law_piece_here", "_law_digits", "_law_sign"]
def c_l_decimal : Cfg := cf [] []
def f_l_decimal : Fn := mkFn c_l_decimal "_law_decimal" 1 3 b_l_decimal
theorem n_l_decimal : f_l_decimal.n = 1 ∧ f_l_decimal.ow = false := ⟨id rfl, id rfl⟩
-- first_bad_piece
def L_first_bad_piece_1 : IB := .cons (.iff (.orr (.cons (.cmp .eq (.var 2) (.int 3)) (.cons (.nott (.call 0 (.cons (.ix (.var 1) (.var 2)) .nil))) .nil))) (.cons (.retV 2) .nil) (.nil)) (.kil [2] .nil)
def bt_first_bad_piece_2 : IB := .cons (.ret (.non)) .nil
def bt_first_bad_piece_1 : IB := .cons (.forr (.n 2) (.range (.cons (.bi .len (.cons (.var 1) .nil)) .nil)) L_first_bad_piece_1) bt_first_bad_piece_2
def b_first_bad_piece : IB := .cons (.asg 1 (.m1 .split (.var 0) (.str ","))) bt_first_bad_piece_1
def N_first_bad_piece : List Str := ["text", "pieces", "k"]
def c_first_bad_piece : Cfg := cf [f_is_decimal] []
def f_first_bad_piece : Fn := mkFn c_first_bad_piece "first_bad_piece" 1 3 b_first_bad_piece
theorem n_first_bad_piece : f_first_bad_piece.n = 1 ∧ f_first_bad_piece.ow = false := ⟨id rfl, id rfl⟩
-- _law_is_place
def L_l_is_place_1 : IB := .cons (.iff (.nott (.call 0 (.cons (.var 1) .nil))) (.cons (.ret (.bl false)) .nil) (.nil)) (.kil [1] .nil)
def bt_l_is_place_2 : IB := .cons (.ret (.bl true)) .nil
def bt_l_is_place_1 : IB := .cons (.forr (.n 1) (.it (.var 0)) L_l_is_place_1) bt_l_is_place_2
def b_l_is_place : IB := .cons (.iff (.orr (.cons (.nott (.isi (.var 0) .tup)) (.cons (.cmp .lt (.bi .len (.cons (.var 0) .nil)) (.int 1)) (.cons (.cmp .gt (.bi .len (.cons (.var 0) .nil)) (.int 3)) .nil)))) (.cons (.ret (.bl false)) .nil) (.nil)) bt_l_is_place_1
def N_l_is_place : List Str := ["_law_actual", "_law_x"]
def c_l_is_place : Cfg := cf [f_l_is_integer] []
def f_l_is_place : Fn := mkFn c_l_is_place "_law_is_place" 1 2 b_l_is_place
theorem n_l_is_place : f_l_is_place.n = 1 ∧ f_l_is_place.ow = false := ⟨id rfl, id rfl⟩
-- _law_piece
def bt_l_piece_4 : IB := .cons (.retV 3) .nil
def bt_l_piece_3 : IB := .cons (.iff (.cmp .eq (.ix (.var 2) (.int 2)) (.int 1)) (.cons (.ret (.bin .add (.str "-") (.var 3))) .nil) (.nil)) bt_l_piece_4
def bt_l_piece_2 : IB := .cons (.asg 3 (.m1 .join (.str "") (.lc (.bi .str (.cons (.ix (.var 2) (.bin .add (.int 4) (.var 1))) .nil)) (.n 1) (.range (.cons (.bin .add (.int 1) (.ix (.var 2) (.int 3))) .nil)) .no))) bt_l_piece_3
def bt_l_piece_1 : IB := .cons (.iff (.cmp .eq (.ix (.var 2) (.int 0)) (.int 0)) (.cons (.ret (.call 1 (.cons (.ix (.var 2) (.int 1)) .nil))) .nil) (.nil)) bt_l_piece_2
def b_l_piece : IB := .cons (.asg 2 (.call 0 (.cons (.var 0) (.cons (.bin .add (.lst (.cons (.int 4) (.cons (.int 24) (.cons (.int 2) (.cons (.int 30) .nil))))) (.lc (.int 10) (.n 1) (.range (.cons (.int 30) .nil)) .no)) .nil)))) bt_l_piece_1
def N_l_piece : List Str := ["_law_cell_here", "_law_k", "_law_draws_here", "_law_digits"]
def c_l_piece : Cfg := cf [f_l_draws, f_l_odd_piece] []
def f_l_piece : Fn := mkFn c_l_piece "_law_piece" 1 4 b_l_piece
theorem n_l_piece : f_l_piece.n = 1 ∧ f_l_piece.ow = false := ⟨id rfl, id rfl⟩
-- _law_place
def bt_l_place_3 : IB := .cons (.ret (.sl (.var 2) .no (.so (.bin .add (.int 1) (.ix (.var 1) (.int 0)))))) .nil
def bt_l_place_2 : IB := .cons (.iff (.cmp .eq (.ix (.var 1) (.int 1)) (.int 1)) (.cons (.asg 2 (.tup (.cons (.bin .sub (.ix (.var 1) (.int 5)) (.int 1000)) (.cons (.bin .sub (.ix (.var 1) (.int 6)) (.int 1000)) (.cons (.bin .sub (.ix (.var 1) (.int 7)) (.int 1000)) .nil))))) .nil) (.nil)) bt_l_place_3
def bt_l_place_1 : IB := .cons (.asg 2 (.tup (.cons (.bin .sub (.ix (.var 1) (.int 2)) (.int 9)) (.cons (.bin .sub (.ix (.var 1) (.int 3)) (.int 9)) (.cons (.bin .sub (.ix (.var 1) (.int 4)) (.int 9)) .nil))))) bt_l_place_2
def b_l_place : IB := .cons (.asg 1 (.call 0 (.cons (.var 0) (.cons (.lst (.cons (.int 3) (.cons (.int 2) (.cons (.int 19) (.cons (.int 19) (.cons (.int 19) (.cons (.int 2001) (.cons (.int 2001) (.cons (.int 2001) .nil))))))))) .nil)))) bt_l_place_1
def N_l_place : List Str := ["_law_cell_here", "_law_draws_here", "_law_place_here"]
def c_l_place : Cfg := cf [f_l_draws] []
def f_l_place : Fn := mkFn c_l_place "_law_place" 1 3 b_l_place
theorem n_l_place : f_l_place.n = 1 ∧ f_l_place.ow = false := ⟨id rfl, id rfl⟩
-- _law_first_bad
def L_l_first_bad_1 : IB := .cons (.iff (.orr (.cons (.cmp .eq (.var 1) (.int 3)) (.cons (.nott (.call 0 (.cons (.ix (.var 0) (.var 1)) .nil))) .nil))) (.cons (.retV 1) .nil) (.nil)) (.kil [1] .nil)
def b_l_first_bad : IB := .cons (.forr (.n 1) (.range (.cons (.bi .len (.cons (.var 0) .nil)) .nil)) L_l_first_bad_1) (.cons (.ret (.neg (.int 1))) .nil)
def N_l_first_bad : List Str := ["_law_pieces", "_law_k"]
def c_l_first_bad : Cfg := cf [f_l_decimal] []
def f_l_first_bad : Fn := mkFn c_l_first_bad "_law_first_bad" 1 2 b_l_first_bad
theorem n_l_first_bad : f_l_first_bad.n = 1 ∧ f_l_first_bad.ow = false := ⟨id rfl, id rfl⟩
-- _law_refused
def b_l_refused : IB := .cons (.iff (.orr (.cons (.nott (.isi (.var 0) (.own "BadText"))) (.cons (.isi (.var 0) (.own "BadPlace")) (.cons (.isi (.var 0) (.own "BadLine")) .nil)))) (.cons (.ret (.bl false)) .nil) (.nil)) (.cons (.ret (.andd (.cons (.call 0 (.cons (.var 0) (.cons (.str "BadText") .nil))) (.cons (.call 1 (.cons (.attr (.var 0) "index") .nil)) (.cons (.cmp .eq (.attr (.var 0) "index") (.var 1)) .nil))))) .nil)
def N_l_refused : List Str := ["_law_e", "_law_index"]
def c_l_refused : Cfg := cf [f_l_is_error, f_l_is_integer] []
def f_l_refused : Fn := mkFn c_l_refused "_law_refused" 2 2 b_l_refused
theorem n_l_refused : f_l_refused.n = 2 ∧ f_l_refused.ow = false := ⟨id rfl, id rfl⟩
def k_l_refused : Cfg := cf [] [h_l_is_error, h_l_is_integer]
def h_l_refused : Fn := mkFn k_l_refused.hot "_law_refused" 2 2 b_l_refused
theorem nh_l_refused : h_l_refused.n = 2 ∧ h_l_refused.ow = false := ⟨id rfl, id rfl⟩
-- read_place
def bt_read_place_2 : IB := .cons (.ret (.call 1 (.cons (.var 0) .nil))) .nil
def bt_read_place_1 : IB := .cons (.iff (.cmp .isnt (.var 1) (.non)) (.cons (.rais "BadText" (.cons (.var 1) .nil)) .nil) (.nil)) bt_read_place_2
def b_read_place : IB := .cons (.asg 1 (.call 0 (.cons (.var 0) .nil))) bt_read_place_1
def N_read_place : List Str := ["text", "bad"]
def c_read_place : Cfg := cf [f_first_bad_piece, f_place_of_text] []
def f_read_place : Fn := mkFn c_read_place "read_place" 1 2 b_read_place
theorem n_read_place : f_read_place.n = 1 ∧ f_read_place.ow = false := ⟨id rfl, id rfl⟩
-- _law_asked
def bt_l_asked_6 : IB := .cons (.ret (.andd (.cons (.cmp .lt (.var 2) (.int 0)) (.cons (.call 2 (.cons (.var 3) .nil)) (.cons (.cmp .eq (.var 3) (.bi .tup (.cons (.lc (.bi .int (.cons (.var 5) .nil)) (.n 5) (.it (.var 1)) .no) .nil))) .nil))))) .nil
def bt_l_asked_4 : IB := .cons (.tri (.cons (.asg 3 (.call 1 (.cons (.var 0) .nil))) .nil) "TableError" 4 (.cons (.ret (.andd (.cons (.cmp .ge (.var 2) (.int 0)) (.cons (.call 0 (.cons (.var 4) (.cons (.var 2) .nil))) .nil)))) .nil)) (.frz 3 bt_l_asked_6)
def bt_l_asked_2 : IB := .cons (.asg 2 (.call 0 (.cons (.var 1) .nil))) (.frz 2 bt_l_asked_4)
def b_l_asked : IB := .cons (.asg 1 (.m1 .split (.var 0) (.str ","))) (.frz 1 bt_l_asked_2)
def N_l_asked : List Str := ["_law_text", "_law_pieces", "_law_bad", "_law_actual", "_law_e", "_law_piece_here"]
def c_l_asked : Cfg := cf [f_l_first_bad, f_read_place, f_l_is_place] [h_l_refused]
def f_l_asked : Fn := mkFn c_l_asked "_law_asked" 1 6 b_l_asked
theorem n_l_asked : f_l_asked.n = 1 ∧ f_l_asked.ow = false := ⟨id rfl, id rfl⟩
-- law
def L_law_1 : IB := .cons (.iff (.nott (.call 6 (.cons (.var 11) .nil))) (.cons (.ret (.bl false)) .nil) (.nil)) (.kil [11] .nil)
def L_law_2 : IB := .cons (.asg 10 (.call 5 (.cons (.var 5) .nil))) (.cons (.iff (.orr (.cons (.nott (.isi (.var 10) .str)) (.cons (.cmp .ne (.var 10) (.var 7)) .nil))) (.cons (.ret (.bl false)) .nil) (.nil)) (.cons (.forr (.n 11) (.it (.var 8)) L_law_1) (.kil [9, 10, 11] .nil)))
def bt_law_12 : IB := .cons (.ret (.bl true)) .nil
def bt_law_11 : IB := .cons (.forr (.n 9) (.range (.cons (.int 2) .nil)) L_law_2) bt_law_12
def bt_law_10 : IB := .cons (.asg 8 (.bin .add (.var 8) (.lst (.cons (.bin .add (.var 7) (.str "\n")) (.cons (.bin .add (.str " ") (.var 7)) (.cons (.bin .add (.var 7) (.str " ")) .nil)))))) bt_law_11
def bt_law_9 : IB := .cons (.asg 8 (.lst (.cons (.var 3) (.cons (.var 7) (.cons (.var 4) (.cons (.bin .add (.bin .add (.var 4) (.str ",")) (.var 7)) (.cons (.bin .add (.bin .add (.var 7) (.str ",")) (.var 4)) (.cons (.bin .add (.var 7) (.str ",0")) (.cons (.bin .add (.var 7) (.str ",")) .nil))))))))) bt_law_10
def bt_law_7 : IB := .cons (.asg 7 (.m1 .join (.str ",") (.lc (.bi .str (.cons (.var 6) .nil)) (.n 6) (.it (.var 5)) .no))) (.frz 7 bt_law_9)
def bt_law_5 : IB := .cons (.asg 5 (.call 4 (.cons (.call 1 (.cons (.var 0) (.cons (.int 1) .nil))) .nil))) (.frz 5 bt_law_7)
def bt_law_3 : IB := .cons (.asg 4 (.call 3 (.cons (.ix (.var 1) (.int 1)) .nil))) (.frz 4 bt_law_5)
def bt_law_1 : IB := .cons (.asg 3 (.m1 .join (.str ",") (.lc (.call 2 (.cons (.call 1 (.cons (.var 0) (.cons (.bin .add (.int 2) (.var 2)) .nil))) .nil)) (.n 2) (.range (.cons (.bin .add (.int 1) (.ix (.var 1) (.int 0))) .nil)) .no))) (.frz 3 bt_law_3)
def b_law : IB := .cons (.asg 1 (.call 0 (.cons (.call 1 (.cons (.var 0) (.cons (.int 0) .nil))) (.cons (.lst (.cons (.int 5) (.cons (.int 24) .nil))) .nil)))) bt_law_1
def N_law : List Str := ["_law_script", "_law_draws_here", "_law_k", "_law_text", "_law_odd", "_law_place_here", "_law_x", "_law_written", "_law_texts", "_law_turn", "_law_told", "_law_each"]
def c_law : Cfg := cf [f_l_draws, f_l_cell, f_l_piece, f_l_odd_piece, f_l_place, f_write_place, f_l_asked] []
def f_law : Fn := mkFn c_law "law" 1 12 b_law
theorem n_law : f_law.n = 1 ∧ f_law.ow = false := ⟨id rfl, id rfl⟩
/-! ### the tables of each def -/
theorem is_is_decimal : c_is_decimal.isa = isaF := id rfl
theorem fd_is_decimal : c_is_decimal.fld = fldF := id rfl
theorem is_write_place : c_write_place.isa = isaF := id rfl
theorem fd_write_place : c_write_place.fld = fldF := id rfl
theorem is_place_of_text : c_place_of_text.isa = isaF := id rfl
theorem fd_place_of_text : c_place_of_text.fld = fldF := id rfl
theorem is_l_cell : c_l_cell.isa = isaF := id rfl
theorem fd_l_cell : c_l_cell.fld = fldF := id rfl
theorem is_l_draws : c_l_draws.isa = isaF := id rfl
theorem fd_l_draws : c_l_draws.fld = fldF := id rfl
theorem is_l_is_integer : c_l_is_integer.isa = isaF := id rfl
theorem fd_l_is_integer : c_l_is_integer.fld = fldF := id rfl
theorem is_h_l_is_integer : k_l_is_integer.isa = isaF := id rfl
theorem fd_h_l_is_integer : k_l_is_integer.fld = fldF := id rfl
theorem is_l_is_error : c_l_is_error.isa = isaF := id rfl
theorem fd_l_is_error : c_l_is_error.fld = fldF := id rfl
theorem is_h_l_is_error : k_l_is_error.isa = isaF := id rfl
theorem fd_h_l_is_error : k_l_is_error.fld = fldF := id rfl
theorem is_l_odd_piece : c_l_odd_piece.isa = isaF := id rfl
theorem fd_l_odd_piece : c_l_odd_piece.fld = fldF := id rfl
theorem is_l_decimal : c_l_decimal.isa = isaF := id rfl
theorem fd_l_decimal : c_l_decimal.fld = fldF := id rfl
theorem T_first_bad_piece_0 : c_first_bad_piece.T[0]? = some f_is_decimal := rfl
theorem is_first_bad_piece : c_first_bad_piece.isa = isaF := id rfl
theorem fd_first_bad_piece : c_first_bad_piece.fld = fldF := id rfl
theorem T_l_is_place_0 : c_l_is_place.T[0]? = some f_l_is_integer := rfl
theorem is_l_is_place : c_l_is_place.isa = isaF := id rfl
theorem fd_l_is_place : c_l_is_place.fld = fldF := id rfl
theorem T_l_piece_0 : c_l_piece.T[0]? = some f_l_draws := rfl
theorem T_l_piece_1 : c_l_piece.T[1]? = some f_l_odd_piece := rfl
theorem is_l_piece : c_l_piece.isa = isaF := id rfl
theorem fd_l_piece : c_l_piece.fld = fldF := id rfl
theorem T_l_place_0 : c_l_place.T[0]? = some f_l_draws := rfl
theorem is_l_place : c_l_place.isa = isaF := id rfl
theorem fd_l_place : c_l_place.fld = fldF := id rfl
theorem T_l_first_bad_0 : c_l_first_bad.T[0]? = some f_l_decimal := rfl
theorem is_l_first_bad : c_l_first_bad.isa = isaF := id rfl
theorem fd_l_first_bad : c_l_first_bad.fld = fldF := id rfl
theorem T_l_refused_0 : c_l_refused.T[0]? = some f_l_is_error := rfl
theorem T_l_refused_1 : c_l_refused.T[1]? = some f_l_is_integer := rfl
theorem TH_l_refused_0 : k_l_refused.hot.T[0]? = some h_l_is_error := rfl
theorem TH_l_refused_1 : k_l_refused.hot.T[1]? = some h_l_is_integer := rfl
theorem is_l_refused : c_l_refused.isa = isaF := id rfl
theorem fd_l_refused : c_l_refused.fld = fldF := id rfl
theorem is_h_l_refused : k_l_refused.isa = isaF := id rfl
theorem fd_h_l_refused : k_l_refused.fld = fldF := id rfl
theorem T_read_place_0 : c_read_place.T[0]? = some f_first_bad_piece := rfl
theorem T_read_place_1 : c_read_place.T[1]? = some f_place_of_text := rfl
theorem M_read_place_BadText : c_read_place.mkE "BadText" = some (mkEr "BadText" ["index"] "BadText") := rfl
theorem is_read_place : c_read_place.isa = isaF := id rfl
theorem fd_read_place : c_read_place.fld = fldF := id rfl
theorem T_l_asked_0 : c_l_asked.T[0]? = some f_l_first_bad := rfl
theorem T_l_asked_1 : c_l_asked.T[1]? = some f_read_place := rfl
theorem T_l_asked_2 : c_l_asked.T[2]? = some f_l_is_place := rfl
theorem is_l_asked : c_l_asked.isa = isaF := id rfl
theorem fd_l_asked : c_l_asked.fld = fldF := id rfl
theorem TS_l_asked_0 : c_l_asked.hot.T[0]? = some h_l_refused := rfl
theorem T_law_0 : c_law.T[0]? = some f_l_draws := rfl
theorem T_law_1 : c_law.T[1]? = some f_l_cell := rfl
theorem T_law_2 : c_law.T[2]? = some f_l_piece := rfl
theorem T_law_3 : c_law.T[3]? = some f_l_odd_piece := rfl
theorem T_law_4 : c_law.T[4]? = some f_l_place := rfl
theorem T_law_5 : c_law.T[5]? = some f_write_place := rfl
theorem T_law_6 : c_law.T[6]? = some f_l_asked := rfl
theorem is_law : c_law.isa = isaF := id rfl
theorem fd_law : c_law.fld = fldF := id rfl
/-! ### the looks -/
theorem ck_is_decimal : ckB N_is_decimal c_is_decimal false (defScope (stn 6)) b_is_decimal (defBody (stn 6)) = true := by decide +kernel
theorem S_is_decimal : FnScope N_is_decimal ["text"] (defScope (stn 6)) := ⟨rfl, rfl, rfl, by decide +kernel, by decide +kernel, by decide +kernel, by decide +kernel⟩
theorem B_is_decimal (kV doc pm : Value) (an : Option Addr) (cdv ct : Value) (us : List Value) (hl : us.length = (["text"] : List Str).length) : bindArgs (PySem.W.fnOf "is_decimal" "is_decimal" (defArgs (stn 6)) (defBody (stn 6)) (defScope (stn 6)) .none kV doc pm an cdv ct) ⟨us, []⟩ = pure ((["text"] : List Str).zip us) := match us, hl with | [_], _ => rfl
theorem ck_write_place : ckB N_write_place c_write_place false (defScope (stn 7)) b_write_place (defBody (stn 7)) = true := by decide +kernel
theorem S_write_place : FnScope N_write_place ["place"] (defScope (stn 7)) := ⟨rfl, rfl, rfl, by decide +kernel, by decide +kernel, by decide +kernel, by decide +kernel⟩
theorem B_write_place (kV doc pm : Value) (an : Option Addr) (cdv ct : Value) (us : List Value) (hl : us.length = (["place"] : List Str).length) : bindArgs (PySem.W.fnOf "write_place" "write_place" (defArgs (stn 7)) (defBody (stn 7)) (defScope (stn 7)) .none kV doc pm an cdv ct) ⟨us, []⟩ = pure ((["place"] : List Str).zip us) := match us, hl with | [_], _ => rfl
theorem ck_place_of_text : ckB N_place_of_text c_place_of_text false (defScope (stn 9)) b_place_of_text (defBody (stn 9)) = true := by decide +kernel
theorem S_place_of_text : FnScope N_place_of_text ["text"] (defScope (stn 9)) := ⟨rfl, rfl, rfl, by decide +kernel, by decide +kernel, by decide +kernel, by decide +kernel⟩
theorem B_place_of_text (kV doc pm : Value) (an : Option Addr) (cdv ct : Value) (us : List Value) (hl : us.length = (["text"] : List Str).length) : bindArgs (PySem.W.fnOf "place_of_text" "place_of_text" (defArgs (stn 9)) (defBody (stn 9)) (defScope (stn 9)) .none kV doc pm an cdv ct) ⟨us, []⟩ = pure ((["text"] : List Str).zip us) := match us, hl with | [_], _ => rfl
theorem ck_l_cell : ckB N_l_cell c_l_cell false (defScope (stn 12)) b_l_cell (defBody (stn 12)) = true := by decide +kernel
theorem S_l_cell : FnScope N_l_cell ["_law_script", "_law_k"] (defScope (stn 12)) := ⟨rfl, rfl, rfl, by decide +kernel, by decide +kernel, by decide +kernel, by decide +kernel⟩
theorem B_l_cell (kV doc pm : Value) (an : Option Addr) (cdv ct : Value) (us : List Value) (hl : us.length = (["_law_script", "_law_k"] : List Str).length) : bindArgs (PySem.W.fnOf "_law_cell" "_law_cell" (defArgs (stn 12)) (defBody (stn 12)) (defScope (stn 12)) .none kV doc pm an cdv ct) ⟨us, []⟩ = pure ((["_law_script", "_law_k"] : List Str).zip us) := match us, hl with | [_, _], _ => rfl
theorem ck_l_draws : ckB N_l_draws c_l_draws false (defScope (stn 13)) b_l_draws (defBody (stn 13)) = true := by decide +kernel
theorem S_l_draws : FnScope N_l_draws ["_law_cell_here", "_law_sizes"] (defScope (stn 13)) := ⟨rfl, rfl, rfl, by decide +kernel, by decide +kernel, by decide +kernel, by decide +kernel⟩
theorem B_l_draws (kV doc pm : Value) (an : Option Addr) (cdv ct : Value) (us : List Value) (hl : us.length = (["_law_cell_here", "_law_sizes"] : List Str).length) : bindArgs (PySem.W.fnOf "_law_draws" "_law_draws" (defArgs (stn 13)) (defBody (stn 13)) (defScope (stn 13)) .none kV doc pm an cdv ct) ⟨us, []⟩ = pure ((["_law_cell_here", "_law_sizes"] : List Str).zip us) := match us, hl with | [_, _], _ => rfl
theorem ck_l_is_integer : ckB N_l_is_integer c_l_is_integer false (defScope (stn 14)) b_l_is_integer (defBody (stn 14)) = true := by decide +kernel
theorem kh_l_is_integer : ckB N_l_is_integer k_l_is_integer.hot true (defScope (stn 14)) b_l_is_integer (defBody (stn 14)) = true := by decide +kernel
theorem S_l_is_integer : FnScope N_l_is_integer ["_law_actual"] (defScope (stn 14)) := ⟨rfl, rfl, rfl, by decide +kernel, by decide +kernel, by decide +kernel, by decide +kernel⟩
theorem B_l_is_integer (kV doc pm : Value) (an : Option Addr) (cdv ct : Value) (us : List Value) (hl : us.length = (["_law_actual"] : List Str).length) : bindArgs (PySem.W.fnOf "_law_is_integer" "_law_is_integer" (defArgs (stn 14)) (defBody (stn 14)) (defScope (stn 14)) .none kV doc pm an cdv ct) ⟨us, []⟩ = pure ((["_law_actual"] : List Str).zip us) := match us, hl with | [_], _ => rfl
theorem ck_l_is_error : ckB N_l_is_error c_l_is_error false (defScope (stn 16)) b_l_is_error (defBody (stn 16)) = true := by decide +kernel
theorem kh_l_is_error : ckB N_l_is_error k_l_is_error.hot true (defScope (stn 16)) b_l_is_error (defBody (stn 16)) = true := by decide +kernel
theorem S_l_is_error : FnScope N_l_is_error ["_law_e", "_law_word"] (defScope (stn 16)) := ⟨rfl, rfl, rfl, by decide +kernel, by decide +kernel, by decide +kernel, by decide +kernel⟩
theorem B_l_is_error (kV doc pm : Value) (an : Option Addr) (cdv ct : Value) (us : List Value) (hl : us.length = (["_law_e", "_law_word"] : List Str).length) : bindArgs (PySem.W.fnOf "_law_is_error" "_law_is_error" (defArgs (stn 16)) (defBody (stn 16)) (defScope (stn 16)) .none kV doc pm an cdv ct) ⟨us, []⟩ = pure ((["_law_e", "_law_word"] : List Str).zip us) := match us, hl with | [_, _], _ => rfl
theorem ck_l_odd_piece : ckB N_l_odd_piece c_l_odd_piece false (defScope (stn 17)) b_l_odd_piece (defBody (stn 17)) = true := by decide +kernel
theorem S_l_odd_piece : FnScope N_l_odd_piece ["_law_which"] (defScope (stn 17)) := ⟨rfl, rfl, rfl, by decide +kernel, by decide +kernel, by decide +kernel, by decide +kernel⟩
theorem B_l_odd_piece (kV doc pm : Value) (an : Option Addr) (cdv ct : Value) (us : List Value) (hl : us.length = (["_law_which"] : List Str).length) : bindArgs (PySem.W.fnOf "_law_odd_piece" "_law_odd_piece" (defArgs (stn 17)) (defBody (stn 17)) (defScope (stn 17)) .none kV doc pm an cdv ct) ⟨us, []⟩ = pure ((["_law_which"] : List Str).zip us) := match us, hl with | [_], _ => rfl
theorem ck_l_decimal : ckB N_l_decimal c_l_decimal false (defScope (stn 20)) b_l_decimal (defBody (stn 20)) = true := by decide +kernel
theorem S_l_decimal : FnScope N_l_decimal ["_law_piece_here"] (defScope (stn 20)) := ⟨rfl, rfl, rfl, by decide +kernel, by decide +kernel, by decide +kernel, by decide +kernel⟩
theorem B_l_decimal (kV doc pm : Value) (an : Option Addr) (cdv ct : Value) (us : List Value) (hl : us.length = (["_law_piece_here"] : List Str).length) : bindArgs (PySem.W.fnOf "_law_decimal" "_law_decimal" (defArgs (stn 20)) (defBody (stn 20)) (defScope (stn 20)) .none kV doc pm an cdv ct) ⟨us, []⟩ = pure ((["_law_piece_here"] : List Str).zip us) := match us, hl with | [_], _ => rfl
theorem ck_first_bad_piece : ckB N_first_bad_piece c_first_bad_piece false (defScope (stn 8)) b_first_bad_piece (defBody (stn 8)) = true := by decide +kernel
theorem S_first_bad_piece : FnScope N_first_bad_piece ["text"] (defScope (stn 8)) := ⟨rfl, rfl, rfl, by decide +kernel, by decide +kernel, by decide +kernel, by decide +kernel⟩
theorem B_first_bad_piece (kV doc pm : Value) (an : Option Addr) (cdv ct : Value) (us : List Value) (hl : us.length = (["text"] : List Str).length) : bindArgs (PySem.W.fnOf "first_bad_piece" "first_bad_piece" (defArgs (stn 8)) (defBody (stn 8)) (defScope (stn 8)) .none kV doc pm an cdv ct) ⟨us, []⟩ = pure ((["text"] : List Str).zip us) := match us, hl with | [_], _ => rfl
theorem ck_l_is_place : ckB N_l_is_place c_l_is_place false (defScope (stn 15)) b_l_is_place (defBody (stn 15)) = true := by decide +kernel
theorem S_l_is_place : FnScope N_l_is_place ["_law_actual"] (defScope (stn 15)) := ⟨rfl, rfl, rfl, by decide +kernel, by decide +kernel, by decide +kernel, by decide +kernel⟩
theorem B_l_is_place (kV doc pm : Value) (an : Option Addr) (cdv ct : Value) (us : List Value) (hl : us.length = (["_law_actual"] : List Str).length) : bindArgs (PySem.W.fnOf "_law_is_place" "_law_is_place" (defArgs (stn 15)) (defBody (stn 15)) (defScope (stn 15)) .none kV doc pm an cdv ct) ⟨us, []⟩ = pure ((["_law_actual"] : List Str).zip us) := match us, hl with | [_], _ => rfl
theorem ck_l_piece : ckB N_l_piece c_l_piece false (defScope (stn 18)) b_l_piece (defBody (stn 18)) = true := by decide +kernel
theorem S_l_piece : FnScope N_l_piece ["_law_cell_here"] (defScope (stn 18)) := ⟨rfl, rfl, rfl, by decide +kernel, by decide +kernel, by decide +kernel, by decide +kernel⟩
theorem B_l_piece (kV doc pm : Value) (an : Option Addr) (cdv ct : Value) (us : List Value) (hl : us.length = (["_law_cell_here"] : List Str).length) : bindArgs (PySem.W.fnOf "_law_piece" "_law_piece" (defArgs (stn 18)) (defBody (stn 18)) (defScope (stn 18)) .none kV doc pm an cdv ct) ⟨us, []⟩ = pure ((["_law_cell_here"] : List Str).zip us) := match us, hl with | [_], _ => rfl
theorem ck_l_place : ckB N_l_place c_l_place false (defScope (stn 19)) b_l_place (defBody (stn 19)) = true := by decide +kernel
theorem S_l_place : FnScope N_l_place ["_law_cell_here"] (defScope (stn 19)) := ⟨rfl, rfl, rfl, by decide +kernel, by decide +kernel, by decide +kernel, by decide +kernel⟩
theorem B_l_place (kV doc pm : Value) (an : Option Addr) (cdv ct : Value) (us : List Value) (hl : us.length = (["_law_cell_here"] : List Str).length) : bindArgs (PySem.W.fnOf "_law_place" "_law_place" (defArgs (stn 19)) (defBody (stn 19)) (defScope (stn 19)) .none kV doc pm an cdv ct) ⟨us, []⟩ = pure ((["_law_cell_here"] : List Str).zip us) := match us, hl with | [_], _ => rfl
theorem ck_l_first_bad : ckB N_l_first_bad c_l_first_bad false (defScope (stn 21)) b_l_first_bad (defBody (stn 21)) = true := by decide +kernel
theorem S_l_first_bad : FnScope N_l_first_bad ["_law_pieces"] (defScope (stn 21)) := ⟨rfl, rfl, rfl, by decide +kernel, by decide +kernel, by decide +kernel, by decide +kernel⟩
theorem B_l_first_bad (kV doc pm : Value) (an : Option Addr) (cdv ct : Value) (us : List Value) (hl : us.length = (["_law_pieces"] : List Str).length) : bindArgs (PySem.W.fnOf "_law_first_bad" "_law_first_bad" (defArgs (stn 21)) (defBody (stn 21)) (defScope (stn 21)) .none kV doc pm an cdv ct) ⟨us, []⟩ = pure ((["_law_pieces"] : List Str).zip us) := match us, hl with | [_], _ => rfl
theorem ck_l_refused : ckB N_l_refused c_l_refused false (defScope (stn 22)) b_l_refused (defBody (stn 22)) = true := by decide +kernel
theorem kh_l_refused : ckB N_l_refused k_l_refused.hot true (defScope (stn 22)) b_l_refused (defBody (stn 22)) = true := by decide +kernel
theorem S_l_refused : FnScope N_l_refused ["_law_e", "_law_index"] (defScope (stn 22)) := ⟨rfl, rfl, rfl, by decide +kernel, by decide +kernel, by decide +kernel, by decide +kernel⟩
theorem B_l_refused (kV doc pm : Value) (an : Option Addr) (cdv ct : Value) (us : List Value) (hl : us.length = (["_law_e", "_law_index"] : List Str).length) : bindArgs (PySem.W.fnOf "_law_refused" "_law_refused" (defArgs (stn 22)) (defBody (stn 22)) (defScope (stn 22)) .none kV doc pm an cdv ct) ⟨us, []⟩ = pure ((["_law_e", "_law_index"] : List Str).zip us) := match us, hl with | [_, _], _ => rfl
theorem ck_read_place : ckB N_read_place c_read_place false (defScope (stn 10)) b_read_place (defBody (stn 10)) = true := by decide +kernel
theorem S_read_place : FnScope N_read_place ["text"] (defScope (stn 10)) := ⟨rfl, rfl, rfl, by decide +kernel, by decide +kernel, by decide +kernel, by decide +kernel⟩
theorem B_read_place (kV doc pm : Value) (an : Option Addr) (cdv ct : Value) (us : List Value) (hl : us.length = (["text"] : List Str).length) : bindArgs (PySem.W.fnOf "read_place" "read_place" (defArgs (stn 10)) (defBody (stn 10)) (defScope (stn 10)) .none kV doc pm an cdv ct) ⟨us, []⟩ = pure ((["text"] : List Str).zip us) := match us, hl with | [_], _ => rfl
theorem ck_l_asked : ckB N_l_asked c_l_asked false (defScope (stn 23)) b_l_asked (defBody (stn 23)) = true := by decide +kernel
theorem S_l_asked : FnScope N_l_asked ["_law_text"] (defScope (stn 23)) := ⟨rfl, rfl, rfl, by decide +kernel, by decide +kernel, by decide +kernel, by decide +kernel⟩
theorem B_l_asked (kV doc pm : Value) (an : Option Addr) (cdv ct : Value) (us : List Value) (hl : us.length = (["_law_text"] : List Str).length) : bindArgs (PySem.W.fnOf "_law_asked" "_law_asked" (defArgs (stn 23)) (defBody (stn 23)) (defScope (stn 23)) .none kV doc pm an cdv ct) ⟨us, []⟩ = pure ((["_law_text"] : List Str).zip us) := match us, hl with | [_], _ => rfl
theorem ck_law : ckB N_law c_law false (defScope (stn 24)) b_law (defBody (stn 24)) = true := by decide +kernel
theorem S_law : FnScope N_law ["_law_script"] (defScope (stn 24)) := ⟨rfl, rfl, rfl, by decide +kernel, by decide +kernel, by decide +kernel, by decide +kernel⟩
theorem B_law (kV doc pm : Value) (an : Option Addr) (cdv ct : Value) (us : List Value) (hl : us.length = (["_law_script"] : List Str).length) : bindArgs (PySem.W.fnOf "law" "law" (defArgs (stn 24)) (defBody (stn 24)) (defScope (stn 24)) .none kV doc pm an cdv ct) ⟨us, []⟩ = pure ((["_law_script"] : List Str).zip us) := match us, hl with | [_], _ => rfl
theorem SI_TableError : FnScope ["self", "text", "word"] ["self", "text", "word"] (defScope (initOf (stn 1))) := ⟨rfl, rfl, rfl, by decide +kernel, by decide +kernel, by decide +kernel, by decide +kernel⟩
theorem BI_TableError (kV doc pm : Value) (an : Option Addr) (cdv ct : Value) (us : List Value) (hl : us.length = (["self", "text", "word"] : List Str).length) : bindArgs (PySem.W.fnOf "__init__" "TableError.__init__" (defArgs (initOf (stn 1))) (defBody (initOf (stn 1))) (defScope (initOf (stn 1))) .none kV doc pm an cdv ct) ⟨us, []⟩ = pure ((["self", "text", "word"] : List Str).zip us) := match us, hl with | [_, _, _], _ => rfl
theorem II_TableError : isI0 (defScope (initOf (stn 1))) (defBody (initOf (stn 1))) = true := by decide +kernel
theorem SI_BadText : FnScope ["self", "index"] ["self", "index"] (defScope (initOf (stn 3))) := ⟨rfl, rfl, rfl, by decide +kernel, by decide +kernel, by decide +kernel, by decide +kernel⟩
theorem BI_BadText (kV doc pm : Value) (an : Option Addr) (cdv ct : Value) (us : List Value) (hl : us.length = (["self", "index"] : List Str).length) : bindArgs (PySem.W.fnOf "__init__" "BadText.__init__" (defArgs (initOf (stn 3))) (defBody (initOf (stn 3))) (defScope (initOf (stn 3))) .none kV doc pm an cdv ct) ⟨us, []⟩ = pure ((["self", "index"] : List Str).zip us) := match us, hl with | [_, _], _ => rfl
theorem II_BadText : isIn ["self", "index"] (defScope (initOf (stn 3))) "TableError" "BadText" ["index"] (defBody (initOf (stn 3))) = true := by decide +kernel
theorem all_mk {P : Program} {w : World} {K : PySem.W.Frag} {h : Heap} {mg : Str → Option Value} {fa : Addr} (X : K.In h) (G : h.Ns mainGlobals mg) (hfa : mg "law" = some (.ref fa))
    {C_TableError : Addr}
    {fI_TableError : Addr} {o_TableError k_TableError d_TableError p_TableError cd_TableError ct_TableError : Value} {od_TableError an_TableError : Option Addr} {sl_TableError : Array (Option Value)}
    {C_BadPlace : Addr}
    {C_BadText : Addr}
    {fI_BadText : Addr} {o_BadText k_BadText d_BadText p_BadText cd_BadText ct_BadText : Value} {od_BadText an_BadText : Option Addr} {sl_BadText : Array (Option Value)}
    {nm_BadText q_BadText : Str} {N_BadText : Addr} {bs_BadTextL bm_BadText : List Value} {sn_BadText : List Str} {su_BadText : List Value} {ab_BadText : Bool} {co_BadText : Option Bool} {dd_BadText : Option Addr} {m0_BadText m1_BadText m2_BadText m3_BadText m5_BadText : Option Value}
    {C_BadLine : Addr}
    {A_is_decimal : Addr} {o_is_decimal k_is_decimalV d_is_decimal p_is_decimal cd_is_decimal ct_is_decimal : Value} {od_is_decimal an_is_decimal : Option Addr} {sl_is_decimal : Array (Option Value)}
    {A_write_place : Addr} {o_write_place k_write_placeV d_write_place p_write_place cd_write_place ct_write_place : Value} {od_write_place an_write_place : Option Addr} {sl_write_place : Array (Option Value)}
    {A_place_of_text : Addr} {o_place_of_text k_place_of_textV d_place_of_text p_place_of_text cd_place_of_text ct_place_of_text : Value} {od_place_of_text an_place_of_text : Option Addr} {sl_place_of_text : Array (Option Value)}
    {A_l_cell : Addr} {o_l_cell k_l_cellV d_l_cell p_l_cell cd_l_cell ct_l_cell : Value} {od_l_cell an_l_cell : Option Addr} {sl_l_cell : Array (Option Value)}
    {A_l_draws : Addr} {o_l_draws k_l_drawsV d_l_draws p_l_draws cd_l_draws ct_l_draws : Value} {od_l_draws an_l_draws : Option Addr} {sl_l_draws : Array (Option Value)}
    {A_l_is_integer : Addr} {o_l_is_integer k_l_is_integerV d_l_is_integer p_l_is_integer cd_l_is_integer ct_l_is_integer : Value} {od_l_is_integer an_l_is_integer : Option Addr} {sl_l_is_integer : Array (Option Value)}
    {A_l_is_error : Addr} {o_l_is_error k_l_is_errorV d_l_is_error p_l_is_error cd_l_is_error ct_l_is_error : Value} {od_l_is_error an_l_is_error : Option Addr} {sl_l_is_error : Array (Option Value)}
    {A_l_odd_piece : Addr} {o_l_odd_piece k_l_odd_pieceV d_l_odd_piece p_l_odd_piece cd_l_odd_piece ct_l_odd_piece : Value} {od_l_odd_piece an_l_odd_piece : Option Addr} {sl_l_odd_piece : Array (Option Value)}
    {A_l_decimal : Addr} {o_l_decimal k_l_decimalV d_l_decimal p_l_decimal cd_l_decimal ct_l_decimal : Value} {od_l_decimal an_l_decimal : Option Addr} {sl_l_decimal : Array (Option Value)}
    {A_first_bad_piece : Addr} {o_first_bad_piece k_first_bad_pieceV d_first_bad_piece p_first_bad_piece cd_first_bad_piece ct_first_bad_piece : Value} {od_first_bad_piece an_first_bad_piece : Option Addr} {sl_first_bad_piece : Array (Option Value)}
    {A_l_is_place : Addr} {o_l_is_place k_l_is_placeV d_l_is_place p_l_is_place cd_l_is_place ct_l_is_place : Value} {od_l_is_place an_l_is_place : Option Addr} {sl_l_is_place : Array (Option Value)}
    {A_l_piece : Addr} {o_l_piece k_l_pieceV d_l_piece p_l_piece cd_l_piece ct_l_piece : Value} {od_l_piece an_l_piece : Option Addr} {sl_l_piece : Array (Option Value)}
    {A_l_place : Addr} {o_l_place k_l_placeV d_l_place p_l_place cd_l_place ct_l_place : Value} {od_l_place an_l_place : Option Addr} {sl_l_place : Array (Option Value)}
    {A_l_first_bad : Addr} {o_l_first_bad k_l_first_badV d_l_first_bad p_l_first_bad cd_l_first_bad ct_l_first_bad : Value} {od_l_first_bad an_l_first_bad : Option Addr} {sl_l_first_bad : Array (Option Value)}
    {A_l_refused : Addr} {o_l_refused k_l_refusedV d_l_refused p_l_refused cd_l_refused ct_l_refused : Value} {od_l_refused an_l_refused : Option Addr} {sl_l_refused : Array (Option Value)}
    {A_read_place : Addr} {o_read_place k_read_placeV d_read_place p_read_place cd_read_place ct_read_place : Value} {od_read_place an_read_place : Option Addr} {sl_read_place : Array (Option Value)}
    {A_l_asked : Addr} {o_l_asked k_l_askedV d_l_asked p_l_asked cd_l_asked ct_l_asked : Value} {od_l_asked an_l_asked : Option Addr} {sl_l_asked : Array (Option Value)}
    {A_law : Addr} {o_law k_lawV d_law p_law cd_law ct_law : Value} {od_law an_law : Option Addr} {sl_law : Array (Option Value)}
    (z_len : PySem.W.nsIn K mainGlobals "len" = some none)
    (z_abs : PySem.W.nsIn K mainGlobals "abs" = some none)
    (z_int : PySem.W.nsIn K mainGlobals "int" = some none)
    (z_tuple : PySem.W.nsIn K mainGlobals "tuple" = some none)
    (z_list : PySem.W.nsIn K mainGlobals "list" = some none)
    (z_sorted : PySem.W.nsIn K mainGlobals "sorted" = some none)
    (z_min : PySem.W.nsIn K mainGlobals "min" = some none)
    (z_max : PySem.W.nsIn K mainGlobals "max" = some none)
    (z_sum : PySem.W.nsIn K mainGlobals "sum" = some none)
    (z_all : PySem.W.nsIn K mainGlobals "all" = some none)
    (z_any : PySem.W.nsIn K mainGlobals "any" = some none)
    (z_isinstance : PySem.W.nsIn K mainGlobals "isinstance" = some none)
    (z_range : PySem.W.nsIn K mainGlobals "range" = some none)
    (z_bool : PySem.W.nsIn K mainGlobals "bool" = some none)
    (z_str : PySem.W.nsIn K mainGlobals "str" = some none)
    (z_dict : PySem.W.nsIn K mainGlobals "dict" = some none)
    (z_reversed : PySem.W.nsIn K mainGlobals "reversed" = some none)
    (z_ValueError : PySem.W.nsIn K mainGlobals "ValueError" = some none)
    (w1 : PySem.W.specialIn K (.builtin "object.__class__") "__get__" = some (some (.builtin "getset_descriptor.__get__")))
    (w2 : PySem.W.takesIn K (.builtin "object.__class__") = some true)
    (w3 : PySem.W.findCls K (.type "ValueError") (.type "type") "__init__" = some (.val (.builtin "ValueError.__init__")))
    (w4 : PySem.W.subIn K (.type "ValueError") (.type "BaseException") = some true)
    (g_TableError : PySem.W.nsIn K mainGlobals "TableError" = some (some (.ref C_TableError)))
    (i_TableError : PySem.W.isClsIn K C_TableError = true)
    (t_TableError : PySem.W.typeIn K (.ref C_TableError) = some (.type "type"))
    (s_TableError : PySem.W.subIn K (.ref C_TableError) (.type "BaseException") = some true)
    (ga_TableError : PySem.W.findIn K (.ref C_TableError) "__getattribute__" = some (some (.builtin "BaseException.__getattribute__")))
    (gt_TableError : PySem.W.findIn K (.ref C_TableError) "__getattr__" = some none)
    (cl_TableError : PySem.W.findIn K (.ref C_TableError) "__class__" = some (some (.builtin "object.__class__")))
    (mr_TableError : PySem.W.mroIn K C_TableError (.type "object") = some true)
    (hd_TableError : PySem.W.hasDictIn K C_TableError = true)
    (bs_TableError : PySem.W.specialIn K (.ref C_TableError) "__getattribute__" = some (some (.builtin "type.__getattribute__")))
    (br_TableError : PySem.W.readsIn K C_TableError (.type "type") = true)
    (bf_TableError : PySem.W.findCls K (.ref C_TableError) (.type "type") "__init__" = some (.val (.ref fI_TableError)))
    (bk_TableError : PySem.W.keepIn K (.ref fI_TableError) = true)
    (l_TableError : K.lookup fI_TableError = some ⟨o_TableError, od_TableError, .func (PySem.W.fnOf "__init__" "TableError.__init__" (defArgs (initOf (stn 1))) (defBody (initOf (stn 1))) (defScope (initOf (stn 1))) .none k_TableError d_TableError p_TableError an_TableError cd_TableError ct_TableError), sl_TableError⟩)
    (c_TableError : PySem.W.codeIn K cd_TableError "TableError.__init__" = true)
    (g_BadPlace : PySem.W.nsIn K mainGlobals "BadPlace" = some (some (.ref C_BadPlace)))
    (i_BadPlace : PySem.W.isClsIn K C_BadPlace = true)
    (t_BadPlace : PySem.W.typeIn K (.ref C_BadPlace) = some (.type "type"))
    (s_BadPlace : PySem.W.subIn K (.ref C_BadPlace) (.type "BaseException") = some true)
    (g_BadText : PySem.W.nsIn K mainGlobals "BadText" = some (some (.ref C_BadText)))
    (i_BadText : PySem.W.isClsIn K C_BadText = true)
    (t_BadText : PySem.W.typeIn K (.ref C_BadText) = some (.type "type"))
    (s_BadText : PySem.W.subIn K (.ref C_BadText) (.type "BaseException") = some true)
    (ga_BadText : PySem.W.findIn K (.ref C_BadText) "__getattribute__" = some (some (.builtin "BaseException.__getattribute__")))
    (gt_BadText : PySem.W.findIn K (.ref C_BadText) "__getattr__" = some none)
    (cl_BadText : PySem.W.findIn K (.ref C_BadText) "__class__" = some (some (.builtin "object.__class__")))
    (mr_BadText : PySem.W.mroIn K C_BadText (.type "object") = some true)
    (hd_BadText : PySem.W.hasDictIn K C_BadText = true)
    (fi_BadText : PySem.W.findIn K (.ref C_BadText) "__init__" = some (some (.ref fI_BadText)))
    (l_BadText : K.lookup fI_BadText = some ⟨o_BadText, od_BadText, .func (PySem.W.fnOf "__init__" "BadText.__init__" (defArgs (initOf (stn 3))) (defBody (initOf (stn 3))) (defScope (initOf (stn 3))) .none k_BadText d_BadText p_BadText an_BadText cd_BadText ct_BadText), sl_BadText⟩)
    (c_BadText : PySem.W.codeIn K cd_BadText "BadText.__init__" = true)
    (xL_BadText : K.lookup C_BadText = some (excClassObj nm_BadText q_BadText C_BadText N_BadText bs_BadTextL bm_BadText true sn_BadText su_BadText ab_BadText co_BadText dd_BadText m0_BadText m1_BadText m2_BadText m3_BadText m5_BadText "ValueError.__new__"))
    (rv_BadText : PySem.HandSPX.refsVE bm_BadText = true)
    (sa_BadText : PySem.W.findIn K (.ref C_BadText) "__setattr__" = some (some (.builtin "object.__setattr__")))
    (kC_BadText : PySem.W.keepIn K (.ref C_BadText) = true)
    (ti_BadText : PySem.W.typeIn K (.ref fI_BadText) = some (.type "function"))
    (f_BadText_word : PySem.W.findIn K (.ref C_BadText) "word" = some none)
    (f_BadText_index : PySem.W.findIn K (.ref C_BadText) "index" = some none)
    (g_BadLine : PySem.W.nsIn K mainGlobals "BadLine" = some (some (.ref C_BadLine)))
    (i_BadLine : PySem.W.isClsIn K C_BadLine = true)
    (t_BadLine : PySem.W.typeIn K (.ref C_BadLine) = some (.type "type"))
    (s_BadLine : PySem.W.subIn K (.ref C_BadLine) (.type "BaseException") = some true)
    (u_BadText_TableError : PySem.W.subIn K (.ref C_BadText) (.ref C_TableError) = some true)
    (n_BadText_TableError : C_BadText = C_TableError → true = true)
    (u_BadText_ValueError : PySem.W.subIn K (.ref C_BadText) (.type "ValueError") = some true)
    (u_BadText_BadPlace : PySem.W.subIn K (.ref C_BadText) (.ref C_BadPlace) = some false)
    (n_BadText_BadPlace : C_BadText = C_BadPlace → false = true)
    (u_BadText_BadLine : PySem.W.subIn K (.ref C_BadText) (.ref C_BadLine) = some false)
    (n_BadText_BadLine : C_BadText = C_BadLine → false = true)
    (u_BadText_BadText : PySem.W.subIn K (.ref C_BadText) (.ref C_BadText) = some true)
    (u_TableError_TableError : PySem.W.subIn K (.ref C_TableError) (.ref C_TableError) = some true)
    (u_TableError_ValueError : PySem.W.subIn K (.ref C_TableError) (.type "ValueError") = some true)
    (u_TableError_BadPlace : PySem.W.subIn K (.ref C_TableError) (.ref C_BadPlace) = some false)
    (n_TableError_BadPlace : C_TableError = C_BadPlace → false = true)
    (u_TableError_BadLine : PySem.W.subIn K (.ref C_TableError) (.ref C_BadLine) = some false)
    (n_TableError_BadLine : C_TableError = C_BadLine → false = true)
    (u_TableError_BadText : PySem.W.subIn K (.ref C_TableError) (.ref C_BadText) = some false)
    (n_TableError_BadText : C_TableError = C_BadText → false = true)
    (a_is_decimal : PySem.W.nsIn K mainGlobals "is_decimal" = some (some (.ref A_is_decimal)))
    (l_is_decimal : K.lookup A_is_decimal = some ⟨o_is_decimal, od_is_decimal, .func (PySem.W.fnOf "is_decimal" "is_decimal" (defArgs (stn 6)) (defBody (stn 6)) (defScope (stn 6)) .none k_is_decimalV d_is_decimal p_is_decimal an_is_decimal cd_is_decimal ct_is_decimal), sl_is_decimal⟩)
    (e_is_decimal : PySem.W.codeIn K cd_is_decimal "is_decimal" = true)
    (q_is_decimal : PySem.W.keepIn K (.ref A_is_decimal) = true)
    (a_write_place : PySem.W.nsIn K mainGlobals "write_place" = some (some (.ref A_write_place)))
    (l_write_place : K.lookup A_write_place = some ⟨o_write_place, od_write_place, .func (PySem.W.fnOf "write_place" "write_place" (defArgs (stn 7)) (defBody (stn 7)) (defScope (stn 7)) .none k_write_placeV d_write_place p_write_place an_write_place cd_write_place ct_write_place), sl_write_place⟩)
    (e_write_place : PySem.W.codeIn K cd_write_place "write_place" = true)
    (q_write_place : PySem.W.keepIn K (.ref A_write_place) = true)
    (a_place_of_text : PySem.W.nsIn K mainGlobals "place_of_text" = some (some (.ref A_place_of_text)))
    (l_place_of_text : K.lookup A_place_of_text = some ⟨o_place_of_text, od_place_of_text, .func (PySem.W.fnOf "place_of_text" "place_of_text" (defArgs (stn 9)) (defBody (stn 9)) (defScope (stn 9)) .none k_place_of_textV d_place_of_text p_place_of_text an_place_of_text cd_place_of_text ct_place_of_text), sl_place_of_text⟩)
    (e_place_of_text : PySem.W.codeIn K cd_place_of_text "place_of_text" = true)
    (q_place_of_text : PySem.W.keepIn K (.ref A_place_of_text) = true)
    (a_l_cell : PySem.W.nsIn K mainGlobals "_law_cell" = some (some (.ref A_l_cell)))
    (l_l_cell : K.lookup A_l_cell = some ⟨o_l_cell, od_l_cell, .func (PySem.W.fnOf "_law_cell" "_law_cell" (defArgs (stn 12)) (defBody (stn 12)) (defScope (stn 12)) .none k_l_cellV d_l_cell p_l_cell an_l_cell cd_l_cell ct_l_cell), sl_l_cell⟩)
    (e_l_cell : PySem.W.codeIn K cd_l_cell "_law_cell" = true)
    (q_l_cell : PySem.W.keepIn K (.ref A_l_cell) = true)
    (a_l_draws : PySem.W.nsIn K mainGlobals "_law_draws" = some (some (.ref A_l_draws)))
    (l_l_draws : K.lookup A_l_draws = some ⟨o_l_draws, od_l_draws, .func (PySem.W.fnOf "_law_draws" "_law_draws" (defArgs (stn 13)) (defBody (stn 13)) (defScope (stn 13)) .none k_l_drawsV d_l_draws p_l_draws an_l_draws cd_l_draws ct_l_draws), sl_l_draws⟩)
    (e_l_draws : PySem.W.codeIn K cd_l_draws "_law_draws" = true)
    (q_l_draws : PySem.W.keepIn K (.ref A_l_draws) = true)
    (a_l_is_integer : PySem.W.nsIn K mainGlobals "_law_is_integer" = some (some (.ref A_l_is_integer)))
    (l_l_is_integer : K.lookup A_l_is_integer = some ⟨o_l_is_integer, od_l_is_integer, .func (PySem.W.fnOf "_law_is_integer" "_law_is_integer" (defArgs (stn 14)) (defBody (stn 14)) (defScope (stn 14)) .none k_l_is_integerV d_l_is_integer p_l_is_integer an_l_is_integer cd_l_is_integer ct_l_is_integer), sl_l_is_integer⟩)
    (e_l_is_integer : PySem.W.codeIn K cd_l_is_integer "_law_is_integer" = true)
    (q_l_is_integer : PySem.W.keepIn K (.ref A_l_is_integer) = true)
    (a_l_is_error : PySem.W.nsIn K mainGlobals "_law_is_error" = some (some (.ref A_l_is_error)))
    (l_l_is_error : K.lookup A_l_is_error = some ⟨o_l_is_error, od_l_is_error, .func (PySem.W.fnOf "_law_is_error" "_law_is_error" (defArgs (stn 16)) (defBody (stn 16)) (defScope (stn 16)) .none k_l_is_errorV d_l_is_error p_l_is_error an_l_is_error cd_l_is_error ct_l_is_error), sl_l_is_error⟩)
    (e_l_is_error : PySem.W.codeIn K cd_l_is_error "_law_is_error" = true)
    (q_l_is_error : PySem.W.keepIn K (.ref A_l_is_error) = true)
    (a_l_odd_piece : PySem.W.nsIn K mainGlobals "_law_odd_piece" = some (some (.ref A_l_odd_piece)))
    (l_l_odd_piece : K.lookup A_l_odd_piece = some ⟨o_l_odd_piece, od_l_odd_piece, .func (PySem.W.fnOf "_law_odd_piece" "_law_odd_piece" (defArgs (stn 17)) (defBody (stn 17)) (defScope (stn 17)) .none k_l_odd_pieceV d_l_odd_piece p_l_odd_piece an_l_odd_piece cd_l_odd_piece ct_l_odd_piece), sl_l_odd_piece⟩)
    (e_l_odd_piece : PySem.W.codeIn K cd_l_odd_piece "_law_odd_piece" = true)
    (q_l_odd_piece : PySem.W.keepIn K (.ref A_l_odd_piece) = true)
    (a_l_decimal : PySem.W.nsIn K mainGlobals "_law_decimal" = some (some (.ref A_l_decimal)))
    (l_l_decimal : K.lookup A_l_decimal = some ⟨o_l_decimal, od_l_decimal, .func (PySem.W.fnOf "_law_decimal" "_law_decimal" (defArgs (stn 20)) (defBody (stn 20)) (defScope (stn 20)) .none k_l_decimalV d_l_decimal p_l_decimal an_l_decimal cd_l_decimal ct_l_decimal), sl_l_decimal⟩)
    (e_l_decimal : PySem.W.codeIn K cd_l_decimal "_law_decimal" = true)
    (q_l_decimal : PySem.W.keepIn K (.ref A_l_decimal) = true)
    (a_first_bad_piece : PySem.W.nsIn K mainGlobals "first_bad_piece" = some (some (.ref A_first_bad_piece)))
    (l_first_bad_piece : K.lookup A_first_bad_piece = some ⟨o_first_bad_piece, od_first_bad_piece, .func (PySem.W.fnOf "first_bad_piece" "first_bad_piece" (defArgs (stn 8)) (defBody (stn 8)) (defScope (stn 8)) .none k_first_bad_pieceV d_first_bad_piece p_first_bad_piece an_first_bad_piece cd_first_bad_piece ct_first_bad_piece), sl_first_bad_piece⟩)
    (e_first_bad_piece : PySem.W.codeIn K cd_first_bad_piece "first_bad_piece" = true)
    (q_first_bad_piece : PySem.W.keepIn K (.ref A_first_bad_piece) = true)
    (a_l_is_place : PySem.W.nsIn K mainGlobals "_law_is_place" = some (some (.ref A_l_is_place)))
    (l_l_is_place : K.lookup A_l_is_place = some ⟨o_l_is_place, od_l_is_place, .func (PySem.W.fnOf "_law_is_place" "_law_is_place" (defArgs (stn 15)) (defBody (stn 15)) (defScope (stn 15)) .none k_l_is_placeV d_l_is_place p_l_is_place an_l_is_place cd_l_is_place ct_l_is_place), sl_l_is_place⟩)
    (e_l_is_place : PySem.W.codeIn K cd_l_is_place "_law_is_place" = true)
    (q_l_is_place : PySem.W.keepIn K (.ref A_l_is_place) = true)
    (a_l_piece : PySem.W.nsIn K mainGlobals "_law_piece" = some (some (.ref A_l_piece)))
    (l_l_piece : K.lookup A_l_piece = some ⟨o_l_piece, od_l_piece, .func (PySem.W.fnOf "_law_piece" "_law_piece" (defArgs (stn 18)) (defBody (stn 18)) (defScope (stn 18)) .none k_l_pieceV d_l_piece p_l_piece an_l_piece cd_l_piece ct_l_piece), sl_l_piece⟩)
    (e_l_piece : PySem.W.codeIn K cd_l_piece "_law_piece" = true)
    (q_l_piece : PySem.W.keepIn K (.ref A_l_piece) = true)
    (a_l_place : PySem.W.nsIn K mainGlobals "_law_place" = some (some (.ref A_l_place)))
    (l_l_place : K.lookup A_l_place = some ⟨o_l_place, od_l_place, .func (PySem.W.fnOf "_law_place" "_law_place" (defArgs (stn 19)) (defBody (stn 19)) (defScope (stn 19)) .none k_l_placeV d_l_place p_l_place an_l_place cd_l_place ct_l_place), sl_l_place⟩)
    (e_l_place : PySem.W.codeIn K cd_l_place "_law_place" = true)
    (q_l_place : PySem.W.keepIn K (.ref A_l_place) = true)
    (a_l_first_bad : PySem.W.nsIn K mainGlobals "_law_first_bad" = some (some (.ref A_l_first_bad)))
    (l_l_first_bad : K.lookup A_l_first_bad = some ⟨o_l_first_bad, od_l_first_bad, .func (PySem.W.fnOf "_law_first_bad" "_law_first_bad" (defArgs (stn 21)) (defBody (stn 21)) (defScope (stn 21)) .none k_l_first_badV d_l_first_bad p_l_first_bad an_l_first_bad cd_l_first_bad ct_l_first_bad), sl_l_first_bad⟩)
    (e_l_first_bad : PySem.W.codeIn K cd_l_first_bad "_law_first_bad" = true)
    (q_l_first_bad : PySem.W.keepIn K (.ref A_l_first_bad) = true)
    (a_l_refused : PySem.W.nsIn K mainGlobals "_law_refused" = some (some (.ref A_l_refused)))
    (l_l_refused : K.lookup A_l_refused = some ⟨o_l_refused, od_l_refused, .func (PySem.W.fnOf "_law_refused" "_law_refused" (defArgs (stn 22)) (defBody (stn 22)) (defScope (stn 22)) .none k_l_refusedV d_l_refused p_l_refused an_l_refused cd_l_refused ct_l_refused), sl_l_refused⟩)
    (e_l_refused : PySem.W.codeIn K cd_l_refused "_law_refused" = true)
    (q_l_refused : PySem.W.keepIn K (.ref A_l_refused) = true)
    (a_read_place : PySem.W.nsIn K mainGlobals "read_place" = some (some (.ref A_read_place)))
    (l_read_place : K.lookup A_read_place = some ⟨o_read_place, od_read_place, .func (PySem.W.fnOf "read_place" "read_place" (defArgs (stn 10)) (defBody (stn 10)) (defScope (stn 10)) .none k_read_placeV d_read_place p_read_place an_read_place cd_read_place ct_read_place), sl_read_place⟩)
    (e_read_place : PySem.W.codeIn K cd_read_place "read_place" = true)
    (q_read_place : PySem.W.keepIn K (.ref A_read_place) = true)
    (a_l_asked : PySem.W.nsIn K mainGlobals "_law_asked" = some (some (.ref A_l_asked)))
    (l_l_asked : K.lookup A_l_asked = some ⟨o_l_asked, od_l_asked, .func (PySem.W.fnOf "_law_asked" "_law_asked" (defArgs (stn 23)) (defBody (stn 23)) (defScope (stn 23)) .none k_l_askedV d_l_asked p_l_asked an_l_asked cd_l_asked ct_l_asked), sl_l_asked⟩)
    (e_l_asked : PySem.W.codeIn K cd_l_asked "_law_asked" = true)
    (q_l_asked : PySem.W.keepIn K (.ref A_l_asked) = true)
    (a_law : PySem.W.nsIn K mainGlobals "law" = some (some (.ref A_law)))
    (l_law : K.lookup A_law = some ⟨o_law, od_law, .func (PySem.W.fnOf "law" "law" (defArgs (stn 24)) (defBody (stn 24)) (defScope (stn 24)) .none k_lawV d_law p_law an_law cd_law ct_law), sl_law⟩)
    (e_law : PySem.W.codeIn K cd_law "law" = true)
    (q_law : PySem.W.keepIn K (.ref A_law) = true)
    (plain : ∀ ns : List Int, ns.length ≤ 63 → f_law.m [.lst (ns.map D.int)] = some (.ok (.dat (.bl true)))) :
    ∃ fd : FuncData, (∀ (s : Shared) (v : Value), BindsTo s fd ⟨[v], []⟩ [("_law_script", v)]) ∧ ∀ base : Heap, K.In base → base.Ns mainGlobals mg → FnOk P w K mg base (L2N.CX P w) 8 fa fd ["_law_script"] (DE.spLaw K) := by
  have e := hfa.symm.trans (PySem.W.mg_of X G a_law)
  cases e
  refine ⟨PySem.W.fnOf "law" "law" (defArgs (stn 24)) (defBody (stn 24)) (defScope (stn 24)) .none k_lawV d_law p_law an_law cd_law ct_law, fun s v => .of_eq rfl, fun base _ _ => ?_⟩
  have bn : ∀ x ∈ bNames, mg x = none := all_cons (PySem.W.mg_none_of X G z_len) (all_cons (PySem.W.mg_none_of X G z_abs) (all_cons (PySem.W.mg_none_of X G z_int) (all_cons (PySem.W.mg_none_of X G z_tuple) (all_cons (PySem.W.mg_none_of X G z_list) (all_cons (PySem.W.mg_none_of X G z_sorted) (all_cons (PySem.W.mg_none_of X G z_min) (all_cons (PySem.W.mg_none_of X G z_max) (all_cons (PySem.W.mg_none_of X G z_sum) (all_cons (PySem.W.mg_none_of X G z_all) (all_cons (PySem.W.mg_none_of X G z_any) (all_cons (PySem.W.mg_none_of X G z_isinstance) (all_cons (PySem.W.mg_none_of X G z_range) (all_cons (PySem.W.mg_none_of X G z_bool) (all_cons (PySem.W.mg_none_of X G z_str) (all_cons (PySem.W.mg_none_of X G z_dict) (all_cons (PySem.W.mg_none_of X G z_reversed) (all_cons (PySem.W.mg_none_of X G z_ValueError) (all_nil))))))))))))))))))
  have G_TableError := PySem.W.mg_of X G g_TableError
  have E_TableError : EcC K C_TableError := ⟨i_TableError, ga_TableError, gt_TableError, s_TableError, cl_TableError, w1, w2, mr_TableError, hd_TableError⟩
  have G_BadPlace := PySem.W.mg_of X G g_BadPlace
  have G_BadText := PySem.W.mg_of X G g_BadText
  have E_BadText : EcC K C_BadText := ⟨i_BadText, ga_BadText, gt_BadText, s_BadText, cl_BadText, w1, w2, mr_BadText, hd_BadText⟩
  have O_BadText : OexC K C_BadText := ⟨⟨_, _, _, _, _, _, _, _, _, _, _, _, _, _, _, xL_BadText, rv_BadText⟩, sa_BadText, s_BadText, t_BadText, kC_BadText⟩
  have G_BadLine := PySem.W.mg_of X G g_BadLine
  have h1 : ∀ p ∈ isaT, IsaOk K mg p := all_cons (isa_own G_BadText E_BadText G_TableError i_TableError t_TableError u_BadText_TableError s_TableError n_BadText_TableError) (all_cons (isa_ve (T := "ValueError") G_BadText E_BadText (PySem.W.mg_none_of X G z_ValueError) (by decide +kernel) (by decide +kernel) u_BadText_ValueError w4 (by decide +kernel)) (all_cons (isa_own G_BadText E_BadText G_BadPlace i_BadPlace t_BadPlace u_BadText_BadPlace s_BadPlace n_BadText_BadPlace) (all_cons (isa_own G_BadText E_BadText G_BadLine i_BadLine t_BadLine u_BadText_BadLine s_BadLine n_BadText_BadLine) (all_cons (isa_own G_BadText E_BadText G_BadText i_BadText t_BadText u_BadText_BadText s_BadText (fun _ => rfl)) (all_cons (isa_own G_TableError E_TableError G_TableError i_TableError t_TableError u_TableError_TableError s_TableError (fun _ => rfl)) (all_cons (isa_ve (T := "ValueError") G_TableError E_TableError (PySem.W.mg_none_of X G z_ValueError) (by decide +kernel) (by decide +kernel) u_TableError_ValueError w4 (by decide +kernel)) (all_cons (isa_own G_TableError E_TableError G_BadPlace i_BadPlace t_BadPlace u_TableError_BadPlace s_BadPlace n_TableError_BadPlace) (all_cons (isa_own G_TableError E_TableError G_BadLine i_BadLine t_BadLine u_TableError_BadLine s_BadLine n_TableError_BadLine) (all_cons (isa_own G_TableError E_TableError G_BadText i_BadText t_BadText u_TableError_BadText s_BadText n_TableError_BadText) (all_nil))))))))))
  have h2 : ∀ p ∈ mkT, MkOk P w K mg base p := all_cons (err_ok (base := base) G_TableError (by decide +kernel) ⟨bs_TableError, br_TableError, bf_TableError, bk_TableError⟩ l_TableError c_TableError SI_TableError II_TableError (PySem.W.mg_none_of X G z_ValueError) w3 BI_TableError G_BadText O_BadText fi_BadText ti_BadText l_BadText c_BadText SI_BadText II_BadText rfl (by decide) f_BadText_word (all_cons f_BadText_index (all_nil)) BI_BadText) (all_nil)
  have h3 : ∀ p ∈ fldT, FldOk K mg p := all_cons ⟨_, G_BadText, E_BadText, f_BadText_word⟩ (all_cons ⟨_, G_BadText, E_BadText, f_BadText_index⟩ (all_nil))
  have U_is_decimal := fun_mk (x := "is_decimal") (qual := "is_decimal") (st := stn 6) l_is_decimal e_is_decimal q_is_decimal
  have M_is_decimal := PySem.W.mg_of X G a_is_decimal
  have T_is_decimal : Txt P w K mg base c_is_decimal 3 := txt_of h1 h2 h3 bn (by decide) (all_nil) (all_nil)
  have F_is_decimal : FnFact P w K mg base f_is_decimal 4 := fn_okD U_is_decimal M_is_decimal S_is_decimal rfl B_is_decimal ck_is_decimal T_is_decimal
  have U_write_place := fun_mk (x := "write_place") (qual := "write_place") (st := stn 7) l_write_place e_write_place q_write_place
  have M_write_place := PySem.W.mg_of X G a_write_place
  have T_write_place : Txt P w K mg base c_write_place 3 := txt_of h1 h2 h3 bn (by decide) (all_nil) (all_nil)
  have F_write_place : FnFact P w K mg base f_write_place 4 := fn_okD U_write_place M_write_place S_write_place rfl B_write_place ck_write_place T_write_place
  have U_place_of_text := fun_mk (x := "place_of_text") (qual := "place_of_text") (st := stn 9) l_place_of_text e_place_of_text q_place_of_text
  have M_place_of_text := PySem.W.mg_of X G a_place_of_text
  have T_place_of_text : Txt P w K mg base c_place_of_text 3 := txt_of h1 h2 h3 bn (by decide) (all_nil) (all_nil)
  have F_place_of_text : FnFact P w K mg base f_place_of_text 4 := fn_okD U_place_of_text M_place_of_text S_place_of_text rfl B_place_of_text ck_place_of_text T_place_of_text
  have U_l_cell := fun_mk (x := "_law_cell") (qual := "_law_cell") (st := stn 12) l_l_cell e_l_cell q_l_cell
  have M_l_cell := PySem.W.mg_of X G a_l_cell
  have T_l_cell : Txt P w K mg base c_l_cell 3 := txt_of h1 h2 h3 bn (by decide) (all_nil) (all_nil)
  have F_l_cell : FnFact P w K mg base f_l_cell 4 := fn_okD U_l_cell M_l_cell S_l_cell rfl B_l_cell ck_l_cell T_l_cell
  have U_l_draws := fun_mk (x := "_law_draws") (qual := "_law_draws") (st := stn 13) l_l_draws e_l_draws q_l_draws
  have M_l_draws := PySem.W.mg_of X G a_l_draws
  have T_l_draws : Txt P w K mg base c_l_draws 3 := txt_of h1 h2 h3 bn (by decide) (all_nil) (all_nil)
  have F_l_draws : FnFact P w K mg base f_l_draws 4 := fn_okD U_l_draws M_l_draws S_l_draws rfl B_l_draws ck_l_draws T_l_draws
  have U_l_is_integer := fun_mk (x := "_law_is_integer") (qual := "_law_is_integer") (st := stn 14) l_l_is_integer e_l_is_integer q_l_is_integer
  have M_l_is_integer := PySem.W.mg_of X G a_l_is_integer
  have T_l_is_integer : Txt P w K mg base c_l_is_integer 3 := txt_of h1 h2 h3 bn (by decide) (all_nil) (all_nil)
  have F_l_is_integer : FnFact P w K mg base f_l_is_integer 4 := fn_okD U_l_is_integer M_l_is_integer S_l_is_integer rfl B_l_is_integer ck_l_is_integer T_l_is_integer
  have TH_l_is_integer : Txt P w K mg base k_l_is_integer 3 := txt_of h1 h2 h3 bn (by decide) all_nil (all_nil)
  have K_l_is_integer : FnHFact P w K mg base h_l_is_integer 4 := fnH_okD U_l_is_integer M_l_is_integer S_l_is_integer rfl B_l_is_integer kh_l_is_integer TH_l_is_integer
  have U_l_is_error := fun_mk (x := "_law_is_error") (qual := "_law_is_error") (st := stn 16) l_l_is_error e_l_is_error q_l_is_error
  have M_l_is_error := PySem.W.mg_of X G a_l_is_error
  have T_l_is_error : Txt P w K mg base c_l_is_error 3 := txt_of h1 h2 h3 bn (by decide) (all_nil) (all_nil)
  have F_l_is_error : FnFact P w K mg base f_l_is_error 4 := fn_okD U_l_is_error M_l_is_error S_l_is_error rfl B_l_is_error ck_l_is_error T_l_is_error
  have TH_l_is_error : Txt P w K mg base k_l_is_error 3 := txt_of h1 h2 h3 bn (by decide) all_nil (all_nil)
  have K_l_is_error : FnHFact P w K mg base h_l_is_error 4 := fnH_okD U_l_is_error M_l_is_error S_l_is_error rfl B_l_is_error kh_l_is_error TH_l_is_error
  have U_l_odd_piece := fun_mk (x := "_law_odd_piece") (qual := "_law_odd_piece") (st := stn 17) l_l_odd_piece e_l_odd_piece q_l_odd_piece
  have M_l_odd_piece := PySem.W.mg_of X G a_l_odd_piece
  have T_l_odd_piece : Txt P w K mg base c_l_odd_piece 3 := txt_of h1 h2 h3 bn (by decide) (all_nil) (all_nil)
  have F_l_odd_piece : FnFact P w K mg base f_l_odd_piece 4 := fn_okD U_l_odd_piece M_l_odd_piece S_l_odd_piece rfl B_l_odd_piece ck_l_odd_piece T_l_odd_piece
  have U_l_decimal := fun_mk (x := "_law_decimal") (qual := "_law_decimal") (st := stn 20) l_l_decimal e_l_decimal q_l_decimal
  have M_l_decimal := PySem.W.mg_of X G a_l_decimal
  have T_l_decimal : Txt P w K mg base c_l_decimal 3 := txt_of h1 h2 h3 bn (by decide) (all_nil) (all_nil)
  have F_l_decimal : FnFact P w K mg base f_l_decimal 4 := fn_okD U_l_decimal M_l_decimal S_l_decimal rfl B_l_decimal ck_l_decimal T_l_decimal
  have U_first_bad_piece := fun_mk (x := "first_bad_piece") (qual := "first_bad_piece") (st := stn 8) l_first_bad_piece e_first_bad_piece q_first_bad_piece
  have M_first_bad_piece := PySem.W.mg_of X G a_first_bad_piece
  have T_first_bad_piece : Txt P w K mg base c_first_bad_piece 4 := txt_of h1 h2 h3 bn (by decide) (all_cons (F_is_decimal.mono (by decide)) (all_nil)) (all_nil)
  have F_first_bad_piece : FnFact P w K mg base f_first_bad_piece 5 := fn_okD U_first_bad_piece M_first_bad_piece S_first_bad_piece rfl B_first_bad_piece ck_first_bad_piece T_first_bad_piece
  have U_l_is_place := fun_mk (x := "_law_is_place") (qual := "_law_is_place") (st := stn 15) l_l_is_place e_l_is_place q_l_is_place
  have M_l_is_place := PySem.W.mg_of X G a_l_is_place
  have T_l_is_place : Txt P w K mg base c_l_is_place 4 := txt_of h1 h2 h3 bn (by decide) (all_cons (F_l_is_integer.mono (by decide)) (all_nil)) (all_nil)
  have F_l_is_place : FnFact P w K mg base f_l_is_place 5 := fn_okD U_l_is_place M_l_is_place S_l_is_place rfl B_l_is_place ck_l_is_place T_l_is_place
  have U_l_piece := fun_mk (x := "_law_piece") (qual := "_law_piece") (st := stn 18) l_l_piece e_l_piece q_l_piece
  have M_l_piece := PySem.W.mg_of X G a_l_piece
  have T_l_piece : Txt P w K mg base c_l_piece 4 := txt_of h1 h2 h3 bn (by decide) (all_cons (F_l_draws.mono (by decide)) (all_cons (F_l_odd_piece.mono (by decide)) (all_nil))) (all_nil)
  have F_l_piece : FnFact P w K mg base f_l_piece 5 := fn_okD U_l_piece M_l_piece S_l_piece rfl B_l_piece ck_l_piece T_l_piece
  have U_l_place := fun_mk (x := "_law_place") (qual := "_law_place") (st := stn 19) l_l_place e_l_place q_l_place
  have M_l_place := PySem.W.mg_of X G a_l_place
  have T_l_place : Txt P w K mg base c_l_place 4 := txt_of h1 h2 h3 bn (by decide) (all_cons (F_l_draws.mono (by decide)) (all_nil)) (all_nil)
  have F_l_place : FnFact P w K mg base f_l_place 5 := fn_okD U_l_place M_l_place S_l_place rfl B_l_place ck_l_place T_l_place
  have U_l_first_bad := fun_mk (x := "_law_first_bad") (qual := "_law_first_bad") (st := stn 21) l_l_first_bad e_l_first_bad q_l_first_bad
  have M_l_first_bad := PySem.W.mg_of X G a_l_first_bad
  have T_l_first_bad : Txt P w K mg base c_l_first_bad 4 := txt_of h1 h2 h3 bn (by decide) (all_cons (F_l_decimal.mono (by decide)) (all_nil)) (all_nil)
  have F_l_first_bad : FnFact P w K mg base f_l_first_bad 5 := fn_okD U_l_first_bad M_l_first_bad S_l_first_bad rfl B_l_first_bad ck_l_first_bad T_l_first_bad
  have U_l_refused := fun_mk (x := "_law_refused") (qual := "_law_refused") (st := stn 22) l_l_refused e_l_refused q_l_refused
  have M_l_refused := PySem.W.mg_of X G a_l_refused
  have T_l_refused : Txt P w K mg base c_l_refused 4 := txt_of h1 h2 h3 bn (by decide) (all_cons (F_l_is_error.mono (by decide)) (all_cons (F_l_is_integer.mono (by decide)) (all_nil))) (all_nil)
  have F_l_refused : FnFact P w K mg base f_l_refused 5 := fn_okD U_l_refused M_l_refused S_l_refused rfl B_l_refused ck_l_refused T_l_refused
  have TH_l_refused : Txt P w K mg base k_l_refused 4 := txt_of h1 h2 h3 bn (by decide) all_nil (all_cons (K_l_is_error.mono (by decide)) (all_cons (K_l_is_integer.mono (by decide)) (all_nil)))
  have K_l_refused : FnHFact P w K mg base h_l_refused 5 := fnH_okD U_l_refused M_l_refused S_l_refused rfl B_l_refused kh_l_refused TH_l_refused
  have U_read_place := fun_mk (x := "read_place") (qual := "read_place") (st := stn 10) l_read_place e_read_place q_read_place
  have M_read_place := PySem.W.mg_of X G a_read_place
  have T_read_place : Txt P w K mg base c_read_place 5 := txt_of h1 h2 h3 bn (by decide) (all_cons (F_first_bad_piece.mono (by decide)) (all_cons (F_place_of_text.mono (by decide)) (all_nil))) (all_nil)
  have F_read_place : FnFact P w K mg base f_read_place 6 := fn_okD U_read_place M_read_place S_read_place rfl B_read_place ck_read_place T_read_place
  have U_l_asked := fun_mk (x := "_law_asked") (qual := "_law_asked") (st := stn 23) l_l_asked e_l_asked q_l_asked
  have M_l_asked := PySem.W.mg_of X G a_l_asked
  have T_l_asked : Txt P w K mg base c_l_asked 6 := txt_of h1 h2 h3 bn (by decide) (all_cons (F_l_first_bad.mono (by decide)) (all_cons (F_read_place.mono (by decide)) (all_cons (F_l_is_place.mono (by decide)) (all_nil)))) (all_cons (K_l_refused.mono (by decide)) (all_nil))
  have F_l_asked : FnFact P w K mg base f_l_asked 7 := fn_okD U_l_asked M_l_asked S_l_asked rfl B_l_asked ck_l_asked T_l_asked
  have U_law := fun_mk (x := "law") (qual := "law") (st := stn 24) l_law e_law q_law
  have M_law := PySem.W.mg_of X G a_law
  have T_law : Txt P w K mg base c_law 7 := txt_of h1 h2 h3 bn (by decide) (all_cons (F_l_draws.mono (by decide)) (all_cons (F_l_cell.mono (by decide)) (all_cons (F_l_piece.mono (by decide)) (all_cons (F_l_odd_piece.mono (by decide)) (all_cons (F_l_place.mono (by decide)) (all_cons (F_write_place.mono (by decide)) (all_cons (F_l_asked.mono (by decide)) (all_nil)))))))) (all_nil)
  exact law_ok U_law M_law S_law rfl B_law ck_law T_law plain
end LW

set_option Elab.async false
set_option linter.all false
set_option maxRecDepth 100000
set_option maxHeartbeats 4000000
namespace LW
open PySem L2 DE
theorem is_integer_spec (i : Int) : f_l_is_integer.m [.int i] = some (.ok (.dat (.bl true))) := by
  simp only [b_l_is_integer, f_l_is_integer, is_l_is_integer, fd_l_is_integer, I_BadText_TableError, I_BadText_ValueError, I_BadText_BadPlace, I_BadText_BadLine, I_BadText_BadText, I_TableError_TableError, I_TableError_ValueError, I_TableError_BadPlace, I_TableError_BadLine, I_TableError_BadText, FL_BadText_word, FL_BadText_index, EV0, EV1, EV2, EV3, EV4, EV5, EV6, EV7, EV8, kilR, Option.map_some, List.getElem?_cons_zero, List.getElem?_cons_succ, List.set_cons_zero, List.set_cons_succ, List.replicate, Nat.reduceSub, Nat.sub_self, Bool.not_true, Bool.not_false, Bool.true_and, Bool.and_true, Bool.false_and, Bool.and_false, Bool.or_false, Bool.false_or, Bool.true_or, Bool.or_true, decide_true, decide_false, if_true, if_false, Bool.false_eq_true, eq_self, Int.natCast_zero, Int.cast_ofNat_Int, not_true, not_false_eq_true, List.length_nil]
theorem small_of {i : Int} (h1 : -1000000000000000 < i) (h2 : i < 1000000000000000) : small i = true := by
  unfold small
  simp
  omega
theorem small_fm {a b : Int} (h : 0 < b) (h2 : b < 100000000000) : small (a.fmod b) = true := by
  obtain ⟨h3, h4⟩ := fmod_bd (a := a) h
  exact small_of (by omega) (by omega)
theorem p18 : binV .pow (.dat (.int 10)) (.dat (.int 18)) = some (.dat (.int 1000000000000000000)) := bin_pow (by decide)
theorem cell_spec (ns : List Int) (k : Nat) : ∃ c : Int, f_l_cell.m [lD D.int ns, .int (k : Nat)] = some (.ok (.dat (.int c))) := by
  have s1 : small 101 = true := by decide
  have s2 : small 48271 = true := by decide
  have s3 : small 69621 = true := by decide
  by_cases h1 : (k : Int) < ns.length
  · have hk : k < ns.length := by omega
    have e : ns[k]? = some ns[k] := List.getElem?_eq_getElem hk
    refine ⟨ns[k], ?_⟩
    simp only [bt_l_cell_2, bt_l_cell_1, b_l_cell, f_l_cell, is_l_cell, fd_l_cell, I_BadText_TableError, I_BadText_ValueError, I_BadText_BadPlace, I_BadText_BadLine, I_BadText_BadText, I_TableError_TableError, I_TableError_ValueError, I_TableError_BadPlace, I_TableError_BadLine, I_TableError_BadText, FL_BadText_word, FL_BadText_index, EV0, EV1, EV2, EV3, EV4, EV5, EV6, EV7, EV8, kilR, Option.map_some, List.getElem?_cons_zero, List.getElem?_cons_succ, List.set_cons_zero, List.set_cons_succ, List.replicate, Nat.reduceSub, Nat.sub_self, Bool.not_true, Bool.not_false, Bool.true_and, Bool.and_true, Bool.false_and, Bool.and_false, Bool.or_false, Bool.false_or, Bool.true_or, Bool.or_true, decide_true, decide_false, if_true, if_false, Bool.false_eq_true, eq_self, Int.natCast_zero, Int.cast_ofNat_Int, not_true, not_false_eq_true, List.length_nil, h1, ix_gn e]
  · by_cases h2 : ns.length = 0
    · refine ⟨101 * k + 7, ?_⟩
      have h3 : ¬ (k : Int) < 0 := by omega
      simp only [bt_l_cell_2, bt_l_cell_1, b_l_cell, f_l_cell, is_l_cell, fd_l_cell, I_BadText_TableError, I_BadText_ValueError, I_BadText_BadPlace, I_BadText_BadLine, I_BadText_BadText, I_TableError_TableError, I_TableError_ValueError, I_TableError_BadPlace, I_TableError_BadLine, I_TableError_BadText, FL_BadText_word, FL_BadText_index, EV0, EV1, EV2, EV3, EV4, EV5, EV6, EV7, EV8, kilR, Option.map_some, List.getElem?_cons_zero, List.getElem?_cons_succ, List.set_cons_zero, List.set_cons_succ, List.replicate, Nat.reduceSub, Nat.sub_self, Bool.not_true, Bool.not_false, Bool.true_and, Bool.and_true, Bool.false_and, Bool.and_false, Bool.or_false, Bool.false_or, Bool.true_or, Bool.or_true, decide_true, decide_false, if_true, if_false, Bool.false_eq_true, eq_self, Int.natCast_zero, Int.cast_ofNat_Int, not_true, not_false_eq_true, List.length_nil, h3, h2, bin_mul (.inl s1), Int.natCast_zero, Int.cast_ofNat_Int]
    · have hp : (0 : Int) < ns.length := by omega
      obtain ⟨b1, b2⟩ := fmod_bd (a := k) hp
      have hb : ((k : Int).fmod ns.length).toNat < ns.length := by omega
      have e : ns[((k : Int).fmod ns.length).toNat]? = some ns[((k : Int).fmod ns.length).toNat] := List.getElem?_eq_getElem hb
      have h3 : ¬ (ns.length : Int) = 0 := by omega
      exact ⟨_, by simp only [bt_l_cell_2, bt_l_cell_1, b_l_cell, f_l_cell, is_l_cell, fd_l_cell, I_BadText_TableError, I_BadText_ValueError, I_BadText_BadPlace, I_BadText_BadLine, I_BadText_BadText, I_TableError_TableError, I_TableError_ValueError, I_TableError_BadPlace, I_TableError_BadLine, I_TableError_BadText, FL_BadText_word, FL_BadText_index, EV0, EV1, EV2, EV3, EV4, EV5, EV6, EV7, EV8, kilR, Option.map_some, List.getElem?_cons_zero, List.getElem?_cons_succ, List.set_cons_zero, List.set_cons_succ, List.replicate, Nat.reduceSub, Nat.sub_self, Bool.not_true, Bool.not_false, Bool.true_and, Bool.and_true, Bool.false_and, Bool.and_false, Bool.or_false, Bool.false_or, Bool.true_or, Bool.or_true, decide_true, decide_false, if_true, if_false, Bool.false_eq_true, eq_self, Int.natCast_zero, Int.cast_ofNat_Int, not_true, not_false_eq_true, List.length_nil, h1, h3, bin_mod h3, ix_gi b1 e, bin_mul (.inr s2), bin_mul (.inl s3), bin_mod (j := 2147483647) (by decide)]; rfl⟩
theorem draws_spec (c : Int) (ss : List Int) (hs : ∀ s ∈ ss, 0 < s ∧ s < 536870912) (hl : Sm ss.length) : ∃ xs, f_l_draws.m [.int c, lD D.int ss] = some (.ok (.fr (lO D.int xs))) ∧ Drawn xs ss := by
  have s7 : small 7919 = true := by decide
  have s31 : small 31 = true := by decide
  obtain ⟨ρ', e, xs, r, rfl, hd⟩ := for_rel (f := iN) (xs := List.range ss.length) (step := stepL (.n 4) (runB c_l_draws L_l_draws_1)) (ρ := [some (.dat (.int c)), some (.dat (lD D.int ss)), some (.own (lO D.int [])), some (.dat (.int (c - 1000000000000000000))), none, none])
    (fun n ρ => ∃ xs r, ρ = [some (.dat (.int c)), some (.dat (lD D.int ss)), some (.own (lO D.int xs)), some (.dat (.int r)), none, none] ∧ Drawn xs (ss.take n)) ⟨[], _, rfl, trivial⟩ (by
      intro i n ρ hi ⟨xs, r, hρ, hd⟩
      subst hρ
      have hlt : i < ss.length := by have := (List.getElem?_eq_some_iff.mp hi).1; rw [List.length_range] at this; exact this
      rw [List.getElem?_range hlt] at hi
      cases hi
      have hg : ss[i]? = some ss[i] := List.getElem?_eq_getElem hlt
      obtain ⟨p1, p2⟩ := hs ss[i] (List.getElem_mem hlt)
      have t1 : ss.take (i + 1) = ss.take i ++ [ss[i]] := by rw [List.take_succ, hg]; rfl
      have hz : Sm xs.length := by have := drawn_len hd; rw [List.length_take] at this; unfold Sm at *; omega
      have hne : ss[i] ≠ 0 := by omega
      have hfd : ss[i] ≠ 0 ∧ ss[i].natAbs < 1073741824 := ⟨hne, by omega⟩
      have hx : iN i = .int (i : Nat) := rfl
      have one : ∃ m r', stepL (.n 4) (runB c_l_draws L_l_draws_1) (iN i) [some (.dat (.int c)), some (.dat (lD D.int ss)), some (.own (lO D.int xs)), some (.dat (.int r)), none, none] = some (.nx [some (.dat (.int c)), some (.dat (lD D.int ss)), some (.own (lO D.int (xs ++ [Int.fmod m ss[i]]))), some (.dat (.int r')), none, none]) := by
        generalize ss[i] = sn at *
        by_cases hc : (1000000000000000000 : Int) ≤ c
        · exact ⟨r, _, by simp only [L_l_draws_1, EV0, EV1, EV2, EV3, EV4, EV5, EV6, EV7, EV8, kilR, Option.map_some, List.getElem?_cons_zero, List.getElem?_cons_succ, List.set_cons_zero, List.set_cons_succ, List.replicate, Nat.reduceSub, Nat.sub_self, Bool.not_true, Bool.not_false, Bool.true_and, Bool.and_true, Bool.false_and, Bool.and_false, Bool.or_false, Bool.false_or, Bool.true_or, Bool.or_true, decide_true, decide_false, if_true, if_false, Bool.false_eq_true, eq_self, Int.natCast_zero, Int.cast_ofNat_Int, not_true, not_false_eq_true, List.length_nil, hx, p18, hc, ix_gn hg, bin_mod hne, bin_fdiv hfd, hz]; rfl⟩
        · exact ⟨_, _, by simp only [L_l_draws_1, EV0, EV1, EV2, EV3, EV4, EV5, EV6, EV7, EV8, kilR, Option.map_some, List.getElem?_cons_zero, List.getElem?_cons_succ, List.set_cons_zero, List.set_cons_succ, List.replicate, Nat.reduceSub, Nat.sub_self, Bool.not_true, Bool.not_false, Bool.true_and, Bool.and_true, Bool.false_and, Bool.and_false, Bool.or_false, Bool.false_or, Bool.true_or, Bool.or_true, decide_true, decide_false, if_true, if_false, Bool.false_eq_true, eq_self, Int.natCast_zero, Int.cast_ofNat_Int, not_true, not_false_eq_true, List.length_nil, hx, p18, hc, ix_gn hg, bin_mod hne, hz, bin_mul (.inl s7), bin_mul (.inl s31), bin_mod (j := 2147483647) (by decide), bin_mod (j := 2147483629) (by decide), bin_mul (.inl (small_fm (b := 2147483647) (by decide) (by decide))), bin_mul (.inl (small_fm (b := 2147483629) (by decide) (by decide))), bin_fdiv (j := 9) (by decide)]; rfl⟩
      obtain ⟨m, r', h⟩ := one
      exact ⟨_, h, _, r', rfl, by rw [t1]; exact drawn_snoc hd (fmod_bd p1).1 (fmod_bd p1).2⟩)
  rw [List.length_range, List.take_length] at hd
  refine ⟨xs, ?_, hd⟩
  simp only [bt_l_draws_3, bt_l_draws_2, bt_l_draws_1, b_l_draws, f_l_draws, is_l_draws, fd_l_draws, I_BadText_TableError, I_BadText_ValueError, I_BadText_BadPlace, I_BadText_BadLine, I_BadText_BadText, I_TableError_TableError, I_TableError_ValueError, I_TableError_BadPlace, I_TableError_BadLine, I_TableError_BadText, FL_BadText_word, FL_BadText_index, EV0, EV1, EV2, EV3, EV4, EV5, EV6, EV7, EV8, kilR, Option.map_some, List.getElem?_cons_zero, List.getElem?_cons_succ, List.set_cons_zero, List.set_cons_succ, List.replicate, Nat.reduceSub, Nat.sub_self, Bool.not_true, Bool.not_false, Bool.true_and, Bool.and_true, Bool.false_and, Bool.and_false, Bool.or_false, Bool.false_or, Bool.true_or, Bool.or_true, decide_true, decide_false, if_true, if_false, Bool.false_eq_true, eq_self, Int.natCast_zero, Int.cast_ofNat_Int, not_true, not_false_eq_true, List.length_nil, p18, rg_g hl, nil_o D.int, e]
theorem lc_zip {T : D → Ans (Option D)} {p q : Pl} (f : Int → Int → Int) (h : p.length = q.length) (hs : Sm p.length) (ht : ∀ (i : Nat) x y, p[i]? = some x → q[i]? = some y → T (.int (i : Nat)) = some (.ok (some (.int (f x y))))) : lcU (some (.ok (mL iN (List.range p.length)))) T = some (.ok (.fr (lO D.int (List.zipWith f p q)))) := by
  rw [lc_map (f := iN) (g := D.int) (k := fun i => f (p.getD i 0) (q.getD i 0)) (by rw [List.length_range]; exact hs) fun i hi => by
    have hi : i < p.length := List.mem_range.mp hi
    have e1 : p[i]? = some (p.getD i 0) := by rw [List.getD_eq_getElem?_getD, List.getElem?_eq_getElem hi]; rfl
    have e2 : q[i]? = some (q.getD i 0) := by rw [List.getD_eq_getElem?_getD, List.getElem?_eq_getElem (by omega)]; rfl
    exact ht i _ _ e1 e2]
  congr 4
  refine List.ext_getElem? fun i => ?_
  rw [List.getElem?_map, List.getElem?_zipWith]
  by_cases hi : i < p.length
  · rw [List.getElem?_range hi, List.getElem?_eq_getElem hi, List.getElem?_eq_getElem (by omega : i < q.length)]
    show some (f (p.getD i 0) (q.getD i 0)) = some (f p[i] q[i])
    rw [List.getD_eq_getElem?_getD, List.getD_eq_getElem?_getD, List.getElem?_eq_getElem hi, List.getElem?_eq_getElem (by omega : i < q.length)]
    rfl
  · rw [List.getElem?_eq_none (by rw [List.length_range]; omega), List.getElem?_eq_none (by omega : p.length ≤ i)]
    rfl
theorem lc_zipn {T : D → Ans (Option D)} {p q : Pl} (f : Int → Int → Int) {n : Nat} (hn : p.length = n) (h : q.length = n) (hs : Sm n) (ht : ∀ (i : Nat) x y, p[i]? = some x → q[i]? = some y → T (.int (i : Nat)) = some (.ok (some (.int (f x y))))) : lcU (some (.ok (mL iN (List.range n)))) T = some (.ok (.fr (lO D.int (List.zipWith f p q)))) := by
  subst hn
  exact lc_zip f h.symm hs ht
theorem is_place_spec (p : Pl) (h1 : 1 ≤ p.length) (h3 : p.length ≤ 3) : f_l_is_place.m [pD p] = some (.ok (.dat (.bl true))) := by
  have a1 : ¬ (p.length : Int) < 1 := by omega
  have a3 : ¬ (3 : Int) < p.length := by omega
  simp only [bt_l_is_place_2, bt_l_is_place_1, b_l_is_place, f_l_is_place, T_l_is_place_0, is_l_is_place, fd_l_is_place, n_l_is_integer, I_BadText_TableError, I_BadText_ValueError, I_BadText_BadPlace, I_BadText_BadLine, I_BadText_BadText, I_TableError_TableError, I_TableError_ValueError, I_TableError_BadPlace, I_TableError_BadLine, I_TableError_BadText, FL_BadText_word, FL_BadText_index, EV0, EV1, EV2, EV3, EV4, EV5, EV6, EV7, EV8, kilR, Option.map_some, List.getElem?_cons_zero, List.getElem?_cons_succ, List.set_cons_zero, List.set_cons_succ, List.replicate, Nat.reduceSub, Nat.sub_self, Bool.not_true, Bool.not_false, Bool.true_and, Bool.and_true, Bool.false_and, Bool.and_false, Bool.or_false, Bool.false_or, Bool.true_or, Bool.or_true, decide_true, decide_false, if_true, if_false, Bool.false_eq_true, eq_self, Int.natCast_zero, Int.cast_ofNat_Int, not_true, not_false_eq_true, List.length_nil, a1, a3]
  rw [for_look (f := D.int) fun x _ => by simp only [bt_l_is_place_2, bt_l_is_place_1, b_l_is_place, f_l_is_place, T_l_is_place_0, is_l_is_place, fd_l_is_place, n_l_is_integer, I_BadText_TableError, I_BadText_ValueError, I_BadText_BadPlace, I_BadText_BadLine, I_BadText_BadText, I_TableError_TableError, I_TableError_ValueError, I_TableError_BadPlace, I_TableError_BadLine, I_TableError_BadText, FL_BadText_word, FL_BadText_index, EV0, EV1, EV2, EV3, EV4, EV5, EV6, EV7, EV8, kilR, Option.map_some, List.getElem?_cons_zero, List.getElem?_cons_succ, List.set_cons_zero, List.set_cons_succ, List.replicate, Nat.reduceSub, Nat.sub_self, Bool.not_true, Bool.not_false, Bool.true_and, Bool.and_true, Bool.false_and, Bool.and_false, Bool.or_false, Bool.false_or, Bool.true_or, Bool.or_true, decide_true, decide_false, if_true, if_false, Bool.false_eq_true, eq_self, Int.natCast_zero, Int.cast_ofNat_Int, not_true, not_false_eq_true, List.length_nil, L_l_is_place_1, is_integer_spec]]
  simp only [EV0, EV1, EV2, EV3, EV4, EV5, EV6, EV7, EV8, kilR, Option.map_some, List.getElem?_cons_zero, List.getElem?_cons_succ, List.set_cons_zero, List.set_cons_succ, List.replicate, Nat.reduceSub, Nat.sub_self, Bool.not_true, Bool.not_false, Bool.true_and, Bool.and_true, Bool.false_and, Bool.and_false, Bool.or_false, Bool.false_or, Bool.true_or, Bool.or_true, decide_true, decide_false, if_true, if_false, Bool.false_eq_true, eq_self, Int.natCast_zero, Int.cast_ofNat_Int, not_true, not_false_eq_true, List.length_nil]
theorem cpd_row {s : Nat} {es : List Ent} {q : Pl} (h : Dim s es) (hq : q.length = s) : ∃ n, cdim 0 [es] = some n ∧ ansI (cpd n [q]) = some (.ok (.dat (.int s))) := by
  cases es with
  | nil => exact ⟨0, rfl, by rw [← hq]; rfl⟩
  | cons e r =>
    have d0 : e.1.length = s := h e List.mem_cons_self
    refine ⟨s, ?_, ?_⟩
    · show (if (e :: r) = [] then cdim 0 [] else if (0 : Nat) ≠ 0 ∧ e.1.length ≠ 0 then none else cdim e.1.length []) = _
      rw [if_neg (by simp), if_neg (by simp), d0]
      rfl
    · show ansI (if s ≠ 0 ∧ q.length ≠ s then none else cpd q.length []) = _
      rw [if_neg (by omega), hq]
      rfl
def extP (ps : List Pl) (w : Int) : List Pl := ps.flatMap fun p => (List.range w.toNat).map fun k => p ++ [((k : Nat) : Int)]
def plcs (ws : List Int) : List Pl := ws.foldl extP [[]]
theorem extP_len (ps : List Pl) (w : Int) : (extP ps w).length = ps.length * w.toNat := by
  unfold extP
  induction ps with
  | nil => simp
  | cons p ps ih =>
    rw [List.flatMap_cons, List.length_append, ih, List.length_map, List.length_range, List.length_cons, Nat.add_mul, Nat.one_mul, Nat.add_comm]
theorem extP_dim {ps : List Pl} {n : Nat} (w : Int) (h : ∀ p ∈ ps, p.length = n) : ∀ p ∈ extP ps w, p.length = n + 1 := fun p hp => by
  obtain ⟨q, hq, h2⟩ := List.mem_flatMap.mp hp
  obtain ⟨k, _, rfl⟩ := List.mem_map.mp h2
  rw [List.length_append, h q hq]
  rfl
theorem plcs_ok (M : Nat) (ws : List Int) (b : ∀ w ∈ ws, w ≤ (M : Int)) : (plcs ws).length ≤ M ^ ws.length ∧ ∀ p ∈ plcs ws, p.length = ws.length := by
  have key : ∀ (ws : List Int) (ps : List Pl) (n m : Nat), (∀ w ∈ ws, w ≤ (M : Int)) → ps.length ≤ m → (∀ p ∈ ps, p.length = n) → (ws.foldl extP ps).length ≤ m * M ^ ws.length ∧ ∀ p ∈ ws.foldl extP ps, p.length = n + ws.length := by
    intro ws
    induction ws with
    | nil => intro ps n m _ h1 h2; exact ⟨by simpa using h1, h2⟩
    | cons w ws ih =>
      intro ps n m hb h1 h2
      have hw := hb w List.mem_cons_self
      have e1 : (extP ps w).length ≤ m * M := by
        rw [extP_len]
        exact Nat.mul_le_mul h1 (by omega)
      obtain ⟨a1, a2⟩ := ih (extP ps w) (n + 1) (m * M) (fun x hx => hb x (List.mem_cons_of_mem _ hx)) e1 (extP_dim w h2)
      refine ⟨?_, fun p hp => ?_⟩
      · rw [List.length_cons, Nat.pow_succ, Nat.mul_comm (M ^ _) M, ← Nat.mul_assoc]
        exact a1
      · rw [a2 p hp, List.length_cons]
        omega
  have := key ws [[]] 0 1 b (by simp) (by simp)
  rw [Nat.one_mul] at this
  exact ⟨this.1, fun p hp => by rw [this.2 p hp, Nat.zero_add]⟩
theorem fold_one {α β : Type} (f : α → β) (xs : List α) (q0 : List β) : xs.foldl (fun qs x => qs ++ [f x]) q0 = q0 ++ xs.map f := by
  induction xs generalizing q0 with
  | nil => rw [List.map_nil, List.append_nil]; rfl
  | cons x xs ih => rw [List.foldl_cons, ih, List.append_assoc]; rfl
theorem fold_app {α β : Type} (f : α → List β) (xs : List α) (q0 : List β) : xs.foldl (fun qs x => qs ++ f x) q0 = q0 ++ xs.flatMap f := by
  induction xs generalizing q0 with
  | nil => rw [List.flatMap_nil, List.append_nil]; rfl
  | cons x xs ih => rw [List.foldl_cons, ih, List.append_assoc, List.flatMap_cons]
/-- drawn entries: numbers within the reach -/
def Reach (n : Int) (es : List Ent) : Prop := ∀ e ∈ es, -n ≤ e.2 ∧ e.2 ≤ n
theorem drawn_get {xs ss : List Int} (h : Drawn xs ss) : ∀ (i : Nat) (s : Int), ss[i]? = some s → ∃ x, xs[i]? = some x ∧ 0 ≤ x ∧ x < s := by
  induction ss generalizing xs with
  | nil => intro i s e; simp at e
  | cons s0 ss ih =>
    obtain ⟨x, r, rfl, a, b, hr⟩ := drawn_cons h
    intro i s e
    cases i with
    | zero =>
      have e : s0 = s := by simpa using e
      subst e
      exact ⟨x, rfl, a, b⟩
    | succ i => exact ih hr i s (by simpa using e)
theorem plcs_bd (ws : List Int) (b : ∀ w ∈ ws, w ≤ 40) : ∀ p ∈ plcs ws, BdP 40 p := by
  have key : ∀ (ws : List Int) (ps : List Pl), (∀ w ∈ ws, w ≤ 40) → (∀ p ∈ ps, BdP 40 p) → ∀ p ∈ ws.foldl extP ps, BdP 40 p := by
    intro ws
    induction ws with
    | nil => exact fun ps _ h => h
    | cons w ws ih =>
      intro ps hb h
      refine ih (extP ps w) (fun x hx => hb x (List.mem_cons_of_mem _ hx)) fun p hp => ?_
      obtain ⟨q, hq, h2⟩ := List.mem_flatMap.mp hp
      obtain ⟨k, hk, rfl⟩ := List.mem_map.mp h2
      have hk : k < w.toNat := List.mem_range.mp hk
      have hw := hb w List.mem_cons_self
      intro x hx
      rcases List.mem_append.mp hx with z | z
      · exact h q hq x z
      · have : x = (k : Int) := by simpa using z
        omega
  exact key ws [[]] b (fun p hp => by
    have : p = [] := by simpa using hp
    rw [this]
    exact fun x hx => nomatch hx)
theorem plcs_bdN (N : Int) (ws : List Int) (b : ∀ w ∈ ws, w ≤ N) : ∀ p ∈ plcs ws, BdP N p := by
  have key : ∀ (ws : List Int) (ps : List Pl), (∀ w ∈ ws, w ≤ N) → (∀ p ∈ ps, BdP N p) → ∀ p ∈ ws.foldl extP ps, BdP N p := by
    intro ws
    induction ws with
    | nil => exact fun ps _ h => h
    | cons w ws ih =>
      intro ps hb h
      refine ih (extP ps w) (fun x hx => hb x (List.mem_cons_of_mem _ hx)) fun p hp => ?_
      obtain ⟨q, hq, h2⟩ := List.mem_flatMap.mp hp
      obtain ⟨k, hk, rfl⟩ := List.mem_map.mp h2
      have hk : k < w.toNat := List.mem_range.mp hk
      have hw := hb w List.mem_cons_self
      intro x hx
      rcases List.mem_append.mp hx with z | z
      · exact h q hq x z
      · have : x = (k : Int) := by simpa using z
        omega
  exact key ws [[]] b (fun p hp => by
    have : p = [] := by simpa using hp
    rw [this]
    exact fun x hx => nomatch hx)
/-- a row with at most n entries, coordinates up to b -/
structure Ok (s n : Nat) (b : Int) (es : List Ent) : Prop where
  row : Row s es
  len : es.length ≤ n
  bd : Bd b es
theorem Ok.sm {s n : Nat} {b : Int} {es : List Ent} (h : Ok s n b es) (hn : n ≤ 1000000) : Sm es.length := Nat.le_trans h.len (by omega)
theorem Ok.mono {s n m : Nat} {b c : Int} {es : List Ent} (h : Ok s n b es) (hn : n ≤ m) (hb : b ≤ c) : Ok s m c es := ⟨h.row, Nat.le_trans h.len hn, h.bd.mono hb⟩
theorem ok_nil {s n : Nat} {b : Int} (h1 : 1 ≤ s) (h3 : s ≤ 3) : Ok s n b [] := ⟨row_nil h1 h3, Nat.zero_le _, fun e he => nomatch he⟩
theorem Ok.nf {s n : Nat} {b : Int} {es : List Ent} (hd : Dim s es) (h1 : 1 ≤ s) (h3 : s ≤ 3) (hl : es.length ≤ n) (hb : Bd b es) : Ok s n b (DE.nf es) := ⟨.of_nf hd h1 h3, Nat.le_trans (nf_len es) hl, hb.nf⟩
theorem Ok.mir {s n : Nat} {b : Int} {es : List Ent} (h : Ok s n b es) : Ok s n b (DE.nf (mirE es)) := .nf h.row.dim.mir h.row.s1 h.row.s3 (by rw [mirE_len]; exact h.len) h.bd.mir
theorem Ok.app {s n m : Nat} {b c : Int} {es fs : List Ent} (h : Ok s n b es) (h' : Ok s m c fs) : Ok s (n + m) (max b c) (DE.nf (es ++ fs)) := .nf (h.row.dim.app h'.row.dim) h.row.s1 h.row.s3 (by rw [List.length_append]; have := h.len; have := h'.len; omega) ((h.bd.mono (by omega)).app (h'.bd.mono (by omega)))
theorem Ok.scl {s n : Nat} {b : Int} {es : List Ent} (k : Int) (h : Ok s n b es) : Ok s n b (DE.nf (sclE es k)) := .nf h.row.dim.scl h.row.s1 h.row.s3 (by rw [sclE_len]; exact h.len) h.bd.scl
theorem Ok.mov {s n : Nat} {b c : Int} {es : List Ent} {q : Pl} (h : Ok s n b es) (hq : q.length = s) (hb : BdP c q) : Ok s n (b + c) (movE es q) := ⟨h.row.mov hq, by rw [movE_len]; exact h.len, h.bd.mov hb⟩
theorem Ok.nor {s n : Nat} {b : Int} {es : List Ent} (h : Ok s n b es) (h0 : 0 ≤ b) : Ok s n (b + b) (norE s es) := ⟨h.row.nor, by rw [norE_len]; exact h.len, nor_bd h.bd h0 s⟩
theorem map_id_e (b : List Ent) : b.map (fun e => (e.1, e.2)) = b := List.map_id _
theorem lstMin_le {ns : List Int} : ∀ x ∈ ns, lstMin ns ≤ x := by
  cases ns with
  | nil => exact fun _ h => nomatch h
  | cons n r =>
    have key : ∀ (r : List Int) (n : Int), r.foldl min n ≤ n ∧ ∀ x ∈ r, r.foldl min n ≤ x := by
      intro r
      induction r with
      | nil => exact fun n => ⟨Int.le_refl _, fun _ h => nomatch h⟩
      | cons a r ih =>
        intro n
        obtain ⟨h1, h2⟩ := ih (min n a)
        refine ⟨by rw [List.foldl_cons]; omega, fun x hx => ?_⟩
        rw [List.foldl_cons]
        rcases List.mem_cons.mp hx with rfl | hx
        · omega
        · exact h2 x hx
    intro x hx
    rcases List.mem_cons.mp hx with rfl | hx
    · exact (key r x).1
    · exact (key r n).2 x hx
theorem le_lstMax {ns : List Int} : ∀ x ∈ ns, x ≤ lstMax ns := by
  cases ns with
  | nil => exact fun _ h => nomatch h
  | cons n r =>
    have key : ∀ (r : List Int) (n : Int), n ≤ r.foldl max n ∧ ∀ x ∈ r, x ≤ r.foldl max n := by
      intro r
      induction r with
      | nil => exact fun n => ⟨Int.le_refl _, fun _ h => nomatch h⟩
      | cons a r ih =>
        intro n
        obtain ⟨h1, h2⟩ := ih (max n a)
        refine ⟨by rw [List.foldl_cons]; omega, fun x hx => ?_⟩
        rw [List.foldl_cons]
        rcases List.mem_cons.mp hx with rfl | hx
        · omega
        · exact h2 x hx
    intro x hx
    rcases List.mem_cons.mp hx with rfl | hx
    · exact (key r x).1
    · exact (key r n).2 x hx
/-- coordinates that differ by at most n -/
def Spn (n : Int) (es : List Ent) : Prop := ∀ e ∈ es, ∀ f ∈ es, ∀ (i : Nat) (x y : Int), e.1[i]? = some x → f.1[i]? = some y → x - y ≤ n
theorem Bd.spn {n : Int} {es : List Ent} (h : Bd n es) : Spn (n + n) es := fun e he f hf i x y hx hy => by
  have h1 := h e he x (List.mem_of_getElem? hx)
  have h2 := h f hf y (List.mem_of_getElem? hy)
  omega
theorem spn_sub {n : Int} {es fs : List Ent} (h : Spn n es) (hs : ∀ e ∈ fs, ∃ f ∈ es, f.1 = e.1) : Spn n fs := fun e he f hf i x y hx hy => by
  obtain ⟨e', he', q⟩ := hs e he
  obtain ⟨f', hf', r⟩ := hs f hf
  exact h e' he' f' hf' i x y (by rw [q]; exact hx) (by rw [r]; exact hy)
theorem spn_mov {n : Int} {es : List Ent} {q : Pl} (h : Spn n es) : Spn n (movE es q) := fun e he f hf i x y hx hy => by
  obtain ⟨e', he', rfl⟩ := List.mem_map.mp he
  obtain ⟨f', hf', rfl⟩ := List.mem_map.mp hf
  have hx : (List.zipWith (· + ·) e'.1 q)[i]? = some x := hx
  have hy : (List.zipWith (· + ·) f'.1 q)[i]? = some y := hy
  rw [List.getElem?_zipWith] at hx hy
  cases h1 : e'.1[i]? with
  | none => rw [h1] at hx; simp at hx
  | some a =>
    cases h2 : f'.1[i]? with
    | none => rw [h2] at hy; simp at hy
    | some b =>
      cases h3 : q[i]? with
      | none => rw [h1, h3] at hx; simp at hx
      | some c =>
        rw [h1, h3] at hx
        rw [h2, h3] at hy
        have e1 : a + c = x := by simpa using hx
        have e2 : b + c = y := by simpa using hy
        have := h e' he' f' hf' i a b h1 h2
        omega
theorem spn_wid {s : Nat} {n : Int} {es : List Ent} (h : Spn n es) (hd : Dim s es) (hne : es ≠ []) (i : Nat) (hi : i < s) : 0 ≤ lstMax (colI es i) - lstMin (colI es i) ∧ lstMax (colI es i) - lstMin (colI es i) ≤ n := by
  have ne : colI es i ≠ [] := by unfold colI; simpa using hne
  have m1 := lstMax_mem ne
  have m2 := lstMin_mem ne
  refine ⟨by have := lstMin_le _ m1; omega, ?_⟩
  obtain ⟨e, he, e1⟩ := List.mem_map.mp m1
  obtain ⟨f, hf, f1⟩ := List.mem_map.mp m2
  exact h e he f hf i _ _ (by rw [← e1]; exact pl_at (by rw [hd e he]; exact hi)) (by rw [← f1]; exact pl_at (by rw [hd f hf]; exact hi))
theorem find_num {C : Cfg} {L : IB} {y : D} (p : Pl) (hL : ∀ e : Ent, stepL (.t [2, 3]) (runB C L) (eD e) [some (.dat y), some (.dat (pD p)), none, none] = some (if e.1 = p then .rt (.dat (.int e.2)) else .nx [some (.dat y), some (.dat (pD p)), none, none])) : ∀ es : List Ent, forL (stepL (.t [2, 3]) (runB C L)) (mL eD es) [some (.dat y), some (.dat (pD p)), none, none] = some (match getA es p with
    | some n => .rt (.dat (.int n))
    | none => .nx [some (.dat y), some (.dat (pD p)), none, none])
  | [] => rfl
  | e :: r => by
    have hg : getA (e :: r) p = if e.1 = p then some e.2 else getA r p := rfl
    rw [mL_cons, hg]
    have st := hL e
    by_cases h : e.1 = p
    · rw [if_pos h] at st ⊢
      rw [forL_stop st rfl]
    · rw [if_neg h] at st ⊢
      rw [forL_nx st, find_num p hL r]
theorem cpd_one {s : Nat} {es : List Ent} (h : Dim s es) (s1 : 1 ≤ s) (q : Pl) : (match cdim 0 [es] with
    | some n => ansI (cpd n [q])
    | none => some (.error eMix)) = if es ≠ [] ∧ q.length ≠ s then some (.error eMix) else some (.ok (.dat (.int q.length))) := by
  cases es with
  | nil => rfl
  | cons e r =>
    have d0 : e.1.length = s := h e List.mem_cons_self
    have h1 : cdim 0 [e :: r] = some e.1.length := rfl
    rw [h1]
    show ansI (if e.1.length ≠ 0 ∧ q.length ≠ e.1.length then none else cpd q.length []) = _
    by_cases hq : q.length = s
    · rw [if_neg (by omega), if_neg (by simp [hq])]
      rfl
    · rw [if_pos (by omega), if_pos ⟨by simp, hq⟩]
      rfl
def powE (es : List Ent) : Nat → List Ent
  | 0 => es
  | n + 1 => nf (mulE (powE es n) es)
theorem pow_row {s : Nat} {es : List Ent} (h : Row s es) : ∀ n, Row s (powE es n)
  | 0 => h
  | n + 1 => .of_nf ((pow_row h n).dim.mul h.dim) h.s1 h.s3
theorem pow_len (es : List Ent) : ∀ n, (powE es n).length ≤ es.length ^ (n + 1)
  | 0 => by rw [Nat.pow_one]; exact Nat.le_refl _
  | n + 1 => Nat.le_trans (nf_len _) (by rw [mulE_len, Nat.pow_succ]; exact Nat.mul_le_mul_right _ (pow_len es n))
theorem fold_pow (es : List Ent) (n : Nat) : (List.range n).foldl (fun (x : List Ent) _ => nf (mulE x es)) es = powE es n := by
  induction n with
  | zero => rfl
  | succ n ih => rw [List.range_succ, List.foldl_append, ih]; rfl
theorem lin_mov (es : List Ent) (q : Pl) (f : Pl → Int) : lin (movE es q) f = lin es fun p => f (addP p q) := by
  unfold lin movE
  rw [List.map_map]
  rfl
theorem lin_neg (es : List Ent) (f : Pl → Int) : lin (negE es) f = -lin es f := by rw [negE_scl, lin_scl]; omega
theorem lin_funext (es : List Ent) {f g : Pl → Int} (h : ∀ p, f p = g p) : lin es f = lin es g := by rw [funext h]
/-- the sums of products at the differences -/
def crsE (a b : List Ent) : List Ent := nf (mulE a (mirE b))
theorem lin_crs (a b : List Ent) (f : Pl → Int) : lin (crsE a b) f = lin a fun p => lin b fun q => f (addP p (negP q)) := by
  unfold crsE
  rw [lin_nf, lin_mul]
  exact lin_funext a fun p => lin_mir b _
theorem crs_of {a b c d : List Ent} (h : ∀ f, lin (crsE a b) f = lin (crsE c d) f) : crsE a b = crsE c d := by
  have := nf_lin h
  unfold crsE at *
  rwa [nf_nf, nf_nf] at this
theorem crs_nf (a : List Ent) (h : ∀ f, lin a f = lin a f) (b c : List Ent) (hb : ∀ f, lin b f = lin c f) : crsE a b = crsE a c := crs_of fun f => by
  rw [lin_crs, lin_crs]
  exact lin_funext a fun p => hb _
theorem crs_mir (a b : List Ent) : nf (mirE (crsE a b)) = crsE b a := by
  have : nf (mirE (crsE a b)) = nf (crsE b a) := nf_lin fun f => by
    rw [lin_mir, lin_crs, lin_crs, lin_swap]
    exact lin_funext b fun q => lin_funext a fun p => by rw [negP_add, negP_negP, addP_comm]
  rw [this]
  unfold crsE
  rw [nf_nf]
theorem crs_rev (a b : List Ent) : nf (mulE a (mirE b).reverse) = crsE a b := nf_lin fun f => by
  rw [lin_mul, lin_mul]
  exact lin_funext a fun p => lin_perm (List.reverse_perm _) _
theorem own_mirror (a : List Ent) : crsE (nf (mirE a)) (nf (mirE a)) = crsE a a := crs_of fun f => by
  have key : ∀ g : Pl → Int, lin (nf (mirE a)) g = lin a fun p => g (negP p) := fun g => by rw [lin_nf, lin_mir]
  rw [lin_crs, lin_crs, key, lin_funext a (g := fun p => lin a fun q => f (addP (negP p) q)) fun p => by rw [key]; exact lin_funext a fun q => by rw [negP_negP]]
  rw [lin_swap]
  exact lin_funext a fun p => lin_funext a fun q => by rw [addP_comm]
theorem add_sub_mov {p r q : Pl} {s : Nat} (hp : p.length = s) (hq : q.length = s) : addP (addP p q) (negP (addP r q)) = addP p (negP r) := by
  rw [negP_add, addP_comm (negP r), ← addP_assoc, addP_negP' (by rw [hp, hq])]
theorem own_unit {s : Nat} {a : List Ent} {q : Pl} {k : Int} (h : Dim s a) (hq : q.length = s) (hk : k * k = 1) : crsE (sclE (movE a q) k) (sclE (movE a q) k) = crsE a a := crs_of fun f => by
  rw [lin_crs, lin_crs, lin_scl, lin_mov]
  have e : ∀ p : Pl, p.length = s → (lin (sclE (movE a q) k) fun r => f (addP (addP p q) (negP r))) = k * lin a fun r => f (addP p (negP r)) := fun p hp => by
    rw [lin_scl, lin_mov, Int.mul_comm]
    congr 1
    exact lin_congr h fun r hr => by rw [add_sub_mov hp hq]
  rw [lin_congr h e, lin_fun_mul, Int.mul_comm, ← Int.mul_assoc, hk, Int.one_mul]
theorem own_scl (a : List Ent) {k : Int} (hk : k * k = 1) : crsE (sclE a k) (sclE a k) = crsE a a := crs_of fun f => by
  rw [lin_crs, lin_crs, lin_scl]
  rw [lin_funext a (g := fun p => k * lin a fun r => f (addP p (negP r))) fun p => by rw [lin_scl, Int.mul_comm], lin_fun_mul, Int.mul_comm, ← Int.mul_assoc, hk, Int.one_mul]
theorem own_product (a b : List Ent) : crsE (nf (mulE a b)) (nf (mulE a b)) = nf (mulE (crsE a a) (crsE b b)) := by
  refine Eq.trans (nf_nf _).symm (nf_lin fun f => ?_)
  show lin (crsE (nf (mulE a b)) (nf (mulE a b))) f = _
  rw [lin_crs, lin_nf, lin_mul, lin_mul, lin_crs]
  refine lin_funext a fun p => ?_
  rw [lin_funext b (g := fun q => lin a fun p' => lin b fun q' => f (addP (addP p q) (negP (addP p' q')))) fun q => by rw [lin_nf, lin_mul], lin_swap]
  refine lin_funext a fun p' => ?_
  rw [lin_crs]
  refine lin_funext b fun q => lin_funext b fun q' => ?_
  rw [negP_add, addP_assoc, ← addP_assoc q, addP_comm q, addP_assoc, ← addP_assoc]
theorem own_total (a : List Ent) : (lin (crsE a a) fun _ => 1) = (lin a fun _ => 1) * lin a fun _ => 1 := by
  rw [lin_crs, lin_funext a (g := fun _ => (lin a fun _ => 1) * 1) fun p => by rw [Int.mul_one], lin_fun_mul a (fun _ => 1)]
def zP (n : Nat) : Pl := (List.range n).map fun _ => 0
theorem zP_len (n : Nat) : (zP n).length = n := by unfold zP; simp
theorem sub_zero_iff : ∀ {p q : Pl} {s : Nat}, p.length = s → q.length = s → (addP p (negP q) = zP s ↔ p = q) := by
  intro p q s hp hq
  constructor
  · intro h
    refine List.ext_getElem (by omega) fun i h1 h2 => ?_
    have : (addP p (negP q))[i]? = (zP s)[i]? := by rw [h]
    unfold addP negP zP at this
    rw [List.getElem?_zipWith, List.getElem?_map, List.getElem?_map, List.getElem?_eq_getElem h1, List.getElem?_eq_getElem h2, List.getElem?_range (by omega)] at this
    have : p[i] + -q[i] = 0 := by simpa using this
    omega
  · intro h
    subst h
    refine List.ext_getElem? fun i => ?_
    unfold addP negP zP
    rw [List.getElem?_zipWith, List.getElem?_map, List.getElem?_map]
    by_cases hi : i < p.length
    · rw [List.getElem?_eq_getElem hi, List.getElem?_range (by omega)]
      simp
      omega
    · rw [List.getElem?_eq_none (by omega : p.length ≤ i), List.getElem?_eq_none (by rw [List.length_range]; omega)]
      rfl
theorem own_middle {s : Nat} {a : List Ent} (h : Row s a) : cof (crsE a a) (zP s) = (a.map fun e => e.2 * e.2).sum := by
  rw [lin_cof, lin_crs, lin_congr h.dim (g := fun p => cof a p) fun p hp => by
    rw [lin_cof]
    exact lin_congr h.dim fun q hq => by
      have := sub_zero_iff hp hq
      by_cases e : p = q
      · rw [if_pos (this.mpr e), if_pos e.symm]
      · rw [if_neg (fun z => e (this.mp z)), if_neg (fun z => e z.symm)]]
  unfold lin
  congr 1
  exact List.map_congr_left fun e he => by show e.2 * cof a e.1 = _; rw [(h.toSrt.mem.mp he).1.symm]
theorem lin_one (a : List Ent) : (lin a fun _ => 1) = (a.map fun e => e.2).sum := by
  unfold lin
  congr 1
  exact List.map_congr_left fun e _ => Int.mul_one _
theorem get_cof {a : List Ent} (h : Srt a) (p : Pl) : (getA a p).getD 0 = cof a p := (cof_get h.nd p).symm
theorem dim_crs {s : Nat} {a b : List Ent} (ha : Dim s a) (hb : Dim s b) : Dim s (crsE a b) := (ha.mul hb.mir).nf
theorem crs_len (a b : List Ent) : (crsE a b).length ≤ a.length * b.length := Nat.le_trans (nf_len _) (by rw [mulE_len, mirE_len]; exact Nat.le_refl _)
theorem row_crs {s : Nat} {a b : List Ent} (ha : Row s a) (hb : Dim s b) : Row s (crsE a b) := .of_nf (ha.dim.mul hb.mir) ha.s1 ha.s3
theorem num_mir {n : Int} {a : List Ent} (h : Num n a) : Num n (mirE a) := fun e he => by
  obtain ⟨f, hf, rfl⟩ := List.mem_map.mp he
  exact h f hf
theorem num_crs {m n : Int} {a b : List Ent} (ha : Num m a) (hb : Num n b) (hm : 0 ≤ m) (hn : 0 ≤ n) : Num (m * n * (a.length * b.length : Nat)) (crsE a b) := by
  have := (mulE_num ha (num_mir hb) hm hn).nf (Int.mul_nonneg hm hn)
  rw [mulE_len, mirE_len] at this
  exact this
theorem num_app {n : Int} {a b : List Ent} (ha : Num n a) (hb : Num n b) : Num n (a ++ b) := fun e he => (List.mem_append.mp he).elim (ha e) (hb e)
theorem mir_ne (b : List Ent) : (mirE b).reverse ≠ [] ↔ b ≠ [] := by cases b <;> simp [mirE]
theorem sml_mir {b : List Ent} (h : Sml b) : Sml (mirE b).reverse := fun e he => by
  obtain ⟨f, hf, rfl⟩ := List.mem_map.mp (List.mem_reverse.mp he)
  exact h f hf
def dotP (l p : Pl) : Int := (List.zipWith (fun x y => x * y) l p).sum
def mapP (m : List Pl) (p : Pl) : Pl := m.map fun l => dotP l p
def mapE (m : List Pl) (es : List Ent) : List Ent := es.map fun e => (mapP m e.1, e.2)
theorem mapP_len (m : List Pl) (p : Pl) : (mapP m p).length = m.length := List.length_map _
theorem mapE_len (m : List Pl) (es : List Ent) : (mapE m es).length = es.length := List.length_map _
theorem dim_map (m : List Pl) (es : List Ent) : Dim m.length (mapE m es) := fun e he => by
  obtain ⟨f, _, rfl⟩ := List.mem_map.mp he
  exact mapP_len m f.1
theorem dotP_add : ∀ {l p q : Pl}, p.length = q.length → dotP l (addP p q) = dotP l p + dotP l q
  | [], p, q, _ => by simp [dotP]
  | x :: l, [], [], _ => by simp [dotP, addP]
  | x :: l, y :: p, z :: q, h => by
    have ih := dotP_add (l := l) (p := p) (q := q) (by simpa using h)
    show x * (y + z) + dotP l (addP p q) = (x * y + dotP l p) + (x * z + dotP l q)
    rw [ih, Int.mul_add]
    omega
theorem dotP_neg : ∀ (l p : Pl), dotP l (negP p) = -dotP l p
  | [], p => by simp [dotP]
  | x :: l, [] => by simp [dotP, negP]
  | x :: l, y :: p => by
    have ih := dotP_neg l p
    show x * -y + dotP l (negP p) = -(x * y + dotP l p)
    rw [ih, Int.mul_neg]
    omega
theorem mapP_add (m : List Pl) {p q : Pl} (h : p.length = q.length) : mapP m (addP p q) = addP (mapP m p) (mapP m q) := by
  unfold mapP
  rw [show addP (m.map fun l => dotP l p) (m.map fun l => dotP l q) = m.map fun l => dotP l p + dotP l q from by
    unfold addP
    rw [List.zipWith_map, List.zipWith_self]]
  exact List.map_congr_left fun l _ => dotP_add h
theorem mapP_neg (m : List Pl) (p : Pl) : mapP m (negP p) = negP (mapP m p) := by
  unfold mapP negP
  rw [List.map_map]
  exact List.map_congr_left fun l _ => dotP_neg l p
theorem lin_map (m : List Pl) (es : List Ent) (f : Pl → Int) : lin (mapE m es) f = lin es fun p => f (mapP m p) := by
  unfold lin mapE
  rw [List.map_map]
  rfl
theorem map_sum (m : List Pl) (a b : List Ent) : nf (mapE m (nf (a ++ b))) = nf (nf (mapE m a) ++ nf (mapE m b)) := nf_lin fun f => by
  rw [lin_map, lin_nf, lin_app, lin_app, lin_nf, lin_nf, lin_map, lin_map]
theorem map_mir (m : List Pl) (a : List Ent) : nf (mapE m (nf (mirE a))) = nf (mirE (nf (mapE m a))) := nf_lin fun f => by
  rw [lin_map, lin_nf, lin_mir, lin_mir, lin_nf, lin_map]
  exact lin_funext a fun p => by rw [mapP_neg]
theorem map_mul (m : List Pl) {s : Nat} {a b : List Ent} (ha : Dim s a) (hb : Dim s b) : nf (mapE m (nf (mulE a b))) = nf (mulE (nf (mapE m a)) (nf (mapE m b))) := nf_lin fun f => by
  rw [lin_map, lin_nf, lin_mul, lin_mul, lin_nf, lin_map]
  refine lin_congr ha fun p hp => ?_
  rw [lin_nf, lin_map]
  exact lin_congr hb fun q hq => by rw [mapP_add m (by rw [hp, hq])]
theorem cpd_all {s : Nat} : ∀ {ps : List Pl} {f : Nat}, (f = 0 ∨ f = s) → (∀ p ∈ ps, p.length = s) → ∃ n : Nat, cpd f ps = some n
  | [], f, _, _ => ⟨f, rfl⟩
  | p :: ps, f, hf, h => by
    have h1 := h p List.mem_cons_self
    unfold cpd
    rw [if_neg (by omega)]
    exact cpd_all (.inr h1) fun q hq => h q (List.mem_cons_of_mem _ hq)
theorem cpd_any {d : Nat} (hd : 1 ≤ d) : ∀ m : List Pl, cpd d m = if m.any (fun l => decide (l.length ≠ d)) = true then none else some d
  | [] => rfl
  | l :: m => by
    unfold cpd
    by_cases h : l.length = d
    · rw [if_neg (by omega), h, cpd_any hd m, List.any_cons, decide_eq_false (by simp [h]), Bool.false_or]
    · rw [if_pos (by omega), List.any_cons, decide_eq_true (by simpa using h), Bool.true_or, if_pos rfl]
def szM (s : Nat) (es : List Ent) (m : List Pl) : Nat := if es = [] then (m.headD []).length else s
def mixB (s : Nat) (es : List Ent) (m : List Pl) : Bool := m.any fun l => decide (l.length ≠ szM s es m)
theorem cpd_mix {s : Nat} {es : List Ent} {m : List Pl} (hd : Dim s es) (s1 : 1 ≤ s) (hm : m ≠ []) (h1 : ∀ l ∈ m, 1 ≤ l.length) : cpd (dimR es) m = if mixB s es m = true then none else some (szM s es m) := by
  unfold mixB szM
  cases es with
  | nil =>
    cases m with
    | nil => exact absurd rfl hm
    | cons l m =>
      have q := h1 l List.mem_cons_self
      rw [if_pos rfl]
      show (if (0 : Nat) ≠ 0 ∧ l.length ≠ 0 then none else cpd l.length m) = _
      rw [if_neg (by simp), cpd_any q m]
      show _ = if (List.any (l :: m) fun x => decide (x.length ≠ l.length)) = true then none else some l.length
      rw [List.any_cons, decide_eq_false (by simp), Bool.false_or]
  | cons e r =>
    have e0 : (e :: r = ([] : List Ent)) = False := by simp
    simp only [e0, if_false]
    rw [show dimR (e :: r) = s from hd e List.mem_cons_self, cpd_any s1]
theorem mixB_len {s : Nat} {es : List Ent} {m : List Pl} (hd : Dim s es) (h : mixB s es m = false) : Dim (szM s es m) es ∧ ∀ l ∈ m, l.length = szM s es m := by
  constructor
  · unfold szM
    cases es with
    | nil => exact dim_nil
    | cons e r => rw [if_neg (by simp)]; exact hd
  · intro l hl
    unfold mixB at h
    have := List.any_eq_false.mp h l hl
    simpa using this
theorem fd2 : binV .fdiv (.dat (.int x)) (.dat (.int 2)) = some (.dat (.int (x.fdiv 2))) := bin_fdiv (by decide)
theorem forL_first {α : Type} {f : α → D} {step : D → Rho → SR} {ρ : Rho} {o : SO} (ho : outS o = true) {x : α} {post : List α} (hx : step (f x) ρ = some o) : ∀ pre : List α, (∀ y ∈ pre, step (f y) ρ = some (.nx ρ)) → forL step (mL f (pre ++ x :: post)) ρ = some o
  | [], _ => by rw [List.nil_append, mL_cons, forL_stop hx ho]
  | y :: pre, h => by
    rw [List.cons_append, mL_cons, forL_nx (h y List.mem_cons_self)]
    exact forL_first ho hx pre fun z hz => h z (List.mem_cons_of_mem _ hz)
theorem is_integer_h (i : Int) : h_l_is_integer.m [.int i] = some (.ok (.dat (.bl true))) := by
  simp only [b_l_is_integer, h_l_is_integer, is_h_l_is_integer, fd_h_l_is_integer, I_BadText_TableError, I_BadText_ValueError, I_BadText_BadPlace, I_BadText_BadLine, I_BadText_BadText, I_TableError_TableError, I_TableError_ValueError, I_TableError_BadPlace, I_TableError_BadLine, I_TableError_BadText, FL_BadText_word, FL_BadText_index, EV0, EV1, EV2, EV3, EV4, EV5, EV6, EV7, EV8, kilR, Option.map_some, List.getElem?_cons_zero, List.getElem?_cons_succ, List.set_cons_zero, List.set_cons_succ, List.replicate, Nat.reduceSub, Nat.sub_self, Bool.not_true, Bool.not_false, Bool.true_and, Bool.and_true, Bool.false_and, Bool.and_false, Bool.or_false, Bool.false_or, Bool.true_or, Bool.or_true, decide_true, decide_false, if_true, if_false, Bool.false_eq_true, eq_self, Int.natCast_zero, Int.cast_ofNat_Int, not_true, not_false_eq_true, List.length_nil]
theorem cut_dl {p : Pl} (h : p ≠ []) : cutG p none (some (-1)) = p.dropLast := by
  obtain ⟨i, x, rfl⟩ := rev_cons p h
  rw [cut_init, List.dropLast_concat]
theorem cut_ab {α : Type} (xs : List α) (a b : Nat) (h : b ≤ xs.length) (hab : a ≤ b) : cutG xs (some (a : Int)) (some (b : Int)) = (xs.drop a).take (b - a) := by
  unfold cutG
  rw [HT.sIx_nat, HT.sIx_nat, Nat.min_eq_left h, Nat.min_eq_left (by omega)]
theorem put_lO {i : Nat} {ρ : Rho} {m : List Pl} {v : Pl} {j : Int} (h0 : 0 ≤ j) (h : j < m.length) : putX i ρ (pD v) (lO pD m) (.dat (.int j)) = some (.nx (ρ.set i (some (.own (lO pD (m.set j.toNat v)))))) := by
  show (match ixN (m.map pD).length j with
    | some n => some (SO.nx (ρ.set i (some (.own (.l ((m.map pD).set n (pD v)))))))
    | none => none) = _
  have e : ixN (m.map pD).length j = some j.toNat := by
    unfold ixN
    rw [List.length_map, if_pos h0, if_pos (by omega)]
  rw [e]
  show some (SO.nx (ρ.set i (some (.own (.l ((m.map pD).set j.toNat (pD v))))))) = some (SO.nx (ρ.set i (some (.own (.l ((m.set j.toNat v).map pD))))))
  rw [List.map_set]
/-- what the division's loop holds -/
def rhoD (R F : List Ent) (bx : D) (f : Ent) (x : DS) : Rho := [some (.dat (rD R)), some (.dat (rD F)), some (.dat bx), some (.dat (pD f.1)), some (.dat (.int f.2)), none, none, some (.own (dO x.as)), some (.own (lO eD x.part)), some (.dat (.bl x.stop)), none, none, none, none, none]
/-- sizes within which the division is followed -/
structure DivOk (s : Nat) (R F : List Ent) : Prop where
  rR : Row s R
  rF : Row s F
  fne : F ≠ []
  lF : Sm F.length
  len : Sm (R.length + F.length * (volP (lowP R s) (topP R s)).toNat)
  vol : (volP (lowP R s) (topP R s)).toNat ≤ 900000
  sml : Sml F
  led : ∀ f ∈ F, f.2.natAbs < 1073741824
theorem rowOf_ne {s : Nat} {as : List Ent} (h : Gd s as) (hne : as ≠ []) : ∃ e r, rowOf as = e :: r := by
  have e1 : rowOf as = nf as := by unfold nf; rw [sumA_self as h.nd]
  rw [e1]
  cases h0 : nf as with
  | nil => exact absurd (h.nil fun p => by rw [← nf_cof, h0]; rfl) hne
  | cons e r => exact ⟨e, r, rfl⟩
theorem not_mixed {s : Nat} {a b : List Ent} : ¬Mixed s s a b := fun z => z.2.2 rfl

end LW

set_option Elab.async false
set_option linter.all false
set_option maxRecDepth 100000
set_option maxHeartbeats 4000000
namespace LW
open PySem PySem.Spec PyProof.Rows L2 DE
theorem dig_in (c : Nat) : decide (c ∈ ("0123456789" : Str).cps.toList) = decide (48 ≤ c ∧ c ≤ 57) := by
  have e : ("0123456789" : Str).cps.toList = [48, 49, 50, 51, 52, 53, 54, 55, 56, 57] := by decide
  rw [e]
  refine decide_eq_decide.mpr ⟨fun h => ?_, fun h => ?_⟩
  · simp at h
    omega
  · simp
    omega
/-- with the digits d of the text l -/
def decF (l d : List Nat) : Bool := match d with
  | [] => false
  | c :: r => (c :: r).all (fun c => decide (48 ≤ c ∧ c ≤ 57)) && (!decide (c = 48) || decide (l = [48]))
theorem isDec_eq (l : List Nat) : isDec l = decF l (digs l) := rfl
theorem digs_dash (r : List Nat) : digs (45 :: r) = r := rfl
theorem digs_no {l : List Nat} (h : l.take 1 ≠ [45]) : digs l = l := by
  unfold digs
  split
  · exact absurd rfl h
  · rfl
theorem z0 : ("0" : Str).cps.toList = [48] := by decide
theorem z1 : ("" : Str).cps.toList = [] := by decide
theorem z2 : ("-" : Str).cps.toList = [45] := by decide
theorem z3 : ("," : Str).cps.toList = [44] := by decide
theorem dec_tail (l d : List Nat) (hl : Sm (l.length + 1)) (hd : Sm (d.length + 1)) : runB c_is_decimal bt_is_decimal_2 [some (.dat (sG l)), some (.dat (sG d)), none] = some (.rt (.dat (.bl (decF l d)))) := by
  cases d with
  | nil =>
    have e : decF l [] = false := rfl
    simp only [bt_is_decimal_3, bt_is_decimal_2, b_is_decimal, f_is_decimal, is_is_decimal, fd_is_decimal, I_BadText_TableError, I_BadText_ValueError, I_BadText_BadPlace, I_BadText_BadLine, I_BadText_BadText, I_TableError_TableError, I_TableError_ValueError, I_TableError_BadPlace, I_TableError_BadLine, I_TableError_BadText, FL_BadText_word, FL_BadText_index, EV0, EV1, EV2, EV3, EV4, EV5, EV6, EV7, EV8, kilR, Option.map_some, List.getElem?_cons_zero, List.getElem?_cons_succ, List.set_cons_zero, List.set_cons_succ, List.replicate, Nat.reduceSub, Nat.sub_self, Bool.not_true, Bool.not_false, Bool.true_and, Bool.and_true, Bool.false_and, Bool.and_false, Bool.or_false, Bool.false_or, Bool.true_or, Bool.or_true, decide_true, decide_false, if_true, if_false, Bool.false_eq_true, eq_self, Int.natCast_zero, Int.cast_ofNat_Int, not_true, not_false_eq_true, List.length_nil, z1, e]
  | cons c r =>
    have hs : Sm (c :: r).length := by unfold Sm at *; omega
    have ne : ¬ c :: r = [] := by simp
    have i0 : ixW (.dat (sG (c :: r))) (.dat (.int 0)) = some (.dat (cG c)) := ix_s0 (by unfold Sm at *; rw [List.length_cons] at hs; omega)
    have lc : lcU (some (.ok (mL cG (c :: r)))) (turnL (.n 2) (evIf c_is_decimal .no) (evE c_is_decimal (.cmp .isin (.var 2) (.str "0123456789"))) [some (.dat (sG l)), some (.dat (sG (c :: r))), none]) = some (.ok (.fr (lO D.bl ((c :: r).map fun c => decide (48 ≤ c ∧ c ≤ 57))))) :=
      lc_map (f := cG) (g := D.bl) (k := fun c => decide (48 ≤ c ∧ c ≤ 57)) hs fun x hx => by simp only [EV0, EV1, EV2, EV3, EV4, EV5, EV6, EV7, EV8, kilR, Option.map_some, List.getElem?_cons_zero, List.getElem?_cons_succ, List.set_cons_zero, List.set_cons_succ, List.replicate, Nat.reduceSub, Nat.sub_self, Bool.not_true, Bool.not_false, Bool.true_and, Bool.and_true, Bool.false_and, Bool.and_false, Bool.or_false, Bool.false_or, Bool.true_or, Bool.or_true, decide_true, decide_false, if_true, if_false, Bool.false_eq_true, eq_self, Int.natCast_zero, Int.cast_ofNat_Int, not_true, not_false_eq_true, List.length_nil, dig_in]
    have al : biV .all [.fr (lO D.bl ((c :: r).map fun c => decide (48 ≤ c ∧ c ≤ 57)))] = some (.dat (.bl ((c :: r).all fun c => decide (48 ≤ c ∧ c ≤ 57)))) := by
      rw [all_f, List.all_map]
      rfl
    cases ha : (c :: r).all (fun c => decide (48 ≤ c ∧ c ≤ 57)) with
    | false =>
      rw [ha] at al
      have e : decF l (c :: r) = false := by simp only [decF, ha, Bool.false_and, Bool.true_and]
      simp only [bt_is_decimal_3, bt_is_decimal_2, b_is_decimal, f_is_decimal, is_is_decimal, fd_is_decimal, I_BadText_TableError, I_BadText_ValueError, I_BadText_BadPlace, I_BadText_BadLine, I_BadText_BadText, I_TableError_TableError, I_TableError_ValueError, I_TableError_BadPlace, I_TableError_BadLine, I_TableError_BadText, FL_BadText_word, FL_BadText_index, EV0, EV1, EV2, EV3, EV4, EV5, EV6, EV7, EV8, kilR, Option.map_some, List.getElem?_cons_zero, List.getElem?_cons_succ, List.set_cons_zero, List.set_cons_succ, List.replicate, Nat.reduceSub, Nat.sub_self, Bool.not_true, Bool.not_false, Bool.true_and, Bool.and_true, Bool.false_and, Bool.and_false, Bool.or_false, Bool.false_or, Bool.true_or, Bool.or_true, decide_true, decide_false, if_true, if_false, Bool.false_eq_true, eq_self, Int.natCast_zero, Int.cast_ofNat_Int, not_true, not_false_eq_true, List.length_nil, z1, ne, lc, al, e]
    | true =>
      rw [ha] at al
      have e : decF l (c :: r) = (!decide (c = 48) || decide (l = [48])) := by simp only [decF, ha, Bool.false_and, Bool.true_and]
      by_cases h0 : c = 48
      · subst h0
        simp only [bt_is_decimal_3, bt_is_decimal_2, b_is_decimal, f_is_decimal, is_is_decimal, fd_is_decimal, I_BadText_TableError, I_BadText_ValueError, I_BadText_BadPlace, I_BadText_BadLine, I_BadText_BadText, I_TableError_TableError, I_TableError_ValueError, I_TableError_BadPlace, I_TableError_BadLine, I_TableError_BadText, FL_BadText_word, FL_BadText_index, EV0, EV1, EV2, EV3, EV4, EV5, EV6, EV7, EV8, kilR, Option.map_some, List.getElem?_cons_zero, List.getElem?_cons_succ, List.set_cons_zero, List.set_cons_succ, List.replicate, Nat.reduceSub, Nat.sub_self, Bool.not_true, Bool.not_false, Bool.true_and, Bool.and_true, Bool.false_and, Bool.and_false, Bool.or_false, Bool.false_or, Bool.true_or, Bool.or_true, decide_true, decide_false, if_true, if_false, Bool.false_eq_true, eq_self, Int.natCast_zero, Int.cast_ofNat_Int, not_true, not_false_eq_true, List.length_nil, z1, z0, ne, lc, al, e, i0]
      · have : ¬ [c] = [48] := by simpa using h0
        simp only [bt_is_decimal_3, bt_is_decimal_2, b_is_decimal, f_is_decimal, is_is_decimal, fd_is_decimal, I_BadText_TableError, I_BadText_ValueError, I_BadText_BadPlace, I_BadText_BadLine, I_BadText_BadText, I_TableError_TableError, I_TableError_ValueError, I_TableError_BadPlace, I_TableError_BadLine, I_TableError_BadText, FL_BadText_word, FL_BadText_index, EV0, EV1, EV2, EV3, EV4, EV5, EV6, EV7, EV8, kilR, Option.map_some, List.getElem?_cons_zero, List.getElem?_cons_succ, List.set_cons_zero, List.set_cons_succ, List.replicate, Nat.reduceSub, Nat.sub_self, Bool.not_true, Bool.not_false, Bool.true_and, Bool.and_true, Bool.false_and, Bool.and_false, Bool.or_false, Bool.false_or, Bool.true_or, Bool.or_true, decide_true, decide_false, if_true, if_false, Bool.false_eq_true, eq_self, Int.natCast_zero, Int.cast_ofNat_Int, not_true, not_false_eq_true, List.length_nil, z1, z0, ne, lc, al, e, i0, this, h0]
theorem is_decimal_spec (l : List Nat) (h : l.length ≤ 640) : f_is_decimal.m [sG l] = some (.ok (.dat (.bl (isDec l)))) := by
  have hl : Sm (l.length + 1) := by unfold Sm; omega
  have h2 : Sm l.length := by unfold Sm; omega
  have sl := fun lo hi => sl_s (lo := lo) (hi := hi) h2
  by_cases hd : l.take 1 = [45]
  · cases l with
    | nil => cases hd
    | cons c r =>
      have : c = 45 := by simpa using hd
      subst this
      have t := dec_tail (45 :: r) r hl (by unfold Sm at *; rw [List.length_cons] at hl; omega)
      simp only [bt_is_decimal_1, b_is_decimal, f_is_decimal, is_is_decimal, fd_is_decimal, I_BadText_TableError, I_BadText_ValueError, I_BadText_BadPlace, I_BadText_BadLine, I_BadText_BadText, I_TableError_TableError, I_TableError_ValueError, I_TableError_BadPlace, I_TableError_BadLine, I_TableError_BadText, FL_BadText_word, FL_BadText_index, EV0, EV1, EV2, EV3, EV4, EV5, EV6, EV7, EV8, kilR, Option.map_some, List.getElem?_cons_zero, List.getElem?_cons_succ, List.set_cons_zero, List.set_cons_succ, List.replicate, Nat.reduceSub, Nat.sub_self, Bool.not_true, Bool.not_false, Bool.true_and, Bool.and_true, Bool.false_and, Bool.and_false, Bool.or_false, Bool.false_or, Bool.true_or, Bool.or_true, decide_true, decide_false, if_true, if_false, Bool.false_eq_true, eq_self, Int.natCast_zero, Int.cast_ofNat_Int, not_true, not_false_eq_true, List.length_nil, sw_dash, hd, sl, cut_1, t, isDec_eq, digs_dash]
  · have t := dec_tail l l hl hl
    simp only [bt_is_decimal_1, b_is_decimal, f_is_decimal, is_is_decimal, fd_is_decimal, I_BadText_TableError, I_BadText_ValueError, I_BadText_BadPlace, I_BadText_BadLine, I_BadText_BadText, I_TableError_TableError, I_TableError_ValueError, I_TableError_BadPlace, I_TableError_BadLine, I_TableError_BadText, FL_BadText_word, FL_BadText_index, EV0, EV1, EV2, EV3, EV4, EV5, EV6, EV7, EV8, kilR, Option.map_some, List.getElem?_cons_zero, List.getElem?_cons_succ, List.set_cons_zero, List.set_cons_succ, List.replicate, Nat.reduceSub, Nat.sub_self, Bool.not_true, Bool.not_false, Bool.true_and, Bool.and_true, Bool.false_and, Bool.and_false, Bool.or_false, Bool.false_or, Bool.true_or, Bool.or_true, decide_true, decide_false, if_true, if_false, Bool.false_eq_true, eq_self, Int.natCast_zero, Int.cast_ofNat_Int, not_true, not_false_eq_true, List.length_nil, sw_dash, hd, t, isDec_eq, digs_no hd]
theorem ldec_tail (l d : List Nat) (hl : Sm (l.length + 1)) (hd : Sm (d.length + 1)) : runB c_l_decimal bt_l_decimal_2 [some (.dat (sG l)), some (.dat (sG d)), none] = some (.rt (.dat (.bl (decF l d)))) := by
  cases d with
  | nil =>
    have e : decF l [] = false := rfl
    simp only [bt_l_decimal_4, bt_l_decimal_3, bt_l_decimal_2, b_l_decimal, f_l_decimal, is_l_decimal, fd_l_decimal, I_BadText_TableError, I_BadText_ValueError, I_BadText_BadPlace, I_BadText_BadLine, I_BadText_BadText, I_TableError_TableError, I_TableError_ValueError, I_TableError_BadPlace, I_TableError_BadLine, I_TableError_BadText, FL_BadText_word, FL_BadText_index, EV0, EV1, EV2, EV3, EV4, EV5, EV6, EV7, EV8, kilR, Option.map_some, List.getElem?_cons_zero, List.getElem?_cons_succ, List.set_cons_zero, List.set_cons_succ, List.replicate, Nat.reduceSub, Nat.sub_self, Bool.not_true, Bool.not_false, Bool.true_and, Bool.and_true, Bool.false_and, Bool.and_false, Bool.or_false, Bool.false_or, Bool.true_or, Bool.or_true, decide_true, decide_false, if_true, if_false, Bool.false_eq_true, eq_self, Int.natCast_zero, Int.cast_ofNat_Int, not_true, not_false_eq_true, List.length_nil, z1, e]
  | cons c r =>
    have ne : ¬ c :: r = [] := by simp
    have i0 : ixW (.dat (sG (c :: r))) (.dat (.int 0)) = some (.dat (cG c)) := ix_s0 (by unfold Sm at *; rw [List.length_cons] at hd; omega)
    have lo : forL (stepL (.n 2) (runB c_l_decimal L_l_decimal_1)) (mL cG (c :: r)) [some (.dat (sG l)), some (.dat (sG (c :: r))), none] = some (if (c :: r).any (fun c => !decide (48 ≤ c ∧ c ≤ 57)) = true then .rt (.dat (.bl false)) else .nx [some (.dat (sG l)), some (.dat (sG (c :: r))), none]) :=
      for_any (f := cG) (fun c => !decide (48 ≤ c ∧ c ≤ 57)) _ rfl fun x hx => by
        cases hc : decide (48 ≤ x ∧ x ≤ 57) with
        | true => simp only [L_l_decimal_1, EV0, EV1, EV2, EV3, EV4, EV5, EV6, EV7, EV8, kilR, Option.map_some, List.getElem?_cons_zero, List.getElem?_cons_succ, List.set_cons_zero, List.set_cons_succ, List.replicate, Nat.reduceSub, Nat.sub_self, Bool.not_true, Bool.not_false, Bool.true_and, Bool.and_true, Bool.false_and, Bool.and_false, Bool.or_false, Bool.false_or, Bool.true_or, Bool.or_true, decide_true, decide_false, if_true, if_false, Bool.false_eq_true, eq_self, Int.natCast_zero, Int.cast_ofNat_Int, not_true, not_false_eq_true, List.length_nil, dig_in, hc]
        | false => simp only [L_l_decimal_1, EV0, EV1, EV2, EV3, EV4, EV5, EV6, EV7, EV8, kilR, Option.map_some, List.getElem?_cons_zero, List.getElem?_cons_succ, List.set_cons_zero, List.set_cons_succ, List.replicate, Nat.reduceSub, Nat.sub_self, Bool.not_true, Bool.not_false, Bool.true_and, Bool.and_true, Bool.false_and, Bool.and_false, Bool.or_false, Bool.false_or, Bool.true_or, Bool.or_true, decide_true, decide_false, if_true, if_false, Bool.false_eq_true, eq_self, Int.natCast_zero, Int.cast_ofNat_Int, not_true, not_false_eq_true, List.length_nil, dig_in, hc]
    have an : (c :: r).any (fun c => !decide (48 ≤ c ∧ c ≤ 57)) = !(c :: r).all (fun c => decide (48 ≤ c ∧ c ≤ 57)) := by
      rw [List.not_all_eq_any_not]
    rw [an] at lo
    cases ha : (c :: r).all (fun c => decide (48 ≤ c ∧ c ≤ 57)) with
    | false =>
      rw [ha, Bool.not_false, if_pos rfl] at lo
      have e : decF l (c :: r) = false := by simp only [decF, ha, Bool.false_and, Bool.true_and]
      simp only [bt_l_decimal_4, bt_l_decimal_3, bt_l_decimal_2, b_l_decimal, f_l_decimal, is_l_decimal, fd_l_decimal, I_BadText_TableError, I_BadText_ValueError, I_BadText_BadPlace, I_BadText_BadLine, I_BadText_BadText, I_TableError_TableError, I_TableError_ValueError, I_TableError_BadPlace, I_TableError_BadLine, I_TableError_BadText, FL_BadText_word, FL_BadText_index, EV0, EV1, EV2, EV3, EV4, EV5, EV6, EV7, EV8, kilR, Option.map_some, List.getElem?_cons_zero, List.getElem?_cons_succ, List.set_cons_zero, List.set_cons_succ, List.replicate, Nat.reduceSub, Nat.sub_self, Bool.not_true, Bool.not_false, Bool.true_and, Bool.and_true, Bool.false_and, Bool.and_false, Bool.or_false, Bool.false_or, Bool.true_or, Bool.or_true, decide_true, decide_false, if_true, if_false, Bool.false_eq_true, eq_self, Int.natCast_zero, Int.cast_ofNat_Int, not_true, not_false_eq_true, List.length_nil, z1, ne, lo, e]
    | true =>
      rw [ha, Bool.not_true, if_neg (by decide)] at lo
      have e : decF l (c :: r) = (!decide (c = 48) || decide (l = [48])) := by simp only [decF, ha, Bool.false_and, Bool.true_and]
      by_cases h0 : c = 48
      · subst h0
        simp only [bt_l_decimal_4, bt_l_decimal_3, bt_l_decimal_2, b_l_decimal, f_l_decimal, is_l_decimal, fd_l_decimal, I_BadText_TableError, I_BadText_ValueError, I_BadText_BadPlace, I_BadText_BadLine, I_BadText_BadText, I_TableError_TableError, I_TableError_ValueError, I_TableError_BadPlace, I_TableError_BadLine, I_TableError_BadText, FL_BadText_word, FL_BadText_index, EV0, EV1, EV2, EV3, EV4, EV5, EV6, EV7, EV8, kilR, Option.map_some, List.getElem?_cons_zero, List.getElem?_cons_succ, List.set_cons_zero, List.set_cons_succ, List.replicate, Nat.reduceSub, Nat.sub_self, Bool.not_true, Bool.not_false, Bool.true_and, Bool.and_true, Bool.false_and, Bool.and_false, Bool.or_false, Bool.false_or, Bool.true_or, Bool.or_true, decide_true, decide_false, if_true, if_false, Bool.false_eq_true, eq_self, Int.natCast_zero, Int.cast_ofNat_Int, not_true, not_false_eq_true, List.length_nil, z1, z0, ne, lo, e, i0]
      · have : ¬ [c] = [48] := by simpa using h0
        simp only [bt_l_decimal_4, bt_l_decimal_3, bt_l_decimal_2, b_l_decimal, f_l_decimal, is_l_decimal, fd_l_decimal, I_BadText_TableError, I_BadText_ValueError, I_BadText_BadPlace, I_BadText_BadLine, I_BadText_BadText, I_TableError_TableError, I_TableError_ValueError, I_TableError_BadPlace, I_TableError_BadLine, I_TableError_BadText, FL_BadText_word, FL_BadText_index, EV0, EV1, EV2, EV3, EV4, EV5, EV6, EV7, EV8, kilR, Option.map_some, List.getElem?_cons_zero, List.getElem?_cons_succ, List.set_cons_zero, List.set_cons_succ, List.replicate, Nat.reduceSub, Nat.sub_self, Bool.not_true, Bool.not_false, Bool.true_and, Bool.and_true, Bool.false_and, Bool.and_false, Bool.or_false, Bool.false_or, Bool.true_or, Bool.or_true, decide_true, decide_false, if_true, if_false, Bool.false_eq_true, eq_self, Int.natCast_zero, Int.cast_ofNat_Int, not_true, not_false_eq_true, List.length_nil, z1, z0, ne, lo, e, i0, this, h0]
theorem cut_t1 (l : List Nat) : cutG l none (some 1) = l.take 1 := cut_hi l 1
theorem ldecimal_spec (l : List Nat) (h : l.length ≤ 640) : f_l_decimal.m [sG l] = some (.ok (.dat (.bl (isDec l)))) := by
  have hl : Sm (l.length + 1) := by unfold Sm; omega
  have h2 : Sm l.length := by unfold Sm; omega
  have sl := fun lo hi => sl_s (lo := lo) (hi := hi) h2
  by_cases hd : l.take 1 = [45]
  · cases l with
    | nil => cases hd
    | cons c r =>
      have : c = 45 := by simpa using hd
      subst this
      have t := ldec_tail (45 :: r) r hl (by unfold Sm at *; rw [List.length_cons] at hl; omega)
      simp only [bt_l_decimal_1, b_l_decimal, f_l_decimal, is_l_decimal, fd_l_decimal, I_BadText_TableError, I_BadText_ValueError, I_BadText_BadPlace, I_BadText_BadLine, I_BadText_BadText, I_TableError_TableError, I_TableError_ValueError, I_TableError_BadPlace, I_TableError_BadLine, I_TableError_BadText, FL_BadText_word, FL_BadText_index, EV0, EV1, EV2, EV3, EV4, EV5, EV6, EV7, EV8, kilR, Option.map_some, List.getElem?_cons_zero, List.getElem?_cons_succ, List.set_cons_zero, List.set_cons_succ, List.replicate, Nat.reduceSub, Nat.sub_self, Bool.not_true, Bool.not_false, Bool.true_and, Bool.and_true, Bool.false_and, Bool.and_false, Bool.or_false, Bool.false_or, Bool.true_or, Bool.or_true, decide_true, decide_false, if_true, if_false, Bool.false_eq_true, eq_self, Int.natCast_zero, Int.cast_ofNat_Int, not_true, not_false_eq_true, List.length_nil, z2, cut_t1, hd, sl, cut_1, t, isDec_eq, digs_dash]
  · have t := ldec_tail l l hl hl
    simp only [bt_l_decimal_1, b_l_decimal, f_l_decimal, is_l_decimal, fd_l_decimal, I_BadText_TableError, I_BadText_ValueError, I_BadText_BadPlace, I_BadText_BadLine, I_BadText_BadText, I_TableError_TableError, I_TableError_ValueError, I_TableError_BadPlace, I_TableError_BadLine, I_TableError_BadText, FL_BadText_word, FL_BadText_index, EV0, EV1, EV2, EV3, EV4, EV5, EV6, EV7, EV8, kilR, Option.map_some, List.getElem?_cons_zero, List.getElem?_cons_succ, List.set_cons_zero, List.set_cons_succ, List.replicate, Nat.reduceSub, Nat.sub_self, Bool.not_true, Bool.not_false, Bool.true_and, Bool.and_true, Bool.false_and, Bool.and_false, Bool.or_false, Bool.false_or, Bool.true_or, Bool.or_true, decide_true, decide_false, if_true, if_false, Bool.false_eq_true, eq_self, Int.natCast_zero, Int.cast_ofNat_Int, not_true, not_false_eq_true, List.length_nil, z2, cut_t1, sl, hd, t, isDec_eq, digs_no hd]
/-! ### the first bad piece -/
theorem for_find {α : Type} {f : α → D} {xs : List α} {ρ : Rho} {step : D → Rho → SR} (c : α → Bool) (o : α → SO) (ho : ∀ x, outS (o x) = true) (h : ∀ x, x ∈ xs → step (f x) ρ = some (if c x = true then o x else .nx ρ)) :
    forL step (mL f xs) ρ = some ((xs.find? c).elim (.nx ρ) o) := by
  induction xs with
  | nil => rfl
  | cons x xs ih =>
    have h1 := h x (List.mem_cons_self ..)
    show forL step (f x :: mL f xs) ρ = _
    cases q : c x with
    | true =>
      rw [q, if_pos rfl] at h1
      rw [forL_stop h1 (ho x), List.find?_cons, q]
      rfl
    | false =>
      rw [q, if_neg (by decide)] at h1
      rw [forL_nx h1, ih fun y hy => h y (List.mem_cons_of_mem _ hy), List.find?_cons, q]
def badAt (ps : List (List Nat)) (k : Nat) : Bool := decide (k = 3) || !isDec (ps.getD k [])
def fb (ps : List (List Nat)) : Option Nat := (List.range ps.length).find? (badAt ps)
theorem fb_lt {ps : List (List Nat)} {k : Nat} (h : fb ps = some k) : k < ps.length := List.mem_range.mp (List.mem_of_find?_eq_some h)
theorem fb_none {ps : List (List Nat)} (h : fb ps = none) : ps.length ≤ 3 ∧ ∀ p ∈ ps, isDec p = true := by
  have a := List.find?_eq_none.mp h
  have b : ∀ k : Nat, k < ps.length → k ≠ 3 ∧ isDec (ps.getD k []) = true := fun k hk => by
    have := a k (List.mem_range.mpr hk)
    unfold badAt at this
    simpa using this
  refine ⟨?_, fun p hp => ?_⟩
  · by_cases h3 : 3 < ps.length
    · exact absurd rfl (b 3 h3).1
    · omega
  · obtain ⟨i, hi, e⟩ := List.getElem_of_mem hp
    have := (b i hi).2
    rw [List.getD_eq_getElem?_getD, List.getElem?_eq_getElem hi, e] at this
    exact this
theorem getD_at {ps : List (List Nat)} {k : Nat} (h : k ∈ List.range ps.length) : ps[k]? = some (ps.getD k []) ∧ ps.getD k [] ∈ ps := by
  have hk := List.mem_range.mp h
  have e : ps.getD k [] = ps[k] := by rw [List.getD_eq_getElem?_getD, List.getElem?_eq_getElem hk]; rfl
  rw [e]
  exact ⟨List.getElem?_eq_getElem hk, List.getElem_mem hk⟩
theorem i3 {k : Nat} : decide ((k : Int) = 3) = decide (k = 3) := decide_eq_decide.mpr (by omega)
theorem lfirst_bad_spec (ps : List (List Nat)) (h : ∀ p ∈ ps, p.length ≤ 640) (hn : Sm ps.length) : f_l_first_bad.m [lD sG ps] = some (.ok (.dat (.int ((fb ps).elim (-1) fun k => (k : Nat))))) := by
  have lo : forL (stepL (.n 1) (runB c_l_first_bad L_l_first_bad_1)) (mL iN (List.range ps.length)) [some (.dat (lD sG ps)), none] = some ((fb ps).elim (.nx [some (.dat (lD sG ps)), none]) fun k => .rt (.dat (.int (k : Nat)))) :=
    for_find (f := iN) (step := stepL (.n 1) (runB c_l_first_bad L_l_first_bad_1)) (ρ := [some (.dat (lD sG ps)), none]) (badAt ps) (fun k => .rt (.dat (.int (k : Nat)))) (fun _ => rfl) fun k hk => by
      obtain ⟨g1, g2⟩ := getD_at hk
      have d := ldecimal_spec _ (h _ g2)
      have hx : iN k = .int (k : Nat) := rfl
      unfold badAt
      generalize ps.getD k [] = p at *
      by_cases k3 : k = 3
      · have c3 : (k : Int) = 3 := by omega
        simp only [b_l_first_bad, f_l_first_bad, T_l_first_bad_0, is_l_first_bad, fd_l_first_bad, n_l_decimal, I_BadText_TableError, I_BadText_ValueError, I_BadText_BadPlace, I_BadText_BadLine, I_BadText_BadText, I_TableError_TableError, I_TableError_ValueError, I_TableError_BadPlace, I_TableError_BadLine, I_TableError_BadText, FL_BadText_word, FL_BadText_index, EV0, EV1, EV2, EV3, EV4, EV5, EV6, EV7, EV8, kilR, Option.map_some, List.getElem?_cons_zero, List.getElem?_cons_succ, List.set_cons_zero, List.set_cons_succ, List.replicate, Nat.reduceSub, Nat.sub_self, Bool.not_true, Bool.not_false, Bool.true_and, Bool.and_true, Bool.false_and, Bool.and_false, Bool.or_false, Bool.false_or, Bool.true_or, Bool.or_true, decide_true, decide_false, if_true, if_false, Bool.false_eq_true, eq_self, Int.natCast_zero, Int.cast_ofNat_Int, not_true, not_false_eq_true, List.length_nil, L_l_first_bad_1, hx, c3, k3]
        subst k3
        rfl
      · have c3 : ¬ (k : Int) = 3 := by omega
        cases hd : isDec p with
        | true => rw [hd] at d; simp only [b_l_first_bad, f_l_first_bad, T_l_first_bad_0, is_l_first_bad, fd_l_first_bad, n_l_decimal, I_BadText_TableError, I_BadText_ValueError, I_BadText_BadPlace, I_BadText_BadLine, I_BadText_BadText, I_TableError_TableError, I_TableError_ValueError, I_TableError_BadPlace, I_TableError_BadLine, I_TableError_BadText, FL_BadText_word, FL_BadText_index, EV0, EV1, EV2, EV3, EV4, EV5, EV6, EV7, EV8, kilR, Option.map_some, List.getElem?_cons_zero, List.getElem?_cons_succ, List.set_cons_zero, List.set_cons_succ, List.replicate, Nat.reduceSub, Nat.sub_self, Bool.not_true, Bool.not_false, Bool.true_and, Bool.and_true, Bool.false_and, Bool.and_false, Bool.or_false, Bool.false_or, Bool.true_or, Bool.or_true, decide_true, decide_false, if_true, if_false, Bool.false_eq_true, eq_self, Int.natCast_zero, Int.cast_ofNat_Int, not_true, not_false_eq_true, List.length_nil, L_l_first_bad_1, hx, c3, k3, ix_gn g1, d]
        | false => rw [hd] at d; simp only [b_l_first_bad, f_l_first_bad, T_l_first_bad_0, is_l_first_bad, fd_l_first_bad, n_l_decimal, I_BadText_TableError, I_BadText_ValueError, I_BadText_BadPlace, I_BadText_BadLine, I_BadText_BadText, I_TableError_TableError, I_TableError_ValueError, I_TableError_BadPlace, I_TableError_BadLine, I_TableError_BadText, FL_BadText_word, FL_BadText_index, EV0, EV1, EV2, EV3, EV4, EV5, EV6, EV7, EV8, kilR, Option.map_some, List.getElem?_cons_zero, List.getElem?_cons_succ, List.set_cons_zero, List.set_cons_succ, List.replicate, Nat.reduceSub, Nat.sub_self, Bool.not_true, Bool.not_false, Bool.true_and, Bool.and_true, Bool.false_and, Bool.and_false, Bool.or_false, Bool.false_or, Bool.true_or, Bool.or_true, decide_true, decide_false, if_true, if_false, Bool.false_eq_true, eq_self, Int.natCast_zero, Int.cast_ofNat_Int, not_true, not_false_eq_true, List.length_nil, L_l_first_bad_1, hx, c3, k3, ix_gn g1, d]
  cases hf : fb ps with
  | some k => rw [hf] at lo; simp only [b_l_first_bad, f_l_first_bad, T_l_first_bad_0, is_l_first_bad, fd_l_first_bad, n_l_decimal, I_BadText_TableError, I_BadText_ValueError, I_BadText_BadPlace, I_BadText_BadLine, I_BadText_BadText, I_TableError_TableError, I_TableError_ValueError, I_TableError_BadPlace, I_TableError_BadLine, I_TableError_BadText, FL_BadText_word, FL_BadText_index, EV0, EV1, EV2, EV3, EV4, EV5, EV6, EV7, EV8, kilR, Option.map_some, List.getElem?_cons_zero, List.getElem?_cons_succ, List.set_cons_zero, List.set_cons_succ, List.replicate, Nat.reduceSub, Nat.sub_self, Bool.not_true, Bool.not_false, Bool.true_and, Bool.and_true, Bool.false_and, Bool.and_false, Bool.or_false, Bool.false_or, Bool.true_or, Bool.or_true, decide_true, decide_false, if_true, if_false, Bool.false_eq_true, eq_self, Int.natCast_zero, Int.cast_ofNat_Int, not_true, not_false_eq_true, List.length_nil, rg_g hn, lo, Option.elim_some, Option.elim_none]
  | none => rw [hf] at lo; simp only [b_l_first_bad, f_l_first_bad, T_l_first_bad_0, is_l_first_bad, fd_l_first_bad, n_l_decimal, I_BadText_TableError, I_BadText_ValueError, I_BadText_BadPlace, I_BadText_BadLine, I_BadText_BadText, I_TableError_TableError, I_TableError_ValueError, I_TableError_BadPlace, I_TableError_BadLine, I_TableError_BadText, FL_BadText_word, FL_BadText_index, EV0, EV1, EV2, EV3, EV4, EV5, EV6, EV7, EV8, kilR, Option.map_some, List.getElem?_cons_zero, List.getElem?_cons_succ, List.set_cons_zero, List.set_cons_succ, List.replicate, Nat.reduceSub, Nat.sub_self, Bool.not_true, Bool.not_false, Bool.true_and, Bool.and_true, Bool.false_and, Bool.and_false, Bool.or_false, Bool.false_or, Bool.true_or, Bool.or_true, decide_true, decide_false, if_true, if_false, Bool.false_eq_true, eq_self, Int.natCast_zero, Int.cast_ofNat_Int, not_true, not_false_eq_true, List.length_nil, rg_g hn, lo, Option.elim_some, Option.elim_none]
theorem cm0 : (("," : Str).length == 0) = false := by decide
theorem cm_ne : ("," : Str).cps.toList ≠ [] := by decide
theorem cm_all : ("," : Str).cps.all (· < 256) = true := by decide +kernel
abbrev pc (a : List Nat) : List (List Nat) := pcs "," a
theorem first_bad_piece_spec (a : List Nat) (h : a.length ≤ 640) : f_first_bad_piece.m [sG a] = some (.ok (.dat ((fb (pc a)).elim .non fun k => .int (k : Nat)))) := by
  have sp := mt_splitD (a := a) (b := ",") cm0 (by unfold Sm; omega)
  have hp : ∀ p ∈ pc a, p.length ≤ 640 := fun p hp => Nat.le_trans (pcs_len cm_ne cm_all p hp) h
  have hn : Sm (pc a).length := by have := pcs_num (s := ",") (a := a); unfold Sm; show (pcs "," a).length ≤ _; omega
  change mtV .split (tx a) (.dat (.str ",")) = some (.fr (lO sG (pc a))) at sp
  generalize pc a = ps at *
  have lo : forL (stepL (.n 2) (runB c_first_bad_piece L_first_bad_piece_1)) (mL iN (List.range ps.length)) [some (.dat (sG a)), some (.own (lO sG ps)), none] = some ((fb ps).elim (.nx [some (.dat (sG a)), some (.own (lO sG ps)), none]) fun k => .rt (.dat (.int (k : Nat)))) :=
    for_find (f := iN) (step := stepL (.n 2) (runB c_first_bad_piece L_first_bad_piece_1)) (ρ := [some (.dat (sG a)), some (.own (lO sG ps)), none]) (badAt ps) (fun k => .rt (.dat (.int (k : Nat)))) (fun _ => rfl) fun k hk => by
      obtain ⟨g1, g2⟩ := getD_at hk
      have d := is_decimal_spec _ (hp _ g2)
      have hx : iN k = .int (k : Nat) := rfl
      unfold badAt
      generalize ps.getD k [] = p at *
      by_cases k3 : k = 3
      · have c3 : (k : Int) = 3 := by omega
        simp only [bt_first_bad_piece_2, bt_first_bad_piece_1, b_first_bad_piece, f_first_bad_piece, T_first_bad_piece_0, is_first_bad_piece, fd_first_bad_piece, n_is_decimal, I_BadText_TableError, I_BadText_ValueError, I_BadText_BadPlace, I_BadText_BadLine, I_BadText_BadText, I_TableError_TableError, I_TableError_ValueError, I_TableError_BadPlace, I_TableError_BadLine, I_TableError_BadText, FL_BadText_word, FL_BadText_index, EV0, EV1, EV2, EV3, EV4, EV5, EV6, EV7, EV8, kilR, Option.map_some, List.getElem?_cons_zero, List.getElem?_cons_succ, List.set_cons_zero, List.set_cons_succ, List.replicate, Nat.reduceSub, Nat.sub_self, Bool.not_true, Bool.not_false, Bool.true_and, Bool.and_true, Bool.false_and, Bool.and_false, Bool.or_false, Bool.false_or, Bool.true_or, Bool.or_true, decide_true, decide_false, if_true, if_false, Bool.false_eq_true, eq_self, Int.natCast_zero, Int.cast_ofNat_Int, not_true, not_false_eq_true, List.length_nil, L_first_bad_piece_1, hx, c3, k3]
        subst k3
        rfl
      · have c3 : ¬ (k : Int) = 3 := by omega
        cases hd : isDec p with
        | true => rw [hd] at d; simp only [bt_first_bad_piece_2, bt_first_bad_piece_1, b_first_bad_piece, f_first_bad_piece, T_first_bad_piece_0, is_first_bad_piece, fd_first_bad_piece, n_is_decimal, I_BadText_TableError, I_BadText_ValueError, I_BadText_BadPlace, I_BadText_BadLine, I_BadText_BadText, I_TableError_TableError, I_TableError_ValueError, I_TableError_BadPlace, I_TableError_BadLine, I_TableError_BadText, FL_BadText_word, FL_BadText_index, EV0, EV1, EV2, EV3, EV4, EV5, EV6, EV7, EV8, kilR, Option.map_some, List.getElem?_cons_zero, List.getElem?_cons_succ, List.set_cons_zero, List.set_cons_succ, List.replicate, Nat.reduceSub, Nat.sub_self, Bool.not_true, Bool.not_false, Bool.true_and, Bool.and_true, Bool.false_and, Bool.and_false, Bool.or_false, Bool.false_or, Bool.true_or, Bool.or_true, decide_true, decide_false, if_true, if_false, Bool.false_eq_true, eq_self, Int.natCast_zero, Int.cast_ofNat_Int, not_true, not_false_eq_true, List.length_nil, L_first_bad_piece_1, hx, c3, k3, ix_bn g1, d]
        | false => rw [hd] at d; simp only [bt_first_bad_piece_2, bt_first_bad_piece_1, b_first_bad_piece, f_first_bad_piece, T_first_bad_piece_0, is_first_bad_piece, fd_first_bad_piece, n_is_decimal, I_BadText_TableError, I_BadText_ValueError, I_BadText_BadPlace, I_BadText_BadLine, I_BadText_BadText, I_TableError_TableError, I_TableError_ValueError, I_TableError_BadPlace, I_TableError_BadLine, I_TableError_BadText, FL_BadText_word, FL_BadText_index, EV0, EV1, EV2, EV3, EV4, EV5, EV6, EV7, EV8, kilR, Option.map_some, List.getElem?_cons_zero, List.getElem?_cons_succ, List.set_cons_zero, List.set_cons_succ, List.replicate, Nat.reduceSub, Nat.sub_self, Bool.not_true, Bool.not_false, Bool.true_and, Bool.and_true, Bool.false_and, Bool.and_false, Bool.or_false, Bool.false_or, Bool.true_or, Bool.or_true, decide_true, decide_false, if_true, if_false, Bool.false_eq_true, eq_self, Int.natCast_zero, Int.cast_ofNat_Int, not_true, not_false_eq_true, List.length_nil, L_first_bad_piece_1, hx, c3, k3, ix_bn g1, d]
  cases hf : fb ps with
  | some k => rw [hf] at lo; simp only [bt_first_bad_piece_2, bt_first_bad_piece_1, b_first_bad_piece, f_first_bad_piece, T_first_bad_piece_0, is_first_bad_piece, fd_first_bad_piece, n_is_decimal, I_BadText_TableError, I_BadText_ValueError, I_BadText_BadPlace, I_BadText_BadLine, I_BadText_BadText, I_TableError_TableError, I_TableError_ValueError, I_TableError_BadPlace, I_TableError_BadLine, I_TableError_BadText, FL_BadText_word, FL_BadText_index, EV0, EV1, EV2, EV3, EV4, EV5, EV6, EV7, EV8, kilR, Option.map_some, List.getElem?_cons_zero, List.getElem?_cons_succ, List.set_cons_zero, List.set_cons_succ, List.replicate, Nat.reduceSub, Nat.sub_self, Bool.not_true, Bool.not_false, Bool.true_and, Bool.and_true, Bool.false_and, Bool.and_false, Bool.or_false, Bool.false_or, Bool.true_or, Bool.or_true, decide_true, decide_false, if_true, if_false, Bool.false_eq_true, eq_self, Int.natCast_zero, Int.cast_ofNat_Int, not_true, not_false_eq_true, List.length_nil, sp, rg_g hn, lo, Option.elim_some, Option.elim_none]
  | none => rw [hf] at lo; simp only [bt_first_bad_piece_2, bt_first_bad_piece_1, b_first_bad_piece, f_first_bad_piece, T_first_bad_piece_0, is_first_bad_piece, fd_first_bad_piece, n_is_decimal, I_BadText_TableError, I_BadText_ValueError, I_BadText_BadPlace, I_BadText_BadLine, I_BadText_BadText, I_TableError_TableError, I_TableError_ValueError, I_TableError_BadPlace, I_TableError_BadLine, I_TableError_BadText, FL_BadText_word, FL_BadText_index, EV0, EV1, EV2, EV3, EV4, EV5, EV6, EV7, EV8, kilR, Option.map_some, List.getElem?_cons_zero, List.getElem?_cons_succ, List.set_cons_zero, List.set_cons_succ, List.replicate, Nat.reduceSub, Nat.sub_self, Bool.not_true, Bool.not_false, Bool.true_and, Bool.and_true, Bool.false_and, Bool.and_false, Bool.or_false, Bool.false_or, Bool.true_or, Bool.or_true, decide_true, decide_false, if_true, if_false, Bool.false_eq_true, eq_self, Int.natCast_zero, Int.cast_ofNat_Int, not_true, not_false_eq_true, List.length_nil, sp, rg_g hn, lo, Option.elim_some, Option.elim_none]
def valOf (p : List Nat) : Int := (intText? (tx p)).getD 0
theorem val_bi {p : List Nat} (h : isDec p = true) (hl : p.length ≤ 640) : biV .int [.dat (sG p)] = some (.dat (.int (valOf p))) := by
  obtain ⟨n, e⟩ := dec_int h hl
  rw [bi_ints hl e]
  unfold valOf
  rw [e]
  rfl
theorem place_of_text_spec (a : List Nat) (h : a.length ≤ 640) (hf : fb (pc a) = none) : f_place_of_text.m [sG a] = some (.ok (.dat (pD ((pc a).map valOf)))) := by
  have sp := mt_splitD (a := a) (b := ",") cm0 (by unfold Sm; omega)
  have hp : ∀ p ∈ pc a, p.length ≤ 640 := fun p hp => Nat.le_trans (pcs_len cm_ne cm_all p hp) h
  change mtV .split (tx a) (.dat (.str ",")) = some (.fr (lO sG (pc a))) at sp
  generalize pc a = ps at *
  obtain ⟨n3, al⟩ := fb_none hf
  simp only [b_place_of_text, f_place_of_text, is_place_of_text, fd_place_of_text, I_BadText_TableError, I_BadText_ValueError, I_BadText_BadPlace, I_BadText_BadLine, I_BadText_BadText, I_TableError_TableError, I_TableError_ValueError, I_TableError_BadPlace, I_TableError_BadLine, I_TableError_BadText, FL_BadText_word, FL_BadText_index, EV0, EV1, EV2, EV3, EV4, EV5, EV6, EV7, EV8, kilR, Option.map_some, List.getElem?_cons_zero, List.getElem?_cons_succ, List.set_cons_zero, List.set_cons_succ, List.replicate, Nat.reduceSub, Nat.sub_self, Bool.not_true, Bool.not_false, Bool.true_and, Bool.and_true, Bool.false_and, Bool.and_false, Bool.or_false, Bool.false_or, Bool.true_or, Bool.or_true, decide_true, decide_false, if_true, if_false, Bool.false_eq_true, eq_self, Int.natCast_zero, Int.cast_ofNat_Int, not_true, not_false_eq_true, List.length_nil, sp]
  rw [lc_map (f := sG) (g := D.int) (k := valOf) (by unfold Sm; omega) fun x hx => by simp only [EV0, EV1, EV2, EV3, EV4, EV5, EV6, EV7, EV8, kilR, Option.map_some, List.getElem?_cons_zero, List.getElem?_cons_succ, List.set_cons_zero, List.set_cons_succ, List.replicate, Nat.reduceSub, Nat.sub_self, Bool.not_true, Bool.not_false, Bool.true_and, Bool.and_true, Bool.false_and, Bool.and_false, Bool.or_false, Bool.false_or, Bool.true_or, Bool.or_true, decide_true, decide_false, if_true, if_false, Bool.false_eq_true, eq_self, Int.natCast_zero, Int.cast_ofNat_Int, not_true, not_false_eq_true, List.length_nil, val_bi (al x hx) (hp x hx)]]
  simp only [EV0, EV1, EV2, EV3, EV4, EV5, EV6, EV7, EV8, kilR, Option.map_some, List.getElem?_cons_zero, List.getElem?_cons_succ, List.set_cons_zero, List.set_cons_succ, List.replicate, Nat.reduceSub, Nat.sub_self, Bool.not_true, Bool.not_false, Bool.true_and, Bool.and_true, Bool.false_and, Bool.and_false, Bool.or_false, Bool.false_or, Bool.true_or, Bool.or_true, decide_true, decide_false, if_true, if_false, Bool.false_eq_true, eq_self, Int.natCast_zero, Int.cast_ofNat_Int, not_true, not_false_eq_true, List.length_nil]
theorem read_place_ok (a : List Nat) (h : a.length ≤ 640) (hf : fb (pc a) = none) : f_read_place.m [sG a] = some (.ok (.dat (pD ((pc a).map valOf)))) := by
  have e1 := first_bad_piece_spec a h
  have e2 := place_of_text_spec a h hf
  rw [hf] at e1
  change _ = some (Except.ok (RV.dat D.non)) at e1
  simp only [bt_read_place_2, bt_read_place_1, b_read_place, f_read_place, T_read_place_0, T_read_place_1, M_read_place_BadText, is_read_place, fd_read_place, n_first_bad_piece, n_place_of_text, I_BadText_TableError, I_BadText_ValueError, I_BadText_BadPlace, I_BadText_BadLine, I_BadText_BadText, I_TableError_TableError, I_TableError_ValueError, I_TableError_BadPlace, I_TableError_BadLine, I_TableError_BadText, FL_BadText_word, FL_BadText_index, EV0, EV1, EV2, EV3, EV4, EV5, EV6, EV7, EV8, kilR, Option.map_some, List.getElem?_cons_zero, List.getElem?_cons_succ, List.set_cons_zero, List.set_cons_succ, List.replicate, Nat.reduceSub, Nat.sub_self, Bool.not_true, Bool.not_false, Bool.true_and, Bool.and_true, Bool.false_and, Bool.and_false, Bool.or_false, Bool.false_or, Bool.true_or, Bool.or_true, decide_true, decide_false, if_true, if_false, Bool.false_eq_true, eq_self, Int.natCast_zero, Int.cast_ofNat_Int, not_true, not_false_eq_true, List.length_nil, e1, e2]
theorem read_place_er (a : List Nat) (h : a.length ≤ 640) {k : Nat} (hf : fb (pc a) = some k) : f_read_place.m [sG a] = some (.error (eTxt (k : Nat))) := by
  have e1 := first_bad_piece_spec a h
  rw [hf] at e1
  change _ = some (Except.ok (RV.dat (D.int (k : Nat)))) at e1
  simp only [bt_read_place_2, bt_read_place_1, b_read_place, f_read_place, T_read_place_0, T_read_place_1, M_read_place_BadText, is_read_place, fd_read_place, n_first_bad_piece, n_place_of_text, I_BadText_TableError, I_BadText_ValueError, I_BadText_BadPlace, I_BadText_BadLine, I_BadText_BadText, I_TableError_TableError, I_TableError_ValueError, I_TableError_BadPlace, I_TableError_BadLine, I_TableError_BadText, FL_BadText_word, FL_BadText_index, EV0, EV1, EV2, EV3, EV4, EV5, EV6, EV7, EV8, kilR, Option.map_some, List.getElem?_cons_zero, List.getElem?_cons_succ, List.set_cons_zero, List.set_cons_succ, List.replicate, Nat.reduceSub, Nat.sub_self, Bool.not_true, Bool.not_false, Bool.true_and, Bool.and_true, Bool.false_and, Bool.and_false, Bool.or_false, Bool.false_or, Bool.true_or, Bool.or_true, decide_true, decide_false, if_true, if_false, Bool.false_eq_true, eq_self, Int.natCast_zero, Int.cast_ofNat_Int, not_true, not_false_eq_true, List.length_nil, e1]
theorem is_error_txt (n : Int) : h_l_is_error.m [xD (eTxt n), .str "BadText"] = some (.ok (.dat (.bl true))) := by
  simp only [b_l_is_error, h_l_is_error, is_h_l_is_error, fd_h_l_is_error, I_BadText_TableError, I_BadText_ValueError, I_BadText_BadPlace, I_BadText_BadLine, I_BadText_BadText, I_TableError_TableError, I_TableError_ValueError, I_TableError_BadPlace, I_TableError_BadLine, I_TableError_BadText, FL_BadText_word, FL_BadText_index, EV0, EV1, EV2, EV3, EV4, EV5, EV6, EV7, EV8, kilR, Option.map_some, List.getElem?_cons_zero, List.getElem?_cons_succ, List.set_cons_zero, List.set_cons_succ, List.replicate, Nat.reduceSub, Nat.sub_self, Bool.not_true, Bool.not_false, Bool.true_and, Bool.and_true, Bool.false_and, Bool.and_false, Bool.or_false, Bool.false_or, Bool.true_or, Bool.or_true, decide_true, decide_false, if_true, if_false, Bool.false_eq_true, eq_self, Int.natCast_zero, Int.cast_ofNat_Int, not_true, not_false_eq_true, List.length_nil]
theorem refused_spec (n : Int) : h_l_refused.m [xD (eTxt n), .int n] = some (.ok (.dat (.bl true))) := by
  have e : decide (n = n) = true := decide_eq_true rfl
  simp only [b_l_refused, h_l_refused, TH_l_refused_0, TH_l_refused_1, is_h_l_refused, fd_h_l_refused, nh_l_is_error, nh_l_is_integer, I_BadText_TableError, I_BadText_ValueError, I_BadText_BadPlace, I_BadText_BadLine, I_BadText_BadText, I_TableError_TableError, I_TableError_ValueError, I_TableError_BadPlace, I_TableError_BadLine, I_TableError_BadText, FL_BadText_word, FL_BadText_index, EV0, EV1, EV2, EV3, EV4, EV5, EV6, EV7, EV8, kilR, Option.map_some, List.getElem?_cons_zero, List.getElem?_cons_succ, List.set_cons_zero, List.set_cons_succ, List.replicate, Nat.reduceSub, Nat.sub_self, Bool.not_true, Bool.not_false, Bool.true_and, Bool.and_true, Bool.false_and, Bool.and_false, Bool.or_false, Bool.false_or, Bool.true_or, Bool.or_true, decide_true, decide_false, if_true, if_false, Bool.false_eq_true, eq_self, Int.natCast_zero, Int.cast_ofNat_Int, not_true, not_false_eq_true, List.length_nil, is_error_txt, is_integer_h, e]
theorem asked_spec (a : List Nat) (h : a.length ≤ 640) : f_l_asked.m [sG a] = some (.ok (.dat (.bl true))) := by
  have sp := mt_splitD (a := a) (b := ",") cm0 (by unfold Sm; omega)
  have hp : ∀ p ∈ pc a, p.length ≤ 640 := fun p hp => Nat.le_trans (pcs_len cm_ne cm_all p hp) h
  have hn : Sm (pc a).length := by have := pcs_num (s := ",") (a := a); unfold Sm; show (pcs "," a).length ≤ _; omega
  have h1 : 1 ≤ (pc a).length := by
    have := pcs_ne (a := a) cm_ne cm_all
    cases e : pc a with
    | nil => exact absurd e this
    | cons x y => rw [List.length_cons]; omega
  change mtV .split (tx a) (.dat (.str ",")) = some (.fr (lO sG (pc a))) at sp
  have fbs := lfirst_bad_spec (pc a) hp hn
  cases hf : fb (pc a) with
  | some k =>
    have rd := read_place_er a h hf
    rw [hf] at fbs
    change _ = some (Except.ok (RV.dat (D.int (k : Nat)))) at fbs
    have k0 : (0 : Int) ≤ (k : Nat) := Int.natCast_nonneg k
    simp only [bt_l_asked_6, bt_l_asked_4, bt_l_asked_2, b_l_asked, f_l_asked, T_l_asked_0, T_l_asked_1, T_l_asked_2, is_l_asked, fd_l_asked, TS_l_asked_0, n_l_first_bad, n_read_place, n_l_is_place, nh_l_refused, I_BadText_TableError, I_BadText_ValueError, I_BadText_BadPlace, I_BadText_BadLine, I_BadText_BadText, I_TableError_TableError, I_TableError_ValueError, I_TableError_BadPlace, I_TableError_BadLine, I_TableError_BadText, FL_BadText_word, FL_BadText_index, EV0, EV1, EV2, EV3, EV4, EV5, EV6, EV7, EV8, kilR, Option.map_some, List.getElem?_cons_zero, List.getElem?_cons_succ, List.set_cons_zero, List.set_cons_succ, List.replicate, Nat.reduceSub, Nat.sub_self, Bool.not_true, Bool.not_false, Bool.true_and, Bool.and_true, Bool.false_and, Bool.and_false, Bool.or_false, Bool.false_or, Bool.true_or, Bool.or_true, decide_true, decide_false, if_true, if_false, Bool.false_eq_true, eq_self, Int.natCast_zero, Int.cast_ofNat_Int, not_true, not_false_eq_true, List.length_nil, sp, fbs, rd, k0, refused_spec]
  | none =>
    have rd := read_place_ok a h hf
    rw [hf] at fbs
    change _ = some (Except.ok (RV.dat (D.int (-1)))) at fbs
    obtain ⟨n3, al⟩ := fb_none hf
    generalize pc a = ps at *
    have m1 : ((-1 : Int) < 0) := by decide
    have isp := is_place_spec (ps.map valOf) (by rw [List.length_map]; exact h1) (by rw [List.length_map]; exact n3)
    have e : decide (ps.map valOf = ps.map valOf) = true := decide_eq_true rfl
    simp only [bt_l_asked_6, bt_l_asked_4, bt_l_asked_2, b_l_asked, f_l_asked, T_l_asked_0, T_l_asked_1, T_l_asked_2, is_l_asked, fd_l_asked, TS_l_asked_0, n_l_first_bad, n_read_place, n_l_is_place, nh_l_refused, I_BadText_TableError, I_BadText_ValueError, I_BadText_BadPlace, I_BadText_BadLine, I_BadText_BadText, I_TableError_TableError, I_TableError_ValueError, I_TableError_BadPlace, I_TableError_BadLine, I_TableError_BadText, FL_BadText_word, FL_BadText_index, EV0, EV1, EV2, EV3, EV4, EV5, EV6, EV7, EV8, kilR, Option.map_some, List.getElem?_cons_zero, List.getElem?_cons_succ, List.set_cons_zero, List.set_cons_succ, List.replicate, Nat.reduceSub, Nat.sub_self, Bool.not_true, Bool.not_false, Bool.true_and, Bool.and_true, Bool.false_and, Bool.and_false, Bool.or_false, Bool.false_or, Bool.true_or, Bool.or_true, decide_true, decide_false, if_true, if_false, Bool.false_eq_true, eq_self, Int.natCast_zero, Int.cast_ofNat_Int, not_true, not_false_eq_true, List.length_nil, sp, fbs, rd, m1, isp]
    rw [lc_map (f := sG) (g := D.int) (k := valOf) (by unfold Sm; omega) fun x hx => by simp only [EV0, EV1, EV2, EV3, EV4, EV5, EV6, EV7, EV8, kilR, Option.map_some, List.getElem?_cons_zero, List.getElem?_cons_succ, List.set_cons_zero, List.set_cons_succ, List.replicate, Nat.reduceSub, Nat.sub_self, Bool.not_true, Bool.not_false, Bool.true_and, Bool.and_true, Bool.false_and, Bool.and_false, Bool.or_false, Bool.false_or, Bool.true_or, Bool.or_true, decide_true, decide_false, if_true, if_false, Bool.false_eq_true, eq_self, Int.natCast_zero, Int.cast_ofNat_Int, not_true, not_false_eq_true, List.length_nil, val_bi (al x hx) (hp x hx)]]
    simp only [EV0, EV1, EV2, EV3, EV4, EV5, EV6, EV7, EV8, kilR, Option.map_some, List.getElem?_cons_zero, List.getElem?_cons_succ, List.set_cons_zero, List.set_cons_succ, List.replicate, Nat.reduceSub, Nat.sub_self, Bool.not_true, Bool.not_false, Bool.true_and, Bool.and_true, Bool.false_and, Bool.and_false, Bool.or_false, Bool.false_or, Bool.true_or, Bool.or_true, decide_true, decide_false, if_true, if_false, Bool.false_eq_true, eq_self, Int.natCast_zero, Int.cast_ofNat_Int, not_true, not_false_eq_true, List.length_nil, e]
def oddA : List Str := ["", "0", "-0", "00", "7", "-12", "+1", " 1", "1 ", "a", "-", "--1", "1.0", "01", "-01", "9", "12a", "1-"]
def oddB : List Str := ["1_0", "7\n", "\t7", "1e3", "0x1", "1@0"]
theorem odd_len : ∀ z ∈ oddA ++ oddB, z.length ≤ 4 := by decide +kernel
theorem odd_spec (i : Int) (h0 : 0 ≤ i) (h : i < 24) : ∃ l, l.length ≤ 4 ∧ f_l_odd_piece.m [.int i] = some (.ok (.dat (sG l))) := by
  have hl : i.toNat < (oddA ++ oddB).length := by
    have : (oddA ++ oddB).length = 24 := rfl
    omega
  have e : (oddA ++ oddB)[i.toNat]? = some (oddA ++ oddB)[i.toNat] := List.getElem?_eq_getElem hl
  have hz := odd_len _ (List.getElem_mem hl)
  generalize (oddA ++ oddB)[i.toNat] = z at *
  refine ⟨z.cps.toList, by simpa [Str.length] using hz, ?_⟩
  have e2 : (.dat (sG z.cps.toList) : RV) = .dat (.str z) := by unfold sG; rw [tx_l]
  rw [e2]
  have ad : binV .add (.br (.l [D.str "", D.str "0", D.str "-0", D.str "00", D.str "7", D.str "-12", D.str "+1", D.str " 1", D.str "1 ", D.str "a", D.str "-", D.str "--1", D.str "1.0", D.str "01", D.str "-01", D.str "9", D.str "12a", D.str "1-"])) (.fr (.l [D.str "1_0", D.str "7\n", D.str "\t7", D.str "1e3", D.str "0x1", D.str "1@0"])) = some (.fr (lO D.str (oddA ++ oddB))) :=
    add_bf (f := D.str) (xs := oddA) (ys := oddB) (by unfold Sm; decide) (by unfold Sm; decide)
  have ix := ix_bi (f := D.str) h0 e
  simp only [bt_l_odd_piece_2, bt_l_odd_piece_1, b_l_odd_piece, f_l_odd_piece, is_l_odd_piece, fd_l_odd_piece, I_BadText_TableError, I_BadText_ValueError, I_BadText_BadPlace, I_BadText_BadLine, I_BadText_BadText, I_TableError_TableError, I_TableError_ValueError, I_TableError_BadPlace, I_TableError_BadLine, I_TableError_BadText, FL_BadText_word, FL_BadText_index, EV0, EV1, EV2, EV3, EV4, EV5, EV6, EV7, EV8, kilR, Option.map_some, List.getElem?_cons_zero, List.getElem?_cons_succ, List.set_cons_zero, List.set_cons_succ, List.replicate, Nat.reduceSub, Nat.sub_self, Bool.not_true, Bool.not_false, Bool.true_and, Bool.and_true, Bool.false_and, Bool.and_false, Bool.or_false, Bool.false_or, Bool.true_or, Bool.or_true, decide_true, decide_false, if_true, if_false, Bool.false_eq_true, eq_self, Int.natCast_zero, Int.cast_ofNat_Int, not_true, not_false_eq_true, List.length_nil, ad, ix]
theorem dig_len : ∀ i : Fin 10, (numS (i : Nat)).length = 1 := by decide +kernel
theorem num_len : ∀ i : Fin 2001, (numS ((i : Nat) - 1000)).length ≤ 5 := by decide +kernel
theorem dig1 {x : Int} (h0 : 0 ≤ x) (h : x < 10) : (numS x).length = 1 := by
  have := dig_len ⟨x.toNat, by omega⟩
  rw [show (((⟨x.toNat, by omega⟩ : Fin 10) : Nat) : Int) = x from by show ((x.toNat : Nat) : Int) = x; omega] at this
  exact this
theorem num5 {x : Int} (h0 : -1000 ≤ x) (h : x ≤ 1000) : (numS x).length ≤ 5 := by
  have := num_len ⟨(x + 1000).toNat, by omega⟩
  rw [show ((((⟨(x + 1000).toNat, by omega⟩ : Fin 2001) : Nat) : Int) - 1000) = x from by show (((x + 1000).toNat : Nat) : Int) - 1000 = x; omega] at this
  exact this
theorem piece_spec (c : Int) : ∃ l, l.length ≤ 32 ∧ f_l_piece.m [.int c] = some (.ok (.dat (sG l))) := by
  obtain ⟨xs, ed, hd⟩ := draws_spec c ([4, 24, 2, 30] ++ (List.range 30).map fun _ => (10 : Int)) (by decide) (by unfold Sm; decide)
  have r30 : rgU (some (.ok [.dat (.int 30)])) = some (.ok (mL iN (List.range 30))) := rg_g (n := 30) (by unfold Sm; decide)
  obtain ⟨x0, hx0, p0, q0⟩ := drawn_get hd 0 4 rfl
  obtain ⟨x1, hx1, p1, q1⟩ := drawn_get hd 1 24 rfl
  obtain ⟨x2, hx2, p2, q2⟩ := drawn_get hd 2 2 rfl
  obtain ⟨x3, hx3, p3, q3⟩ := drawn_get hd 3 30 rfl
  have gd : ∀ i : Nat, i < 30 → ∃ x, xs[4 + i]? = some x ∧ 0 ≤ x ∧ x < 10 := fun i hi => drawn_get hd (4 + i) 10 (by
    rw [List.getElem?_append_right (by show 4 ≤ 4 + i; omega), show 4 + i - ([4, 24, 2, 30] : List Int).length = i from by show 4 + i - 4 = i; omega, List.getElem?_map, List.getElem?_range hi]
    rfl)
  have i0 : ixW (.br (lO D.int xs)) (.dat (.int 0)) = some (.dat (.int x0)) := ix_bn (n := 0) hx0
  have i1 : ixW (.br (lO D.int xs)) (.dat (.int 1)) = some (.dat (.int x1)) := ix_bn (n := 1) hx1
  have i2 : ixW (.br (lO D.int xs)) (.dat (.int 2)) = some (.dat (.int x2)) := ix_bn (n := 2) hx2
  have i3 : ixW (.br (lO D.int xs)) (.dat (.int 3)) = some (.dat (.int x3)) := ix_bn (n := 3) hx3
  have ad := add_gg (f := D.int) (xs := [4, 24, 2, 30]) (ys := (List.range 30).map fun _ => (10 : Int)) (by unfold Sm; decide) (by unfold Sm; decide)
  obtain ⟨ol, o1, o2⟩ := odd_spec x1 p1 q1
  by_cases c0 : x0 = 0
  · refine ⟨ol, by omega, ?_⟩
    simp only [bt_l_piece_1, b_l_piece, f_l_piece, T_l_piece_0, T_l_piece_1, is_l_piece, fd_l_piece, n_l_draws, n_l_odd_piece, I_BadText_TableError, I_BadText_ValueError, I_BadText_BadPlace, I_BadText_BadLine, I_BadText_BadText, I_TableError_TableError, I_TableError_ValueError, I_TableError_BadPlace, I_TableError_BadLine, I_TableError_BadText, FL_BadText_word, FL_BadText_index, EV0, EV1, EV2, EV3, EV4, EV5, EV6, EV7, EV8, kilR, Option.map_some, List.getElem?_cons_zero, List.getElem?_cons_succ, List.set_cons_zero, List.set_cons_succ, List.replicate, Nat.reduceSub, Nat.sub_self, Bool.not_true, Bool.not_false, Bool.true_and, Bool.and_true, Bool.false_and, Bool.and_false, Bool.or_false, Bool.false_or, Bool.true_or, Bool.or_true, decide_true, decide_false, if_true, if_false, Bool.false_eq_true, eq_self, Int.natCast_zero, Int.cast_ofNat_Int, not_true, not_false_eq_true, List.length_nil, r30]
    rw [lc_map (f := iN) (g := D.int) (k := fun _ => 10) (by unfold Sm; decide) fun x hx => by simp only [EV0, EV1, EV2, EV3, EV4, EV5, EV6, EV7, EV8, kilR, Option.map_some, List.getElem?_cons_zero, List.getElem?_cons_succ, List.set_cons_zero, List.set_cons_succ, List.replicate, Nat.reduceSub, Nat.sub_self, Bool.not_true, Bool.not_false, Bool.true_and, Bool.and_true, Bool.false_and, Bool.and_false, Bool.or_false, Bool.false_or, Bool.true_or, Bool.or_true, decide_true, decide_false, if_true, if_false, Bool.false_eq_true, eq_self, Int.natCast_zero, Int.cast_ofNat_Int, not_true, not_false_eq_true, List.length_nil]]
    simp only [bt_l_piece_1, b_l_piece, f_l_piece, T_l_piece_0, T_l_piece_1, is_l_piece, fd_l_piece, n_l_draws, n_l_odd_piece, I_BadText_TableError, I_BadText_ValueError, I_BadText_BadPlace, I_BadText_BadLine, I_BadText_BadText, I_TableError_TableError, I_TableError_ValueError, I_TableError_BadPlace, I_TableError_BadLine, I_TableError_BadText, FL_BadText_word, FL_BadText_index, EV0, EV1, EV2, EV3, EV4, EV5, EV6, EV7, EV8, kilR, Option.map_some, List.getElem?_cons_zero, List.getElem?_cons_succ, List.set_cons_zero, List.set_cons_succ, List.replicate, Nat.reduceSub, Nat.sub_self, Bool.not_true, Bool.not_false, Bool.true_and, Bool.and_true, Bool.false_and, Bool.and_false, Bool.or_false, Bool.false_or, Bool.true_or, Bool.or_true, decide_true, decide_false, if_true, if_false, Bool.false_eq_true, eq_self, Int.natCast_zero, Int.cast_ofNat_Int, not_true, not_false_eq_true, List.length_nil, ad, ed, i0, i1, c0, o2]
  · obtain ⟨n, rfl⟩ : ∃ n : Nat, x3 = (n : Nat) := ⟨x3.toNat, by omega⟩
    have rn : rgU (some (.ok [.dat (.int (1 + (n : Nat)))])) = some (.ok (mL iN (List.range (1 + n)))) := by
      rw [show (1 : Int) + (n : Nat) = ((1 + n : Nat) : Int) from by omega]
      exact rg_g (by unfold Sm; omega)
    have lc : ∀ T : D → Ans (Option D), (∀ i ∈ List.range (1 + n), T (iN i) = some (.ok (some (sG (numS (xs.getD (4 + i) 0)))))) → lcU (some (.ok (mL iN (List.range (1 + n))))) T = some (.ok (.fr (lO sG ((List.range (1 + n)).map fun i => numS (xs.getD (4 + i) 0))))) := fun T h =>
      lc_map (f := iN) (g := sG) (k := fun i => numS (xs.getD (4 + i) 0)) (by unfold Sm; rw [List.length_range]; omega) h
    have bd : ∀ i : Nat, i < 30 → 0 ≤ xs.getD (4 + i) 0 ∧ xs.getD (4 + i) 0 < 10 ∧ xs[4 + i]? = some (xs.getD (4 + i) 0) := fun i hi => by
      obtain ⟨y, e, u, v⟩ := gd i hi
      rw [List.getD_eq_getElem?_getD, e]
      exact ⟨u, v, rfl⟩
    have sm : (((List.range (1 + n)).map fun i => numS (xs.getD (4 + i) 0)).map (·.length)).sum ≤ 30 := by
      rw [List.map_map]
      have := sum_map_le (n := 1) (l := List.range (1 + n)) (g := (fun l : List Nat => l.length) ∘ fun i => numS (xs.getD (4 + i) 0)) fun i hi => by
        obtain ⟨u, v, _⟩ := bd i (by have := List.mem_range.mp hi; omega)
        exact Nat.le_of_eq (dig1 u v)
      rw [List.length_range] at this
      have q : (1 + n) * 1 ≤ 30 := by omega
      exact Nat.le_trans this q
    have e0 : ("" : Str).length = 0 := by decide
    have jo := mt_joinD (s := "") (ls := (List.range (1 + n)).map fun i => numS (xs.getD (4 + i) 0)) (by rw [e0]; omega)
    have jl := jn_len "" ((List.range (1 + n)).map fun i => numS (xs.getD (4 + i) 0))
    rw [e0] at jl
    have lc' := lc (turnL (.n 1) (evIf c_l_piece .no) (evE c_l_piece (.bi .str (.cons (.ix (.var 2) (.bin .add (.int 4) (.var 1))) .nil))) [some (.dat (.int c)), none, some (.own (lO D.int xs)), none]) (fun i hi => by
      obtain ⟨u, v, g⟩ := bd i (by have := List.mem_range.mp hi; omega)
      have hx : iN i = .int (i : Nat) := rfl
      have ix : ixW (.br (lO D.int xs)) (.dat (.int (4 + (i : Nat)))) = some (.dat (.int (xs.getD (4 + i) 0))) := ix_bi (by omega) (by rw [show ((4 : Int) + (i : Nat)).toNat = 4 + i from by omega]; exact g)
      have bs := bi_str (i := xs.getD (4 + i) 0) (small_of (by omega) (by omega))
      simp only [EV0, EV1, EV2, EV3, EV4, EV5, EV6, EV7, EV8, kilR, Option.map_some, List.getElem?_cons_zero, List.getElem?_cons_succ, List.set_cons_zero, List.set_cons_succ, List.replicate, Nat.reduceSub, Nat.sub_self, Bool.not_true, Bool.not_false, Bool.true_and, Bool.and_true, Bool.false_and, Bool.and_false, Bool.or_false, Bool.false_or, Bool.true_or, Bool.or_true, decide_true, decide_false, if_true, if_false, Bool.false_eq_true, eq_self, Int.natCast_zero, Int.cast_ofNat_Int, not_true, not_false_eq_true, List.length_nil, hx, ix, bs])
    generalize (List.range (1 + n)).map (fun i => numS (xs.getD (4 + i) 0)) = ls at *
    have jb : (jn "" ls).length ≤ 30 := by omega
    have za := add_zs (l := jn "" ls) (z := "-") (by unfold Sm; have : ("-" : Str).length = 1 := by decide
                                                     omega)
    by_cases c2 : x2 = 1
    · refine ⟨("-" : Str).cps.toList ++ jn "" ls, by rw [z2, List.length_append]; simp; omega, ?_⟩
      simp only [bt_l_piece_1, b_l_piece, f_l_piece, T_l_piece_0, T_l_piece_1, is_l_piece, fd_l_piece, n_l_draws, n_l_odd_piece, I_BadText_TableError, I_BadText_ValueError, I_BadText_BadPlace, I_BadText_BadLine, I_BadText_BadText, I_TableError_TableError, I_TableError_ValueError, I_TableError_BadPlace, I_TableError_BadLine, I_TableError_BadText, FL_BadText_word, FL_BadText_index, EV0, EV1, EV2, EV3, EV4, EV5, EV6, EV7, EV8, kilR, Option.map_some, List.getElem?_cons_zero, List.getElem?_cons_succ, List.set_cons_zero, List.set_cons_succ, List.replicate, Nat.reduceSub, Nat.sub_self, Bool.not_true, Bool.not_false, Bool.true_and, Bool.and_true, Bool.false_and, Bool.and_false, Bool.or_false, Bool.false_or, Bool.true_or, Bool.or_true, decide_true, decide_false, if_true, if_false, Bool.false_eq_true, eq_self, Int.natCast_zero, Int.cast_ofNat_Int, not_true, not_false_eq_true, List.length_nil, r30]
      rw [lc_map (f := iN) (g := D.int) (k := fun _ => 10) (by unfold Sm; decide) fun x hx => by simp only [EV0, EV1, EV2, EV3, EV4, EV5, EV6, EV7, EV8, kilR, Option.map_some, List.getElem?_cons_zero, List.getElem?_cons_succ, List.set_cons_zero, List.set_cons_succ, List.replicate, Nat.reduceSub, Nat.sub_self, Bool.not_true, Bool.not_false, Bool.true_and, Bool.and_true, Bool.false_and, Bool.and_false, Bool.or_false, Bool.false_or, Bool.true_or, Bool.or_true, decide_true, decide_false, if_true, if_false, Bool.false_eq_true, eq_self, Int.natCast_zero, Int.cast_ofNat_Int, not_true, not_false_eq_true, List.length_nil]]
      simp only [bt_l_piece_4, bt_l_piece_3, bt_l_piece_2, bt_l_piece_1, b_l_piece, f_l_piece, T_l_piece_0, T_l_piece_1, is_l_piece, fd_l_piece, n_l_draws, n_l_odd_piece, I_BadText_TableError, I_BadText_ValueError, I_BadText_BadPlace, I_BadText_BadLine, I_BadText_BadText, I_TableError_TableError, I_TableError_ValueError, I_TableError_BadPlace, I_TableError_BadLine, I_TableError_BadText, FL_BadText_word, FL_BadText_index, EV0, EV1, EV2, EV3, EV4, EV5, EV6, EV7, EV8, kilR, Option.map_some, List.getElem?_cons_zero, List.getElem?_cons_succ, List.set_cons_zero, List.set_cons_succ, List.replicate, Nat.reduceSub, Nat.sub_self, Bool.not_true, Bool.not_false, Bool.true_and, Bool.and_true, Bool.false_and, Bool.and_false, Bool.or_false, Bool.false_or, Bool.true_or, Bool.or_true, decide_true, decide_false, if_true, if_false, Bool.false_eq_true, eq_self, Int.natCast_zero, Int.cast_ofNat_Int, not_true, not_false_eq_true, List.length_nil, ad, ed, i0, i1, i2, i3, c0, c2, rn, lc', jo, za]
    · refine ⟨jn "" ls, by omega, ?_⟩
      simp only [bt_l_piece_1, b_l_piece, f_l_piece, T_l_piece_0, T_l_piece_1, is_l_piece, fd_l_piece, n_l_draws, n_l_odd_piece, I_BadText_TableError, I_BadText_ValueError, I_BadText_BadPlace, I_BadText_BadLine, I_BadText_BadText, I_TableError_TableError, I_TableError_ValueError, I_TableError_BadPlace, I_TableError_BadLine, I_TableError_BadText, FL_BadText_word, FL_BadText_index, EV0, EV1, EV2, EV3, EV4, EV5, EV6, EV7, EV8, kilR, Option.map_some, List.getElem?_cons_zero, List.getElem?_cons_succ, List.set_cons_zero, List.set_cons_succ, List.replicate, Nat.reduceSub, Nat.sub_self, Bool.not_true, Bool.not_false, Bool.true_and, Bool.and_true, Bool.false_and, Bool.and_false, Bool.or_false, Bool.false_or, Bool.true_or, Bool.or_true, decide_true, decide_false, if_true, if_false, Bool.false_eq_true, eq_self, Int.natCast_zero, Int.cast_ofNat_Int, not_true, not_false_eq_true, List.length_nil, r30]
      rw [lc_map (f := iN) (g := D.int) (k := fun _ => 10) (by unfold Sm; decide) fun x hx => by simp only [EV0, EV1, EV2, EV3, EV4, EV5, EV6, EV7, EV8, kilR, Option.map_some, List.getElem?_cons_zero, List.getElem?_cons_succ, List.set_cons_zero, List.set_cons_succ, List.replicate, Nat.reduceSub, Nat.sub_self, Bool.not_true, Bool.not_false, Bool.true_and, Bool.and_true, Bool.false_and, Bool.and_false, Bool.or_false, Bool.false_or, Bool.true_or, Bool.or_true, decide_true, decide_false, if_true, if_false, Bool.false_eq_true, eq_self, Int.natCast_zero, Int.cast_ofNat_Int, not_true, not_false_eq_true, List.length_nil]]
      simp only [bt_l_piece_4, bt_l_piece_3, bt_l_piece_2, bt_l_piece_1, b_l_piece, f_l_piece, T_l_piece_0, T_l_piece_1, is_l_piece, fd_l_piece, n_l_draws, n_l_odd_piece, I_BadText_TableError, I_BadText_ValueError, I_BadText_BadPlace, I_BadText_BadLine, I_BadText_BadText, I_TableError_TableError, I_TableError_ValueError, I_TableError_BadPlace, I_TableError_BadLine, I_TableError_BadText, FL_BadText_word, FL_BadText_index, EV0, EV1, EV2, EV3, EV4, EV5, EV6, EV7, EV8, kilR, Option.map_some, List.getElem?_cons_zero, List.getElem?_cons_succ, List.set_cons_zero, List.set_cons_succ, List.replicate, Nat.reduceSub, Nat.sub_self, Bool.not_true, Bool.not_false, Bool.true_and, Bool.and_true, Bool.false_and, Bool.and_false, Bool.or_false, Bool.false_or, Bool.true_or, Bool.or_true, decide_true, decide_false, if_true, if_false, Bool.false_eq_true, eq_self, Int.natCast_zero, Int.cast_ofNat_Int, not_true, not_false_eq_true, List.length_nil, ad, ed, i0, i1, i2, i3, c0, c2, rn, lc', jo]
theorem lplace_spec (c : Int) : ∃ p : Pl, p.length ≤ 3 ∧ (∀ x ∈ p, -1000 ≤ x ∧ x ≤ 1000) ∧ f_l_place.m [.int c] = some (.ok (.dat (pD p))) := by
  obtain ⟨xs, ed, dr⟩ := draws_spec c [3, 2, 19, 19, 19, 2001, 2001, 2001] (by decide) (by unfold Sm; decide)
  obtain ⟨d0, r, rfl, p0, q0, dr⟩ := drawn_cons dr
  obtain ⟨d1, r, rfl, p1, q1, dr⟩ := drawn_cons dr
  obtain ⟨d2, r, rfl, p2, q2, dr⟩ := drawn_cons dr
  obtain ⟨d3, r, rfl, p3, q3, dr⟩ := drawn_cons dr
  obtain ⟨d4, r, rfl, p4, q4, dr⟩ := drawn_cons dr
  obtain ⟨d5, r, rfl, p5, q5, dr⟩ := drawn_cons dr
  obtain ⟨d6, r, rfl, p6, q6, dr⟩ := drawn_cons dr
  obtain ⟨d7, r, rfl, p7, q7, dr⟩ := drawn_cons dr
  cases drawn_nil dr
  obtain ⟨n, rfl⟩ : ∃ n : Nat, d0 = (n : Nat) := ⟨d0.toNat, by omega⟩
  have ct : ∀ p : Pl, cutG p none (some (1 + (n : Nat))) = p.take (1 + n) := fun p => by
    rw [show (1 : Int) + (n : Nat) = ((1 + n : Nat) : Int) from by omega]
    exact cut_hi p (1 + n)
  by_cases h : d1 = 1
  · refine ⟨([d5 - 1000, d6 - 1000, d7 - 1000] : Pl).take (1 + n), by rw [List.length_take]; omega, fun x hx => ?_, ?_⟩
    · have := List.mem_of_mem_take hx
      simp at this
      omega
    · simp only [bt_l_place_3, bt_l_place_2, bt_l_place_1, b_l_place, f_l_place, T_l_place_0, is_l_place, fd_l_place, n_l_draws, I_BadText_TableError, I_BadText_ValueError, I_BadText_BadPlace, I_BadText_BadLine, I_BadText_BadText, I_TableError_TableError, I_TableError_ValueError, I_TableError_BadPlace, I_TableError_BadLine, I_TableError_BadText, FL_BadText_word, FL_BadText_index, EV0, EV1, EV2, EV3, EV4, EV5, EV6, EV7, EV8, kilR, Option.map_some, List.getElem?_cons_zero, List.getElem?_cons_succ, List.set_cons_zero, List.set_cons_succ, List.replicate, Nat.reduceSub, Nat.sub_self, Bool.not_true, Bool.not_false, Bool.true_and, Bool.and_true, Bool.false_and, Bool.and_false, Bool.or_false, Bool.false_or, Bool.true_or, Bool.or_true, decide_true, decide_false, if_true, if_false, Bool.false_eq_true, eq_self, Int.natCast_zero, Int.cast_ofNat_Int, not_true, not_false_eq_true, List.length_nil, ed, h, ct]
  · refine ⟨([d2 - 9, d3 - 9, d4 - 9] : Pl).take (1 + n), by rw [List.length_take]; omega, fun x hx => ?_, ?_⟩
    · have := List.mem_of_mem_take hx
      simp at this
      omega
    · simp only [bt_l_place_3, bt_l_place_2, bt_l_place_1, b_l_place, f_l_place, T_l_place_0, is_l_place, fd_l_place, n_l_draws, I_BadText_TableError, I_BadText_ValueError, I_BadText_BadPlace, I_BadText_BadLine, I_BadText_BadText, I_TableError_TableError, I_TableError_ValueError, I_TableError_BadPlace, I_TableError_BadLine, I_TableError_BadText, FL_BadText_word, FL_BadText_index, EV0, EV1, EV2, EV3, EV4, EV5, EV6, EV7, EV8, kilR, Option.map_some, List.getElem?_cons_zero, List.getElem?_cons_succ, List.set_cons_zero, List.set_cons_succ, List.replicate, Nat.reduceSub, Nat.sub_self, Bool.not_true, Bool.not_false, Bool.true_and, Bool.and_true, Bool.false_and, Bool.and_false, Bool.or_false, Bool.false_or, Bool.true_or, Bool.or_true, decide_true, decide_false, if_true, if_false, Bool.false_eq_true, eq_self, Int.natCast_zero, Int.cast_ofNat_Int, not_true, not_false_eq_true, List.length_nil, ed, h, ct]
theorem write_place_spec (p : Pl) (h3 : p.length ≤ 3) (hb : ∀ x ∈ p, -1000 ≤ x ∧ x ≤ 1000) : f_write_place.m [pD p] = some (.ok (.dat (sG (jn "," (p.map numS))))) := by
  have sm : ((p.map numS).map (·.length)).sum ≤ 15 := by
    rw [List.map_map]
    have := sum_map_le (n := 5) (l := p) (g := (fun l : List Nat => l.length) ∘ numS) fun x hx => num5 (hb x hx).1 (hb x hx).2
    omega
  have e1 : ("," : Str).length = 1 := by decide
  have jo := mt_joinD (s := ",") (ls := p.map numS) (by rw [e1, List.length_map]; omega)
  simp only [b_write_place, f_write_place, is_write_place, fd_write_place, I_BadText_TableError, I_BadText_ValueError, I_BadText_BadPlace, I_BadText_BadLine, I_BadText_BadText, I_TableError_TableError, I_TableError_ValueError, I_TableError_BadPlace, I_TableError_BadLine, I_TableError_BadText, FL_BadText_word, FL_BadText_index, EV0, EV1, EV2, EV3, EV4, EV5, EV6, EV7, EV8, kilR, Option.map_some, List.getElem?_cons_zero, List.getElem?_cons_succ, List.set_cons_zero, List.set_cons_succ, List.replicate, Nat.reduceSub, Nat.sub_self, Bool.not_true, Bool.not_false, Bool.true_and, Bool.and_true, Bool.false_and, Bool.and_false, Bool.or_false, Bool.false_or, Bool.true_or, Bool.or_true, decide_true, decide_false, if_true, if_false, Bool.false_eq_true, eq_self, Int.natCast_zero, Int.cast_ofNat_Int, not_true, not_false_eq_true, List.length_nil]
  rw [lc_map (f := D.int) (g := sG) (k := numS) (by unfold Sm; omega) fun x hx => by
    have bs := bi_str (i := x) (small_of (by have := hb x hx; omega) (by have := hb x hx; omega))
    simp only [EV0, EV1, EV2, EV3, EV4, EV5, EV6, EV7, EV8, kilR, Option.map_some, List.getElem?_cons_zero, List.getElem?_cons_succ, List.set_cons_zero, List.set_cons_succ, List.replicate, Nat.reduceSub, Nat.sub_self, Bool.not_true, Bool.not_false, Bool.true_and, Bool.and_true, Bool.false_and, Bool.and_false, Bool.or_false, Bool.false_or, Bool.true_or, Bool.or_true, decide_true, decide_false, if_true, if_false, Bool.false_eq_true, eq_self, Int.natCast_zero, Int.cast_ofNat_Int, not_true, not_false_eq_true, List.length_nil, bs]]
  simp only [EV0, EV1, EV2, EV3, EV4, EV5, EV6, EV7, EV8, kilR, Option.map_some, List.getElem?_cons_zero, List.getElem?_cons_succ, List.set_cons_zero, List.set_cons_succ, List.replicate, Nat.reduceSub, Nat.sub_self, Bool.not_true, Bool.not_false, Bool.true_and, Bool.and_true, Bool.false_and, Bool.and_false, Bool.or_false, Bool.false_or, Bool.true_or, Bool.or_true, decide_true, decide_false, if_true, if_false, Bool.false_eq_true, eq_self, Int.natCast_zero, Int.cast_ofNat_Int, not_true, not_false_eq_true, List.length_nil, jo]
theorem jn_cm (ls : List (List Nat)) (n m : Nat) (h : ∀ l ∈ ls, l.length ≤ n) (hm : ls.length ≤ m) : (jn "," ls).length ≤ m * n + m ∧ (ls.map (·.length)).sum + ls.length * ("," : Str).length ≤ m * n + m := by
  have e1 : ("," : Str).length = 1 := by decide
  have a := jn_len "," ls
  have b := sum_map_le (n := n) (l := ls) (g := fun l : List Nat => l.length) h
  have c : ls.length * n ≤ m * n := Nat.mul_le_mul_right n hm
  rw [e1] at a ⊢
  omega
theorem y1 : (",0" : Str).cps.toList = [44, 48] := by decide
theorem y2 : ("\n" : Str).cps.toList = [10] := by decide
theorem y3 : (" " : Str).cps.toList = [32] := by decide
theorem k1 : ("," : Str).length = 1 := by decide
theorem k2 : (",0" : Str).length = 2 := by decide
theorem k3 : ("\n" : Str).length = 1 := by decide
theorem k4 : (" " : Str).length = 1 := by decide
def texts (t w o : List Nat) : List (List Nat) := [t, w, o, (o ++ [44]) ++ w, (w ++ [44]) ++ o, w ++ [44, 48], w ++ [44]]
def more (w : List Nat) : List (List Nat) := [w ++ [10], [32] ++ w, w ++ [32]]
theorem law_tail (ns : List Int) (t w o : List Nat) (p : Pl) (n d : Int) (ht : t.length ≤ 200) (hw : w.length ≤ 20) (ho : o.length ≤ 4) (wp : f_write_place.m [pD p] = some (.ok (.dat (sG w)))) :
    runB c_law bt_law_9 [some (.dat (lD D.int ns)), some (.own (lO D.int [n, d])), none, some (.dat (sG t)), some (.dat (sG o)), some (.dat (pD p)), none, some (.dat (sG w)), none, none, none, none] = some (.rt (.dat (.bl true))) := by
  have a1 := add_sz (l := o) (z := ",") (by rw [k1]; unfold Sm; omega)
  have a2 := add_sG (l := o ++ [44]) (m := w) (by unfold Sm; rw [List.length_append, List.length_singleton]; omega)
  have a3 := add_sz (l := w) (z := ",") (by rw [k1]; unfold Sm; omega)
  have a4 := add_sG (l := w ++ [44]) (m := o) (by unfold Sm; rw [List.length_append, List.length_singleton]; omega)
  have a5 := add_sz (l := w) (z := ",0") (by rw [k2]; unfold Sm; omega)
  have a6 := add_sz (l := w) (z := "\n") (by rw [k3]; unfold Sm; omega)
  have a7 := add_zs (l := w) (z := " ") (by rw [k4]; unfold Sm; omega)
  have a8 := add_sz (l := w) (z := " ") (by rw [k4]; unfold Sm; omega)
  rw [z3] at a1 a3
  rw [y1] at a5
  rw [y2] at a6
  rw [y3] at a7 a8
  have hT : ∀ x ∈ texts t w o ++ more w, x.length ≤ 640 := fun x hx => by
    unfold texts more at hx
    simp only [List.cons_append, List.nil_append, List.mem_cons, List.not_mem_nil, or_false] at hx
    rcases hx with rfl | rfl | rfl | rfl | rfl | rfl | rfl | rfl | rfl | rfl <;> first | omega | (simp only [List.length_append, List.length_cons, List.length_nil]; omega)
  have ad : binV .add (.br (.l [sG t, sG w, sG o, sG (o ++ [44] ++ w), sG (w ++ [44] ++ o), sG (w ++ [44, 48]), sG (w ++ [44])])) (.fr (.l [sG (w ++ [10]), sG ([32] ++ w), sG (w ++ [32])])) = some (.fr (lO sG (texts t w o ++ more w))) :=
    add_bf (f := sG) (xs := texts t w o) (ys := more w) (by unfold Sm; show 7 ≤ 5000000; decide) (by unfold Sm; show 3 ≤ 5000000; decide)
  generalize texts t w o ++ more w = TS at *
  have r2 : rgU (some (.ok [.dat (.int 2)])) = some (.ok (mL iN (List.range 2))) := rg_g (n := 2) (by unfold Sm; decide)
  have cj : ((Tg.n 11).slots ++ tchB L_law_1).contains 8 = false := by decide
  have ew : decide (w = w) = true := decide_eq_true rfl
  have outer : forL (stepL (.n 9) (runB c_law L_law_2)) (mL iN (List.range 2)) [some (.dat (lD D.int ns)), some (.own (lO D.int [n, d])), none, some (.dat (sG t)), some (.dat (sG o)), some (.dat (pD p)), none, some (.dat (sG w)), some (.own (lO sG TS)), none, none, none] = some (.nx [some (.dat (lD D.int ns)), some (.own (lO D.int [n, d])), none, some (.dat (sG t)), some (.dat (sG o)), some (.dat (pD p)), none, some (.dat (sG w)), some (.own (lO sG TS)), none, none, none]) :=
    for_look fun k hk => by
      have hx : iN k = .int (k : Nat) := rfl
      have inner : forL (stepL (.n 11) (runB c_law L_law_1)) (mL sG TS) [some (.dat (lD D.int ns)), some (.own (lO D.int [n, d])), none, some (.dat (sG t)), some (.dat (sG o)), some (.dat (pD p)), none, some (.dat (sG w)), some (.own (lO sG TS)), some (.dat (.int (k : Nat))), some (.dat (sG w)), none] = some (.nx [some (.dat (lD D.int ns)), some (.own (lO D.int [n, d])), none, some (.dat (sG t)), some (.dat (sG o)), some (.dat (pD p)), none, some (.dat (sG w)), some (.own (lO sG TS)), some (.dat (.int (k : Nat))), some (.dat (sG w)), none]) :=
        for_look fun x hx => by
          have a := asked_spec x (hT x hx)
          simp only [L_law_1, bt_law_12, b_law, f_law, T_law_0, T_law_1, T_law_2, T_law_3, T_law_4, T_law_5, T_law_6, is_law, fd_law, n_l_draws, n_l_cell, n_l_piece, n_l_odd_piece, n_l_place, n_write_place, n_l_asked, I_BadText_TableError, I_BadText_ValueError, I_BadText_BadPlace, I_BadText_BadLine, I_BadText_BadText, I_TableError_TableError, I_TableError_ValueError, I_TableError_BadPlace, I_TableError_BadLine, I_TableError_BadText, FL_BadText_word, FL_BadText_index, EV0, EV1, EV2, EV3, EV4, EV5, EV6, EV7, EV8, kilR, Option.map_some, List.getElem?_cons_zero, List.getElem?_cons_succ, List.set_cons_zero, List.set_cons_succ, List.replicate, Nat.reduceSub, Nat.sub_self, Bool.not_true, Bool.not_false, Bool.true_and, Bool.and_true, Bool.false_and, Bool.and_false, Bool.or_false, Bool.false_or, Bool.true_or, Bool.or_true, decide_true, decide_false, if_true, if_false, Bool.false_eq_true, eq_self, Int.natCast_zero, Int.cast_ofNat_Int, not_true, not_false_eq_true, List.length_nil, a]
      simp only [L_law_2, bt_law_12, b_law, f_law, T_law_0, T_law_1, T_law_2, T_law_3, T_law_4, T_law_5, T_law_6, is_law, fd_law, n_l_draws, n_l_cell, n_l_piece, n_l_odd_piece, n_l_place, n_write_place, n_l_asked, I_BadText_TableError, I_BadText_ValueError, I_BadText_BadPlace, I_BadText_BadLine, I_BadText_BadText, I_TableError_TableError, I_TableError_ValueError, I_TableError_BadPlace, I_TableError_BadLine, I_TableError_BadText, FL_BadText_word, FL_BadText_index, EV0, EV1, EV2, EV3, EV4, EV5, EV6, EV7, EV8, kilR, Option.map_some, List.getElem?_cons_zero, List.getElem?_cons_succ, List.set_cons_zero, List.set_cons_succ, List.replicate, Nat.reduceSub, Nat.sub_self, Bool.not_true, Bool.not_false, Bool.true_and, Bool.and_true, Bool.false_and, Bool.and_false, Bool.or_false, Bool.false_or, Bool.true_or, Bool.or_true, decide_true, decide_false, if_true, if_false, Bool.false_eq_true, eq_self, Int.natCast_zero, Int.cast_ofNat_Int, not_true, not_false_eq_true, List.length_nil, hx, wp, ew, cj, efV_o, inner]
  simp only [bt_law_12, bt_law_11, bt_law_10, bt_law_9, b_law, f_law, T_law_0, T_law_1, T_law_2, T_law_3, T_law_4, T_law_5, T_law_6, is_law, fd_law, n_l_draws, n_l_cell, n_l_piece, n_l_odd_piece, n_l_place, n_write_place, n_l_asked, I_BadText_TableError, I_BadText_ValueError, I_BadText_BadPlace, I_BadText_BadLine, I_BadText_BadText, I_TableError_TableError, I_TableError_ValueError, I_TableError_BadPlace, I_TableError_BadLine, I_TableError_BadText, FL_BadText_word, FL_BadText_index, EV0, EV1, EV2, EV3, EV4, EV5, EV6, EV7, EV8, kilR, Option.map_some, List.getElem?_cons_zero, List.getElem?_cons_succ, List.set_cons_zero, List.set_cons_succ, List.replicate, Nat.reduceSub, Nat.sub_self, Bool.not_true, Bool.not_false, Bool.true_and, Bool.and_true, Bool.false_and, Bool.and_false, Bool.or_false, Bool.false_or, Bool.true_or, Bool.or_true, decide_true, decide_false, if_true, if_false, Bool.false_eq_true, eq_self, Int.natCast_zero, Int.cast_ofNat_Int, not_true, not_false_eq_true, List.length_nil, a1, a2, a3, a4, a5, a6, a7, a8, ad, r2, outer]
theorem plain (ns : List Int) : f_law.m [lD D.int ns] = some (.ok (.dat (.bl true))) := by
  obtain ⟨c0, e0⟩ := cell_spec ns 0
  obtain ⟨c1, e1⟩ := cell_spec ns 1
  have e0 : f_l_cell.m [lD D.int ns, .int 0] = some (.ok (.dat (.int c0))) := e0
  have e1 : f_l_cell.m [lD D.int ns, .int 1] = some (.ok (.dat (.int c1))) := e1
  obtain ⟨xs, ed, dr⟩ := draws_spec c0 [5, 24] (by decide) (by unfold Sm; decide)
  obtain ⟨d0, r, rfl, p0, q0, dr⟩ := drawn_cons dr
  obtain ⟨d1, r, rfl, p1, q1, dr⟩ := drawn_cons dr
  cases drawn_nil dr
  obtain ⟨n, rfl⟩ : ∃ n : Nat, d0 = (n : Nat) := ⟨d0.toNat, by omega⟩
  have pk : ∃ g : Nat → List Nat, ∀ k, (g k).length ≤ 32 ∧ ∃ c, f_l_cell.m [lD D.int ns, .int (2 + (k : Nat))] = some (.ok (.dat (.int c))) ∧ f_l_piece.m [.int c] = some (.ok (.dat (sG (g k)))) := by
    have : ∀ k : Nat, ∃ l : List Nat, l.length ≤ 32 ∧ ∃ c, f_l_cell.m [lD D.int ns, .int (2 + (k : Nat))] = some (.ok (.dat (.int c))) ∧ f_l_piece.m [.int c] = some (.ok (.dat (sG l))) := fun k => by
      obtain ⟨c, e⟩ := cell_spec ns (2 + k)
      obtain ⟨l, h1, h2⟩ := piece_spec c
      exact ⟨l, h1, c, by rw [show (2 : Int) + (k : Nat) = ((2 + k : Nat) : Int) from by omega]; exact e, h2⟩
    exact ⟨fun k => (this k).choose, fun k => (this k).choose_spec⟩
  obtain ⟨g, hg⟩ := pk
  have rn : rgU (some (.ok [.dat (.int (1 + (n : Nat)))])) = some (.ok (mL iN (List.range (1 + n)))) := by
    rw [show (1 : Int) + (n : Nat) = ((1 + n : Nat) : Int) from by omega]
    exact rg_g (by unfold Sm; omega)
  obtain ⟨b1, b2⟩ := jn_cm ((List.range (1 + n)).map g) 32 5 (fun l hl => by obtain ⟨i, _, rfl⟩ := List.mem_map.mp hl; exact (hg i).1) (by rw [List.length_map, List.length_range]; omega)
  have jo := mt_joinD (s := ",") (ls := (List.range (1 + n)).map g) (by omega)
  obtain ⟨ol, o1, o2⟩ := odd_spec d1 p1 q1
  obtain ⟨p, p3, pb, pe⟩ := lplace_spec c1
  have wp := write_place_spec p p3 pb
  obtain ⟨w1, w2⟩ := jn_cm (p.map numS) 5 3 (fun l hl => by obtain ⟨x, hx, rfl⟩ := List.mem_map.mp hl; exact num5 (pb x hx).1 (pb x hx).2) (by rw [List.length_map]; exact p3)
  have jw := mt_joinD (s := ",") (ls := p.map numS) (by omega)
  have lc1 : lcU (some (.ok (mL iN (List.range (1 + n))))) (turnL (.n 2) (evIf c_law .no) (evE c_law (.call 2 (.cons (.call 1 (.cons (.var 0) (.cons (.bin .add (.int 2) (.var 2)) .nil))) .nil))) [some (.dat (lD D.int ns)), some (.own (lO D.int [(n : Int), d1])), none, none, none, none, none, none, none, none, none, none]) = some (.ok (.fr (lO sG ((List.range (1 + n)).map g)))) :=
    lc_map (f := iN) (g := sG) (k := g) (by unfold Sm; rw [List.length_range]; omega) fun k hk => by
      obtain ⟨_, c, h1, h2⟩ := hg k
      have hx : iN k = .int (k : Nat) := rfl
      simp only [EV0, EV1, EV2, EV3, EV4, EV5, EV6, EV7, EV8, kilR, Option.map_some, List.getElem?_cons_zero, List.getElem?_cons_succ, List.set_cons_zero, List.set_cons_succ, List.replicate, Nat.reduceSub, Nat.sub_self, Bool.not_true, Bool.not_false, Bool.true_and, Bool.and_true, Bool.false_and, Bool.and_false, Bool.or_false, Bool.false_or, Bool.true_or, Bool.or_true, decide_true, decide_false, if_true, if_false, Bool.false_eq_true, eq_self, Int.natCast_zero, Int.cast_ofNat_Int, not_true, not_false_eq_true, List.length_nil, bt_law_12, bt_law_11, bt_law_10, bt_law_9, bt_law_7, bt_law_5, bt_law_3, bt_law_1, b_law, f_law, T_law_0, T_law_1, T_law_2, T_law_3, T_law_4, T_law_5, T_law_6, is_law, fd_law, n_l_draws, n_l_cell, n_l_piece, n_l_odd_piece, n_l_place, n_write_place, n_l_asked, I_BadText_TableError, I_BadText_ValueError, I_BadText_BadPlace, I_BadText_BadLine, I_BadText_BadText, I_TableError_TableError, I_TableError_ValueError, I_TableError_BadPlace, I_TableError_BadLine, I_TableError_BadText, FL_BadText_word, FL_BadText_index, EV0, EV1, EV2, EV3, EV4, EV5, EV6, EV7, EV8, kilR, Option.map_some, List.getElem?_cons_zero, List.getElem?_cons_succ, List.set_cons_zero, List.set_cons_succ, List.replicate, Nat.reduceSub, Nat.sub_self, Bool.not_true, Bool.not_false, Bool.true_and, Bool.and_true, Bool.false_and, Bool.and_false, Bool.or_false, Bool.false_or, Bool.true_or, Bool.or_true, decide_true, decide_false, if_true, if_false, Bool.false_eq_true, eq_self, Int.natCast_zero, Int.cast_ofNat_Int, not_true, not_false_eq_true, List.length_nil, hx, h1, h2]
  have lc2 : lcU (some (.ok (mL D.int p))) (turnL (.n 6) (evIf c_law .no) (evE c_law (.bi .str (.cons (.var 6) .nil))) [some (.dat (lD D.int ns)), some (.own (lO D.int [(n : Int), d1])), none, some (.dat (sG (jn "," ((List.range (1 + n)).map g)))), some (.dat (sG ol)), some (.dat (pD p)), none, none, none, none, none, none]) = some (.ok (.fr (lO sG (p.map numS)))) :=
    lc_map (f := D.int) (g := sG) (k := numS) (by unfold Sm; omega) fun x hx => by
      have bs := bi_str (i := x) (small_of (by have := pb x hx; omega) (by have := pb x hx; omega))
      simp only [EV0, EV1, EV2, EV3, EV4, EV5, EV6, EV7, EV8, kilR, Option.map_some, List.getElem?_cons_zero, List.getElem?_cons_succ, List.set_cons_zero, List.set_cons_succ, List.replicate, Nat.reduceSub, Nat.sub_self, Bool.not_true, Bool.not_false, Bool.true_and, Bool.and_true, Bool.false_and, Bool.and_false, Bool.or_false, Bool.false_or, Bool.true_or, Bool.or_true, decide_true, decide_false, if_true, if_false, Bool.false_eq_true, eq_self, Int.natCast_zero, Int.cast_ofNat_Int, not_true, not_false_eq_true, List.length_nil, bs]
  generalize jn "," ((List.range (1 + n)).map g) = t at *
  generalize jn "," (p.map numS) = w at *
  have main := law_tail ns t w ol p (n : Int) d1 (by omega) (by omega) o1 wp
  simp only [bt_law_7, bt_law_5, bt_law_3, bt_law_1, b_law, f_law, T_law_0, T_law_1, T_law_2, T_law_3, T_law_4, T_law_5, T_law_6, is_law, fd_law, n_l_draws, n_l_cell, n_l_piece, n_l_odd_piece, n_l_place, n_write_place, n_l_asked, I_BadText_TableError, I_BadText_ValueError, I_BadText_BadPlace, I_BadText_BadLine, I_BadText_BadText, I_TableError_TableError, I_TableError_ValueError, I_TableError_BadPlace, I_TableError_BadLine, I_TableError_BadText, FL_BadText_word, FL_BadText_index, EV0, EV1, EV2, EV3, EV4, EV5, EV6, EV7, EV8, kilR, Option.map_some, List.getElem?_cons_zero, List.getElem?_cons_succ, List.set_cons_zero, List.set_cons_succ, List.replicate, Nat.reduceSub, Nat.sub_self, Bool.not_true, Bool.not_false, Bool.true_and, Bool.and_true, Bool.false_and, Bool.and_false, Bool.or_false, Bool.false_or, Bool.true_or, Bool.or_true, decide_true, decide_false, if_true, if_false, Bool.false_eq_true, eq_self, Int.natCast_zero, Int.cast_ofNat_Int, not_true, not_false_eq_true, List.length_nil, e0, e1, ed, rn, lc1, jo, o2, pe, lc2, jw, main]
end LW

open PySem PySem.W PyProof.Rows
set_option maxRecDepth 100000 in
set_option maxHeartbeats 0 in
theorem PySem.Challenge.cw_owntables_k03_read_place_holds : PySem.Challenge.rw_owntables_k03_read_place.Holds := by
  w_on; o_law; k_head; (case hw => w_witness2)
  k_fill
  refine L2.walk_of (l := PySem.Challenge.rw_owntables_k03_read_place) (n := 63) (k := 8) (x := "_law_script") (CX := fun w => L2N.CX PySem.Challenge.rw_owntables_k03_read_place.prog w) (sp := fun w => DE.spLaw _) rfl (by decide) rfl ⟨rfl, by decide, by decide⟩ (fun w h Y => PySem.W.kIn_of Y) ?F (fun _ _ a ns hl _ hS => ⟨a, ns, rfl, hl, hS, fun _ => rfl⟩) (fun w H s e s2 h => by obtain ⟨_, _, _, _, _, _, _, _, _, _, _, _, h⟩ := h; exact h)
  case F =>
    intro w mg fa h KX G hmg
    refine' LW.all_mk KX G hmg ?z_len ?z_abs ?z_int ?z_tuple ?z_list ?z_sorted ?z_min ?z_max ?z_sum ?z_all ?z_any ?z_isinstance ?z_range ?z_bool ?z_str ?z_dict ?z_reversed ?z_ValueError ?w1 ?w2 ?w3 ?w4 ?g_TableError ?i_TableError ?t_TableError ?s_TableError ?ga_TableError ?gt_TableError ?cl_TableError ?mr_TableError ?hd_TableError ?bs_TableError ?br_TableError ?bf_TableError ?bk_TableError ?l_TableError ?c_TableError ?g_BadPlace ?i_BadPlace ?t_BadPlace ?s_BadPlace ?g_BadText ?i_BadText ?t_BadText ?s_BadText ?ga_BadText ?gt_BadText ?cl_BadText ?mr_BadText ?hd_BadText ?fi_BadText ?l_BadText ?c_BadText ?xL_BadText ?rv_BadText ?sa_BadText ?kC_BadText ?ti_BadText ?f_BadText_word ?f_BadText_index ?g_BadLine ?i_BadLine ?t_BadLine ?s_BadLine ?u_BadText_TableError ?n_BadText_TableError ?u_BadText_ValueError ?u_BadText_BadPlace ?n_BadText_BadPlace ?u_BadText_BadLine ?n_BadText_BadLine ?u_BadText_BadText ?u_TableError_TableError ?u_TableError_ValueError ?u_TableError_BadPlace ?n_TableError_BadPlace ?u_TableError_BadLine ?n_TableError_BadLine ?u_TableError_BadText ?n_TableError_BadText ?a_is_decimal ?l_is_decimal ?e_is_decimal ?q_is_decimal ?a_write_place ?l_write_place ?e_write_place ?q_write_place ?a_place_of_text ?l_place_of_text ?e_place_of_text ?q_place_of_text ?a_l_cell ?l_l_cell ?e_l_cell ?q_l_cell ?a_l_draws ?l_l_draws ?e_l_draws ?q_l_draws ?a_l_is_integer ?l_l_is_integer ?e_l_is_integer ?q_l_is_integer ?a_l_is_error ?l_l_is_error ?e_l_is_error ?q_l_is_error ?a_l_odd_piece ?l_l_odd_piece ?e_l_odd_piece ?q_l_odd_piece ?a_l_decimal ?l_l_decimal ?e_l_decimal ?q_l_decimal ?a_first_bad_piece ?l_first_bad_piece ?e_first_bad_piece ?q_first_bad_piece ?a_l_is_place ?l_l_is_place ?e_l_is_place ?q_l_is_place ?a_l_piece ?l_l_piece ?e_l_piece ?q_l_piece ?a_l_place ?l_l_place ?e_l_place ?q_l_place ?a_l_first_bad ?l_l_first_bad ?e_l_first_bad ?q_l_first_bad ?a_l_refused ?l_l_refused ?e_l_refused ?q_l_refused ?a_read_place ?l_read_place ?e_read_place ?q_read_place ?a_l_asked ?l_l_asked ?e_l_asked ?q_l_asked ?a_law ?l_law ?e_law ?q_law LW.plain
    (case z_len => k_is)
    (case z_abs => k_is)
    (case z_int => k_is)
    (case z_tuple => k_is)
    (case z_list => k_is)
    (case z_sorted => k_is)
    (case z_min => k_is)
    (case z_max => k_is)
    (case z_sum => k_is)
    (case z_all => k_is)
    (case z_any => k_is)
    (case z_isinstance => k_is)
    (case z_range => k_is)
    (case z_bool => k_is)
    (case z_str => k_is)
    (case z_dict => k_is)
    (case z_reversed => k_is)
    (case z_ValueError => k_is)
    (case w1 => k_is)
    (case w2 => k_is)
    (case w3 => k_is)
    (case w4 => k_is)
    (case g_TableError => k_is)
    (case i_TableError => k_is)
    (case t_TableError => k_is)
    (case s_TableError => k_is)
    (case ga_TableError => k_is)
    (case gt_TableError => k_is)
    (case cl_TableError => k_is)
    (case mr_TableError => k_is)
    (case hd_TableError => k_is)
    (case bs_TableError => k_is)
    (case br_TableError => k_is)
    (case bf_TableError => k_is)
    (case bk_TableError => k_is)
    (case l_TableError => k_is)
    (case c_TableError => k_is)
    (case g_BadPlace => k_is)
    (case i_BadPlace => k_is)
    (case t_BadPlace => k_is)
    (case s_BadPlace => k_is)
    (case g_BadText => k_is)
    (case i_BadText => k_is)
    (case t_BadText => k_is)
    (case s_BadText => k_is)
    (case ga_BadText => k_is)
    (case gt_BadText => k_is)
    (case cl_BadText => k_is)
    (case mr_BadText => k_is)
    (case hd_BadText => k_is)
    (case fi_BadText => k_is)
    (case l_BadText => k_is)
    (case c_BadText => k_is)
    (case xL_BadText => k_is)
    (case rv_BadText => decide +kernel)
    (case sa_BadText => k_is)
    (case kC_BadText => k_is)
    (case ti_BadText => k_is)
    (case f_BadText_word => k_is)
    (case f_BadText_index => k_is)
    (case g_BadLine => k_is)
    (case i_BadLine => k_is)
    (case t_BadLine => k_is)
    (case s_BadLine => k_is)
    (case u_BadText_TableError => k_is)
    (case n_BadText_TableError => decide)
    (case u_BadText_ValueError => k_is)
    (case u_BadText_BadPlace => k_is)
    (case n_BadText_BadPlace => decide)
    (case u_BadText_BadLine => k_is)
    (case n_BadText_BadLine => decide)
    (case u_BadText_BadText => k_is)
    (case u_TableError_TableError => k_is)
    (case u_TableError_ValueError => k_is)
    (case u_TableError_BadPlace => k_is)
    (case n_TableError_BadPlace => decide)
    (case u_TableError_BadLine => k_is)
    (case n_TableError_BadLine => decide)
    (case u_TableError_BadText => k_is)
    (case n_TableError_BadText => decide)
    (case a_is_decimal => k_is)
    (case l_is_decimal => k_is)
    (case e_is_decimal => k_is)
    (case q_is_decimal => k_is)
    (case a_write_place => k_is)
    (case l_write_place => k_is)
    (case e_write_place => k_is)
    (case q_write_place => k_is)
    (case a_place_of_text => k_is)
    (case l_place_of_text => k_is)
    (case e_place_of_text => k_is)
    (case q_place_of_text => k_is)
    (case a_l_cell => k_is)
    (case l_l_cell => k_is)
    (case e_l_cell => k_is)
    (case q_l_cell => k_is)
    (case a_l_draws => k_is)
    (case l_l_draws => k_is)
    (case e_l_draws => k_is)
    (case q_l_draws => k_is)
    (case a_l_is_integer => k_is)
    (case l_l_is_integer => k_is)
    (case e_l_is_integer => k_is)
    (case q_l_is_integer => k_is)
    (case a_l_is_error => k_is)
    (case l_l_is_error => k_is)
    (case e_l_is_error => k_is)
    (case q_l_is_error => k_is)
    (case a_l_odd_piece => k_is)
    (case l_l_odd_piece => k_is)
    (case e_l_odd_piece => k_is)
    (case q_l_odd_piece => k_is)
    (case a_l_decimal => k_is)
    (case l_l_decimal => k_is)
    (case e_l_decimal => k_is)
    (case q_l_decimal => k_is)
    (case a_first_bad_piece => k_is)
    (case l_first_bad_piece => k_is)
    (case e_first_bad_piece => k_is)
    (case q_first_bad_piece => k_is)
    (case a_l_is_place => k_is)
    (case l_l_is_place => k_is)
    (case e_l_is_place => k_is)
    (case q_l_is_place => k_is)
    (case a_l_piece => k_is)
    (case l_l_piece => k_is)
    (case e_l_piece => k_is)
    (case q_l_piece => k_is)
    (case a_l_place => k_is)
    (case l_l_place => k_is)
    (case e_l_place => k_is)
    (case q_l_place => k_is)
    (case a_l_first_bad => k_is)
    (case l_l_first_bad => k_is)
    (case e_l_first_bad => k_is)
    (case q_l_first_bad => k_is)
    (case a_l_refused => k_is)
    (case l_l_refused => k_is)
    (case e_l_refused => k_is)
    (case q_l_refused => k_is)
    (case a_read_place => k_is)
    (case l_read_place => k_is)
    (case e_read_place => k_is)
    (case q_read_place => k_is)
    (case a_l_asked => k_is)
    (case l_l_asked => k_is)
    (case e_l_asked => k_is)
    (case q_l_asked => k_is)
    (case a_law => k_is)
    (case l_law => k_is)
    (case e_law => k_is)
    (case q_law => k_is)
