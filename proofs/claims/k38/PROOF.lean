import PyProof.Rows.All
import HandS.Conv
import HandS.Defaults
import HandS.DictComp
import HandS.ForMost
import HandS.IsInst
import HandS.Walk
import HandS.Wide
import HandS.WideBits
import HandS.Zip
import KE.GoesEnum
import KE.KDictKeyed
import OpenK.AllK
import PySem.Challenge.RW_alikechances_k38_whole_coin_machines
import Wide.All
import Wide.FinOn
set_option Elab.async false
set_option linter.all false
set_option maxRecDepth 100000
set_option maxHeartbeats 4000000
section
/-! Sy, part A: symbolic states over the hand layer: data without addresses (Da), mutable objects by address (Mo), the state St, and the relations of expressions, arguments, tests, statements (EvG, EvA, EvT, Rn) to their readings. -/
namespace Sy
open PySem PySem.Spec PyProof.Rows L2

/-- data: what never changes; ref: a mutable object -/
inductive Da where
  | non | bl (b : Bool) | int (i : Int) | str (x : Str) | ref (a : Addr) | ty (n : String) | tup (xs : List Da) | lis (xs : List Da)

/-- a list that nobody writes -/
def SqF (K : PySem.W.Frag) (H : Hp) (a : Addr) (xs : List V) : Prop :=
  (∃ o, H a = some (.frz o (.lst xs))) ∨
    ∃ (o : Obj) (its : Array Value) (n : Nat), K.lookup a = some o ∧ o.cls = .type "list" ∧ o.dict = none ∧ o.data = .seq its n ∧ its.size ≤ sizeLine ∧ Vals xs its.toList
theorem SqF.sq {K : PySem.W.Frag} {H : Hp} {a : Addr} {xs : List V} (h : SqF K H a xs) : SqL K H a xs := by
  rcases h with h | h
  · exact .inl (.inr h)
  · exact .inr h

mutual
inductive Rp (K : PySem.W.Frag) (H : Hp) : V → Da → Prop
  | non : Rp K H .non .non
  | bl (b : Bool) : Rp K H (.bl b) (.bl b)
  | int (i : Int) : Rp K H (.int i) (.int i)
  | str (x : Str) : Rp K H (.str x) (.str x)
  | ref (a : Addr) : Rp K H (.ref a) (.ref a)
  | ty (n : String) : Rp K H (.ty n) (.ty n)
  | tup {a : Addr} {xs : List V} {ds : List Da} (h : SqT K H a xs) (r : RpL K H xs ds) : Rp K H (.ref a) (.tup ds)
  | lis {a : Addr} {xs : List V} {ds : List Da} (h : SqF K H a xs) (r : RpL K H xs ds) : Rp K H (.ref a) (.lis ds)
inductive RpL (K : PySem.W.Frag) (H : Hp) : List V → List Da → Prop
  | nil : RpL K H [] []
  | cons {v : V} {vs : List V} {d : Da} {ds : List Da} (h : Rp K H v d) (r : RpL K H vs ds) : RpL K H (v :: vs) (d :: ds)
end

/-- what never changes stays -/
structure Per (H H' : Hp) : Prop where
  t : ∀ a xs, Rd H a (.tup xs) → Rd H' a (.tup xs)
  l : ∀ a o xs, H a = some (.frz o (.lst xs)) → H' a = some (.frz o (.lst xs))
theorem Per.rfl' (H : Hp) : Per H H := ⟨fun _ _ h => h, fun _ _ _ h => h⟩
theorem Per.trans {H H1 H2 : Hp} (a : Per H H1) (b : Per H1 H2) : Per H H2 := ⟨fun x xs h => b.t x xs (a.t x xs h), fun x o xs h => b.l x o xs (a.l x o xs h)⟩
theorem Per.same {H H' : Hp} (h : ∀ b o, H b = some o → H' b = some o) : Per H H' := by
  refine ⟨fun a xs r => ?_, fun a o xs r => h _ _ r⟩
  rcases r with r | ⟨o, r⟩
  · exact .inl (h _ _ r)
  · exact .inr ⟨o, h _ _ r⟩
theorem Per.new {H : Hp} {p : Addr} {u : HO} (hp : H p = none) : Per H (upd H p u) := .same fun b o e => by
  rw [upd_ne (ne_of_none e hp)]; exact e
theorem Per.put {H : Hp} {p : Addr} {u w : HO} (hp : H p = some u) (h1 : ∀ xs, u ≠ .tup xs) (h2 : ∀ o x, u ≠ .frz o x) : Per H (upd H p w) := by
  refine ⟨fun a xs r => ?_, fun a o xs r => ?_⟩
  · rcases r with r | ⟨o, r⟩
    · have z : a ≠ p := fun e => by subst e; rw [hp] at r; exact h1 xs (Option.some.inj r)
      exact .inl (by rw [upd_ne z]; exact r)
    · have z : a ≠ p := fun e => by subst e; rw [hp] at r; exact h2 o _ (Option.some.inj r)
      exact .inr ⟨o, by rw [upd_ne z]; exact r⟩
  · have z : a ≠ p := fun e => by subst e; rw [hp] at r; exact h2 o _ (Option.some.inj r)
    rw [upd_ne z]; exact r
theorem Per.lst {H : Hp} {p : Addr} {xs : List V} {w : HO} (hp : H p = some (.lst xs)) : Per H (upd H p w) := .put hp (fun _ h => HO.noConfusion h) (fun _ _ h => HO.noConfusion h)
theorem Per.sqt {K : PySem.W.Frag} {H H' : Hp} {a : Addr} {xs : List V} (p : Per H H') (h : SqT K H a xs) : SqT K H' a xs := by
  rcases h with h | h
  · exact .inl (p.t _ _ h)
  · exact .inr h
theorem Per.sqf {K : PySem.W.Frag} {H H' : Hp} {a : Addr} {xs : List V} (p : Per H H') (h : SqF K H a xs) : SqF K H' a xs := by
  rcases h with ⟨o, h⟩ | h
  · exact .inl ⟨o, p.l _ _ _ h⟩
  · exact .inr h
mutual
theorem Rp.per {K : PySem.W.Frag} {H H' : Hp} (p : Per H H') : ∀ {v : V} {d : Da}, Rp K H v d → Rp K H' v d
  | _, _, .non => .non
  | _, _, .bl b => .bl b
  | _, _, .int i => .int i
  | _, _, .str x => .str x
  | _, _, .ref a => .ref a
  | _, _, .ty n => .ty n
  | _, _, .tup h r => .tup (p.sqt h) (RpL.per p r)
  | _, _, .lis h r => .lis (p.sqf h) (RpL.per p r)
theorem RpL.per {K : PySem.W.Frag} {H H' : Hp} (p : Per H H') : ∀ {vs : List V} {ds : List Da}, RpL K H vs ds → RpL K H' vs ds
  | _, _, .nil => .nil
  | _, _, .cons h r => .cons (Rp.per p h) (RpL.per p r)
end
theorem RpL.length {K : PySem.W.Frag} {H : Hp} : ∀ {vs : List V} {ds : List Da}, RpL K H vs ds → vs.length = ds.length
  | _, _, .nil => rfl
  | _, _, .cons _ r => by rw [List.length_cons, List.length_cons, RpL.length r]
theorem RpL.get {K : PySem.W.Frag} {H : Hp} : ∀ {vs : List V} {ds : List Da} {i : Nat} {d : Da}, RpL K H vs ds → ds[i]? = some d → ∃ v, vs[i]? = some v ∧ Rp K H v d
  | _, _, _, _, .nil, e => by cases e
  | _, _, 0, _, .cons h _, e => by cases e; exact ⟨_, rfl, h⟩
  | _, _, i + 1, d, .cons _ r, e => RpL.get (i := i) r e
theorem RpL.get' {K : PySem.W.Frag} {H : Hp} {vs : List V} {ds : List Da} {i : Nat} {v : V} (r : RpL K H vs ds) (e : vs[i]? = some v) : ∃ d, ds[i]? = some d ∧ Rp K H v d := by
  have hl := r.length
  have h1 : i < ds.length := by rw [← hl]; exact (List.getElem?_eq_some_iff.mp e).1
  obtain ⟨v', e', h⟩ := r.get (List.getElem?_eq_getElem h1)
  rw [e] at e'; cases e'
  exact ⟨_, List.getElem?_eq_getElem h1, h⟩
theorem RpL.append {K : PySem.W.Frag} {H : Hp} : ∀ {vs ws : List V} {ds es : List Da}, RpL K H vs ds → RpL K H ws es → RpL K H (vs ++ ws) (ds ++ es)
  | _, _, _, _, .nil, s => s
  | _, _, _, _, .cons h r, s => .cons h (RpL.append r s)
theorem RpL.set {K : PySem.W.Frag} {H : Hp} {v : V} {d : Da} (h : Rp K H v d) : ∀ {vs : List V} {ds : List Da} (i : Nat), RpL K H vs ds → RpL K H (vs.set i v) (ds.set i d)
  | _, _, _, .nil => .nil
  | _, _, 0, .cons _ r => .cons h r
  | _, _, i + 1, .cons q r => .cons q (RpL.set h i r)
theorem RpL.at {K : PySem.W.Frag} {H : Hp} {vs : List V} {ds : List Da} {i : Int} {d : Da} (r : RpL K H vs ds) (e : atI ds i = some d) : ∃ v, atI vs i = some v ∧ Rp K H v d := by
  unfold atI at e ⊢
  rw [r.length]
  obtain ⟨j, h1, h2⟩ := Option.bind_eq_some_iff.mp e
  obtain ⟨v, e', h⟩ := r.get h2
  exact ⟨v, by rw [h1]; exact e', h⟩
theorem RpL.ints {K : PySem.W.Frag} {H : Hp} : ∀ {ns : List Int} {vs : List V}, RpL K H vs (ns.map Da.int) → vs = ns.map V.int
  | [], _, .nil => rfl
  | n :: ns, _, .cons h r => by cases h; rw [RpL.ints r]; rfl
theorem RpL.bools {K : PySem.W.Frag} {H : Hp} : ∀ {ns : List Bool} {vs : List V}, RpL K H vs (ns.map Da.bl) → vs = ns.map V.bl
  | [], _, .nil => rfl
  | n :: ns, _, .cons h r => by cases h; rw [RpL.bools r]; rfl
theorem RpL.ofInts {K : PySem.W.Frag} {H : Hp} : ∀ (ns : List Int), RpL K H (ns.map V.int) (ns.map Da.int)
  | [] => .nil
  | n :: ns => .cons (.int n) (RpL.ofInts ns)
theorem RpL.repl {K : PySem.W.Frag} {H : Hp} {v : V} {d : Da} (h : Rp K H v d) : ∀ n : Nat, RpL K H (List.replicate n v) (List.replicate n d)
  | 0 => .nil
  | n + 1 => .cons h (RpL.repl h n)

/-! ### mutable objects -/
/-- what a mutable object holds. ex: an object known by a word of another part (a dict) -/
inductive Mo where
  | lst (xs : List Da)
  | dic (kvs : List (Da × Da))
abbrev Th := List (Addr × Mo)

end Sy

end
section
/-! Dn: dicts whose keys are ints, texts, None and tuples of these in one dict (PySem.NestedKey), each key carried by any value. -/
namespace Dn
open PySem
open Sem (wp)

/-- key, the key's value, the value -/
abbrev Tri := NestedKey × Value × Value
def ent (w : World) (x : Tri) : DictEntry := ⟨x.1.hash w, x.2.1, x.2.2⟩
def lk (xs : List Tri) (k : NestedKey) : Option Tri := xs.find? fun x => decide (x.1 = k)
def upv (k : NestedKey) (v : Value) (x : Tri) : Tri := if x.1 = k then (x.1, x.2.1, v) else x
def sto (xs : List Tri) (k : NestedKey) (a v : Value) : List Tri := if (lk xs k).isSome then xs.map (upv k v) else xs ++ [(k, a, v)]
def del (xs : List Tri) (k : NestedKey) : List Tri := xs.filter fun x => decide (x.1 ≠ k)

theorem lk_at {xs : List Tri} (hn : (xs.map (·.1)).Nodup) {j : Nat} {x : Tri} {k : NestedKey} (hj : xs[j]? = some x) (hk : x.1 = k) : lk xs k = some x := by
  induction xs generalizing j with
  | nil => cases hj
  | cons y r ih =>
    rw [List.map_cons, List.nodup_cons] at hn
    unfold lk
    rw [List.find?_cons]
    cases j with
    | zero =>
      cases hj
      rw [decide_eq_true hk]
    | succ j =>
      have hm : x.1 ∈ r.map (·.1) := List.mem_map.mpr ⟨x, List.mem_of_getElem? hj, rfl⟩
      have hne : ¬ y.1 = k := fun e => hn.1 (by rw [e, ← hk]; exact hm)
      rw [decide_eq_false hne]
      exact ih hn.2 hj
theorem lk_no {xs : List Tri} {k : NestedKey} (h : ∀ (j : Nat) (x : Tri), xs[j]? = some x → x.1 ≠ k) : lk xs k = none := by
  unfold lk
  rw [List.find?_eq_none]
  intro x hx
  obtain ⟨j, hj⟩ := List.mem_iff_getElem?.mp hx
  rw [decide_eq_false (h j x hj)]
  exact Bool.false_ne_true
theorem one_place {xs : List Tri} (hn : (xs.map (·.1)).Nodup) {i j : Nat} {x y : Tri} (hi : xs[i]? = some x) (hj : xs[j]? = some y) (e : x.1 = y.1) : i = j := by
  have h1 : (xs.map (·.1))[i]? = some x.1 := by rw [List.getElem?_map, hi]; rfl
  have h2 : (xs.map (·.1))[j]? = some x.1 := by rw [List.getElem?_map, hj, e]; rfl
  exact (List.getElem?_inj (List.getElem?_eq_some_iff.mp h1).1 hn).mp (h1.trans h2.symm)
theorem keys_upv (xs : List Tri) (k : NestedKey) (v : Value) : (xs.map (upv k v)).map (·.1) = xs.map (·.1) := by
  rw [List.map_map]
  refine List.map_congr_left fun x _ => ?_
  show (upv k v x).1 = x.1
  unfold upv
  split <;> rfl
theorem upv_off {xs : List Tri} {k : NestedKey} {v : Value} (h : k ∉ xs.map (·.1)) : xs.map (upv k v) = xs := by
  induction xs with
  | nil => rfl
  | cons x r ih =>
    rw [List.map_cons, List.mem_cons, not_or] at h
    rw [List.map_cons, ih h.2]
    unfold upv
    rw [if_neg fun e => h.1 e.symm]
theorem mod_upv {w : World} {k : NestedKey} {v : Value} : ∀ {xs : List Tri} {j : Nat} {x : Tri}, (xs.map (·.1)).Nodup → xs[j]? = some x → x.1 = k →
    (xs.map (ent w)).modify j (fun e => { e with val := v }) = (xs.map (upv k v)).map (ent w)
  | [], _, _, _, hj, _ => by cases hj
  | y :: r, 0, x, hn, hj, hk => by
    cases hj
    rw [List.map_cons, List.nodup_cons] at hn
    rw [List.map_cons, List.map_cons, upv_off (by rw [← hk]; exact hn.1), List.map_cons, List.modify_zero_cons]
    unfold upv
    rw [if_pos hk]
    rfl
  | y :: r, j + 1, x, hn, hj, hk => by
    rw [List.map_cons, List.nodup_cons] at hn
    have hm : x.1 ∈ r.map (·.1) := List.mem_map.mpr ⟨x, List.mem_of_getElem? hj, rfl⟩
    have hne : ¬ y.1 = k := fun e => hn.1 (by rw [e, ← hk]; exact hm)
    rw [List.map_cons, List.map_cons, List.map_cons, List.modify_succ_cons, mod_upv (xs := r) (j := j) hn.2 hj hk]
    unfold upv
    rw [if_neg hne]
theorem del_off {xs : List Tri} {k : NestedKey} (h : k ∉ xs.map (·.1)) : del xs k = xs := by
  unfold del
  rw [List.filter_eq_self]
  intro x hx
  exact decide_eq_true fun e => h (by rw [← e]; exact List.mem_map.mpr ⟨x, hx, rfl⟩)
theorem del_at {k : NestedKey} : ∀ {xs : List Tri} {j : Nat} {x : Tri}, (xs.map (·.1)).Nodup → xs[j]? = some x → x.1 = k → xs.eraseIdx j = del xs k
  | [], _, _, _, hj, _ => by cases hj
  | y :: r, 0, x, hn, hj, hk => by
    cases hj
    rw [List.map_cons, List.nodup_cons] at hn
    have e : del (y :: r) k = del r k := by
      unfold del
      rw [List.filter_cons, if_neg]
      rw [decide_eq_false (fun z => z hk)]
      exact Bool.false_ne_true
    rw [e, del_off (by rw [← hk]; exact hn.1)]
    rfl
  | y :: r, j + 1, x, hn, hj, hk => by
    rw [List.map_cons, List.nodup_cons] at hn
    have hm : x.1 ∈ r.map (·.1) := List.mem_map.mpr ⟨x, List.mem_of_getElem? hj, rfl⟩
    have hne : y.1 ≠ k := fun e => hn.1 (by rw [e, ← hk]; exact hm)
    have e : del (y :: r) k = y :: del r k := by
      unfold del
      rw [List.filter_cons, if_pos (decide_eq_true hne)]
    rw [e, List.eraseIdx_cons_succ, del_at (xs := r) (j := j) hn.2 hj hk]
theorem erase_map {α β : Type} (f : α → β) : ∀ (l : List α) (j : Nat), (l.map f).eraseIdx j = (l.eraseIdx j).map f
  | [], _ => rfl
  | _ :: _, 0 => rfl
  | x :: r, j + 1 => by rw [List.map_cons, List.eraseIdx_cons_succ, List.eraseIdx_cons_succ, List.map_cons, erase_map f r j]

/-- at d stands a dict of these -/
structure Ent (w : World) (h : Heap) (d : Addr) (xs : List Tri) (o : Obj) (es : Array DictEntry) (ep : Nat) : Prop where
  at_ : h.get? d = some o
  ex : o.ExactDict
  da : o.data = .dict es ep
  en : es.toList = xs.map (ent w)
  ky : ∀ x ∈ xs, NestedIs h x.1 x.2.1
  dp : ∀ x ∈ xs, x.1.depth ≤ 8
  nd : (xs.map (·.1)).Nodup
def Dic (w : World) (h : Heap) (d : Addr) (xs : List Tri) : Prop := ∃ o es ep, Ent w h d xs o es ep

section
variable {prog : Program} {w : World} {A : Around} {E : Value → Shared → Prop} {s : Shared} {d : Addr} {o : Obj} {es : Array DictEntry} {ep : Nat} {xs : List Tri} {k : NestedKey} {key : Value}

theorem Ent.size {h : Heap} (D : Ent w h d xs o es ep) : es.size = xs.length := by
  rw [← Array.length_toList, D.en, List.length_map]
theorem Ent.get {h : Heap} (D : Ent w h d xs o es ep) (j : Nat) : es[j]? = (xs[j]?).map (ent w) := by
  rw [← Array.getElem?_toList, D.en, List.getElem?_map]
theorem Ent.mem {h : Heap} (D : Ent w h d xs o es ep) {e : DictEntry} (he : e ∈ es) : ∃ x ∈ xs, e = ent w x := by
  have : e ∈ xs.map (ent w) := D.en ▸ Array.mem_toList_iff.mpr he
  obtain ⟨x, hx, rfl⟩ := List.mem_map.mp this
  exact ⟨x, hx, rfl⟩
theorem eq_at {x : NestedKey} {u : Value} (hu : A.units + 16 < cLine) (hx : NestedIs s.heap x u) (dx : x.depth ≤ 8) (hk : NestedIs s.heap k key) {Q : Bool → Shared → Prop} (h : Q (decide (x = k)) s) :
    wpAny (model prog w) A (eqBool u key) Q E s := by
  rw [NestedKey.decide_eq] at h
  exact eqAt_key x k A s u key hx hk (by have : min x.depth k.depth ≤ x.depth := Nat.min_le_left _ _; omega) prog w E Q h
theorem may_tell (hk : NestedIs s.heap k key) (kd : k.depth ≤ 8) {st : List Value} (hst : ∀ v ∈ st, ∃ k', NestedIs s.heap k' v ∧ k'.depth ≤ 8) {Q : Bool → Shared → Prop} (h : Q false s) :
    wpAny (model prog w) A (tableMayTell key st) Q E s := by
  unfold tableMayTell
  split
  · exact wpAny_pure h
  · refine wpAny_bind (quiet_key k key 8 s hk kd A E _ ?_)
    simp only [Bool.not_true, Bool.false_eq_true, if_false]
    refine wpAny_bind ?_
    refine wpAny_forIn_list _ (fun l r s' => s' = s ∧ r = (none, ()) ∧ ∀ v ∈ l, ∃ k', NestedIs s.heap k' v ∧ k'.depth ≤ 8) _ ?_ ?_ _ _ ⟨rfl, rfl, hst⟩
    · rintro x l r s' ⟨rfl, rfl, hr⟩
      obtain ⟨k', hb, hd'⟩ := hr x List.mem_cons_self
      refine wpAny_bind (quiet_key k' x 8 _ hb hd' A E _ ?_)
      simp only [Bool.not_true, Bool.false_eq_true, if_false]
      exact wpAny_pure ⟨rfl, rfl, fun v hv => hr v (List.mem_cons_of_mem _ hv)⟩
    · rintro r s' ⟨rfl, rfl, _⟩
      exact wpAny_pure h

/-- the places at which the hash is k's: what is known when a walk over them stands at x -/
def Seen (xs : List Tri) (k : NestedKey) (es : Array DictEntry) (w : World) (i : Nat) (l : List Nat) : Prop :=
  l = (List.range' i (es.size - i)).filter (fun i => (es[i]?.map (·.hash)) == some (k.hash w)) ∧ i ≤ es.size
theorem seen_start : Seen xs k es w 0 (placesWithHash es.size (fun i => es[i]?.map (·.hash)) (k.hash w)) := by
  refine ⟨?_, Nat.zero_le _⟩
  unfold placesWithHash
  rw [List.range_eq_range', Nat.sub_zero]
theorem Seen.cons {i x : Nat} {l : List Nat} (h : Seen xs k es w i (x :: l)) : i ≤ x ∧ x < es.size ∧ (∀ j, i ≤ j → j < x → ((es[j]?.map (·.hash)) == some (k.hash w)) = false) ∧ Seen xs k es w (x + 1) l := by
  obtain ⟨h1, h2⟩ := h
  obtain ⟨a, b, _, c, e⟩ := filter_range'_cons _ _ _ _ _ h1.symm
  refine ⟨a, by omega, c, ?_, by omega⟩
  rw [e]
  congr 2
  omega
theorem Seen.nil {i : Nat} (h : Seen xs k es w i []) : ∀ j, i ≤ j → j < es.size → ((es[j]?.map (·.hash)) == some (k.hash w)) = false := fun j h1 h2 => by
  have z := List.filter_eq_nil_iff.mp h.1.symm j (List.mem_range'_1.mpr ⟨h1, by omega⟩)
  simpa using z
theorem Ent.hash {h : Heap} (D : Ent w h d xs o es ep) {j : Nat} {x : Tri} (hj : xs[j]? = some x) (hk : x.1 = k) : ((es[j]?.map (·.hash)) == some (k.hash w)) = true := by
  rw [D.get j, hj]
  simp [ent, hk]
/-- nothing ahead of i -/
def Clear (xs : List Tri) (k : NestedKey) (i : Nat) : Prop := ∀ (j : Nat) (x : Tri), j < i → xs[j]? = some x → x.1 ≠ k
theorem Clear.up {h : Heap} (D : Ent w h d xs o es ep) {i n : Nat} (c : Clear xs k i) (hs : ∀ j, i ≤ j → j < n → ((es[j]?.map (·.hash)) == some (k.hash w)) = false) : Clear xs k n := fun j x hj hx e => by
  rcases Nat.lt_or_ge j i with q | q
  · exact c j x q hx e
  · have z := hs j q hj
    rw [D.hash hx e] at z
    cases z
theorem Clear.next {i : Nat} {y : Tri} (c : Clear xs k i) (hy : xs[i]? = some y) (hne : y.1 ≠ k) : Clear xs k (i + 1) := fun j x hj hx e => by
  rcases Nat.lt_or_ge j i with q | q
  · exact c j x q hx e
  · have z : j = i := by omega
    subst z
    rw [hy] at hx
    cases hx
    exact hne e
theorem Clear.all {h : Heap} (D : Ent w h d xs o es ep) (c : Clear xs k es.size) : ∀ (j : Nat) (x : Tri), xs[j]? = some x → x.1 ≠ k := fun j x hx => by
  refine c j x ?_ hx
  rw [D.size]
  exact (List.getElem?_eq_some_iff.mp hx).1

/-- dictFind: the place of the key, if it is there -/
theorem find (D : Ent w s.heap d xs o es ep) (hu : A.units + 16 < cLine) (hk : NestedIs s.heap k key) (kd : k.depth ≤ 8) {Q : Option Nat → Shared → Prop}
    (hno : (∀ (j : Nat) (x : Tri), xs[j]? = some x → x.1 ≠ k) → Q none s) (hyes : ∀ (j : Nat) (x : Tri), xs[j]? = some x → x.1 = k → Q (some j) s) :
    wpAny (model prog w) A (dictFind d key (k.hash w)) Q E s := by
  have hst : ∀ v ∈ (placesWithHash es.size (fun i => es[i]?.map (·.hash)) (k.hash w)).filterMap (fun i => es[i]?.map (·.key)), ∃ k', NestedIs s.heap k' v ∧ k'.depth ≤ 8 := by
    intro v hv
    obtain ⟨i, _, hi⟩ := List.mem_filterMap.mp hv
    rw [D.get i] at hi
    cases hx : xs[i]? with
    | none => rw [hx] at hi; cases hi
    | some x =>
      rw [hx] at hi
      cases hi
      exact ⟨x.1, D.ky x (List.mem_of_getElem? hx), D.dp x (List.mem_of_getElem? hx)⟩
  -- one turn of a walk
  have turn : ∀ {i x : Nat} {l : List Nat}, Seen xs k es w i (x :: l) → ∃ y, xs[x]? = some y ∧ es[x]? = some (ent w y) ∧ NestedIs s.heap y.1 y.2.1 ∧ y.1.depth ≤ 8 := by
    intro i x l hS
    obtain ⟨_, h2, _⟩ := hS.cons
    have h3 : x < xs.length := by rw [← D.size]; exact h2
    refine ⟨xs[x], List.getElem?_eq_getElem h3, ?_, D.ky _ (List.getElem_mem h3), D.dp _ (List.getElem_mem h3)⟩
    rw [D.get x, List.getElem?_eq_getElem h3]
    rfl
  unfold dictFind
  try with_reducible refine wpAny_holding ?_
  refine wpAny_bind (wpAny_dictEntries D.at_ D.da ?_)
  -- the walk over places when all keys there are carried by value
  have walkP : wpAny (model prog w) A (dictWalkPlain d key (k.hash w) es (placesWithHash es.size (fun i => es[i]?.map (·.hash)) (k.hash w))) Q E s := by
    unfold dictWalkPlain
    refine wpAny_bind ?_
    refine wpAny_forIn_list _ (fun l r s' => s' = s ∧ r = (none, ()) ∧ ∃ i, Seen xs k es w i l ∧ Clear xs k i) _ ?_ ?_ _ _ ⟨rfl, rfl, 0, seen_start, fun j _ hj => absurd hj (Nat.not_lt_zero _)⟩
    · rintro x l r s' ⟨rfl, rfl, i, hS, hC⟩
      obtain ⟨y, hy, hey, hny, hdy⟩ := turn hS
      obtain ⟨h1, h2, h3, h4⟩ := hS.cons
      have hC' := hC.up D h3
      rw [hey]
      dsimp only
      by_cases hh : ((ent w y).hash == k.hash w) = true
      · rw [if_pos hh]
        refine wpAny_bind (wpAny_dictEpoch D.at_ D.da (wpAny_bind (eq_at hu hny hdy hk (wpAny_bind (wpAny_dictEpoch D.at_ D.da ?_)))))
        rw [if_neg (by simp)]
        by_cases hkk : y.1 = k
        · rw [decide_eq_true hkk, if_pos rfl]
          exact wpAny_bind (wpAny_rule (wpAny_pure (wpAny_pure (hyes x y hy hkk))))
        · rw [decide_eq_false hkk, if_neg Bool.false_ne_true]
          exact wpAny_bind (wpAny_rule (wpAny_pure ⟨rfl, rfl, x + 1, h4, hC'.next hy hkk⟩))
      · rw [if_neg hh]
        refine wpAny_pure ⟨rfl, rfl, x + 1, h4, hC'.next hy fun e => hh ?_⟩
        show (y.1.hash w == k.hash w) = true
        rw [e]
        exact beq_self_eq_true _
    · rintro r s' ⟨rfl, rfl, i, hS, hC⟩
      exact wpAny_pure (hno ((hC.up D hS.nil).all D))
  -- what a hit in hand is known to be
  let Hit : Option Nat → Nat → Prop := fun hit i => (hit = none ∧ Clear xs k i) ∨ ∃ j x, hit = some j ∧ j < i ∧ xs[j]? = some x ∧ x.1 = k
  have hitUp : ∀ {hit : Option Nat} {i n : Nat}, i ≤ n → Hit hit i → (∀ j, i ≤ j → j < n → ((es[j]?.map (·.hash)) == some (k.hash w)) = false) → Hit hit n := by
    rintro hit i n hin (⟨h1, h2⟩ | ⟨j, x, h1, h2, h3, h4⟩) hs
    · exact .inl ⟨h1, h2.up D hs⟩
    · exact .inr ⟨j, x, h1, by omega, h3, h4⟩
  have hitOff : ∀ {hit : Option Nat} {i : Nat} {y : Tri}, Hit hit i → xs[i]? = some y → y.1 ≠ k → Hit hit (i + 1) := by
    rintro hit i y (⟨h1, h2⟩ | ⟨j, x, h1, h2, h3, h4⟩) hy hne
    · exact .inl ⟨h1, h2.next hy hne⟩
    · exact .inr ⟨j, x, h1, by omega, h3, h4⟩
  by_cases htx : ∃ x t, key = .str x t ∧ (es.all fun e => isExactStrKey e.key) = true
  · -- a text among texts
    obtain ⟨x, t, rfl, hall⟩ := htx
    dsimp only
    rw [if_pos hall]
    obtain rfl : k = .text x := by cases hk; rfl
    unfold foundByValue
    have is_iff : ∀ (j : Nat) (y : Tri), xs[j]? = some y → (y.2.1.isStr x = true ↔ y.1 = .text x) := by
      intro j y hy
      have hm := List.mem_of_getElem? hy
      have he : ent w y ∈ es := by
        rw [← Array.mem_toList_iff, D.en]
        exact List.mem_map.mpr ⟨y, hm, rfl⟩
      have hex : isExactStrKey y.2.1 = true := by
        rw [Array.all_eq_true_iff_forall_mem] at hall
        exact hall _ he
      have hn := D.ky y hm
      cases hv : y.2.1 with
      | str z u =>
        rw [hv] at hn
        have e1 : y.1 = .text z := by
          generalize y.1 = q at hn
          cases hn
          rfl
        rw [e1]
        show (z == x) = true ↔ _
        rw [beq_iff_eq]
        exact ⟨fun e => by rw [e], fun e => by cases e; rfl⟩
      | _ => rw [hv] at hex; cases hex
    cases hf : es.findIdx? (·.key.isStr x) with
    | none =>
      dsimp only
      refine wpAny_pure (hno fun j y hy e => ?_)
      have he : ent w y ∈ es := by
        rw [← Array.mem_toList_iff, D.en]
        exact List.mem_map.mpr ⟨y, List.mem_of_getElem? hy, rfl⟩
      have z := Array.findIdx?_eq_none_iff.mp hf (ent w y) he
      have z2 : y.2.1.isStr x = false := z
      rw [(is_iff j y hy).mpr e] at z2
      cases z2
    | some i =>
      dsimp only
      obtain ⟨hi, hp, _⟩ := Array.findIdx?_eq_some_iff_getElem.mp hf
      have hix : i < xs.length := by rw [← D.size]; exact hi
      have hy : xs[i]? = some xs[i] := List.getElem?_eq_getElem hix
      have hey : es[i]? = some (ent w xs[i]) := by rw [D.get i, hy]; rfl
      have hey2 : es[i] = ent w xs[i] := by
        rw [Array.getElem?_eq_getElem hi] at hey
        exact Option.some.inj hey
      rw [hey2] at hp
      have hkk : xs[i].1 = .text x := (is_iff i _ hy).mp hp
      rw [hey]
      dsimp only
      refine wpAny_bind (wpAny_dictEpoch D.at_ D.da (wpAny_bind (eq_at hu (D.ky _ (List.getElem_mem hix)) (D.dp _ (List.getElem_mem hix)) hk (wpAny_bind (wpAny_dictEpoch D.at_ D.da ?_)))))
      rw [if_neg (by simp), decide_eq_true hkk, if_pos rfl]
      exact wpAny_bind (wpAny_rule (wpAny_pure (hyes i _ hy hkk)))
  · have hany : ∀ a, key = .ref a → ¬ (es.any fun e => e.key == key && e.hash != k.hash w) = true := by
      rintro a rfl
      rw [← Array.any_toList, List.any_eq_true]
      rintro ⟨e, hin, hc⟩
      obtain ⟨x, hx, rfl⟩ := D.mem (Array.mem_toList_iff.mp hin)
      rw [Bool.and_eq_true, beq_iff_eq, bne_iff_ne] at hc
      obtain ⟨h1, h2⟩ := hc
      have z := D.ky x hx
      rw [show x.2.1 = Value.ref a from h1] at z
      exact h2 (by show x.1.hash w = _; rw [NestedIs.inj _ _ _ z hk])
    have cases2 : ∀ {B : Sem (Option Nat)} {C : Str → Sem (Option Nat)}, wpAny (model prog w) A B Q E s → wpAny (model prog w) A (match key with
        | .str s tok => if (es.all fun e => isExactStrKey e.key) = true then C s else B
        | x => B) Q E s := by
      intro B C hB
      split
      · rename_i z t
        rw [if_neg fun hz => htx ⟨z, t, rfl, hz⟩]
        exact hB
      · exact hB
    refine cases2 ?_
    dsimp only
    by_cases hbv : (key :: (placesWithHash es.size (fun i => es[i]?.map (·.hash)) (k.hash w)).filterMap (fun i => es[i]?.map (·.key))).all carriedByValue = true
    · rw [if_pos hbv]
      exact walkP
    · rw [if_neg hbv]
      have cases3 : ∀ {B : Sem (Option Nat)} {C : Sem (Option Nat)}, wpAny (model prog w) A B Q E s → wpAny (model prog w) A (match key with
          | .ref a => if (es.any fun e => e.key == key && e.hash != k.hash w) = true then C else B
          | x => B) Q E s := by
        intro B C hB
        split
        · rename_i a
          rw [if_neg (hany a rfl)]
          exact hB
        · exact hB
      refine cases3 ?_
      by_cases hone : (((placesWithHash es.size (fun i => es[i]?.map (·.hash)) (k.hash w)).filterMap (fun i => es[i]?.map (·.key))) == [key]) = true <;>
      (first | rw [if_pos hone] | rw [if_neg hone]) <;> (first | refine wpAny_bind (wpAny_pure ?_) | refine wpAny_bind (may_tell hk kd hst ?_)) <;> (
        rw [if_neg (by simp)]
        refine wpAny_bind ?_
        refine wpAny_forIn_list _ (fun l r s' => s' = s ∧ ∃ i hit, r = (none, hit) ∧ Seen xs k es w i l ∧ Hit hit i) _ ?_ ?_ _ _ ⟨rfl, 0, none, rfl, seen_start, .inl ⟨rfl, fun j _ hj => absurd hj (Nat.not_lt_zero _)⟩⟩
        · rintro x l r s' ⟨rfl, i, hit, rfl, hS, hH⟩
          obtain ⟨y, hy, hey, hny, hdy⟩ := turn hS
          obtain ⟨h1, h2, h3, h4⟩ := hS.cons
          have hH' := hitUp h1 hH h3
          rw [hey]
          dsimp only
          by_cases hh : ((ent w y).hash == k.hash w) = true
          · rw [if_pos hh]
            refine wpAny_bind (wpAny_dictEpoch D.at_ D.da (wpAny_bind (eq_at hu hny hdy hk (wpAny_bind (wpAny_dictEpoch D.at_ D.da ?_)))))
            rw [if_neg (by simp)]
            by_cases hkk : y.1 = k
            · rw [decide_eq_true hkk, if_pos rfl]
              rcases hH' with ⟨rfl, _⟩ | ⟨j, z, _, hjx, hz, hzk⟩
              · rw [if_neg (by simp)]
                refine wpAny_bind (wpAny_rule ?_)
                split
                · exact wpAny_pure (wpAny_pure (hyes x y hy hkk))
                · exact wpAny_pure ⟨rfl, x + 1, some x, rfl, h4, .inr ⟨x, y, rfl, Nat.lt_succ_self x, hy, hkk⟩⟩
              · exact absurd (one_place D.nd hz hy (hzk.trans hkk.symm)) (by omega)
            · rw [decide_eq_false hkk, if_neg Bool.false_ne_true]
              refine wpAny_bind (wpAny_rule ?_)
              rw [if_neg (by simp)]
              exact wpAny_pure ⟨rfl, x + 1, hit, rfl, h4, hitOff hH' hy hkk⟩
          · rw [if_neg hh]
            refine wpAny_pure ⟨rfl, x + 1, hit, rfl, h4, hitOff hH' hy fun e => hh ?_⟩
            show (y.1.hash w == k.hash w) = true
            rw [e]
            exact beq_self_eq_true _
        · rintro r s' ⟨rfl, i, hit, rfl, hS, hH⟩
          have hH' := hitUp hS.2 hH hS.nil
          rcases hH' with ⟨rfl, hC⟩ | ⟨j, z, rfl, _, hz, hzk⟩
          · exact wpAny_pure (hno (hC.all D))
          · exact wpAny_pure (hyes j z hz hzk))

theorem hash_key (hk : NestedIs s.heap k key) (kd : k.depth ≤ 8) (hu : A.units + 16 < cLine) {Q : Int → Shared → Prop} (h : Q (k.hash w) { s with toks := s.toks + k.draws }) : wpAny (model prog w) A (pyHash key) Q E s :=
  pyHash_key k key A s Q hk (by omega) h
/-- the heap behind a change at d: the keys' tuples stand -/
theorem key_keep {h h' : Heap} (D : Ent w h d xs o es ep) (sb : Heap.SameBut d h h') {q : NestedKey} {v : Value} (hk : NestedIs h q v) : NestedIs h' q v :=
  NestedIs.at (fun a ob vs n ha hd => by
    have hne : a ≠ d := fun e => by
      subst e
      rw [D.at_] at ha
      cases ha
      rw [D.da] at hd
      cases hd
    exact (sb.2 a hne).trans ha) q v hk

theorem get_ (D : Dic w s.heap d xs) (hu : A.units + 16 < cLine) (hk : NestedIs s.heap k key) (kd : k.depth ≤ 8) {Q : Option Value → Shared → Prop} (h : Q ((lk xs k).map (·.2.2)) { s with toks := s.toks + k.draws }) :
    wpAny (model prog w) A (dictGet d key) Q E s := by
  obtain ⟨o, es, ep, D⟩ := D
  unfold dictGet
  try with_reducible refine wpAny_holding ?_
  refine wpAny_bind (hash_key hk kd hu (wpAny_bind ?_))
  refine find (s := { s with toks := s.toks + k.draws }) D hu hk kd (fun hno => ?_) (fun j x hx hxk => ?_)
  · rw [lk_no hno] at h
    exact wpAny_pure h
  · rw [lk_at D.nd hx hxk] at h
    refine wpAny_bind (wpAny_dictEntries (s := { s with toks := s.toks + k.draws }) D.at_ D.da ?_)
    rw [D.get j, hx]
    exact wpAny_pure h
theorem set_ {v : Value} (D : Dic w s.heap d xs) (hz : xs.length ≤ sizeLine) (hu : A.units + 16 < cLine) (hk : NestedIs s.heap k key) (kd : k.depth ≤ 8) {Q : Unit → Shared → Prop}
    (h : ∀ h', Dic w h' d (sto xs k key v) → Heap.SameBut d s.heap h' → Q () { s with heap := h', toks := s.toks + k.draws }) :
    wpAny (model prog w) A (dictSet d key v) Q E s := by
  obtain ⟨o, es, ep, D⟩ := D
  unfold dictSet
  try with_reducible refine wpAny_holding ?_
  refine wpAny_bind (hash_key hk kd hu ?_)
  unfold dictSetHashed
  try with_reducible refine wpAny_holding ?_
  refine wpAny_bind (find (s := { s with toks := s.toks + k.draws }) D hu hk kd (fun hno => ?_) (fun j x hx hxk => ?_))
  · have e1 : sto xs k key v = xs ++ [(k, key, v)] := by
      unfold sto
      rw [lk_no hno]
      rfl
    have sb := Heap.SameBut.update s.heap d (Obj.mapDictKeys (·.push ⟨k.hash w, key, v⟩))
    have hnot : k ∉ xs.map (·.1) := fun hm => by
      obtain ⟨x, hx, e⟩ := List.mem_map.mp hm
      obtain ⟨j, hj⟩ := List.mem_iff_getElem?.mp hx
      exact hno j x hj e
    refine wpAny_bind (wpAny_rule (wpAny_updateDictKeys (hz := by rw [D.size]; exact hz) (s := { s with toks := s.toks + k.draws }) D.at_ D.da (h _ ⟨_, _, ep + 1, ⟨Heap.get?_update_self _ D.at_ (Obj.isFreed_of_dict (Obj.data_mapDictKeys D.da _)), D.ex.mapDictKeys _, Obj.data_mapDictKeys D.da _, ?_, ?_, ?_, ?_⟩⟩ sb)))
    · rw [e1, Array.toList_push, D.en, List.map_append]
      rfl
    · rw [e1]
      intro x hx
      rcases List.mem_append.mp hx with hx | hx
      · exact key_keep D sb (D.ky x hx)
      · obtain rfl := List.mem_singleton.mp hx
        exact key_keep D sb hk
    · rw [e1]
      intro x hx
      rcases List.mem_append.mp hx with hx | hx
      · exact D.dp x hx
      · obtain rfl := List.mem_singleton.mp hx
        exact kd
    · rw [e1, List.map_append, List.nodup_append]
      refine ⟨D.nd, by simp, fun a ha b hb => ?_⟩
      obtain rfl : b = k := by simpa using hb
      exact fun e => hnot (by rw [← e]; exact ha)
  · have e1 : sto xs k key v = xs.map (upv k v) := by
      unfold sto
      rw [lk_at D.nd hx hxk]
      rfl
    have sb := Heap.SameBut.update s.heap d (Obj.mapDict (·.modify j fun e => { e with val := v }))
    refine wpAny_bind (wpAny_rule (wpAny_bind (wpAny_updateDict (s := { s with toks := s.toks + k.draws }) D.at_ D.da (wpAny_point (h _ ⟨_, _, ep, ⟨Heap.get?_update_self _ D.at_ (Obj.isFreed_of_dict (Obj.data_mapDict D.da _)), D.ex.mapDict _, Obj.data_mapDict D.da _, ?_, ?_, ?_, ?_⟩⟩ sb)))))
    · rw [e1, ← mod_upv D.nd hx hxk, ← D.en]
      obtain ⟨l⟩ := es
      simp
    · rw [e1]
      intro x hx
      obtain ⟨y, hy, rfl⟩ := List.mem_map.mp hx
      have z := key_keep D sb (D.ky y hy)
      unfold upv
      split <;> exact z
    · rw [e1]
      intro x hx
      obtain ⟨y, hy, rfl⟩ := List.mem_map.mp hx
      have z := D.dp y hy
      unfold upv
      split <;> exact z
    · rw [e1, keys_upv]
      exact D.nd
theorem take_ (D : Dic w s.heap d xs) (hz : xs.length ≤ sizeLine) (hu : A.units + 16 < cLine) (hk : NestedIs s.heap k key) (kd : k.depth ≤ 8) {Q : Option DictEntry → Shared → Prop} {x0 : Tri} (hl : lk xs k = some x0)
    (h : ∀ e h', e.val = x0.2.2 → Dic w h' d (del xs k) → Heap.SameBut d s.heap h' → Q (some e) { s with heap := h', toks := s.toks + k.draws }) :
    wpAny (model prog w) A (Builtin.Dict.takeOut d key) Q E s := by
  obtain ⟨o, es, ep, D⟩ := D
  unfold Builtin.Dict.takeOut
  try with_reducible refine wpAny_holding ?_
  refine wpAny_bind (hash_key hk kd hu ?_)
  refine wpAny_bind (find (s := { s with toks := s.toks + k.draws }) D hu hk kd (fun hno => ?_) (fun j x hx hxk => ?_))
  · rw [lk_no hno] at hl
    cases hl
  · have hx0 : x = x0 := by
      rw [lk_at D.nd hx hxk] at hl
      exact Option.some.inj hl
    subst hx0
    refine wpAny_bind (wpAny_dictEntries (s := { s with toks := s.toks + k.draws }) D.at_ D.da ?_)
    rw [D.get j, hx]
    have sb := Heap.SameBut.update s.heap d (Obj.mapDictKeys (·.eraseIdxIfInBounds j))
    refine wpAny_bind (wpAny_updateDictKeys (hz := by rw [D.size]; exact hz) (s := { s with toks := s.toks + k.draws }) D.at_ D.da (wpAny_pure (h _ _ rfl ⟨_, _, ep + 1, ⟨Heap.get?_update_self _ D.at_ (Obj.isFreed_of_dict (Obj.data_mapDictKeys D.da _)), D.ex.mapDictKeys _, Obj.data_mapDictKeys D.da _, ?_, ?_, ?_, ?_⟩⟩ sb)))
    · rw [← del_at D.nd hx hxk, ← erase_map, ← D.en]
      obtain ⟨l⟩ := es
      simp
    · intro y hy
      exact key_keep D sb (D.ky y (List.mem_filter.mp hy).1)
    · intro y hy
      exact D.dp y (List.mem_filter.mp hy).1
    · exact List.Nodup.sublist (List.Sublist.map _ List.filter_sublist) D.nd

theorem Dic.ty (D : Dic w s.heap d xs) : s.TypeIs (.ref d) "dict" := let ⟨o, _, _, D⟩ := D; ⟨o, D.at_, D.ex.1⟩
theorem Dic.nodict {h : Heap} (D : Dic w h d xs) : ∃ ob, h.get? d = some ob ∧ ob.dict = none := let ⟨o, _, _, D⟩ := D; ⟨o, D.at_, D.ex.2.1⟩
/-- d.get(k, x) -/
theorem call_get2 {dflt : Value} (D : Dic w s.heap d xs) (hs : (d == sysModules) = false) (hu : A.units + 20 < cLine) (hk : NestedIs s.heap k key) (kd : k.depth ≤ 8) {Q : Value → Shared → Prop}
    (h : Q (((lk xs k).map (·.2.2)).getD dflt) { s with toks := s.toks + k.draws }) : wpAny (model prog w) A (call (.builtin "dict.get") [.ref d, key, dflt]) Q E s := by
  refine call_meetsIn PySem.F.slot_dict_get D.ty PySem.F.entry_dict_get (PySem.F.args_dict_get_3 _ _ _) (S := fun A' R s' => s' = s ∧ A'.units + 20 < cLine ∧ R (.ok (.ret (((lk xs k).map (·.2.2)).getD dflt))) { s with toks := s.toks + k.draws }) ?_ ⟨rfl, hu, h⟩
  refine .of_wp fun A' R s' ⟨e, hu', hR⟩ => ?_
  subst e
  show wpAny _ _ (dictGet d key >>= _) _ _ s'
  refine wpAny_bind (get_ (A := A'.in1) D (by show A'.units + 1 + 16 < cLine; omega) hk kd ?_)
  cases hf : (lk xs k).map (·.2.2) with
  | some v =>
    rw [hf] at hR
    exact wpAny_pure ⟨v, rfl, hR⟩
  | none =>
    rw [hf] at hR
    show wpAny _ _ (Builtin.Dict.missed d key >>= _) _ _ _
    exact wpAny_bind (wpAny_missed_other hs (wpAny_pure ⟨dflt, rfl, hR⟩))
/-- d.pop(k), the key there -/
theorem call_pop {x0 : Tri} (D : Dic w s.heap d xs) (hz : xs.length ≤ sizeLine) (hs : (d == sysModules) = false) (hu : A.units + 20 < cLine) (hk : NestedIs s.heap k key) (kd : k.depth ≤ 8) (hl : lk xs k = some x0) {Q : Value → Shared → Prop}
    (h : ∀ h', Dic w h' d (del xs k) → Heap.SameBut d s.heap h' → Q x0.2.2 { s with heap := h', toks := s.toks + k.draws }) : wpAny (model prog w) A (call (.builtin "dict.pop") [.ref d, key]) Q E s := by
  refine call_meetsIn PySem.F.slot_dict_pop D.ty PySem.F.entry_dict_pop (PySem.F.args_dict_pop_2 _ _) (S := fun A' R s' => s' = s ∧ A'.units + 20 < cLine ∧ ∀ h', Dic w h' d (del xs k) → Heap.SameBut d s.heap h' → R (.ok (.ret x0.2.2)) { s with heap := h', toks := s.toks + k.draws }) ?_ ⟨rfl, hu, h⟩
  refine .of_wp fun A' R s' ⟨e, hu', hR⟩ => ?_
  subst e
  unfold Builtin.«dict.pop»
  refine wpAny_bind ?_
  unfold Builtin.Dict.keyAndDefault
  refine wpAny_bind (wpAny_notOrdered_dict D.ty ?_)
  show wpAny _ _ (pure (d, key, none)) _ _ s'
  refine wpAny_pure ?_
  obtain ⟨o, es, ep, De⟩ := id D
  have hne : ¬ es.isEmpty = true := fun hemp => by
    have h0 : es.size = 0 := by simpa using hemp
    have hx : xs = [] := List.length_eq_zero_iff.mp (by rw [← De.size]; exact h0)
    subst hx
    cases hl
  dsimp only
  split
  · refine wpAny_bind (wpAny_pure ?_)
    rw [if_neg Bool.false_ne_true]
    refine wpAny_bind (take_ D hz (by show A'.units + 1 + 16 < cLine; omega) hk kd hl fun e h' he hd' hs' => ?_)
    rw [if_neg (show ¬ (some e).isNone = true from Bool.false_ne_true)]
    exact wpAny_bind (wpAny_letGo (wpAny_pure ⟨e.val, rfl, by rw [he]; exact hR h' hd' hs'⟩))
  · refine wpAny_bind (wpAny_dictEntries De.at_ De.da (wpAny_bind (wpAny_pure ?_)))
    rw [if_neg hne]
    refine wpAny_bind (take_ D hz (by show A'.units + 1 + 16 < cLine; omega) hk kd hl fun e h' he hd' hs' => ?_)
    rw [if_neg (show ¬ (some e).isNone = true from Bool.false_ne_true)]
    exact wpAny_bind (wpAny_letGo (wpAny_pure ⟨e.val, rfl, by rw [he]; exact hR h' hd' hs'⟩))
theorem op_in (neg : Bool) (D : Dic w s.heap d xs) (hs : (d == sysModules) = false) (hu : A.units + 20 < cLine) (hk : NestedIs s.heap k key) (kd : k.depth ≤ 8) {Q : Bool → Shared → Prop}
    (h : Q (lk xs k).isSome { s with toks := s.toks + k.draws }) : wpAny (model prog w) A (contains (.ref d) key) Q E s := by
  unfold contains
  try with_reducible refine wpAny_holding ?_
  refine wpAny_bind (wpAny_specialOf D.ty slot_dict_contains.lookup ?_)
  show wpAny _ _ (if (some (Value.builtin "dict.__contains__") == some Value.none) = true then _ else _) _ E s
  rw [if_neg (by rw [beq_builtin_none]; exact Bool.false_ne_true)]
  refine wpAny_bind (wpAny_callSpecialUnlessNone?_slot (name := Str.ofString "__contains__") D.ty slot_dict_contains (wpAny_call_entry slot_dict_contains D.ty entry_dict_contains ?_ (args_dict_contains _ _)))
  show wpAny _ _ (dictGet d key >>= _) _ _ s
  refine wpAny_bind (get_ (A := A.in1) D (by show A.units + 1 + 16 < cLine; omega) hk kd ?_)
  cases hf : lk xs k with
  | some p =>
    rw [hf] at h
    show wpAny _ _ (ret (.bool true)) _ _ _
    exact wpAny_pure ⟨_, rfl, wpAny_truthy_bool h⟩
  | none =>
    rw [hf] at h
    show wpAny _ _ (Builtin.Dict.pendingKey? d key >>= _) _ _ _
    exact wpAny_bind (wpAny_pendingKey_other hs (wpAny_pure ⟨_, rfl, wpAny_truthy_bool h⟩))
theorem get_item {x0 : Tri} (D : Dic w s.heap d xs) (hu : A.units + 20 < cLine) (hk : NestedIs s.heap k key) (kd : k.depth ≤ 8) (hl : lk xs k = some x0) {Q : Value → Shared → Prop}
    (h : Q x0.2.2 { s with toks := s.toks + k.draws }) : wpAny (model prog w) A (getItem (.ref d) key) Q E s := by
  unfold getItem
  try with_reducible refine wpAny_holding ?_
  refine wpAny_bind (wpAny_sequenceKey D.ty (by decide) ?_)
  refine wpAny_bind (wpAny_callSpecial?_slot (name := Str.ofString "__getitem__") D.ty slot_dict_getitem (wpAny_call_entry slot_dict_getitem D.ty entry_dict_getitem ?_ (args_dict_getitem _ _)))
  show wpAny _ _ (dictGet d key >>= _) _ _ s
  refine wpAny_bind (get_ (A := A.in1) D (by show A.units + 1 + 16 < cLine; omega) hk kd ?_)
  rw [hl]
  exact wpAny_pure ⟨x0.2.2, rfl, wpAny_pure h⟩
theorem set_item {v : Value} (D : Dic w s.heap d xs) (hz : xs.length ≤ sizeLine) (hu : A.units + 20 < cLine) (hk : NestedIs s.heap k key) (kd : k.depth ≤ 8) {Q : Unit → Shared → Prop}
    (h : ∀ h', Dic w h' d (sto xs k key v) → Heap.SameBut d s.heap h' → Q () { s with heap := h', toks := s.toks + k.draws }) : wpAny (model prog w) A (setItem (.ref d) key v) Q E s := by
  unfold setItem
  try with_reducible refine wpAny_holding ?_
  refine wpAny_bind (wpAny_sequenceKey D.ty (by decide) ?_)
  refine wpAny_bind (wpAny_callSpecial?_slot (name := Str.ofString "__setitem__") D.ty slot_dict_setitem (wpAny_call_entry slot_dict_setitem D.ty entry_dict_setitem ?_ (args_dict_setitem _ _ _)))
  show wpAny _ _ (Builtin.Dict.notOrdered "__setitem__" ⟨[.ref d, key, v], []⟩ >>= _) _ _ s
  refine wpAny_bind (wpAny_notOrdered_dict D.ty ?_)
  show wpAny _ _ (dictSet d key v >>= _) _ _ s
  exact wpAny_bind (set_ (A := A.in1) D hz (by show A.units + 1 + 16 < cLine; omega) hk kd fun h' hd' hs' => wpAny_pure ⟨.none, rfl, wpAny_pure (h h' hd' hs')⟩)
end
end Dn

end
section
/-! Dx: mixed-key dicts over the hand layer: an object of the abstract heap (HO.ext), its rules. -/
namespace Dx
open PySem PySem.Spec L2

mutual
/-- the value v is the key k in H -/
inductive Ky (K : PySem.W.Frag) (H : Hp) : V → NestedKey → Prop
  | non : Ky K H .non .none
  | int (i : Int) : Ky K H (.int i) (.num i)
  | str (x : Str) : Ky K H (.str x) (.text x)
  | tup {a : Addr} {vs : List V} {ks : List NestedKey} (h : SqT K H a vs) (r : KyA K H vs ks) : Ky K H (.ref a) (.tup ks)
inductive KyA (K : PySem.W.Frag) (H : Hp) : List V → List NestedKey → Prop
  | nil : KyA K H [] []
  | cons {v : V} {vs : List V} {k : NestedKey} {ks : List NestedKey} (h : Ky K H v k) (r : KyA K H vs ks) : KyA K H (v :: vs) (k :: ks)
end
mutual
theorem Ky.is {X : Cx} {pins : List (Addr × Obj)} {σ : L2.St} {H : Hp} {s : Shared} (I : Inv X pins σ H s) : ∀ {v : V} {k : NestedKey} {u : Value}, Ky X.K H v k → RelV v u → NestedIs s.heap k u
  | _, _, _, .non, r => by cases r; exact .none
  | _, _, _, .int i, r => by obtain ⟨t, rfl⟩ := r; exact .int i t
  | _, _, _, .str x, r => by obtain ⟨t, rfl⟩ := r; exact .text x t
  | _, _, _, .tup h q, r => by
    cases r
    obtain ⟨its, rv, ⟨o, e1, e2, n, e3⟩, hz⟩ := I.tuple h
    exact .tup e1 e2 e3 (by simpa using KyA.is I q rv)
theorem KyA.is {X : Cx} {pins : List (Addr × Obj)} {σ : L2.St} {H : Hp} {s : Shared} (I : Inv X pins σ H s) : ∀ {vs : List V} {ks : List NestedKey} {us : List Value}, KyA X.K H vs ks → Vals vs us → NestedAll s.heap ks us
  | _, _, _, .nil, r => by cases r; exact .nil
  | _, _, _, .cons h q, r => by
    cases r with
    | cons r1 r2 => exact .cons (Ky.is I h r1) (KyA.is I q r2)
end

/-- key, its value, the value -/
abbrev Ent := NestedKey × V × V
def EntR (w : World) (x : Ent) (e : DictEntry) : Prop := e.hash = x.1.hash w ∧ RelV x.2.1 e.key ∧ RelV x.2.2 e.val
/-- the dict's own object -/
def phi (w : World) (a : Addr) (xs : List Ent) (h : Heap) : Prop := (a == sysModules) = false ∧ xs.length ≤ sizeLine ∧ (xs.map (·.1)).Nodup ∧ (∀ x ∈ xs, x.1.depth ≤ 8) ∧
  ∃ o es ep, h.get? a = some o ∧ o.ExactDict ∧ o.data = .dict es ep ∧ Paired (EntR w) xs es.toList
def obj (w : World) (a : Addr) (xs : List Ent) : HO := .ext (phi w a xs)
/-- at a stands this dict, each key's value is the key -/
structure At (K : PySem.W.Frag) (w : World) (H : Hp) (a : Addr) (xs : List Ent) : Prop where
  ob : H a = some (obj w a xs)
  ky : ∀ x ∈ xs, Ky K H x.2.1 x.1
def vlk (xs : List Ent) (k : NestedKey) : Option V := (xs.find? fun x => decide (x.1 = k)).map (·.2.2)
def vup (k : NestedKey) (v : V) (x : Ent) : Ent := if x.1 = k then (x.1, x.2.1, v) else x
def vsto (xs : List Ent) (k : NestedKey) (y v : V) : List Ent := if (xs.find? fun x => decide (x.1 = k)).isSome then xs.map (vup k v) else xs ++ [(k, y, v)]
def vdel (xs : List Ent) (k : NestedKey) : List Ent := xs.filter fun x => decide (x.1 ≠ k)
theorem vsto_len (xs : List Ent) (k : NestedKey) (y v : V) : (vsto xs k y v).length ≤ xs.length + 1 := by
  unfold vsto
  split
  · rw [List.length_map]; omega
  · rw [List.length_append]; exact Nat.le_refl _

/-- the entries in the model's values -/
def TriR (x : Ent) (t : Dn.Tri) : Prop := x.1 = t.1 ∧ RelV x.2.1 t.2.1 ∧ RelV x.2.2 t.2.2
theorem tri_of {w : World} : ∀ {xs : List Ent} {es : List DictEntry}, Paired (EntR w) xs es → ∃ ts, Paired TriR xs ts ∧ es = ts.map (Dn.ent w)
  | _, _, .nil => ⟨[], .nil, rfl⟩
  | x :: xs, e :: es, .cons ⟨h1, h2, h3⟩ t => by
    obtain ⟨ts, r, q⟩ := tri_of t
    refine ⟨(x.1, e.key, e.val) :: ts, .cons ⟨rfl, h2, h3⟩ r, ?_⟩
    rw [q, List.map_cons]
    congr 1
    cases e
    cases h1
    rfl
theorem ent_of {w : World} : ∀ {xs : List Ent} {ts : List Dn.Tri}, Paired TriR xs ts → Paired (EntR w) xs (ts.map (Dn.ent w))
  | _, _, .nil => .nil
  | _, _, .cons ⟨h1, h2, h3⟩ t => .cons ⟨by rw [h1]; rfl, h2, h3⟩ (ent_of t)
theorem tri_keys : ∀ {xs : List Ent} {ts : List Dn.Tri}, Paired TriR xs ts → xs.map (·.1) = ts.map (·.1)
  | _, _, .nil => rfl
  | _, _, .cons ⟨h1, _⟩ t => by rw [List.map_cons, List.map_cons, h1, tri_keys t]
theorem tri_mem {P : NestedKey → Prop} : ∀ {xs : List Ent} {ts : List Dn.Tri}, Paired TriR xs ts → (∀ x ∈ xs, P x.1) → ∀ t ∈ ts, P t.1
  | _, _, .nil, _, _, h => nomatch h
  | x :: xs, t :: ts, .cons ⟨h1, _⟩ r, hx, u, hu => by
    rcases List.mem_cons.mp hu with rfl | hu
    · rw [← h1]; exact hx x List.mem_cons_self
    · exact tri_mem r (fun y hy => hx y (List.mem_cons_of_mem _ hy)) u hu
theorem tri_find (k : NestedKey) : ∀ {xs : List Ent} {ts : List Dn.Tri}, Paired TriR xs ts → ((xs.find? fun x => decide (x.1 = k)) = none ∧ Dn.lk ts k = none) ∨ ∃ x t, (xs.find? fun x => decide (x.1 = k)) = some x ∧ Dn.lk ts k = some t ∧ TriR x t
  | _, _, .nil => .inl ⟨rfl, rfl⟩
  | x :: xs, t :: ts, .cons h r => by
    unfold Dn.lk
    rw [List.find?_cons, List.find?_cons, ← h.1]
    by_cases e : x.1 = k
    · rw [decide_eq_true e]
      exact .inr ⟨x, t, rfl, rfl, h⟩
    · rw [decide_eq_false e]
      exact tri_find k r
theorem tri_map (k : NestedKey) {v : V} {u : Value} (rv : RelV v u) : ∀ {xs : List Ent} {ts : List Dn.Tri}, Paired TriR xs ts → Paired TriR (xs.map (vup k v)) (ts.map (Dn.upv k u))
  | _, _, .nil => .nil
  | x :: xs, t :: ts, .cons h r => by
    refine .cons ?_ (tri_map k rv r)
    unfold vup Dn.upv
    by_cases e : x.1 = k
    · rw [if_pos e, if_pos (h.1.symm.trans e)]
      exact ⟨h.1, h.2.1, rv⟩
    · rw [if_neg e, if_neg (fun z => e (h.1.trans z))]
      exact h
theorem tri_app : ∀ {xs ys : List Ent} {ts us : List Dn.Tri}, Paired TriR xs ts → Paired TriR ys us → Paired TriR (xs ++ ys) (ts ++ us)
  | _, _, _, _, .nil, h => h
  | _, _, _, _, .cons h r, q => .cons h (tri_app r q)
theorem tri_sto {xs : List Ent} {ts : List Dn.Tri} (r : Paired TriR xs ts) (k : NestedKey) {y v : V} {z u : Value} (ry : RelV y z) (rv : RelV v u) : Paired TriR (vsto xs k y v) (Dn.sto ts k z u) := by
  unfold vsto Dn.sto
  rcases tri_find k r with ⟨e1, e2⟩ | ⟨x, t, e1, e2, _⟩
  · rw [e1, e2]
    exact tri_app r (.cons ⟨rfl, ry, rv⟩ .nil)
  · rw [e1, e2]
    exact tri_map k rv r
theorem tri_del (k : NestedKey) : ∀ {xs : List Ent} {ts : List Dn.Tri}, Paired TriR xs ts → Paired TriR (vdel xs k) (Dn.del ts k)
  | _, _, .nil => .nil
  | x :: xs, t :: ts, .cons h r => by
    unfold vdel Dn.del
    rw [List.filter_cons, List.filter_cons, ← h.1]
    by_cases e : x.1 ≠ k
    · rw [decide_eq_true e]
      exact .cons h (tri_del k r)
    · rw [decide_eq_false e]
      exact tri_del k r

section
variable {X : Cx} {pins : List (Addr × Obj)} {σ : L2.St} {H : Hp} {s : Shared} {a : Addr} {xs : List Ent} {k : NestedKey} {y v : V} {u r : Value} {A : Around} {E : Value → Shared → Prop}
theorem raw_of (I : Inv X pins σ H s) (h : H a = some (obj X.w a xs)) : phi X.w a xs s.heap := by
  obtain ⟨p, _⟩ := (show ObjOk X.prog X.w H s.heap a (.ext (phi X.w a xs)) from I.hok a _ h)
  exact p
theorem dic_of (I : Inv X pins σ H s) (D : At X.K X.w H a xs) : (a == sysModules) = false ∧ xs.length ≤ sizeLine ∧ ∃ ts, Paired TriR xs ts ∧ Dn.Dic X.w s.heap a ts := by
  obtain ⟨h1, h2, h3, h4, o, es, ep, e1, e2, e3, e4⟩ := raw_of I D.ob
  obtain ⟨ts, r, e⟩ := tri_of e4
  refine ⟨h1, h2, ts, r, o, es, ep, ⟨e1, e2, e3, e, ?_, tri_mem (P := fun q => q.depth ≤ 8) r h4, ?_⟩⟩
  · have all : ∀ {l : List Ent} {m : List Dn.Tri}, Paired TriR l m → (∀ x ∈ l, Ky X.K H x.2.1 x.1) → ∀ t ∈ m, NestedIs s.heap t.1 t.2.1 := by
      intro l m q
      induction q with
      | nil => intro _ t ht; exact nomatch ht
      | @cons p q ps qs hq t ih =>
        intro hl t ht
        rcases List.mem_cons.mp ht with rfl | ht
        · rw [← hq.1]
          exact (hl p List.mem_cons_self).is I hq.2.1
        · exact ih (fun x hx => hl x (List.mem_cons_of_mem _ hx)) t ht
    exact all r D.ky
  · rw [← tri_keys r]
    exact h3
theorem phi_of {w : World} {h : Heap} {ts : List Dn.Tri} (hs : (a == sysModules) = false) (hz : xs.length ≤ sizeLine) (r : Paired TriR xs ts) (D : Dn.Dic w h a ts) : phi w a xs h := by
  obtain ⟨o, es, ep, D⟩ := D
  refine ⟨hs, hz, ?_, fun x hx => ?_, o, es, ep, D.at_, D.ex, D.da, ?_⟩
  · rw [tri_keys r]; exact D.nd
  · have hm : x.1 ∈ ts.map (·.1) := by
      rw [← tri_keys r]
      exact List.mem_map.mpr ⟨x, hx, rfl⟩
    obtain ⟨t, ht, e⟩ := List.mem_map.mp hm
    rw [← e]
    exact D.dp t ht
  · rw [D.en]
    exact ent_of r
theorem ok_of {P : Program} {w : World} {h : Heap} (p : phi w a xs h) : ObjOk P w H h a (obj w a xs) := by
  refine ⟨p, ?_, fun h1 h2 q st => ?_⟩
  · obtain ⟨_, _, _, _, o, _, _, e, _⟩ := p
    exact ⟨o, e⟩
  · obtain ⟨q1, q2, q3, q4, o, es, ep, e1, q5⟩ := q
    exact ⟨q1, q2, q3, q4, o, es, ep, st o e1, q5⟩
/-- behind a change at a -/
theorem wr (I : Inv X pins σ H s) (D : At X.K X.w H a xs) {ys : List Ent} {ts : List Dn.Tri} {h' : Heap} {t' : Nat} (hs : (a == sysModules) = false) (hz : ys.length ≤ sizeLine) (rr : Paired TriR ys ts) (D' : Dn.Dic X.w h' a ts) (sb : Heap.SameBut a s.heap h') :
    Inv X pins σ (upd H a (obj X.w a ys)) { s with heap := h', toks := t' } :=
  d_write I (by rw [D.ob]; exact True.intro) sb (let ⟨o, _, _, D'⟩ := D'; ⟨o, D'.at_⟩) (ok_of (phi_of hs hz rr D'))

/-- d[k] = v by any road that stores -/
theorem put_by {α : Type} {t : Sem α} {Q : α → Shared → Prop} (I : Inv X pins σ H s) (D : At X.K X.w H a xs) (hz : xs.length < sizeLine) (ry : RelV y u) (rv : RelV v r) (hk : Ky X.K H y k) (kd : k.depth ≤ 8)
    (ht : ∀ ts, Dn.Dic X.w s.heap a ts → ts.length ≤ sizeLine → NestedIs s.heap k u → (a == sysModules) = false →
      (∀ h' t', Dn.Dic X.w h' a (Dn.sto ts k u r) → Heap.SameBut a s.heap h' → Inv X pins σ (upd H a (obj X.w a (vsto xs k y v))) { s with heap := h', toks := t' }) → wpAny (model X.prog X.w) A t Q E s) : wpAny (model X.prog X.w) A t Q E s := by
  obtain ⟨hs, h2, ts, rr, D'⟩ := dic_of I D
  refine ht ts D' (by rw [← Paired.length rr]; exact h2) (hk.is I ry) hs fun h' t' D2 sb => wr I D hs ?_ (tri_sto rr k ry rv) D2 sb
  have := vsto_len xs k y v
  omega
theorem set_item {Q : Unit → Shared → Prop} (hu : A.units + 20 < cLine) (I : Inv X pins σ H s) (D : At X.K X.w H a xs) (hz : xs.length < sizeLine) (ry : RelV y u) (rv : RelV v r) (hk : Ky X.K H y k) (kd : k.depth ≤ 8)
    (h : ∀ s', Inv X pins σ (upd H a (obj X.w a (vsto xs k y v))) s' → Q () s') : wpAny (model X.prog X.w) A (setItem (.ref a) u r) Q E s :=
  put_by I D hz ry rv hk kd fun ts D' hz' hn _ w => Dn.set_item D' hz' hu hn kd fun h' D2 sb => h _ (w h' _ D2 sb)
theorem dict_set {Q : Unit → Shared → Prop} (hu : A.units + 20 < cLine) (I : Inv X pins σ H s) (D : At X.K X.w H a xs) (hz : xs.length < sizeLine) (ry : RelV y u) (rv : RelV v r) (hk : Ky X.K H y k) (kd : k.depth ≤ 8)
    (h : ∀ s', Inv X pins σ (upd H a (obj X.w a (vsto xs k y v))) s' → Q () s') : wpAny (model X.prog X.w) A (dictSet a u r) Q E s :=
  put_by I D hz ry rv hk kd fun ts D' hz' hn _ w => Dn.set_ D' hz' (by omega) hn kd fun h' D2 sb => h _ (w h' _ D2 sb)
theorem get2 {d : V} {Q : Value → Shared → Prop} (hu : A.units + 20 < cLine) (I : Inv X pins σ H s) (D : At X.K X.w H a xs) (ry : RelV y u) (rd : RelV d r) (hk : Ky X.K H y k) (kd : k.depth ≤ 8)
    (h : ∀ w' s', Inv X pins σ H s' → RelV ((vlk xs k).getD d) w' → Q w' s') : wpAny (model X.prog X.w) A (call (.builtin "dict.get") [.ref a, u, r]) Q E s := by
  obtain ⟨hs, h2, ts, rr, D'⟩ := dic_of I D
  refine Dn.call_get2 D' hs hu (hk.is I ry) kd (h _ _ (I.tok _) ?_)
  unfold vlk
  rcases tri_find k rr with ⟨e1, e2⟩ | ⟨x, t, e1, e2, q⟩
  · rw [e1, e2]; exact rd
  · rw [e1, e2]; exact q.2.2
theorem pop1 {Q : Value → Shared → Prop} (hu : A.units + 20 < cLine) (I : Inv X pins σ H s) (D : At X.K X.w H a xs) (ry : RelV y u) (hk : Ky X.K H y k) (kd : k.depth ≤ 8) (hl : vlk xs k = some v)
    (h : ∀ w' s', Inv X pins σ (upd H a (obj X.w a (vdel xs k))) s' → RelV v w' → Q w' s') : wpAny (model X.prog X.w) A (call (.builtin "dict.pop") [.ref a, u]) Q E s := by
  obtain ⟨hs, h2, ts, rr, D'⟩ := dic_of I D
  unfold vlk at hl
  rcases tri_find k rr with ⟨e1, e2⟩ | ⟨x, t, e1, e2, q⟩
  · rw [e1] at hl; cases hl
  · rw [e1] at hl
    have hv : x.2.2 = v := Option.some.inj hl
    refine Dn.call_pop D' (by rw [← Paired.length rr]; exact h2) hs hu (hk.is I ry) kd e2 fun h' D2 sb => h _ _ (wr I D hs ?_ (tri_del k rr) D2 sb) (by rw [← hv]; exact q.2.2)
    exact Nat.le_trans (List.length_filter_le _ _) h2
theorem has {Q : Bool → Shared → Prop} (hu : A.units + 20 < cLine) (I : Inv X pins σ H s) (D : At X.K X.w H a xs) (ry : RelV y u) (hk : Ky X.K H y k) (kd : k.depth ≤ 8) (h : ∀ s', Inv X pins σ H s' → Q (vlk xs k).isSome s') :
    wpAny (model X.prog X.w) A (contains (.ref a) u) Q E s := by
  obtain ⟨hs, h2, ts, rr, D'⟩ := dic_of I D
  refine Dn.op_in false D' hs hu (hk.is I ry) kd ?_
  have e : (Dn.lk ts k).isSome = (vlk xs k).isSome := by
    unfold vlk
    rcases tri_find k rr with ⟨e1, e2⟩ | ⟨x, t, e1, e2, _⟩
    · rw [e1, e2]; rfl
    · rw [e1, e2]; rfl
  rw [e]
  exact h _ (I.tok _)
theorem get_item {Q : Value → Shared → Prop} (hu : A.units + 20 < cLine) (I : Inv X pins σ H s) (D : At X.K X.w H a xs) (ry : RelV y u) (hk : Ky X.K H y k) (kd : k.depth ≤ 8) (hl : vlk xs k = some v)
    (h : ∀ w' s', Inv X pins σ H s' → RelV v w' → Q w' s') : wpAny (model X.prog X.w) A (getItem (.ref a) u) Q E s := by
  obtain ⟨hs, h2, ts, rr, D'⟩ := dic_of I D
  unfold vlk at hl
  rcases tri_find k rr with ⟨e1, e2⟩ | ⟨x, t, e1, e2, q⟩
  · rw [e1] at hl; cases hl
  · rw [e1] at hl
    have hv : x.2.2 = v := Option.some.inj hl
    exact Dn.get_item D' hu (hk.is I ry) kd e2 (h _ _ (I.tok _) (by rw [← hv]; exact q.2.2))
end

/-! ### the rules -/
section
variable {X : Cx}
def rIn (K : PySem.W.Frag) (w : World) (neg : Bool) : R2 := fun y x H Q => ∃ a xs k, x = .ref a ∧ At K w H a xs ∧ Ky K H y k ∧ k.depth ≤ 8 ∧ Q (.bl (if neg then !(vlk xs k).isSome else (vlk xs k).isSome)) H
theorem op_in (hu : X.A.units + 20 < cLine) : OpR X (compareOp .In) (rIn X.K X.w false) := by
  intro pins s σ H y x u v Q I ry rx h
  obtain ⟨a, xs, k, rfl, D, hk, kd, q⟩ := h
  obtain rfl : v = Value.ref a := rx
  show wpAny _ _ (do return Value.bool (← contains (.ref a) u)) _ _ s
  refine wpAny_bind (has hu I D ry hk kd fun s' I' => wpAny_pure ?_)
  exact ⟨.bl (vlk xs k).isSome, H, I', rfl, q⟩
theorem op_notIn (hu : X.A.units + 20 < cLine) : OpR X (compareOp .NotIn) (rIn X.K X.w true) := by
  intro pins s σ H y x u v Q I ry rx h
  obtain ⟨a, xs, k, rfl, D, hk, kd, q⟩ := h
  obtain rfl : v = Value.ref a := rx
  show wpAny _ _ (do return Value.bool (!(← contains (.ref a) u))) _ _ s
  refine wpAny_bind (has hu I D ry hk kd fun s' I' => wpAny_pure ?_)
  exact ⟨.bl (!(vlk xs k).isSome), H, I', rfl, q⟩
def rSet (K : PySem.W.Frag) (w : World) : TSet := fun o i v H Q => ∃ a xs k, o = .ref a ∧ At K w H a xs ∧ xs.length < sizeLine ∧ Ky K H i k ∧ k.depth ≤ 8 ∧ Q (upd H a (obj w a (vsto xs k i v)))
theorem set_rule (hu : X.A.units + 20 < cLine) : PSet X (rSet X.K X.w) := by
  intro pins s σ H o i v ov iv u Q I ro ri rv h
  obtain ⟨a, xs, k, rfl, D, hz, hk, kd, q⟩ := h
  obtain rfl : ov = Value.ref a := ro
  exact set_item hu I D hz ri rv hk kd fun s' I' => ⟨_, I', q⟩
def tGet (K : PySem.W.Frag) (w : World) (td ty : TE) : TE := fun σ H Q => td σ H fun x H1 => ty σ H1 fun y H2 => ∃ a xs k v, x = .ref a ∧ At K w H2 a xs ∧ Ky K H2 y k ∧ k.depth ≤ 8 ∧ vlk xs k = some v ∧ Q v H2
theorem pe_get {o i : Expr} {pos : Pos} {td ty : TE} (hu : X.A.units + 20 < cLine) (ho : PE X o td) (hi : PE X i ty) (hs : NoSl i) : PE X (.Subscript o i pos) (tGet X.K X.w td ty) := by
  refine ⟨fun pins s σ H Q I h => ?_⟩
  refine subD_of PySem.F.slot_dict_getitem.lookup hs (thn (ho.run pins s σ H _ I h) fun u s1 ⟨x, H1, I1, rx, q1⟩ => thn (hi.run pins s1 σ H1 _ I1 q1) fun iv s2 ⟨y, H2, I2, ry, a, xs, k, v, ex, D, hk, kd, hl, q2⟩ => ?_)
  subst ex
  obtain rfl : u = Value.ref a := rx
  obtain ⟨_, _, ts, _, D'⟩ := dic_of I2 D
  exact ⟨D'.ty, get_item hu I2 D ry hk kd hl fun w' s3 I3 rw' => ⟨v, H2, I3, rw', q2⟩⟩
/-- a method of the dict: what the receiver is, then the arguments -/
def tM (K : PySem.W.Frag) (w : World) (r : Addr → List V → Hp → VK → Prop) (td : TE) (t : TA) : TE := fun σ H Q => td σ H fun x H1 => ∃ a, x = .ref a ∧ (∃ xs, H1 a = some (obj w a xs)) ∧ t σ H1 fun vs H2 => r a vs H2 Q
theorem pe_m {o e : Expr} {es : List Expr} {name : Str} {id : String} {apos cpos : Pos} {td : TE} {t : TA} {r : Addr → List V → Hp → VK → Prop} (slot : Slot "dict" name id) (hty : typeOf (.builtin id) = pure (.type "method_descriptor"))
    (hm : ∀ (pins : List (Addr × Obj)) (s : Shared) (σ : L2.St) (H : Hp) (a : Addr) (vs : List V) (us : List Value) (Q : VK), Inv X pins σ H s → Vals vs us → r a vs H Q → wpAny (model X.prog X.w) X.A (call (.builtin id) (.ref a :: us)) (EP X pins σ Q) X.xe s)
    (ho : PE X o td) (ha : PA X (e :: es) t) (hbase : attributeBase o name X.env (eval o X.env) = eval o X.env := by rfl)
    (hfew : ((backTo cpos (starEach (e :: es) X.env)).all (fun x => !x.1) && (backToKw cpos (keywordEach [] X.env)).all (fun x => x.1.isSome) && decide ((e :: es).length + ([] : List Keyword).length + (if ([] : List Keyword).isEmpty then 0 else 1) < 30)) = true := by rfl)
    (hline : (apos.endLine == cpos.line) = true := by rfl) (hs : starEach (e :: es) X.env = (false, eval e X.env) :: starEach es X.env := by rfl) (hplain : (backTo cpos (starEach es X.env)).any (·.1) = false := by rfl) :
    PE X (.Call (.Attribute o name apos) (e :: es) [] cpos) (tM X.K X.w r td t) := by
  refine ⟨fun pins s σ H Q I h => ?_⟩
  refine wpAny_Call_method_late hbase hfew hline rfl (thn (ho.run pins s σ H _ I h) fun v s1 ⟨x, H1, I1, r1, a, ex, ⟨xs, hob⟩, q1⟩ => ?_)
  subst ex
  obtain rfl : v = Value.ref a := r1
  obtain ⟨_, _, _, _, ob, _, _, e1, e2, _⟩ := raw_of I1 hob
  refine ⟨"dict", id, PySem.F.plainAttrs_dict, slot, hty, ⟨ob, e1, e2.1⟩, fun b e => by cases e; exact ⟨ob, e1, e2.2.1⟩, ?_⟩
  have hA := ha.run cpos pins s1 σ H1 _ I1 q1
  rw [hs] at hA ⊢
  refine Calls.callWith_builtin (by show (false || (backTo cpos (starEach es X.env)).any (·.1)) = false; rw [hplain] <;> rfl) (Calls.evalArgs_plain ?_)
  exact thn hA fun us s2 ⟨vs, H2, I2, r2, q2⟩ => hm pins s2 σ H2 a vs us Q I2 r2 q2
def rGet2 (K : PySem.W.Frag) (w : World) : Addr → List V → Hp → VK → Prop := fun a vs H Q => ∃ y d xs k, vs = [y, d] ∧ At K w H a xs ∧ Ky K H y k ∧ k.depth ≤ 8 ∧ Q ((vlk xs k).getD d) H
def rPop1 (K : PySem.W.Frag) (w : World) : Addr → List V → Hp → VK → Prop := fun a vs H Q => ∃ y xs k v, vs = [y] ∧ At K w H a xs ∧ Ky K H y k ∧ k.depth ≤ 8 ∧ vlk xs k = some v ∧ Q v (upd H a (obj w a (vdel xs k)))
theorem mt_get2 (hu : X.A.units + 20 < cLine) (pins : List (Addr × Obj)) (s : Shared) (σ : L2.St) (H : Hp) (a : Addr) (vs : List V) (us : List Value) (Q : VK) (I : Inv X pins σ H s) (rv : Vals vs us) (h : rGet2 X.K X.w a vs H Q) :
    wpAny (model X.prog X.w) X.A (call (.builtin "dict.get") (.ref a :: us)) (EP X pins σ Q) X.xe s := by
  obtain ⟨y, d, xs, k, rfl, D, hk, kd, q⟩ := h
  cases rv with
  | cons r1 rv =>
    cases rv with
    | cons r2 rv =>
      cases rv
      exact get2 hu I D r1 r2 hk kd fun w' s' I' r' => ⟨_, H, I', r', q⟩
theorem mt_pop1 (hu : X.A.units + 20 < cLine) (pins : List (Addr × Obj)) (s : Shared) (σ : L2.St) (H : Hp) (a : Addr) (vs : List V) (us : List Value) (Q : VK) (I : Inv X pins σ H s) (rv : Vals vs us) (h : rPop1 X.K X.w a vs H Q) :
    wpAny (model X.prog X.w) X.A (call (.builtin "dict.pop") (.ref a :: us)) (EP X pins σ Q) X.xe s := by
  obtain ⟨y, xs, k, v, rfl, D, hk, kd, hl, q⟩ := h
  cases rv with
  | cons r1 rv =>
    cases rv
    exact pop1 hu I D r1 hk kd hl fun w' s' I' r' => ⟨_, _, I', r', q⟩
end
end Dx

end
section
/-! Dx, further: .items() walked, displays, comprehensions of mixed-key dicts. -/
namespace Dx
open PySem PySem.Spec L2

/-- the pairs of the locked dict at d, each a new tuple -/
def Ipr (w : World) (d : Addr) (o : Obj) (xs : List Ent) : It :=
  ⟨fun i H => H d = some (.frz o (obj w d xs)) ∧ i < xs.length, fun i H x H' => ∃ T e, xs[i]? = some e ∧ x = .ref T ∧ H T = none ∧ H' = upd H T (.tup [e.2.1, e.2.2]), fun i H => H d = some (.frz o (obj w d xs)) ∧ xs.length ≤ i⟩
theorem pr_get {w : World} : ∀ {xs : List Ent} {es : List DictEntry} {i : Nat} {x : Ent}, Paired (EntR w) xs es → xs[i]? = some x → ∃ e, es[i]? = some e ∧ EntR w x e
  | _, _, _, _, .nil, e => by cases e
  | _, _, 0, _, .cons h _, e => by cases e; exact ⟨_, rfl, h⟩
  | _, _, i + 1, _, .cons _ t, e => pr_get (i := i) t e
section
variable {P : Program} {w : World} {K : PySem.W.Frag} {d : Addr} {o : Obj}
theorem frz_raw {X : Cx} {pins : List (Addr × Obj)} {σ : L2.St} {H : Hp} {s : Shared} {xs : List Ent} (I : Inv X pins σ H s) (h : H d = some (.frz o (obj X.w d xs))) :
    s.heap.get? d = some o ∧ (d == sysModules) = false ∧ ∃ es ep, o.ExactDict ∧ o.data = .dict es ep ∧ Paired (EntR X.w) xs es.toList ∧ es.size = xs.length ∧ s.heap.DictRaw d es ep := by
  obtain ⟨e, p, _⟩ := (show ObjOk X.prog X.w H s.heap d (.frz o (.ext (phi X.w d xs))) from I.hok d _ h)
  obtain ⟨h1, _, _, _, o', es, ep, e1, e2, e3, e4⟩ := p
  rw [e] at e1
  cases e1
  exact ⟨e, h1, es, ep, e2, e3, e4, by rw [← Array.length_toList, Paired.length e4], o, e, e2, e3⟩
theorem same_dict {es es' : Array DictEntry} {ep ep' : Nat} (h : o.data = .dict es ep) (h' : o.data = .dict es' ep') : es' = es ∧ ep' = ep := by
  rw [h] at h'
  cases h'
  exact ⟨rfl, rfl⟩
theorem turn_pr {xs : List Ent} {es : Array DictEntry} {ep : Nat} {elts : List Expr} {kk : Nat} {tpos : Pos} (it : Addr) (hod : o.data = .dict es ep) :
    Turn P w K (.Tuple elts kk tpos) (Ipr w d o xs) [it] it (fun i h => ∃ ok ov, IsItemIter h it d i xs.length ep ok ov) where
  mem := List.mem_singleton.mpr rfl
  obj := fun i h st b hb => by
    obtain rfl := List.mem_singleton.mp hb
    obtain ⟨ok, ov, e⟩ := st
    exact ⟨_, e, fun v z => nomatch z⟩
  keep := fun i h h' st k => by
    obtain ⟨ok, ov, e⟩ := st
    exact ⟨ok, ov, k it (List.mem_singleton.mpr rfl) _ e⟩
  item := by
    intro X hP hw hK hc i pins s σ H E I hf st hg
    subst hP hw hK
    obtain ⟨hd, hi⟩ := hg
    obtain ⟨hgd, hs, es', ep', hx, hdt, rel, hsz, hm⟩ := frz_raw I hd
    obtain ⟨rfl, rfl⟩ := same_dict hod hdt
    obtain ⟨x, hxi⟩ : ∃ x, xs[i]? = some x := ⟨xs[i], List.getElem?_eq_getElem hi⟩
    obtain ⟨e, he, r⟩ := pr_get rel hxi
    have hie : i < es'.size := by rw [hsz]; exact hi
    have hee : es'[i] = e := by
      rw [Array.getElem?_toList, Array.getElem?_eq_getElem hie] at he
      exact Option.some.inj he
    obtain ⟨ok, ov, hit⟩ := st
    rw [← hsz] at hit
    have hlt : it < s.heap.objs.size := Heap.lt_size hit
    refine wpAny_pyNext_items_item_raw hit hm hie fun h' ho hT hz hk => ?_
    rw [hee] at ho hT
    refine ⟨_, rfl, wpAny_letOwnedTupleGo_items (s := { s with heap := h' }) ho fun h2 he2 sb => ?_⟩
    have hT2 : h2.get? s.heap.objs.size = some { cls := .type "tuple", data := .seq #[e.key, e.val] } := (sb.2 _ (Nat.ne_of_gt hlt)).trans hT
    have new : ObjOk X.prog X.w (upd H s.heap.objs.size (.tup [x.2.1, x.2.2])) h2 s.heap.objs.size (.tup [x.2.1, x.2.2]) :=
      ⟨by show 2 ≤ sizeLine; decide, [e.key, e.val], .cons r.2.1 (.cons r.2.2 .nil), ⟨_, hT2, rfl, _, rfl⟩⟩
    have I1 : Inv X pins σ (upd H s.heap.objs.size (.tup [x.2.1, x.2.2])) { s with heap := h2 } :=
      I.turnedNew (t' := s.toks) (ch := [it]) (fun b ob hb q => (sb.2 b (by simpa using hb)).trans (hk b ob (by simpa using hb) q)) hf (Nat.le_refl _) new
    refine ⟨.ref s.heap.objs.size, _, I1, rfl, ⟨_, x, hxi, rfl, I.hok.fresh (Nat.le_refl _), rfl⟩, ⟨e.key, e.val, ?_⟩, fun b hb => ?_⟩
    · rw [← hsz]
      exact he2
    · obtain rfl := List.mem_singleton.mp hb
      rw [upd_ne (Nat.ne_of_lt hlt)]
      exact (hf b hb).1
  done := by
    intro X hP hw hK hc i pins s σ H E I hf st hg
    subst hP hw hK
    obtain ⟨hd, hi⟩ := hg
    obtain ⟨f0, f1, f2, f3, f4, f5⟩ := hf it (List.mem_singleton.mpr rfl)
    obtain ⟨hgd, hs, es', ep', hx, hdt, rel, hsz, hm⟩ := frz_raw I hd
    obtain ⟨rfl, rfl⟩ := same_dict hod hdt
    obtain ⟨ok, ov, hit⟩ := st
    rw [← hsz] at hit
    exact wpAny_pyNext_items_end_raw (I.ok.hd hc) hit hm (by rw [hsz]; exact hi) fun h' eb => ⟨rfl, I.turned (t' := s.toks) (fun b ob hb e => eb b ob hb e) f0 f1 f3 f4 f5⟩
  self := fun A i s Q E st h => let ⟨_, _, e⟩ := st; PySem.W.kcp_self e h
end
def iPr (w : World) (td : TE) : TI := fun σ H R => td σ H fun x H1 => ∃ d o xs, x = .ref d ∧ H1 d = some (.frz o (obj w d xs)) ∧ R (Ipr w d o xs) H1
theorem pi_pr {X : Cx} {e : Expr} {td : TE} {apos cpos : Pos} {elts : List Expr} {kk : Nat} {tpos : Pos} (he : PE X e td) (hbase : attributeBase e "items" X.env (eval e X.env) = eval e X.env := by rfl) (hline : (apos.endLine == cpos.line) = true := by rfl) :
    PI X (.Tuple elts kk tpos) (.Call (.Attribute e "items" apos) [] [] cpos) (iPr X.w td) := by
  refine ⟨fun pins s σ H R I h => ?_⟩
  refine wpAny_Call_method (T := "dict") (id := "dict.items") hbase rfl hline F.plainAttrs_dict F.slot_dict_items F.type_dict_items (thn (he.run pins s σ H _ I h) fun u s1 ⟨x, H1, I1, rx, d, o, xs, ex, hd, q⟩ => ?_)
  subst ex
  obtain rfl : u = Value.ref d := rx
  obtain ⟨hgd, hs, es, ep, hx, hdt, rel, hsz, hm⟩ := frz_raw I1 hd
  refine ⟨hm.typeIs, fun b q => by cases q; exact ⟨o, hgd, hx.2.1⟩, ?_⟩
  have I2 : Inv X pins σ H1 { s1 with heap := s1.heap.push { cls := .type "dict_items", data := .fields #[.ref d] } } := I1.kept (t' := s1.toks) fun b ob q => Heap.get?_push_of_some _ q
  have fin : wpAny (model X.prog X.w) X.A (pyIter (.ref s1.heap.objs.size)) (PIE X pins σ (.Tuple elts kk tpos) R) X.xe { s1 with heap := s1.heap.push { cls := .type "dict_items", data := .fields #[.ref d] } } := by
    refine wpAny_pyIter_items_raw (d := d) ⟨_, Heap.get?_push_size _ rfl, rfl, rfl⟩ (hm.push _) (pi_one (tk := s1.toks) I2 _ (turn_pr _ hdt) ⟨.none, .none, ?_⟩ q)
    rw [← hsz]
    exact Heap.get?_push_size _ rfl
  show wpAny _ _ (callWith cpos (.builtin "dict.items") [.ref d] [] []) _ X.xe s1
  exact method_meetsIn F.slot_dict_items F.entry_dict_items rfl (PySem.evalArgs_none ⟨rfl, hm.typeIs, F.args_dict_items_1 _, _, meets_dict_items_raw d hs, ⟨es, ep, hm⟩, fin⟩)

/-! ### displays -/
theorem empty_at {X : Cx} {pins : List (Addr × Obj)} {σ : L2.St} {H : Hp} {s : Shared} (I : Inv X pins σ H s) :
    Inv X pins σ (upd H s.heap.objs.size (obj X.w s.heap.objs.size [])) { s with heap := s.heap.push { cls := .type "dict", data := .dict #[] } } := by
  refine I.laid (t' := s.toks) (fun b o e => Heap.get?_push_of_some _ e) (Nat.le_refl _) (ok_of ⟨?_, Nat.zero_le _, .nil, fun _ h => (nomatch h), _, #[], 0, Heap.get?_push_size _ rfl, ⟨rfl, rfl, rfl⟩, rfl, .nil⟩)
  exact beq_eq_false_iff_ne.mpr (Nat.ne_of_gt I.big)
def tNew (w : World) : TE := fun _ H Q => ∀ p, H p = none → Q (.ref p) (upd H p (obj w p []))
theorem pe_new {X : Cx} {pos : Pos} : PE X (.Dict [] [] pos) (tNew X.w) := ⟨fun pins s σ H Q I h => by
  have I1 := empty_at I
  have hn := I.hok.fresh (Nat.le_refl s.heap.objs.size)
  exact wpAny_Dict_empty ⟨.ref s.heap.objs.size, _, I1, rfl, h _ hn⟩⟩
mutual
theorem Ky.per {K : PySem.W.Frag} {H H' : Hp} (p : Sy.Per H H') : ∀ {v : V} {k : NestedKey}, Ky K H v k → Ky K H' v k
  | _, _, .non => .non
  | _, _, .int i => .int i
  | _, _, .str x => .str x
  | _, _, .tup h r => .tup (p.sqt h) (KyA.per p r)
theorem KyA.per {K : PySem.W.Frag} {H H' : Hp} (p : Sy.Per H H') : ∀ {vs : List V} {ks : List NestedKey}, KyA K H vs ks → KyA K H' vs ks
  | _, _, .nil => .nil
  | _, _, .cons h r => .cons (Ky.per p h) (KyA.per p r)
end
theorem per_obj {w : World} {H : Hp} {a : Addr} {xs : List Ent} {u : HO} (h : H a = some (obj w a xs)) : Sy.Per H (upd H a u) := .put h (fun _ e => HO.noConfusion e) (fun _ _ e => HO.noConfusion e)
theorem vsto_mem {xs : List Ent} {k : NestedKey} {y v : V} {x : Ent} (h : x ∈ vsto xs k y v) : (∃ z ∈ xs, x.1 = z.1 ∧ x.2.1 = z.2.1 ∧ (x.2.2 = z.2.2 ∨ x.2.2 = v)) ∨ x = (k, y, v) := by
  unfold vsto at h
  split at h
  · obtain ⟨z, hz, rfl⟩ := List.mem_map.mp h
    unfold vup
    split
    · exact .inl ⟨z, hz, rfl, rfl, .inr rfl⟩
    · exact .inl ⟨z, hz, rfl, rfl, .inl rfl⟩
  · rcases List.mem_append.mp h with h | h
    · exact .inl ⟨x, h, rfl, rfl, .inl rfl⟩
    · exact .inr (List.mem_singleton.mp h)
theorem At.sto {K : PySem.W.Frag} {w : World} {H : Hp} {a : Addr} {xs : List Ent} {k : NestedKey} {y v : V} (D : At K w H a xs) (hk : Ky K H y k) : At K w (upd H a (obj w a (vsto xs k y v))) a (vsto xs k y v) := by
  have p := per_obj (u := obj w a (vsto xs k y v)) D.ob
  refine ⟨upd_same, fun x hx => ?_⟩
  rcases vsto_mem hx with ⟨z, hz, e1, e2, _⟩ | rfl
  · rw [e1, e2]
    exact (D.ky z hz).per p
  · exact hk.per p
theorem At.del {K : PySem.W.Frag} {w : World} {H : Hp} {a : Addr} {xs : List Ent} {k : NestedKey} (D : At K w H a xs) : At K w (upd H a (obj w a (vdel xs k))) a (vdel xs k) :=
  ⟨upd_same, fun x hx => (D.ky x (List.mem_filter.mp hx).1).per (per_obj D.ob)⟩
theorem At.per {K : PySem.W.Frag} {w : World} {H H' : Hp} {a : Addr} {xs : List Ent} (D : At K w H a xs) (p : Sy.Per H H') (e : H' a = H a) : At K w H' a xs := ⟨e.trans D.ob, fun x hx => (D.ky x hx).per p⟩

def stoAll (xs : List Ent) : List ((V × V) × NestedKey) → List Ent
  | [] => xs
  | (p, k) :: r => stoAll (vsto xs k p.1 p.2) r
theorem sto_loop {X : Cx} {pins : List (Addr × Obj)} {σ : L2.St} {A : Around} {E : Value → Shared → Prop} {a : Addr} (hu : A.units + 20 < cLine) : ∀ (ps : List ((V × V) × NestedKey)) (vs : List (Value × Value)) (H : Hp) (s : Shared) (xs : List Ent) (Q : PUnit → Shared → Prop),
    Inv X pins σ H s → At X.K X.w H a xs → xs.length + ps.length < sizeLine → VV (ps.map (·.1)) vs → (∀ p ∈ ps, Ky X.K H p.1.1 p.2 ∧ p.2.depth ≤ 8) → (∀ s', Inv X pins σ (upd H a (obj X.w a (stoAll xs ps))) s' → Q PUnit.unit s') →
    wpAny (model X.prog X.w) A (forIn vs PUnit.unit fun (x : Value × Value) (_ : PUnit) => (do dictSet a x.1 x.2; pure (ForInStep.yield PUnit.unit) : Sem (ForInStep PUnit))) Q E s
  | [], _, H, s, xs, Q, I, D, _, r, _, hQ => by
    cases r
    rw [List.forIn_nil]
    refine wpAny_pure (hQ s ?_)
    have e : upd H a (obj X.w a (stoAll xs [])) = H := by
      funext b
      unfold upd
      split
      · rename_i z; rw [z]; exact D.ob.symm
      · rfl
    rw [e]
    exact I
  | (p, k) :: ps, v :: vs, H, s, xs, Q, I, D, hz, r, hk, hQ => by
    obtain ⟨⟨r1, r2⟩, rr⟩ : (RelV p.1 v.1 ∧ RelV p.2 v.2) ∧ VV (ps.map (·.1)) vs := by
      cases r with
      | cons h t => exact ⟨h, t⟩
    rw [List.length_cons] at hz
    have hkk := hk (p, k) List.mem_cons_self
    rw [List.forIn_cons]
    refine wpAny_bind (wpAny_bind (dict_set hu I D (by omega) r1 r2 hkk.1 hkk.2 fun s1 I1 => wpAny_pure ?_))
    refine sto_loop hu ps vs _ s1 _ Q I1 (D.sto hkk.1) (by have := vsto_len xs (p, k).2 (p, k).1.1 (p, k).1.2; dsimp only at this ⊢; omega) rr (fun q hq => ?_) fun s' I' => ?_
    · obtain ⟨z1, z2⟩ := hk q (List.mem_cons_of_mem _ hq)
      exact ⟨z1.per (per_obj D.ob), z2⟩
    · rw [upd_upd] at I'
      exact hQ s' I'
  | _ :: _, [], _, _, _, _, _, _, _, r, _, _ => by cases r
def tDis (K : PySem.W.Frag) (w : World) (trs : List (TE × TE)) : TE := fun σ H Q => ∀ p, H p = none → tPairs trs σ (upd H p (obj w p [])) fun ps H2 => H2 p = some (obj w p []) ∧
  ∃ ks : List ((V × V) × NestedKey), ps = ks.map (·.1) ∧ (∀ q ∈ ks, Ky K H2 q.1.1 q.2 ∧ q.2.depth ≤ 8) ∧ ks.length ≤ 15 ∧ Q (.ref p) (upd H2 p (obj w p (stoAll [] ks)))
theorem pe_dis {X : Cx} {pos : Pos} {keys : List (Option Expr)} {values : List Expr} {trs : List (TE × TE)} (hu : X.A.units + 20 < cLine) (h : PPs X pos keys values trs) (hall : keys.all (·.isSome) = true) (hl : keys.length = values.length) (h0 : keys ≠ [])
    (h15 : keys.length ≤ 15) : PE X (.Dict keys values pos) (tDis X.K X.w trs) := by
  refine ⟨fun pins s σ H Q I q => ?_⟩
  have hn := I.hok.fresh (Nat.le_refl s.heap.objs.size)
  have I1 := empty_at I
  have hlen := pairTrees_length keys values X.env pos hall hl
  rw [arm_eval_Dict, zip_pairTrees keys values X.env pos hall hl, dictDisplay_pairs (pairTrees keys values X.env pos) (fun he => h0 (List.length_eq_zero_iff.mp (by rw [← hlen, he]; rfl))) (by rw [hlen]; omega)]
  refine wpAny_bind (wpAny_standAt (wpAny_bind ?_))
  unfold subDict
  refine wpAny_bind (wpAny_alloc ?_)
  refine wpAny_bind (wpAny_holding ?_)
  rw [if_pos (by rw [hlen]; exact h15)]
  refine wpAny_bind (thn (h.run pins _ σ _ _ I1 (q _ hn)) fun ws s2 ⟨ps, H2, I2, rel, e, ks, eps, hk, hk15, q2⟩ => ?_)
  subst eps
  refine wpAny_holding (wpAny_bind (sto_loop hu ks ws H2 s2 [] _ I2 ⟨e, fun _ z => nomatch z⟩ ?_ rel hk fun s' I' => wpAny_pure (wpAny_pure (wpAny_pure ?_))))
  · rw [List.length_nil, sizeLine_eq]; omega
  · exact ⟨.ref s.heap.objs.size, _, I', rfl, q2⟩
end Dx

end
section
/-! Dx, further: dict comprehensions of mixed-key dicts, kept under a name. -/
namespace Dx
open PySem PySem.Spec L2

/-- {k: v for target in iter if ..}: D the new dict; W by the turn and a measure -/
def tDcx (K : PySem.W.Frag) (w : World) (wi : TI) (g : TG) (tt : TT) (tk tv : TE) (vs : List Nat) : TE := fun σ H Q => wi σ H fun J H1 => ∀ D, H1 D = none →
  ∃ W : Nat → Nat → Hp → Prop, (∃ m, W 0 m (upd H1 D (obj w D []))) ∧ ∀ i m H, W i m H → (J.stop i H ∧ Q (.ref D) H) ∨ (J.go i H ∧ ∃ Nx : Hp → Prop, (∀ H', Nx H' → ∃ m', m' < m ∧ W (i + 1) m' H') ∧
    ∀ x H', J.yld i H x H' → g x (wipe σ vs) H' fun σ2 H2 => wipe σ2 vs = wipe σ vs ∧ tt σ2 H2 fun b H3 =>
      if b = true then tk σ2 H3 fun y H4 => tv σ2 H4 fun z H5 => ∃ xs k, At K w H5 D xs ∧ Ky K H5 y k ∧ k.depth ≤ 8 ∧ xs.length < sizeLine ∧ Nx (upd H5 D (obj w D (vsto xs k y z))) else Nx H3)
section
variable {X : Cx} {kx vx tg iter : Expr} {ifs : List Expr} {scope : Scope} {own : List (Str × Nat)} {wi : TI} {g : TG} {tt : TT} {tk tv : TE}
/-- the block's context behind the new dict -/
abbrev blkAt (X : Cx) (scope : Scope) (t : Shared) (G : Hp) (fp : List Addr) : Cx := X.blk t G scope (compEnvC scope (cellsFrom (t.heap.objs.size + 1) scope.names (cloFrom X.env.cells scope.names [])) t.heap.objs.size X.env) fp
/-- what the parts of the block are, wherever it stands -/
structure Blk (X : Cx) (scope : Scope) (tg kx vx : Expr) (ifs : List Expr) (g : TG) (tt : TT) (tk tv : TE) : Prop where
  g : ∀ (s : Shared) (H : Hp) (C : Addr) (cl : List (Str × Addr)) (fp : List Addr), PG (X.blk s H scope (compEnvC scope cl C X.env) fp) tg g
  t : ∀ (s : Shared) (H : Hp) (C : Addr) (cl : List (Str × Addr)) (fp : List Addr), PTs (X.blk s H scope (compEnvC scope cl C X.env) fp) ifs tt
  k : ∀ (s : Shared) (H : Hp) (C : Addr) (cl : List (Str × Addr)) (fp : List Addr), PE (X.blk s H scope (compEnvC scope cl C X.env) fp) kx tk
  v : ∀ (s : Shared) (H : Hp) (C : Addr) (cl : List (Str × Addr)) (fp : List Addr), PE (X.blk s H scope (compEnvC scope cl C X.env) fp) vx tv
theorem dcx_core {pins : List (Addr × Obj)} {s : Shared} {σ : L2.St} {H : Hp} {Q : VK} {pos pos' : Pos} {use : Option (Value → Sem Unit)} {Qf : Value → Shared → Prop} (hu : X.A.units + 20 < cLine) (hc : X.calm = true) (hN : X.N.Nodup) (I : Inv X pins σ H s)
    (hi : PI X tg iter wi) (ok : BlkOk X.N X.env.scope scope own) (B : Blk X scope tg kx vx ifs g tt tk tv) (hs : ∀ x, foldedSetIterable iter X.env x = pure x) (h : tDcx X.K X.w wi g tt tk tv (own.map (·.2)) σ H Q)
    (back : ∀ D C s' m H', Inv X pins σ H' s' → Q (.ref D) H' → s'.heap.Ns C m → FpOk X pins H' C → compPost (model X.prog X.w) X.A X.xe use Qf (.ref D) C (.ok .next) s') :
    wpAny (model X.prog X.w) X.A (comprehension (.DictComp kx vx [⟨tg, iter, ifs, 0⟩] scope pos) scope X.env pos' newDict false (eval iter X.env) use) Qf X.xe s := by
  have cells : ∀ y ∈ scope.names, y.2 = .free → ∃ c, X.env.cells.lookup y.1 = some c := fun y hy e => (ok.free y hy e).elim (fun z => I.ok.has _ (.inl z)) fun z => I.ok.has _ (.inr z)
  refine wpAny_comprehension_free (use := use) rfl hs (closure_ok cells) ok.kind (fun y hy e => by rw [ok.uniq y hy, e]) (thn (hi.run pins s σ H _ I h) fun _ _ hx => thn hx fun _ t hit => ?_)
  obtain ⟨it, fp, tn, J, G, rfl, I2, T, st2, f2, q⟩ := hit
  refine wpAny_newObj_type (newEnv_comp ?_)
  obtain ⟨W, ⟨m0, w0⟩, turn⟩ := q t.heap.objs.size (I2.hok.fresh (Nat.le_refl _))
  have I3 := empty_at I2
  -- the state with the new dict, its heap, under names
  generalize hD : t.heap.objs.size = D at w0 turn I3
  generalize hG : upd G D (obj X.w D []) = G3 at w0 I3
  generalize ht : ({ t with heap := t.heap.push { cls := .type "dict", data := .dict #[] } } : Shared) = t3 at I3
  have hp3 : t3.heap = t.heap.push { cls := .type "dict", data := .dict #[] } := by rw [← ht]
  have small : ∀ b ∈ fp, b < t.heap.objs.size := fun b hb => by
    obtain ⟨_, e, _⟩ := T.obj _ _ st2 b hb
    exact Heap.lt_size e
  have f3 : ∀ b ∈ fp, FpOk X pins G3 b ∧ b < t3.heap.objs.size := fun b hb => by
    have hlt := small b hb
    refine ⟨⟨?_, (f2 b hb).2⟩, by rw [hp3, Heap.size_push]; exact Nat.lt_succ_of_lt hlt⟩
    rw [← hG, upd_ne (show b ≠ D by rw [← hD]; exact Nat.ne_of_lt hlt)]
    exact (f2 b hb).1
  have I4 := block_start I3 ok hN f3
  have st3 : tn 0 t3.heap := T.keep _ _ _ st2 fun b _ o e => by rw [hp3]; exact Heap.get?_push_of_some _ e
  have pg := B.g t3 G3 t3.heap.objs.size (cellsFrom (t3.heap.objs.size + 1) scope.names (cloFrom X.env.cells scope.names [])) fp
  have pt := B.t t3 G3 t3.heap.objs.size (cellsFrom (t3.heap.objs.size + 1) scope.names (cloFrom X.env.cells scope.names [])) fp
  have pk := B.k t3 G3 t3.heap.objs.size (cellsFrom (t3.heap.objs.size + 1) scope.names (cloFrom X.env.cells scope.names [])) fp
  have pv := B.v t3 G3 t3.heap.objs.size (cellsFrom (t3.heap.objs.size + 1) scope.names (cloFrom X.env.cells scope.names [])) fp
  show codeAny _ _ (.compStart (.DictComp kx vx [⟨tg, iter, ifs, 0⟩] scope pos) 0 (.ref it) (.ref D) (compEnvC scope (cellsFrom (t3.heap.objs.size + 1) scope.names (cloFrom X.env.cells scope.names [])) t3.heap.objs.size X.env))
    (compPost (model X.prog X.w) X.A X.xe use Qf (.ref D) t3.heap.objs.size) { t3 with heap := pushCells (t3.heap.push { cls := .type "dict", data := .dict #[] }) scope.names }
  generalize hce : compEnvC scope (cellsFrom (t3.heap.objs.size + 1) scope.names (cloFrom X.env.cells scope.names [])) t3.heap.objs.size X.env = ce at I4 pg pt pk pv ⊢
  have cL : ce.locals = t3.heap.objs.size := by subst hce; rfl
  generalize ht4 : ({ t3 with heap := pushCells (t3.heap.push { cls := .type "dict", data := .dict #[] }) scope.names } : Shared) = t4 at I4 ⊢
  have st4 : tn 0 t4.heap := T.keep _ _ _ st3 fun b _ o e => by rw [← ht4]; exact pushCells_keeps _ _ _ _ (Heap.get?_push_of_some _ e)
  have stays : ∀ {σ' : L2.St} {H' : Hp} {s' : Shared}, Inv (X.blk t3 G3 scope ce fp) [] σ' H' s' → (∀ b ∈ fp, H' b = none) → ∀ b ∈ fp, FpOk (X.blk t3 G3 scope ce fp) [] H' b := fun {σ' H' s'} J hn b hb =>
    ⟨hn b hb, (J.ok.exf b hb).1, J.ok.exfs b hb, .inl hb, fun x c e => (J.ok.exf b hb).2 x c e, fun p hp => (List.not_mem_nil (show p ∈ ([] : List (Addr × Obj)) from hp)).elim⟩
  have loop : codeAny (model X.prog X.w) X.A (.compLoop (.DictComp kx vx [⟨tg, iter, ifs, 0⟩] scope pos) 0 (.ref it) (.ref D) ce) (compPost (model X.prog X.w) X.A X.xe use Qf (.ref D) t3.heap.objs.size) t4 := by
    refine compLoop_anyD (fun n s' => ∃ i H', Inv (X.blk t3 G3 scope ce fp) [] (wipe σ (own.map (·.2))) H' s' ∧ tn i s'.heap ∧ (∀ b ∈ fp, H' b = none) ∧ W i n H') ?_ m0 ⟨0, G3, I4, st4, fun b hb => (f3 b hb).1.1, w0⟩
    rintro n u ⟨i, G5, J5, st5, n5, w5⟩
    rcases turn i n G5 w5 with ⟨stop, qq⟩ | ⟨go, Nx, hNx, step⟩
    · refine thnF (T.done (X.blk t3 G3 scope ce fp) rfl rfl rfl hc i [] u _ G5 (fun _ _ => False) J5 (stays J5 n5) st5 stop) fun r u6 ⟨hr, J6⟩ => ?_
      subst hr
      -- out of the block
      have I7 : Inv X pins σ G5 u6 := I3.call' (ch := fp) J6.os J6.base J6.hok J6.bare fun b hb => let z := (f3 b hb).1.2; ⟨z.2.2.1, z.1, z.2.2.2.1, z.2.2.2.2⟩
      have nC : G5 t3.heap.objs.size = none := by rw [← cL]; exact J6.free
      obtain ⟨m, hn, _⟩ := J6.loc
      rw [show (X.blk t3 G3 scope ce fp).env.locals = t3.heap.objs.size from cL] at hn
      exact back D _ u6 m G5 I7 qq hn (I3.fpOk (Nat.le_refl _) nC)
    · refine thnF (T.item (X.blk t3 G3 scope ce fp) rfl rfl rfl hc i [] u _ G5 (fun _ _ => False) J5 (stays J5 n5) st5 go) fun r u6 ⟨item, hr, h6⟩ => ?_
      subst hr
      refine thnF h6 fun _ u7 ⟨x, G7, J7, r7, y7, st7, n7⟩ => ?_
      have pinned := J7.pinned (stays J7 n7) (T.obj _ _ st7)
      refine thnF (pg.run _ u7 _ G7 x item _ pinned r7 (step x G7 y7)) fun _ u8 ⟨σ8, G8, J8, hw8, q8⟩ => ?_
      refine thnF (pt.run _ u8 σ8 G8 _ J8 q8) fun b u9 ⟨G9, J9, q9⟩ => ?_
      have again : ∀ {s' : Shared} {H' : Hp}, Inv (X.blk t3 G3 scope ce fp) ([] ++ pinsAt fp u7.heap) σ8 H' s' → Nx H' → ∃ m, m < n ∧ ∃ i H', Inv (X.blk t3 G3 scope ce fp) [] (wipe σ (own.map (·.2))) H' s' ∧ tn i s'.heap ∧ (∀ b ∈ fp, H' b = none) ∧ W i m H' := by
        intro s' H' J' nx
        obtain ⟨m', hm, w'⟩ := hNx H' nx
        have held : ∀ b ∈ fp, ∀ o, u7.heap.get? b = some o → s'.heap.get? b = some o ∧ H' b = none := fun b hb o e => by
          have z := J'.pin (b, o) (List.mem_append_right _ (List.mem_append_right _ (mem_pinsAt hb e)))
          exact ⟨z.1, z.2.1⟩
        refine ⟨m', hm, i + 1, H', (J'.unpinned (pins := [])).weak ?_ (fun j v e => ?_), T.keep _ _ _ st7 fun b hb o e => (held b hb o e).1, fun b hb => ?_, w'⟩
        · rw [← hw8, wipe_length]
        · rw [← hw8] at e
          exact (wipe_some e).1
        · obtain ⟨o, e, _⟩ := T.obj _ _ st7 b hb
          exact (held b hb o e).2
      cases b with
      | false => exact again J9 q9
      | true =>
        refine thnF (pk.run _ u9 σ8 G9 _ J9 q9) fun _ u10 ⟨yk, G10, J10, r10, q10⟩ => ?_
        refine thnF (pv.run _ u10 σ8 G10 _ J10 q10) fun _ u11 ⟨yv, G11, J11, r11, xs, k, hAt, hk, kd, hz, nx⟩ => ?_
        -- the key's own value: known at G10, asked at G11
        exact dict_set (X := X.blk t3 G3 scope ce fp) hu J11 hAt hz r10 r11 hk kd fun u12 J12 => again J12 nx
  exact codeAny_compStart_dict loop (T.self X.A 0 _ _ _ st4 loop)
/-- y = {k: v for .. in .. if ..} -/
theorem ps_setDcx {i : Nat} {y : Str} {py pos spos : Pos} (hu : X.A.units + 20 < cLine) (hc : X.calm = true) (hN : X.N.Nodup) (hy : X.N[i]? = some y) (hyl : X.env.scope.names.lookup y = some .local)
    (hsw : swapsWith (.DictComp kx vx [⟨tg, iter, ifs, 0⟩] scope pos) (some (.Name y py)) spos.line X.env = pure true) (hi : PI X tg iter wi) (ok : BlkOk X.N X.env.scope scope own) (B : Blk X scope tg kx vx ifs g tt tk tv)
    (hs : ∀ x, foldedSetIterable iter X.env x = pure x := by intro _; rfl) :
    PS X (.Assign [.Name y py] (.DictComp kx vx [⟨tg, iter, ifs, 0⟩] scope pos) spos) (tAsg (tDcx X.K X.w wi g tt tk tv (own.map (·.2))) (gName i)) := by
  refine ⟨fun pins s σ H D I h => ?_⟩
  rw [exec_Assign_Name_used _ _ _ _ hsw]
  refine wpAny_bind (wpAny_standAt (wpAny_bind ?_))
  show wpAny _ X.A (do let _ ← comprehension (.DictComp kx vx [⟨tg, iter, ifs, 0⟩] scope pos) scope X.env (firstIterPos [⟨tg, iter, ifs, 0⟩] pos) newDict false (eval iter X.env) (some (assign (.Name y py) X.env))) _ _ s
  refine wpAny_bind (thn (dcx_core (Q := fun x H1 => gName i x σ H1 D.nx) (Qf := fun _ s' => SP X pins D .next s') hu hc hN I hi ok B hs h fun L C s' m H' I' q hn f => ?_) fun _ s' hq => wpAny_pure (wpAny_pure hq))
  show wpAny _ _ (assign (.Name y py) X.env (.ref L)) _ _ _
  refine wpAny_assign_Name (store_ok2 (v := V.ref L) I' hN hy (.inl hyl) rfl (fun s2 I2 ⟨a, sb, ha⟩ => ?_) (.inr hyl))
  obtain ⟨f0, f1, f2, f3, f4, f5⟩ := f
  have apart : C ≠ a := ha.elim (fun z => by rw [z]; exact f1) fun z e => f4 y a z e.symm
  exact ⟨m, hn.sameBut sb apart, fun h3 sb3 => ⟨_, H', I2.turned (t' := s2.toks) (fun b o hb e => (sb3.2 b hb).trans e) f0 f1 f3 f4 f5, q⟩⟩
end
end Dx

end
section
/-! Sy, part B: keys, dicts as data, the symbolic state and what a step does to it. -/
namespace Sy
open PySem PySem.Spec L2

/-! ### keys -/
mutual
def Da.nk : Da → Option NestedKey
  | .non => some .none
  | .int i => some (.num i)
  | .str x => some (.text x)
  | .tup ds => (nkL ds).map .tup
  | .bl _ => none
  | .ref _ => none
  | .ty _ => none
  | .lis _ => none
def nkL : List Da → Option (List NestedKey)
  | [] => some []
  | d :: ds => match d.nk, nkL ds with
    | some k, some ks => some (k :: ks)
    | _, _ => none
end
mutual
theorem Rp.ky {K : PySem.W.Frag} {H : Hp} : ∀ {v : V} {d : Da} {k : NestedKey}, Rp K H v d → d.nk = some k → Dx.Ky K H v k
  | _, _, _, .non, e => by rw [Da.nk] at e; cases e; exact .non
  | _, _, _, .int i, e => by rw [Da.nk] at e; cases e; exact .int i
  | _, _, _, .str x, e => by rw [Da.nk] at e; cases e; exact .str x
  | _, _, _, .tup (ds := ds) h r, e => by
    rw [Da.nk] at e
    obtain ⟨ks, h1, rfl⟩ := Option.map_eq_some_iff.mp e
    exact .tup h (RpL.ky r h1)
  | _, _, _, .bl b, e => by rw [Da.nk] at e; cases e
  | _, _, _, .ref a, e => by rw [Da.nk] at e; cases e
  | _, _, _, .ty n, e => by rw [Da.nk] at e; cases e
  | _, _, _, .lis h r, e => by rw [Da.nk] at e; cases e
theorem RpL.ky {K : PySem.W.Frag} {H : Hp} : ∀ {vs : List V} {ds : List Da} {ks : List NestedKey}, RpL K H vs ds → nkL ds = some ks → Dx.KyA K H vs ks
  | _, _, _, .nil, e => by rw [nkL] at e; cases e; exact .nil
  | _, _, _, .cons (d := d) (ds := ds) h r, e => by
    rw [nkL] at e
    cases h1 : d.nk with
    | none => rw [h1] at e; cases e
    | some k =>
      cases h2 : nkL ds with
      | none => rw [h1, h2] at e; cases e
      | some ks =>
        rw [h1, h2] at e
        cases e
        exact .cons (Rp.ky h h1) (RpL.ky r h2)
end

/-! ### dicts as data: keys and values in their order; two keys are one where their nk is one -/
abbrev Kvs := List (Da × Da)
def dfind (kvs : Kvs) (d : Da) : Option (Da × Da) := kvs.find? fun p => decide (p.1.nk = d.nk)
def dget (kvs : Kvs) (d : Da) : Option Da := (dfind kvs d).map (·.2)
def dput (kvs : Kvs) (d v : Da) : Kvs := if (dfind kvs d).isSome then kvs.map fun p => if p.1.nk = d.nk then (p.1, v) else p else kvs ++ [(d, v)]
def ddel (kvs : Kvs) (d : Da) : Kvs := kvs.filter fun p => decide (p.1.nk ≠ d.nk)
def EntD (K : PySem.W.Frag) (H : Hp) (x : Dx.Ent) (p : Da × Da) : Prop := p.1.nk = some x.1 ∧ Rp K H x.2.1 p.1 ∧ Rp K H x.2.2 p.2
section
variable {K : PySem.W.Frag} {H H' : Hp} {d : Da} {k : NestedKey}
theorem ed_per (p : Per H H') : ∀ {xs : List Dx.Ent} {kvs : Kvs}, Paired (EntD K H) xs kvs → Paired (EntD K H') xs kvs
  | _, _, .nil => .nil
  | _, _, .cons ⟨h1, h2, h3⟩ t => .cons ⟨h1, h2.per p, h3.per p⟩ (ed_per p t)
theorem ed_find (hk : d.nk = some k) : ∀ {xs : List Dx.Ent} {kvs : Kvs}, Paired (EntD K H) xs kvs →
    ((xs.find? fun x => decide (x.1 = k)) = none ∧ dfind kvs d = none) ∨ ∃ x p, (xs.find? fun x => decide (x.1 = k)) = some x ∧ dfind kvs d = some p ∧ EntD K H x p
  | _, _, .nil => .inl ⟨rfl, rfl⟩
  | x :: xs, p :: kvs, .cons h t => by
    unfold dfind
    rw [List.find?_cons, List.find?_cons, hk, h.1]
    by_cases e : x.1 = k
    · rw [decide_eq_true e, decide_eq_true (congrArg some e)]
      exact .inr ⟨x, p, rfl, rfl, h⟩
    · rw [decide_eq_false e, decide_eq_false fun z => e (Option.some.inj z)]
      have := ed_find hk t
      unfold dfind at this
      rw [hk] at this
      exact this
theorem ed_vlk (hk : d.nk = some k) {xs : List Dx.Ent} {kvs : Kvs} (h : Paired (EntD K H) xs kvs) : (Dx.vlk xs k = none ∧ dget kvs d = none) ∨ ∃ v e, Dx.vlk xs k = some v ∧ dget kvs d = some e ∧ Rp K H v e := by
  unfold Dx.vlk dget
  rcases ed_find hk h with ⟨e1, e2⟩ | ⟨x, p, e1, e2, q⟩
  · rw [e1, e2]; exact .inl ⟨rfl, rfl⟩
  · rw [e1, e2]; exact .inr ⟨_, _, rfl, rfl, q.2.2⟩
theorem ed_map {v : V} {e : Da} (hk : d.nk = some k) (r : Rp K H v e) : ∀ {xs : List Dx.Ent} {kvs : Kvs}, Paired (EntD K H) xs kvs → Paired (EntD K H) (xs.map (Dx.vup k v)) (kvs.map fun p => if p.1.nk = d.nk then (p.1, e) else p)
  | _, _, .nil => .nil
  | x :: xs, p :: kvs, .cons h t => by
    refine .cons ?_ (ed_map hk r t)
    show EntD K H (Dx.vup k v x) (if p.1.nk = d.nk then (p.1, e) else p)
    unfold Dx.vup
    rw [hk, h.1]
    by_cases q : x.1 = k
    · rw [if_pos q, if_pos (congrArg some q)]
      exact ⟨h.1, h.2.1, r⟩
    · rw [if_neg q, if_neg fun z => q (Option.some.inj z)]
      exact h
theorem ed_app : ∀ {xs ys : List Dx.Ent} {kvs kws : Kvs}, Paired (EntD K H) xs kvs → Paired (EntD K H) ys kws → Paired (EntD K H) (xs ++ ys) (kvs ++ kws)
  | _, _, _, _, .nil, h => h
  | _, _, _, _, .cons h t, q => .cons h (ed_app t q)
theorem ed_put {y v : V} {e : Da} (hk : d.nk = some k) (ry : Rp K H y d) (r : Rp K H v e) {xs : List Dx.Ent} {kvs : Kvs} (h : Paired (EntD K H) xs kvs) : Paired (EntD K H) (Dx.vsto xs k y v) (dput kvs d e) := by
  unfold Dx.vsto dput
  rcases ed_find hk h with ⟨e1, e2⟩ | ⟨x, p, e1, e2, q⟩
  · rw [e1, e2]; exact ed_app h (.cons ⟨hk, ry, r⟩ .nil)
  · rw [e1, e2]; exact ed_map hk r h
theorem ed_del (hk : d.nk = some k) : ∀ {xs : List Dx.Ent} {kvs : Kvs}, Paired (EntD K H) xs kvs → Paired (EntD K H) (Dx.vdel xs k) (ddel kvs d)
  | _, _, .nil => .nil
  | x :: xs, p :: kvs, .cons h t => by
    unfold Dx.vdel ddel
    rw [List.filter_cons, List.filter_cons, hk, h.1]
    have := ed_del hk t
    unfold Dx.vdel ddel at this
    rw [hk] at this
    by_cases q : x.1 ≠ k
    · rw [decide_eq_true q, decide_eq_true (show ¬ (some x.1 = some k) from fun z => q (Option.some.inj z))]
      exact .cons h this
    · rw [decide_eq_false q, decide_eq_false (show ¬ ¬ (some x.1 = some k) from fun z => z (congrArg some (Decidable.of_not_not q)))]
      exact this
end

/-! ### objects -/
def Ob (K : PySem.W.Frag) (w : World) (H : Hp) (a : Addr) : Mo → Prop
  | .lst ds => ∃ xs, H a = some (.lst xs) ∧ RpL K H xs ds
  | .dic kvs => ∃ xs, Dx.At K w H a xs ∧ Paired (EntD K H) xs kvs
section
variable {K : PySem.W.Frag} {w : World} {H H' : Hp} {a : Addr} {o : Mo}
theorem Ob.at_ (h : Ob K w H a o) : ∃ u, H a = some u := by
  cases o with
  | lst ds => obtain ⟨xs, e, _⟩ := h; exact ⟨_, e⟩
  | dic kvs => obtain ⟨xs, D, _⟩ := h; exact ⟨_, D.ob⟩
theorem Ob.per (h : Ob K w H a o) (p : Per H H') (e : H' a = H a) : Ob K w H' a o := by
  cases o with
  | lst ds => obtain ⟨xs, e1, r⟩ := h; exact ⟨xs, e.trans e1, r.per p⟩
  | dic kvs => obtain ⟨xs, D, r⟩ := h; exact ⟨xs, D.per p e, ed_per p r⟩
/-- a mutable object may be overwritten -/
theorem Ob.perUpd {u : HO} (h : Ob K w H a o) : Per H (upd H a u) := by
  cases o with
  | lst ds => obtain ⟨xs, e1, r⟩ := h; exact .lst e1
  | dic kvs => obtain ⟨xs, D, r⟩ := h; exact Dx.per_obj D.ob
end

/-! ### the symbolic state -/
structure Fx where
  K : PySem.W.Frag
  w : World
  H0 : Hp
  S : List Addr
abbrev Gm := List (Option Da)
/-- the heap ahead and behind: all but what is in S is kept -/
structure Fr (S : List Addr) (H H' : Hp) : Prop where
  k : ∀ b o, H b = some o → b ∉ S → H' b = some o
  d : ∀ b o, H b = some o → ∃ o', H' b = some o'
theorem Fr.rfl' (S : List Addr) (H : Hp) : Fr S H H := ⟨fun _ _ h _ => h, fun _ o h => ⟨o, h⟩⟩
theorem Fr.back {S : List Addr} {H H' : Hp} (f : Fr S H H') {b : Addr} (h : H' b = none) : H b = none := by
  cases q : H b with
  | none => rfl
  | some o => obtain ⟨o', e⟩ := f.d b o q; rw [h] at e; cases e
structure St (F : Fx) (σ : L2.St) (H : Hp) (Γ : Gm) (Θ : Th) : Prop where
  ln : σ.length = Γ.length
  sl : ∀ (i : Nat) d, Γ[i]? = some (some d) → ∃ v, σ[i]? = some (some v) ∧ Rp F.K H v d
  ob : ∀ a o, (a, o) ∈ Θ → Ob F.K F.w H a o
  nd : (Θ.map (·.1)).Nodup
  fr : Fr F.S F.H0 H
  ow : ∀ a o, (a, o) ∈ Θ → a ∈ F.S ∨ F.H0 a = none
  pe : Per F.H0 H
section
variable {F : Fx} {σ : L2.St} {H : Hp} {Γ : Gm} {Θ : Th} {p a : Addr} {o o' : Mo} {v : V} {d : Da}
theorem St.ne (h : St F σ H Γ Θ) (hp : H p = none) (hm : (a, o) ∈ Θ) : a ≠ p := by
  obtain ⟨u, e⟩ := (h.ob a o hm).at_
  exact ne_of_none e hp
theorem St.new {u : HO} (h : St F σ H Γ Θ) (hp : H p = none) : St F σ (upd H p u) Γ Θ where
  ln := h.ln
  sl := fun i d e => by
    obtain ⟨v, e1, r⟩ := h.sl i d e
    exact ⟨v, e1, r.per (Per.new hp)⟩
  ob := fun a o hm => (h.ob a o hm).per (Per.new hp) (upd_ne (h.ne hp hm))
  nd := h.nd
  fr := ⟨fun b o e n => by
      have z := h.fr.k b o e n
      rw [upd_ne (ne_of_none z hp)]; exact z, fun b o e => by
      obtain ⟨o', z⟩ := h.fr.d b o e
      exact ⟨o', by rw [upd_ne (ne_of_none z hp)]; exact z⟩⟩
  ow := h.ow
  pe := h.pe.trans (Per.new hp)
theorem St.newO {u : HO} (h : St F σ H Γ Θ) (hp : H p = none) (ho : Ob F.K F.w (upd H p u) p o) : St F σ (upd H p u) Γ (Θ ++ [(p, o)]) := by
  have h1 := h.new (u := u) hp
  refine ⟨h1.ln, h1.sl, fun a q hm => ?_, ?_, h1.fr, fun a q hm => ?_, h1.pe⟩
  · rcases List.mem_append.mp hm with hm | hm
    · exact h1.ob a q hm
    · cases List.mem_singleton.mp hm; exact ho
  · rw [List.map_append, List.nodup_append]
    refine ⟨h.nd, by simp, fun x hx y hy => ?_⟩
    obtain rfl : y = p := by simpa using hy
    obtain ⟨⟨b, q⟩, hb, rfl⟩ := List.mem_map.mp hx
    exact h.ne hp hb
  · rcases List.mem_append.mp hm with hm | hm
    · exact h1.ow a q hm
    · cases List.mem_singleton.mp hm
      exact .inr (h.fr.back hp)
theorem St.set {i : Nat} (h : St F σ H Γ Θ) (hi : i < Γ.length) (r : Rp F.K H v d) : St F (σ.set i (some v)) H (Γ.set i (some d)) Θ := by
  refine ⟨by rw [List.length_set, List.length_set]; exact h.ln, fun j e hj => ?_, h.ob, h.nd, h.fr, h.ow, h.pe⟩
  by_cases q : i = j
  · subst q
    rw [List.getElem?_set_self hi] at hj
    cases hj
    exact ⟨v, List.getElem?_set_self (by rw [h.ln]; exact hi), r⟩
  · rw [List.getElem?_set_ne q] at hj
    obtain ⟨u, e1, r1⟩ := h.sl j e hj
    exact ⟨u, by rw [List.getElem?_set_ne q]; exact e1, r1⟩

/-- Θ with the object at a changed from o to o' -/
inductive Put : Th → Addr → Mo → Mo → Th → Prop
  | here {a : Addr} {o o' : Mo} {r : Th} : Put ((a, o) :: r) a o o' ((a, o') :: r)
  | there {a : Addr} {o o' : Mo} {q : Addr × Mo} {r r' : Th} (h : Put r a o o' r') : Put (q :: r) a o o' (q :: r')
theorem Put.mem {Θ' : Th} (h : Put Θ a o o' Θ') : (a, o) ∈ Θ := by
  induction h with
  | here => exact List.mem_cons_self
  | there _ ih => exact List.mem_cons_of_mem _ ih
theorem Put.keys {Θ' : Th} (h : Put Θ a o o' Θ') : Θ'.map (·.1) = Θ.map (·.1) := by
  induction h with
  | here => rfl
  | there _ ih => rw [List.map_cons, List.map_cons, ih]
theorem Put.inv {Θ' : Th} (h : Put Θ a o o' Θ') (nd : (Θ.map (·.1)).Nodup) {b : Addr} {q : Mo} (hm : (b, q) ∈ Θ') : (b = a ∧ q = o') ∨ ((b, q) ∈ Θ ∧ b ≠ a) := by
  induction h with
  | here =>
    rw [List.map_cons, List.nodup_cons] at nd
    rcases List.mem_cons.mp hm with e | hm
    · cases e; exact .inl ⟨rfl, rfl⟩
    · exact .inr ⟨List.mem_cons_of_mem _ hm, fun e => nd.1 (by rw [← e]; exact List.mem_map.mpr ⟨(b, q), hm, rfl⟩)⟩
  | there hp ih =>
    rw [List.map_cons, List.nodup_cons] at nd
    rcases List.mem_cons.mp hm with e | hm
    · subst e
      exact .inr ⟨List.mem_cons_self, fun e => nd.1 (by rw [e]; exact List.mem_map.mpr ⟨_, hp.mem, rfl⟩)⟩
    · rcases ih nd.2 hm with z | ⟨z1, z2⟩
      · exact .inl z
      · exact .inr ⟨List.mem_cons_of_mem _ z1, z2⟩
theorem St.put {Θ' : Th} {u : HO} (h : St F σ H Γ Θ) (hP : Put Θ a o o' Θ') (new : Ob F.K F.w (upd H a u) a o') : St F σ (upd H a u) Γ Θ' := by
  have ho := h.ob a o hP.mem
  have per : Per H (upd H a u) := ho.perUpd
  refine ⟨h.ln, fun i d e => ?_, fun b q hm => ?_, by rw [hP.keys]; exact h.nd, ⟨fun b q e n => ?_, fun b q e => ?_⟩, fun b q hm => ?_, h.pe.trans per⟩
  · obtain ⟨v, e1, r⟩ := h.sl i d e
    exact ⟨v, e1, r.per per⟩
  · rcases hP.inv h.nd hm with ⟨rfl, rfl⟩ | ⟨z1, z2⟩
    · exact new
    · exact (h.ob b q z1).per per (upd_ne z2)
  · have hb : b ≠ a := fun z => by
      subst z
      rcases h.ow b o hP.mem with z | z
      · exact n z
      · rw [e] at z; cases z
    rw [upd_ne hb]
    exact h.fr.k b q e n
  · by_cases hb : b = a
    · subst hb; exact ⟨u, upd_same⟩
    · obtain ⟨q', z⟩ := h.fr.d b q e
      exact ⟨q', by rw [upd_ne hb]; exact z⟩
  · rcases hP.inv h.nd hm with ⟨rfl, rfl⟩ | ⟨z1, z2⟩
    · exact h.ow _ _ hP.mem
    · exact h.ow b q z1

/-- one object out of Θ -/
inductive Take : Th → Addr → Mo → Th → Prop
  | here {a : Addr} {o : Mo} {r : Th} : Take ((a, o) :: r) a o r
  | there {a : Addr} {o : Mo} {q : Addr × Mo} {r r' : Th} (h : Take r a o r') : Take (q :: r) a o (q :: r')
/-- Θ parted into Θa and the rest -/
inductive Spl : Th → Th → Th → Prop
  | nil {Θ : Th} : Spl Θ [] Θ
  | cons {Θ Θ1 Θa Θr : Th} {a : Addr} {o : Mo} (h : Take Θ a o Θ1) (t : Spl Θ1 Θa Θr) : Spl Θ ((a, o) :: Θa) Θr
theorem Take.perm {Θ' : Th} (h : Take Θ a o Θ') : Θ.Perm ((a, o) :: Θ') := by
  induction h with
  | here => exact .refl _
  | there _ ih => exact (ih.cons _).trans (.swap _ _ _)
theorem Spl.perm {Θa Θr : Th} (h : Spl Θ Θa Θr) : Θ.Perm (Θa ++ Θr) := by
  induction h with
  | nil => exact .refl _
  | cons t _ ih => exact t.perm.trans (ih.cons _)
/-- slots forgotten -/
inductive GSub : Gm → Gm → Prop
  | nil : GSub [] []
  | keep {x : Option Da} {g g' : Gm} (h : GSub g g') : GSub (x :: g) (x :: g')
  | drop {x : Option Da} {g g' : Gm} (h : GSub g g') : GSub (none :: g) (x :: g')
theorem GSub.refl : ∀ g : Gm, GSub g g
  | [] => .nil
  | _ :: g => .keep (GSub.refl g)
theorem GSub.length {g g' : Gm} (h : GSub g g') : g.length = g'.length := by
  induction h with
  | nil => rfl
  | keep _ ih => rw [List.length_cons, List.length_cons, ih]
  | drop _ ih => rw [List.length_cons, List.length_cons, ih]
theorem GSub.get {g g' : Gm} (h : GSub g g') : ∀ {i : Nat} {d : Da}, g[i]? = some (some d) → g'[i]? = some (some d) := by
  induction h with
  | nil => intro i d e; exact e
  | keep _ ih =>
    intro i d e
    cases i with
    | zero => exact e
    | succ i => exact ih (i := i) e
  | drop _ ih =>
    intro i d e
    cases i with
    | zero => cases e
    | succ i => exact ih (i := i) e
theorem St.gsub {Γ' : Gm} (h : St F σ H Γ Θ) (g : GSub Γ' Γ) : St F σ H Γ' Θ := ⟨by rw [g.length]; exact h.ln, fun i d e => h.sl i d (g.get e), h.ob, h.nd, h.fr, h.ow, h.pe⟩
theorem St.sub {Θ' : Th} (h : St F σ H Γ Θ) (hs : ∀ q ∈ Θ', q ∈ Θ) (nd : (Θ'.map (·.1)).Nodup) : St F σ H Γ Θ' := ⟨h.ln, h.sl, fun a o hm => h.ob a o (hs _ hm), nd, h.fr, fun a o hm => h.ow a o (hs _ hm), h.pe⟩
theorem St.spl {Θa Θr : Th} (h : St F σ H Γ Θ) (s : Spl Θ Θa Θr) : St F σ H Γ Θa := by
  have p := s.perm
  refine h.sub (fun q hq => p.symm.subset (List.mem_append_left _ hq)) ?_
  have z : ((Θa ++ Θr).map (·.1)).Nodup := (p.map (·.1)).nodup_iff.mp h.nd
  rw [List.map_append, List.nodup_append] at z
  exact z.1
theorem St.rest {Θa Θr : Th} (h : St F σ H Γ Θ) (s : Spl Θ Θa Θr) : St F σ H Γ Θr := by
  have p := s.perm
  refine h.sub (fun q hq => p.symm.subset (List.mem_append_right _ hq)) ?_
  have z : ((Θa ++ Θr).map (·.1)).Nodup := (p.map (·.1)).nodup_iff.mp h.nd
  rw [List.map_append, List.nodup_append] at z
  exact z.2.1
/-- a state whose slots are others (a comprehension's block) -/
theorem St.slots {σ' : L2.St} {Γ' : Gm} (h : St F σ H Γ Θ) (ln : σ'.length = Γ'.length) (sl : ∀ (i : Nat) d, Γ'[i]? = some (some d) → ∃ v, σ'[i]? = some (some v) ∧ Rp F.K H v d) : St F σ' H Γ' Θ := ⟨ln, sl, h.ob, h.nd, h.fr, h.ow, h.pe⟩
end
end Sy

end
section
/-! Sy, part C: readings at symbolic states: expressions. -/
namespace Sy
open PySem PySem.Spec L2

/-! ### what a reading comes to -/
def EvG (F : Fx) (te : TE) (Γ : Gm) (Θ : Th) (R : Da → Th → Prop) : Prop :=
  ∀ σ H, St F σ H Γ Θ → ∀ Q : VK, (∀ v H' d Θ', Per H H' → St F σ H' Γ Θ' → Rp F.K H' v d → R d Θ' → Q v H') → te σ H Q
def EvA (F : Fx) (ta : TA) (Γ : Gm) (Θ : Th) (R : List Da → Th → Prop) : Prop :=
  ∀ σ H, St F σ H Γ Θ → ∀ Q : List V → Hp → Prop, (∀ vs H' ds Θ', Per H H' → St F σ H' Γ Θ' → RpL F.K H' vs ds → R ds Θ' → Q vs H') → ta σ H Q
def EvT (F : Fx) (tt : TT) (Γ : Gm) (Θ : Th) (R : Bool → Th → Prop) : Prop :=
  ∀ σ H, St F σ H Γ Θ → ∀ Q : Bool → Hp → Prop, (∀ b H' Θ', Per H H' → St F σ H' Γ Θ' → R b Θ' → Q b H') → tt σ H Q
/-- of two values, of a list of values, of a method's receiver and arguments -/
def S2 (F : Fx) (r : R2) (d e : Da) (Θ : Th) (R : Da → Th → Prop) : Prop :=
  ∀ σ H Γ v w, St F σ H Γ Θ → Rp F.K H v d → Rp F.K H w e → ∀ Q : VK, (∀ z H' f Θ', Per H H' → St F σ H' Γ Θ' → Rp F.K H' z f → R f Θ' → Q z H') → r v w H Q
def S1 (F : Fx) (r : V → Hp → VK → Prop) (d : Da) (Θ : Th) (R : Da → Th → Prop) : Prop :=
  ∀ σ H Γ v, St F σ H Γ Θ → Rp F.K H v d → ∀ Q : VK, (∀ z H' f Θ', Per H H' → St F σ H' Γ Θ' → Rp F.K H' z f → R f Θ' → Q z H') → r v H Q
def SL (F : Fx) (r : List V → Hp → VK → Prop) (ds : List Da) (Θ : Th) (R : Da → Th → Prop) : Prop :=
  ∀ σ H Γ vs, St F σ H Γ Θ → RpL F.K H vs ds → ∀ Q : VK, (∀ z H' f Θ', Per H H' → St F σ H' Γ Θ' → Rp F.K H' z f → R f Θ' → Q z H') → r vs H Q
theorem St.newL {F : Fx} {σ : L2.St} {H : Hp} {Γ : Gm} {Θ : Th} {p : Addr} {xs : List V} {ds : List Da} (h : St F σ H Γ Θ) (hp : H p = none) (r : RpL F.K H xs ds) : St F σ (upd H p (.lst xs)) Γ (Θ ++ [(p, .lst ds)]) :=
  h.newO (o := .lst ds) hp ⟨xs, upd_same, r.per (.new hp)⟩
section
variable {F : Fx} {Γ : Gm} {Θ : Th} {R : Da → Th → Prop} {ta tb tc te : TE} {tt tu : TT} {d e : Da} {i j : Int}

theorem EvG.mono {R' : Da → Th → Prop} (h : EvG F te Γ Θ R) (k : ∀ d Θ', R d Θ' → R' d Θ') : EvG F te Γ Θ R' := fun σ H hS Q q => h σ H hS Q fun v H' d Θ' a b c r => q v H' d Θ' a b c (k d Θ' r)
theorem ev_var {n : Nat} (h : Γ[n]? = some (some d)) (k : R d Θ) : EvG F (tVar n) Γ Θ R := fun σ H hS Q q => by
  obtain ⟨v, e, r⟩ := hS.sl n d h
  exact ⟨v, e, q v H d Θ (.rfl' H) hS r k⟩
theorem ev_int {n : Int} (k : R (.int n) Θ) : EvG F (tC (.int n)) Γ Θ R := fun σ H hS Q q => q _ H _ Θ (.rfl' H) hS (.int n) k
theorem ev_bl {b : Bool} (k : R (.bl b) Θ) : EvG F (tC (.bl b)) Γ Θ R := fun σ H hS Q q => q _ H _ Θ (.rfl' H) hS (.bl b) k
theorem ev_str {x : Str} (k : R (.str x) Θ) : EvG F (tC (.str x)) Γ Θ R := fun σ H hS Q q => q _ H _ Θ (.rfl' H) hS (.str x) k
theorem ev_non (k : R .non Θ) : EvG F (tC .non) Γ Θ R := fun σ H hS Q q => q _ H _ Θ (.rfl' H) hS .non k
/-- a constant of the module -/
theorem ev_con {v : V} (h : ∀ H, Rp F.K H v d) (k : R d Θ) : EvG F (tC v) Γ Θ R := fun σ H hS Q q => q v H d Θ (.rfl' H) hS (h H) k
theorem ev_op {r : R2} (h : EvG F ta Γ Θ fun d Θ1 => EvG F tb Γ Θ1 fun e Θ2 => S2 F r d e Θ2 R) : EvG F (tOp r ta tb) Γ Θ R := fun σ H hS Q q =>
  h σ H hS _ fun v H1 d Θ1 p1 s1 r1 h1 => h1 σ H1 s1 _ fun w H2 e Θ2 p2 s2 r2 h2 => h2 σ H2 Γ v w s2 (r1.per p2) r2 Q fun z H3 f Θ3 p3 s3 r3 h3 => q z H3 f Θ3 ((p1.trans p2).trans p3) s3 r3 h3
theorem ev_un {r : V → Hp → VK → Prop} (h : EvG F ta Γ Θ fun d Θ1 => S1 F r d Θ1 R) : EvG F (tUn r ta) Γ Θ R := fun σ H hS Q q =>
  h σ H hS _ fun v H1 d Θ1 p1 s1 r1 h1 => h1 σ H1 Γ v s1 r1 Q fun z H3 f Θ3 p3 s3 r3 h3 => q z H3 f Θ3 (p1.trans p3) s3 r3 h3
theorem ea_nil {R : List Da → Th → Prop} (k : R [] Θ) : EvA F tNil Γ Θ R := fun σ H hS Q q => q [] H [] Θ (.rfl' H) hS .nil k
theorem ea_cons {R : List Da → Th → Prop} {tr : TA} (h : EvG F te Γ Θ fun d Θ1 => EvA F tr Γ Θ1 fun ds Θ2 => R (d :: ds) Θ2) : EvA F (tCons te tr) Γ Θ R := fun σ H hS Q q =>
  h σ H hS _ fun v H1 d Θ1 p1 s1 r1 h1 => h1 σ H1 s1 _ fun vs H2 ds Θ2 p2 s2 r2 h2 => q (v :: vs) H2 (d :: ds) Θ2 (p1.trans p2) s2 (.cons (r1.per p2) r2) h2
theorem ev_cb {r : List V → Hp → VK → Prop} {t : TA} (h : EvA F t Γ Θ fun ds Θ1 => SL F r ds Θ1 R) : EvG F (tCB r t) Γ Θ R := fun σ H hS Q q =>
  h σ H hS _ fun vs H1 ds Θ1 p1 s1 r1 h1 => h1 σ H1 Γ vs s1 r1 Q fun z H3 f Θ3 p3 s3 r3 h3 => q z H3 f Θ3 (p1.trans p3) s3 r3 h3

/-! #### tests, truth -/
theorem et_B (h : EvG F te Γ Θ fun d Θ1 => ∃ b, d = .bl b ∧ R' b Θ1) : EvT F (tB te) Γ Θ R' := fun σ H hS Q q => h σ H hS _ fun v H1 d Θ1 p1 s1 r1 h1 => by
  obtain ⟨b, rfl, k⟩ := h1
  cases r1
  exact ⟨b, rfl, q b H1 Θ1 p1 s1 k⟩
theorem et_test (h : EvG F te Γ Θ fun d Θ1 => ∃ b, d = .bl b ∧ R' b Θ1) : EvT F (tTest te) Γ Θ R' := fun σ H hS Q q => h σ H hS _ fun v H1 d Θ1 p1 s1 r1 h1 => by
  obtain ⟨b, rfl, k⟩ := h1
  cases r1
  exact ⟨b, rfl, q b H1 Θ1 p1 s1 k⟩
theorem et_and {R' : Bool → Th → Prop} (h : EvT F tt Γ Θ fun b Θ1 => (b = true → EvT F tu Γ Θ1 R') ∧ (b = false → R' false Θ1)) : EvT F (tAnd tt tu) Γ Θ R' := fun σ H hS Q q => h σ H hS _ fun b H1 Θ1 p1 s1 h1 => by
  cases b with
  | true => exact h1.1 rfl σ H1 s1 Q fun c H2 Θ2 p2 s2 h2 => q c H2 Θ2 (p1.trans p2) s2 h2
  | false => exact q false H1 Θ1 p1 s1 (h1.2 rfl)
theorem et_or {R' : Bool → Th → Prop} (h : EvT F tt Γ Θ fun b Θ1 => (b = true → R' true Θ1) ∧ (b = false → EvT F tu Γ Θ1 R')) : EvT F (tOr tt tu) Γ Θ R' := fun σ H hS Q q => h σ H hS _ fun b H1 Θ1 p1 s1 h1 => by
  cases b with
  | false => exact h1.2 rfl σ H1 s1 Q fun c H2 Θ2 p2 s2 h2 => q c H2 Θ2 (p1.trans p2) s2 h2
  | true => exact q true H1 Θ1 p1 s1 (h1.1 rfl)
theorem et_not {R' : Bool → Th → Prop} (h : EvT F tt Γ Θ fun b Θ1 => R' (!b) Θ1) : EvT F (tNot tt) Γ Θ R' := fun σ H hS Q q => h σ H hS _ fun b H1 Θ1 p1 s1 h1 => q (!b) H1 Θ1 p1 s1 h1
theorem ev_andV (h : EvG F ta Γ Θ fun d Θ1 => ∃ b, d = .bl b ∧ (b = true → EvG F tb Γ Θ1 R) ∧ (b = false → R (.bl false) Θ1)) : EvG F (tAndV ta tb) Γ Θ R := fun σ H hS Q q => h σ H hS _ fun v H1 d Θ1 p1 s1 r1 h1 => by
  obtain ⟨b, rfl, h2, h3⟩ := h1
  cases r1
  refine ⟨b, rfl, ?_⟩
  cases b with
  | true => exact h2 rfl σ H1 s1 Q fun c H2 e Θ2 p2 s2 r2 k => q c H2 e Θ2 (p1.trans p2) s2 r2 k
  | false => exact q _ H1 _ Θ1 p1 s1 (.bl false) (h3 rfl)
theorem ev_orV (h : EvG F ta Γ Θ fun d Θ1 => ∃ b, d = .bl b ∧ (b = true → R (.bl true) Θ1) ∧ (b = false → EvG F tb Γ Θ1 R)) : EvG F (tOrV ta tb) Γ Θ R := fun σ H hS Q q => h σ H hS _ fun v H1 d Θ1 p1 s1 r1 h1 => by
  obtain ⟨b, rfl, h2, h3⟩ := h1
  cases r1
  refine ⟨b, rfl, ?_⟩
  cases b with
  | false => exact h3 rfl σ H1 s1 Q fun c H2 e Θ2 p2 s2 r2 k => q c H2 e Θ2 (p1.trans p2) s2 r2 k
  | true => exact q _ H1 _ Θ1 p1 s1 (.bl true) (h2 rfl)
theorem ev_notV (h : EvG F ta Γ Θ fun d Θ1 => ∃ b, d = .bl b ∧ R (.bl (!b)) Θ1) : EvG F (tNotV ta) Γ Θ R := fun σ H hS Q q => h σ H hS _ fun v H1 d Θ1 p1 s1 r1 h1 => by
  obtain ⟨b, rfl, k⟩ := h1
  cases r1
  exact ⟨b, rfl, q _ H1 _ Θ1 p1 s1 (.bl (!b)) k⟩
theorem ev_if (h : EvT F tt Γ Θ fun b Θ1 => (b = true → EvG F ta Γ Θ1 R) ∧ (b = false → EvG F tb Γ Θ1 R)) : EvG F (tIf tt ta tb) Γ Θ R := fun σ H hS Q q => h σ H hS _ fun b H1 Θ1 p1 s1 h1 => by
  cases b with
  | true => exact h1.1 rfl σ H1 s1 Q fun c H2 e Θ2 p2 s2 r2 k => q c H2 e Θ2 (p1.trans p2) s2 r2 k
  | false => exact h1.2 rfl σ H1 s1 Q fun c H2 e Θ2 p2 s2 r2 k => q c H2 e Θ2 (p1.trans p2) s2 r2 k
theorem ev_chain {r r' : R2} (h : EvG F ta Γ Θ fun d Θ1 => EvG F tb Γ Θ1 fun e Θ2 => S2 F r d e Θ2 fun z Θ3 => ∃ b, z = .bl b ∧ (b = true → EvG F tc Γ Θ3 fun f Θ4 => S2 F r' e f Θ4 R) ∧ (b = false → R (.bl false) Θ3)) :
    EvG F (tChain r r' ta tb tc) Γ Θ R := fun σ H hS Q q =>
  h σ H hS _ fun v H1 d Θ1 p1 s1 r1 h1 => h1 σ H1 s1 _ fun w H2 e Θ2 p2 s2 r2 h2 => h2 σ H2 Γ v w s2 (r1.per p2) r2 _ fun z H3 f Θ3 p3 s3 r3 h3 => by
    obtain ⟨b, rfl, k1, k2⟩ := h3
    cases r3
    refine ⟨b, rfl, ?_⟩
    cases b with
    | true => exact k1 rfl σ H3 s3 _ fun x H4 f Θ4 p4 s4 r4 h4 => h4 σ H4 Γ w x s4 ((r2.per p3).per p4) r4 Q fun y H5 g Θ5 p5 s5 r5 h5 => q y H5 g Θ5 ((((p1.trans p2).trans p3).trans p4).trans p5) s5 r5 h5
    | false => exact q _ H3 _ Θ3 ((p1.trans p2).trans p3) s3 (.bl false) (k2 rfl)

/-! #### numbers -/
theorem s_I0 {g : Int → Int → Int} (k : R (.int (g i j)) Θ) : S2 F (rI0 fun i j => .int (g i j)) (.int i) (.int j) Θ R := fun σ H Γ v w hS h1 h2 Q q => by
  cases h1; cases h2
  exact ⟨i, j, rfl, rfl, q _ H _ Θ (.rfl' H) hS (.int _) k⟩
theorem s_I {C : Int → Int → Prop} {g : Int → Int → Int} (c : C i j) (k : R (.int (g i j)) Θ) : S2 F (rI C fun i j => .int (g i j)) (.int i) (.int j) Θ R := fun σ H Γ v w hS h1 h2 Q q => by
  cases h1; cases h2
  exact ⟨i, j, rfl, rfl, c, q _ H _ Θ (.rfl' H) hS (.int _) k⟩
theorem s_B0 {g : Int → Int → Bool} (k : R (.bl (g i j)) Θ) : S2 F (rI0 fun i j => .bl (g i j)) (.int i) (.int j) Θ R := fun σ H Γ v w hS h1 h2 Q q => by
  cases h1; cases h2
  exact ⟨i, j, rfl, rfl, q _ H _ Θ (.rfl' H) hS (.bl _) k⟩
theorem s_neg (k : R (.int (-i)) Θ) : S1 F (rU fun i => .int (-i)) (.int i) Θ R := fun σ H Γ v hS h1 Q q => by
  cases h1
  exact ⟨i, rfl, q _ H _ Θ (.rfl' H) hS (.int _) k⟩
theorem s_eqI (k : R (.bl (decide (i = j))) Θ) : S2 F rEq (.int i) (.int j) Θ R := fun σ H Γ v w hS h1 h2 Q q => by
  cases h1; cases h2
  refine ⟨rfl, ?_⟩
  have e : decide (V.int i = V.int j) = decide (i = j) := by simp
  rw [e]
  exact q _ H _ Θ (.rfl' H) hS (.bl _) k
theorem s_neI (k : R (.bl (!decide (i = j))) Θ) : S2 F rNe (.int i) (.int j) Θ R := fun σ H Γ v w hS h1 h2 Q q => by
  cases h1; cases h2
  refine ⟨rfl, ?_⟩
  have e : decide (V.int i = V.int j) = decide (i = j) := by simp
  rw [e]
  exact q _ H _ Θ (.rfl' H) hS (.bl _) k
theorem s_eqS {x y : Str} (k : R (.bl (decide (x = y))) Θ) : S2 F rEq (.str x) (.str y) Θ R := fun σ H Γ v w hS h1 h2 Q q => by
  cases h1; cases h2
  refine ⟨rfl, ?_⟩
  have e : decide (V.str x = V.str y) = decide (x = y) := by simp
  rw [e]
  exact q _ H _ Θ (.rfl' H) hS (.bl _) k
theorem s_neS {x y : Str} (k : R (.bl (!decide (x = y))) Θ) : S2 F rNe (.str x) (.str y) Θ R := fun σ H Γ v w hS h1 h2 Q q => by
  cases h1; cases h2
  refine ⟨rfl, ?_⟩
  have e : decide (V.str x = V.str y) = decide (x = y) := by simp
  rw [e]
  exact q _ H _ Θ (.rfl' H) hS (.bl _) k
theorem s_eqB {x y : Bool} (k : R (.bl (decide (x = y))) Θ) : S2 F rEq (.bl x) (.bl y) Θ R := fun σ H Γ v w hS h1 h2 Q q => by
  cases h1; cases h2
  refine ⟨rfl, ?_⟩
  have e : decide (V.bl x = V.bl y) = decide (x = y) := by simp
  rw [e]
  exact q _ H _ Θ (.rfl' H) hS (.bl _) k
theorem s_neB {x y : Bool} (k : R (.bl (!decide (x = y))) Θ) : S2 F rNe (.bl x) (.bl y) Θ R := fun σ H Γ v w hS h1 h2 Q q => by
  cases h1; cases h2
  refine ⟨rfl, ?_⟩
  have e : decide (V.bl x = V.bl y) = decide (x = y) := by simp
  rw [e]
  exact q _ H _ Θ (.rfl' H) hS (.bl _) k
/-- is None -/
def Da.isNon : Da → Bool
  | .non => true
  | _ => false
theorem Rp.isNon {K : PySem.W.Frag} {H : Hp} {v : V} {d : Da} (h : Rp K H v d) : decide (v = V.non) = d.isNon := by cases h <;> simp [Da.isNon]
abbrev rIsN : R2 := fun x y H Q => y = V.non ∧ Q (V.bl (decide (x = V.non))) H
abbrev rNotN : R2 := fun x y H Q => y = V.non ∧ Q (V.bl !decide (x = V.non)) H
theorem s_isN (k : R (.bl d.isNon) Θ) : S2 F rIsN d .non Θ R := fun σ H Γ v w hS h1 h2 Q q => by
  cases h2
  refine ⟨rfl, ?_⟩
  rw [h1.isNon]
  exact q _ H _ Θ (.rfl' H) hS (.bl _) k
theorem s_notN (k : R (.bl (!d.isNon)) Θ) : S2 F rNotN d .non Θ R := fun σ H Γ v w hS h1 h2 Q q => by
  cases h2
  refine ⟨rfl, ?_⟩
  rw [h1.isNon]
  exact q _ H _ Θ (.rfl' H) hS (.bl _) k

/-! #### tuples, lists -/
theorem Rp.tupI {K : PySem.W.Frag} {H : Hp} {v : V} {ds : List Da} (h : Rp K H v (.tup ds)) : ∃ a xs, v = .ref a ∧ SqT K H a xs ∧ RpL K H xs ds := by
  cases h with
  | tup h r => exact ⟨_, _, rfl, h, r⟩
theorem Rp.lisI {K : PySem.W.Frag} {H : Hp} {v : V} {ds : List Da} (h : Rp K H v (.lis ds)) : ∃ a xs, v = .ref a ∧ SqF K H a xs ∧ RpL K H xs ds := by
  cases h with
  | lis h r => exact ⟨_, _, rfl, h, r⟩
theorem s_ixT {ds : List Da} (e : atI ds i = some d) (k : R d Θ) : S2 F (rIxT F.K) (.tup ds) (.int i) Θ R := fun σ H Γ v w hS h1 h2 Q q => by
  obtain ⟨a, xs, rfl, hs, r⟩ := h1.tupI
  cases h2
  obtain ⟨u, e1, r1⟩ := r.at e
  exact ⟨a, xs, i, u, rfl, rfl, hs, e1, q u H d Θ (.rfl' H) hS r1 k⟩
theorem s_ixF {ds : List Da} (e : atI ds i = some d) (k : R d Θ) : S2 F (rIxL F.K) (.lis ds) (.int i) Θ R := fun σ H Γ v w hS h1 h2 Q q => by
  obtain ⟨a, xs, rfl, hs, r⟩ := h1.lisI
  cases h2
  obtain ⟨u, e1, r1⟩ := r.at e
  exact ⟨a, xs, i, u, rfl, rfl, hs.sq, e1, q u H d Θ (.rfl' H) hS r1 k⟩
theorem s_ixL {a : Addr} {ds : List Da} (hm : (a, .lst ds) ∈ Θ) (e : atI ds i = some d) (k : R d Θ) : S2 F (rIxL F.K) (.ref a) (.int i) Θ R := fun σ H Γ v w hS h1 h2 Q q => by
  cases h1
  cases h2
  obtain ⟨xs, h, r⟩ := hS.ob a _ hm
  obtain ⟨u, e1, r1⟩ := r.at e
  exact ⟨a, xs, i, u, rfl, rfl, .inl (.inl h), e1, q u H d Θ (.rfl' H) hS r1 k⟩
theorem ev_tup {t : TA} (h : EvA F t Γ Θ fun ds Θ1 => ds.length ≤ sizeLine ∧ R (.tup ds) Θ1) : EvG F (tTup t) Γ Θ R := fun σ H hS Q q => h σ H hS _ fun vs H1 ds Θ1 p1 s1 r1 h1 => by
  obtain ⟨z, k⟩ := h1
  refine ⟨by rw [r1.length]; exact z, fun p hp => ?_⟩
  have p2 : Per H1 (upd H1 p (.tup vs)) := .new hp
  exact q _ _ _ Θ1 (p1.trans p2) (s1.new hp) (.tup (.inl (.inl upd_same)) (r1.per p2)) k
theorem ev_lst {t : TA} (h : EvA F t Γ Θ fun ds Θ1 => ds.length ≤ sizeLine ∧ ∀ p, R (.ref p) (Θ1 ++ [(p, .lst ds)])) : EvG F (tLst t) Γ Θ R := fun σ H hS Q q => h σ H hS _ fun vs H1 ds Θ1 p1 s1 r1 h1 => by
  obtain ⟨z, k⟩ := h1
  refine ⟨by rw [r1.length]; exact z, fun p hp => ?_⟩
  have p2 : Per H1 (upd H1 p (.lst vs)) := .new hp
  exact q _ _ _ _ (p1.trans p2) (s1.newL hp r1) (.ref p) (k p)

/-! #### calls of built-ins -/
abbrev rLenS (K : PySem.W.Frag) : List V → Hp → VK → Prop := fun xs H Q => ∃ p ys, xs = [V.ref p] ∧ (SqL K H p ys ∨ SqT K H p ys) ∧ Q (V.int ↑ys.length) H
abbrev rAbs : List V → Hp → VK → Prop := fun xs H Q => ∃ i, xs = [V.int i] ∧ Q (V.int (if i < 0 then -i else i)) H
abbrev rMax2 : List V → Hp → VK → Prop := fun xs H Q => ∃ i j, xs = [V.int i, V.int j] ∧ Q (V.int (if j > i then j else i)) H
abbrev rMin2 : List V → Hp → VK → Prop := fun xs H Q => ∃ i j, xs = [V.int i, V.int j] ∧ Q (V.int (if j < i then j else i)) H
abbrev rInt1 : List V → Hp → VK → Prop := fun xs H Q => (∃ i, xs = [V.int i] ∧ Q (V.int i) H) ∨ ∃ k, xs = [V.bl k] ∧ Q (V.int (if k = true then 1 else 0)) H
abbrev rListOf (K : PySem.W.Frag) : List V → Hp → VK → Prop := fun xs H Q => ∃ p ys, xs = [V.ref p] ∧ (SqL K H p ys ∨ SqT K H p ys) ∧ ∀ (l : Addr), H l = none → Q (V.ref l) (upd H l (HO.lst ys))
abbrev rTupOf (K : PySem.W.Frag) : List V → Hp → VK → Prop := fun xs H Q => ∃ p ys, xs = [V.ref p] ∧ ((SqL K H p ys ∧ ∀ (l : Addr), H l = none → Q (V.ref l) (upd H l (HO.tup ys))) ∨ SqT K H p ys ∧ Q (V.ref p) H)
theorem RpL.one {K : PySem.W.Frag} {H : Hp} {vs : List V} {d : Da} (h : RpL K H vs [d]) : ∃ v, vs = [v] ∧ Rp K H v d := by
  cases h with
  | cons h r => cases r; exact ⟨_, rfl, h⟩
theorem RpL.two {K : PySem.W.Frag} {H : Hp} {vs : List V} {d e : Da} (h : RpL K H vs [d, e]) : ∃ v w, vs = [v, w] ∧ Rp K H v d ∧ Rp K H w e := by
  cases h with
  | cons h r => obtain ⟨w, rfl, h2⟩ := r.one; exact ⟨_, _, rfl, h, h2⟩
theorem s_lenT {ds : List Da} (k : R (.int ds.length) Θ) : SL F (rLenS F.K) [.tup ds] Θ R := fun σ H Γ vs hS h1 Q q => by
  obtain ⟨v, rfl, h⟩ := h1.one
  obtain ⟨a, xs, rfl, hs, r⟩ := h.tupI
  refine ⟨a, xs, rfl, .inr hs, ?_⟩
  rw [r.length]
  exact q _ H _ Θ (.rfl' H) hS (.int _) k
theorem s_lenF {ds : List Da} (k : R (.int ds.length) Θ) : SL F (rLenS F.K) [.lis ds] Θ R := fun σ H Γ vs hS h1 Q q => by
  obtain ⟨v, rfl, h⟩ := h1.one
  obtain ⟨a, xs, rfl, hs, r⟩ := h.lisI
  refine ⟨a, xs, rfl, .inl hs.sq, ?_⟩
  rw [r.length]
  exact q _ H _ Θ (.rfl' H) hS (.int _) k
theorem s_lenL {a : Addr} {ds : List Da} (hm : (a, .lst ds) ∈ Θ) (k : R (.int ds.length) Θ) : SL F (rLenS F.K) [.ref a] Θ R := fun σ H Γ vs hS h1 Q q => by
  obtain ⟨v, rfl, h⟩ := h1.one
  cases h
  obtain ⟨xs, hs, r⟩ := hS.ob a _ hm
  refine ⟨a, xs, rfl, .inl (.inl (.inl hs)), ?_⟩
  rw [r.length]
  exact q _ H _ Θ (.rfl' H) hS (.int _) k
theorem s_abs (k : R (.int (if i < 0 then -i else i)) Θ) : SL F rAbs [.int i] Θ R := fun σ H Γ vs hS h1 Q q => by
  obtain ⟨v, rfl, h⟩ := h1.one
  cases h
  exact ⟨i, rfl, q _ H _ Θ (.rfl' H) hS (.int _) k⟩
theorem s_max2 (k : R (.int (if j > i then j else i)) Θ) : SL F rMax2 [.int i, .int j] Θ R := fun σ H Γ vs hS h1 Q q => by
  obtain ⟨v, w, rfl, h, h2⟩ := h1.two
  cases h; cases h2
  exact ⟨i, j, rfl, q _ H _ Θ (.rfl' H) hS (.int _) k⟩
theorem s_min2 (k : R (.int (if j < i then j else i)) Θ) : SL F rMin2 [.int i, .int j] Θ R := fun σ H Γ vs hS h1 Q q => by
  obtain ⟨v, w, rfl, h, h2⟩ := h1.two
  cases h; cases h2
  exact ⟨i, j, rfl, q _ H _ Θ (.rfl' H) hS (.int _) k⟩
theorem s_int1 (k : R (.int i) Θ) : SL F rInt1 [.int i] Θ R := fun σ H Γ vs hS h1 Q q => by
  obtain ⟨v, rfl, h⟩ := h1.one
  cases h
  exact .inl ⟨i, rfl, q _ H _ Θ (.rfl' H) hS (.int _) k⟩
theorem s_intB {b : Bool} (k : R (.int (if b = true then 1 else 0)) Θ) : SL F rInt1 [.bl b] Θ R := fun σ H Γ vs hS h1 Q q => by
  obtain ⟨v, rfl, h⟩ := h1.one
  cases h
  exact .inr ⟨b, rfl, q _ H _ Θ (.rfl' H) hS (.int _) k⟩
theorem s_tupL {a : Addr} {ds : List Da} (hm : (a, .lst ds) ∈ Θ) (k : R (.tup ds) Θ) : SL F (rTupOf F.K) [.ref a] Θ R := fun σ H Γ vs hS h1 Q q => by
  obtain ⟨v, rfl, h⟩ := h1.one
  cases h
  obtain ⟨xs, hs, r⟩ := hS.ob a _ hm
  refine ⟨a, xs, rfl, .inl ⟨.inl (.inl hs), fun l hl => ?_⟩⟩
  exact q _ _ _ Θ (.new hl) (hS.new hl) (.tup (.inl (.inl upd_same)) (r.per (.new hl))) k
theorem s_listL {a : Addr} {ds : List Da} (hm : (a, .lst ds) ∈ Θ) (k : ∀ p, R (.ref p) (Θ ++ [(p, .lst ds)])) : SL F (rListOf F.K) [.ref a] Θ R := fun σ H Γ vs hS h1 Q q => by
  obtain ⟨v, rfl, h⟩ := h1.one
  cases h
  obtain ⟨xs, hs, r⟩ := hS.ob a _ hm
  refine ⟨a, xs, rfl, .inl (.inl (.inl hs)), fun l hl => ?_⟩
  exact q _ _ _ _ (.new hl) (hS.newL hl r) (.ref l) (k l)
theorem s_listT {ds : List Da} (k : ∀ p, R (.ref p) (Θ ++ [(p, .lst ds)])) : SL F (rListOf F.K) [.tup ds] Θ R := fun σ H Γ vs hS h1 Q q => by
  obtain ⟨v, rfl, h⟩ := h1.one
  obtain ⟨a, xs, rfl, hs, r⟩ := h.tupI
  refine ⟨a, xs, rfl, .inr hs, fun l hl => ?_⟩
  exact q _ _ _ _ (.new hl) (hS.newL hl r) (.ref l) (k l)
theorem s_all {a : Addr} {bs : List Bool} (hm : (a, .lst (bs.map Da.bl)) ∈ Θ) (k : R (.bl (bs.all id)) Θ) : SL F (rAll F.K) [.ref a] Θ R := fun σ H Γ vs hS h1 Q q => by
  obtain ⟨v, rfl, h⟩ := h1.one
  cases h
  obtain ⟨xs, hs, r⟩ := hS.ob a _ hm
  obtain rfl := r.bools
  exact ⟨a, bs, rfl, .inl (.inl hs), q _ H _ Θ (.rfl' H) hS (.bl _) k⟩
theorem s_any {a : Addr} {bs : List Bool} (hm : (a, .lst (bs.map Da.bl)) ∈ Θ) (k : R (.bl (bs.any id)) Θ) : SL F (rAny F.K) [.ref a] Θ R := fun σ H Γ vs hS h1 Q q => by
  obtain ⟨v, rfl, h⟩ := h1.one
  cases h
  obtain ⟨xs, hs, r⟩ := hS.ob a _ hm
  obtain rfl := r.bools
  exact ⟨a, bs, rfl, .inl (.inl hs), q _ H _ Θ (.rfl' H) hS (.bl _) k⟩
theorem s_sum {a : Addr} {ns : List Int} (hm : (a, .lst (ns.map Da.int)) ∈ Θ) (k : R (.int ns.sum) Θ) : SL F (rSum F.K) [.ref a] Θ R := fun σ H Γ vs hS h1 Q q => by
  obtain ⟨v, rfl, h⟩ := h1.one
  cases h
  obtain ⟨xs, hs, r⟩ := hS.ob a _ hm
  obtain rfl := r.ints
  exact ⟨a, ns, rfl, .inl (.inl hs), q _ H _ Θ (.rfl' H) hS (.int _) k⟩
/-- list + list, list * int -/
theorem s_cat {a b : Addr} {ds es : List Da} (h1 : (a, .lst ds) ∈ Θ) (h2 : (b, .lst es) ∈ Θ) (z : ds.length + es.length ≤ sizeLine) (k : ∀ p, R (.ref p) (Θ ++ [(p, .lst (ds ++ es))])) : S2 F rCat (.ref a) (.ref b) Θ R := fun σ H Γ v w hS g1 g2 Q q => by
  cases g1; cases g2
  obtain ⟨xs, e1, r1⟩ := hS.ob a _ h1
  obtain ⟨ys, e2, r2⟩ := hS.ob b _ h2
  refine ⟨a, b, xs, ys, rfl, rfl, e1, e2, by rw [r1.length, r2.length]; exact z, fun p hp => ?_⟩
  exact q _ _ _ _ (.new hp) (hS.newL hp (r1.append r2)) (.ref p) (k p)
theorem flat_repl {α : Type} (x : α) : ∀ n : Nat, (List.replicate n [x]).flatten = List.replicate n x
  | 0 => rfl
  | n + 1 => by rw [List.replicate_succ, List.flatten_cons, flat_repl x n]; rfl
theorem s_rep1 {a : Addr} {x : Da} (h1 : (a, .lst [x]) ∈ Θ) (hi : 0 ≤ i) (z : i ≤ 100000) (k : ∀ p, R (.ref p) (Θ ++ [(p, .lst (List.replicate i.toNat x))])) : S2 F rRep (.ref a) (.int i) Θ R := fun σ H Γ v w hS g1 g2 Q q => by
  cases g1; cases g2
  obtain ⟨xs, e1, r1⟩ := hS.ob a _ h1
  obtain ⟨y, rfl, ry⟩ := r1.one
  refine ⟨a, i, [y], rfl, rfl, e1, by omega, by omega, ?_, fun p hp => ?_⟩
  · rw [sizeLine_eq]; simp; omega
  · rw [flat_repl]
    exact q _ _ _ _ (.new hp) (hS.newL hp (RpL.repl ry _)) (.ref p) (k p)
end
end Sy

end
section
/-! Sy, part D: statements, what is walked, loops, comprehensions, calls. -/
namespace Sy
open PySem PySem.Spec L2

structure SE where
  nx : Gm → Th → Prop
  rt : Da → Th → Prop
  bk : Gm → Th → Prop := fun _ _ => False
  ct : Gm → Th → Prop := fun _ _ => False
/-- the ends of a reading from a heap H on hold what the symbolic ends say -/
structure EndsOk (F : Fx) (E : SE) (H : Hp) (D : Ends) : Prop where
  nx : ∀ σ' H' Γ' Θ', Per H H' → St F σ' H' Γ' Θ' → E.nx Γ' Θ' → D.nx σ' H'
  rt : ∀ v σ' H' Γ' d Θ', Per H H' → St F σ' H' Γ' Θ' → Rp F.K H' v d → E.rt d Θ' → D.rt v H'
  bk : ∀ σ' H' Γ' Θ', Per H H' → St F σ' H' Γ' Θ' → E.bk Γ' Θ' → D.bk σ' H'
  ct : ∀ σ' H' Γ' Θ', Per H H' → St F σ' H' Γ' Θ' → E.ct Γ' Θ' → D.ct σ' H'
theorem EndsOk.per {F : Fx} {E : SE} {H H1 : Hp} {D : Ends} (h : EndsOk F E H D) (p : Per H H1) : EndsOk F E H1 D :=
  ⟨fun σ' H' Γ' Θ' q => h.nx σ' H' Γ' Θ' (p.trans q), fun v σ' H' Γ' d Θ' q => h.rt v σ' H' Γ' d Θ' (p.trans q), fun σ' H' Γ' Θ' q => h.bk σ' H' Γ' Θ' (p.trans q), fun σ' H' Γ' Θ' q => h.ct σ' H' Γ' Θ' (p.trans q)⟩
def Rn (F : Fx) (tb : TS) (Γ : Gm) (Θ : Th) (E : SE) : Prop := ∀ σ H (D : Ends), St F σ H Γ Θ → EndsOk F E H D → tb D σ H
/-- a target takes a value -/
def Tg (F : Fx) (g : TG) (d : Da) (Γ : Gm) (Θ : Th) (R : Gm → Th → Prop) : Prop := ∀ σ H v, St F σ H Γ Θ → Rp F.K H v d → ∀ Q : L2.St → Hp → Prop, (∀ σ' H' Γ' Θ', Per H H' → St F σ' H' Γ' Θ' → R Γ' Θ' → Q σ' H') → g v σ H Q
def Tgs (F : Fx) (g : TGs) (ds : List Da) (Γ : Gm) (Θ : Th) (R : Gm → Th → Prop) : Prop := ∀ σ H vs, St F σ H Γ Θ → RpL F.K H vs ds → ∀ Q : L2.St → Hp → Prop, (∀ σ' H' Γ' Θ', Per H H' → St F σ' H' Γ' Θ' → R Γ' Θ' → Q σ' H') → g vs σ H Q
section
variable {F : Fx} {Γ : Gm} {Θ : Th} {E : SE} {t u : TS} {te ta tb : TE} {tt : TT} {d : Da} {j : Nat}
theorem rn_seq (h : Rn F t Γ Θ { E with nx := fun Γ' Θ' => Rn F u Γ' Θ' E }) : Rn F (tSeq t u) Γ Θ E := fun σ H D hS hD =>
  h σ H { D with nx := u D } hS ⟨fun σ' H' Γ' Θ' p s k => k σ' H' D s (hD.per p), hD.rt, hD.bk, hD.ct⟩
theorem rn_next (k : E.nx Γ Θ) : Rn F tNext Γ Θ E := fun σ H D hS hD => hD.nx σ H Γ Θ (.rfl' H) hS k
theorem rn_brk (k : E.bk Γ Θ) : Rn F tBreak Γ Θ E := fun σ H D hS hD => hD.bk σ H Γ Θ (.rfl' H) hS k
theorem rn_cnt (k : E.ct Γ Θ) : Rn F tCont Γ Θ E := fun σ H D hS hD => hD.ct σ H Γ Θ (.rfl' H) hS k
theorem rn_asg {g : TG} (h : EvG F te Γ Θ fun d Θ1 => Tg F g d Γ Θ1 E.nx) : Rn F (tAsg te g) Γ Θ E := fun σ H D hS hD =>
  h σ H hS _ fun v H1 d Θ1 p1 s1 r1 k => k σ H1 v s1 r1 _ fun σ' H' Γ' Θ' p2 s2 k2 => hD.nx σ' H' Γ' Θ' (p1.trans p2) s2 k2
theorem tg_name {R : Gm → Th → Prop} (hj : j < Γ.length) (k : R (Γ.set j (some d)) Θ) : Tg F (gName j) d Γ Θ R := fun σ H v hS r Q q => q _ H _ Θ (.rfl' H) (hS.set hj r) k
theorem tg_tup {n : Nat} {g : TGs} {ds : List Da} {R : Gm → Th → Prop} (hn : ds.length = n) (k : Tgs F g ds Γ Θ R) : Tg F (gTup F.K n g) (.tup ds) Γ Θ R := fun σ H v hS r Q q => by
  obtain ⟨a, xs, rfl, hs, rl⟩ := r.tupI
  exact ⟨a, xs, rfl, hs, by rw [rl.length]; exact hn, k σ H xs hS rl Q q⟩
theorem tgs_nil {R : Gm → Th → Prop} (k : R Γ Θ) : Tgs F gNil [] Γ Θ R := fun σ H vs hS r Q q => by
  cases r
  exact ⟨rfl, q σ H Γ Θ (.rfl' H) hS k⟩
theorem tgs_cons {g : TG} {gs : TGs} {ds : List Da} {R : Gm → Th → Prop} (k : Tg F g d Γ Θ fun Γ1 Θ1 => Tgs F gs ds Γ1 Θ1 R) : Tgs F (gCons g gs) (d :: ds) Γ Θ R := fun σ H vs hS r Q q => by
  cases r with
  | cons h r => exact ⟨_, _, rfl, k σ H _ hS h _ fun σ' H' Γ' Θ' p s k2 => k2 σ' H' _ s (r.per p) Q fun σ2 H2 Γ2 Θ2 p2 s2 k3 => q σ2 H2 Γ2 Θ2 (p.trans p2) s2 k3⟩
/-- xs[i] = v -/
theorem tg_setL {R : Gm → Th → Prop} (h : EvG F ta Γ Θ fun o Θ1 => EvG F tb Γ Θ1 fun e Θ2 => ∃ a ds i n Θ3, o = .ref a ∧ e = .int i ∧ Put Θ2 a (.lst ds) (.lst (ds.set n d)) Θ3 ∧ ixN ds.length i = some n ∧ R Γ Θ3) : Tg F (gSub ta tb rSetL) d Γ Θ R := fun σ H v hS r Q q =>
  h σ H hS _ fun o H1 od Θ1 p1 s1 r1 h1 => h1 σ H1 s1 _ fun e H2 ed Θ2 p2 s2 r2 h2 => by
    obtain ⟨a, ds, i, n, Θ3, rfl, rfl, hP, hi, k⟩ := h2
    cases r1; cases r2
    obtain ⟨xs, e1, rl⟩ := s2.ob a _ hP.mem
    have r' : Rp F.K H2 v d := (r.per p1).per p2
    refine ⟨a, xs, i, n, rfl, rfl, e1, by rw [rl.length]; exact hi, ?_⟩
    have pe : Per H2 (upd H2 a (.lst (xs.set n v))) := .lst e1
    exact q σ _ Γ Θ3 ((p1.trans p2).trans pe) (s2.put hP ⟨_, upd_same, (RpL.set r' n rl).per pe⟩) k
theorem rn_drop (h : EvG F te Γ Θ fun _ Θ1 => E.nx Γ Θ1) : Rn F (tDrop te) Γ Θ E := fun σ H D hS hD => h σ H hS _ fun v H1 d Θ1 p1 s1 r1 k => hD.nx σ H1 Γ Θ1 p1 s1 k
theorem rn_ret (h : EvG F te Γ Θ E.rt) : Rn F (tRet te) Γ Θ E := fun σ H D hS hD => h σ H hS _ fun v H1 d Θ1 p1 s1 r1 k => hD.rt v σ H1 Γ d Θ1 p1 s1 r1 k
theorem rn_retN (k : E.rt .non Θ) : Rn F tRetN Γ Θ E := fun σ H D hS hD => hD.rt .non σ H Γ .non Θ (.rfl' H) hS .non k
theorem rn_if (h : EvT F tt Γ Θ fun b Θ1 => (b = true → Rn F t Γ Θ1 E) ∧ (b = false → Rn F u Γ Θ1 E)) : Rn F (tIfS tt t u) Γ Θ E := fun σ H D hS hD => h σ H hS _ fun b H1 Θ1 p1 s1 k => by
  cases b with
  | true => exact k.1 rfl σ H1 D s1 (hD.per p1)
  | false => exact k.2 rfl σ H1 D s1 (hD.per p1)
/-- a, b = e1, e2 -/
theorem rn_par {i : Nat} {t : TA} (h : EvA F t Γ Θ fun ds Θ1 => ∃ d e, ds = [d, e] ∧ i < Γ.length ∧ j < Γ.length ∧ E.nx ((Γ.set i (some d)).set j (some e)) Θ1) : Rn F (tPar i j t) Γ Θ E := fun σ H D hS hD =>
  h σ H hS _ fun vs H1 ds Θ1 p1 s1 r1 k => by
    obtain ⟨d, e, rfl, hi, hj, k⟩ := k
    obtain ⟨v, w, rfl, r2, r3⟩ := r1.two
    exact ⟨v, w, rfl, hD.nx _ H1 _ Θ1 p1 ((s1.set hi r2).set (by rw [List.length_set]; exact hj) r3) k⟩
/-- x += e, ints -/
theorem rn_augI {i : Nat} {f : Int → Int → Int} (h : ∃ a, Γ[i]? = some (some (.int a)) ∧ EvG F te Γ Θ fun d Θ1 => ∃ b, d = .int b ∧ i < Γ.length ∧ E.nx (Γ.set i (some (.int (f a b)))) Θ1) : Rn F (tAug i te (ipI f)) Γ Θ E := fun σ H D hS hD => by
  obtain ⟨a, ha, h⟩ := h
  obtain ⟨v, e, r⟩ := hS.sl i _ ha
  cases r
  refine ⟨_, e, h σ H hS _ fun w H1 d Θ1 p1 s1 r1 k => ?_⟩
  obtain ⟨b, rfl, hi, k⟩ := k
  cases r1
  exact ⟨a, b, rfl, rfl, hD.nx _ H1 _ Θ1 p1 (s1.set hi (.int (f a b))) k⟩

/-! ### forgetting -/
def Fgt (P : Gm → Th → Prop) (Γ : Gm) (Θ : Th) : Prop := ∃ Γ' Θ' Θr, GSub Γ' Γ ∧ Spl Θ Θ' Θr ∧ P Γ' Θ'
def FgtT {α : Type} (P : α → Th → Prop) (x : α) (Θ : Th) : Prop := ∃ Θ' Θr, Spl Θ Θ' Θr ∧ P x Θ'

/-! ### while -/
theorem rn_while (W : Nat → Gm → Th → Prop) (m0 : Nat) (h0 : W m0 Γ Θ) (hs : ∀ m Γ1 Θ1, W m Γ1 Θ1 → EvT F tt Γ1 Θ1 fun b Θ2 => (b = true → Rn F t Γ1 Θ2 { nx := Fgt fun Γ' Θ' => ∃ m', m' < m ∧ W m' Γ' Θ', rt := E.rt, bk := E.nx, ct := Fgt fun Γ' Θ' => ∃ m', m' < m ∧ W m' Γ' Θ' }) ∧ (b = false → E.nx Γ1 Θ2)) :
    Rn F (tWhile tt t) Γ Θ E := fun σ H D hS hD => by
  refine ⟨fun m σ' H' => ∃ Γ' Θ', Per H H' ∧ St F σ' H' Γ' Θ' ∧ W m Γ' Θ', ⟨m0, Γ, Θ, .rfl' H, hS, h0⟩, ?_⟩
  rintro m σ1 H1 ⟨Γ1, Θ1, p1, s1, w1⟩
  refine hs m Γ1 Θ1 w1 σ1 H1 s1 _ fun b H2 Θ2 p2 s2 k => ?_
  have p12 := p1.trans p2
  cases b with
  | true =>
    show ∃ N : L2.St → Hp → Prop, _
    refine ⟨fun σ' H' => ∃ m', m' < m ∧ ∃ Γ' Θ', Per H H' ∧ St F σ' H' Γ' Θ' ∧ W m' Γ' Θ', fun σ' H' ⟨m', hm, z⟩ => ⟨m', hm, z⟩, ?_⟩
    have go : ∀ σ' H' Γ' Θ', Per H2 H' → St F σ' H' Γ' Θ' → Fgt (fun Γ' Θ' => ∃ m', m' < m ∧ W m' Γ' Θ') Γ' Θ' → ∃ m', m' < m ∧ ∃ Γ' Θ', Per H H' ∧ St F σ' H' Γ' Θ' ∧ W m' Γ' Θ' := by
      rintro σ' H' Γ' Θ' p s ⟨Γ3, Θ3, Θr, g, sp, m', hm, w3⟩
      exact ⟨m', hm, Γ3, Θ3, p12.trans p, (s.gsub g).spl sp, w3⟩
    exact k.1 rfl σ1 H2 _ s2 ⟨go, fun v σ' H' Γ' d Θ' p => hD.rt v σ' H' Γ' d Θ' (p12.trans p), fun σ' H' Γ' Θ' p => hD.nx σ' H' Γ' Θ' (p12.trans p), go⟩
  | false => exact hD.nx σ1 H2 Γ1 Θ2 p12 s2 (k.2 rfl)

/-! ### what is walked -/
structure Wk (F : Fx) (J : It) (H1 : Hp) (n : Nat) (item : Nat → Da) (Keep : Th → Prop) : Prop where
  goes : ∀ i σ H Γ Θ, i < n → Per H1 H → St F σ H Γ Θ → Keep Θ → J.go i H
  stops : ∀ σ H Γ Θ, Per H1 H → St F σ H Γ Θ → Keep Θ → J.stop n H
  yields : ∀ i σ H Γ Θ x H', i < n → Per H1 H → St F σ H Γ Θ → Keep Θ → J.yld i H x H' → Per H H' ∧ St F σ H' Γ Θ ∧ Rp F.K H' x (item i)
def EvI (F : Fx) (wi : TI) (Γ : Gm) (Θ : Th) (C : Nat → (Nat → Da) → (Th → Prop) → Th → Prop) : Prop :=
  ∀ σ H, St F σ H Γ Θ → ∀ R : It → Hp → Prop, (∀ J H1 Θ1 n item Keep, Per H H1 → St F σ H1 Γ Θ1 → Wk F J H1 n item Keep → C n item Keep Θ1 → R J H1) → wi σ H R
section
variable {C : Nat → (Nat → Da) → (Th → Prop) → Th → Prop} {t : TA}
theorem RpL.getD {K : PySem.W.Frag} {H : Hp} {vs : List V} {ds : List Da} {i : Nat} {x : V} (r : RpL K H vs ds) (h : vs[i]? = some x) : Rp K H x (ds.getD i .non) := by
  obtain ⟨d, e, q⟩ := r.get' h
  rw [List.getD_eq_getElem?_getD, e]
  exact q
theorem ei_tup (h : EvG F te Γ Θ fun d Θ1 => ∃ ds, d = .tup ds ∧ C ds.length (fun i => ds.getD i .non) (fun _ => True) Θ1) : EvI F (iTup F.K te) Γ Θ C := fun σ H hS R q => h σ H hS _ fun v H1 d Θ1 p1 s1 r1 k => by
  obtain ⟨ds, rfl, k⟩ := k
  obtain ⟨a, xs, rfl, hs, rl⟩ := r1.tupI
  refine ⟨a, rfl, ⟨xs, hs⟩, q _ H1 Θ1 _ _ _ p1 s1 ?_ k⟩
  rw [← rl.length]
  have W := walk_tup (K := F.K) (a := a) (xs := xs)
  refine ⟨fun i σ H Γ Θ hi p _ _ => W.goes i H hi (p.sqt hs), fun σ H Γ Θ p _ _ => W.stops H (p.sqt hs), fun i σ H Γ Θ x H' hi p s _ y => ?_⟩
  obtain ⟨rfl, e⟩ := W.yields i H x H' hi (p.sqt hs) y
  exact ⟨.rfl' _, s, (rl.per p).getD e⟩
theorem ei_listF (h : EvG F te Γ Θ fun d Θ1 => ∃ ds, d = .lis ds ∧ C ds.length (fun i => ds.getD i .non) (fun _ => True) Θ1) : EvI F (iList F.K te) Γ Θ C := fun σ H hS R q => h σ H hS _ fun v H1 d Θ1 p1 s1 r1 k => by
  obtain ⟨ds, rfl, k⟩ := k
  obtain ⟨a, xs, rfl, hs, rl⟩ := r1.lisI
  refine ⟨a, rfl, ⟨xs, hs.sq⟩, q _ H1 Θ1 _ _ _ p1 s1 ?_ k⟩
  rw [← rl.length]
  have W := walk_list (K := F.K) (a := a) (xs := xs)
  refine ⟨fun i σ H Γ Θ hi p _ _ => W.goes i H hi (p.sqf hs).sq, fun σ H Γ Θ p _ _ => W.stops H (p.sqf hs).sq, fun i σ H Γ Θ x H' hi p s _ y => ?_⟩
  obtain ⟨rfl, e⟩ := W.yields i H x H' hi (p.sqf hs).sq y
  exact ⟨.rfl' _, s, (rl.per p).getD e⟩
theorem ei_list (h : EvG F te Γ Θ fun d Θ1 => ∃ a ds, d = .ref a ∧ (a, .lst ds) ∈ Θ1 ∧ C ds.length (fun i => ds.getD i .non) (fun Θ' => (a, .lst ds) ∈ Θ') Θ1) : EvI F (iList F.K te) Γ Θ C := fun σ H hS R q => h σ H hS _ fun v H1 d Θ1 p1 s1 r1 k => by
  obtain ⟨a, ds, rfl, hm, k⟩ := k
  cases r1
  obtain ⟨xs, e1, rl⟩ := s1.ob a _ hm
  refine ⟨a, rfl, ⟨xs, .inl (.inl e1)⟩, q _ H1 Θ1 _ _ _ p1 s1 ?_ k⟩
  refine ⟨fun i σ H Γ Θ hi p s hk => ?_, fun σ H Γ Θ p s hk => ?_, fun i σ H Γ Θ x H' hi p s hk y => ?_⟩
  · obtain ⟨ys, e2, r2⟩ := s.ob a _ hk
    exact (walk_list (K := F.K) (a := a) (xs := ys)).goes i H (by rw [r2.length]; exact hi) (.inl (.inl e2))
  · obtain ⟨ys, e2, r2⟩ := s.ob a _ hk
    have := (walk_list (K := F.K) (a := a) (xs := ys)).stops H (.inl (.inl e2))
    rw [r2.length] at this
    exact this
  · obtain ⟨ys, e2, r2⟩ := s.ob a _ hk
    obtain ⟨rfl, e⟩ := (walk_list (K := F.K) (a := a) (xs := ys)).yields i H x H' (by rw [r2.length]; exact hi) (.inl (.inl e2)) y
    exact ⟨.rfl' _, s, r2.getD e⟩
theorem ei_rng1 (h : EvA F t Γ Θ fun ds Θ1 => ∃ n : Int, ds = [.int n] ∧ -(2 ^ 62) ≤ n ∧ n < 2 ^ 62 ∧ C n.toNat (fun i => .int (0 + (i : Int))) (fun _ => True) Θ1) : EvI F (iRng1 t) Γ Θ C := fun σ H hS R q => h σ H hS _ fun vs H1 ds Θ1 p1 s1 r1 k => by
  obtain ⟨n, rfl, h1, h2, k⟩ := k
  obtain ⟨v, rfl, r⟩ := r1.one
  cases r
  refine ⟨n, rfl, h1, h2, q _ H1 Θ1 _ _ _ p1 s1 ?_ k⟩
  refine ⟨fun i σ H Γ Θ hi p _ _ => walk_range.goes i H hi trivial, fun σ H Γ Θ p _ _ => walk_range.stops H trivial, fun i σ H Γ Θ x H' hi p s _ y => ?_⟩
  obtain ⟨rfl, rfl⟩ := walk_range.yields i H x H' hi trivial y
  exact ⟨.rfl' _, s, .int _⟩
theorem ei_rng2 (h : EvA F t Γ Θ fun ds Θ1 => ∃ lo n : Int, ds = [.int lo, .int n] ∧ -(2 ^ 62) ≤ lo ∧ lo < 2 ^ 62 ∧ -(2 ^ 62) ≤ n ∧ n < 2 ^ 62 ∧ C (n - lo).toNat (fun i => .int (lo + (i : Int))) (fun _ => True) Θ1) : EvI F (iRng2 t) Γ Θ C := fun σ H hS R q => h σ H hS _ fun vs H1 ds Θ1 p1 s1 r1 k => by
  obtain ⟨lo, n, rfl, h1, h2, h3, h4, k⟩ := k
  obtain ⟨v, w, rfl, r, r'⟩ := r1.two
  cases r; cases r'
  refine ⟨lo, n, rfl, ⟨h1, h2, h3, h4⟩, q _ H1 Θ1 _ _ _ p1 s1 ?_ k⟩
  refine ⟨fun i σ H Γ Θ hi p _ _ => walk_range.goes i H hi trivial, fun σ H Γ Θ p _ _ => walk_range.stops H trivial, fun i σ H Γ Θ x H' hi p s _ y => ?_⟩
  obtain ⟨rfl, rfl⟩ := walk_range.yields i H x H' hi trivial y
  exact ⟨.rfl' _, s, .int _⟩
theorem RpL.three {K : PySem.W.Frag} {H : Hp} {vs : List V} {d e f : Da} (h : RpL K H vs [d, e, f]) : ∃ v w x, vs = [v, w, x] ∧ Rp K H v d ∧ Rp K H w e ∧ Rp K H x f := by
  cases h with
  | cons h r => obtain ⟨w, x, rfl, h2, h3⟩ := r.two; exact ⟨_, _, _, rfl, h, h2, h3⟩
theorem ei_rng3 (h : EvA F t Γ Θ fun ds Θ1 => ∃ (i j c : Int) (n : Nat), ds = [.int i, .int j, .int c] ∧ RgC i j c n ∧ C n (fun k => .int (i + (k : Nat) * c)) (fun _ => True) Θ1) : EvI F (iRng3 t) Γ Θ C := fun σ H hS R q => h σ H hS _ fun vs H1 ds Θ1 p1 s1 r1 k => by
  obtain ⟨i, j, c, n, rfl, h1, k⟩ := k
  obtain ⟨v, w, x, rfl, r, r', r''⟩ := r1.three
  cases r; cases r'; cases r''
  refine ⟨i, j, c, n, rfl, h1, q _ H1 Θ1 _ _ _ p1 s1 ?_ k⟩
  refine ⟨fun i σ H Γ Θ hi p _ _ => walk_rangeC.goes i H hi trivial, fun σ H Γ Θ p _ _ => walk_rangeC.stops H trivial, fun i σ H Γ Θ x H' hi p s _ y => ?_⟩
  obtain ⟨rfl, rfl⟩ := walk_rangeC.yields i H x H' hi trivial y
  exact ⟨.rfl' _, s, .int _⟩
/-- zip of two mutable lists of one length -/
theorem ei_zip (h : EvA F t Γ Θ fun ds Θ1 => ∃ a b xs ys, ds = [.ref a, .ref b] ∧ (a, .lst xs) ∈ Θ1 ∧ (b, .lst ys) ∈ Θ1 ∧ xs.length = ys.length ∧ C xs.length (fun i => .tup [xs.getD i .non, ys.getD i .non]) (fun Θ' => (a, .lst xs) ∈ Θ' ∧ (b, .lst ys) ∈ Θ') Θ1) : EvI F (iZip F.K t) Γ Θ C :=
  fun σ H hS R q => h σ H hS _ fun vs H1 ds Θ1 p1 s1 r1 k => by
  obtain ⟨a, b, xs, ys, rfl, ha, hb, hl, k⟩ := k
  obtain ⟨v, w, rfl, r, r'⟩ := r1.two
  cases r; cases r'
  obtain ⟨us, e1, rl⟩ := s1.ob a _ ha
  obtain ⟨ws, e2, rl2⟩ := s1.ob b _ hb
  refine ⟨a, b, us, ws, rfl, .inl (.inl e1), .inl (.inl e2), q _ H1 Θ1 _ _ _ p1 s1 ?_ k⟩
  refine ⟨fun i σ H Γ Θ hi p s hk => ?_, fun σ H Γ Θ p s hk => ?_, fun i σ H Γ Θ x H' hi p s hk y => ?_⟩
  all_goals
    obtain ⟨us', f1, q1⟩ := s.ob a _ hk.1
    obtain ⟨ws', f2, q2⟩ := s.ob b _ hk.2
    have hn : xs.length = min us'.length ws'.length := by rw [q1.length, q2.length, hl]; omega
    have W := walk_zip (K := F.K) (a := a) (b := b) (xs := us') (ys := ws') hn
  · exact W.goes i H hi ⟨.inl (.inl f1), .inl (.inl f2)⟩
  · exact W.stops H ⟨.inl (.inl f1), .inl (.inl f2)⟩
  · obtain ⟨T, u, z, rfl, hT, rfl, g1, g2⟩ := W.yields i H x H' hi ⟨.inl (.inl f1), .inl (.inl f2)⟩ y
    have pn : Per H (upd H T (.tup [u, z])) := .new hT
    exact ⟨pn, s.new hT, .tup (.inl (.inl upd_same)) (.cons ((q1.getD g1).per pn) (.cons ((q2.getD g2).per pn) .nil))⟩
end
/-! ### for -/
theorem rn_for {wi : TI} {g : TG} (h : EvI F wi Γ Θ fun n item Keep Θ1 => ∃ Pv : Nat → Gm → Th → Prop, Pv 0 Γ Θ1 ∧ (∀ i Γ' Θ', i ≤ n → Pv i Γ' Θ' → Keep Θ') ∧
    (∀ i Γ' Θ', i < n → Pv i Γ' Θ' → Tg F g (item i) Γ' Θ' fun Γ2 Θ2 => Rn F t Γ2 Θ2 { nx := Fgt (Pv (i + 1)), rt := E.rt, bk := E.nx, ct := Fgt (Pv (i + 1)) }) ∧ (∀ Γ' Θ', Pv n Γ' Θ' → E.nx Γ' Θ')) : Rn F (tFor wi g t) Γ Θ E := fun σ H D hS hD =>
  h σ H hS _ fun J H1 Θ1 n item Keep p1 s1 W k => by
    obtain ⟨Pv, h0, hk, hs, hd⟩ := k
    refine ⟨fun i m σ' H' => m = n - i ∧ i ≤ n ∧ ∃ Γ' Θ', Per H1 H' ∧ St F σ' H' Γ' Θ' ∧ Pv i Γ' Θ', ⟨n, by omega, Nat.zero_le _, Γ, Θ1, .rfl' _, s1, h0⟩, ?_⟩
    rintro i m σ2 H2 ⟨rfl, hi, Γ2, Θ2, p2, s2, v2⟩
    by_cases hlt : i < n
    · refine .inr ⟨W.goes i σ2 H2 Γ2 Θ2 hlt p2 s2 (hk i _ _ hi v2), fun σ' H' => ∃ Γ' Θ', Per H1 H' ∧ St F σ' H' Γ' Θ' ∧ Pv (i + 1) Γ' Θ', fun σ' H' z => ⟨n - (i + 1), by omega, rfl, hlt, z⟩, fun x H3 y => ?_⟩
      obtain ⟨p3, s3, r3⟩ := W.yields i σ2 H2 Γ2 Θ2 x H3 hlt p2 s2 (hk i _ _ hi v2) y
      refine hs i Γ2 Θ2 hlt v2 σ2 H3 x s3 r3 _ fun σ4 H4 Γ4 Θ4 p4 s4 k4 => ?_
      have p14 : Per H1 H4 := (p2.trans p3).trans p4
      have go : ∀ σ' H' Γ' Θ', Per H4 H' → St F σ' H' Γ' Θ' → Fgt (Pv (i + 1)) Γ' Θ' → ∃ Γ' Θ', Per H1 H' ∧ St F σ' H' Γ' Θ' ∧ Pv (i + 1) Γ' Θ' := by
        rintro σ' H' Γ' Θ' p s ⟨Γ5, Θ5, Θr, g5, sp, v5⟩
        exact ⟨Γ5, Θ5, p14.trans p, (s.gsub g5).spl sp, v5⟩
      exact k4 σ4 H4 _ s4 ⟨go, fun v σ' H' Γ' d Θ' p => hD.rt v σ' H' Γ' d Θ' (p1.trans (p14.trans p)), fun σ' H' Γ' Θ' p => hD.nx σ' H' Γ' Θ' (p1.trans (p14.trans p)), go⟩
    · have e : i = n := by omega
      subst e
      exact .inl ⟨W.stops σ2 H2 Γ2 Θ2 p2 s2 (hk i _ _ hi v2), hD.nx σ2 H2 Γ2 Θ2 (p1.trans p2) s2 (hd _ _ v2)⟩
end
end Sy

end
section
/-! Sy, part E: comprehensions, append, calls of defs, the promise of a def, dicts, isinstance, ==. -/
namespace Sy
open PySem PySem.Spec L2

/-! ### comprehensions -/
def wipeG (Γ : Gm) : List Nat → Gm
  | [] => Γ
  | v :: vs => (wipeG Γ vs).set v none
theorem wipeG_length (Γ : Gm) : ∀ vs : List Nat, (wipeG Γ vs).length = Γ.length
  | [] => rfl
  | v :: vs => by unfold wipeG; rw [List.length_set, wipeG_length Γ vs]
theorem wipeG_some {Γ : Gm} {i : Nat} {d : Da} : ∀ {vs : List Nat}, (wipeG Γ vs)[i]? = some (some d) → Γ[i]? = some (some d) ∧ i ∉ vs
  | [], h => ⟨h, List.not_mem_nil⟩
  | v :: vs, h => by
    unfold wipeG at h
    by_cases e : v = i
    · subst e
      rw [List.getElem?_set] at h
      split at h
      · split at h <;> cases h
      · rename_i z; exact absurd rfl z
    · rw [List.getElem?_set_ne e] at h
      obtain ⟨h1, h2⟩ := wipeG_some h
      exact ⟨h1, fun z => (List.mem_cons.mp z).elim (fun q => e q.symm) h2⟩
theorem St.wipe {F : Fx} {σ : L2.St} {H : Hp} {Γ : Gm} {Θ : Th} (h : St F σ H Γ Θ) (vs : List Nat) : St F (L2.wipe σ vs) H (wipeG Γ vs) Θ :=
  h.slots (by rw [wipe_length, wipeG_length]; exact h.ln) fun i d e => by
    obtain ⟨e1, e2⟩ := wipeG_some e
    obtain ⟨v, e3, r⟩ := h.sl i d e1
    exact ⟨v, by rw [wipe_out e2]; exact e3, r⟩
theorem wipe_in {σ : L2.St} {i : Nat} : ∀ {vs : List Nat}, i ∈ vs → i < σ.length → (wipe σ vs)[i]? = some none
  | [], h, _ => nomatch h
  | v :: vs, h, hl => by
    unfold wipe
    by_cases e : v = i
    · subst e
      exact List.getElem?_set_self (by rw [wipe_length]; exact hl)
    · rw [List.getElem?_set_ne e]
      exact wipe_in ((List.mem_cons.mp h).resolve_left fun z => e z.symm) hl
theorem wipe_set {σ : L2.St} {i : Nat} {x : Option V} {vs : List Nat} (h : i ∈ vs) : wipe (σ.set i x) vs = wipe σ vs := by
  refine List.ext_getElem? fun j => ?_
  by_cases hj : j ∈ vs
  · by_cases hl : j < σ.length
    · rw [wipe_in hj hl, wipe_in hj (by rw [List.length_set]; exact hl)]
    · rw [List.getElem?_eq_none (by rw [wipe_length, List.length_set]; omega), List.getElem?_eq_none (by rw [wipe_length]; omega)]
  · rw [wipe_out hj, wipe_out hj, List.getElem?_set_ne fun e => hj (by rw [← e]; exact h)]
theorem wipe_wipe (σ : L2.St) (vs : List Nat) : wipe (wipe σ vs) vs = wipe σ vs := by
  refine List.ext_getElem? fun j => ?_
  by_cases hj : j ∈ vs
  · by_cases hl : j < σ.length
    · rw [wipe_in hj hl, wipe_in hj (by rw [wipe_length]; exact hl)]
    · rw [List.getElem?_eq_none (by rw [wipe_length, wipe_length]; omega), List.getElem?_eq_none (by rw [wipe_length]; omega)]
  · rw [wipe_out hj]
/-- a target that stores into vs alone -/
def Into (vs : List Nat) (g : TG) : Prop := ∀ v σ H (Q : L2.St → Hp → Prop), g v σ H Q → g v σ H fun σ' H' => wipe σ' vs = wipe σ vs ∧ Q σ' H'
def IntoS (vs : List Nat) (g : TGs) : Prop := ∀ l σ H (Q : L2.St → Hp → Prop), g l σ H Q → g l σ H fun σ' H' => wipe σ' vs = wipe σ vs ∧ Q σ' H'
theorem into_name {vs : List Nat} {j : Nat} (h : j ∈ vs) : Into vs (gName j) := fun v σ H Q q => ⟨wipe_set h, q⟩
theorem into_nil {vs : List Nat} : IntoS vs gNil := fun l σ H Q q => ⟨q.1, rfl, q.2⟩
theorem into_cons {vs : List Nat} {g : TG} {gs : TGs} (mg : ∀ v σ H (Q Q' : L2.St → Hp → Prop), (∀ σ' H', Q σ' H' → Q' σ' H') → g v σ H Q → g v σ H Q') (h : Into vs g) (hs : IntoS vs gs) (mgs : ∀ v σ H (Q Q' : L2.St → Hp → Prop), (∀ σ' H', Q σ' H' → Q' σ' H') → gs v σ H Q → gs v σ H Q') :
    IntoS vs (gCons g gs) := fun l σ H Q q => by
  obtain ⟨v, r, e, q⟩ := q
  refine ⟨v, r, e, mg _ _ _ _ _ (fun σ' H' z => ?_) (h v σ H _ q)⟩
  exact mgs _ _ _ _ _ (fun σ2 H2 z2 => ⟨z2.1.trans z.1, z2.2⟩) (hs r σ' H' Q z.2)
theorem Into.blk {vs : List Nat} {g : TG} (h : Into vs g) {v : V} {σ : L2.St} {H : Hp} {Q : L2.St → Hp → Prop} (q : g v (wipe σ vs) H Q) : g v (wipe σ vs) H fun σ' H' => wipe σ' vs = wipe σ vs ∧ Q σ' H' := by
  have z := h v (wipe σ vs) H Q q
  simp only [wipe_wipe] at z
  exact z
theorem into_tup {K : PySem.W.Frag} {vs : List Nat} {n : Nat} {gs : TGs} (h : IntoS vs gs) : Into vs (gTup K n gs) := fun v σ H Q q => by
  obtain ⟨a, xs, e, hs, hn, q⟩ := q
  exact ⟨a, xs, e, hs, hn, h xs σ H Q q⟩
theorem mono_name {j : Nat} : ∀ v σ H (Q Q' : L2.St → Hp → Prop), (∀ σ' H', Q σ' H' → Q' σ' H') → gName j v σ H Q → gName j v σ H Q' := fun v σ H Q Q' k q => k _ _ q
theorem mono_nil : ∀ v σ H (Q Q' : L2.St → Hp → Prop), (∀ σ' H', Q σ' H' → Q' σ' H') → gNil v σ H Q → gNil v σ H Q' := fun v σ H Q Q' k q => ⟨q.1, k _ _ q.2⟩
theorem mono_cons {g : TG} {gs : TGs} (mg : ∀ v σ H (Q Q' : L2.St → Hp → Prop), (∀ σ' H', Q σ' H' → Q' σ' H') → g v σ H Q → g v σ H Q') (mgs : ∀ v σ H (Q Q' : L2.St → Hp → Prop), (∀ σ' H', Q σ' H' → Q' σ' H') → gs v σ H Q → gs v σ H Q') :
    ∀ v σ H (Q Q' : L2.St → Hp → Prop), (∀ σ' H', Q σ' H' → Q' σ' H') → gCons g gs v σ H Q → gCons g gs v σ H Q' := fun v σ H Q Q' k q => by
  obtain ⟨x, r, e, q⟩ := q
  exact ⟨x, r, e, mg _ _ _ _ _ (fun σ' H' z => mgs _ _ _ _ _ k z) q⟩
theorem into_two {K : PySem.W.Frag} {vs : List Nat} {i j : Nat} (hi : i ∈ vs) (hj : j ∈ vs) : Into vs (gTup K 2 (gCons (gName i) (gCons (gName j) gNil))) :=
  into_tup (into_cons mono_name (into_name hi) (into_cons mono_name (into_name hj) into_nil mono_nil) (mono_cons mono_name mono_nil))

section
variable {F : Fx} {Γ : Gm} {Θ : Th} {R : Da → Th → Prop} {te ta tb tk tv : TE} {tt : TT} {wi : TI} {g : TG} {vs : List Nat}
/-- [e for target in iter if t]: Pv by the new list's place, the turn and what it holds; the list is in Θ as (p, lst acc) -/
theorem ev_lc (hg : Into vs g) (h : EvI F wi Γ Θ fun n item Keep Θ1 => ∀ p, ∃ Pv : Nat → List Da → Th → Prop, Pv 0 [] (Θ1 ++ [(p, .lst [])]) ∧ (∀ i acc Θ', i ≤ n → Pv i acc Θ' → Keep Θ') ∧
    (∀ i acc Θ', i < n → Pv i acc Θ' → Tg F g (item i) (wipeG Γ vs) Θ' fun Γ2 Θ2 => EvT F tt Γ2 Θ2 fun b Θ3 =>
      (b = true → EvG F te Γ2 Θ3 fun y Θ4 => ∃ Θ5, Put Θ4 p (.lst acc) (.lst (acc ++ [y])) Θ5 ∧ acc.length < sizeLine ∧ FgtT (Pv (i + 1)) (acc ++ [y]) Θ5) ∧ (b = false → FgtT (Pv (i + 1)) acc Θ3)) ∧
    (∀ acc Θ', Pv n acc Θ' → R (.ref p) Θ')) : EvG F (tLc wi g tt te vs) Γ Θ R := fun σ H hS Q q =>
  h σ H hS _ fun J H1 Θ1 n item Keep p1 s1 W k D hD => by
    obtain ⟨Pv, h0, hk, hs, hd⟩ := k D
    have pD : Per H1 (upd H1 D (.lst [])) := .new hD
    have sD : St F σ (upd H1 D (.lst [])) Γ (Θ1 ++ [(D, .lst [])]) := s1.newL hD .nil
    refine ⟨fun i m H' => m = n - i ∧ i ≤ n ∧ ∃ acc Θ', Per H1 H' ∧ St F σ H' Γ Θ' ∧ Pv i acc Θ', ⟨n, by omega, Nat.zero_le _, [], _, pD, sD, h0⟩, ?_⟩
    rintro i m H2 ⟨rfl, hi, acc, Θ2, p2, s2, v2⟩
    by_cases hlt : i < n
    · refine .inr ⟨W.goes i σ H2 Γ Θ2 hlt p2 s2 (hk i _ _ hi v2), fun H' => ∃ acc Θ', Per H1 H' ∧ St F σ H' Γ Θ' ∧ Pv (i + 1) acc Θ', fun H' z => ⟨n - (i + 1), by omega, rfl, hlt, z⟩, fun x H3 y => ?_⟩
      obtain ⟨p3, s3, r3⟩ := W.yields i σ H2 Γ Θ2 x H3 hlt p2 s2 (hk i _ _ hi v2) y
      -- the slots as they were, whatever the block stores
      have keep : ∀ {σ' H' Γ' Θ'}, Per H3 H' → St F σ' H' Γ' Θ' → St F σ H' Γ Θ' := fun {σ' H' Γ' Θ'} p s => s.slots s3.ln fun j d e => by
        obtain ⟨v, e1, r⟩ := s3.sl j d e
        exact ⟨v, e1, r.per p⟩
      refine hg.blk (hs i acc Θ2 hlt v2 (wipe σ vs) H3 x (s3.wipe vs) r3 _ fun σ4 H4 Γ4 Θ4 p4 s4 k4 => ?_)
      refine k4 σ4 H4 s4 _ fun b H5 Θ5 p5 s5 k5 => ?_
      cases b with
      | false =>
        obtain ⟨Θ6, Θr, sp, v6⟩ := k5.2 rfl
        exact ⟨acc, Θ6, ((p2.trans p3).trans p4).trans p5, (keep (p4.trans p5) s5).spl sp, v6⟩
      | true =>
        refine k5.1 rfl σ4 H5 s5 _ fun z H6 d Θ6 p6 s6 r6 k6 => ?_
        obtain ⟨Θ7, hP, hz, Θ8, Θr, sp, v8⟩ := k6
        obtain ⟨xs, e1, rl⟩ := s6.ob D _ hP.mem
        have pe : Per H6 (upd H6 D (.lst (xs ++ [z]))) := .lst e1
        have s7 : St F σ4 (upd H6 D (.lst (xs ++ [z]))) Γ4 Θ7 := s6.put hP ⟨_, upd_same, (rl.append (.cons r6 .nil)).per pe⟩
        exact ⟨xs, e1, by rw [rl.length]; exact hz, acc ++ [d], Θ8, ((((p2.trans p3).trans p4).trans p5).trans p6).trans pe, (keep (((p4.trans p5).trans p6).trans pe) s7).spl sp, v8⟩
    · have e : i = n := by omega
      subst e
      exact .inl ⟨W.stops σ H2 Γ Θ2 p2 s2 (hk i _ _ hi v2), q (.ref D) H2 (.ref D) Θ2 (p1.trans p2) s2 (.ref D) (hd acc Θ2 v2)⟩
end
end Sy

end
section
/-! Sy, part F: append, calls of defs and their promises, dicts, isinstance, ==, repr. -/
namespace Sy
open PySem PySem.Spec L2

section
variable {F : Fx} {Γ : Gm} {Θ : Th} {R : Da → Th → Prop} {E : SE} {te ta tb tk tv tx : TE} {tt : TT} {t : TA} {d e : Da}
/-- xs.append(e), as an expression -/
theorem ev_app (h : EvG F ta Γ Θ fun o Θ1 => ∃ a, o = .ref a ∧ (∃ ds, (a, .lst ds) ∈ Θ1) ∧ EvA F t Γ Θ1 fun es Θ2 => ∃ e ds Θ3, es = [e] ∧ Put Θ2 a (.lst ds) (.lst (ds ++ [e])) Θ3 ∧ ds.length < sizeLine ∧ R .non Θ3) :
    EvG F (tBM F.K "list" rAppend ta t) Γ Θ R := fun σ H hS Q q => h σ H hS _ fun o H1 od Θ1 p1 s1 r1 k => by
  obtain ⟨a, rfl, ⟨ds0, hm⟩, k⟩ := k
  cases r1
  obtain ⟨xs0, e0, _⟩ := s1.ob a _ hm
  refine ⟨.inl ⟨rfl, xs0, .inl (.inl e0)⟩, k σ H1 s1 _ fun vs H2 es Θ2 p2 s2 r2 k2 => ?_⟩
  obtain ⟨e, ds, Θ3, rfl, hP, hz, k3⟩ := k2
  obtain ⟨v, rfl, r⟩ := r2.one
  obtain ⟨xs, e1, rl⟩ := s2.ob a _ hP.mem
  have pe : Per H2 (upd H2 a (.lst (xs ++ [v]))) := .lst e1
  exact ⟨a, xs, v, rfl, rfl, e1, by rw [rl.length]; exact hz, q _ _ _ Θ3 ((p1.trans p2).trans pe) (s2.put hP ⟨_, upd_same, (rl.append (.cons r .nil)).per pe⟩) .non k3⟩

/-! ### what a def promises, symbolically -/
abbrev Ss := List Da → Th → (Da → Th → Prop) → Prop
/-- what is known behind a call -/
structure Bk (K : PySem.W.Frag) (w : World) (H : Hp) (Θ : Th) (v : V) (H' : Hp) (d : Da) (Θ' : Th) : Prop where
  pe : Per H H'
  fr : Fr (Θ.map (·.1)) H H'
  ob : ∀ a o, (a, o) ∈ Θ' → Ob K w H' a o
  nd : (Θ'.map (·.1)).Nodup
  nw : ∀ a o, (a, o) ∈ Θ' → a ∈ Θ.map (·.1) ∨ H a = none
  rp : Rp K H' v d
def toSp (K : PySem.W.Frag) (w : World) (ss : Ss) : Sp := fun vs H Q _ => ∃ ds Θ R, RpL K H vs ds ∧ (∀ a o, (a, o) ∈ Θ → Ob K w H a o) ∧ (Θ.map (·.1)).Nodup ∧ ss ds Θ R ∧ ∀ d Θ' v H', R d Θ' → Bk K w H Θ v H' d Θ' → Q v H'
theorem St.back {σ : L2.St} {H H' : Hp} {Θa Θr Θa' : Th} {v : V} (s1 : St F σ H Γ Θ) (sp : Spl Θ Θa Θr) (b : Bk F.K F.w H Θa v H' d Θa') : St F σ H' Γ (Θr ++ Θa') := by
  have sa := s1.spl sp
  have sr := s1.rest sp
  have perm := sp.perm
  have ndp : ((Θa ++ Θr).map (·.1)).Nodup := (perm.map (·.1)).nodup_iff.mp s1.nd
  rw [List.map_append, List.nodup_append] at ndp
  have off : ∀ a o, (a, o) ∈ Θr → a ∉ Θa.map (·.1) := fun a o hm z => ndp.2.2 a z a (List.mem_map.mpr ⟨(a, o), hm, rfl⟩) rfl
  refine ⟨s1.ln, fun i d e => ?_, fun a o hm => ?_, ?_, ⟨fun x o e n => ?_, fun x o e => ?_⟩, fun a o hm => ?_, s1.pe.trans b.pe⟩
  · obtain ⟨u, e1, r⟩ := s1.sl i d e
    exact ⟨u, e1, r.per b.pe⟩
  · rcases List.mem_append.mp hm with hm | hm
    · obtain ⟨u, hu⟩ := (sr.ob a o hm).at_
      exact (sr.ob a o hm).per b.pe ((b.fr.k a u hu (off a o hm)).trans hu.symm)
    · exact b.ob a o hm
  · rw [List.map_append, List.nodup_append]
    refine ⟨sr.nd, b.nd, fun x hx y hy => ?_⟩
    obtain ⟨⟨p, o⟩, hp, rfl⟩ := List.mem_map.mp hx
    obtain ⟨⟨p2, o2⟩, hp2, rfl⟩ := List.mem_map.mp hy
    intro z
    have z : p = p2 := z
    subst z
    rcases b.nw p o2 hp2 with z | z
    · exact off p o hp z
    · obtain ⟨u, hu⟩ := (sr.ob p o hp).at_
      rw [hu] at z
      cases z
  · have z := s1.fr.k x o e n
    refine b.fr.k x o z fun hx => ?_
    obtain ⟨⟨p, q⟩, hp, rfl⟩ := List.mem_map.mp hx
    rcases sa.ow p q hp with y | y
    · exact n y
    · rw [e] at y; cases y
  · obtain ⟨o', z⟩ := s1.fr.d x o e
    exact b.fr.d x o' z
  · rcases List.mem_append.mp hm with hm | hm
    · exact sr.ow a o hm
    · rcases b.nw a o hm with z | z
      · obtain ⟨⟨p, q⟩, hp, rfl⟩ := List.mem_map.mp z
        exact sa.ow p q hp
      · exact .inr (s1.fr.back z)
theorem ev_call {ss : Ss} {dvs : List V} {dds : List Da} {X : XK} (hd : ∀ H, RpL F.K H dvs dds) (h : EvA F t Γ Θ fun ds Θ1 => ∃ Θa Θr, Spl Θ1 Θa Θr ∧ ss (ds ++ dds) Θa fun d Θa' => R d (Θr ++ Θa')) :
    EvG F (tCall (toSp F.K F.w ss) dvs X t) Γ Θ R := fun σ H hS Q q => h σ H hS _ fun vs H1 ds Θ1 p1 s1 r1 k => by
  obtain ⟨Θa, Θr, sp, k⟩ := k
  have sa := s1.spl sp
  exact ⟨ds ++ dds, Θa, _, r1.append (hd H1), sa.ob, sa.nd, k, fun d Θ' v H' hR b => q v H' d _ (p1.trans b.pe) (s1.back sp b) b.rp hR⟩
/-- f(a, k=b): gd, the arguments' data in the def's order -/
theorem ev_callK {ss : Ss} {gV : List V → List V → List V} {X : XK} {tk : TA} (h : EvA F t Γ Θ fun ds Θ1 => EvA F tk Γ Θ1 fun es Θ2 => ∃ gd, (∀ H vs zs, RpL F.K H vs ds → RpL F.K H zs es → RpL F.K H (gV vs zs) gd) ∧ ∃ Θa Θr, Spl Θ2 Θa Θr ∧ ss gd Θa fun d Θa' => R d (Θr ++ Θa')) :
    EvG F (tCallK (toSp F.K F.w ss) gV X t tk) Γ Θ R := fun σ H hS Q q => h σ H hS _ fun vs H1 ds Θ1 p1 s1 r1 h1 => h1 σ H1 s1 _ fun zs H2 es Θ2 p2 s2 r2 k => by
  obtain ⟨gd, hg, Θa, Θr, sp, k⟩ := k
  have sa := s2.spl sp
  exact ⟨gd, Θa, _, hg H2 vs zs (r1.per p2) r2, sa.ob, sa.nd, k, fun d Θ' v H' hR b => q v H' d _ ((p1.trans p2).trans b.pe) (s2.back sp b) b.rp hR⟩
/-- the ends of a def's body -/
def Ret (R : Da → Th → Prop) : SE := ⟨fun _ Θ => FgtT R .non Θ, FgtT R, fun _ _ => False, fun _ _ => False⟩
theorem rd_of {K : PySem.W.Frag} {w : World} {ss : Ss} {ts : TS} {N : List Str} {vs : List V} {H : Hp} {Q : VK} {X : XK} (hsp : toSp K w ss vs H Q X) (hN : vs.length ≤ N.length)
    (h : ∀ ds Θ R, ss ds Θ R → Rn ⟨K, w, H, Θ.map (·.1)⟩ ts (ds.map some ++ List.replicate (N.length - ds.length) none) Θ (Ret R)) : ts { nx := fun _ H' => Q .non H', rt := Q } (start N vs) H := by
  obtain ⟨ds, Θ, R, r, hob, nd, k, hQ⟩ := hsp
  have hl := r.length
  have fin : ∀ v σ' H' Γ' d Θ', Per H H' → St ⟨K, w, H, Θ.map (·.1)⟩ σ' H' Γ' Θ' → Rp K H' v d → FgtT R d Θ' → Q v H' := by
    rintro v σ' H' Γ' d Θ' p s rv ⟨Θ2, Θr, sp, hR⟩
    have s2 := s.spl sp
    exact hQ d Θ2 v H' hR ⟨p, s.fr, s2.ob, s2.nd, s2.ow, rv⟩
  refine h ds Θ R k (start N vs) H _ ⟨?_, fun i d e => ?_, hob, nd, .rfl' _ H, fun a o hm => .inl (List.mem_map.mpr ⟨(a, o), hm, rfl⟩), .rfl' H⟩ ⟨fun σ' H' Γ' Θ' p s z => fin .non σ' H' Γ' .non Θ' p s .non z, fin, fun _ _ _ _ _ _ z => z.elim, fun _ _ _ _ _ _ z => z.elim⟩
  · unfold L2.start
    rw [List.length_append, List.length_append, List.length_map, List.length_map, List.length_replicate, List.length_replicate, hl]
  · unfold L2.start
    by_cases hi : i < ds.length
    · rw [List.getElem?_append_left (by rw [List.length_map]; exact hi), List.getElem?_map] at e
      cases q : ds[i]? with
      | none => rw [q] at e; cases e
      | some d' =>
        rw [q] at e
        cases e
        obtain ⟨v, e1, rv⟩ := r.get q
        exact ⟨v, by rw [List.getElem?_append_left (by rw [List.length_map, hl]; exact hi), List.getElem?_map, e1]; rfl, rv⟩
    · rw [List.getElem?_append_right (by rw [List.length_map]; omega), List.getElem?_replicate] at e
      split at e <;> cases e
theorem len_of {K : PySem.W.Frag} {w : World} {ss : Ss} {n : Nat} (h : ∀ ds Θ R, ss ds Θ R → ds.length = n) : ∀ vs H Q E, toSp K w ss vs H Q E → vs.length = n := fun vs H Q E ⟨ds, Θ, R, r, _, _, k, _⟩ => by
  rw [r.length]
  exact h ds Θ R k
end

/-! ### dicts -/
section
variable {F : Fx} {Γ : Gm} {Θ : Th} {R : Da → Th → Prop} {E : SE} {te ta tb tk tv tx : TE} {tt : TT} {t : TA} {d e : Da} {kvs : Kvs} {a : Addr} {k : NestedKey}
theorem s_in {neg : Bool} (hm : (a, .dic kvs) ∈ Θ) (hk : d.nk = some k) (kd : k.depth ≤ 8) (q : R (.bl (if neg then !(dget kvs d).isSome else (dget kvs d).isSome)) Θ) : S2 F (Dx.rIn F.K F.w neg) d (.ref a) Θ R := fun σ H Γ v w hS h1 h2 Q c => by
  cases h2
  obtain ⟨xs, D, rel⟩ := hS.ob a _ hm
  refine ⟨a, xs, k, rfl, D, h1.ky hk, kd, ?_⟩
  have e : (Dx.vlk xs k).isSome = (dget kvs d).isSome := by
    rcases ed_vlk hk rel with ⟨e1, e2⟩ | ⟨_, _, e1, e2, _⟩ <;> rw [e1, e2] <;> rfl
  rw [e]
  exact c _ H _ Θ (.rfl' H) hS (.bl _) q
theorem ev_dget (h : EvG F ta Γ Θ fun o Θ1 => EvG F tb Γ Θ1 fun d Θ2 => ∃ a kvs k f, o = .ref a ∧ (a, .dic kvs) ∈ Θ2 ∧ d.nk = some k ∧ k.depth ≤ 8 ∧ dget kvs d = some f ∧ R f Θ2) : EvG F (Dx.tGet F.K F.w ta tb) Γ Θ R := fun σ H hS Q q =>
  h σ H hS _ fun o H1 od Θ1 p1 s1 r1 h1 => h1 σ H1 s1 _ fun y H2 d Θ2 p2 s2 r2 h2 => by
    obtain ⟨a, kvs, k, f, rfl, hm, hk, kd, hf, kk⟩ := h2
    cases r1
    obtain ⟨xs, D, rel⟩ := s2.ob a _ hm
    rcases ed_vlk hk rel with ⟨e1, e2⟩ | ⟨v, f', e1, e2, rv⟩
    · rw [e2] at hf; cases hf
    · rw [e2] at hf; cases hf
      exact ⟨a, xs, k, v, rfl, D, r2.ky hk, kd, e1, q v H2 _ Θ2 (p1.trans p2) s2 rv kk⟩
theorem ev_dget2 (h : EvG F ta Γ Θ fun o Θ1 => ∃ a, o = .ref a ∧ (∃ kvs, (a, .dic kvs) ∈ Θ1) ∧ EvA F t Γ Θ1 fun es Θ2 => ∃ d e kvs k, es = [d, e] ∧ (a, .dic kvs) ∈ Θ2 ∧ d.nk = some k ∧ k.depth ≤ 8 ∧ R ((dget kvs d).getD e) Θ2) :
    EvG F (Dx.tM F.K F.w (Dx.rGet2 F.K F.w) ta t) Γ Θ R := fun σ H hS Q q => h σ H hS _ fun o H1 od Θ1 p1 s1 r1 h1 => by
  obtain ⟨a, rfl, ⟨kvs0, hm0⟩, h1⟩ := h1
  cases r1
  obtain ⟨xs0, D0, _⟩ := s1.ob a _ hm0
  refine ⟨a, rfl, ⟨xs0, D0.ob⟩, h1 σ H1 s1 _ fun vs H2 es Θ2 p2 s2 r2 h2 => ?_⟩
  obtain ⟨d, e, kvs, k, rfl, hm, hk, kd, kk⟩ := h2
  obtain ⟨v, w, rfl, rv, rw'⟩ := r2.two
  obtain ⟨xs, D, rel⟩ := s2.ob a _ hm
  refine ⟨v, w, xs, k, rfl, D, rv.ky hk, kd, ?_⟩
  rcases ed_vlk hk rel with ⟨e1, e2⟩ | ⟨u, f, e1, e2, ru⟩
  · rw [e2] at kk
    rw [e1]
    exact q w H2 e Θ2 (p1.trans p2) s2 rw' kk
  · rw [e2] at kk
    rw [e1]
    exact q u H2 f Θ2 (p1.trans p2) s2 ru kk
theorem ev_dpop (h : EvG F ta Γ Θ fun o Θ1 => ∃ a, o = .ref a ∧ (∃ kvs, (a, .dic kvs) ∈ Θ1) ∧ EvA F t Γ Θ1 fun es Θ2 => ∃ d kvs k f Θ3, es = [d] ∧ Put Θ2 a (.dic kvs) (.dic (ddel kvs d)) Θ3 ∧ d.nk = some k ∧ k.depth ≤ 8 ∧ dget kvs d = some f ∧ R f Θ3) :
    EvG F (Dx.tM F.K F.w (Dx.rPop1 F.K F.w) ta t) Γ Θ R := fun σ H hS Q q => h σ H hS _ fun o H1 od Θ1 p1 s1 r1 h1 => by
  obtain ⟨a, rfl, ⟨kvs0, hm0⟩, h1⟩ := h1
  cases r1
  obtain ⟨xs0, D0, _⟩ := s1.ob a _ hm0
  refine ⟨a, rfl, ⟨xs0, D0.ob⟩, h1 σ H1 s1 _ fun vs H2 es Θ2 p2 s2 r2 h2 => ?_⟩
  obtain ⟨d, kvs, k, f, Θ3, rfl, hP, hk, kd, hf, kk⟩ := h2
  obtain ⟨v, rfl, rv⟩ := r2.one
  obtain ⟨xs, D, rel⟩ := s2.ob a _ hP.mem
  rcases ed_vlk hk rel with ⟨e1, e2⟩ | ⟨u, f', e1, e2, ru⟩
  · rw [e2] at hf; cases hf
  · rw [e2] at hf; cases hf
    have pe : Per H2 (upd H2 a (Dx.obj F.w a (Dx.vdel xs k))) := Dx.per_obj D.ob
    exact ⟨v, xs, k, u, rfl, D, rv.ky hk, kd, e1, q u _ _ Θ3 ((p1.trans p2).trans pe) (s2.put hP ⟨_, D.del, ed_per pe (ed_del hk rel)⟩) (ru.per pe) kk⟩
/-- d[k] = v -/
theorem tg_setD {R : Gm → Th → Prop} (h : EvG F ta Γ Θ fun o Θ1 => EvG F tb Γ Θ1 fun y Θ2 => ∃ a kvs k Θ3, o = .ref a ∧ Put Θ2 a (.dic kvs) (.dic (dput kvs y d)) Θ3 ∧ kvs.length < sizeLine ∧ y.nk = some k ∧ k.depth ≤ 8 ∧ R Γ Θ3) : Tg F (gSub ta tb (Dx.rSet F.K F.w)) d Γ Θ R := fun σ H v hS r Q q =>
  h σ H hS _ fun o H1 od Θ1 p1 s1 r1 h1 => h1 σ H1 s1 _ fun y H2 yd Θ2 p2 s2 r2 h2 => by
    obtain ⟨a, kvs, k, Θ3, rfl, hP, hz, hk, kd, kk⟩ := h2
    cases r1
    obtain ⟨xs, D, rel⟩ := s2.ob a _ hP.mem
    have r' : Rp F.K H2 v d := (r.per p1).per p2
    have pe : Per H2 (upd H2 a (Dx.obj F.w a (Dx.vsto xs k y v))) := Dx.per_obj D.ob
    exact ⟨a, xs, k, rfl, D, by rw [Paired.length rel]; exact hz, r2.ky hk, kd, q σ _ Γ Θ3 ((p1.trans p2).trans pe) (s2.put hP ⟨_, D.sto (r2.ky hk), ed_per pe (ed_put hk r2 r' rel)⟩) kk⟩
theorem ev_dnew (k : ∀ p, R (.ref p) (Θ ++ [(p, .dic [])])) : EvG F (Dx.tNew F.w) Γ Θ R := fun σ H hS Q q p hp =>
  q _ _ _ _ (.new hp) (hS.newO (o := .dic []) hp ⟨[], ⟨upd_same, fun _ z => nomatch z⟩, .nil⟩) (.ref p) (k p)
/-- the pairs of a display -/
def EvP (F : Fx) : List (TE × TE) → Gm → Th → (List (Da × Da) → Th → Prop) → Prop
  | [], _, Θ, R => R [] Θ
  | (tk, tv) :: r, Γ, Θ, R => EvG F tk Γ Θ fun d Θ1 => EvG F tv Γ Θ1 fun e Θ2 => EvP F r Γ Θ2 fun ps Θ3 => R ((d, e) :: ps) Θ3
theorem pairs_run : ∀ (trs : List (TE × TE)) (Θ : Th) (R : List (Da × Da) → Th → Prop), EvP F trs Γ Θ R → ∀ σ H, St F σ H Γ Θ → ∀ Q : List (V × V) → Hp → Prop,
    (∀ ps H' ds Θ', Per H H' → St F σ H' Γ Θ' → Paired (fun p q => Rp F.K H' p.1 q.1 ∧ Rp F.K H' p.2 q.2) ps ds → R ds Θ' → Q ps H') → tPairs trs σ H Q
  | [], Θ, R, h, σ, H, hS, Q, q => q [] H [] Θ (.rfl' H) hS .nil h
  | (tk, tv) :: r, Θ, R, h, σ, H, hS, Q, q => by
    refine h σ H hS _ fun v H1 d Θ1 p1 s1 r1 h1 => h1 σ H1 s1 _ fun w H2 e Θ2 p2 s2 r2 h2 => ?_
    exact pairs_run r Θ2 _ h2 σ H2 s2 _ fun ps H3 ds Θ3 p3 s3 rl k => q _ H3 _ Θ3 ((p1.trans p2).trans p3) s3 (.cons ⟨(r1.per p2).per p3, r2.per p3⟩ rl) k
def dputs (kvs : Kvs) (ps : List (Da × Da)) : Kvs := ps.foldl (fun acc p => dput acc p.1 p.2) kvs
theorem keys_of {K : PySem.W.Frag} {w : World} {p : Addr} : ∀ {ps : List (V × V)} {ds : List (Da × Da)} {H : Hp} (xs : List Dx.Ent) (kvs : Kvs), Paired (fun p q => Rp K H p.1 q.1 ∧ Rp K H p.2 q.2) ps ds → (∀ q ∈ ds, ∃ k, q.1.nk = some k ∧ k.depth ≤ 8) → Paired (EntD K H) xs kvs →
    ∃ ks : List ((V × V) × NestedKey), ps = ks.map (·.1) ∧ (∀ q ∈ ks, Dx.Ky K H q.1.1 q.2 ∧ q.2.depth ≤ 8) ∧ ks.length = ds.length ∧ Paired (EntD K H) (Dx.stoAll xs ks) (dputs kvs ds)
  | _, _, H, xs, kvs, .nil, _, rel => ⟨[], rfl, (fun _ z => nomatch z), rfl, rel⟩
  | v :: ps, d :: ds, H, xs, kvs, .cons h t, hk, rel => by
    obtain ⟨k, e, kd⟩ := hk d List.mem_cons_self
    obtain ⟨ks, e1, e2, e3, e4⟩ := keys_of (w := w) (p := p) (Dx.vsto xs k v.1 v.2) (dput kvs d.1 d.2) t (fun q hq => hk q (List.mem_cons_of_mem _ hq)) (ed_put e h.1 h.2 rel)
    refine ⟨(v, k) :: ks, by rw [e1]; rfl, fun q hq => ?_, by rw [List.length_cons, List.length_cons, e3], e4⟩
    rcases List.mem_cons.mp hq with rfl | hq
    · exact ⟨h.1.ky e, kd⟩
    · exact e2 q hq
theorem stoAll_ky {K : PySem.W.Frag} {H : Hp} : ∀ (ks : List ((V × V) × NestedKey)) (xs : List Dx.Ent), (∀ x ∈ xs, Dx.Ky K H x.2.1 x.1) → (∀ q ∈ ks, Dx.Ky K H q.1.1 q.2) → ∀ x ∈ Dx.stoAll xs ks, Dx.Ky K H x.2.1 x.1
  | [], xs, h, _, x, hx => h x hx
  | (p, k) :: ks, xs, h, hk, x, hx => by
    refine stoAll_ky ks (Dx.vsto xs k p.1 p.2) (fun y hy => ?_) (fun q hq => hk q (List.mem_cons_of_mem _ hq)) x hx
    rcases Dx.vsto_mem hy with ⟨z, hz, e1, e2, _⟩ | rfl
    · rw [e1, e2]; exact h z hz
    · exact hk (p, k) List.mem_cons_self
theorem ev_disp {trs : List (TE × TE)} (h : ∀ p, EvP F trs Γ (Θ ++ [(p, .dic [])]) fun ds Θ1 => ∃ Θ2, Put Θ1 p (.dic []) (.dic (dputs [] ds)) Θ2 ∧ ds.length ≤ 15 ∧ (∀ q ∈ ds, ∃ k, q.1.nk = some k ∧ k.depth ≤ 8) ∧ R (.ref p) Θ2) : EvG F (Dx.tDis F.K F.w trs) Γ Θ R := fun σ H hS Q q p hp => by
  have s0 : St F σ (upd H p (Dx.obj F.w p [])) Γ (Θ ++ [(p, .dic [])]) := hS.newO (o := .dic []) hp ⟨[], ⟨upd_same, fun _ z => nomatch z⟩, .nil⟩
  refine pairs_run trs _ _ (h p) σ _ s0 _ fun ps H2 ds Θ2 p2 s2 rl k => ?_
  obtain ⟨Θ3, hP, hl, hk, kk⟩ := k
  obtain ⟨xs, D, rel⟩ := s2.ob p _ hP.mem
  cases rel
  obtain ⟨ks, e1, e2, e3, e4⟩ := keys_of (w := F.w) (p := p) [] [] rl hk .nil
  have pe : Per H2 (upd H2 p (Dx.obj F.w p (Dx.stoAll [] ks))) := Dx.per_obj D.ob
  refine ⟨D.ob, ks, e1, e2, by rw [e3]; exact hl, q _ _ _ Θ3 (((Per.new hp).trans p2).trans pe) (s2.put hP ⟨_, ⟨upd_same, fun x hx => ?_⟩, ed_per pe e4⟩) (.ref p) kk⟩
  exact (stoAll_ky ks [] (fun _ z => nomatch z) (fun q hq => (e2 q hq).1) x hx).per pe
end
end Sy

end
section
/-! Sy, part G: enumerate over a tuple, repr, isinstance, == of data; a def's promise with no guard around. -/
namespace PySem
open Sem (wp)
/-- enumerate(v) of anything whose iterator is known -/
theorem sy_enum_new {v : Value} {o : Obj} {G : Heap → Prop} (B : Begins v o G) (hv : ∃ a, v = .ref a) :
    Meets (Builtin.«enumerate.__new__» ⟨[.type "enumerate", v], []⟩) (fun _ R s => G s.heap ∧ R (.ok (.ret (.ref (s.heap.push o).objs.size))) { s with heap := (s.heap.push o).push { cls := .type "enumerate", data := .fields #[.none, .bool false, .ref s.heap.objs.size, rawInt 0, .none, .none] } }) :=
  .of_wp fun prog w A R s h => by
    obtain ⟨hp, g, dr, tk, os⟩ := s
    obtain ⟨h1, h⟩ := h
    obtain ⟨a, rfl⟩ := hv
    have hsub := sub_enumerate
    have it : ∀ {A' : Around} {E Q : Value → Shared → Prop}, Q (.ref hp.objs.size) ⟨hp.push o, g, dr, tk, os⟩ → wpAny (model prog w) A' (pyIter (.ref a)) Q E ⟨hp, g, dr, tk, os⟩ := fun q => B.iter prog w _ _ ⟨hp, g, dr, tk, os⟩ _ h1 q
    wp_walk using it
    refine wpAny_stack_any fun st => wpAny_pure ?_
    split
    · rename_i c _ _ _ _ _
      cases (c == Value.type "enumerate")
      all_goals
        wp_walk using it
        exact ⟨_, rfl, h⟩
    · wp_walk using it
      exact ⟨_, rfl, h⟩
end PySem
namespace Sy
open PySem PySem.Spec L2

theorem enum_call {prog : Program} {w : World} {A : Around} {E : Value → Shared → Prop} {s : Shared} {t : Addr} {items : Array Value} {Q : Value → Shared → Prop} (ht : s.heap.IsTuple t items)
    (h : ∀ h', IsEnum h' (s.heap.objs.size + 1) s.heap.objs.size 0 .none → h'.IsTupleIter s.heap.objs.size t 0 → (∀ b o, s.heap.get? b = some o → h'.get? b = some o) → Q (.ref (s.heap.objs.size + 1)) { s with heap := h' }) :
    wpAny (model prog w) A (call (.type "enumerate") [.ref t]) Q E s := by
  have B := begins_tuple t items
  refine callType_new F.called_enumerate (by decide) (F.typeCall_enumerate_1 _) (F.newCall_enumerate_1 _) (fun obj => F.args_object_init_2 obj _) F.entry_enumerate_new (sy_enum_new B ⟨t, rfl⟩) ⟨ht, ?_⟩
  have hz := Heap.size_push s.heap ({ cls := .type "tuple_iterator", data := .fields #[.ref t, .int 0 0] } : Obj)
  show _ ∧ _
  rw [hz]
  have he : IsEnum ((s.heap.push { cls := .type "tuple_iterator", data := .fields #[.ref t, .int 0 0] }).push { cls := .type "enumerate", data := .fields #[.none, .bool false, .ref s.heap.objs.size, rawInt 0, .none, .none] }) (s.heap.objs.size + 1) s.heap.objs.size 0 .none := by
    rw [← hz]
    exact Heap.get?_push_size _ rfl
  exact ⟨⟨_, he, rfl⟩, h _ he ⟨_, Heap.get?_push_of_some _ (Heap.get?_push_size _ rfl), rfl, rfl⟩ fun b o x => Heap.get?_push_of_some _ (Heap.get?_push_of_some _ x)⟩
/-- the tuple at a, each item in a new pair with its number -/
def IteT (K : PySem.W.Frag) (a : Addr) : It :=
  ⟨fun i H => ∃ (xs : List V) (x : V), SqT K H a xs ∧ xs[i]? = some x, fun i H v H' => ∃ T x, v = .ref T ∧ H T = none ∧ H' = upd H T (.tup [.int (i : Nat), x]) ∧ ∀ xs, SqT K H a xs → xs[i]? = some x, fun i H => ∃ xs : List V, SqT K H a xs ∧ xs.length = i⟩
theorem tup_at {X : Cx} {pins : List (Addr × Obj)} {σ : L2.St} {H : Hp} {s : Shared} {a : Addr} {xs : List V} (I : Inv X pins σ H s) (h : SqT X.K H a xs) : ∃ its : List Value, Vals xs its ∧ s.heap.IsTuple a its.toArray := by
  obtain ⟨its, r, p, _⟩ := I.tuple h
  exact ⟨its, r, p⟩
theorem turn_enumT {P : Program} {w : World} {K : PySem.W.Frag} {elts : List Expr} {kk : Nat} {tpos : Pos} (a e it : Addr) :
    Turn P w K (.Tuple elts kk tpos) (IteT K a) [e, it] e (fun i h => (∃ old, IsEnum h e it ((i : Nat) : Int) old) ∧ h.IsTupleIter it a i ∧ e ≠ it) where
  mem := List.mem_cons_self
  obj := fun i h st b hb => by
    obtain ⟨⟨old, he⟩, ⟨o, ho, hc, hd⟩, _⟩ := st
    rcases List.mem_cons.mp hb with rfl | hb
    · exact ⟨_, he, fun v q => nomatch q⟩
    · rw [List.mem_singleton.mp hb]
      exact ⟨o, ho, fun v q => by rw [hd] at q; cases q⟩
  keep := fun i h h' st k => let ⟨⟨old, he⟩, hi, hne⟩ := st; ⟨⟨old, k e List.mem_cons_self _ he⟩, hi.at fun o q => k it (List.mem_cons_of_mem _ (List.mem_singleton.mpr rfl)) o q, hne⟩
  item := by
    intro X hP hw hK hc i pins s σ H E I hf st hg
    subst hP hw hK
    obtain ⟨⟨old, he⟩, hit, hne⟩ := st
    obtain ⟨xs, x, hq, hx⟩ := hg
    obtain ⟨its, rv, tp⟩ := tup_at I hq
    obtain ⟨u, hu, ru⟩ := rv.get hx
    have hel : e < s.heap.objs.size := Heap.lt_size he
    have hil : it < s.heap.objs.size := let ⟨_, q, _⟩ := hit; Heap.lt_size q
    have hea : e ≠ a := fun z => by
      obtain ⟨o, ho, hcl, _⟩ := tp
      rw [z, IsEnum] at he
      rw [he] at ho
      cases ho
      exact absurd (show Value.type "enumerate" = Value.type "tuple" from hcl) (by decide)
    have hia : a ≠ it := fun z => by
      obtain ⟨o, ho, hcl, _⟩ := tp
      obtain ⟨o2, ho2, hc2, _⟩ := hit
      rw [z, ho2] at ho
      cases ho
      rw [hc2] at hcl
      exact absurd hcl (by decide)
    have D := Draws.tuple (prog := X.prog) (w := X.w) (A := X.A.in1) (I.ok.hd hc) it a hia its.toArray
    have hl : i < its.toArray.size := by
      rw [List.size_toArray, ← rv.length]
      exact (List.getElem?_eq_some_iff.mp hx).1
    refine wpAny_pyNext_enum_itemD D he ⟨hit, tp⟩ hl hne (by simp [hne, hea]) fun y h' tk hy ho hst hT hsz hk => ?_
    have hyu : y = u := by
      have z : its.toArray[i]? = some u := by simpa using hu
      rw [z] at hy
      exact (Option.some.inj hy).symm
    subst hyu
    refine ⟨_, rfl, wpAny_letOwnedTupleGo_enum (s := { s with heap := h', toks := tk + 1 }) ho fun h2 he2 sb => ?_⟩
    have hT2 : h2.get? s.heap.objs.size = some { cls := .type "tuple", data := .seq #[.int i tk, y] } := (sb.2 _ (Nat.ne_of_gt hel)).trans hT
    have new : ObjOk X.prog X.w (upd H s.heap.objs.size (.tup [.int (i : Nat), x])) h2 s.heap.objs.size (.tup [.int (i : Nat), x]) :=
      ⟨by show 2 ≤ sizeLine; decide, [.int i tk, y], .cons ⟨_, rfl⟩ (.cons ru .nil), ⟨_, hT2, rfl, _, rfl⟩⟩
    have I1 : Inv X pins σ (upd H s.heap.objs.size (.tup [.int (i : Nat), x])) { s with heap := h2, toks := tk + 1 } :=
      I.turnedNew (ch := [e, it]) (fun b ob hb q => (sb.2 b (fun z => hb (by simp [z]))).trans (hk b ob (fun z => hb (by simp [z])) (fun z => hb (by simp [z])) q)) hf (Nat.le_refl _) new
    refine ⟨.ref s.heap.objs.size, _, I1, rfl, ⟨_, x, rfl, I.hok.fresh (Nat.le_refl _), rfl, fun ys hy => by rw [I.tuple_inj hy hq]; exact hx⟩, ⟨⟨y, ?_⟩, hst.1.at fun o q => (sb.2 it (Ne.symm hne)).trans q, hne⟩, fun b hb => ?_⟩
    · have e1 : ((i + 1 : Nat) : Int) = (i : Int) + 1 := by omega
      rw [e1]
      exact he2
    · have hb2 : b < s.heap.objs.size := by
        rcases List.mem_cons.mp hb with rfl | hb
        · exact hel
        · rw [List.mem_singleton.mp hb]; exact hil
      rw [upd_ne (Nat.ne_of_lt hb2)]
      exact (hf b hb).1
  done := by
    intro X hP hw hK hc i pins s σ H E I hf st hg
    subst hP hw hK
    obtain ⟨⟨old, he⟩, hit, hne⟩ := st
    obtain ⟨xs, hq, hx⟩ := hg
    obtain ⟨its, rv, tp⟩ := tup_at I hq
    obtain ⟨f0, f1, f2, f3, f4, f5⟩ := hf it (List.mem_cons_of_mem _ (List.mem_singleton.mpr rfl))
    have hia : a ≠ it := fun z => by
      obtain ⟨o, ho, hcl, _⟩ := tp
      obtain ⟨o2, ho2, hc2, _⟩ := hit
      rw [z, ho2] at ho
      cases ho
      rw [hc2] at hcl
      exact absurd hcl (by decide)
    have D := Draws.tuple (prog := X.prog) (w := X.w) (A := X.A.in1) (I.ok.hd hc) it a hia its.toArray
    have hi : i = its.toArray.size := by rw [List.size_toArray, ← rv.length, hx]
    rw [hi] at hit
    exact wpAny_pyNext_enum_endD D he ⟨hit, tp⟩ fun h' eb => ⟨rfl, I.turned (t' := s.toks) (fun b o hb q => eb b o hb q) f0 f1 f3 f4 f5⟩
  self := fun A i s Q E st h => let ⟨⟨_, he⟩, _⟩ := st; wpAny_pyIter_enum he h
def iEnumT (K : PySem.W.Frag) (ta : TA) : TI := fun σ H R => ta σ H fun vs H1 => ∃ a xs, vs = [.ref a] ∧ SqT K H1 a xs ∧ R (IteT K a) H1
theorem pi_enumT {X : Cx} {e : Expr} {ta : TA} {p pos tpos : Pos} {elts : List Expr} {kk : Nat} (hg : Gl X "enumerate") (hm : X.mg "enumerate" = none) (ha : PA X [e] ta) (hs : starEach [e] X.env = [(false, eval e X.env)] := by rfl) :
    PI X (.Tuple elts kk tpos) (.Call (.Name "enumerate" p) [e] [] pos) (iEnumT X.K ta) := by
  refine ⟨fun pins s σ H R I h => ?_⟩
  refine PyProof.Rows.Call_ (ld_blt I hg hm PyProof.Rows.boot_enumerate (PyProof.Rows.callWith_type1 (thn (ha.run pos pins s σ H _ I h) fun us s1 ⟨vs, H1, I1, r1, q1⟩ => ?_) hs rfl))
  obtain ⟨a, xs, rfl, hq, q⟩ := q1
  cases r1 with
  | cons r rr =>
    cases rr
    cases r
    obtain ⟨its, rv, tp⟩ := tup_at I1 hq
    refine enum_call tp fun h' he hit hk => wpAny_pyIter_enum he ?_
    have I2 : Inv X pins σ H1 { s1 with heap := h' } := I1.kept (t' := s1.toks) hk
    refine ⟨s1.heap.objs.size + 1, [s1.heap.objs.size + 1, s1.heap.objs.size], _, _, H1, rfl, I2, turn_enumT a (s1.heap.objs.size + 1) s1.heap.objs.size, ⟨⟨.none, he⟩, hit, Nat.succ_ne_self _⟩, fun b hb => ?_, q⟩
    have hle : s1.heap.objs.size ≤ b := by
      rcases List.mem_cons.mp hb with rfl | hb
      · exact Nat.le_add_right _ _
      · rw [List.mem_singleton.mp hb]; exact Nat.le_refl _
    exact I1.fpOk hle (I1.hok.fresh hle)
theorem ei_enumT {F : Fx} {Γ : Gm} {Θ : Th} {t : TA} {C : Nat → (Nat → Da) → (Th → Prop) → Th → Prop} (h : EvA F t Γ Θ fun ds Θ1 => ∃ xs, ds = [.tup xs] ∧ C xs.length (fun i => .tup [.int (i : Nat), xs.getD i .non]) (fun _ => True) Θ1) : EvI F (iEnumT F.K t) Γ Θ C := fun σ H hS R q => h σ H hS _ fun vs H1 ds Θ1 p1 s1 r1 k => by
  obtain ⟨xs, rfl, k⟩ := k
  obtain ⟨v, rfl, r⟩ := r1.one
  obtain ⟨a, us, rfl, hs, rl⟩ := r.tupI
  refine ⟨a, us, rfl, hs, q _ H1 Θ1 _ _ _ p1 s1 ⟨fun i σ H Γ Θ hi p _ _ => ⟨us, us[i]'(by rw [rl.length]; exact hi), p.sqt hs, by simp [rl.length, hi]⟩, fun σ H Γ Θ p _ _ => ⟨us, p.sqt hs, rl.length⟩, fun i σ H Γ Θ x H' hi p s _ y => ?_⟩ k⟩
  obtain ⟨T, u, rfl, hT, rfl, e⟩ := y
  have pn : Per H (upd H T (.tup [.int (i : Nat), u])) := .new hT
  exact ⟨pn, s.new hT, .tup (.inl (.inl upd_same)) (.cons (.int _) (.cons (((rl.per p).getD (e us (p.sqt hs))).per pn) .nil))⟩

/-! ### kinds -/
def Da.tyn : Da → Option String
  | .non => some "NoneType"
  | .bl _ => some "bool"
  | .int _ => some "int"
  | .str _ => some "str"
  | .tup _ => some "tuple"
  | .lis _ => some "list"
  | .ref _ => none
  | .ty _ => none
theorem Rp.ty_ {K : PySem.W.Frag} {H : Hp} {v : V} {d : Da} {T : String} (h : Rp K H v d) (e : d.tyn = some T) : TyX K H v (.type T) := by
  cases h with
  | non => cases e; exact .base .non
  | bl b => cases e; exact .base (.bl b)
  | int i => cases e; exact .base (.int i)
  | str x => cases e; exact .base (.str x)
  | ref a => cases e
  | ty n => cases e
  | tup h r =>
    cases e
    rcases h with (h | ⟨o, h⟩) | ⟨o, its, n, h1, h2, _⟩
    · exact .base (.tup h)
    · exact .fTuple h
    · exact .kTuple h1 h2
  | lis h r =>
    cases e
    rcases h with ⟨o, h⟩ | ⟨o, its, n, h1, h2, _⟩
    · exact .base (.frz h)
    · exact .kList h1 h2
section
variable {F : Fx} {Γ : Gm} {Θ : Th} {R : Da → Th → Prop} {d e : Da}
theorem s_isi {T S : String} {b : Bool} (h1 : d.tyn = some T) (h2 : kitB T S = some b) (k : R (.bl b) Θ) : SL F (rIsi F.K) [d, .ty S] Θ R := fun σ H Γ vs hS h Q q => by
  obtain ⟨v, w, rfl, r1, r2⟩ := h.two
  cases r2
  exact ⟨v, .ty S, .type T, .type S, b, rfl, .ty S, r1.ty_ h1, kit_ty h2, q _ H _ Θ (.rfl' H) hS (.bl b) k⟩
theorem ev_ty {n : String} (k : R (.ty n) Θ) : EvG F (tC (.ty n)) Γ Θ R := fun σ H hS Q q => q _ H _ Θ (.rfl' H) hS (.ty n) k

/-! ### == of data, repr -/
mutual
def Da.py : Da → PyData
  | .non => .none
  | .bl b => .bool b
  | .int i => .int i
  | .str x => .str x
  | .tup ds => .tuple (pyL ds)
  | .lis ds => .list (pyL ds)
  | .ref _ => .none
  | .ty _ => .none
def pyL : List Da → List PyData
  | [] => []
  | d :: ds => d.py :: pyL ds
end
mutual
def Da.plain : Da → Bool
  | .ref _ => false
  | .ty _ => false
  | .tup ds => plainL ds
  | .lis ds => plainL ds
  | .non => true
  | .bl _ => true
  | .int _ => true
  | .str _ => true
def plainL : List Da → Bool
  | [] => true
  | d :: ds => d.plain && plainL ds
end
mutual
theorem Rp.dp {K : PySem.W.Frag} {H : Hp} : ∀ {v : V} {d : Da}, Rp K H v d → d.plain = true → Dp K H v d.py
  | _, _, .non, _ => by rw [Da.py]; exact .non
  | _, _, .bl b, _ => by rw [Da.py]; exact .bl b
  | _, _, .int i, _ => by rw [Da.py]; exact .int i
  | _, _, .str x, _ => by rw [Da.py]; exact .str x
  | _, _, .ref a, h => by rw [Da.plain] at h; cases h
  | _, _, .ty n, h => by rw [Da.plain] at h; cases h
  | _, _, .tup s r, h => by rw [Da.plain] at h; rw [Da.py]; exact .tup s (RpL.dp r h)
  | _, _, .lis s r, h => by rw [Da.plain] at h; rw [Da.py]; exact .lst s.sq (RpL.dp r h)
theorem RpL.dp {K : PySem.W.Frag} {H : Hp} : ∀ {vs : List V} {ds : List Da}, RpL K H vs ds → plainL ds = true → DpAll K H vs (pyL ds)
  | _, _, .nil, _ => by rw [pyL]; exact .nil
  | _, _, .cons h r, e => by
    rw [plainL, Bool.and_eq_true] at e
    rw [pyL]
    exact .cons (Rp.dp h e.1) (RpL.dp r e.2)
end
theorem s_eqD (h1 : d.plain = true) (h2 : e.plain = true) (z1 : SeqAt.shaped d.py = true) (z2 : SeqAt.shaped e.py = true) (k : R (.bl (PyData.eqv d.py e.py)) Θ) : S2 F (rEqD F.K) d e Θ R := fun σ H Γ v w hS r1 r2 Q q =>
  ⟨d.py, e.py, r1.dp h1, r2.dp h2, z1, z2, q _ H _ Θ (.rfl' H) hS (.bl _) k⟩
theorem s_neD (h1 : d.plain = true) (h2 : e.plain = true) (z1 : SeqAt.shaped d.py = true) (z2 : SeqAt.shaped e.py = true) (k : R (.bl (!PyData.eqv d.py e.py)) Θ) : S2 F (rNeD F.K) d e Θ R := fun σ H Γ v w hS r1 r2 Q q =>
  ⟨d.py, e.py, r1.dp h1, r2.dp h2, z1, z2, q _ H _ Θ (.rfl' H) hS (.bl _) k⟩
/-- repr of a tuple of data -/
def rRepr (K : PySem.W.Frag) : List V → Hp → VK → Prop := fun xs H Q => ∃ a p, xs = [.ref a] ∧ Dp K H (.ref a) p ∧ p.showable = true ∧ p.hasDict = false ∧ p.depth ≤ 30 ∧ p.shown.length ≤ sizeLine ∧ Q (.str p.shown) H
theorem call_repr {X : Cx} (hg : X.A.guards = some []) (hu : X.A.units + 64 < cLine) : CallR X (.builtin "repr") (rRepr X.K) := by
  intro pins s σ H xs us Q I r h
  obtain ⟨a, p, rfl, hd, h1, h2, h3, h4, q⟩ := h
  cases r with
  | cons r1 r =>
    cases r
    cases r1
    obtain ⟨as, rd⟩ := Dp.reads I p (.ref a) (.ref a) hd rfl
    exact repr_of_reads' (hsz := h4) rd h1 (PyData.noDict_hsm h2) hg (by omega) (fun b o e => e) fun h' u tk keep => ⟨.str p.shown, H, I.kept (t' := tk) keep, ⟨u, rfl⟩, q⟩
theorem s_repr {ds : List Da} (h1 : plainL ds = true) (h2 : (Da.tup ds).py.showable = true) (h3 : (Da.tup ds).py.hasDict = false) (h4 : (Da.tup ds).py.depth ≤ 30) (h5 : (Da.tup ds).py.shown.length ≤ sizeLine) (k : R (.str (Da.tup ds).py.shown) Θ) : SL F (rRepr F.K) [.tup ds] Θ R := fun σ H Γ vs hS h Q q => by
  obtain ⟨v, rfl, r⟩ := h.one
  obtain ⟨a, us, e, hs, rl⟩ := id r.tupI
  subst e
  exact ⟨a, (Da.tup ds).py, rfl, r.dp (by rw [Da.plain]; exact h1), h2, h3, h4, h5, q _ H _ Θ (.rfl' H) hS (.str _) k⟩
end
end Sy

end
section
/-! Sy, part H: dicts walked under a lock, dict comprehensions, comprehensions of two clauses, powers, the promise of a def of the text, with or without the word on guards. -/
namespace Sy
open PySem PySem.Spec L2

/-- the dict at a is locked in this frame, it holds kvs -/
def Lk (F : Fx) (a : Addr) (kvs : Kvs) : Prop := a ∉ F.S ∧ ∃ od xs, F.H0 a = some (.frz od (Dx.obj F.w a xs)) ∧ Paired (EntD F.K F.H0) xs kvs ∧ ∀ x ∈ xs, Dx.Ky F.K F.H0 x.2.1 x.1
section
variable {F : Fx} {Γ : Gm} {Θ Θr : Th} {R : Da → Th → Prop} {E : SE} {te tk tv : TE} {tt : TT} {wi : TI} {g : TG} {t : TS} {a : Addr} {kvs : Kvs} {vs : List Nat}
theorem Take.spl {Θ Θ' : Th} {o : Mo} (h : Take Θ a o Θ') : Spl Θ [(a, o)] Θ' := .cons h .nil
theorem rn_lock (hT : Take Θ a (.dic kvs) Θr) (h : ∀ H0 S, Lk ⟨F.K, F.w, H0, S⟩ a kvs → Rn ⟨F.K, F.w, H0, S⟩ t Γ Θr ⟨fun Γ' Θ' => E.nx Γ' (Θ' ++ [(a, .dic kvs)]), fun d Θ' => E.rt d (Θ' ++ [(a, .dic kvs)]), fun Γ' Θ' => E.bk Γ' (Θ' ++ [(a, .dic kvs)]), fun Γ' Θ' => E.ct Γ' (Θ' ++ [(a, .dic kvs)])⟩) :
    Rn F (tLock t) Γ Θ E := fun σ H D hS hD => by
  have sr := hS.rest hT.spl
  have sa := hS.spl hT.spl
  have hma : (a, Mo.dic kvs) ∈ [(a, Mo.dic kvs)] := List.mem_singleton.mpr rfl
  obtain ⟨xs, DA, rel⟩ := sa.ob a _ hma
  have ndp := (hT.spl.perm.map (·.1)).nodup_iff.mp hS.nd
  rw [List.map_append, List.nodup_append] at ndp
  have off : a ∉ Θr.map (·.1) := fun z => ndp.2.2 a (by simp) a z rfl
  refine ⟨a, Dx.obj F.w a xs, DA.ob, True.intro, fun od => ?_⟩
  -- the locked heap
  have pL : Per H (upd H a (.frz od (Dx.obj F.w a xs))) := Dx.per_obj DA.ob
  have sL : St ⟨F.K, F.w, upd H a (.frz od (Dx.obj F.w a xs)), Θr.map (·.1)⟩ σ (upd H a (.frz od (Dx.obj F.w a xs))) Γ Θr := by
    refine ⟨sr.ln, fun i d e => ?_, fun b o hm => ?_, sr.nd, .rfl' _ _, fun b o hm => .inl (List.mem_map.mpr ⟨(b, o), hm, rfl⟩), .rfl' _⟩
    · obtain ⟨v, e1, r⟩ := sr.sl i d e
      exact ⟨v, e1, r.per pL⟩
    · have hb : b ≠ a := fun z => off (by rw [← z]; exact List.mem_map.mpr ⟨(b, o), hm, rfl⟩)
      exact (sr.ob b o hm).per pL (upd_ne hb)
  have lk : Lk ⟨F.K, F.w, upd H a (.frz od (Dx.obj F.w a xs)), Θr.map (·.1)⟩ a kvs := ⟨off, od, xs, upd_same, ed_per pL rel, fun x hx => (DA.ky x hx).per pL⟩
  -- out of the lock
  have out : ∀ {σ' H' Γ' Θ'}, Per (upd H a (.frz od (Dx.obj F.w a xs))) H' → St ⟨F.K, F.w, upd H a (.frz od (Dx.obj F.w a xs)), Θr.map (·.1)⟩ σ' H' Γ' Θ' →
      H' a = some (.frz od (Dx.obj F.w a xs)) ∧ Per H' (upd H' a (Dx.obj F.w a xs)) ∧ St F σ' (upd H' a (Dx.obj F.w a xs)) Γ' (Θ' ++ [(a, .dic kvs)]) := by
    intro σ' H' Γ' Θ' p s
    have e1 : H' a = some (.frz od (Dx.obj F.w a xs)) := s.fr.k a _ upd_same off
    have pU : Per H' (upd H' a (Dx.obj F.w a xs)) := by
      refine ⟨fun b ys r => ?_, fun b o ys r => ?_⟩
      · rcases r with r | ⟨o, r⟩
        · have z : b ≠ a := fun e => by subst e; rw [e1] at r; cases r
          exact .inl (by rw [upd_ne z]; exact r)
        · have z : b ≠ a := fun e => by subst e; rw [e1] at r; cases r
          exact .inr ⟨o, by rw [upd_ne z]; exact r⟩
      · have z : b ≠ a := fun e => by subst e; rw [e1] at r; cases r
        rw [upd_ne z]; exact r
    have offa : ∀ b o, (b, o) ∈ Θ' → b ≠ a := fun b o hm z => by
      subst z
      rcases s.ow b o hm with y | y
      · exact off y
      · have y : upd H b (.frz od (Dx.obj F.w b xs)) b = none := y
        rw [upd_same] at y
        cases y
    have pAll : Per H (upd H' a (Dx.obj F.w a xs)) := (pL.trans p).trans pU
    have tot : ∀ b o, F.H0 b = some o → b ∉ F.S → b ≠ a ∧ b ∉ Θr.map (·.1) := fun b o e n => by
      refine ⟨fun z => ?_, fun z => ?_⟩
      · subst z
        rcases sa.ow b _ hma with y | y
        · exact n y
        · rw [e] at y; cases y
      · obtain ⟨⟨b2, o2⟩, hb, rfl⟩ := List.mem_map.mp z
        rcases sr.ow b2 o2 hb with y | y
        · exact n y
        · rw [e] at y; cases y
    refine ⟨e1, pU, s.ln, fun i d e => ?_, fun b o hm => ?_, ?_, ⟨fun b o e n => ?_, fun b o e => ?_⟩, fun b o hm => ?_, hS.pe.trans pAll⟩
    · obtain ⟨v, e2, r⟩ := s.sl i d e
      exact ⟨v, e2, r.per pU⟩
    · rcases List.mem_append.mp hm with hm | hm
      · exact (s.ob b o hm).per pU (upd_ne (offa b o hm))
      · cases List.mem_singleton.mp hm
        exact ⟨xs, ⟨upd_same, fun x hx => (DA.ky x hx).per pAll⟩, ed_per pAll rel⟩
    · rw [List.map_append, List.nodup_append]
      refine ⟨s.nd, by simp, fun x hx y hy => ?_⟩
      obtain rfl : y = a := by simpa using hy
      obtain ⟨⟨b, o⟩, hb, rfl⟩ := List.mem_map.mp hx
      exact offa b o hb
    · obtain ⟨n1, n2⟩ := tot b o e n
      have z := hS.fr.k b o e n
      have z2 := s.fr.k b o (by show upd H a _ b = some o; rw [upd_ne n1]; exact z) n2
      rw [upd_ne n1]; exact z2
    · by_cases hb : b = a
      · subst hb; exact ⟨_, upd_same⟩
      · obtain ⟨o1, z⟩ := hS.fr.d b o e
        obtain ⟨o2, z2⟩ := s.fr.d b o1 (by show upd H a _ b = some o1; rw [upd_ne hb]; exact z)
        exact ⟨o2, by rw [upd_ne hb]; exact z2⟩
    · rcases List.mem_append.mp hm with hm | hm
      · rcases s.ow b o hm with y | y
        · obtain ⟨⟨b2, o2⟩, hb, rfl⟩ := List.mem_map.mp y
          exact sr.ow b2 o2 hb
        · have y : upd H a (.frz od (Dx.obj F.w a xs)) b = none := y
          have hb : b ≠ a := fun z => by subst z; rw [upd_same] at y; cases y
          rw [upd_ne hb] at y
          exact .inr (hS.fr.back y)
      · cases List.mem_singleton.mp hm
        exact sa.ow a _ hma
  refine h _ _ lk σ _ _ sL ⟨fun σ' H' Γ' Θ' p s k => ?_, fun v σ' H' Γ' d Θ' p s r k => ?_, fun σ' H' Γ' Θ' p s k => ?_, fun σ' H' Γ' Θ' p s k => ?_⟩
  · obtain ⟨e1, pU, s2⟩ := out p s
    exact ⟨e1, hD.nx _ _ _ _ ((pL.trans p).trans pU) s2 k⟩
  · obtain ⟨e1, pU, s2⟩ := out p s
    exact ⟨e1, hD.rt v _ _ _ _ _ ((pL.trans p).trans pU) s2 (r.per pU) k⟩
  · obtain ⟨e1, pU, s2⟩ := out p s
    exact ⟨e1, hD.bk _ _ _ _ ((pL.trans p).trans pU) s2 k⟩
  · obtain ⟨e1, pU, s2⟩ := out p s
    exact ⟨e1, hD.ct _ _ _ _ ((pL.trans p).trans pU) s2 k⟩
theorem ed_get {K : PySem.W.Frag} {H : Hp} : ∀ {xs : List Dx.Ent} {kvs : Kvs} {i : Nat} {x : Dx.Ent}, Paired (EntD K H) xs kvs → xs[i]? = some x → ∃ p, kvs[i]? = some p ∧ EntD K H x p
  | _, _, _, _, .nil, e => by cases e
  | _, _, 0, _, .cons h _, e => by cases e; exact ⟨_, rfl, h⟩
  | _, _, i + 1, _, .cons _ t, e => ed_get (i := i) t e
theorem ei_pr {C : Nat → (Nat → Da) → (Th → Prop) → Th → Prop} (L : Lk F a kvs) (h : EvG F te Γ Θ fun d Θ1 => d = .ref a ∧ C kvs.length (fun i => .tup [(kvs.getD i (.non, .non)).1, (kvs.getD i (.non, .non)).2]) (fun _ => True) Θ1) : EvI F (Dx.iPr F.w te) Γ Θ C := fun σ H hS R q => h σ H hS _ fun v H1 d Θ1 p1 s1 r1 k => by
  obtain ⟨rfl, k⟩ := k
  cases r1
  obtain ⟨ns, od, xs, hH, rel, ky⟩ := L
  have hl : xs.length = kvs.length := Paired.length rel
  have at_ : ∀ {σ H Γ Θ}, St F σ H Γ Θ → H a = some (.frz od (Dx.obj F.w a xs)) := fun s => s.fr.k a _ hH ns
  refine ⟨a, od, xs, rfl, at_ s1, q _ H1 Θ1 _ _ _ p1 s1 ⟨fun i σ H Γ Θ hi p s _ => ⟨at_ s, by rw [hl]; exact hi⟩, fun σ H Γ Θ p s _ => ⟨at_ s, by rw [hl]; exact Nat.le_refl _⟩, fun i σ H Γ Θ x H' hi p s _ y => ?_⟩ k⟩
  obtain ⟨T, e, he, rfl, hT, rfl⟩ := y
  obtain ⟨pr, hp, hE⟩ := ed_get rel he
  have pn : Per H (upd H T (.tup [e.2.1, e.2.2])) := .new hT
  -- the entries' data stand since the frame's beginning
  have p0 : Per F.H0 H := s.pe
  refine ⟨pn, s.new hT, .tup (.inl (.inl upd_same)) ?_⟩
  rw [List.getD_eq_getElem?_getD, hp]
  exact .cons ((hE.2.1.per p0).per pn) (.cons ((hE.2.2.per p0).per pn) .nil)
end
end Sy

end
section
/-! Sy, part I: dict comprehensions, list comprehensions of two clauses, powers, the promise of a def of the text. -/
namespace Sy
open PySem PySem.Spec L2

section
variable {F : Fx} {Γ : Gm} {Θ : Th} {R : Da → Th → Prop} {te tk tv : TE} {tt tt1 : TT} {wi wi1 : TI} {g g1 : TG} {vs vs1 : List Nat}
/-- {k: v for target in iter if t}: the dict is in Θ as (p, dic acc) -/
theorem ev_dc (hg : Into vs g) (h : EvI F wi Γ Θ fun n item Keep Θ1 => ∀ p, ∃ Pv : Nat → Kvs → Th → Prop, Pv 0 [] (Θ1 ++ [(p, .dic [])]) ∧ (∀ i acc Θ', i ≤ n → Pv i acc Θ' → Keep Θ') ∧
    (∀ i acc Θ', i < n → Pv i acc Θ' → Tg F g (item i) (wipeG Γ vs) Θ' fun Γ2 Θ2 => EvT F tt Γ2 Θ2 fun b Θ3 =>
      (b = true → EvG F tk Γ2 Θ3 fun y Θ4 => EvG F tv Γ2 Θ4 fun z Θ5 => ∃ k Θ6, Put Θ5 p (.dic acc) (.dic (dput acc y z)) Θ6 ∧ y.nk = some k ∧ k.depth ≤ 8 ∧ acc.length < sizeLine ∧ FgtT (Pv (i + 1)) (dput acc y z) Θ6) ∧ (b = false → FgtT (Pv (i + 1)) acc Θ3)) ∧
    (∀ acc Θ', Pv n acc Θ' → R (.ref p) Θ')) : EvG F (Dx.tDcx F.K F.w wi g tt tk tv vs) Γ Θ R := fun σ H hS Q q =>
  h σ H hS _ fun J H1 Θ1 n item Keep p1 s1 W k D hD => by
    obtain ⟨Pv, h0, hk, hs, hd⟩ := k D
    have pD : Per H1 (upd H1 D (Dx.obj F.w D [])) := .new hD
    have sD : St F σ (upd H1 D (Dx.obj F.w D [])) Γ (Θ1 ++ [(D, .dic [])]) := s1.newO (o := .dic []) hD ⟨[], ⟨upd_same, fun _ z => nomatch z⟩, .nil⟩
    refine ⟨fun i m H' => m = n - i ∧ i ≤ n ∧ ∃ acc Θ', Per H1 H' ∧ St F σ H' Γ Θ' ∧ Pv i acc Θ', ⟨n, by omega, Nat.zero_le _, [], _, pD, sD, h0⟩, ?_⟩
    rintro i m H2 ⟨rfl, hi, acc, Θ2, p2, s2, v2⟩
    by_cases hlt : i < n
    · refine .inr ⟨W.goes i σ H2 Γ Θ2 hlt p2 s2 (hk i _ _ hi v2), fun H' => ∃ acc Θ', Per H1 H' ∧ St F σ H' Γ Θ' ∧ Pv (i + 1) acc Θ', fun H' z => ⟨n - (i + 1), by omega, rfl, hlt, z⟩, fun x H3 y => ?_⟩
      obtain ⟨p3, s3, r3⟩ := W.yields i σ H2 Γ Θ2 x H3 hlt p2 s2 (hk i _ _ hi v2) y
      have keep : ∀ {σ' H' Γ' Θ'}, Per H3 H' → St F σ' H' Γ' Θ' → St F σ H' Γ Θ' := fun {σ' H' Γ' Θ'} p s => s.slots s3.ln fun j d e => by
        obtain ⟨v, e1, r⟩ := s3.sl j d e
        exact ⟨v, e1, r.per p⟩
      refine hg.blk (hs i acc Θ2 hlt v2 (wipe σ vs) H3 x (s3.wipe vs) r3 _ fun σ4 H4 Γ4 Θ4 p4 s4 k4 => ?_)
      refine k4 σ4 H4 s4 _ fun b H5 Θ5 p5 s5 k5 => ?_
      cases b with
      | false =>
        obtain ⟨Θ6, Θr, sp, v6⟩ := k5.2 rfl
        exact ⟨acc, Θ6, ((p2.trans p3).trans p4).trans p5, (keep (p4.trans p5) s5).spl sp, v6⟩
      | true =>
        refine k5.1 rfl σ4 H5 s5 _ fun z H6 d Θ6 p6 s6 r6 k6 => ?_
        refine k6 σ4 H6 s6 _ fun z2 H7 e Θ7 p7 s7 r7 k7 => ?_
        obtain ⟨k, Θ8, hP, hnk, kd, hz, Θ9, Θr, sp, v9⟩ := k7
        obtain ⟨xs, DA, rel⟩ := s7.ob D _ hP.mem
        have ry : Rp F.K H7 z d := r6.per p7
        have pe : Per H7 (upd H7 D (Dx.obj F.w D (Dx.vsto xs k z z2))) := Dx.per_obj DA.ob
        have s8 : St F σ4 (upd H7 D (Dx.obj F.w D (Dx.vsto xs k z z2))) Γ4 Θ8 := s7.put hP ⟨_, DA.sto (ry.ky hnk), ed_per pe (ed_put hnk ry r7 rel)⟩
        exact ⟨xs, k, DA, ry.ky hnk, kd, by rw [Paired.length rel]; exact hz, dput acc d e, Θ9, (((((p2.trans p3).trans p4).trans p5).trans p6).trans p7).trans pe, (keep ((((p4.trans p5).trans p6).trans p7).trans pe) s8).spl sp, v9⟩
    · have e : i = n := by omega
      subst e
      exact .inl ⟨W.stops σ H2 Γ Θ2 p2 s2 (hk i _ _ hi v2), q (.ref D) H2 (.ref D) Θ2 (p1.trans p2) s2 (.ref D) (hd acc Θ2 v2)⟩
/-- [e for target in iter if t for target1 in iter1 if t1] -/
theorem ev_lc2 (hg : Into vs g) (hg1 : Into vs1 g1) (hsub : ∀ i ∈ vs1, i ∈ vs) (h : EvI F wi Γ Θ fun n item Keep Θ1 => ∀ p, ∃ Pv : Nat → List Da → Th → Prop, Pv 0 [] (Θ1 ++ [(p, .lst [])]) ∧ (∀ i acc Θ', i ≤ n → Pv i acc Θ' → Keep Θ') ∧
    (∀ i acc Θ', i < n → Pv i acc Θ' → Tg F g (item i) (wipeG Γ vs) Θ' fun Γ2 Θ2 => EvT F tt Γ2 Θ2 fun b Θ3 =>
      (b = true → EvI F wi1 Γ2 Θ3 fun n1 item1 Keep1 Θ4 => ∃ Pw : Nat → List Da → Th → Prop, Pw 0 acc Θ4 ∧ (∀ j acc Θ', j ≤ n1 → Pw j acc Θ' → Keep1 Θ') ∧
        (∀ j acc Θ', j < n1 → Pw j acc Θ' → Tg F g1 (item1 j) (wipeG Γ2 vs1) Θ' fun Γ5 Θ5 => EvT F tt1 Γ5 Θ5 fun b1 Θ6 =>
          (b1 = true → EvG F te Γ5 Θ6 fun y Θ7 => ∃ Θ8, Put Θ7 p (.lst acc) (.lst (acc ++ [y])) Θ8 ∧ acc.length < sizeLine ∧ FgtT (Pw (j + 1)) (acc ++ [y]) Θ8) ∧ (b1 = false → FgtT (Pw (j + 1)) acc Θ6)) ∧
        (∀ acc Θ', Pw n1 acc Θ' → FgtT (Pv (i + 1)) acc Θ')) ∧ (b = false → FgtT (Pv (i + 1)) acc Θ3)) ∧
    (∀ acc Θ', Pv n acc Θ' → R (.ref p) Θ')) : EvG F (tLc2 wi g tt wi1 g1 tt1 te vs vs1) Γ Θ R := fun σ H hS Q q =>
  h σ H hS _ fun J H1 Θ1 n item Keep p1 s1 W k D hD => by
    obtain ⟨Pv, h0, hk, hs, hd⟩ := k D
    have pD : Per H1 (upd H1 D (.lst [])) := .new hD
    have sD : St F σ (upd H1 D (.lst [])) Γ (Θ1 ++ [(D, .lst [])]) := s1.newL hD .nil
    refine ⟨fun i m H' => m = n - i ∧ i ≤ n ∧ ∃ acc Θ', Per H1 H' ∧ St F σ H' Γ Θ' ∧ Pv i acc Θ', ⟨n, by omega, Nat.zero_le _, [], _, pD, sD, h0⟩, ?_⟩
    rintro i m H2 ⟨rfl, hi, acc, Θ2, p2, s2, v2⟩
    by_cases hlt : i < n
    · refine .inr ⟨W.goes i σ H2 Γ Θ2 hlt p2 s2 (hk i _ _ hi v2), fun H' => ∃ acc Θ', Per H1 H' ∧ St F σ H' Γ Θ' ∧ Pv (i + 1) acc Θ', fun H' z => ⟨n - (i + 1), by omega, rfl, hlt, z⟩, fun x H3 y => ?_⟩
      obtain ⟨p3, s3, r3⟩ := W.yields i σ H2 Γ Θ2 x H3 hlt p2 s2 (hk i _ _ hi v2) y
      have keep : ∀ {σ' H' Γ' Θ'}, Per H3 H' → St F σ' H' Γ' Θ' → St F σ H' Γ Θ' := fun {σ' H' Γ' Θ'} p s => s.slots s3.ln fun j d e => by
        obtain ⟨v, e1, r⟩ := s3.sl j d e
        exact ⟨v, e1, r.per p⟩
      refine hg.blk (hs i acc Θ2 hlt v2 (wipe σ vs) H3 x (s3.wipe vs) r3 _ fun σ4 H4 Γ4 Θ4 p4 s4 k4 => ?_)
      refine k4 σ4 H4 s4 _ fun b H5 Θ5 p5 s5 k5 => ?_
      have p15 : Per H1 H5 := ((p2.trans p3).trans p4).trans p5
      cases b with
      | false =>
        obtain ⟨Θ6, Θr, sp, v6⟩ := k5.2 rfl
        exact ⟨acc, Θ6, p15, (keep (p4.trans p5) s5).spl sp, v6⟩
      | true =>
        refine k5.1 rfl σ4 H5 s5 _ fun J1 H6 Θ6 n1 item1 Keep1 p6 s6 W1 k6 => ?_
        obtain ⟨Pw, g0, gk, gs, gd⟩ := k6
        refine ⟨fun j m H' => m = n1 - j ∧ j ≤ n1 ∧ ∃ acc Θ', Per H6 H' ∧ St F σ4 H' Γ4 Θ' ∧ Pw j acc Θ', ⟨n1, by omega, Nat.zero_le _, acc, Θ6, .rfl' _, s6, g0⟩, ?_⟩
        rintro j m H7 ⟨rfl, hj, acc7, Θ7, p7, s7, v7⟩
        by_cases hlt1 : j < n1
        · refine .inr ⟨W1.goes j σ4 H7 Γ4 Θ7 hlt1 p7 s7 (gk j _ _ hj v7), fun H' => ∃ acc Θ', Per H6 H' ∧ St F σ4 H' Γ4 Θ' ∧ Pw (j + 1) acc Θ', fun H' z => ⟨n1 - (j + 1), by omega, rfl, hlt1, z⟩, fun x1 H8 y1 => ?_⟩
          obtain ⟨p8, s8, r8⟩ := W1.yields j σ4 H7 Γ4 Θ7 x1 H8 hlt1 p7 s7 (gk j _ _ hj v7) y1
          have keep1 : ∀ {σ' H' Γ' Θ'}, Per H8 H' → St F σ' H' Γ' Θ' → St F σ4 H' Γ4 Θ' := fun {σ' H' Γ' Θ'} p s => s.slots s8.ln fun l d e => by
            obtain ⟨v, e1, r⟩ := s8.sl l d e
            exact ⟨v, e1, r.per p⟩
          refine hg1.blk (gs j acc7 Θ7 hlt1 v7 (wipe σ4 vs1) H8 x1 (s8.wipe vs1) r8 _ fun σ9 H9 Γ9 Θ9 p9 s9 k9 => ?_)
          refine k9 σ9 H9 s9 _ fun b1 HA ΘA pA sA kA => ?_
          cases b1 with
          | false =>
            obtain ⟨ΘB, Θr, sp, vB⟩ := kA.2 rfl
            exact ⟨acc7, ΘB, ((p7.trans p8).trans p9).trans pA, (keep1 (p9.trans pA) sA).spl sp, vB⟩
          | true =>
            refine kA.1 rfl σ9 HA sA _ fun z HB d ΘB pB sB rB kB => ?_
            obtain ⟨ΘC, hP, hz, ΘE, Θr, sp, vE⟩ := kB
            obtain ⟨xs, e1, rl⟩ := sB.ob D _ hP.mem
            have pe : Per HB (upd HB D (.lst (xs ++ [z]))) := .lst e1
            have sC : St F σ9 (upd HB D (.lst (xs ++ [z]))) Γ9 ΘC := sB.put hP ⟨_, upd_same, (rl.append (.cons rB .nil)).per pe⟩
            exact ⟨xs, e1, by rw [rl.length]; exact hz, acc7 ++ [d], ΘE, ((((p7.trans p8).trans p9).trans pA).trans pB).trans pe, (keep1 (((p9.trans pA).trans pB).trans pe) sC).spl sp, vE⟩
        · have e : j = n1 := by omega
          subst e
          obtain ⟨ΘB, Θr, sp, vB⟩ := gd acc7 Θ7 v7
          exact .inl ⟨W1.stops σ4 H7 Γ4 Θ7 p7 s7 (gk j _ _ hj v7), acc7, ΘB, (p15.trans p6).trans p7, (keep ((p4.trans p5).trans (p6.trans p7)) s7).spl sp, vB⟩
    · have e : i = n := by omega
      subst e
      exact .inl ⟨W.stops σ H2 Γ Θ2 p2 s2 (hk i _ _ hi v2), q (.ref D) H2 (.ref D) Θ2 (p1.trans p2) s2 (.ref D) (hd acc Θ2 v2)⟩
end

/-! ### powers of great numbers -/
def CPowW (i j : Int) : Prop := 0 ≤ j ∧ j ≤ 1000 ∧ i.natAbs < 2 ^ 4096
theorem op_powW {X : Cx} : OpR X (binaryOp .Pow) (rI CPowW fun i j => .int (i ^ j.toNat)) := by
  intro pins s σ H x y v u Q I rx ry h
  obtain ⟨i, j, rfl, rfl, ⟨h1, h2, h3⟩, q⟩ := h
  obtain ⟨t, rfl⟩ := rx
  obtain ⟨t', rfl⟩ := ry
  refine PyProof.Rows.pow_int h1 ?_ ⟨.int (i ^ j.toNat), H, I.tok _, ⟨_, rfl⟩, q⟩
  have b := PyProof.Rows.intBits_le h3
  have b2 : (Builtin.Int.intBits i : Int) ≤ 4096 := by exact_mod_cast b
  have h0 : (0 : Int) ≤ Builtin.Int.intBits i := Int.natCast_nonneg _
  calc (Builtin.Int.intBits i : Int) * j ≤ 4096 * 1000 := Int.mul_le_mul b2 h2 h1 (by decide)
    _ ≤ 2 ^ 27 := by decide

/-! ### a def of the text keeps its promise -/
theorem sy_ok {P : Program} {w : World} {K : PySem.W.Frag} {mg : Str → Option Value} {base : Heap} {x qual : Str} {st : Stmt} {f : Addr} {fd : FuncData} {N ps : List Str} {k : Nat} {ss : Ss} {ts : TS} (F : Fun K x qual st f fd) (S : FnScope N ps (defScope st))
    (ln : ∀ ds Θ R, ss ds Θ R → ds.length = ps.length) (hN : ps.length ≤ N.length)
    (body : ∀ (cdv : Value) (A : Around) (outer : List Env) (s : Shared) (H : Hp) (E : XK), Room k (A.deeper (PyProof.Rows.envOfC qual (defScope st) s.heap.objs.size f cdv)) → PSs (cxOf CX0 P w K mg base N qual (defScope st) f cdv A outer s H E).nox (defBody st) ts)
    (sy : ∀ (H : Hp) ds Θ R, ss ds Θ R → Rn ⟨K, w, H, Θ.map (·.1)⟩ ts (ds.map some ++ List.replicate (N.length - ds.length) none) Θ (Ret R)) : FnOk P w K mg base CX0 (k + 1) f fd ps (toSp K w ss) :=
  F.ok S (len_of ln) fun cdv A outer s H vs Q E hr h => ⟨ts, body cdv A outer s H E hr, rd_of h (by rw [len_of ln vs H Q E h]; exact hN) fun ds Θ R => sy H ds Θ R⟩
end Sy

end
section
/-! Sy, part J: promises of defs that are called where no repr runs (A.guards = some []): the def, its call, the law's own end. -/
namespace Sy
open PySem PySem.Spec PyProof.Rows L2

/-- as FnOk, where nothing is being shown -/
structure GnOk (P : Program) (w : World) (K : PySem.W.Frag) (mg : Str → Option Value) (base : Heap) (CX : CXT) (k : Nat) (f : Addr) (fd : FuncData) (ps : List Str) (sp : Sp) : Prop where
  len : ∀ vs H Q E, sp vs H Q E → vs.length = ps.length
  run : ∀ (A : Around) (outer : List Env) (s : Shared) (H : Hp) (args : Args) (us : List Value) (vs : List V) (Q : VK) (E : XK), A.guards = some [] → Room k A → Env0 P w K mg base A outer s H → BindsTo s fd args (ps.zip us) → Vals vs us → sp vs H Q E →
    codeAny (model P w) A (.call (.ref f) args) (CR CX outer P w H s Q E) s
section
variable {P : Program} {w : World} {K : PySem.W.Frag} {mg : Str → Option Value} {base : Heap}
theorem gn_of {CX : CXT} {k : Nat} {f : Addr} {name qual : Str} {params : Arguments} {body : List Stmt} {scope : Scope} {dV kV doc pm cdv ct oc : Value} {an od : Option Addr} {osl : Array (Option Value)} {N ps : List Str} {sp : Sp}
    (lk : K.lookup f = some ⟨oc, od, .func (PySem.W.fnOf name qual params body scope dV kV doc pm an cdv ct), osl⟩) (hcd : PySem.W.codeIn K cdv qual = true) (S : FnScope N ps scope) (len : ∀ vs H Q E, sp vs H Q E → vs.length = ps.length)
    (hbody : ∀ (A : Around) (outer : List Env) (s : Shared) (H : Hp) (vs : List V) (Q : VK) (E : XK), A.guards = some [] → Room k (A.deeper (envOfC qual scope s.heap.objs.size f cdv)) → sp vs H Q E →
      ∃ t, PSs (cxOf CX P w K mg base N qual scope f cdv A outer s H E) body t ∧ t { nx := fun _ H' => Q .non H', rt := Q } (L2.start N vs) H) :
    GnOk P w K mg base CX (k + 1) f (PySem.W.fnOf name qual params body scope dV kV doc pm an cdv ct) ps sp := by
  refine ⟨len, fun A outer s H args us vs Q E hg hr e0 hb r hsp => ?_⟩
  have keeps : ∀ b o, base.get? b = some o → s.heap.get? b = some o := fun b o e => (e0.bs b o e).1
  have KX : K.In s.heap := e0.mod.kin.keeps keeps
  have lim : s.heap.NoLimit := e0.mod.nolimit.keeps keeps
  have kinds : ∀ y ∈ ps.zip us, scope.names.lookup y.1 = some .local ∨ (scope.names.lookup y.1 = some .cell ∧ ((cellsFrom (s.heap.objs.size + 1) scope.names []).lookup y.1).isSome = true) := by
    rintro ⟨n, v⟩ hy
    rcases S.par n (List.of_mem_zip hy).1 with q | q
    · exact .inl q
    · exact .inr ⟨q, PySem.W.cellsFrom_some _ _ _ (.inl q)⟩
  refine codeAny_call_function hr.depth (KX _ _ lk) rfl S.co S.gen rfl (PySem.W.codeRec_of KX hcd) (hb _ _ _ _ ?_)
  refine wpAny_newFunctionEnv_cells S.kind kinds fun env he s1 x => ?_
  subst he
  refine ⟨lim.keeps x.toInCall.keep, codeAny_func ?_⟩
  obtain ⟨t, ht, hq⟩ := hbody A outer s H vs Q E hg (hr.deeper _) hsp
  have I : Inv (cxOf CX P w K mg base N qual scope f cdv A outer s H E) [] (L2.start N vs) H s1 := inv_start S hr.hd e0 (len _ _ _ _ hsp) r x
  refine wpAny_mono (ht.run [] s1 (L2.start N vs) H _ I hq) (fun fl s' hs => ?_) fun e s' hs => hs
  cases fl with
  | ret u =>
    obtain ⟨v, σ', H', J, rv, q⟩ := hs
    exact ⟨v, H', J.os, J.bare, J.base, J.hok, rv, q⟩
  | next =>
    obtain ⟨σ', H', J, q⟩ := hs
    exact ⟨.non, H', J.os, J.bare, J.base, J.hok, rfl, q⟩
  | brk => exact hs.elim fun _ z => z.elim fun _ z => z.2.elim
  | cont => exact hs.elim fun _ z => z.elim fun _ z => z.2.elim
theorem _root_.L2.FnOk.gn {CX : CXT} {k : Nat} {f : Addr} {fd : FuncData} {ps : List Str} {sp : Sp} (F : FnOk P w K mg base CX k f fd ps sp) : GnOk P w K mg base CX k f fd ps sp := ⟨F.len, fun A outer s H args us vs Q E _ => F.run A outer s H args us vs Q E⟩
/-- a def of the text -/
theorem sy_okG {x qual : Str} {st : Stmt} {f : Addr} {fd : FuncData} {N ps : List Str} {k : Nat} {ss : Ss} {ts : TS} (F : Fun K x qual st f fd) (S : FnScope N ps (defScope st)) (ln : ∀ ds Θ R, ss ds Θ R → ds.length = ps.length) (hN : ps.length ≤ N.length)
    (body : ∀ (cdv : Value) (A : Around) (outer : List Env) (s : Shared) (H : Hp) (E : XK), A.guards = some [] → Room k (A.deeper (envOfC qual (defScope st) s.heap.objs.size f cdv)) → PSs (cxOf CX0 P w K mg base N qual (defScope st) f cdv A outer s H E).nox (defBody st) ts)
    (sy : ∀ (H : Hp) ds Θ R, ss ds Θ R → Rn ⟨K, w, H, Θ.map (·.1)⟩ ts (ds.map some ++ List.replicate (N.length - ds.length) none) Θ (Ret R)) : GnOk P w K mg base CX0 (k + 1) f fd ps (toSp K w ss) := by
  obtain ⟨oc, od, kV, doc, pm, an, cdv, ct, osl, rfl, lk, hcd⟩ := F.ex
  refine gn_of lk hcd S (len_of ln) fun A outer s H vs Q E hg hr h => ⟨ts, (body cdv A outer s H E hg hr).nox, rd_of h (by rw [len_of ln vs H Q E h]; exact hN) fun ds Θ R => sy H ds Θ R⟩
end
section
variable {X : Cx} {CX : CXT} {k : Nat} {f : Addr} {fd : FuncData} {ps : List Str} {sp : Sp} {dvs : List V} {ds : List Value} {E : XK} {x : Str} {p pos : Pos} {e : Expr} {es : List Expr} {t tk : TA}
theorem run_gn {pins : List (Addr × Obj)} {σ : L2.St} {H : Hp} {s : Shared} {Q : VK} {us : List Value} {vs : List V} (G : GnOk X.prog X.w X.K X.mg X.base CX k f fd ps sp) (hg : X.A.guards = some []) (hr : Room k X.A) (hb : Binds X.K fd ps ds) (hd : Vals dvs ds) (hx : Passes CX X E)
    (I : Inv X pins σ H s) (r : Vals vs us) (h : sp (vs ++ dvs) H Q E) : wpAny (model X.prog X.w) X.A (call (.ref f) us) (EP X pins σ Q) X.xe s := by
  have r2 : Vals (vs ++ dvs) (us ++ ds) := r.append hd
  refine wpAny_call (codeAny_mono (G.run X.A X.stack s H ⟨us, []⟩ (us ++ ds) (vs ++ dvs) Q E hg hr I.env0 (hb s us I.kIn (by rw [← r2.length]; exact G.len _ _ _ _ h)) r2 h) fun o s' hq => ?_)
  match o, hq with
  | .error e, hq => exact hx pins σ H s e s' I hq
  | .ok (.ret u), hq => exact I.after hq
  | .ok .next, hq => exact hq.elim
  | .ok .brk, hq => exact hq.elim
  | .ok .cont, hq => exact hq.elim
/-- f(e, ..) -/
theorem pe_callG (G : GnOk X.prog X.w X.K X.mg X.base CX k f fd ps sp) (hgd : X.A.guards = some []) (hr : Room k X.A) (hg : Gl X x) (hm : X.mg x = some (.ref f)) (hk : PySem.W.keepIn X.K (.ref f) = true) (hb : Binds X.K fd ps ds) (hd : Vals dvs ds) (hx : Passes CX X E)
    (ha : PA X (e :: es) t) (hdb : (x == ("__debug__" : Str)) = false := by decide) (he : starEach (e :: es) X.env = (false, eval e X.env) :: starEach es X.env := by rfl) (hpl : (backTo pos (starEach es X.env)).any (·.1) = false := by rfl) :
    PE X (.Call (.Name x p) (e :: es) [] pos) (tCall sp dvs E t) :=
  ⟨fun pins s σ H Q I h => wpAny_Call_Name_kw (ld_glob I hg hm (PySem.W.callWith_K (h₀ := X.base) I.ok.mod.kin hk (thn (ha.run pos pins s σ H _ I h) fun us s1 ⟨vs, H1, I1, r, q⟩ => ⟨I1.kIn, run_gn G hgd hr hb hd hx I1 r q⟩) he hpl) hdb)⟩
end

/-! ### the law's own call and end -/
theorem law_callG {P : Program} {w : World} {K : PySem.W.Frag} {mg mb : Str → Option Value} {CX : CXT} {k : Nat} {fa a : Addr} {fd : FuncData} {x : Str} {sp : Sp} {t : Shared} {vs : List Value} {ns : List Int}
    (KX : K.In t.heap) (hns : t.heap.Ns mainGlobals mg) (hb : t.heap.Ns builtinsNs mb) (hbb : ∀ x : Str, x ≠ "__name__" → mb x = bootBuiltins x) (lim : t.heap.NoLimit) (gens : t.gens = #[]) (ha : t.heap.get? a = some { cls := .type "list", data := .seq vs.toArray }) (hi : IntsAre vs ns) (hl : ns.length ≤ sizeLine)
    (hr : Room k callerA) (F : ∀ base : Heap, K.In base → base.Ns mainGlobals mg → GnOk P w K mg base CX k fa fd [x] sp) (bind : ∀ (s : Shared) (u : Value), BindsTo s fd ⟨[u], []⟩ [(x, u)])
    (hsp : ∀ H : Hp, Only H → SqL K H a (ns.map V.int) → sp [.ref a] H (fun v _ => v = .bl true) fun _ _ _ => False) (hCX : ∀ H e s', CX [] H t (fun _ _ _ => False) e s' → False) :
    codeAny (model P w) callerA (.call (.ref fa) ⟨[.ref a], []⟩) (fun r s' => r = .ok (.ret (.bool true)) ∧ OldK t.heap s'.heap ∧ s'.os = t.os ∧ AllBare s'.gens) t := by
  -- from an abstract heap in which the script alone may stand
  have main : ∀ H : Hp, Only H → SqL K H a (ns.map V.int) → HOk P w H t.heap → (∀ b, H b ≠ none → b = a) → (H a ≠ none → K.lookup a = none) →
      codeAny (model P w) callerA (.call (.ref fa) ⟨[.ref a], []⟩) (fun r s' => r = .ok (.ret (.bool true)) ∧ OldK t.heap s'.heap ∧ s'.os = t.os ∧ AllBare s'.gens) t := by
    intro H hO hS hok hA hK
    have clear : ∀ {b : Addr}, b ≠ a → H b = none := fun {b} hb => by
      cases q : H b with
      | none => rfl
      | some u => exact absurd (hA b (by rw [q]; exact fun z => nomatch z)) hb
    have inNs : ∀ {b : Addr} {m : Str → Option Value}, t.heap.Ns b m → (hidT t.heap H).Ns b m := by
      rintro b m ⟨o, es, ep, e, d, r⟩
      refine ⟨o, es, ep, hidT_get e (clear fun z => ?_), d, r⟩
      subst z
      rw [ha] at e
      cases e
      cases d
    have KH : K.In (hidT t.heap H) := fun b o e => hidT_get (KX b o e) (by
      cases q : H b with
      | none => rfl
      | some u =>
        have z : H b ≠ none := by rw [q]; exact fun z => nomatch z
        have e2 := hA b z
        subst e2
        rw [hK z] at e
        cases e)
    have M : Mod K mg (hidT t.heap H) := ⟨KH, inNs hns, ⟨mb, inNs hb, hbb⟩, let ⟨mc, h1, h2⟩ := lim; ⟨mc, inNs h1, h2⟩⟩
    have env : Env0 P w K mg (hidT t.heap H) callerA [] t H := ⟨rfl, M, fun b o e => of_hidT e, Nat.le_of_eq (hidT_size _ _), trivial, fun b hb => (List.not_mem_nil (show b ∈ ([] : List Addr) from hb)).elim, hok, .of_eq gens⟩
    refine codeAny_mono ((F _ KH (inNs hns)).run callerA [] t H ⟨[.ref a], []⟩ [.ref a] [.ref a] _ _ rfl hr env (bind t (.ref a)) (.cons rfl .nil) (hsp H hO hS)) fun r s' h => ?_
    match r, h with
    | .error e, h => exact (hCX H e s' h).elim
    | .ok .next, h => exact h.elim
    | .ok .brk, h => exact h.elim
    | .ok .cont, h => exact h.elim
    | .ok (.ret u), h =>
      obtain ⟨v, H', os, bare, un, hok', rv, q⟩ := h
      obtain rfl : v = .bl true := q
      obtain rfl : u = Value.bool true := rv
      refine ⟨rfl, OldK.of_keep fun b o e => ?_, os, bare⟩
      have nofs : b ∉ frs [] := fun z => List.not_mem_nil (show b ∈ ([] : List Addr) from z)
      rcases hO b with z | ⟨ob, xs, z⟩
      · exact un.keep b o e z nofs List.not_mem_nil
      · obtain ⟨e1, _⟩ := hok b _ z
        obtain ⟨e2, _⟩ := hok' b _ (un.frzs b ob _ z)
        rw [e] at e1
        cases e1
        exact e2
  have rv := vals_ints hi
  cases hk : K.lookup a with
  | some o =>
    have e := KX a o hk
    rw [ha] at e
    cases e
    refine main (fun _ => none) (fun _ => .inl rfl) (.inr ⟨_, vs.toArray, _, hk, rfl, rfl, rfl, by rw [List.size_toArray, hi.length]; exact hl, by simpa using rv⟩) (fun b u z => nomatch z) (fun b z => absurd rfl z) fun z => absurd rfl z
  | none =>
    let o : Obj := { cls := .type "list", data := .seq vs.toArray }
    let H : Hp := fun b => if b = a then some (.frz o (.lst (ns.map V.int))) else none
    have ha1 : H a = some (.frz o (.lst (ns.map V.int))) := if_pos rfl
    have off : ∀ {b}, b ≠ a → H b = none := fun hb => if_neg hb
    refine main H (fun b => ?_) (.inl (.inr ⟨o, ha1⟩)) (fun b u z => ?_) (fun b z => Decidable.byContradiction fun hb => z (off hb)) fun _ => hk
    · by_cases hb : b = a
      · subst hb; exact .inr ⟨_, _, ha1⟩
      · exact .inl (off hb)
    · by_cases hb : b = a
      · subst hb
        rw [ha1] at z
        cases z
        exact ⟨ha, by rw [List.length_map]; exact hl, vs, _, rv, ha⟩
      · rw [off hb] at z
        cases z
theorem walk_ofG {l : PySem.W.OpenLaw} {n k : Nat} {q : Program} {loose : List Str} {XP : (Str → Option Value) → Heap → Prop} {YP : World → Heap → Prop} {d : DefRec} {K : Params → PySem.W.Frag} {CX : CXT} {sp : World → Sp} {x : Str} (hn : l.most = some n) (hn2 : n ≤ sizeLine) (hdf : d.params.defaults = []) (hr : Room k callerA)
    (hY : ∀ (w : World) (h : Heap), YP w h → (K w.params).In h)
    (F : ∀ (w : World) (mg : Str → Option Value) (fa : Addr) (h : Heap), (K w.params).In h → h.Ns mainGlobals mg → mg d.name = some (.ref fa) → ∃ fd : FuncData, (∀ (s : Shared) (u : Value), BindsTo s fd ⟨[u], []⟩ [(x, u)]) ∧ ∀ base : Heap, (K w.params).In base → base.Ns mainGlobals mg → GnOk l.prog w (K w.params) mg base CX k fa fd [x] (sp w))
    (hsp : ∀ (w : World) (H : Hp) (a : Addr) (ns : List Int), ns.length ≤ n → Only H → SqL (K w.params) H a (ns.map V.int) → sp w [.ref a] H (fun v _ => v = .bl true) fun _ _ _ => False)
    (hCX : ∀ (H : Hp) (s : Shared) (e : Value) (s' : Shared), CX [] H s (fun _ _ _ => False) e s' → False) : PySem.W.WalkO q loose XP YP l.row.toRowW d [] (fun f vs => PySem.call f vs) := by
  refine Att.attach_call hn hdf fun w s₀ t mg mb fa o pm cd doc a vs ns G Y ho hd hcd hmg hobj hints hlen hg => ?_
  obtain ⟨fd, bind, hF⟩ := F w mg fa _ (hY w _ Y) G.T.g hmg
  exact law_callG (hY w _ Y) G.T.g G.T.b G.T.builtins G.T.nolimit hg hobj hints (Nat.le_trans hlen hn2) hr hF bind (fun H hO hS => hsp w H a ns hlen hO hS) fun H e s' => hCX H t e s'
end Sy

end
section
/-! Sy, part K: defs that may be called by place and by keyword, list(range(n)), slices, y = {..comprehension..}. -/
namespace Sy
open PySem PySem.Spec PyProof.Rows L2

abbrev xk0 : XK := fun _ _ _ => False
/-- keywords alone: the i-th parameter is the keyword's value at gp i -/
def KBg (K : PySem.W.Frag) (fd : FuncData) (ps ks : List Str) (gp : List Nat) : Prop := ∀ (s : Shared) (ws : List Value), K.In s.heap → ws.length = ks.length → BindsTo s fd ⟨[], ks.zip ws⟩ (ps.zip (gp.map fun i => ws.getD i .none))
/-- a def that may be called: kb, its ways of being called by keywords alone -/
structure Cal (P : Program) (w : World) (K : PySem.W.Frag) (mg : Str → Option Value) (base : Heap) (k : Nat) (x : Str) (ps : List Str) (kb : List (List Str × List Nat)) (ss : Ss) : Prop where
  ex : ∃ (f : Addr) (fd : FuncData), GnOk P w K mg base CX0 k f fd ps (toSp K w ss) ∧ mg x = some (.ref f) ∧ PySem.W.keepIn K (.ref f) = true ∧ Binds K fd ps [] ∧ ∀ q ∈ kb, KBg K fd ps q.1 q.2
def tKw (sp : Sp) (n : Nat) (gp : List Nat) (tk : TA) : TE := fun σ H Q => tk σ H fun zs H1 => zs.length = n ∧ sp (gp.map fun i => zs.getD i .non) H1 Q xk0
theorem vals_getD : ∀ {vs : List V} {us : List Value} (i : Nat), Vals vs us → RelV (vs.getD i .non) (us.getD i .none)
  | _, _, _, .nil => rfl
  | _, _, 0, .cons h _ => h
  | _, _, i + 1, .cons _ r => vals_getD (vs := _) (us := _) i r
theorem vals_perm {vs : List V} {us : List Value} (r : Vals vs us) : ∀ gp : List Nat, Vals (gp.map fun i => vs.getD i .non) (gp.map fun i => us.getD i .none)
  | [] => .nil
  | i :: gp => .cons (vals_getD i r) (vals_perm r gp)
theorem rpl_getD {K : PySem.W.Frag} {H : Hp} : ∀ {vs : List V} {ds : List Da} (i : Nat), RpL K H vs ds → Rp K H (vs.getD i .non) (ds.getD i .non)
  | _, _, _, .nil => .non
  | _, _, 0, .cons h _ => h
  | _, _, i + 1, .cons _ r => rpl_getD (vs := _) (ds := _) i r
theorem rpl_perm {K : PySem.W.Frag} {H : Hp} {vs : List V} {ds : List Da} (r : RpL K H vs ds) : ∀ gp : List Nat, RpL K H (gp.map fun i => vs.getD i .non) (gp.map fun i => ds.getD i .non)
  | [] => .nil
  | i :: gp => .cons (rpl_getD i r) (rpl_perm r gp)
section
variable {X : Cx} {k : Nat} {ps ks : List Str} {ss : Ss} {x : Str} {p pos : Pos} {e : Expr} {es : List Expr} {kws : List Keyword} {t tk : TA} {kb : List (List Str × List Nat)} {gp : List Nat}
theorem pe_cal (C : Cal X.prog X.w X.K X.mg X.base k x ps kb ss) (hgd : X.A.guards = some []) (hr : Room k X.A) (hg : Gl X x) (ha : PA X (e :: es) t) (hdb : (x == ("__debug__" : Str)) = false := by decide)
    (he : starEach (e :: es) X.env = (false, eval e X.env) :: starEach es X.env := by rfl) (hpl : (backTo pos (starEach es X.env)).any (·.1) = false := by rfl) : PE X (.Call (.Name x p) (e :: es) [] pos) (tCall (toSp X.K X.w ss) [] xk0 t) := by
  obtain ⟨f, fd, G, hm, hk, hb, _⟩ := C.ex
  exact pe_callG G hgd hr hg hm hk hb .nil pass0 ha hdb he hpl
theorem pe_calK (C : Cal X.prog X.w X.K X.mg X.base k x ps kb ss) (hq : (ks, gp) ∈ kb) (hgd : X.A.guards = some []) (hr : Room k X.A) (hg : Gl X x) (hkw : PK X kws tk) (hall : (backToKw pos (keywordEach kws X.env)).all (·.1.isSome) = true := by rfl)
    (hks : (backToKw pos (keywordEach kws X.env)).filterMap (·.1) = ks := by rfl) (hdb : (x == ("__debug__" : Str)) = false := by decide)
    (hpl : ((backTo pos (starEach [] X.env)).any (·.1) || (backToKw pos (keywordEach kws X.env)).any (·.1.isNone)) = false := by rfl) : PE X (.Call (.Name x p) [] kws pos) (tKw (toSp X.K X.w ss) ks.length gp tk) := by
  obtain ⟨f, fd, G, hm, hk, _, hb⟩ := C.ex
  refine ⟨fun pins s σ H Q I h => ?_⟩
  refine wpAny_Call_Name_kw (ld_glob I hg hm ?_ hdb)
  refine PySem.W.callWith_KW0 (h₀ := X.base) I.ok.mod.kin hk hall (thn (hkw.run pos pins s σ H _ I h) fun ws s2 ⟨zs, H2, I2, rz, hl, q2⟩ => ⟨I2.kIn, ?_⟩) hpl
  rw [hks]
  refine wpAny_call (codeAny_mono (G.run X.A X.stack s2 H2 ⟨[], ks.zip ws⟩ _ _ Q xk0 hgd hr I2.env0 (hb _ hq s2 ws I2.kIn (rz.length.symm.trans hl)) (vals_perm rz gp) q2) fun o s' hq => ?_)
  match o, hq with
  | .error e, hq => exact hq.elim
  | .ok (.ret u), hq => exact I2.after hq
  | .ok .next, hq => exact hq.elim
  | .ok .brk, hq => exact hq.elim
  | .ok .cont, hq => exact hq.elim
end
section
variable {F : Fx} {Γ : Gm} {Θ : Th} {R : Da → Th → Prop} {te : TE} {tk : TA} {ss : Ss}
theorem ev_cal {t : TA} (h : EvA F t Γ Θ fun ds Θ1 => ∃ Θa Θr, Spl Θ1 Θa Θr ∧ ss ds Θa fun d Θa' => R d (Θr ++ Θa')) : EvG F (tCall (toSp F.K F.w ss) [] xk0 t) Γ Θ R := by
  refine ev_call (dds := []) (fun H => .nil) ?_
  have e : (fun (ds : List Da) Θ1 => ∃ Θa Θr, Spl Θ1 Θa Θr ∧ ss (ds ++ []) Θa fun d Θa' => R d (Θr ++ Θa')) = fun ds Θ1 => ∃ Θa Θr, Spl Θ1 Θa Θr ∧ ss ds Θa fun d Θa' => R d (Θr ++ Θa') := by
    funext ds Θ1; rw [List.append_nil]
  rw [e]; exact h
theorem ev_kw {n : Nat} {gp : List Nat} (h : EvA F tk Γ Θ fun es Θ1 => es.length = n ∧ ∃ Θa Θr, Spl Θ1 Θa Θr ∧ ss (gp.map fun i => es.getD i .non) Θa fun d Θa' => R d (Θr ++ Θa')) : EvG F (tKw (toSp F.K F.w ss) n gp tk) Γ Θ R := fun σ H hS Q q =>
  h σ H hS _ fun zs H1 es Θ1 p1 s1 r1 k => by
    obtain ⟨hl, Θa, Θr, sp, k⟩ := k
    have sa := s1.spl sp
    exact ⟨by rw [r1.length]; exact hl, _, Θa, _, rpl_perm r1 gp, sa.ob, sa.nd, k, fun d Θ' v H' hR b => q v H' d _ (p1.trans b.pe) (s1.back sp b) b.rp hR⟩
/-- list(range(n)) -/
theorem ev_lrg (h : EvG F te Γ Θ fun d Θ1 => ∃ n : Int, d = .int n ∧ RgOk 0 n ∧ ∀ p, R (.ref p) (Θ1 ++ [(p, .lst ((List.range n.toNat).map fun i => .int (i : Nat)))])) : EvG F (tLstRg (tRg1 te)) Γ Θ R := fun σ H hS Q q => h σ H hS _ fun v H1 d Θ1 p1 s1 r1 k => by
  obtain ⟨n, rfl, ok, k⟩ := k
  cases r1
  refine ⟨n, rfl, ok, fun l hl => ?_⟩
  have rl : RpL F.K H1 (rgV 0 n) ((List.range n.toNat).map fun i => .int (i : Nat)) := by
    have e : rgV 0 n = ((List.range n.toNat).map fun i : Nat => (i : Int)).map V.int := by
      unfold rgV
      rw [Int.sub_zero, List.map_map]
      refine List.map_congr_left fun i _ => ?_
      show V.int (0 + (i : Int)) = V.int (i : Int)
      rw [Int.zero_add]
    have e2 : ((List.range n.toNat).map fun i => Da.int (i : Nat)) = ((List.range n.toNat).map fun i : Nat => (i : Int)).map Da.int := by rw [List.map_map]; rfl
    rw [e, e2]
    exact RpL.ofInts _
  exact q (.ref l) _ (.ref l) _ (p1.trans (.new hl)) (s1.newL hl rl) (.ref l) (k l)
theorem RpL.drop {K : PySem.W.Frag} {H : Hp} : ∀ {vs : List V} {ds : List Da} (n : Nat), RpL K H vs ds → RpL K H (vs.drop n) (ds.drop n)
  | _, _, 0, r => r
  | _, _, n + 1, .nil => .nil
  | _, _, n + 1, .cons _ r => RpL.drop n r
theorem RpL.take {K : PySem.W.Frag} {H : Hp} : ∀ {vs : List V} {ds : List Da} (n : Nat), RpL K H vs ds → RpL K H (vs.take n) (ds.take n)
  | _, _, 0, _ => .nil
  | _, _, n + 1, .nil => .nil
  | _, _, n + 1, .cons h r => .cons h (RpL.take n r)
/-! #### slices of lists -/
def cutD (xs : List Da) (lo hi : Option Int) : List Da := (xs.drop (HT.sIx xs.length 0 lo)).take (HT.sIx xs.length xs.length hi - HT.sIx xs.length 0 lo)
def EvO (F : Fx) (to : TO) (Γ : Gm) (Θ : Th) (R : Option Int → Th → Prop) : Prop :=
  ∀ σ H, St F σ H Γ Θ → ∀ Q : Option Int → Hp → Prop, (∀ o H' Θ', Per H H' → St F σ H' Γ Θ' → R o Θ' → Q o H') → to σ H Q
theorem eo_non {Ro : Option Int → Th → Prop} (k : Ro none Θ) : EvO F tNoPart Γ Θ Ro := fun σ H hS Q q => q none H Θ (.rfl' H) hS k
theorem eo_some {Ro : Option Int → Th → Prop} (h : EvG F te Γ Θ fun d Θ1 => ∃ i : Int, d = .int i ∧ Ro (some i) Θ1) : EvO F (tPart te) Γ Θ Ro := fun σ H hS Q q => h σ H hS _ fun v H1 d Θ1 p1 s1 r1 k => by
  obtain ⟨i, rfl, k⟩ := k
  cases r1
  exact ⟨i, rfl, q _ H1 Θ1 p1 s1 k⟩
theorem ev_slL {tl th : TO} (h : EvG F te Γ Θ fun d Θ1 => EvO F tl Γ Θ1 fun lo Θ2 => EvO F th Γ Θ2 fun hi Θ3 => ∃ a ds, d = .ref a ∧ (a, .lst ds) ∈ Θ3 ∧ ∀ p, R (.ref p) (Θ3 ++ [(p, .lst (cutD ds lo hi))])) : EvG F (tSl (rSlL F.K) te tl th) Γ Θ R := fun σ H hS Q q =>
  h σ H hS _ fun v H1 d Θ1 p1 s1 r1 h1 => h1 σ H1 s1 _ fun lo H2 Θ2 p2 s2 h2 => h2 σ H2 s2 _ fun hi H3 Θ3 p3 s3 h3 => by
    obtain ⟨a, ds, rfl, hm, k⟩ := h3
    cases r1
    obtain ⟨xs, e1, rl⟩ := s3.ob a _ hm
    refine ⟨a, xs, rfl, .inl (.inl e1), fun l hl => ?_⟩
    have rc : RpL F.K H3 (cutV xs lo hi) (cutD ds lo hi) := by
      unfold cutV cutD
      rw [rl.length]
      exact RpL.take _ (RpL.drop _ rl)
    exact q (.ref l) _ (.ref l) _ (((p1.trans p2).trans p3).trans (.new hl)) (s3.newL hl rc) (.ref l) (k l)
end
/-- y = {k: v for ..}: the comprehension's own row -/
theorem swd_true {k v : Expr} {gs : List Comprehension} {scope : Scope} {pos py : Pos} {y : Str} {l : Nat} {env : Env} (hk : env.scope.kind = .function) (hy : env.scope.names.lookup y = some .local) (hl : (py.line == pos.line) = true)
    (ha : (scope.names.any fun (n, k) => n == y && (k == .local || k == .cell)) = false) : swapsWith (.DictComp k v gs scope pos) (some (.Name y py)) l env = pure true := by
  have ky : env.kindOf y = some .local := hy
  have hb : env.blockKind = .function := by unfold Env.blockKind; rw [hk]; rfl
  unfold swapsWith
  simp only [hb, ky, ha, Expr.pos, hl]
  rfl
end Sy

end
section
/-! Sy, part L: the statements' rules with the ends written out (terms stay small), forgetting, the promise of a def. -/
namespace Sy
open PySem PySem.Spec PyProof.Rows L2
section
variable {F : Fx} {Γ : Gm} {Θ Θr : Th} {t u : TS} {te ta tb : TE} {tt : TT} {d : Da} {i j : Nat} {g : TG} {wi : TI} {a : Addr} {kvs : Kvs}
  {nx : Gm → Th → Prop} {rt : Da → Th → Prop} {bk ct : Gm → Th → Prop}
theorem x_seq (h : Rn F t Γ Θ ⟨fun Γ' Θ' => Rn F u Γ' Θ' ⟨nx, rt, bk, ct⟩, rt, bk, ct⟩) : Rn F (tSeq t u) Γ Θ ⟨nx, rt, bk, ct⟩ := rn_seq h
theorem x_next (k : nx Γ Θ) : Rn F tNext Γ Θ ⟨nx, rt, bk, ct⟩ := rn_next k
theorem x_brk (k : bk Γ Θ) : Rn F tBreak Γ Θ ⟨nx, rt, bk, ct⟩ := rn_brk k
theorem x_cnt (k : ct Γ Θ) : Rn F tCont Γ Θ ⟨nx, rt, bk, ct⟩ := rn_cnt k
theorem x_asg (h : EvG F te Γ Θ fun d Θ1 => Tg F g d Γ Θ1 nx) : Rn F (tAsg te g) Γ Θ ⟨nx, rt, bk, ct⟩ := rn_asg h
theorem x_drop (h : EvG F te Γ Θ fun _ Θ1 => nx Γ Θ1) : Rn F (tDrop te) Γ Θ ⟨nx, rt, bk, ct⟩ := rn_drop h
theorem x_ret (h : EvG F te Γ Θ rt) : Rn F (tRet te) Γ Θ ⟨nx, rt, bk, ct⟩ := rn_ret h
theorem x_retN (k : rt .non Θ) : Rn F tRetN Γ Θ ⟨nx, rt, bk, ct⟩ := rn_retN k
theorem x_if (h : EvT F tt Γ Θ fun b Θ1 => (b = true → Rn F t Γ Θ1 ⟨nx, rt, bk, ct⟩) ∧ (b = false → Rn F u Γ Θ1 ⟨nx, rt, bk, ct⟩)) : Rn F (tIfS tt t u) Γ Θ ⟨nx, rt, bk, ct⟩ := rn_if h
theorem x_par {t : TA} (h : EvA F t Γ Θ fun ds Θ1 => ∃ d e, ds = [d, e] ∧ i < Γ.length ∧ j < Γ.length ∧ nx ((Γ.set i (some d)).set j (some e)) Θ1) : Rn F (tPar i j t) Γ Θ ⟨nx, rt, bk, ct⟩ := rn_par h
theorem x_while (W : Nat → Gm → Th → Prop) (m0 : Nat) (h0 : W m0 Γ Θ) (hs : ∀ m Γ1 Θ1, W m Γ1 Θ1 → EvT F tt Γ1 Θ1 fun b Θ2 => (b = true → Rn F t Γ1 Θ2 ⟨Fgt fun Γ' Θ' => ∃ m', m' < m ∧ W m' Γ' Θ', rt, nx, Fgt fun Γ' Θ' => ∃ m', m' < m ∧ W m' Γ' Θ'⟩) ∧ (b = false → nx Γ1 Θ2)) :
    Rn F (tWhile tt t) Γ Θ ⟨nx, rt, bk, ct⟩ := rn_while W m0 h0 hs
theorem x_for (h : EvI F wi Γ Θ fun n item Keep Θ1 => ∃ Pv : Nat → Gm → Th → Prop, Pv 0 Γ Θ1 ∧ (∀ i Γ' Θ', i ≤ n → Pv i Γ' Θ' → Keep Θ') ∧
    (∀ i Γ' Θ', i < n → Pv i Γ' Θ' → Tg F g (item i) Γ' Θ' fun Γ2 Θ2 => Rn F t Γ2 Θ2 ⟨Fgt (Pv (i + 1)), rt, nx, Fgt (Pv (i + 1))⟩) ∧ (∀ Γ' Θ', Pv n Γ' Θ' → nx Γ' Θ')) : Rn F (tFor wi g t) Γ Θ ⟨nx, rt, bk, ct⟩ := rn_for h
theorem x_lock (hT : Take Θ a (.dic kvs) Θr) (h : ∀ H0 S, Lk ⟨F.K, F.w, H0, S⟩ a kvs → Rn ⟨F.K, F.w, H0, S⟩ t Γ Θr ⟨fun Γ' Θ' => nx Γ' (Θ' ++ [(a, .dic kvs)]), fun d Θ' => rt d (Θ' ++ [(a, .dic kvs)]), fun Γ' Θ' => bk Γ' (Θ' ++ [(a, .dic kvs)]), fun Γ' Θ' => ct Γ' (Θ' ++ [(a, .dic kvs)])⟩) :
    Rn F (tLock t) Γ Θ ⟨nx, rt, bk, ct⟩ := rn_lock hT h
theorem x_never {E : SE} (h : False) : Rn F t Γ Θ E := h.elim
theorem Take.all : ∀ {Θ : Th} {q : Addr × Mo}, Take (q :: Θ) q.1 q.2 Θ := .here
theorem Spl.all : ∀ Θ : Th, Spl Θ Θ []
  | [] => .nil
  | q :: Θ => .cons .here (Spl.all Θ)
theorem ft_all {α : Type} {P : α → Th → Prop} {x : α} (h : P x Θ) : FgtT P x Θ := ⟨Θ, [], .all Θ, h⟩
theorem fg_all {P : Gm → Th → Prop} (h : P Γ Θ) : Fgt P Γ Θ := ⟨Γ, Θ, [], .refl Γ, .all Θ, h⟩
end
section
variable {P : Program} {w : World} {K : PySem.W.Frag} {mg : Str → Option Value} {base : Heap}
theorem sy_okX {x qual : Str} {st : Stmt} {f : Addr} {fd : FuncData} {N ps : List Str} {k : Nat} {ss : Ss} {ts : TS} (F : Fun K x qual st f fd) (S : FnScope N ps (defScope st)) (ln : ∀ ds Θ R, ss ds Θ R → ds.length = ps.length) (hN : ps.length ≤ N.length)
    (body : ∀ (cdv : Value) (A : Around) (outer : List Env) (s : Shared) (H : Hp) (E : XK), A.guards = some [] → Room k (A.deeper (envOfC qual (defScope st) s.heap.objs.size f cdv)) → PSs (cxOf CX0 P w K mg base N qual (defScope st) f cdv A outer s H E).nox (defBody st) ts)
    (sy : ∀ (H : Hp) ds Θ R, ss ds Θ R → Rn ⟨K, w, H, Θ.map (·.1)⟩ ts (ds.map some ++ List.replicate (N.length - ds.length) none) Θ ⟨fun _ Θ => FgtT R .non Θ, FgtT R, fun _ _ => False, fun _ _ => False⟩) : GnOk P w K mg base CX0 (k + 1) f fd ps (toSp K w ss) := sy_okG F S ln hN body sy
/-- a def with defaults -/
theorem sy_okY {x qual : Str} {params : Arguments} {bd : List Stmt} {scope : Scope} {dvs : List V} {kws : List (Str × V)} {f : Addr} {fd : FuncData} {N ps : List Str} {k : Nat} {ss : Ss} {ts : TS} (F : FunD K x qual params bd scope dvs kws f fd) (S : FnScope N ps scope) (ln : ∀ ds Θ R, ss ds Θ R → ds.length = ps.length) (hN : ps.length ≤ N.length)
    (body : ∀ (cdv : Value) (A : Around) (outer : List Env) (s : Shared) (H : Hp) (E : XK), A.guards = some [] → Room k (A.deeper (envOfC qual scope s.heap.objs.size f cdv)) → PSs (cxOf CX0 P w K mg base N qual scope f cdv A outer s H E).nox bd ts)
    (sy : ∀ (H : Hp) ds Θ R, ss ds Θ R → Rn ⟨K, w, H, Θ.map (·.1)⟩ ts (ds.map some ++ List.replicate (N.length - ds.length) none) Θ ⟨fun _ Θ => FgtT R .non Θ, FgtT R, fun _ _ => False, fun _ _ => False⟩) : GnOk P w K mg base CX0 (k + 1) f fd ps (toSp K w ss) := by
  obtain ⟨oc, od, dV, kV, doc, pm, an, cdv, ct, osl, rfl, lk, hcd, _, _⟩ := F.ex
  exact gn_of lk hcd S (len_of ln) fun A outer s H vs Q E hg hr h => ⟨ts, (body cdv A outer s H E hg hr).nox, rd_of h (by rw [len_of ln vs H Q E h]; exact hN) fun ds Θ R => sy H ds Θ R⟩
end
end Sy

end
section
/-! Sy, part M: comprehensions whose turns change nothing else. -/
namespace Sy
open PySem PySem.Spec PyProof.Rows L2
theorem Put.last {p : Addr} {o o' : Mo} : ∀ Θ : Th, Put (Θ ++ [(p, o)]) p o o' (Θ ++ [(p, o')])
  | [] => .here
  | _ :: Θ => .there (Put.last Θ)
theorem mem_last {p : Addr} {o : Mo} {Θ : Th} : (p, o) ∈ Θ ++ [(p, o)] := List.mem_append_right _ (List.mem_singleton.mpr rfl)
section
variable {F : Fx} {Γ : Gm} {Θ : Th} {R : Da → Th → Prop} {te : TE} {wi wi1 : TI} {g g1 : TG} {vs vs1 : List Nat}
theorem et_yes {R' : Bool → Th → Prop} (k : R' true Θ) : EvT F tYes Γ Θ R' := fun σ H hS Q q => q true H Θ (.rfl' H) hS k
theorem lc_pure (hg : Into vs g) (h : EvI F wi Γ Θ fun n item Keep Θ1 => n ≤ sizeLine ∧ ∃ f : Nat → Da, (∀ p acc, Keep (Θ1 ++ [(p, .lst acc)])) ∧
    (∀ p acc i, i < n → Tg F g (item i) (wipeG Γ vs) (Θ1 ++ [(p, .lst acc)]) fun Γ2 Θ2 => EvG F te Γ2 Θ2 fun y Θ3 => y = f i ∧ Θ3 = Θ1 ++ [(p, .lst acc)]) ∧ ∀ p, R (.ref p) (Θ1 ++ [(p, .lst ((List.range n).map f))])) : EvG F (tLc wi g tYes te vs) Γ Θ R := by
  refine ev_lc hg fun σ H hS Rr q => h σ H hS _ fun J H1 Θ1 n item Keep p1 s1 W k => q J H1 Θ1 n item Keep p1 s1 W ?_
  obtain ⟨hn, f, hk, ht, hr⟩ := k
  intro p
  refine ⟨fun i acc Θ' => acc = (List.range i).map f ∧ Θ' = Θ1 ++ [(p, .lst acc)], ⟨rfl, rfl⟩, ?_, ?_, ?_⟩
  · rintro i acc Θ' hi ⟨rfl, rfl⟩
    exact hk _ _
  · rintro i acc Θ' hi ⟨rfl, rfl⟩
    refine fun σ H v hS r Q qq => ht p _ i hi σ H v hS r Q fun σ' H' Γ' Θ' p' s' k' => qq σ' H' Γ' Θ' p' s' (et_yes ⟨fun _ => k'.mono ?_, fun z => nomatch z⟩)
    rintro y Θ3 ⟨rfl, rfl⟩
    exact ⟨_, .last _, by rw [List.length_map, List.length_range]; omega, ft_all ⟨by rw [List.range_succ, List.map_append]; rfl, rfl⟩⟩
  · rintro acc Θ' ⟨rfl, rfl⟩
    exact hr p
end
end Sy

end
section
/-! Sy, part N: loops and comprehensions over tuples, lists, ranges, item by item. -/
namespace Sy
open PySem PySem.Spec PyProof.Rows L2
theorem getD_of {ds : List Da} {i : Nat} {d : Da} (h : ds[i]? = some d) : ds.getD i .non = d := by rw [List.getD_eq_getElem?_getD, h]; rfl
theorem map_getD (f : Da → Da) (ds : List Da) : (List.range ds.length).map (fun i => f (ds.getD i .non)) = ds.map f := by
  refine List.ext_getElem (by simp) fun i h1 h2 => ?_
  have hi : i < ds.length := by simpa using h2
  rw [List.getElem_map, List.getElem_map, List.getElem_range, getD_of (List.getElem?_eq_getElem hi)]
theorem Spl.pre : ∀ Θ Θx : Th, Spl (Θ ++ Θx) Θ Θx
  | [], _ => .nil
  | _ :: Θ, Θx => .cons .here (Spl.pre Θ Θx)
theorem ft_pre {α : Type} {P : α → Th → Prop} {x : α} {Θ Θx : Th} (h : P x Θ) : FgtT P x (Θ ++ Θx) := ⟨Θ, Θx, .pre Θ Θx, h⟩
theorem fg_pre {P : Gm → Th → Prop} {Γ : Gm} {Θ Θx : Th} (h : P Γ Θ) : Fgt P Γ (Θ ++ Θx) := ⟨Γ, Θ, Θx, .refl Γ, .pre Θ Θx, h⟩
section
variable {F : Fx} {Γ : Gm} {Θ : Th} {t : TS} {te tx : TE} {ta : TA} {g : TG} {vs : List Nat} {R : Da → Th → Prop}
  {nx : Gm → Th → Prop} {rt : Da → Th → Prop} {bk ct : Gm → Th → Prop}
/-- for x in (a tuple) -/
theorem x_forT (Pv : Nat → Gm → Th → Prop) (h : EvG F te Γ Θ fun d Θ1 => ∃ ds, d = .tup ds ∧ Pv 0 Γ Θ1 ∧ (∀ i Γ' Θ' d, i < ds.length → ds[i]? = some d → Pv i Γ' Θ' → Tg F g d Γ' Θ' fun Γ2 Θ2 => Rn F t Γ2 Θ2 ⟨Fgt (Pv (i + 1)), rt, nx, Fgt (Pv (i + 1))⟩) ∧ ∀ Γ' Θ', Pv ds.length Γ' Θ' → nx Γ' Θ') :
    Rn F (tFor (iTup F.K te) g t) Γ Θ ⟨nx, rt, bk, ct⟩ := by
  refine x_for (ei_tup (h.mono ?_))
  rintro d Θ1 ⟨ds, rfl, h0, hs, hd⟩
  refine ⟨ds, rfl, Pv, h0, fun _ _ _ _ _ => trivial, fun i Γ' Θ' hi v => ?_, hd⟩
  have e := List.getElem?_eq_getElem hi
  show Tg F g (ds.getD i .non) _ _ _
  rw [getD_of e]
  exact hs i Γ' Θ' _ hi e v
/-- for x in (a list nobody writes in the loop) -/
theorem x_forL (Pv : Nat → Gm → Th → Prop) (h : EvG F te Γ Θ fun d Θ1 => ∃ a ds, d = .ref a ∧ (a, .lst ds) ∈ Θ1 ∧ Pv 0 Γ Θ1 ∧ (∀ i Γ' Θ', Pv i Γ' Θ' → (a, .lst ds) ∈ Θ') ∧ (∀ i Γ' Θ' d, i < ds.length → ds[i]? = some d → Pv i Γ' Θ' → Tg F g d Γ' Θ' fun Γ2 Θ2 => Rn F t Γ2 Θ2 ⟨Fgt (Pv (i + 1)), rt, nx, Fgt (Pv (i + 1))⟩) ∧ ∀ Γ' Θ', Pv ds.length Γ' Θ' → nx Γ' Θ') :
    Rn F (tFor (iList F.K te) g t) Γ Θ ⟨nx, rt, bk, ct⟩ := by
  refine x_for (ei_list (h.mono ?_))
  rintro d Θ1 ⟨a, ds, rfl, hm, h0, hk, hs, hd⟩
  refine ⟨a, ds, rfl, hm, Pv, h0, fun i Γ' Θ' _ v => hk i Γ' Θ' v, fun i Γ' Θ' hi v => ?_, hd⟩
  have e := List.getElem?_eq_getElem hi
  show Tg F g (ds.getD i .non) _ _ _
  rw [getD_of e]
  exact hs i Γ' Θ' _ hi e v
/-- for x in range(n) -/
theorem x_forR (Pv : Nat → Gm → Th → Prop) (h : EvA F ta Γ Θ fun ds Θ1 => ∃ n : Nat, ds = [.int n] ∧ n ≤ 100000 ∧ Pv 0 Γ Θ1 ∧ (∀ i Γ' Θ', i < n → Pv i Γ' Θ' → Tg F g (.int (i : Nat)) Γ' Θ' fun Γ2 Θ2 => Rn F t Γ2 Θ2 ⟨Fgt (Pv (i + 1)), rt, nx, Fgt (Pv (i + 1))⟩) ∧ ∀ Γ' Θ', Pv n Γ' Θ' → nx Γ' Θ') :
    Rn F (tFor (iRng1 ta) g t) Γ Θ ⟨nx, rt, bk, ct⟩ := by
  refine x_for (ei_rng1 fun σ H hS Q q => h σ H hS Q fun vs H1 ds Θ1 p s r k => q vs H1 ds Θ1 p s r ?_)
  obtain ⟨n, rfl, hn, h0, hs, hd⟩ := k
  refine ⟨n, rfl, by omega, by omega, Pv, h0, fun _ _ _ _ _ => trivial, fun i Γ' Θ' hi v => ?_, hd⟩
  show Tg F g (.int (0 + (i : Int))) _ _ _
  rw [Int.zero_add]
  exact hs i Γ' Θ' (by rw [Int.toNat_natCast] at hi; exact hi) v
/-- [e for x in (a tuple)], nothing else changes -/
theorem lc_T (f : Da → Da) (hg : Into vs g) (h : EvG F te Γ Θ fun d Θ1 => ∃ ds, d = .tup ds ∧ ds.length ≤ sizeLine ∧
    (∀ p acc d, d ∈ ds → Tg F g d (wipeG Γ vs) (Θ1 ++ [(p, .lst acc)]) fun Γ2 Θ2 => EvG F tx Γ2 Θ2 fun y Θ3 => y = f d ∧ Θ3 = Θ1 ++ [(p, .lst acc)]) ∧ ∀ p, R (.ref p) (Θ1 ++ [(p, .lst (ds.map f))])) : EvG F (tLc (iTup F.K te) g tYes tx vs) Γ Θ R := by
  refine lc_pure hg (ei_tup (h.mono ?_))
  rintro d Θ1 ⟨ds, rfl, hl, ht, hr⟩
  refine ⟨ds, rfl, hl, fun i => f (ds.getD i .non), fun _ _ => trivial, fun p acc i hi => ht p acc _ ?_, fun p => ?_⟩
  · show ds.getD i .non ∈ ds
    rw [getD_of (List.getElem?_eq_getElem hi)]
    exact List.getElem_mem hi
  · have e := map_getD f ds
    rw [e]
    exact hr p
/-- [e for x in (a list)], nothing else changes -/
theorem lc_L (f : Da → Da) (hg : Into vs g) (h : EvG F te Γ Θ fun d Θ1 => ∃ a ds, d = .ref a ∧ (a, .lst ds) ∈ Θ1 ∧ ds.length ≤ sizeLine ∧
    (∀ p acc d, d ∈ ds → Tg F g d (wipeG Γ vs) (Θ1 ++ [(p, .lst acc)]) fun Γ2 Θ2 => EvG F tx Γ2 Θ2 fun y Θ3 => y = f d ∧ Θ3 = Θ1 ++ [(p, .lst acc)]) ∧ ∀ p, R (.ref p) (Θ1 ++ [(p, .lst (ds.map f))])) : EvG F (tLc (iList F.K te) g tYes tx vs) Γ Θ R := by
  refine lc_pure hg (ei_list (h.mono ?_))
  rintro d Θ1 ⟨a, ds, rfl, hm, hl, ht, hr⟩
  refine ⟨a, ds, rfl, hm, hl, fun i => f (ds.getD i .non), fun _ _ => List.mem_append_left _ hm, fun p acc i hi => ht p acc _ ?_, fun p => ?_⟩
  · show ds.getD i .non ∈ ds
    rw [getD_of (List.getElem?_eq_getElem hi)]
    exact List.getElem_mem hi
  · have e := map_getD f ds
    rw [e]
    exact hr p
/-- [e for x in range(n)], nothing else changes -/
theorem lc_R (f : Nat → Da) (hg : Into vs g) (h : EvA F ta Γ Θ fun ds Θ1 => ∃ n : Nat, ds = [.int n] ∧ n ≤ 100000 ∧
    (∀ p acc i, i < n → Tg F g (.int (i : Nat)) (wipeG Γ vs) (Θ1 ++ [(p, .lst acc)]) fun Γ2 Θ2 => EvG F tx Γ2 Θ2 fun y Θ3 => y = f i ∧ Θ3 = Θ1 ++ [(p, .lst acc)]) ∧ ∀ p, R (.ref p) (Θ1 ++ [(p, .lst ((List.range n).map f))])) : EvG F (tLc (iRng1 ta) g tYes tx vs) Γ Θ R := by
  refine lc_pure hg (ei_rng1 fun σ H hS Q q => h σ H hS Q fun us H1 ds Θ1 p s r k => q us H1 ds Θ1 p s r ?_)
  obtain ⟨n, rfl, hn, ht, hr⟩ := k
  refine ⟨n, rfl, by omega, by omega, by rw [Int.toNat_natCast]; exact Nat.le_trans hn (by decide), f, fun _ _ => trivial, fun p acc i hi => ?_, fun p => ?_⟩
  · show Tg F g (.int (0 + (i : Int))) _ _ _
    rw [Int.zero_add]
    exact ht p acc i (by rw [Int.toNat_natCast] at hi; exact hi)
  · rw [Int.toNat_natCast]
    exact hr p
end
end Sy

end
section
/-! Sy, part O: objects taken out of a state and put in another order. -/
namespace Sy
open PySem PySem.Spec PyProof.Rows L2
theorem Take.of_mem : ∀ {Θ : Th} {q : Addr × Mo}, q ∈ Θ → ∃ Θ1, Take Θ q.1 q.2 Θ1
  | p :: Θ, q, h => by
    rcases List.mem_cons.mp h with e | h
    · subst e; exact ⟨Θ, .here⟩
    · obtain ⟨Θ1, t⟩ := Take.of_mem h
      exact ⟨p :: Θ1, .there t⟩
theorem Spl.ofPerm : ∀ {Θ' Θ Θr : Th}, Θ.Perm (Θ' ++ Θr) → ∃ Θs, Spl Θ Θ' Θs
  | [], Θ, _, _ => ⟨Θ, .nil⟩
  | q :: Θ', Θ, Θr, h => by
    obtain ⟨Θ1, t⟩ := Take.of_mem (h.symm.subset (List.mem_append_left _ (List.mem_cons_self (a := q))))
    have h1 : ((q.1, q.2) :: Θ1).Perm (q :: (Θ' ++ Θr)) := t.perm.symm.trans h
    obtain ⟨Θs, s⟩ := Spl.ofPerm (h1.cons_inv)
    exact ⟨Θs, .cons t s⟩
section
variable {F : Fx} {Γ : Gm} {Θ Θ' Θr : Th} {t : TS} {E : SE}
theorem rn_keep (h : Θ.Perm (Θ' ++ Θr)) (k : Rn F t Γ Θ' E) : Rn F t Γ Θ E := fun σ H D hS hD => by
  obtain ⟨_, s⟩ := Spl.ofPerm h
  exact k σ H D (hS.spl s) hD
theorem fg_perm {P : Gm → Th → Prop} (h : Θ.Perm (Θ' ++ Θr)) (k : P Γ Θ') : Fgt P Γ Θ := by
  obtain ⟨Θs, s⟩ := Spl.ofPerm h
  exact ⟨Γ, Θ', Θs, .refl Γ, s, k⟩
theorem ft_perm {α : Type} {P : α → Th → Prop} {x : α} (h : Θ.Perm (Θ' ++ Θr)) (k : P x Θ') : FgtT P x Θ := by
  obtain ⟨Θs, s⟩ := Spl.ofPerm h
  exact ⟨Θ', Θs, s, k⟩
end
/-! ### a row of objects -/
def mos (ps : List Addr) (os : List Mo) : Th := ps.zip os
theorem mos_put : ∀ {ps : List Addr} {os : List Mo} {i : Nat} {p : Addr} {o o' : Mo}, ps[i]? = some p → os[i]? = some o → Put (mos ps os) p o o' (mos ps (os.set i o'))
  | _ :: _, _ :: _, 0, _, _, _, h1, h2 => by cases h1; cases h2; exact .here
  | q :: ps, x :: os, i + 1, _, _, _, h1, h2 => .there (mos_put (ps := ps) (os := os) (i := i) h1 h2)
  | [], _, _, _, _, _, h1, _ => by simp at h1
  | _ :: _, [], _, _, _, _, _, h2 => by simp at h2
theorem mos_take : ∀ {ps : List Addr} {os : List Mo} {i : Nat} {p : Addr} {o : Mo}, ps[i]? = some p → os[i]? = some o → Take (mos ps os) p o (mos (ps.eraseIdx i) (os.eraseIdx i))
  | _ :: _, _ :: _, 0, _, _, h1, h2 => by cases h1; cases h2; exact .here
  | q :: ps, x :: os, i + 1, _, _, h1, h2 => .there (mos_take (ps := ps) (os := os) (i := i) h1 h2)
  | [], _, _, _, _, h1, _ => by simp at h1
  | _ :: _, [], _, _, _, _, h2 => by simp at h2
theorem mos_mem {ps : List Addr} {os : List Mo} {i : Nat} {p : Addr} {o : Mo} (h1 : ps[i]? = some p) (h2 : os[i]? = some o) : (p, o) ∈ mos ps os := (mos_put (o' := o) h1 h2).mem
theorem mos_app {ps : List Addr} {os : List Mo} (h : ps.length = os.length) (p : Addr) (o : Mo) : mos (ps ++ [p]) (os ++ [o]) = mos ps os ++ [(p, o)] := List.zip_append h
end Sy

end
section
/-! Sy, part P: zip over two sequences, each a list or a tuple, of one length. -/
namespace Sy
open PySem PySem.Spec PyProof.Rows L2
/-- a list (false) or a tuple (true) -/
def SqK (c : Bool) (K : PySem.W.Frag) (H : Hp) (a : Addr) (xs : List V) : Prop := if c then SqT K H a xs else SqL K H a xs
def IsK (c : Bool) (h : Heap) (a : Addr) (its : Array Value) : Prop := if c then h.IsTuple a its else h.IsList a its
def ItK (c : Bool) (h : Heap) (it a : Addr) (i : Nat) : Prop := if c then h.IsTupleIter it a i else h.IsListIter it a i
section
variable {X : Cx} {pins : List (Addr × Obj)} {σ : L2.St} {H : Hp} {s : Shared} {a it : Addr} {xs ys : List V} {c : Bool} {i : Nat} {h h' : Heap}
theorem seqK_at (I : Inv X pins σ H s) (q : SqK c X.K H a xs) : ∃ its : List Value, Vals xs its ∧ IsK c s.heap a its.toArray := by
  cases c with
  | true => obtain ⟨its, r, p, _⟩ := I.tuple q; exact ⟨its, r, p⟩
  | false => obtain ⟨its, r, p, _⟩ := I.list q; exact ⟨its, r, p.isList⟩
theorem seqK_inj (I : Inv X pins σ H s) (q : SqK c X.K H a xs) (q2 : SqK c X.K H a ys) : xs = ys := by
  cases c with
  | true => exact I.tuple_inj q q2
  | false => exact I.list_inj q q2
theorem itK_live (q : ItK c h it a i) : ∃ o, h.get? it = some o ∧ (∀ v, o.data ≠ .cell v) := by
  cases c with
  | true => obtain ⟨o, ho, _, hd⟩ := q; exact ⟨o, ho, fun v z => by rw [hd] at z; cases z⟩
  | false => obtain ⟨o, ho, _, hd⟩ := q; exact ⟨o, ho, fun v z => by rw [hd] at z; cases z⟩
theorem itK_at (q : ItK c h it a i) (k : ∀ o, h.get? it = some o → h'.get? it = some o) : ItK c h' it a i := by
  cases c with
  | true => exact Heap.IsTupleIter.at q fun o e => k o e
  | false => exact Heap.IsListIter.at q fun o e => k o e
theorem itK_ne {its : Array Value} (q : ItK c h it a i) (p : IsK c h a its) : a ≠ it := fun z => by
  subst z
  cases c with
  | true =>
    obtain ⟨o, ho, hcl, _⟩ := p
    obtain ⟨o2, ho2, hc2, _⟩ := q
    rw [ho2] at ho; cases ho
    rw [hc2] at hcl; exact absurd hcl (by decide)
  | false =>
    obtain ⟨o, ho, hcl, _⟩ := p
    obtain ⟨o2, ho2, hc2, _⟩ := q
    rw [ho2] at ho; cases ho
    rw [hc2] at hcl; exact absurd hcl (by decide)
theorem drawsK {prog : Program} {w : World} {A : Around} (hh : A.handled = none) (c : Bool) (it a : Addr) (hne : a ≠ it) (its : Array Value) :
    Draws prog w A it [it, a] its.size (fun i v => its[i]? = some v) (fun i h => ItK c h it a i ∧ IsK c h a its) := by
  cases c with
  | true => exact Draws.tuple hh it a hne its
  | false => exact Draws.list hh it a hne its
theorem beginsK (c : Bool) (a : Addr) (its : Array Value) : ∃ o : Obj, Begins (.ref a) o (fun h => IsK c h a its) ∧ ∀ h it, h.get? it = some o → ItK c h it a 0 := by
  cases c with
  | true => exact ⟨_, begins_tuple a its, fun h it e => ⟨_, e, rfl, rfl⟩⟩
  | false => exact ⟨_, begins_list a its, fun h it e => ⟨_, e, rfl, rfl⟩⟩
theorem isK_cls {its : Array Value} (p : IsK c h a its) : ∃ o, h.get? a = some o ∧ (o.cls = .type "tuple" ∨ o.cls = .type "list") := by
  cases c with
  | true => obtain ⟨o, ho, hc, _⟩ := p; exact ⟨o, ho, .inl hc⟩
  | false => obtain ⟨o, ho, hc, _⟩ := p; exact ⟨o, ho, .inr hc⟩
end
def It2 (K : PySem.W.Frag) (c d : Bool) (a b : Addr) : It :=
  ⟨fun i H => ∃ (xs ys : List V) (x y : V), SqK c K H a xs ∧ SqK d K H b ys ∧ xs[i]? = some x ∧ ys[i]? = some y,
    fun i H v H' => ∃ T x y, v = .ref T ∧ H T = none ∧ H' = upd H T (.tup [x, y]) ∧ (∀ xs, SqK c K H a xs → xs[i]? = some x) ∧ ∀ ys, SqK d K H b ys → ys[i]? = some y,
    fun i H => ∃ xs ys : List V, SqK c K H a xs ∧ SqK d K H b ys ∧ xs.length = i ∧ ys.length = i⟩
structure Apart2 (z TI TO i1 i2 a b : Addr) : Prop where
  s : ZipSep2 z TI TO i1 i2 [i1, a] [i2, b]
theorem turn_zip2 {P : Program} {w : World} {K : PySem.W.Frag} {elts : List Expr} {kk : Nat} {tpos : Pos} {c d : Bool} {a b z TI TO i1 i2 : Addr} (D : ZipSep2 z TI TO i1 i2 [i1, a] [i2, b]) :
    Turn P w K (.Tuple elts kk tpos) (It2 K c d a b) [z, TI, TO, i1, i2] z (fun i h => IsZip h z TI TO .none ∧ IsPair h TI (.ref i1) (.ref i2) ∧ (∃ x y, IsPair h TO x y) ∧ ItK c h i1 a i ∧ ItK d h i2 b i) where
  mem := List.mem_cons_self
  obj := fun i h st q hq => by
    obtain ⟨hz, hTI, ⟨x, y, hTO⟩, h1, h2⟩ := st
    have e' : q = z ∨ q = TI ∨ q = TO ∨ q = i1 ∨ q = i2 := by simpa using hq
    rcases e' with e | e | e | e | e
    · rw [e]; exact ⟨_, hz, fun v q => nomatch q⟩
    · rw [e]; exact ⟨_, hTI, fun v q => nomatch q⟩
    · rw [e]; exact ⟨_, hTO, fun v q => nomatch q⟩
    · rw [e]; exact itK_live h1
    · rw [e]; exact itK_live h2
  keep := fun i h h' st k => by
    obtain ⟨hz, hTI, ⟨x, y, hTO⟩, h1, h2⟩ := st
    exact ⟨k z (by simp) _ hz, k TI (by simp) _ hTI, ⟨x, y, k TO (by simp) _ hTO⟩, itK_at h1 fun o q => k i1 (by simp) o q, itK_at h2 fun o q => k i2 (by simp) o q⟩
  item := by
    intro X hP hw hK hc i pins s σ H E I hf st hg
    subst hP hw hK
    obtain ⟨hz, hTI, ⟨x0, y0, hTO⟩, h1, h2⟩ := st
    obtain ⟨xs, ys, x, y, hqx, hqy, hx, hy⟩ := hg
    obtain ⟨its, rv, p⟩ := seqK_at I hqx
    obtain ⟨its2, rv2, p2⟩ := seqK_at I hqy
    obtain ⟨u, hu, ru⟩ := rv.get hx
    obtain ⟨u2, hu2, ru2⟩ := rv2.get hy
    have D1 := drawsK (prog := X.prog) (w := X.w) (A := X.A.in1) (I.ok.hd hc) c i1 a (itK_ne h1 p) its.toArray
    have D2 := drawsK (prog := X.prog) (w := X.w) (A := X.A.in1) (I.ok.hd hc) d i2 b (itK_ne h2 p2) its2.toArray
    have l1 : i < its.toArray.size := by rw [List.size_toArray]; exact (List.getElem?_eq_some_iff.mp hu).1
    have l2 : i < its2.toArray.size := by rw [List.size_toArray]; exact (List.getElem?_eq_some_iff.mp hu2).1
    have hzl : z < s.heap.objs.size := Heap.lt_size hz
    refine wpAny_pyNext_zipD2_item D D1 D2 hz hTI hTO ⟨h1, p⟩ ⟨h2, p2⟩ l1 l2 fun v1 v2 h' tk e1 e2 hz' hTO' st1 st2 hT hsz hk => ?_
    have e1 : v1 = u := by
      have q : its.toArray[i]? = some u := by simpa using hu
      rw [q] at e1; exact (Option.some.inj e1).symm
    have e2 : v2 = u2 := by
      have q : its2.toArray[i]? = some u2 := by simpa using hu2
      rw [q] at e2; exact (Option.some.inj e2).symm
    subst e1; subst e2
    refine ⟨_, rfl, wpAny_letOwnedTupleGo_zip (s := { s with heap := h', toks := tk }) hz' fun h'' z'' sb => ?_⟩
    have hT2 : h''.get? s.heap.objs.size = some { cls := .type "tuple", data := .seq #[v1, v2] } := (sb.2 _ (Nat.ne_of_gt hzl)).trans hT
    have new : ObjOk X.prog X.w (upd H s.heap.objs.size (.tup [x, y])) h'' s.heap.objs.size (.tup [x, y]) :=
      ⟨by show 2 ≤ sizeLine; decide, [v1, v2], .cons ru (.cons ru2 .nil), ⟨_, hT2, rfl, _, rfl⟩⟩
    have I1 : Inv X pins σ (upd H s.heap.objs.size (.tup [x, y])) { s with heap := h'', toks := tk } :=
      I.turnedNew (t' := tk) (ch := [z, TI, TO, i1, i2]) (fun q o hb e => (sb.2 q (fun q' => hb (by simp [q']))).trans (hk q o (fun q' => hb (by simp [q'])) (fun q' => hb (by simp [q'])) (fun q' => hb (by simp [q'])) (fun q' => hb (by simp [q'])) e)) hf (Nat.le_refl _) new
    refine ⟨.ref s.heap.objs.size, _, I1, rfl, ⟨_, x, y, rfl, I.hok.fresh (Nat.le_refl _), rfl, fun l hl => by rw [seqK_inj I hl hqx]; exact hx, fun l hl => by rw [seqK_inj I hl hqy]; exact hy⟩, ⟨z'', ?_, ⟨v1, v2, ?_⟩, ?_, ?_⟩, fun q hcm => ?_⟩
    · exact (sb.2 _ D.TIz).trans (hk _ _ D.TIz D.TITO D.TIi1 D.TIi2 hTI)
    · exact (sb.2 _ D.TOz).trans hTO'
    · exact itK_at st1.1 fun o q => (sb.2 _ (Ne.symm D.zi1)).trans q
    · exact itK_at st2.1 fun o q => (sb.2 _ (Ne.symm D.zi2)).trans q
    · have hlt : q < s.heap.objs.size := by
        have e' : q = z ∨ q = TI ∨ q = TO ∨ q = i1 ∨ q = i2 := by simpa using hcm
        rcases e' with e | e | e | e | e
        · rw [e]; exact hzl
        · rw [e]; exact Heap.lt_size hTI
        · rw [e]; exact Heap.lt_size hTO
        · rw [e]; obtain ⟨_, e1, _⟩ := itK_live h1; exact Heap.lt_size e1
        · rw [e]; obtain ⟨_, e1, _⟩ := itK_live h2; exact Heap.lt_size e1
      rw [upd_ne (Nat.ne_of_lt hlt)]
      exact (hf q hcm).1
  done := by
    intro X hP hw hK hc i pins s σ H E I hf st hg
    subst hP hw hK
    obtain ⟨hz, hTI, ⟨x0, y0, hTO⟩, h1, h2⟩ := st
    obtain ⟨xs, ys, hqx, hqy, ex, ey⟩ := hg
    obtain ⟨its, rv, p⟩ := seqK_at I hqx
    obtain ⟨its2, rv2, p2⟩ := seqK_at I hqy
    have l1 := rv.length
    have l2 := rv2.length
    have D1 := drawsK (prog := X.prog) (w := X.w) (A := X.A.in1) (I.ok.hd hc) c i1 a (itK_ne h1 p) its.toArray
    have D2 := drawsK (prog := X.prog) (w := X.w) (A := X.A.in1) (I.ok.hd hc) d i2 b (itK_ne h2 p2) its2.toArray
    refine wpAny_pyNext_zipD2_end D D1 D2 hz hTI hTO (i := i) ⟨h1, p⟩ ⟨h2, p2⟩ (by rw [List.size_toArray]; omega) (by rw [List.size_toArray]; omega) (.inl (by rw [List.size_toArray]; omega)) fun h' tk hk => ⟨rfl, I.turnedL (t' := tk) (ch := [z, TI, TO, i1, i2]) (fun q o hb e =>
      hk q o (fun q' => hb (by simp [q'])) (fun q' => hb (by simp [q'])) (fun q' => hb (by simp [q'])) (fun q' => hb (by simp [q'])) e) hf⟩
  self := fun A i s Q E st h => wpAny_pyIter_zip st.1 h
def iZip2 (K : PySem.W.Frag) (ta : TA) : TI := fun σ H R => ta σ H fun vs H1 => ∃ c d a b xs ys, vs = [.ref a, .ref b] ∧ SqK c K H1 a xs ∧ SqK d K H1 b ys ∧ R (It2 K c d a b) H1
theorem pi_zip2 {X : Cx} {e e2 : Expr} {ta : TA} {p pos tpos : Pos} {elts : List Expr} {kk : Nat} (hg : Gl X "zip") (hm : X.mg "zip" = none) (ha : PA X [e, e2] ta)
    (hs : starEach [e, e2] X.env = (false, eval e X.env) :: starEach [e2] X.env := by rfl) (hpl : (backTo pos (starEach [e2] X.env)).any (·.1) = false := by rfl) :
    PI X (.Tuple elts kk tpos) (.Call (.Name "zip" p) [e, e2] [] pos) (iZip2 X.K ta) := by
  refine ⟨fun pins s σ H R I h => ?_⟩
  refine Call_ (ld_blt I hg hm PyProof.Rows.boot_zip (PyProof.Rows.callWith_type1 (thn (ha.run pos pins s σ H _ I h) fun us s1 ⟨vs, H1, I1, r1, q1⟩ => ?_) hs hpl))
  obtain ⟨c, d, a, b, xs, ys, rfl, hqx, hqy, q⟩ := q1
  cases r1 with
  | cons r rr =>
    cases rr with
    | cons r' rr =>
      cases rr
      cases r
      cases r'
      obtain ⟨its, rv, p1⟩ := seqK_at I1 hqx
      obtain ⟨its2, rv2, p2⟩ := seqK_at I1 hqy
      have la : a < s1.heap.objs.size := by obtain ⟨o, ho, _⟩ := isK_cls p1; exact Heap.lt_size ho
      have lb : b < s1.heap.objs.size := by obtain ⟨o, ho, _⟩ := isK_cls p2; exact Heap.lt_size ho
      obtain ⟨o1, B1, b1⟩ := beginsK c a its.toArray
      obtain ⟨o2, B2, b2⟩ := beginsK d b its2.toArray
      refine zip_begins2 B1 B2 p1 p2 fun h' hz hTI hTO g1 g2 hsz hk => wpAny_pyIter_zip hz ?_
      have I2 : Inv X pins σ H1 { s1 with heap := h' } := I1.kept (t' := s1.toks) hk
      have D : ZipSep2 (s1.heap.objs.size + 4) (s1.heap.objs.size + 2) (s1.heap.objs.size + 3) s1.heap.objs.size (s1.heap.objs.size + 1) [s1.heap.objs.size, a] [s1.heap.objs.size + 1, b] :=
        zip_sep2 (fun q hq => by rw [List.mem_singleton.mp hq]; exact la) (fun q hq => by rw [List.mem_singleton.mp hq]; exact lb)
      refine ⟨s1.heap.objs.size + 4, [s1.heap.objs.size + 4, s1.heap.objs.size + 2, s1.heap.objs.size + 3, s1.heap.objs.size, s1.heap.objs.size + 1], _, _, H1, rfl, I2, turn_zip2 D, ⟨hz, hTI, ⟨_, _, hTO⟩, b1 _ _ g1, b2 _ _ g2⟩, fun q hcm => ?_, q⟩
      have e' : q = s1.heap.objs.size + 4 ∨ q = s1.heap.objs.size + 2 ∨ q = s1.heap.objs.size + 3 ∨ q = s1.heap.objs.size ∨ q = s1.heap.objs.size + 1 := by simpa using hcm
      have hle : s1.heap.objs.size ≤ q := by
        rcases e' with z | z | z | z | z
        · rw [z]; exact Nat.le_add_right _ _
        · rw [z]; exact Nat.le_add_right _ _
        · rw [z]; exact Nat.le_add_right _ _
        · rw [z]; exact Nat.le_refl _
        · rw [z]; exact Nat.le_add_right _ _
      exact I1.fpOk hle (I1.hok.fresh hle)
/-- what is walked: a tuple (true), or a mutable list that stays (false) -/
inductive Seq (Θ : Th) : Bool → Da → List Da → Prop
  | tup (ds : List Da) : Seq Θ true (.tup ds) ds
  | lst {a : Addr} {ds : List Da} (h : (a, .lst ds) ∈ Θ) : Seq Θ false (.ref a) ds
theorem Seq.at_ {F : Fx} {σ : L2.St} {H : Hp} {Γ : Gm} {Θ : Th} {v : V} {c : Bool} {d : Da} {ds : List Da} (q : Seq Θ c d ds) (h : Sy.St F σ H Γ Θ) (r : Rp F.K H v d) : ∃ a xs, v = .ref a ∧ SqK c F.K H a xs ∧ RpL F.K H xs ds := by
  cases q with
  | tup =>
    obtain ⟨a, xs, e, hs, rl⟩ := r.tupI
    exact ⟨a, xs, e, hs, rl⟩
  | lst hm =>
    cases r
    obtain ⟨xs, e, rl⟩ := h.ob _ _ hm
    exact ⟨_, xs, rfl, .inl (.inl e), rl⟩
theorem ei_zip2 {F : Fx} {Γ : Gm} {Θ : Th} {t : TA} {C : Nat → (Nat → Da) → (Th → Prop) → Th → Prop} (h : EvA F t Γ Θ fun es Θ1 => ∃ c d da db xs ys, es = [da, db] ∧ Seq Θ1 c da xs ∧ Seq Θ1 d db ys ∧ xs.length = ys.length ∧
    C xs.length (fun i => .tup [xs.getD i .non, ys.getD i .non]) (fun Θ' => Seq Θ' c da xs ∧ Seq Θ' d db ys) Θ1) : EvI F (iZip2 F.K t) Γ Θ C := fun σ H hS R q => h σ H hS _ fun vs H1 es Θ1 p1 s1 r1 k => by
  obtain ⟨c, d, da, db, xs, ys, rfl, q1, q2, hl, k⟩ := k
  obtain ⟨v, w, rfl, rv, rw'⟩ := r1.two
  obtain ⟨a, us, rfl, g1, l1⟩ := q1.at_ s1 rv
  obtain ⟨b, ws, rfl, g2, l2⟩ := q2.at_ s1 rw'
  have here : ∀ {σ H Γ Θ}, Per H1 H → Sy.St F σ H Γ Θ → Seq Θ c da xs ∧ Seq Θ d db ys → (∃ us, SqK c F.K H a us ∧ RpL F.K H us xs) ∧ ∃ ws, SqK d F.K H b ws ∧ RpL F.K H ws ys := fun {σ H Γ Θ} p s kq => by
    obtain ⟨a', us, e, g1, l1⟩ := kq.1.at_ s (rv.per p)
    obtain ⟨b', ws, e2, g2, l2⟩ := kq.2.at_ s (rw'.per p)
    cases e; cases e2
    exact ⟨⟨us, g1, l1⟩, ws, g2, l2⟩
  refine ⟨c, d, a, b, us, ws, rfl, g1, g2, q _ H1 Θ1 _ _ _ p1 s1 ⟨fun i σ H Γ Θ hi p s kq => ?_, fun σ H Γ Θ p s kq => ?_, fun i σ H Γ Θ x H' hi p s kq y => ?_⟩ k⟩
  · obtain ⟨⟨us, g1, l1⟩, ws, g2, l2⟩ := here p s kq
    exact ⟨us, ws, us[i]'(by rw [l1.length]; exact hi), ws[i]'(by rw [l2.length, ← hl]; exact hi), g1, g2, by simp [l1.length, hi], by simp [l2.length, ← hl, hi]⟩
  · obtain ⟨⟨us, g1, l1⟩, ws, g2, l2⟩ := here p s kq
    exact ⟨us, ws, g1, g2, l1.length, by rw [l2.length, hl]⟩
  · obtain ⟨⟨us, g1, l1⟩, ws, g2, l2⟩ := here p s kq
    obtain ⟨T, u, z, rfl, hT, rfl, e1, e2⟩ := y
    have pn : Per H (upd H T (.tup [u, z])) := .new hT
    exact ⟨pn, s.new hT, .tup (.inl (.inl upd_same)) (.cons ((l1.getD (e1 _ g1)).per pn) (.cons ((l2.getD (e2 _ g2)).per pn) .nil))⟩
end Sy

end
section
/-! k38, part A: places, scopes, the module's names. -/
namespace K38
open PySem PySem.Spec PyProof.Rows L2 Sy
def topS (i : Nat) : Stmt := PySem.Challenge.pw_alikechances_k38_whole_coin_machines.main.body.getD i (.Pass ⟨0, 0, 0, 0⟩)
abbrev s_greatest_divisor : Stmt := topS 7
abbrev N_greatest_divisor : List Str := ["one", "other", "first", "second", "rest"]
theorem sc_greatest_divisor : FnScope N_greatest_divisor ["one", "other"] (defScope s_greatest_divisor) := ⟨rfl, rfl, rfl, by decide +kernel, rfl, by decide +kernel, by decide +kernel⟩
abbrev s_lowest : Stmt := topS 8
abbrev N_lowest : List Str := ["above", "below", "divisor"]
theorem sc_lowest : FnScope N_lowest ["above", "below"] (defScope s_lowest) := ⟨rfl, rfl, rfl, by decide +kernel, rfl, by decide +kernel, by decide +kernel⟩
abbrev s_plus : Stmt := topS 9
abbrev N_plus : List Str := ["one", "other"]
theorem sc_plus : FnScope N_plus ["one", "other"] (defScope s_plus) := ⟨rfl, rfl, rfl, by decide +kernel, rfl, by decide +kernel, by decide +kernel⟩
abbrev s_minus : Stmt := topS 10
abbrev N_minus : List Str := ["one", "other"]
theorem sc_minus : FnScope N_minus ["one", "other"] (defScope s_minus) := ⟨rfl, rfl, rfl, by decide +kernel, rfl, by decide +kernel, by decide +kernel⟩
abbrev s_times : Stmt := topS 11
abbrev N_times : List Str := ["one", "other"]
theorem sc_times : FnScope N_times ["one", "other"] (defScope s_times) := ⟨rfl, rfl, rfl, by decide +kernel, rfl, by decide +kernel, by decide +kernel⟩
abbrev s_over : Stmt := topS 12
abbrev N_over : List Str := ["one", "other"]
theorem sc_over : FnScope N_over ["one", "other"] (defScope s_over) := ⟨rfl, rfl, rfl, by decide +kernel, rfl, by decide +kernel, by decide +kernel⟩
abbrev s_is_integer : Stmt := topS 14
abbrev N_is_integer : List Str := ["thing", "low", "high"]
theorem sc_is_integer : FnScope N_is_integer ["thing", "low", "high"] (defScope s_is_integer) := ⟨rfl, rfl, rfl, by decide +kernel, rfl, by decide +kernel, by decide +kernel⟩
abbrev s_is_arm : Stmt := topS 18
abbrev N_is_arm : List Str := ["thing", "many"]
theorem sc_is_arm : FnScope N_is_arm ["thing", "many"] (defScope s_is_arm) := ⟨rfl, rfl, rfl, by decide +kernel, rfl, by decide +kernel, by decide +kernel⟩
abbrev s_is_machine : Stmt := topS 19
abbrev N_is_machine : List Str := ["thing", "node", "arm"]
theorem sc_is_machine : FnScope N_is_machine ["thing"] (defScope s_is_machine) := ⟨rfl, rfl, rfl, by decide +kernel, rfl, by decide +kernel, by decide +kernel⟩
abbrev s_has_beyond : Stmt := topS 20
abbrev N_has_beyond : List Str := ["machine", "count", "node", "arm"]
theorem sc_has_beyond : FnScope N_has_beyond ["machine", "count"] (defScope s_has_beyond) := ⟨rfl, rfl, rfl, by decide +kernel, rfl, by decide +kernel, by decide +kernel⟩
abbrev s_need_machine : Stmt := topS 21
abbrev N_need_machine : List Str := ["thing"]
theorem sc_need_machine : FnScope N_need_machine ["thing"] (defScope s_need_machine) := ⟨rfl, rfl, rfl, by decide +kernel, rfl, by decide +kernel, by decide +kernel⟩
abbrev s_put_into : Stmt := topS 22
abbrev N_put_into : List Str := ["row", "share", "other", "key", "weight"]
theorem sc_put_into : FnScope N_put_into ["row", "share", "other"] (defScope s_put_into) := ⟨rfl, rfl, rfl, by decide +kernel, rfl, by decide +kernel, by decide +kernel⟩
abbrev s_closed_row : Stmt := topS 23
abbrev N_closed_row : List Str := ["row", "node", "rest", "back", "found", "key", "weight"]
theorem sc_closed_row : FnScope N_closed_row ["row", "node"] (defScope s_closed_row) := ⟨rfl, rfl, rfl, by decide +kernel, rfl, by decide +kernel, by decide +kernel⟩
abbrev s_solved_machine : Stmt := topS 24
abbrev N_solved_machine : List Str := ["machine", "half", "rows", "heads", "tails", "row", "node", "earlier", "share"]
theorem sc_solved_machine : FnScope N_solved_machine ["machine"] (defScope s_solved_machine) := ⟨rfl, rfl, rfl, by decide +kernel, rfl, by decide +kernel, by decide +kernel⟩
abbrev s_coin_shares : Stmt := topS 25
abbrev N_coin_shares : List Str := ["machine", "count", "row", "outcome"]
theorem sc_coin_shares : FnScope N_coin_shares ["machine", "count"] (defScope s_coin_shares) := ⟨rfl, rfl, rfl, by decide +kernel, rfl, by decide +kernel, by decide +kernel⟩
abbrev s_coin_cost : Stmt := topS 26
abbrev N_coin_cost : List Str := ["machine", "row"]
theorem sc_coin_cost : FnScope N_coin_cost ["machine"] (defScope s_coin_cost) := ⟨rfl, rfl, rfl, by decide +kernel, rfl, by decide +kernel, by decide +kernel⟩
abbrev s_toss : Stmt := topS 27
abbrev N_toss : List Str := ["machine", "tosses", "node", "place", "heads", "arm"]
theorem sc_toss : FnScope N_toss ["machine", "tosses"] (defScope s_toss) := ⟨rfl, rfl, rfl, by decide +kernel, rfl, by decide +kernel, by decide +kernel⟩
abbrev s__law_well : Stmt := topS 29
abbrev N__law_well : List Str := ["_law_script", "_law_index", "_law_cell"]
theorem sc__law_well : FnScope N__law_well ["_law_script", "_law_index"] (defScope s__law_well) := ⟨rfl, rfl, rfl, by decide +kernel, rfl, by decide +kernel, by decide +kernel⟩
abbrev s__law_drop : Stmt := topS 30
abbrev N__law_drop : List Str := ["_law_well_here", "_law_bound", "_law_digit", "_law_mixed"]
theorem sc__law_drop : FnScope N__law_drop ["_law_well_here", "_law_bound"] (defScope s__law_drop) := ⟨rfl, rfl, rfl, by decide +kernel, rfl, by decide +kernel, by decide +kernel⟩
abbrev s__law_low : Stmt := topS 31
abbrev N__law_low : List Str := ["_law_above", "_law_below", "_law_one", "_law_other"]
theorem sc__law_low : FnScope N__law_low ["_law_above", "_law_below"] (defScope s__law_low) := ⟨rfl, rfl, rfl, by decide +kernel, rfl, by decide +kernel, by decide +kernel⟩
abbrev s__law_row : Stmt := topS 32
abbrev N__law_row : List Str := ["_law_weights", "_law_below", "_law_shares", "_law_weight"]
theorem sc__law_row : FnScope N__law_row ["_law_weights"] (defScope s__law_row) := ⟨rfl, rfl, rfl, by decide +kernel, rfl, by decide +kernel, by decide +kernel⟩
abbrev s__law_plain : Stmt := topS 33
abbrev N__law_plain : List Str := ["_law_many", "_law_number", "_law_place"]
theorem sc__law_plain : FnScope N__law_plain ["_law_many", "_law_number"] (defScope s__law_plain) := ⟨rfl, rfl, rfl, by decide +kernel, rfl, by decide +kernel, by decide +kernel⟩
abbrev s__law_machine : Stmt := topS 34
abbrev N__law_machine : List Str := ["_law_well_here", "_law_many", "_law_count_here", "_law_found", "_law_way", "_law_number", "_law_arms", "_law_side", "_law_place"]
theorem sc__law_machine : FnScope N__law_machine ["_law_well_here", "_law_many", "_law_count_here"] (defScope s__law_machine) := ⟨rfl, rfl, rfl, by decide +kernel, rfl, by decide +kernel, by decide +kernel⟩
abbrev s__law_from : Stmt := topS 35
abbrev N__law_from : List Str := ["_law_machine_here", "_law_node", "_law_places", "_law_found", "_law_place", "_law_arm"]
theorem sc__law_from : FnScope N__law_from ["_law_machine_here", "_law_node"] (defScope s__law_from) := ⟨rfl, rfl, rfl, by decide +kernel, rfl, by decide +kernel, by decide +kernel⟩
abbrev s__law_ending : Stmt := topS 36
abbrev N__law_ending : List Str := ["_law_machine_here", "_law_found", "_law_turn", "_law_number", "_law_arm", "_law_node"]
theorem sc__law_ending : FnScope N__law_ending ["_law_machine_here"] (defScope s__law_ending) := ⟨rfl, rfl, rfl, by decide +kernel, rfl, by decide +kernel, by decide +kernel⟩
abbrev s__law_half : Stmt := topS 37
abbrev N__law_half : List Str := ["_law_one", "_law_other"]
theorem sc__law_half : FnScope N__law_half ["_law_one", "_law_other"] (defScope s__law_half) := ⟨rfl, rfl, rfl, by decide +kernel, rfl, by decide +kernel, by decide +kernel⟩
abbrev s__law_shares_right : Stmt := topS 38
abbrev N__law_shares_right : List Str := ["_law_machine_here", "_law_count_here", "_law_shares", "_law_endless", "_law_ending_here", "_law_number", "_law_arms", "_law_arm", "_law_one", "_law_due", "_law_other"]
theorem sc__law_shares_right : FnScope N__law_shares_right ["_law_machine_here", "_law_count_here", "_law_shares"] (defScope s__law_shares_right) := ⟨rfl, rfl, rfl, by decide +kernel, rfl, by decide +kernel, by decide +kernel⟩
abbrev s__law_costs_right : Stmt := topS 39
abbrev N__law_costs_right : List Str := ["_law_machine_here", "_law_shares", "_law_costs", "_law_number", "_law_arms", "_law_mean", "_law_arm"]
theorem sc__law_costs_right : FnScope N__law_costs_right ["_law_machine_here", "_law_shares", "_law_costs"] (defScope s__law_costs_right) := ⟨rfl, rfl, rfl, by decide +kernel, rfl, by decide +kernel, by decide +kernel⟩
abbrev s__law_tossed : Stmt := topS 40
abbrev N__law_tossed : List Str := ["_law_machine_here", "_law_tosses_here", "_law_at", "_law_used", "_law_heads", "_law_arm"]
theorem sc__law_tossed : FnScope N__law_tossed ["_law_machine_here", "_law_tosses_here"] (defScope s__law_tossed) := ⟨rfl, rfl, rfl, by decide +kernel, rfl, by decide +kernel, by decide +kernel⟩
abbrev s__law_great : Stmt := topS 41
abbrev N__law_great : List Str := ["_law_well_here", "_law_steps", "_law_outs", "_law_found", "_law_number", "_law_ahead"]
theorem sc__law_great : FnScope N__law_great ["_law_well_here"] (defScope s__law_great) := ⟨rfl, rfl, rfl, by decide +kernel, rfl, by decide +kernel, by decide +kernel⟩
abbrev s__law_chain_right : Stmt := topS 42
abbrev N__law_chain_right : List Str := ["_law_well_here", "_law_many", "_law_outs", "_law_machine_here", "_law_weights", "_law_node", "_law_at", "_law_due", "_law_weight"]
theorem sc__law_chain_right : FnScope N__law_chain_right ["_law_well_here"] (defScope s__law_chain_right) := ⟨rfl, rfl, rfl, by decide +kernel, rfl, by decide +kernel, by decide +kernel⟩
abbrev s_law : Stmt := topS 43
abbrev N_law : List Str := ["_law_script", "_law_index", "_law_well_here", "_law_least", "_law_many", "_law_machine_here", "_law_count_here", "_law_shares", "_law_costs", "_law_turn", "_law_tosses_here", "_law_heads", "_law_node", "_law_place"]
theorem sc_law : FnScope N_law ["_law_script"] (defScope s_law) := ⟨rfl, rfl, rfl, by decide +kernel, rfl, by decide +kernel, by decide +kernel⟩
structure Txt (mg : Str → Option Value) (v_ZERO : V) (v_ONE : V) : Prop where
  b_abs : mg "abs" = none
  b_all : mg "all" = none
  b_any : mg "any" = none
  b_bool : mg "bool" = none
  b_enumerate : mg "enumerate" = none
  b_int : mg "int" = none
  b_isinstance : mg "isinstance" = none
  b_len : mg "len" = none
  b_list : mg "list" = none
  b_max : mg "max" = none
  b_min : mg "min" = none
  b_range : mg "range" = none
  b_repr : mg "repr" = none
  b_sum : mg "sum" = none
  b_tuple : mg "tuple" = none
  b_zip : mg "zip" = none
  c_MOST_NODES : ∃ u, mg "MOST_NODES" = some u ∧ RelV (.int 400) u
  c_MOST_OUTCOMES : ∃ u, mg "MOST_OUTCOMES" = some u ∧ RelV (.int 26) u
  c_ONE : ∃ u, mg "ONE" = some u ∧ RelV v_ONE u
  c_ZERO : ∃ u, mg "ZERO" = some u ∧ RelV v_ZERO u
abbrev kb_greatest_divisor : List (List Str × List Nat) := []
abbrev kb_lowest : List (List Str × List Nat) := []
abbrev kb_plus : List (List Str × List Nat) := []
abbrev kb_minus : List (List Str × List Nat) := []
abbrev kb_times : List (List Str × List Nat) := []
abbrev kb_over : List (List Str × List Nat) := []
abbrev kb_is_integer : List (List Str × List Nat) := []
abbrev kb_is_arm : List (List Str × List Nat) := []
abbrev kb_is_machine : List (List Str × List Nat) := []
abbrev kb_has_beyond : List (List Str × List Nat) := []
abbrev kb_need_machine : List (List Str × List Nat) := []
abbrev kb_put_into : List (List Str × List Nat) := []
abbrev kb_closed_row : List (List Str × List Nat) := []
abbrev kb_solved_machine : List (List Str × List Nat) := []
abbrev kb_coin_shares : List (List Str × List Nat) := [(["count", "machine"], [1, 0])]
abbrev kb_coin_cost : List (List Str × List Nat) := [(["machine"], [0])]
abbrev kb_toss : List (List Str × List Nat) := [(["tosses", "machine"], [1, 0])]
abbrev kb__law_well : List (List Str × List Nat) := []
abbrev kb__law_drop : List (List Str × List Nat) := []
abbrev kb__law_low : List (List Str × List Nat) := []
abbrev kb__law_row : List (List Str × List Nat) := []
abbrev kb__law_plain : List (List Str × List Nat) := []
abbrev kb__law_machine : List (List Str × List Nat) := []
abbrev kb__law_from : List (List Str × List Nat) := []
abbrev kb__law_ending : List (List Str × List Nat) := []
abbrev kb__law_half : List (List Str × List Nat) := []
abbrev kb__law_shares_right : List (List Str × List Nat) := []
abbrev kb__law_costs_right : List (List Str × List Nat) := []
abbrev kb__law_tossed : List (List Str × List Nat) := []
abbrev kb__law_great : List (List Str × List Nat) := []
abbrev kb__law_chain_right : List (List Str × List Nat) := []
abbrev kb_law : List (List Str × List Nat) := []
theorem hu20 {k : Nat} {A : Around} (h : Room k A) : A.units + 20 < cLine := by have := h.units; omega
section
variable {X : Cx}
theorem pe_gl {x : Str} {v : V} {pos : Pos} (hm : ∃ u, X.mg x = some u ∧ RelV v u) (hg : Gl X x) (hd : (x == ("__debug__" : Str)) = false := by decide) : PE X (.Name x pos) (tC v) := by
  obtain ⟨u, h, r⟩ := hm
  exact pe_glob hg h r hd
end
end K38

end
section
/-! k38, part B: whole numbers and fractions. -/
namespace K38
open PySem PySem.Spec PyProof.Rows L2 Sy
local macro_rules | `(tactic| infer_instance) => `(tactic| first
  | with_reducible refine x_seq ?_
  | with_reducible refine x_asg ?_
  | with_reducible refine x_ret ?_
  | with_reducible refine x_drop ?_
  | with_reducible refine x_par ?_
  | with_reducible refine x_if ?_
  | with_reducible refine ev_op ?_
  | with_reducible refine ev_un ?_
  | with_reducible refine ev_cb ?_
  | with_reducible refine ev_tup ?_
  | with_reducible refine ea_nil ?_
  | with_reducible refine ea_cons ?_
  | with_reducible refine ev_int ?_
  | with_reducible refine ev_bl ?_
  | with_reducible refine ev_str ?_
  | with_reducible refine ev_ty ?_
  | with_reducible refine ev_non ?_
  | with_reducible refine et_test ?_
  | with_reducible refine et_B ?_
  | with_reducible refine et_not ?_
  | with_reducible refine et_and ?_
  | with_reducible refine et_or ?_
  | with_reducible refine ev_cal ?_
  | with_reducible refine ev_if ?_
  | with_reducible refine ev_andV ?_
  | with_reducible refine ev_orV ?_
  | with_reducible refine ev_notV ?_
  | with_reducible refine ev_chain ?_
  | with_reducible refine x_drop ?_
  | with_reducible refine x_par ?_
  | refine ev_var rfl ?_
  | with_reducible refine x_next ?_
  | refine s_I (by assumption) ?_
  | refine s_isi rfl rfl ?_
  | refine s_I0 ?_
  | refine s_B0 ?_
  | refine s_neg ?_
  | refine s_eqI ?_
  | refine s_neI ?_
  | refine s_eqS ?_
  | refine s_isN ?_
  | refine s_notN ?_
  | refine s_abs ?_
  | refine s_max2 ?_
  | refine s_min2 ?_
  | refine s_int1 ?_
  | refine s_intB ?_
  | refine s_lenT ?_
  | refine s_lenF ?_
  | refine s_ixT rfl ?_
  | refine tg_name (of_decide_eq_true rfl) ?_
  | refine tg_tup rfl ?_
  | refine tgs_cons ?_
  | refine tgs_nil ?_
  | refine ⟨fun _ => ?_, fun z => nomatch (show true = false from z)⟩
  | refine ⟨fun z => (nomatch (show false = true from z)), fun _ => ?_⟩
  | with_reducible refine ⟨_, rfl, ?_⟩
  | refine ⟨_, _, rfl, of_decide_eq_true rfl, of_decide_eq_true rfl, ?_⟩
  | fail "x")
/-- a fraction in lowest terms -/
def frac (q : Rat) : Da := .tup [.int q.num, .int (q.den : Int)]
def Bd (n : Nat) (i : Int) : Prop := i.natAbs < 2 ^ n
/-- the fraction's two numbers are short -/
def Sz (n : Nat) (q : Rat) : Prop := Bd n q.num ∧ q.den < 2 ^ n
theorem Bd.mono {n m : Nat} {i : Int} (h : Bd n i) (q : n ≤ m) : Bd m i := Nat.lt_of_lt_of_le h (Nat.pow_le_pow_right (by decide) q)
theorem Bd.mul {n m : Nat} {i j : Int} (h : Bd n i) (q : Bd m j) : Bd (n + m) (i * j) := wide_lt h q
theorem Bd.add {n : Nat} {i j : Int} (h : Bd n i) (q : Bd n j) : Bd (n + 1) (i + j) := by
  unfold Bd at *
  have e : 2 ^ (n + 1) = 2 ^ n + 2 ^ n := by rw [Nat.pow_succ]; omega
  rw [e]
  omega
theorem Bd.sub {n : Nat} {i j : Int} (h : Bd n i) (q : Bd n j) : Bd (n + 1) (i - j) := by
  unfold Bd at *
  have e : 2 ^ (n + 1) = 2 ^ n + 2 ^ n := by rw [Nat.pow_succ]; omega
  rw [e]
  omega
theorem Bd.cm {n m : Nat} {i j : Int} (h : Bd n i) (q : Bd m j) (h0 : 0 < n := by decide) (h1 : 0 < m := by decide) (h2 : n + m ≤ 1000000 := by decide) : CMulW i j := wide_mul h q h0 h1 h2
theorem Bd.cd {n : Nat} {i j : Int} (q : Bd n j) (h : 0 < j) (h0 : 0 < n := by decide) (h2 : n ≤ 9000 := by decide) : CDivW i j := wide_div h q h0 h2

def ss_greatest_divisor : Ss := fun ds Θ R => ∃ a b : Int, ds = [.int a, .int b] ∧ Bd 8000 a ∧ Bd 8000 b ∧ R (.int (Int.gcd a b)) Θ
def ss_plus : Ss := fun ds Θ R => ∃ a b : Rat, ds = [frac a, frac b] ∧ Sz 3000 a ∧ Sz 3000 b ∧ R (frac (a + b)) Θ
def ss_minus : Ss := fun ds Θ R => ∃ a b : Rat, ds = [frac a, frac b] ∧ Sz 3000 a ∧ Sz 3000 b ∧ R (frac (a - b)) Θ
def ss_times : Ss := fun ds Θ R => ∃ a b : Rat, ds = [frac a, frac b] ∧ Sz 3000 a ∧ Sz 3000 b ∧ R (frac (a * b)) Θ
def ss_over : Ss := fun ds Θ R => ∃ a b : Rat, ds = [frac a, frac b] ∧ Sz 3000 a ∧ Sz 3000 b ∧ 0 < b ∧ R (frac (a / b)) Θ
def ss_lowest : Ss := fun ds Θ R => ∃ a b : Int, ds = [.int a, .int b] ∧ Bd 8000 a ∧ Bd 8000 b ∧ 0 < b ∧ R (frac (mkRat a b.toNat)) Θ
abbrev t_greatest_divisor (K : PySem.W.Frag) (w : World) (v_ZERO : V) (v_ONE : V) : TS :=
  (tSeq (tAsg (tCB rAbs (tCons (tVar 0) tNil)) (gName 2))
    (tSeq (tAsg (tCB rAbs (tCons (tVar 1) tNil)) (gName 3))
    (tSeq (tWhile (tTest (tOp (rI0 fun i j => .bl (decide (j < i))) (tVar 3) (tC (.int 0)))) (tSeq (tAsg (tOp (rI0 fun i j => .int (i - j)) (tVar 2) (tOp (rI CMulW fun i j => .int (i * j)) (tOp (rI CDivW fun i j => .int (i / j)) (tVar 2) (tVar 3)) (tVar 3))) (gName 4))
    (tSeq (tAsg (tVar 3) (gName 2))
    (tAsg (tVar 4) (gName 3)))))
    (tRet (tVar 2)))))
section
variable {P : Program} {w : World} {K : PySem.W.Frag} {mg : Str → Option Value} {base : Heap} {v_ZERO v_ONE : V}
theorem p_greatest_divisor (T : Txt mg v_ZERO v_ONE)
    (fa : Addr) (cdv : Value) (A : Around) (outer : List Env) (s : Shared) (H : Hp) (E : XK) (hgd : A.guards = some []) (hr : Room 0 (A.deeper (envOfC "greatest_divisor" (defScope s_greatest_divisor) s.heap.objs.size fa cdv))) :
    PSs (cxOf CX0 P w K mg base N_greatest_divisor "greatest_divisor" (defScope s_greatest_divisor) fa cdv A outer s H E).nox (defBody s_greatest_divisor) (t_greatest_divisor K w v_ZERO v_ONE) :=
  (pss_cons (ps_set (i := 2) sc_greatest_divisor.nd rfl (by first | exact Or.inl rfl | exact Or.inr rfl) (pe_callB call_abs (by rfl) T.b_abs (by decide +kernel) (pa_cons (pv 0) pa_nil)))
    (pss_cons (ps_set (i := 3) sc_greatest_divisor.nd rfl (by first | exact Or.inl rfl | exact Or.inr rfl) (pe_callB call_abs (by rfl) T.b_abs (by decide +kernel) (pa_cons (pv 1) pa_nil)))
    (pss_cons (ps_while PassesOwn.never (pt_cmpR op_gt (pv 3) pe_int (nomark _)) (pss_cons (ps_set (i := 4) sc_greatest_divisor.nd rfl (by first | exact Or.inl rfl | exact Or.inr rfl) (pe_op op_sub (pv 2) (pe_op op_mulW (pe_op op_fdivW (pv 2) (pv 3)) (pv 3))))
    (pss_cons (ps_set (i := 2) sc_greatest_divisor.nd rfl (by first | exact Or.inl rfl | exact Or.inr rfl) (pv 3))
    (pss_one (ps_set (i := 3) sc_greatest_divisor.nd rfl (by first | exact Or.inl rfl | exact Or.inr rfl) (pv 4))))))
    (pss_one (ps_ret (pv 2))))))
end
abbrev t_lowest (K : PySem.W.Frag) (w : World) (v_ZERO : V) (v_ONE : V) : TS :=
  (tSeq (tAsg (tCall (toSp K w ss_greatest_divisor) [] xk0 (tCons (tVar 0) (tCons (tVar 1) tNil))) (gName 2))
    (tSeq (tIfS (tTest (tOp (rI0 fun i j => .bl (decide (i < j))) (tVar 1) (tC (.int 0)))) (tAsg (tUn (rU fun i => .int (-i)) (tVar 2)) (gName 2)) tNext)
    (tRet (tTup (tCons (tOp (rI CDivW fun i j => .int (i / j)) (tVar 0) (tVar 2)) (tCons (tOp (rI CDivW fun i j => .int (i / j)) (tVar 1) (tVar 2)) tNil))))))
section
variable {P : Program} {w : World} {K : PySem.W.Frag} {mg : Str → Option Value} {base : Heap} {v_ZERO v_ONE : V}
theorem p_lowest (T : Txt mg v_ZERO v_ONE)
    (C_greatest_divisor : Cal P w K mg base 1 "greatest_divisor" ["one", "other"] kb_greatest_divisor ss_greatest_divisor)
    (fa : Addr) (cdv : Value) (A : Around) (outer : List Env) (s : Shared) (H : Hp) (E : XK) (hgd : A.guards = some []) (hr : Room 1 (A.deeper (envOfC "lowest" (defScope s_lowest) s.heap.objs.size fa cdv))) :
    PSs (cxOf CX0 P w K mg base N_lowest "lowest" (defScope s_lowest) fa cdv A outer s H E).nox (defBody s_lowest) (t_lowest K w v_ZERO v_ONE) :=
  (pss_cons (ps_set (i := 2) sc_lowest.nd rfl (by first | exact Or.inl rfl | exact Or.inr rfl) (pe_cal C_greatest_divisor hgd (hr.mono (by decide)) (by rfl) (pa_cons (pv 0) (pa_cons (pv 1) pa_nil))))
    (pss_cons (ps_if (pt_cmpR op_lt (pv 1) pe_int (nomark _)) (pss_one (ps_set (i := 2) sc_lowest.nd rfl (by first | exact Or.inl rfl | exact Or.inr rfl) (pe_un un_neg (pv 2)))) pss_nil)
    (pss_one (ps_ret (pe_tup (pa_cons (pe_op op_fdivW (pv 0) (pv 2)) (pa_cons (pe_op op_fdivW (pv 1) (pv 2)) pa_nil)))))))
end
abbrev t_plus (K : PySem.W.Frag) (w : World) (v_ZERO : V) (v_ONE : V) : TS :=
  (tRet (tCall (toSp K w ss_lowest) [] xk0 (tCons (tOp (rI0 fun i j => .int (i + j)) (tOp (rI CMulW fun i j => .int (i * j)) (tOp (rIxT K) (tVar 0) (tC (.int 0))) (tOp (rIxT K) (tVar 1) (tC (.int 1)))) (tOp (rI CMulW fun i j => .int (i * j)) (tOp (rIxT K) (tVar 1) (tC (.int 0))) (tOp (rIxT K) (tVar 0) (tC (.int 1))))) (tCons (tOp (rI CMulW fun i j => .int (i * j)) (tOp (rIxT K) (tVar 0) (tC (.int 1))) (tOp (rIxT K) (tVar 1) (tC (.int 1)))) tNil))))
section
variable {P : Program} {w : World} {K : PySem.W.Frag} {mg : Str → Option Value} {base : Heap} {v_ZERO v_ONE : V}
theorem p_plus (T : Txt mg v_ZERO v_ONE)
    (C_lowest : Cal P w K mg base 2 "lowest" ["above", "below"] kb_lowest ss_lowest)
    (fa : Addr) (cdv : Value) (A : Around) (outer : List Env) (s : Shared) (H : Hp) (E : XK) (hgd : A.guards = some []) (hr : Room 2 (A.deeper (envOfC "plus" (defScope s_plus) s.heap.objs.size fa cdv))) :
    PSs (cxOf CX0 P w K mg base N_plus "plus" (defScope s_plus) fa cdv A outer s H E).nox (defBody s_plus) (t_plus K w v_ZERO v_ONE) :=
  (pss_one (ps_ret (pe_cal C_lowest hgd (hr.mono (by decide)) (by rfl) (pa_cons (pe_op op_add (pe_op op_mulW (pe_ix ix_tup (pv 0) pe_int (fun _ _ => rfl)) (pe_ix ix_tup (pv 1) pe_int (fun _ _ => rfl))) (pe_op op_mulW (pe_ix ix_tup (pv 1) pe_int (fun _ _ => rfl)) (pe_ix ix_tup (pv 0) pe_int (fun _ _ => rfl)))) (pa_cons (pe_op op_mulW (pe_ix ix_tup (pv 0) pe_int (fun _ _ => rfl)) (pe_ix ix_tup (pv 1) pe_int (fun _ _ => rfl))) pa_nil)))))
end
abbrev t_minus (K : PySem.W.Frag) (w : World) (v_ZERO : V) (v_ONE : V) : TS :=
  (tRet (tCall (toSp K w ss_lowest) [] xk0 (tCons (tOp (rI0 fun i j => .int (i - j)) (tOp (rI CMulW fun i j => .int (i * j)) (tOp (rIxT K) (tVar 0) (tC (.int 0))) (tOp (rIxT K) (tVar 1) (tC (.int 1)))) (tOp (rI CMulW fun i j => .int (i * j)) (tOp (rIxT K) (tVar 1) (tC (.int 0))) (tOp (rIxT K) (tVar 0) (tC (.int 1))))) (tCons (tOp (rI CMulW fun i j => .int (i * j)) (tOp (rIxT K) (tVar 0) (tC (.int 1))) (tOp (rIxT K) (tVar 1) (tC (.int 1)))) tNil))))
section
variable {P : Program} {w : World} {K : PySem.W.Frag} {mg : Str → Option Value} {base : Heap} {v_ZERO v_ONE : V}
theorem p_minus (T : Txt mg v_ZERO v_ONE)
    (C_lowest : Cal P w K mg base 2 "lowest" ["above", "below"] kb_lowest ss_lowest)
    (fa : Addr) (cdv : Value) (A : Around) (outer : List Env) (s : Shared) (H : Hp) (E : XK) (hgd : A.guards = some []) (hr : Room 2 (A.deeper (envOfC "minus" (defScope s_minus) s.heap.objs.size fa cdv))) :
    PSs (cxOf CX0 P w K mg base N_minus "minus" (defScope s_minus) fa cdv A outer s H E).nox (defBody s_minus) (t_minus K w v_ZERO v_ONE) :=
  (pss_one (ps_ret (pe_cal C_lowest hgd (hr.mono (by decide)) (by rfl) (pa_cons (pe_op op_sub (pe_op op_mulW (pe_ix ix_tup (pv 0) pe_int (fun _ _ => rfl)) (pe_ix ix_tup (pv 1) pe_int (fun _ _ => rfl))) (pe_op op_mulW (pe_ix ix_tup (pv 1) pe_int (fun _ _ => rfl)) (pe_ix ix_tup (pv 0) pe_int (fun _ _ => rfl)))) (pa_cons (pe_op op_mulW (pe_ix ix_tup (pv 0) pe_int (fun _ _ => rfl)) (pe_ix ix_tup (pv 1) pe_int (fun _ _ => rfl))) pa_nil)))))
end
abbrev t_times (K : PySem.W.Frag) (w : World) (v_ZERO : V) (v_ONE : V) : TS :=
  (tRet (tCall (toSp K w ss_lowest) [] xk0 (tCons (tOp (rI CMulW fun i j => .int (i * j)) (tOp (rIxT K) (tVar 0) (tC (.int 0))) (tOp (rIxT K) (tVar 1) (tC (.int 0)))) (tCons (tOp (rI CMulW fun i j => .int (i * j)) (tOp (rIxT K) (tVar 0) (tC (.int 1))) (tOp (rIxT K) (tVar 1) (tC (.int 1)))) tNil))))
section
variable {P : Program} {w : World} {K : PySem.W.Frag} {mg : Str → Option Value} {base : Heap} {v_ZERO v_ONE : V}
theorem p_times (T : Txt mg v_ZERO v_ONE)
    (C_lowest : Cal P w K mg base 2 "lowest" ["above", "below"] kb_lowest ss_lowest)
    (fa : Addr) (cdv : Value) (A : Around) (outer : List Env) (s : Shared) (H : Hp) (E : XK) (hgd : A.guards = some []) (hr : Room 2 (A.deeper (envOfC "times" (defScope s_times) s.heap.objs.size fa cdv))) :
    PSs (cxOf CX0 P w K mg base N_times "times" (defScope s_times) fa cdv A outer s H E).nox (defBody s_times) (t_times K w v_ZERO v_ONE) :=
  (pss_one (ps_ret (pe_cal C_lowest hgd (hr.mono (by decide)) (by rfl) (pa_cons (pe_op op_mulW (pe_ix ix_tup (pv 0) pe_int (fun _ _ => rfl)) (pe_ix ix_tup (pv 1) pe_int (fun _ _ => rfl))) (pa_cons (pe_op op_mulW (pe_ix ix_tup (pv 0) pe_int (fun _ _ => rfl)) (pe_ix ix_tup (pv 1) pe_int (fun _ _ => rfl))) pa_nil)))))
end
abbrev t_over (K : PySem.W.Frag) (w : World) (v_ZERO : V) (v_ONE : V) : TS :=
  (tRet (tCall (toSp K w ss_lowest) [] xk0 (tCons (tOp (rI CMulW fun i j => .int (i * j)) (tOp (rIxT K) (tVar 0) (tC (.int 0))) (tOp (rIxT K) (tVar 1) (tC (.int 1)))) (tCons (tOp (rI CMulW fun i j => .int (i * j)) (tOp (rIxT K) (tVar 0) (tC (.int 1))) (tOp (rIxT K) (tVar 1) (tC (.int 0)))) tNil))))
section
variable {P : Program} {w : World} {K : PySem.W.Frag} {mg : Str → Option Value} {base : Heap} {v_ZERO v_ONE : V}
theorem p_over (T : Txt mg v_ZERO v_ONE)
    (C_lowest : Cal P w K mg base 2 "lowest" ["above", "below"] kb_lowest ss_lowest)
    (fa : Addr) (cdv : Value) (A : Around) (outer : List Env) (s : Shared) (H : Hp) (E : XK) (hgd : A.guards = some []) (hr : Room 2 (A.deeper (envOfC "over" (defScope s_over) s.heap.objs.size fa cdv))) :
    PSs (cxOf CX0 P w K mg base N_over "over" (defScope s_over) fa cdv A outer s H E).nox (defBody s_over) (t_over K w v_ZERO v_ONE) :=
  (pss_one (ps_ret (pe_cal C_lowest hgd (hr.mono (by decide)) (by rfl) (pa_cons (pe_op op_mulW (pe_ix ix_tup (pv 0) pe_int (fun _ _ => rfl)) (pe_ix ix_tup (pv 1) pe_int (fun _ _ => rfl))) (pa_cons (pe_op op_mulW (pe_ix ix_tup (pv 0) pe_int (fun _ _ => rfl)) (pe_ix ix_tup (pv 1) pe_int (fun _ _ => rfl))) pa_nil)))))
end
section
variable {P : Program} {w : World} {K : PySem.W.Frag} {mg : Str → Option Value} {base : Heap} {v_ZERO v_ONE : V}
theorem gcd_step {u v : Int} (h : 0 < v) (hu : 0 ≤ u) : Int.gcd v (u - u / v * v) = Int.gcd u v := by
  have e : u - u / v * v = u % v := by rw [Int.emod_def, Int.mul_comm]
  have e2 : u % v = ((u.natAbs % v.natAbs : Nat) : Int) := by
    rw [Int.natCast_emod, Int.natAbs_of_nonneg hu, Int.natAbs_of_nonneg (Int.le_of_lt h)]
  rw [e, e2]
  show Nat.gcd v.natAbs (u.natAbs % v.natAbs) = Nat.gcd u.natAbs v.natAbs
  rw [Nat.gcd_comm u.natAbs, Nat.gcd_rec v.natAbs u.natAbs, Nat.gcd_comm]
theorem ok_greatest_divisor {f : Addr} {fd : FuncData} (F : Fun K "greatest_divisor" "greatest_divisor" s_greatest_divisor f fd) (T : Txt mg v_ZERO v_ONE) : GnOk P w K mg base CX0 1 f fd ["one", "other"] (toSp K w ss_greatest_divisor) :=
  sy_okX F sc_greatest_divisor (fun ds Θ R ⟨a, b, e, _⟩ => by rw [e]; rfl) (by decide) (fun cdv A outer s H E hg hr => p_greatest_divisor T f cdv A outer s H E hg hr) fun H ds Θ R ⟨a, b, e, ha, hb, k⟩ => by
    subst e
    show Rn _ _ [some (.int a), some (.int b), none, none, none] Θ _
    repeat' (first | infer_instance | fail)
    refine x_while (fun m Γ1 Θ1 => Θ1 = Θ ∧ ∃ (u v : Int) (z : Option Da), Γ1 = [some (.int a), some (.int b), some (.int u), some (.int v), z] ∧ 0 ≤ u ∧ 0 ≤ v ∧ Bd 8000 u ∧ Bd 8000 v ∧ Int.gcd u v = Int.gcd a b ∧ v.toNat = m) (if b < 0 then -b else b).toNat ⟨rfl, _, _, _, rfl, ?_, ?_, ?_, ?_, ?_, rfl⟩ ?_
    · split <;> omega
    · split <;> omega
    · unfold Bd at *; split <;> omega
    · unfold Bd at *; split <;> omega
    · have e1 : (if a < 0 then -a else a) = (a.natAbs : Int) := by split <;> omega
      have e2 : (if b < 0 then -b else b) = (b.natAbs : Int) := by split <;> omega
      rw [e1, e2]
      rfl
    · rintro m Γ1 Θ1 ⟨rfl, u, v, z, rfl, hu, hv, bu, bv, hg, hm⟩
      repeat' (first | infer_instance | fail)
      refine ⟨fun hlt => ?_, fun hlt => ?_⟩
      · have hlt : 0 < v := of_decide_eq_true hlt
        have c1 : CDivW u v := bv.cd hlt
        have q0 : 0 ≤ u / v := Int.ediv_nonneg hu hv
        have q1 : u / v ≤ u := Int.ediv_le_self _ hu
        have bq : Bd 8000 (u / v) := by unfold Bd at *; omega
        have c2 : CMulW (u / v) v := bq.cm bv
        have e : u - u / v * v = u % v := by rw [Int.emod_def, Int.mul_comm]
        have m0 : 0 ≤ u % v := Int.emod_nonneg _ (by omega)
        have m1 : u % v < v := Int.emod_lt_of_pos _ hlt
        repeat' (first | infer_instance | fail)
        refine fg_all ⟨(u % v).toNat, by omega, rfl, v, u % v, _, by rw [e]; rfl, hv, m0, bv, by unfold Bd at *; omega, by rw [← e, gcd_step hlt hu, hg], rfl⟩
      · have h0 : v = 0 := by have := of_decide_eq_false hlt; omega
        subst h0
        have eu : (Int.gcd a b : Int) = u := by
          rw [← hg, Int.gcd_zero_right]
          omega
        repeat' (first | infer_instance | fail)
        rw [eu] at k
        exact ft_all k
theorem ok_lowest {f : Addr} {fd : FuncData} (F : Fun K "lowest" "lowest" s_lowest f fd) (T : Txt mg v_ZERO v_ONE) (C : Cal P w K mg base 1 "greatest_divisor" ["one", "other"] [] ss_greatest_divisor) : GnOk P w K mg base CX0 2 f fd ["above", "below"] (toSp K w ss_lowest) :=
  sy_okX F sc_lowest (fun ds Θ R ⟨a, b, e, _⟩ => by rw [e]; rfl) (by decide) (fun cdv A outer s H E hg hr => p_lowest T C f cdv A outer s H E hg hr) fun H ds Θ R ⟨a, b, e, ha, hb, h0, k⟩ => by
    subst e
    show Rn _ _ [some (.int a), some (.int b), none] Θ _
    repeat' (first | infer_instance | fail)
    refine ⟨[], Θ, .nil, a, b, rfl, ha, hb, ?_⟩
    simp only [List.append_nil]
    have g0 : 0 < Int.gcd a b := Int.gcd_pos_of_ne_zero_right _ (by omega)
    have bg : Bd 8000 (Int.gcd a b : Int) := by
      have : Int.gcd a b ≤ b.natAbs := Int.gcd_le_natAbs_right _ (by omega)
      unfold Bd at *
      omega
    have c1 : CDivW a (Int.gcd a b : Int) := bg.cd (by omega)
    have c2 : CDivW b (Int.gcd a b : Int) := bg.cd (by omega)
    repeat' (first | infer_instance | fail)
    refine ⟨fun h => ?_, fun h => ?_⟩
    · exact absurd (of_decide_eq_true h) (by omega)
    · repeat' (first | infer_instance | fail)
      refine ⟨by show 2 ≤ sizeLine; decide, ft_all ?_⟩
      have e : Da.tup [.int (a / (Int.gcd a b : Int)), .int (b / (Int.gcd a b : Int))] = frac (mkRat a b.toNat) := by
        unfold frac
        rw [Rat.num_mkRat, Rat.den_mkRat, if_neg (by omega), if_neg (by omega)]
        have e1 : Int.gcd a b = b.toNat.gcd a.natAbs := by
          rw [Int.gcd_comm]
          show Nat.gcd b.natAbs a.natAbs = _
          congr 1
          omega
        rw [e1, Int.natCast_ediv, Int.toNat_of_nonneg (by omega)]
      rw [e]
      exact k
theorem Sz.d {n : Nat} {q : Rat} (h : Sz n q) : Bd n (q.den : Int) := by
  have := h.2
  unfold Bd
  omega
theorem den_pos (q : Rat) : 0 < (q.den : Int) := by
  have := q.den_pos
  omega
def callL : Ss := ss_lowest
theorem ok_plus {f : Addr} {fd : FuncData} (F : Fun K "plus" "plus" s_plus f fd) (T : Txt mg v_ZERO v_ONE) (C : Cal P w K mg base 2 "lowest" ["above", "below"] [] ss_lowest) : GnOk P w K mg base CX0 3 f fd ["one", "other"] (toSp K w ss_plus) :=
  sy_okX F sc_plus (fun ds Θ R ⟨a, b, e, _⟩ => by rw [e]; rfl) (by decide) (fun cdv A outer s H E hg hr => p_plus T C f cdv A outer s H E hg hr) fun H ds Θ R ⟨a, b, e, ha, hb, k⟩ => by
    subst e
    show Rn _ _ [some (.tup [.int a.num, .int (a.den : Int)]), some (.tup [.int b.num, .int (b.den : Int)])] Θ _
    have c1 : CMulW a.num b.den := ha.1.cm hb.d
    have c2 : CMulW b.num a.den := hb.1.cm ha.d
    have c3 : CMulW a.den b.den := ha.d.cm hb.d
    repeat' (first | infer_instance | fail)
    refine ⟨[], Θ, .nil, _, _, rfl, ((ha.1.mul hb.d).add (hb.1.mul ha.d)).mono (by decide), (ha.d.mul hb.d).mono (by decide), Int.mul_pos (den_pos a) (den_pos b), ?_⟩
    simp only [List.append_nil]
    refine ft_all ?_
    have e : mkRat (a.num * b.den + b.num * a.den) ((a.den : Int) * b.den).toNat = a + b := by rw [Rat.add_def', ← Int.natCast_mul, Int.toNat_natCast]
    rw [e]
    exact k
theorem ok_minus {f : Addr} {fd : FuncData} (F : Fun K "minus" "minus" s_minus f fd) (T : Txt mg v_ZERO v_ONE) (C : Cal P w K mg base 2 "lowest" ["above", "below"] [] ss_lowest) : GnOk P w K mg base CX0 3 f fd ["one", "other"] (toSp K w ss_minus) :=
  sy_okX F sc_minus (fun ds Θ R ⟨a, b, e, _⟩ => by rw [e]; rfl) (by decide) (fun cdv A outer s H E hg hr => p_minus T C f cdv A outer s H E hg hr) fun H ds Θ R ⟨a, b, e, ha, hb, k⟩ => by
    subst e
    show Rn _ _ [some (.tup [.int a.num, .int (a.den : Int)]), some (.tup [.int b.num, .int (b.den : Int)])] Θ _
    have c1 : CMulW a.num b.den := ha.1.cm hb.d
    have c2 : CMulW b.num a.den := hb.1.cm ha.d
    have c3 : CMulW a.den b.den := ha.d.cm hb.d
    repeat' (first | infer_instance | fail)
    refine ⟨[], Θ, .nil, _, _, rfl, ((ha.1.mul hb.d).sub (hb.1.mul ha.d)).mono (by decide), (ha.d.mul hb.d).mono (by decide), Int.mul_pos (den_pos a) (den_pos b), ?_⟩
    simp only [List.append_nil]
    refine ft_all ?_
    have e : mkRat (a.num * b.den - b.num * a.den) ((a.den : Int) * b.den).toNat = a - b := by rw [Rat.sub_def', ← Int.natCast_mul, Int.toNat_natCast]
    rw [e]
    exact k
theorem ok_times {f : Addr} {fd : FuncData} (F : Fun K "times" "times" s_times f fd) (T : Txt mg v_ZERO v_ONE) (C : Cal P w K mg base 2 "lowest" ["above", "below"] [] ss_lowest) : GnOk P w K mg base CX0 3 f fd ["one", "other"] (toSp K w ss_times) :=
  sy_okX F sc_times (fun ds Θ R ⟨a, b, e, _⟩ => by rw [e]; rfl) (by decide) (fun cdv A outer s H E hg hr => p_times T C f cdv A outer s H E hg hr) fun H ds Θ R ⟨a, b, e, ha, hb, k⟩ => by
    subst e
    show Rn _ _ [some (.tup [.int a.num, .int (a.den : Int)]), some (.tup [.int b.num, .int (b.den : Int)])] Θ _
    have c1 : CMulW a.num b.num := ha.1.cm hb.1
    have c3 : CMulW a.den b.den := ha.d.cm hb.d
    repeat' (first | infer_instance | fail)
    refine ⟨[], Θ, .nil, _, _, rfl, (ha.1.mul hb.1).mono (by decide), (ha.d.mul hb.d).mono (by decide), Int.mul_pos (den_pos a) (den_pos b), ?_⟩
    simp only [List.append_nil]
    refine ft_all ?_
    have e : mkRat (a.num * b.num) ((a.den : Int) * b.den).toNat = a * b := by rw [Rat.mul_def, Rat.normalize_eq_mkRat, ← Int.natCast_mul, Int.toNat_natCast]
    rw [e]
    exact k
theorem over_eq {a b : Rat} (h : 0 < b) : mkRat (a.num * b.den) ((a.den : Int) * b.num).toNat = a / b := by
  have hn : 0 < b.num := by
    have := Rat.lt_iff 0 b
    have := this.mp h
    simpa using this
  have e1 : ((((a.den : Int) * b.num).toNat : Int)) = (a.den : Int) * b.num := Int.toNat_of_nonneg (Int.le_of_lt (Int.mul_pos (den_pos a) hn))
  have e2 : ((((a.den : Int) * b.num).toNat : Nat) : Rat) = (a.den : Rat) * (b.num : Rat) := by
    rw [← Rat.intCast_natCast, e1, Rat.intCast_mul, Rat.intCast_natCast]
  rw [Rat.mkRat_eq_div, e2, Rat.intCast_mul, Rat.intCast_natCast]
  have ea : a = (a.num : Rat) / (a.den : Rat) := by rw [← Rat.mkRat_eq_div, Rat.mkRat_self]
  have eb : b = (b.num : Rat) / (b.den : Rat) := by rw [← Rat.mkRat_eq_div, Rat.mkRat_self]
  have d1 : (a.den : Rat) ≠ 0 := by
    intro z
    have := a.den_nz
    exact this (by exact_mod_cast z)
  have d2 : (b.den : Rat) ≠ 0 := by
    intro z
    have := b.den_nz
    exact this (by exact_mod_cast z)
  have d3 : (b.num : Rat) ≠ 0 := by
    intro z
    have : b.num = 0 := by exact_mod_cast z
    omega
  generalize (a.num : Rat) = x at *
  generalize (a.den : Rat) = y at *
  generalize (b.num : Rat) = u at *
  generalize (b.den : Rat) = v at *
  rw [ea, eb]
  grind
theorem ok_over {f : Addr} {fd : FuncData} (F : Fun K "over" "over" s_over f fd) (T : Txt mg v_ZERO v_ONE) (C : Cal P w K mg base 2 "lowest" ["above", "below"] [] ss_lowest) : GnOk P w K mg base CX0 3 f fd ["one", "other"] (toSp K w ss_over) :=
  sy_okX F sc_over (fun ds Θ R ⟨a, b, e, _⟩ => by rw [e]; rfl) (by decide) (fun cdv A outer s H E hg hr => p_over T C f cdv A outer s H E hg hr) fun H ds Θ R ⟨a, b, e, ha, hb, h0, k⟩ => by
    subst e
    show Rn _ _ [some (.tup [.int a.num, .int (a.den : Int)]), some (.tup [.int b.num, .int (b.den : Int)])] Θ _
    have c1 : CMulW a.num b.den := ha.1.cm hb.d
    have c2 : CMulW a.den b.num := ha.d.cm hb.1
    have hn : 0 < b.num := by
      have := (Rat.lt_iff 0 b).mp h0
      simpa using this
    repeat' (first | infer_instance | fail)
    refine ⟨[], Θ, .nil, _, _, rfl, (ha.1.mul hb.d).mono (by decide), (ha.d.mul hb.1).mono (by decide), Int.mul_pos (den_pos a) hn, ?_⟩
    simp only [List.append_nil]
    refine ft_all ?_
    rw [over_eq h0]
    exact k
end
end K38

end
section
/-! k38, part C: whole numbers, arms, machines. -/
namespace K38
open PySem PySem.Spec PyProof.Rows L2 Sy
local macro_rules | `(tactic| infer_instance) => `(tactic| first
  | with_reducible refine x_seq ?_
  | with_reducible refine x_asg ?_
  | with_reducible refine x_ret ?_
  | with_reducible refine x_drop ?_
  | with_reducible refine x_par ?_
  | with_reducible refine x_if ?_
  | with_reducible refine ev_op ?_
  | with_reducible refine ev_un ?_
  | with_reducible refine ev_cb ?_
  | with_reducible refine ev_tup ?_
  | with_reducible refine ea_nil ?_
  | with_reducible refine ea_cons ?_
  | with_reducible refine ev_int ?_
  | with_reducible refine ev_bl ?_
  | with_reducible refine ev_str ?_
  | with_reducible refine ev_ty ?_
  | with_reducible refine ev_non ?_
  | with_reducible refine et_test ?_
  | with_reducible refine et_B ?_
  | with_reducible refine et_not ?_
  | with_reducible refine et_and ?_
  | with_reducible refine et_or ?_
  | with_reducible refine ev_cal ?_
  | with_reducible refine ev_if ?_
  | with_reducible refine ev_andV ?_
  | with_reducible refine ev_orV ?_
  | with_reducible refine ev_notV ?_
  | with_reducible refine ev_chain ?_
  | with_reducible refine x_drop ?_
  | with_reducible refine x_par ?_
  | refine ev_var rfl ?_
  | with_reducible refine x_next ?_
  | refine s_I (by assumption) ?_
  | refine s_isi rfl rfl ?_
  | refine s_I0 ?_
  | refine s_B0 ?_
  | refine s_neg ?_
  | refine s_eqI ?_
  | refine s_neI ?_
  | refine s_eqS ?_
  | refine s_isN ?_
  | refine s_notN ?_
  | refine s_abs ?_
  | refine s_max2 ?_
  | refine s_min2 ?_
  | refine s_int1 ?_
  | refine s_intB ?_
  | refine s_lenT ?_
  | refine s_lenF ?_
  | refine s_ixT rfl ?_
  | refine tg_name (of_decide_eq_true rfl) ?_
  | refine tg_tup rfl ?_
  | refine tgs_cons ?_
  | refine tgs_nil ?_
  | refine ⟨fun _ => ?_, fun z => nomatch (show true = false from z)⟩
  | refine ⟨fun z => (nomatch (show false = true from z)), fun _ => ?_⟩
  | with_reducible refine ⟨_, rfl, ?_⟩
  | refine ⟨_, _, rfl, of_decide_eq_true rfl, of_decide_eq_true rfl, ?_⟩
  | fail "x")
inductive Arm where
  | out (k : Nat) | at (n : Nat)
def Arm.da : Arm → Da
  | .out k => .tup [.str "out", .int (k : Int)]
  | .at n => .int (n : Int)
abbrev Mach := List (Arm × Arm)
def nda (p : Arm × Arm) : Da := .tup [p.1.da, p.2.da]
def mda (m : Mach) : Da := .tup (m.map nda)
def Arm.ok (many : Nat) : Arm → Prop
  | .out k => k < 26
  | .at n => n < many
structure MOk (m : Mach) : Prop where
  lo : 1 ≤ m.length
  hi : m.length ≤ 400
  arms : ∀ p ∈ m, p.1.ok m.length ∧ p.2.ok m.length
def ss_is_integer : Ss := fun ds Θ R => ∃ a lo hi : Int, ds = [.int a, .int lo, .int hi] ∧ R (.bl (decide (lo ≤ a) && decide (a ≤ hi))) Θ
def ss_is_arm : Ss := fun ds Θ R => ∃ (a : Arm) (many : Nat), ds = [a.da, .int (many : Int)] ∧ a.ok many ∧ R (.bl true) Θ
def ss_is_machine : Ss := fun ds Θ R => ∃ m : Mach, ds = [mda m] ∧ MOk m ∧ R (.bl true) Θ
def ss_need_machine : Ss := fun ds Θ R => ∃ m : Mach, ds = [mda m] ∧ MOk m ∧ R .non Θ
def Arm.below (c : Nat) : Arm → Prop
  | .out k => k < c
  | .at _ => True
def ss_has_beyond : Ss := fun ds Θ R => ∃ (m : Mach) (c : Nat), ds = [mda m, .int (c : Int)] ∧ m.length ≤ 400 ∧ (∀ p ∈ m, p.1.below c ∧ p.2.below c) ∧ R (.bl false) Θ
abbrev t_is_integer (K : PySem.W.Frag) (w : World) (v_ZERO : V) (v_ONE : V) : TS :=
  (tSeq (tIfS (tOr (tNot (tB (tCB (rIsi K) (tCons (tVar 0) (tCons (tC (.ty "int")) tNil))))) (tB (tCB (rIsi K) (tCons (tVar 0) (tCons (tC (.ty "bool")) tNil))))) (tRet (tC (.bl false))) tNext)
    (tRet (tAndV (tOrV (tOp rIsN (tVar 1) (tC .non)) (tOp (rI0 fun i j => .bl (decide (j ≤ i))) (tVar 0) (tVar 1))) (tOrV (tOp rIsN (tVar 2) (tC .non)) (tOp (rI0 fun i j => .bl (decide (i ≤ j))) (tVar 0) (tVar 2))))))
section
variable {P : Program} {w : World} {K : PySem.W.Frag} {mg : Str → Option Value} {base : Heap} {v_ZERO v_ONE : V}
theorem p_is_integer (T : Txt mg v_ZERO v_ONE)
    (fa : Addr) (cdv : Value) (A : Around) (outer : List Env) (s : Shared) (H : Hp) (E : XK) (hgd : A.guards = some []) (hr : Room 0 (A.deeper (envOfC "is_integer" (defScope s_is_integer) s.heap.objs.size fa cdv))) :
    PSs (cxOf CX0 P w K mg base N_is_integer "is_integer" (defScope s_is_integer) fa cdv A outer s H E).nox (defBody s_is_integer) (t_is_integer K w v_ZERO v_ONE) :=
  (pss_cons (ps_if (PW.pt (pw_or (pt_not (pt_val (pe_callB call_isi (by rfl) T.b_isinstance (by decide +kernel) (pa_cons (pv 0) (pa_cons (pe_bltn (by rfl) T.b_int (by decide +kernel) rfl) pa_nil))))) (pw_or1 (pt_val (pe_callB call_isi (by rfl) T.b_isinstance (by decide +kernel) (pa_cons (pv 0) (pa_cons (pe_bltn (by rfl) T.b_bool (by decide +kernel) rfl) pa_nil))))))) (pss_one (ps_ret pe_bl)) pss_nil)
    (pss_one (ps_ret (pe_and (pe_or (pe_cmpR op_isN (pv 1) pe_non (nomark _)) (pe_one (pe_cmpR op_ge (pv 0) (pv 1) (nomark _)))) (pe_one (pe_or (pe_cmpR op_isN (pv 2) pe_non (nomark _)) (pe_one (pe_cmpR op_le (pv 0) (pv 2) (nomark _)))))))))
end
abbrev t_is_arm (K : PySem.W.Frag) (w : World) (v_ZERO : V) (v_ONE : V) : TS :=
  (tSeq (tIfS (tB (tCB (rIsi K) (tCons (tVar 0) (tCons (tC (.ty "tuple")) tNil)))) (tRet (tAndV (tOp rEq (tCB (rLenS K) (tCons (tVar 0) tNil)) (tC (.int 2))) (tAndV (tOp rEq (tOp (rIxT K) (tVar 0) (tC (.int 0))) (tC (.str "out"))) (tCall (toSp K w ss_is_integer) [] xk0 (tCons (tOp (rIxT K) (tVar 0) (tC (.int 1))) (tCons (tC (.int 0)) (tCons (tOp (rI0 fun i j => .int (i - j)) (tC (.int 26)) (tC (.int 1))) tNil))))))) tNext)
    (tRet (tCall (toSp K w ss_is_integer) [] xk0 (tCons (tVar 0) (tCons (tC (.int 0)) (tCons (tOp (rI0 fun i j => .int (i - j)) (tVar 1) (tC (.int 1))) tNil))))))
section
variable {P : Program} {w : World} {K : PySem.W.Frag} {mg : Str → Option Value} {base : Heap} {v_ZERO v_ONE : V}
theorem p_is_arm (T : Txt mg v_ZERO v_ONE)
    (C_is_integer : Cal P w K mg base 1 "is_integer" ["thing", "low", "high"] kb_is_integer ss_is_integer)
    (fa : Addr) (cdv : Value) (A : Around) (outer : List Env) (s : Shared) (H : Hp) (E : XK) (hgd : A.guards = some []) (hr : Room 1 (A.deeper (envOfC "is_arm" (defScope s_is_arm) s.heap.objs.size fa cdv))) :
    PSs (cxOf CX0 P w K mg base N_is_arm "is_arm" (defScope s_is_arm) fa cdv A outer s H E).nox (defBody s_is_arm) (t_is_arm K w v_ZERO v_ONE) :=
  (pss_cons (ps_if (pt_val (pe_callB call_isi (by rfl) T.b_isinstance (by decide +kernel) (pa_cons (pv 0) (pa_cons (pe_bltn (by rfl) T.b_tuple (by decide +kernel) rfl) pa_nil)))) (pss_one (ps_ret (pe_and (pe_cmpR op_eq (pe_callB call_len_seq (by rfl) T.b_len (by decide +kernel) (pa_cons (pv 0) pa_nil)) pe_int (nomark _)) (pe_and (pe_cmpR op_eq (pe_ix ix_tup (pv 0) pe_int (fun _ _ => rfl)) pe_str (nomark _)) (pe_one (pe_cal C_is_integer hgd (hr.mono (by decide)) (by rfl) (pa_cons (pe_ix ix_tup (pv 0) pe_int (fun _ _ => rfl)) (pa_cons pe_int (pa_cons (pe_op op_sub (pe_gl T.c_MOST_OUTCOMES (by rfl)) pe_int) pa_nil))))))))) pss_nil)
    (pss_one (ps_ret (pe_cal C_is_integer hgd (hr.mono (by decide)) (by rfl) (pa_cons (pv 0) (pa_cons pe_int (pa_cons (pe_op op_sub (pv 1) pe_int) pa_nil)))))))
end
abbrev t_is_machine (K : PySem.W.Frag) (w : World) (v_ZERO : V) (v_ONE : V) : TS :=
  (tSeq (tIfS (tOr (tNot (tB (tCB (rIsi K) (tCons (tVar 0) (tCons (tC (.ty "tuple")) tNil))))) (tNot (tTest (tChain (rI0 fun i j => .bl (decide (i ≤ j))) (rI0 fun i j => .bl (decide (i ≤ j))) (tC (.int 1)) (tCB (rLenS K) (tCons (tVar 0) tNil)) (tC (.int 400)))))) (tRet (tC (.bl false))) tNext)
    (tSeq (tFor (iTup K (tVar 0)) (gName 1)
    (tIfS (tOr (tNot (tB (tCB (rIsi K) (tCons (tVar 1) (tCons (tC (.ty "tuple")) tNil))))) (tOr (tTest (tOp rNe (tCB (rLenS K) (tCons (tVar 1) tNil)) (tC (.int 2)))) (tNot (tB (tCB (rAll K) (tCons (tLc (iTup K (tVar 1)) (gName 2) tYes (tCall (toSp K w ss_is_arm) [] xk0 (tCons (tVar 2) (tCons (tCB (rLenS K) (tCons (tVar 0) tNil)) tNil))) [2]) tNil)))))) (tRet (tC (.bl false))) tNext))
    (tRet (tC (.bl true)))))
section
variable {P : Program} {w : World} {K : PySem.W.Frag} {mg : Str → Option Value} {base : Heap} {v_ZERO v_ONE : V}
theorem p_is_machine (T : Txt mg v_ZERO v_ONE)
    (C_is_arm : Cal P w K mg base 2 "is_arm" ["thing", "many"] kb_is_arm ss_is_arm)
    (fa : Addr) (cdv : Value) (A : Around) (outer : List Env) (s : Shared) (H : Hp) (E : XK) (hgd : A.guards = some []) (hr : Room 2 (A.deeper (envOfC "is_machine" (defScope s_is_machine) s.heap.objs.size fa cdv))) :
    PSs (cxOf CX0 P w K mg base N_is_machine "is_machine" (defScope s_is_machine) fa cdv A outer s H E).nox (defBody s_is_machine) (t_is_machine K w v_ZERO v_ONE) :=
  (pss_cons (ps_if (PW.pt (pw_or (pt_not (pt_val (pe_callB call_isi (by rfl) T.b_isinstance (by decide +kernel) (pa_cons (pv 0) (pa_cons (pe_bltn (by rfl) T.b_tuple (by decide +kernel) rfl) pa_nil))))) (pw_or1 (pt_not (pt_chain op_le op_le pe_int (pe_callB call_len_seq (by rfl) T.b_len (by decide +kernel) (pa_cons (pv 0) pa_nil)) (pe_gl T.c_MOST_NODES (by rfl))))))) (pss_one (ps_ret pe_bl)) pss_nil)
    (pss_cons (ps_for PassesOwn.never rfl (pi_tup (pv 0)) (pg_name (i := 1) sc_is_machine.nd rfl (by first | exact Or.inl rfl | exact Or.inr rfl))
    (pss_one (ps_if (PW.pt (pw_or (pt_not (pt_val (pe_callB call_isi (by rfl) T.b_isinstance (by decide +kernel) (pa_cons (pv 1) (pa_cons (pe_bltn (by rfl) T.b_tuple (by decide +kernel) rfl) pa_nil))))) (pw_or (pt_cmpR op_ne (pe_callB call_len_seq (by rfl) T.b_len (by decide +kernel) (pa_cons (pv 1) pa_nil)) pe_int (nomark _)) (pw_or1 (pt_not (pt_val (pe_callB (cr_all rfl) (by rfl) T.b_all (by decide +kernel) (pa_cons (pe_lc (own := [("arm", 2)]) (g := (gName 2)) (tt := tYes) rfl sc_is_machine.nd (pi_tup (pv 1)) (blkOk_by (N := N_is_machine) (sc := defScope s_is_machine) (by decide +kernel)) (fun _ _ _ _ _ => (pg_name (i := 2) sc_is_machine.nd rfl (by first | exact Or.inl rfl | exact Or.inr rfl))) (fun _ _ _ _ _ => pts_nil) (fun _ _ _ _ _ => (pe_cal C_is_arm hgd (hr.mono (by decide)) (by rfl) (pa_cons (pv 2) (pa_cons (pe_callB call_len_seq (by rfl) T.b_len (by decide +kernel) (pa_cons (pv 0) pa_nil)) pa_nil))))) pa_nil)))))))) (pss_one (ps_ret pe_bl)) pss_nil)))
    (pss_one (ps_ret pe_bl))))
end
abbrev t_has_beyond (K : PySem.W.Frag) (w : World) (v_ZERO : V) (v_ONE : V) : TS :=
  (tRet (tCB (rAny K) (tCons (tLc2 (iTup K (tVar 0)) (gName 2) tYes (iTup K (tVar 2)) (gName 3) tYes (tAndV (tCB (rIsi K) (tCons (tVar 3) (tCons (tC (.ty "tuple")) tNil))) (tOp (rI0 fun i j => .bl (decide (j ≤ i))) (tOp (rIxT K) (tVar 3) (tC (.int 1))) (tVar 1))) [2, 3] [3]) tNil)))
section
variable {P : Program} {w : World} {K : PySem.W.Frag} {mg : Str → Option Value} {base : Heap} {v_ZERO v_ONE : V}
theorem p_has_beyond (T : Txt mg v_ZERO v_ONE)
    (fa : Addr) (cdv : Value) (A : Around) (outer : List Env) (s : Shared) (H : Hp) (E : XK) (hgd : A.guards = some []) (hr : Room 0 (A.deeper (envOfC "has_beyond" (defScope s_has_beyond) s.heap.objs.size fa cdv))) :
    PSs (cxOf CX0 P w K mg base N_has_beyond "has_beyond" (defScope s_has_beyond) fa cdv A outer s H E).nox (defBody s_has_beyond) (t_has_beyond K w v_ZERO v_ONE) :=
  (pss_one (ps_ret (pe_callB (cr_any rfl) (by rfl) T.b_any (by decide +kernel) (pa_cons (pe_lc2 (own := [("node", 2), ("arm", 3)]) (g := (gName 2)) (tt := tYes) rfl sc_has_beyond.nd (pi_tup (pv 0)) (blkOk_by (N := N_has_beyond) (sc := defScope s_has_beyond) (by decide +kernel)) (by decide) (fun _ _ _ _ _ => (pg_name (i := 2) sc_has_beyond.nd rfl (by first | exact Or.inl rfl | exact Or.inr rfl))) (fun _ _ _ _ _ => pts_nil) (fun _ _ _ _ _ => (pi_tup (pv 2))) (fun _ _ _ _ _ => (pg_name (i := 3) sc_has_beyond.nd rfl (by first | exact Or.inl rfl | exact Or.inr rfl))) (fun _ _ _ _ _ => pts_nil) (fun _ _ _ _ _ => (pe_and (pe_callB call_isi (by rfl) T.b_isinstance (by decide +kernel) (pa_cons (pv 3) (pa_cons (pe_bltn (by rfl) T.b_tuple (by decide +kernel) rfl) pa_nil))) (pe_one (pe_cmpR op_ge (pe_ix ix_tup (pv 3) pe_int (fun _ _ => rfl)) (pv 1) (nomark _)))))) pa_nil))))
end
abbrev t_need_machine (K : PySem.W.Frag) (w : World) (v_ZERO : V) (v_ONE : V) : TS :=
  (tIfS (tNot (tB (tCall (toSp K w ss_is_machine) [] xk0 (tCons (tVar 0) tNil)))) tNever tNext)
section
variable {P : Program} {w : World} {K : PySem.W.Frag} {mg : Str → Option Value} {base : Heap} {v_ZERO v_ONE : V}
theorem p_need_machine (T : Txt mg v_ZERO v_ONE)
    (C_is_machine : Cal P w K mg base 3 "is_machine" ["thing"] kb_is_machine ss_is_machine)
    (fa : Addr) (cdv : Value) (A : Around) (outer : List Env) (s : Shared) (H : Hp) (E : XK) (hgd : A.guards = some []) (hr : Room 3 (A.deeper (envOfC "need_machine" (defScope s_need_machine) s.heap.objs.size fa cdv))) :
    PSs (cxOf CX0 P w K mg base N_need_machine "need_machine" (defScope s_need_machine) fa cdv A outer s H E).nox (defBody s_need_machine) (t_need_machine K w v_ZERO v_ONE) :=
  (pss_one (ps_if (pt_not (pt_val (pe_cal C_is_machine hgd (hr.mono (by decide)) (by rfl) (pa_cons (pv 0) pa_nil)))) pss_never pss_nil))
end
section
variable {P : Program} {w : World} {K : PySem.W.Frag} {mg : Str → Option Value} {base : Heap} {v_ZERO v_ONE : V}
theorem ok_is_integer {f : Addr} {fd : FuncData} (F : FunD K "is_integer" "is_integer" (defArgs s_is_integer) (defBody s_is_integer) (defScope s_is_integer) [.non, .non] [] f fd) (T : Txt mg v_ZERO v_ONE) : GnOk P w K mg base CX0 1 f fd ["thing", "low", "high"] (toSp K w ss_is_integer) :=
  sy_okY F sc_is_integer (fun ds Θ R ⟨a, b, c, e, _⟩ => by rw [e]; rfl) (by decide) (fun cdv A outer s H E hg hr => p_is_integer T f cdv A outer s H E hg hr) fun H ds Θ R ⟨a, lo, hi, e, k⟩ => by
    subst e
    show Rn _ _ [some (.int a), some (.int lo), some (.int hi)] Θ _
    repeat' (first | infer_instance | fail)
    refine ⟨fun h => ?_, fun h => ?_⟩
    · rw [h, Bool.true_and] at k
      repeat' (first | infer_instance | fail)
      exact ft_all k
    · rw [h, Bool.false_and] at k
      exact ft_all k
theorem ok_is_arm {f : Addr} {fd : FuncData} (F : Fun K "is_arm" "is_arm" s_is_arm f fd) (T : Txt mg v_ZERO v_ONE) (C : Cal P w K mg base 1 "is_integer" ["thing", "low", "high"] kb_is_integer ss_is_integer) : GnOk P w K mg base CX0 2 f fd ["thing", "many"] (toSp K w ss_is_arm) :=
  sy_okX F sc_is_arm (fun ds Θ R ⟨a, b, e, _⟩ => by rw [e]; rfl) (by decide) (fun cdv A outer s H E hg hr => p_is_arm T C f cdv A outer s H E hg hr) fun H ds Θ R ⟨a, many, e, ha, k⟩ => by
    subst e
    cases a with
    | out j =>
      show Rn _ _ [some (.tup [.str "out", .int (j : Int)]), some (.int (many : Int))] Θ _
      have hj : j < 26 := ha
      repeat' (first | infer_instance | fail)
      refine ⟨[], Θ, .nil, _, _, _, rfl, ?_⟩
      simp only [List.append_nil]
      rw [decide_eq_true (by omega), decide_eq_true (by omega)]
      exact ft_all k
    | «at» j =>
      show Rn _ _ [some (.int (j : Int)), some (.int (many : Int))] Θ _
      have hj : j < many := ha
      repeat' (first | infer_instance | fail)
      refine ⟨[], Θ, .nil, _, _, _, rfl, ?_⟩
      simp only [List.append_nil]
      rw [decide_eq_true (by omega), decide_eq_true (by omega)]
      exact ft_all k
theorem ok_is_machine {f : Addr} {fd : FuncData} (F : Fun K "is_machine" "is_machine" s_is_machine f fd) (T : Txt mg v_ZERO v_ONE) (C : Cal P w K mg base 2 "is_arm" ["thing", "many"] kb_is_arm ss_is_arm) : GnOk P w K mg base CX0 3 f fd ["thing"] (toSp K w ss_is_machine) :=
  sy_okX F sc_is_machine (fun ds Θ R ⟨a, e, _⟩ => by rw [e]; rfl) (by decide) (fun cdv A outer s H E hg hr => p_is_machine T C f cdv A outer s H E hg hr) fun H ds Θ R ⟨m, e, hm, k⟩ => by
    subst e
    show Rn _ _ [some (.tup (m.map nda)), none, none] Θ _
    have l1 := hm.lo
    have l2 := hm.hi
    repeat' (first | infer_instance | fail)
    rw [List.length_map, decide_eq_true (show (1 : Int) ≤ m.length by omega)]
    repeat' (first | infer_instance | fail)
    rw [decide_eq_true (show (m.length : Int) ≤ 400 by omega)]
    repeat' (first | infer_instance | fail)
    refine x_forT (fun i Γ' Θ' => ∃ y z, Γ' = [some (.tup (m.map nda)), y, z] ∧ Θ' = Θ) (ev_var rfl ⟨_, rfl, ⟨_, _, rfl, rfl⟩, ?_, ?_⟩)
    · rintro i Γ' Θ' d hi hd ⟨y, z, rfl, rfl⟩
      obtain ⟨⟨u, v⟩, hp, rfl⟩ := List.mem_map.mp (List.mem_of_getElem? hd)
      have ha := hm.arms _ hp
      show Tg _ _ (.tup [u.da, v.da]) _ _ _
      repeat' (first | infer_instance | fail)
      refine lc_T (fun _ => .bl true) (into_name (by decide)) (ev_var rfl ⟨_, rfl, by show 2 ≤ sizeLine; decide, ?_, ?_⟩)
      · intro p acc d hd
        have e2 : ∃ a : Arm, d = a.da ∧ a.ok m.length := by
          rcases List.mem_cons.mp hd with e | e
          · exact ⟨u, e, ha.1⟩
          · exact ⟨v, List.mem_singleton.mp e, ha.2⟩
        obtain ⟨a, rfl, oa⟩ := e2
        show Tg _ _ _ [some (.tup (m.map nda)), some (.tup [u.da, v.da]), none] _ _
        repeat' (first | infer_instance | fail)
        refine ⟨[], _, .nil, a, m.length, by rw [List.length_map], oa, rfl, by rw [List.append_nil]⟩
      · intro p
        repeat' (first | infer_instance | fail)
        refine s_all (bs := [true, true]) mem_last ?_
        repeat' (first | infer_instance | fail)
        exact fg_pre ⟨_, _, rfl, rfl⟩
    · rintro Γ' Θ' ⟨y, z, rfl, rfl⟩
      repeat' (first | infer_instance | fail)
      exact ft_all k
theorem ok_has_beyond {f : Addr} {fd : FuncData} (F : Fun K "has_beyond" "has_beyond" s_has_beyond f fd) (T : Txt mg v_ZERO v_ONE) : GnOk P w K mg base CX0 1 f fd ["machine", "count"] (toSp K w ss_has_beyond) :=
  sy_okX F sc_has_beyond (fun ds Θ R ⟨a, b, e, _⟩ => by rw [e]; rfl) (by decide) (fun cdv A outer s H E hg hr => p_has_beyond T f cdv A outer s H E hg hr) fun H ds Θ R ⟨m, c, e, hm, hc, k⟩ => by
    subst e
    show Rn _ _ [some (.tup (m.map nda)), some (.int (c : Int)), none, none] Θ _
    repeat' (first | infer_instance | fail)
    refine ev_lc2 (into_name (by decide)) (into_name (by decide)) (by decide) (ei_tup (ev_var rfl ⟨_, rfl, fun p => ⟨fun i acc Θ' => acc = List.replicate (2 * i) (.bl false) ∧ Θ' = Θ ++ [(p, .lst acc)], ⟨rfl, rfl⟩, fun _ _ _ _ _ => trivial, ?_, ?_⟩⟩))
    · rintro i acc Θ' hi ⟨rfl, rfl⟩
      rw [List.length_map] at hi
      have e1 : (m.map nda).getD i .non = nda m[i] := getD_of (by rw [List.getElem?_map, List.getElem?_eq_getElem hi]; rfl)
      simp only [e1]
      have ha := hc _ (List.getElem_mem hi)
      generalize m[i] = pr at *
      obtain ⟨u, v⟩ := pr
      show Tg _ _ (.tup [u.da, v.da]) [some (.tup (m.map nda)), some (.int (c : Int)), none, none] _ _
      repeat' (first | infer_instance | fail)
      refine et_yes ⟨fun _ => ?_, fun z => nomatch z⟩
      refine ei_tup (ev_var rfl ⟨_, rfl, fun j acc Θ' => acc = List.replicate (2 * i + j) (.bl false) ∧ Θ' = Θ ++ [(p, .lst acc)], ⟨rfl, rfl⟩, fun _ _ _ _ _ => trivial, ?_, ?_⟩)
      · rintro j acc Θ' hj ⟨rfl, rfl⟩
        have hj : j < 2 := hj
        have e2 : ∃ a : Arm, [u.da, v.da].getD j .non = a.da ∧ a.below c := by
          match j, hj with
          | 0, _ => exact ⟨u, rfl, ha.1⟩
          | 1, _ => exact ⟨v, rfl, ha.2⟩
        obtain ⟨a, e2, oa⟩ := e2
        simp only [e2]
        show Tg _ _ _ [some (.tup (m.map nda)), some (.int (c : Int)), some (.tup [u.da, v.da]), none] _ _
        repeat' (first | infer_instance | fail)
        refine et_yes ⟨fun _ => ?_, fun z => nomatch z⟩
        have fin : ∀ b : Bool, b = false → ∃ Θ8, Put (Θ ++ [(p, Mo.lst (List.replicate (2 * i + j) (.bl false)))]) p (.lst (List.replicate (2 * i + j) (.bl false))) (.lst (List.replicate (2 * i + j) (.bl false) ++ [.bl b])) Θ8 ∧ (List.replicate (2 * i + j) (Da.bl false)).length < sizeLine ∧
            FgtT (fun acc Θ' => acc = List.replicate (2 * i + (j + 1)) (.bl false) ∧ Θ' = Θ ++ [(p, .lst acc)]) (List.replicate (2 * i + j) (.bl false) ++ [.bl b]) Θ8 := by
          rintro b rfl
          refine ⟨_, .last _, ?_, ft_all ⟨?_, rfl⟩⟩
          · rw [List.length_replicate]
            exact Nat.lt_of_le_of_lt (show 2 * i + j ≤ 1000 by omega) (by decide)
          · rw [show 2 * i + (j + 1) = (2 * i + j) + 1 from rfl, List.replicate_succ']
        cases a with
        | out q =>
          have oa : q < c := oa
          show EvG _ _ [some (.tup (m.map nda)), some (.int (c : Int)), some (.tup [u.da, v.da]), some (.tup [.str "out", .int (q : Int)])] _ _
          repeat' (first | infer_instance | fail)
          exact fin _ (decide_eq_false (by omega))
        | «at» q =>
          show EvG _ _ [some (.tup (m.map nda)), some (.int (c : Int)), some (.tup [u.da, v.da]), some (.int (q : Int))] _ _
          repeat' (first | infer_instance | fail)
          exact fin _ rfl
      · rintro acc Θ' ⟨rfl, rfl⟩
        exact ft_all ⟨rfl, rfl⟩
    · rintro acc Θ' ⟨rfl, rfl⟩
      repeat' (first | infer_instance | fail)
      refine s_any (bs := List.replicate (2 * m.length) false) ?_ ?_
      · rw [List.length_map, List.map_replicate]
        exact mem_last
      · rw [List.any_eq_false.mpr (fun x hx => by rw [(List.mem_replicate.mp hx).2]; decide)]
        exact ft_pre k
theorem ok_need_machine {f : Addr} {fd : FuncData} (F : Fun K "need_machine" "need_machine" s_need_machine f fd) (T : Txt mg v_ZERO v_ONE) (C : Cal P w K mg base 3 "is_machine" ["thing"] kb_is_machine ss_is_machine) : GnOk P w K mg base CX0 4 f fd ["thing"] (toSp K w ss_need_machine) :=
  sy_okX F sc_need_machine (fun ds Θ R ⟨a, e, _⟩ => by rw [e]; rfl) (by decide) (fun cdv A outer s H E hg hr => p_need_machine T C f cdv A outer s H E hg hr) fun H ds Θ R ⟨m, e, hm, k⟩ => by
    subst e
    show Rn _ _ [some (mda m)] Θ _
    repeat' (first | infer_instance | fail)
    refine ⟨[], _, .nil, m, rfl, hm, ?_⟩
    simp only [List.append_nil]
    repeat' (first | infer_instance | fail)
    exact ft_all k
end
end K38

end
section
/-! k38, part R: rows as lists of keys and fractions; what the package's dicts hold. -/
namespace K38
open PySem PySem.Spec PyProof.Rows L2 Sy
inductive Key where
  | toss | endl | node (n : Nat) | out (k : Nat)
  deriving DecidableEq
def Key.da : Key → Da
  | .toss => .str "tosses"
  | .endl => .str "endless"
  | .node n => .int (n : Int)
  | .out k => .tup [.str "out", .int (k : Int)]
def Key.kk : Key → NestedKey
  | .toss => .text "tosses"
  | .endl => .text "endless"
  | .node n => .num (n : Int)
  | .out k => .tup [.text "out", .num (k : Int)]
theorem Key.nk (k : Key) : k.da.nk = some k.kk := by cases k <;> rfl
theorem Key.inj {k l : Key} (h : k.kk = l.kk) : k = l := by
  cases k <;> cases l <;> simp [Key.kk] at h <;> first | rfl | (congr 1; omega) | (exact absurd h (by decide))
theorem Key.dep (k : Key) : k.kk.depth ≤ 8 := by cases k <;> simp [Key.kk, NestedKey.depth, NestedKey.depthAll]
theorem Key.nk_iff {k l : Key} : k.da.nk = l.da.nk ↔ k = l := by
  rw [k.nk, l.nk]
  exact ⟨fun h => Key.inj (Option.some.inj h), fun h => by rw [h]⟩
abbrev Row := List (Key × Rat)
def ent (p : Key × Rat) : Da × Da := (p.1.da, frac p.2)
def Row.kvs (r : Row) : Kvs := r.map ent
def look (r : Row) (k : Key) : Option Rat := (r.find? fun p => decide (p.1 = k)).map (·.2)
def rget (r : Row) (k : Key) : Rat := (look r k).getD 0
def rput (r : Row) (k : Key) (q : Rat) : Row := if (look r k).isSome then r.map (fun p => if p.1 = k then (p.1, q) else p) else r ++ [(k, q)]
def rdel (r : Row) (k : Key) : Row := r.filter fun p => decide (p.1 ≠ k)
theorem find_kvs (r : Row) (k : Key) : dfind r.kvs k.da = (r.find? fun p => decide (p.1 = k)).map ent := by
  induction r with
  | nil => rfl
  | cons p r ih =>
    unfold dfind Row.kvs at *
    rw [List.map_cons, List.find?_cons, List.find?_cons]
    show (match decide (p.1.da.nk = k.da.nk) with | true => some (ent p) | false => _) = _
    by_cases h : p.1 = k
    · rw [decide_eq_true h, decide_eq_true (Key.nk_iff.mpr h)]; rfl
    · rw [decide_eq_false h, decide_eq_false fun z => h (Key.nk_iff.mp z)]; exact ih
theorem get_kvs (r : Row) (k : Key) : dget r.kvs k.da = (look r k).map frac := by
  unfold dget look
  rw [find_kvs]
  cases r.find? fun p => decide (p.1 = k) <;> rfl
theorem getD_kvs (r : Row) (k : Key) : (dget r.kvs k.da).getD (frac 0) = frac (rget r k) := by
  rw [get_kvs]
  unfold rget
  cases look r k <;> rfl
theorem put_kvs (r : Row) (k : Key) (q : Rat) : dput r.kvs k.da (frac q) = (rput r k q).kvs := by
  unfold dput rput look
  rw [find_kvs]
  cases h : r.find? fun p => decide (p.1 = k) with
  | none => simp [Row.kvs, ent]
  | some p =>
    simp only [Option.map_some, Option.isSome_some, if_true, Row.kvs, List.map_map]
    refine List.map_congr_left fun x _ => ?_
    show (if x.1.da.nk = k.da.nk then ((ent x).1, frac q) else ent x) = ent (if x.1 = k then (x.1, q) else x)
    by_cases e : x.1 = k
    · rw [if_pos e, if_pos (Key.nk_iff.mpr e)]; rfl
    · rw [if_neg e, if_neg fun z => e (Key.nk_iff.mp z)]
theorem del_kvs (r : Row) (k : Key) : ddel r.kvs k.da = (rdel r k).kvs := by
  unfold ddel rdel Row.kvs
  rw [List.filter_map]
  congr 1
  refine List.filter_congr fun x _ => ?_
  show decide (x.1.da.nk ≠ k.da.nk) = decide (x.1 ≠ k)
  exact decide_eq_decide.mpr (not_congr Key.nk_iff)
theorem kvs_len (r : Row) : r.kvs.length = r.length := List.length_map ..

/-! ### the package's steps -/
def putInto (row : Row) (s : Rat) (other : Row) : Row := other.foldl (fun r p => rput r p.1 (rget r p.1 + s * p.2)) row
def rest (r : Row) (n : Nat) : Row := r.filter fun p => decide (p.1 ≠ .node n)
def closedRow (r : Row) (n : Nat) : Row := if rget r (.node n) = 1 then [(.endl, 1)] else putInto [] (1 / (1 - rget r (.node n))) (rest r n)
def Arm.key : Arm → Key
  | .out k => .out k
  | .at n => .node n
theorem Arm.key_da (a : Arm) : a.key.da = a.da := by cases a <;> rfl
def row0 (p : Arm × Arm) : Row := let r : Row := [(.toss, 1), (p.1.key, 1 / 2)]; rput r p.2.key (rget r p.2.key + 1 / 2)
/-- row i of the others when row n, closed, is c -/
def sub1 (n : Nat) (c : Row) (i : Nat) (r : Row) : Row := if i < n ∧ (look r (.node n)).isSome then putInto (rdel r (.node n)) (rget r (.node n)) c else r
def stepE (rows : List Row) (n : Nat) : List Row := let c := closedRow (rows.getD n []) n; (rows.set n c).mapIdx (sub1 n c)
def elim : Nat → List Row → List Row
  | 0, rows => rows
  | n + 1, rows => elim n (stepE rows n)
def solved (m : Mach) : Row := (elim m.length (m.map row0)).getD 0 []

/-! ### keys stand once -/
def NDk (r : Row) : Prop := (r.map (·.1)).Nodup
theorem look_some {r : Row} {k : Key} {q : Rat} (h : look r k = some q) : (k, q) ∈ r := by
  unfold look at h
  obtain ⟨p, hp, rfl⟩ := Option.map_eq_some_iff.mp h
  have h1 := List.find?_some hp
  have h2 := List.mem_of_find?_eq_some hp
  rw [← of_decide_eq_true h1]
  exact h2
theorem look_none {r : Row} {k : Key} (h : look r k = none) : ∀ p ∈ r, p.1 ≠ k := by
  unfold look at h
  have h1 := Option.map_eq_none_iff.mp h
  intro p hp e
  have := List.find?_eq_none.mp h1 p hp
  exact this (decide_eq_true e)
theorem look_of {r : Row} (nd : NDk r) {k : Key} {q : Rat} (h : (k, q) ∈ r) : look r k = some q := by
  induction r with
  | nil => cases h
  | cons p r ih =>
    unfold NDk at nd
    rw [List.map_cons, List.nodup_cons] at nd
    unfold look
    rw [List.find?_cons]
    by_cases e : p.1 = k
    · rw [decide_eq_true e]
      rcases List.mem_cons.mp h with h | h
      · rw [← h]; rfl
      · exact absurd (List.mem_map.mpr ⟨_, h, rfl⟩) (by rw [← e]; exact nd.1)
    · rw [decide_eq_false e]
      rcases List.mem_cons.mp h with h | h
      · exact absurd (by rw [← h]) e
      · exact ih nd.2 h
theorem rput_keys (r : Row) (k : Key) (q : Rat) : (rput r k q).map (·.1) = if (look r k).isSome then r.map (·.1) else r.map (·.1) ++ [k] := by
  unfold rput
  split
  · rw [List.map_map]
    refine List.map_congr_left fun x _ => ?_
    show (if x.1 = k then (x.1, q) else x).1 = x.1
    split <;> rfl
  · rw [List.map_append]; rfl
theorem rput_nd {r : Row} (h : NDk r) (k : Key) (q : Rat) : NDk (rput r k q) := by
  unfold NDk
  rw [rput_keys]
  split
  · exact h
  · rename_i e
    rw [List.nodup_append]
    refine ⟨h, by simp, fun a ha b hb z => ?_⟩
    obtain rfl : b = k := by simpa using hb
    subst z
    obtain ⟨p, hp, e2⟩ := List.mem_map.mp ha
    exact look_none (by simpa using e) p hp e2
theorem rdel_nd {r : Row} (h : NDk r) (k : Key) : NDk (rdel r k) := h.sublist ((List.filter_sublist).map _)
theorem putInto_nd {r : Row} (h : NDk r) (s : Rat) : ∀ other : Row, NDk (putInto r s other) := by
  intro other
  unfold putInto
  induction other generalizing r with
  | nil => exact h
  | cons p o ih => exact ih (rput_nd h _ _)
theorem putInto_snoc (r : Row) (s : Rat) (o : Row) (p : Key × Rat) : putInto r s (o ++ [p]) = rput (putInto r s o) p.1 (rget (putInto r s o) p.1 + s * p.2) := by
  unfold putInto
  rw [List.foldl_append]; rfl
theorem look_rput {r : Row} (k : Key) (q : Rat) (l : Key) : look (rput r k q) l = if l = k then some q else look r l := by
  unfold rput
  by_cases hs : (look r k).isSome
  · rw [if_pos hs]
    unfold look
    rw [List.find?_map]
    have e1 : (List.find? ((fun p : Key × Rat => decide (p.1 = l)) ∘ fun p => if p.1 = k then (p.1, q) else p) r) = r.find? fun p => decide (p.1 = l) := by
      congr 1
      funext p
      show decide ((if p.1 = k then (p.1, q) else p).1 = l) = decide (p.1 = l)
      split <;> rfl
    rw [e1]
    by_cases e : l = k
    · subst e
      rw [if_pos rfl]
      unfold look at hs
      cases h : r.find? fun p => decide (p.1 = l) with
      | none => rw [h] at hs; cases hs
      | some p =>
        have : p.1 = l := by simpa using List.find?_some h
        simp [this]
    · rw [if_neg e]
      cases h : r.find? fun p => decide (p.1 = l) with
      | none => rfl
      | some p =>
        have h1 : p.1 = l := by simpa using List.find?_some h
        have h2 : ¬ p.1 = k := fun z => e (h1.symm.trans z)
        simp [h2]
  · rw [if_neg hs]
    have hn : look r k = none := by simpa using hs
    unfold look
    rw [List.find?_append]
    by_cases e : l = k
    · subst e
      rw [if_pos rfl]
      unfold look at hn
      rw [Option.map_eq_none_iff.mp hn]
      simp
    · rw [if_neg e]
      have : (List.find? (fun p : Key × Rat => decide (p.1 = l)) [(k, q)]) = none := by
        rw [List.find?_cons, decide_eq_false (fun z => e z.symm)]; rfl
      rw [this, Option.or_none]
theorem rget_rput (r : Row) (k : Key) (q : Rat) (l : Key) : rget (rput r k q) l = if l = k then q else rget r l := by
  unfold rget
  rw [look_rput]
  split <;> rfl
/-- the row where nothing has come yet -/
theorem rget_putInto (r : Row) (s : Rat) {k : Key} : ∀ o : Row, (∀ p ∈ o, p.1 ≠ k) → rget (putInto r s o) k = rget r k := by
  intro o
  unfold putInto
  induction o generalizing r with
  | nil => intro _; rfl
  | cons p o ih =>
    intro h
    rw [List.foldl_cons, ih _ fun x hx => h x (List.mem_cons_of_mem _ hx), rget_rput, if_neg fun z => h p List.mem_cons_self z.symm]
theorem rput_len (r : Row) (k : Key) (q : Rat) : (rput r k q).length ≤ r.length + 1 := by
  have e := congrArg List.length (rput_keys r k q)
  rw [List.length_map] at e
  rw [e]
  split
  · rw [List.length_map]; omega
  · rw [List.length_append, List.length_map]; exact Nat.le_refl _
theorem putInto_len (r : Row) (s : Rat) : ∀ o : Row, (putInto r s o).length ≤ r.length + o.length := by
  intro o
  unfold putInto
  induction o generalizing r with
  | nil => exact Nat.le_refl _
  | cons p o ih =>
    rw [List.foldl_cons, List.length_cons]
    have h1 := ih (rput r p.1 (rget r p.1 + s * p.2))
    have h2 := rput_len r p.1 (rget r p.1 + s * p.2)
    omega
end K38

end
section
/-! k38, part D: put_into and closed_row. -/
namespace K38
open PySem PySem.Spec PyProof.Rows L2 Sy
local macro_rules | `(tactic| infer_instance) => `(tactic| first
  | with_reducible refine x_seq ?_
  | with_reducible refine x_asg ?_
  | with_reducible refine x_ret ?_
  | with_reducible refine x_drop ?_
  | with_reducible refine x_par ?_
  | with_reducible refine x_if ?_
  | with_reducible refine ev_op ?_
  | with_reducible refine ev_un ?_
  | with_reducible refine ev_cb ?_
  | with_reducible refine ev_tup ?_
  | with_reducible refine ea_nil ?_
  | with_reducible refine ea_cons ?_
  | with_reducible refine ev_int ?_
  | with_reducible refine ev_bl ?_
  | with_reducible refine ev_str ?_
  | with_reducible refine ev_ty ?_
  | with_reducible refine ev_non ?_
  | with_reducible refine et_test ?_
  | with_reducible refine et_B ?_
  | with_reducible refine et_not ?_
  | with_reducible refine et_and ?_
  | with_reducible refine et_or ?_
  | with_reducible refine ev_cal ?_
  | with_reducible refine ev_if ?_
  | with_reducible refine ev_andV ?_
  | with_reducible refine ev_orV ?_
  | with_reducible refine ev_notV ?_
  | with_reducible refine ev_chain ?_
  | with_reducible refine x_drop ?_
  | with_reducible refine x_par ?_
  | refine ev_var rfl ?_
  | with_reducible refine x_next ?_
  | refine s_I (by assumption) ?_
  | refine s_isi rfl rfl ?_
  | refine s_I0 ?_
  | refine s_B0 ?_
  | refine s_neg ?_
  | refine s_eqI ?_
  | refine s_neI ?_
  | refine s_eqS ?_
  | refine s_isN ?_
  | refine s_notN ?_
  | refine s_abs ?_
  | refine s_max2 ?_
  | refine s_min2 ?_
  | refine s_int1 ?_
  | refine s_intB ?_
  | refine s_lenT ?_
  | refine s_lenF ?_
  | refine s_ixT rfl ?_
  | refine tg_name (of_decide_eq_true rfl) ?_
  | refine tg_tup rfl ?_
  | refine tgs_cons ?_
  | refine tgs_nil ?_
  | refine ⟨fun _ => ?_, fun z => nomatch (show true = false from z)⟩
  | refine ⟨fun z => (nomatch (show false = true from z)), fun _ => ?_⟩
  | with_reducible refine ⟨_, rfl, ?_⟩
  | refine ⟨_, _, rfl, of_decide_eq_true rfl, of_decide_eq_true rfl, ?_⟩
  | fail "x")
theorem Sz.mk {n : Nat} {a : Int} {b : Nat} (ha : Bd n a) (hb : b < 2 ^ n) (h0 : b ≠ 0) : Sz n (mkRat a b) := by
  unfold Sz
  rw [Rat.num_mkRat, Rat.den_mkRat, if_neg h0, if_neg h0]
  refine ⟨?_, Nat.lt_of_le_of_lt (Nat.div_le_self _ _) hb⟩
  unfold Bd at *
  refine Nat.lt_of_le_of_lt ?_ ha
  rw [Int.natAbs_ediv_of_dvd (by
    rw [Int.ofNat_dvd_left]
    exact Nat.gcd_dvd_right _ _), Int.natAbs_natCast]
  exact Nat.div_le_self _ _
theorem Sz.mono {n m : Nat} {q : Rat} (h : Sz n q) (l : n ≤ m) : Sz m q := ⟨h.1.mono l, Nat.lt_of_lt_of_le h.2 (Nat.pow_le_pow_right (by decide) l)⟩
theorem Sz.add {n : Nat} {a b : Rat} (ha : Sz n a) (hb : Sz n b) : Sz (n + n + 1) (a + b) := by
  rw [Rat.add_def']
  refine .mk ((ha.1.mul hb.d).add (hb.1.mul ha.d)) ?_ (Nat.mul_ne_zero a.den_nz b.den_nz)
  have h1 : a.den * b.den < 2 ^ n * 2 ^ n := Nat.mul_lt_mul'' ha.2 hb.2
  rw [← Nat.pow_add] at h1
  exact Nat.lt_of_lt_of_le h1 (Nat.pow_le_pow_right (by decide) (by omega))
theorem Sz.sub {n : Nat} {a b : Rat} (ha : Sz n a) (hb : Sz n b) : Sz (n + n + 1) (a - b) := by
  rw [Rat.sub_def']
  refine .mk ((ha.1.mul hb.d).sub (hb.1.mul ha.d)) ?_ (Nat.mul_ne_zero a.den_nz b.den_nz)
  have h1 : a.den * b.den < 2 ^ n * 2 ^ n := Nat.mul_lt_mul'' ha.2 hb.2
  rw [← Nat.pow_add] at h1
  exact Nat.lt_of_lt_of_le h1 (Nat.pow_le_pow_right (by decide) (by omega))
theorem Sz.mul {n m : Nat} {a b : Rat} (ha : Sz n a) (hb : Sz m b) : Sz (n + m) (a * b) := by
  rw [Rat.mul_def, Rat.normalize_eq_mkRat]
  refine .mk (ha.1.mul hb.1) ?_ (Nat.mul_ne_zero a.den_nz b.den_nz)
  rw [Nat.pow_add]
  exact Nat.mul_lt_mul'' ha.2 hb.2
theorem Sz.zero : Sz 1 0 := ⟨by show (0 : Int).natAbs < 2; decide, by show 1 < 2; decide⟩
theorem Sz.one : Sz 1 1 := ⟨by show (1 : Int).natAbs < 2; decide, by show 1 < 2; decide⟩
theorem Sz.div {n m : Nat} {a b : Rat} (ha : Sz n a) (hb : Sz m b) (h : 0 < b) : Sz (n + m) (a / b) := by
  have hn : 0 < b.num := by simpa using (Rat.lt_iff 0 b).mp h
  rw [← over_eq h]
  have hp : 0 < (a.den : Int) * b.num := Int.mul_pos (den_pos a) hn
  refine .mk (ha.1.mul hb.d) ?_ (by omega)
  have := ha.d.mul hb.1
  unfold Bd at this
  omega
structure RowOk (n : Nat) (r : Row) : Prop where
  len : r.length ≤ 1000
  sz : ∀ p ∈ r, Sz n p.2
  nd : NDk r
theorem RowOk.get {n : Nat} {r : Row} (h : RowOk n r) (hn : 1 ≤ n) (k : Key) : Sz n (rget r k) := by
  unfold rget
  cases e : look r k with
  | none => exact Sz.zero.mono hn
  | some q => exact h.sz _ (look_some e)
def ss_put_into : Ss := fun ds Θ R => ∃ (a b : Addr) (row other : Row) (s : Rat), ds = [.ref a, frac s, .ref b] ∧ Θ = [(a, .dic row.kvs), (b, .dic other.kvs)] ∧ Sz 1400 s ∧ RowOk 1400 row ∧ RowOk 1400 other ∧ R .non [(a, .dic (putInto row s other).kvs), (b, .dic other.kvs)]
def ss_closed_row : Ss := fun ds Θ R => ∃ (a : Addr) (r : Row) (n : Nat), ds = [.ref a, .int (n : Int)] ∧ Θ = [(a, .dic r.kvs)] ∧ RowOk 600 r ∧ (rget r (.node n) ≠ 1 → 0 < 1 - rget r (.node n)) ∧ ∀ p, R (.ref p) [(a, .dic r.kvs), (p, .dic (closedRow r n).kvs)]
abbrev t_put_into (K : PySem.W.Frag) (w : World) (v_ZERO : V) (v_ONE : V) : TS :=
  (tLock (tFor (Dx.iPr w (tVar 2)) (gTup K 2 (gCons (gName 3) (gCons (gName 4) gNil)))
    (tAsg (tCall (toSp K w ss_plus) [] xk0 (tCons (Dx.tM K w (Dx.rGet2 K w) (tVar 0) (tCons (tVar 3) (tCons (tC v_ZERO) tNil))) (tCons (tCall (toSp K w ss_times) [] xk0 (tCons (tVar 1) (tCons (tVar 4) tNil))) tNil))) (gSub (tVar 0) (tVar 3) (Dx.rSet K w)))))
section
variable {P : Program} {w : World} {K : PySem.W.Frag} {mg : Str → Option Value} {base : Heap} {v_ZERO v_ONE : V}
theorem p_put_into (T : Txt mg v_ZERO v_ONE)
    (C_plus : Cal P w K mg base 3 "plus" ["one", "other"] kb_plus ss_plus)
    (C_times : Cal P w K mg base 3 "times" ["one", "other"] kb_times ss_times)
    (fa : Addr) (cdv : Value) (A : Around) (outer : List Env) (s : Shared) (H : Hp) (E : XK) (hgd : A.guards = some []) (hr : Room 3 (A.deeper (envOfC "put_into" (defScope s_put_into) s.heap.objs.size fa cdv))) :
    PSs (cxOf CX0 P w K mg base N_put_into "put_into" (defScope s_put_into) fa cdv A outer s H E).nox (defBody s_put_into) (t_put_into K w v_ZERO v_ONE) :=
  (pss_one (ps_lock (ps_for PassesOwn.never rfl (Dx.pi_pr (pv 2)) (pg_tup rfl (pgs_cons (pg_name (i := 3) sc_put_into.nd rfl (by first | exact Or.inl rfl | exact Or.inr rfl)) (pgs_cons (pg_name (i := 4) sc_put_into.nd rfl (by first | exact Or.inl rfl | exact Or.inr rfl)) pgs_nil)))
    (pss_one (ps_asg (pe_cal C_plus hgd (hr.mono (by decide)) (by rfl) (pa_cons (Dx.pe_m PySem.F.slot_dict_get PySem.F.type_dict_get (Dx.mt_get2 (hu20 hr)) (pv 0) (pa_cons (pv 3) (pa_cons (pe_gl T.c_ZERO (by rfl)) pa_nil))) (pa_cons (pe_cal C_times hgd (hr.mono (by decide)) (by rfl) (pa_cons (pv 1) (pa_cons (pv 4) pa_nil))) pa_nil))) (pg_sub (pv 0) (pv 3) (Dx.set_rule (hu20 hr))))))))
end
abbrev t_closed_row (K : PySem.W.Frag) (w : World) (v_ZERO : V) (v_ONE : V) : TS :=
  (tSeq (tLock (tAsg (Dx.tDcx K w (Dx.iPr w (tVar 0)) (gTup K 2 (gCons (gName 5) (gCons (gName 6) gNil))) (tTest (tOp (rNeD K) (tVar 5) (tVar 1))) (tVar 5) (tVar 6) [5, 6]) (gName 2)))
    (tSeq (tAsg (Dx.tM K w (Dx.rGet2 K w) (tVar 0) (tCons (tVar 1) (tCons (tC v_ZERO) tNil))) (gName 3))
    (tSeq (tIfS (tTest (tOp (rEqD K) (tVar 3) (tC v_ONE))) (tRet (Dx.tDis K w [((tC (.str "endless")), (tC v_ONE))])) tNext)
    (tSeq (tAsg (Dx.tNew w) (gName 4))
    (tSeq (tDrop (tCall (toSp K w ss_put_into) [] xk0 (tCons (tVar 4) (tCons (tCall (toSp K w ss_over) [] xk0 (tCons (tC v_ONE) (tCons (tCall (toSp K w ss_minus) [] xk0 (tCons (tC v_ONE) (tCons (tVar 3) tNil))) tNil))) (tCons (tVar 2) tNil)))))
    (tRet (tVar 4)))))))
section
variable {P : Program} {w : World} {K : PySem.W.Frag} {mg : Str → Option Value} {base : Heap} {v_ZERO v_ONE : V}
theorem p_closed_row (T : Txt mg v_ZERO v_ONE)
    (C_minus : Cal P w K mg base 3 "minus" ["one", "other"] kb_minus ss_minus)
    (C_over : Cal P w K mg base 3 "over" ["one", "other"] kb_over ss_over)
    (C_put_into : Cal P w K mg base 4 "put_into" ["row", "share", "other"] kb_put_into ss_put_into)
    (fa : Addr) (cdv : Value) (A : Around) (outer : List Env) (s : Shared) (H : Hp) (E : XK) (hgd : A.guards = some []) (hr : Room 4 (A.deeper (envOfC "closed_row" (defScope s_closed_row) s.heap.objs.size fa cdv))) :
    PSs (cxOf CX0 P w K mg base N_closed_row "closed_row" (defScope s_closed_row) fa cdv A outer s H E).nox (defBody s_closed_row) (t_closed_row K w v_ZERO v_ONE) :=
  (pss_cons (ps_lock (Dx.ps_setDcx (i := 2) (own := [("key", 5), ("weight", 6)]) (g := (gTup K 2 (gCons (gName 5) (gCons (gName 6) gNil)))) (tt := (tTest (tOp (rNeD K) (tVar 5) (tVar 1)))) (hu20 hr) rfl sc_closed_row.nd rfl rfl (swd_true rfl rfl rfl (by decide +kernel)) (Dx.pi_pr (pv 0)) (blkOk_by (N := N_closed_row) (sc := defScope s_closed_row) (by decide +kernel)) ⟨fun _ _ _ _ _ => (pg_tup rfl (pgs_cons (pg_name (i := 5) sc_closed_row.nd rfl (by first | exact Or.inl rfl | exact Or.inr rfl)) (pgs_cons (pg_name (i := 6) sc_closed_row.nd rfl (by first | exact Or.inl rfl | exact Or.inr rfl)) pgs_nil))), fun _ _ _ _ _ => (pts_one (pt_cmpR (op_neD hr.units) (pv 5) (pv 1) (nomark _))), fun _ _ _ _ _ => (pv 5), fun _ _ _ _ _ => (pv 6)⟩))
    (pss_cons (ps_set (i := 3) sc_closed_row.nd rfl (by first | exact Or.inl rfl | exact Or.inr rfl) (Dx.pe_m PySem.F.slot_dict_get PySem.F.type_dict_get (Dx.mt_get2 (hu20 hr)) (pv 0) (pa_cons (pv 1) (pa_cons (pe_gl T.c_ZERO (by rfl)) pa_nil))))
    (pss_cons (ps_if (pt_cmpR (op_eqD hr.units) (pv 3) (pe_gl T.c_ONE (by rfl)) (nomark _)) (pss_one (ps_ret (Dx.pe_dis (hu20 hr) (pps_cons pe_str (pe_gl T.c_ONE (by rfl)) pps_nil) (by rfl) (by rfl) (fun z => by cases z) (by decide)))) pss_nil)
    (pss_cons (ps_set (i := 4) sc_closed_row.nd rfl (by first | exact Or.inl rfl | exact Or.inr rfl) Dx.pe_new)
    (pss_cons (ps_expr (pe_cal C_put_into hgd (hr.mono (by decide)) (by rfl) (pa_cons (pv 4) (pa_cons (pe_cal C_over hgd (hr.mono (by decide)) (by rfl) (pa_cons (pe_gl T.c_ONE (by rfl)) (pa_cons (pe_cal C_minus hgd (hr.mono (by decide)) (by rfl) (pa_cons (pe_gl T.c_ONE (by rfl)) (pa_cons (pv 3) pa_nil))) pa_nil))) (pa_cons (pv 2) pa_nil)))))
    (pss_one (ps_ret (pv 4))))))))
end
section
variable {P : Program} {w : World} {K : PySem.W.Frag} {mg : Str → Option Value} {base : Heap} {v_ZERO v_ONE : V}
theorem ok_put_into {f : Addr} {fd : FuncData} (F : Fun K "put_into" "put_into" s_put_into f fd) (T : Txt mg v_ZERO v_ONE) (hz : ∀ H, Rp K H v_ZERO (frac 0)) (C1 : Cal P w K mg base 3 "plus" ["one", "other"] kb_plus ss_plus) (C2 : Cal P w K mg base 3 "times" ["one", "other"] kb_times ss_times) :
    GnOk P w K mg base CX0 4 f fd ["row", "share", "other"] (toSp K w ss_put_into) :=
  sy_okX F sc_put_into (fun ds Θ R ⟨_, _, _, _, _, e, _⟩ => by rw [e]; rfl) (by decide) (fun cdv A outer s H E hg hr => p_put_into T C1 C2 f cdv A outer s H E hg hr) fun H ds Θ R ⟨a, b, row, other, s, e, e2, zs, zr, zo, k⟩ => by
    subst e; subst e2
    show Rn _ _ [some (.ref a), some (frac s), some (.ref b), none, none] _ _
    refine x_lock (a := b) (.there .here) fun H0 S L => ?_
    refine x_for (ei_pr L (ev_var rfl ⟨rfl, fun i Γ' Θ' => ∃ y z, Γ' = [some (.ref a), some (frac s), some (.ref b), y, z] ∧ Θ' = [(a, .dic (putInto row s (other.take i)).kvs)], ⟨_, _, rfl, rfl⟩, fun _ _ _ _ _ => trivial, ?_, ?_⟩))
    · rintro i Γ' Θ' hi ⟨y, z, rfl, rfl⟩
      rw [kvs_len] at hi
      have e1 : other.kvs.getD i (.non, .non) = ent other[i] := by
        rw [List.getD_eq_getElem?_getD]
        unfold Row.kvs
        rw [List.getElem?_map, List.getElem?_eq_getElem hi]
        rfl
      simp only [e1]
      have hmem : other[i] ∈ other := List.getElem_mem hi
      have etake : other.take (i + 1) = other.take i ++ [other[i]] := by rw [List.take_add_one, List.getElem?_eq_getElem hi]; rfl
      -- the key stands for the first time
      have hfirst : ∀ p ∈ other.take i, p.1 ≠ (other[i]).1 := by
        intro p hp e
        obtain ⟨j, hj, hpj⟩ := List.mem_iff_getElem.mp hp
        have hj' : j < i := by rw [List.length_take] at hj; omega
        rw [List.getElem_take] at hpj
        have nd := zo.nd
        unfold NDk at nd
        have := List.pairwise_iff_getElem.mp nd j i (by rw [List.length_map]; omega) (by rw [List.length_map]; omega) hj'
        rw [List.getElem_map, List.getElem_map, hpj] at this
        exact this e
      have hget : rget (putInto row s (other.take i)) (other[i]).1 = rget row (other[i]).1 := rget_putInto row s _ hfirst
      have hlen : (putInto row s (other.take i)).length < sizeLine := by
        have h1 := putInto_len row s (other.take i)
        have h2 := zr.len
        have h3 := zo.len
        rw [List.length_take] at h1
        exact Nat.lt_of_le_of_lt (show _ ≤ 2000 by omega) (by decide)
      have e3 : putInto row s (other.take (i + 1)) = rput (putInto row s (other.take i)) (other[i]).1 (rget row (other[i]).1 + s * (other[i]).2) := by rw [etake, putInto_snoc, hget]
      rw [e3]
      have zk := zo.sz _ hmem
      have zg := zr.get (by decide) (other[i]).1
      generalize other[i] = pr at *
      obtain ⟨key, q⟩ := pr
      show Tg _ _ (.tup [key.da, frac q]) _ _ _
      repeat' (first | infer_instance | fail)
      refine ev_dget2 (ev_var rfl ⟨_, rfl, ⟨_, .head _⟩, ?_⟩)
      repeat' (first | infer_instance | fail)
      refine ev_con hz ?_
      repeat' (first | infer_instance | fail)
      refine ⟨_, _, _, key.kk, rfl, .head _, key.nk, key.dep, ?_⟩
      repeat' (first | infer_instance | fail)
      refine ⟨[], _, .nil, s, q, rfl, zs.mono (by decide), zk.mono (by decide), ?_⟩
      rw [getD_kvs, hget]
      repeat' (first | infer_instance | fail)
      refine ⟨[], _, .nil, _, _, rfl, zg.mono (by decide), (zs.mul zk).mono (by decide), ?_⟩
      refine tg_setD (ev_var rfl (ev_var rfl ⟨_, _, key.kk, _, rfl, .here, by rw [kvs_len]; exact hlen, key.nk, key.dep, ?_⟩))
      rw [put_kvs]
      exact fg_all ⟨_, _, rfl, rfl⟩
    · rintro Γ' Θ' ⟨y, z, rfl, rfl⟩
      rw [kvs_len, List.take_length]
      exact ft_all k
theorem frac_plain (q : Rat) : (frac q).plain = true := rfl
theorem key_plain (k : Key) : k.da.plain = true := by cases k <;> rfl
theorem key_shaped (k : Key) : SeqAt.shaped k.da.py = true := by
  cases k <;> simp [SeqAt.shaped, Key.da, Da.py, pyL, PyData.canLay0, PyData.canLayAll0, PyData.depth, PyData.depthAll] <;> decide +kernel
theorem key_eqv (k : Key) (n : Nat) : PyData.eqv k.da.py (Da.int (n : Int)).py = decide (k = .node n) := by
  cases k with
  | node m =>
    show ((m : Int) == (n : Int)) = _
    rw [Bool.eq_iff_iff]
    simp only [beq_iff_eq, decide_eq_true_eq, Key.node.injEq]
    omega
  | toss => rw [decide_eq_false (by intro h; cases h)]; rfl
  | endl => rw [decide_eq_false (by intro h; cases h)]; rfl
  | out j => rw [decide_eq_false (by intro h; cases h)]; rfl
theorem frac_eqv (a b : Rat) : PyData.eqv (frac a).py (frac b).py = decide (a = b) := by
  show ((a.num == b.num) && (((a.den : Int) == (b.den : Int)) && true)) = _
  rw [Bool.and_true, Bool.eq_iff_iff]
  simp only [Bool.and_eq_true, beq_iff_eq, decide_eq_true_eq]
  constructor
  · rintro ⟨h1, h2⟩
    exact Rat.ext h1 (by omega)
  · rintro rfl
    exact ⟨rfl, rfl⟩
theorem rest_snoc {r : Row} {n i : Nat} (hi : i < r.length) : rest (r.take (i + 1)) n = if r[i].1 = .node n then rest (r.take i) n else rest (r.take i) n ++ [r[i]] := by
  unfold rest
  rw [List.take_add_one, List.getElem?_eq_getElem hi, Option.toList_some, List.filter_append, List.filter_cons]
  by_cases h : r[i].1 = .node n
  · rw [if_pos h, if_neg (by simp [h])]; simp
  · rw [if_neg h, if_pos (by simp [h])]; rfl
theorem RowOk.rest {n m : Nat} {r : Row} (h : RowOk n r) : RowOk n (rest r m) :=
  ⟨Nat.le_trans (List.length_filter_le _ _) h.len, fun p hp => h.sz p (List.mem_filter.mp hp).1, h.nd.sublist (List.filter_sublist.map _)⟩
theorem RowOk.mono {n m : Nat} {r : Row} (h : RowOk n r) (l : n ≤ m) : RowOk m r := ⟨h.len, fun p hp => (h.sz p hp).mono l, h.nd⟩
theorem ok_closed_row {f : Addr} {fd : FuncData} (F : Fun K "closed_row" "closed_row" s_closed_row f fd) (T : Txt mg v_ZERO v_ONE) (hz : ∀ H, Rp K H v_ZERO (frac 0)) (ho : ∀ H, Rp K H v_ONE (frac 1)) (C1 : Cal P w K mg base 3 "minus" ["one", "other"] kb_minus ss_minus) (C2 : Cal P w K mg base 3 "over" ["one", "other"] kb_over ss_over)
    (C3 : Cal P w K mg base 4 "put_into" ["row", "share", "other"] kb_put_into ss_put_into) : GnOk P w K mg base CX0 5 f fd ["row", "node"] (toSp K w ss_closed_row) :=
  sy_okX F sc_closed_row (fun ds Θ R ⟨_, _, _, e, _⟩ => by rw [e]; rfl) (by decide) (fun cdv A outer s H E hg hr => p_closed_row T C1 C2 C3 f cdv A outer s H E hg hr) fun H ds Θ R ⟨a, r, n, e, e2, zr, hb, k⟩ => by
    subst e; subst e2
    show Rn _ _ [some (.ref a), some (.int (n : Int)), none, none, none, none, none] _ _
    repeat' (first | infer_instance | fail)
    refine x_lock (a := a) .here fun H0 S L => ?_
    repeat' (first | infer_instance | fail)
    refine ev_dc (into_two (by decide) (by decide)) (ei_pr L (ev_var rfl ⟨rfl, fun p => ⟨fun i acc Θ' => acc = (rest (r.take i) n).kvs ∧ Θ' = [(p, .dic acc)], ⟨rfl, rfl⟩, fun _ _ _ _ _ => trivial, ?_, ?_⟩⟩))
    · rintro i acc Θ' hi ⟨rfl, rfl⟩
      rw [kvs_len] at hi
      have e1 : r.kvs.getD i (.non, .non) = ent r[i] := by
        rw [List.getD_eq_getElem?_getD]
        unfold Row.kvs
        rw [List.getElem?_map, List.getElem?_eq_getElem hi]
        rfl
      simp only [e1]
      rw [rest_snoc hi]
      have hfirst : ∀ q ∈ rest (r.take i) n, q.1 ≠ r[i].1 := by
        intro q hq e
        obtain ⟨j, hj, hpj⟩ := List.mem_iff_getElem.mp (List.mem_filter.mp hq).1
        have hj' : j < i := by rw [List.length_take] at hj; omega
        rw [List.getElem_take] at hpj
        have := List.pairwise_iff_getElem.mp zr.nd j i (by rw [List.length_map]; omega) (by rw [List.length_map]; omega) hj'
        rw [List.getElem_map, List.getElem_map, hpj] at this
        exact this e
      have hlen : (rest (r.take i) n).length < sizeLine := by
        have h1 : (rest (r.take i) n).length ≤ (r.take i).length := List.length_filter_le _ _
        have h2 := zr.len
        rw [List.length_take] at h1
        exact Nat.lt_of_le_of_lt (show _ ≤ 1000 by omega) (by decide)
      generalize r[i] = pr at *
      obtain ⟨key, q⟩ := pr
      show Tg _ _ (.tup [key.da, frac q]) [some (.ref a), some (.int (n : Int)), none, none, none, none, none] _ _
      repeat' (first | infer_instance | fail)
      refine s_neD (key_plain key) rfl (key_shaped key) rfl ?_
      rw [key_eqv]
      repeat' (first | infer_instance | fail)
      refine ⟨fun h => ?_, fun h => ?_⟩
      · have hk : key ≠ .node n := by simpa using h
        repeat' (first | infer_instance | fail)
        rw [if_neg hk]
        have e2 : dput (rest (r.take i) n).kvs key.da (frac q) = (rest (r.take i) n ++ [(key, q)]).kvs := by
          rw [put_kvs]
          unfold rput
          rw [if_neg]
          cases hl : look (rest (r.take i) n) key with
          | none => simp
          | some z => exact absurd rfl (hfirst (key, z) (look_some hl))
        rw [e2]
        exact ⟨key.kk, _, .here, key.nk, key.dep, by rw [kvs_len]; exact hlen, ft_all ⟨rfl, rfl⟩⟩
      · have hk : key = .node n := by simpa using h
        rw [if_pos hk]
        exact ft_all ⟨rfl, rfl⟩
    · rintro acc Θ' ⟨rfl, rfl⟩
      rw [kvs_len, List.take_length]
      repeat' (first | infer_instance | fail)
      refine ev_dget2 (ev_var rfl ⟨_, rfl, ⟨_, .tail _ (.head _)⟩, ?_⟩)
      repeat' (first | infer_instance | fail)
      refine ev_con hz ?_
      repeat' (first | infer_instance | fail)
      refine ⟨_, _, _, (Key.node n).kk, rfl, .tail _ (.head _), Key.nk (.node n), Key.dep _, ?_⟩
      rw [show Da.int (n : Int) = (Key.node n).da from rfl, getD_kvs]
      have zb := zr.get (by decide) (.node n)
      repeat' (first | infer_instance | fail)
      refine ev_con ho ?_
      refine s_eqD rfl rfl rfl rfl ?_
      rw [frac_eqv]
      have ec : closedRow r n = if rget r (.node n) = 1 then [(.endl, 1)] else putInto [] (1 / (1 - rget r (.node n))) (rest r n) := rfl
      generalize rget r (.node n) = back at *
      repeat' (first | infer_instance | fail)
      refine ⟨fun h => ?_, fun h => ?_⟩
      · have hk : back = 1 := of_decide_eq_true h
        rw [if_pos hk] at ec
        rw [ec] at k
        repeat' (first | infer_instance | fail)
        refine ev_disp fun q => ?_
        show EvG _ _ _ _ _
        repeat' (first | infer_instance | fail)
        refine ev_con ho ?_
        exact ⟨_, .there (.there .here), by decide, fun x hx => by
          obtain rfl := List.mem_singleton.mp hx
          exact ⟨_, Key.nk .endl, Key.dep .endl⟩, _, _, .cons (.there .here) (.cons (.there .here) .nil), k q⟩
      · have hk : back ≠ 1 := of_decide_eq_false h
        rw [if_neg hk] at ec
        rw [ec] at k
        repeat' (first | infer_instance | fail)
        refine ev_dnew fun q => ?_
        repeat' (first | infer_instance | fail)
        refine ev_con ho ?_
        repeat' (first | infer_instance | fail)
        refine ev_con ho ?_
        repeat' (first | infer_instance | fail)
        refine ⟨[], _, .nil, 1, back, rfl, Sz.one.mono (by decide), zb.mono (by decide), ?_⟩
        repeat' (first | infer_instance | fail)
        have z1 : Sz 1201 (1 - back) := (Sz.one.mono (by decide)).sub zb
        refine ⟨[], _, .nil, 1, 1 - back, rfl, Sz.one.mono (by decide), z1.mono (by decide), hb hk, ?_⟩
        repeat' (first | infer_instance | fail)
        refine ⟨[(q, .dic []), (p, .dic (rest r n).kvs)], [(a, .dic r.kvs)], .cons (.there (.there .here)) (.cons .here .nil), q, p, [], rest r n, 1 / (1 - back), rfl, rfl, ?_, ⟨by decide, fun _ z => (nomatch z), .nil⟩, zr.rest.mono (by decide), ?_⟩
        · exact (Sz.one.div z1 (hb hk)).mono (by decide)
        · repeat' (first | infer_instance | fail)
          exact ⟨_, _, .cons .here (.cons .here .nil), k q⟩
end
end K38

end
section
/-! k38, part E: solved_machine. -/
namespace K38
open PySem PySem.Spec PyProof.Rows L2 Sy
local macro_rules | `(tactic| infer_instance) => `(tactic| first
  | with_reducible refine x_seq ?_
  | with_reducible refine x_asg ?_
  | with_reducible refine x_ret ?_
  | with_reducible refine x_drop ?_
  | with_reducible refine x_par ?_
  | with_reducible refine x_if ?_
  | with_reducible refine ev_op ?_
  | with_reducible refine ev_un ?_
  | with_reducible refine ev_cb ?_
  | with_reducible refine ev_tup ?_
  | with_reducible refine ea_nil ?_
  | with_reducible refine ea_cons ?_
  | with_reducible refine ev_int ?_
  | with_reducible refine ev_bl ?_
  | with_reducible refine ev_str ?_
  | with_reducible refine ev_ty ?_
  | with_reducible refine ev_non ?_
  | with_reducible refine et_test ?_
  | with_reducible refine et_B ?_
  | with_reducible refine et_not ?_
  | with_reducible refine et_and ?_
  | with_reducible refine et_or ?_
  | with_reducible refine ev_cal ?_
  | with_reducible refine ev_if ?_
  | with_reducible refine ev_andV ?_
  | with_reducible refine ev_orV ?_
  | with_reducible refine ev_notV ?_
  | with_reducible refine ev_chain ?_
  | with_reducible refine x_drop ?_
  | with_reducible refine x_par ?_
  | refine ev_var rfl ?_
  | with_reducible refine x_next ?_
  | refine s_I (by assumption) ?_
  | refine s_isi rfl rfl ?_
  | refine s_I0 ?_
  | refine s_B0 ?_
  | refine s_neg ?_
  | refine s_eqI ?_
  | refine s_neI ?_
  | refine s_eqS ?_
  | refine s_isN ?_
  | refine s_notN ?_
  | refine s_abs ?_
  | refine s_max2 ?_
  | refine s_min2 ?_
  | refine s_int1 ?_
  | refine s_intB ?_
  | refine s_lenT ?_
  | refine s_lenF ?_
  | refine s_ixT rfl ?_
  | refine tg_name (of_decide_eq_true rfl) ?_
  | refine tg_tup rfl ?_
  | refine tgs_cons ?_
  | refine tgs_nil ?_
  | refine ⟨fun _ => ?_, fun z => nomatch (show true = false from z)⟩
  | refine ⟨fun z => (nomatch (show false = true from z)), fun _ => ?_⟩
  | with_reducible refine ⟨_, rfl, ?_⟩
  | refine ⟨_, _, rfl, of_decide_eq_true rfl, of_decide_eq_true rfl, ?_⟩
  | fail "x")
def RunOk : Nat → List Row → Prop
  | 0, _ => True
  | n + 1, rows => (∀ r ∈ rows, RowOk 600 r) ∧ (rget (rows.getD n []) (.node n) ≠ 1 → 0 < 1 - rget (rows.getD n []) (.node n)) ∧ RowOk 1400 (closedRow (rows.getD n []) n) ∧ RunOk n (stepE rows n)
def ss_solved_machine : Ss := fun ds Θ R => ∃ m : Mach, ds = [mda m] ∧ Θ = [] ∧ MOk m ∧ RunOk m.length (m.map row0) ∧ ∀ p, R (.ref p) [(p, .dic (solved m).kvs)]
def dm (r : Row) : Mo := .dic r.kvs
abbrev dics (ps : List Addr) (rows : List Row) : Th := mos ps (rows.map dm)
def rowsE (n : Nat) (c : Row) (B : List Row) (e : Nat) : List Row := B.mapIdx fun i r => if i < e then sub1 n c i r else r
theorem rowsE_zero (n : Nat) (c : Row) (B : List Row) : rowsE n c B 0 = B := by
  refine List.ext_getElem? fun i => ?_
  unfold rowsE
  rw [List.getElem?_mapIdx]
  cases B[i]? <;> rfl
theorem rowsE_all (rows : List Row) (n : Nat) : rowsE n (closedRow (rows.getD n []) n) (rows.set n (closedRow (rows.getD n []) n)) n = stepE rows n := by
  unfold stepE rowsE
  refine List.ext_getElem? fun i => ?_
  rw [List.getElem?_mapIdx, List.getElem?_mapIdx]
  congr 1
  funext r
  by_cases h : i < n
  · rw [if_pos h]
  · rw [if_neg h]
    unfold sub1
    rw [if_neg fun z => h z.1]
theorem rowsE_succ {n : Nat} {c : Row} {B : List Row} {e : Nat} {r : Row} (h : B[e]? = some r) : rowsE n c B (e + 1) = (rowsE n c B e).set e (sub1 n c e r) := by
  unfold rowsE
  refine List.ext_getElem? fun i => ?_
  rw [List.getElem?_mapIdx, List.getElem?_set, List.getElem?_mapIdx, List.length_mapIdx]
  have hl : e < B.length := (List.getElem?_eq_some_iff.mp h).1
  by_cases q : e = i
  · subst q
    rw [if_pos rfl, if_pos hl, h]
    simp
  · rw [if_neg q]
    cases B[i]? with
    | none => rfl
    | some x =>
      show some _ = some _
      by_cases z : i < e
      · simp only [if_pos z, if_pos (show i < e + 1 by omega)]
      · simp only [if_neg z, if_neg (show ¬ i < e + 1 by omega)]
theorem rowsE_at {n : Nat} {c : Row} {B : List Row} {e i : Nat} {r : Row} (h : B[i]? = some r) (hi : e ≤ i) : (rowsE n c B e)[i]? = some r := by
  unfold rowsE
  rw [List.getElem?_mapIdx, h, Option.map_some, if_neg (by omega)]
theorem half_eq : Da.tup [.int 1, .int 2] = frac (1 / 2) := by
  unfold frac
  rw [show ((1 / 2 : Rat)).num = 1 by decide +kernel, show ((1 / 2 : Rat)).den = 2 by decide +kernel]
  rfl
theorem Sz.half : Sz 2 (1 / 2) := by
  unfold Sz Bd
  rw [show ((1 / 2 : Rat)).num = 1 by decide +kernel, show ((1 / 2 : Rat)).den = 2 by decide +kernel]
  decide
theorem rdel_ok {n : Nat} {r : Row} (h : RowOk n r) (k : Key) : RowOk n (rdel r k) :=
  ⟨Nat.le_trans (List.length_filter_le _ _) h.len, fun p hp => h.sz p (List.mem_filter.mp hp).1, rdel_nd h.nd k⟩
theorem ixN_nat {n i : Nat} (h : i < n) : ixN n (i : Int) = some i := by
  unfold ixN
  rw [if_pos (by omega), if_pos (by omega)]; simp
theorem look_kvs_some (r : Row) (k : Key) : (dget r.kvs k.da).isSome = (look r k).isSome := by
  rw [get_kvs]
  cases look r k <;> rfl
abbrev t_solved_machine (K : PySem.W.Frag) (w : World) (v_ZERO : V) (v_ONE : V) : TS :=
  (tSeq (tAsg (tTup (tCons (tC (.int 1)) (tCons (tC (.int 2)) tNil))) (gName 1))
    (tSeq (tAsg (tLst tNil) (gName 2))
    (tSeq (tFor (iTup K (tVar 0)) (gTup K 2 (gCons (gName 3) (gCons (gName 4) gNil)))
    (tSeq (tAsg (Dx.tDis K w [((tC (.str "tosses")), (tC v_ONE)), ((tVar 3), (tVar 1))]) (gName 5))
    (tSeq (tAsg (tCall (toSp K w ss_plus) [] xk0 (tCons (Dx.tM K w (Dx.rGet2 K w) (tVar 5) (tCons (tVar 4) (tCons (tC v_ZERO) tNil))) (tCons (tVar 1) tNil))) (gSub (tVar 5) (tVar 4) (Dx.rSet K w)))
    (tDrop (tBM K "list" rAppend (tVar 2) (tCons (tVar 5) tNil))))))
    (tSeq (tFor (iRng3 (tCons (tOp (rI0 fun i j => .int (i - j)) (tCB (rLenS K) (tCons (tVar 0) tNil)) (tC (.int 1))) (tCons (tUn (rU fun i => .int (-i)) (tC (.int 1))) (tCons (tUn (rU fun i => .int (-i)) (tC (.int 1))) tNil)))) (gName 6)
    (tSeq (tAsg (tCall (toSp K w ss_closed_row) [] xk0 (tCons (tOp (rIxL K) (tVar 2) (tVar 6)) (tCons (tVar 6) tNil))) (gSub (tVar 2) (tVar 6) rSetL))
    (tFor (iRng1 (tCons (tVar 6) tNil)) (gName 7)
    (tIfS (tTest (tOp (Dx.rIn K w false) (tVar 6) (tOp (rIxL K) (tVar 2) (tVar 7)))) (tSeq (tAsg (Dx.tM K w (Dx.rPop1 K w) (tOp (rIxL K) (tVar 2) (tVar 7)) (tCons (tVar 6) tNil)) (gName 8))
    (tDrop (tCall (toSp K w ss_put_into) [] xk0 (tCons (tOp (rIxL K) (tVar 2) (tVar 7)) (tCons (tVar 8) (tCons (tOp (rIxL K) (tVar 2) (tVar 6)) tNil)))))) tNext))))
    (tRet (tOp (rIxL K) (tVar 2) (tC (.int 0))))))))
section
variable {P : Program} {w : World} {K : PySem.W.Frag} {mg : Str → Option Value} {base : Heap} {v_ZERO v_ONE : V}
theorem p_solved_machine (T : Txt mg v_ZERO v_ONE)
    (C_closed_row : Cal P w K mg base 5 "closed_row" ["row", "node"] kb_closed_row ss_closed_row)
    (C_plus : Cal P w K mg base 3 "plus" ["one", "other"] kb_plus ss_plus)
    (C_put_into : Cal P w K mg base 4 "put_into" ["row", "share", "other"] kb_put_into ss_put_into)
    (fa : Addr) (cdv : Value) (A : Around) (outer : List Env) (s : Shared) (H : Hp) (E : XK) (hgd : A.guards = some []) (hr : Room 5 (A.deeper (envOfC "solved_machine" (defScope s_solved_machine) s.heap.objs.size fa cdv))) :
    PSs (cxOf CX0 P w K mg base N_solved_machine "solved_machine" (defScope s_solved_machine) fa cdv A outer s H E).nox (defBody s_solved_machine) (t_solved_machine K w v_ZERO v_ONE) :=
  (pss_cons (ps_set (i := 1) sc_solved_machine.nd rfl (by first | exact Or.inl rfl | exact Or.inr rfl) (pe_tup (pa_cons pe_int (pa_cons pe_int pa_nil))))
    (pss_cons (ps_set (i := 2) sc_solved_machine.nd rfl (by first | exact Or.inl rfl | exact Or.inr rfl) (pe_lst pa_nil))
    (pss_cons (ps_for PassesOwn.never rfl (pi_tup (pv 0)) (pg_tup rfl (pgs_cons (pg_name (i := 3) sc_solved_machine.nd rfl (by first | exact Or.inl rfl | exact Or.inr rfl)) (pgs_cons (pg_name (i := 4) sc_solved_machine.nd rfl (by first | exact Or.inl rfl | exact Or.inr rfl)) pgs_nil)))
    (pss_cons (ps_set (i := 5) sc_solved_machine.nd rfl (by first | exact Or.inl rfl | exact Or.inr rfl) (Dx.pe_dis (hu20 hr) (pps_cons pe_str (pe_gl T.c_ONE (by rfl)) (pps_cons (pv 3) (pv 1) pps_nil)) (by rfl) (by rfl) (fun z => by cases z) (by decide)))
    (pss_cons (ps_asg (pe_cal C_plus hgd (hr.mono (by decide)) (by rfl) (pa_cons (Dx.pe_m PySem.F.slot_dict_get PySem.F.type_dict_get (Dx.mt_get2 (hu20 hr)) (pv 5) (pa_cons (pv 4) (pa_cons (pe_gl T.c_ZERO (by rfl)) pa_nil))) (pa_cons (pv 1) pa_nil))) (pg_sub (pv 5) (pv 4) (Dx.set_rule (hu20 hr))))
    (pss_one (ps_expr (pe_bm PySem.F.plainAttrs_list PySem.F.slot_list_append PySem.F.type_list_append mt_append (pv 2) (pa_cons (pv 5) pa_nil)))))))
    (pss_cons (ps_for PassesOwn.never rfl (pi_range3 (by rfl) T.b_range (pa_cons (pe_op op_sub (pe_callB call_len_seq (by rfl) T.b_len (by decide +kernel) (pa_cons (pv 0) pa_nil)) pe_int) (pa_cons (pe_un un_neg pe_int) (pa_cons (pe_un un_neg pe_int) pa_nil)))) (pg_name (i := 6) sc_solved_machine.nd rfl (by first | exact Or.inl rfl | exact Or.inr rfl))
    (pss_cons (ps_asg (pe_cal C_closed_row hgd (hr.mono (by decide)) (by rfl) (pa_cons (pe_ix ix_list (pv 2) (pv 6) (fun _ _ => rfl)) (pa_cons (pv 6) pa_nil))) (pg_sub (pv 2) (pv 6) set_list))
    (pss_one (ps_for PassesOwn.never rfl (pi_range1 (by rfl) T.b_range (pa_cons (pv 6) pa_nil)) (pg_name (i := 7) sc_solved_machine.nd rfl (by first | exact Or.inl rfl | exact Or.inr rfl))
    (pss_one (ps_if (pt_cmpR (Dx.op_in (hu20 hr)) (pv 6) (pe_ix ix_list (pv 2) (pv 7) (fun _ _ => rfl)) (by rfl)) (pss_cons (ps_set (i := 8) sc_solved_machine.nd rfl (by first | exact Or.inl rfl | exact Or.inr rfl) (Dx.pe_m PySem.F.slot_dict_pop PySem.F.type_dict_pop (Dx.mt_pop1 (hu20 hr)) (pe_ix ix_list (pv 2) (pv 7) (fun _ _ => rfl)) (pa_cons (pv 6) pa_nil)))
    (pss_one (ps_expr (pe_cal C_put_into hgd (hr.mono (by decide)) (by rfl) (pa_cons (pe_ix ix_list (pv 2) (pv 7) (fun _ _ => rfl)) (pa_cons (pv 8) (pa_cons (pe_ix ix_list (pv 2) (pv 6) (fun _ _ => rfl)) pa_nil))))))) pss_nil))))))
    (pss_one (ps_ret (pe_ix ix_list (pv 2) pe_int (fun _ _ => rfl))))))))
end
section
variable {P : Program} {w : World} {K : PySem.W.Frag} {mg : Str → Option Value} {base : Heap} {v_ZERO v_ONE : V}
theorem ok_solved_machine {f : Addr} {fd : FuncData} (F : Fun K "solved_machine" "solved_machine" s_solved_machine f fd) (T : Txt mg v_ZERO v_ONE) (hz : ∀ H, Rp K H v_ZERO (frac 0)) (ho : ∀ H, Rp K H v_ONE (frac 1)) (C1 : Cal P w K mg base 5 "closed_row" ["row", "node"] kb_closed_row ss_closed_row) (C2 : Cal P w K mg base 3 "plus" ["one", "other"] kb_plus ss_plus)
    (C3 : Cal P w K mg base 4 "put_into" ["row", "share", "other"] kb_put_into ss_put_into) : GnOk P w K mg base CX0 6 f fd ["machine"] (toSp K w ss_solved_machine) :=
  sy_okX F sc_solved_machine (fun ds Θ R ⟨_, e, _⟩ => by rw [e]; rfl) (by decide) (fun cdv A outer s H E hg hr => p_solved_machine T C1 C2 C3 f cdv A outer s H E hg hr) fun H ds Θ R ⟨m, e, e2, hm, hrun, k⟩ => by
    subst e; subst e2
    show Rn _ _ [some (.tup (m.map nda)), none, none, none, none, none, none, none, none] _ _
    repeat' (first | infer_instance | fail)
    refine ⟨by show 2 ≤ sizeLine; decide, ?_⟩
    repeat' (first | infer_instance | fail)
    refine ev_lst ?_
    repeat' (first | infer_instance | fail)
    refine ⟨Nat.zero_le _, fun L => ?_⟩
    repeat' (first | infer_instance | fail)
    rw [half_eq]
    refine x_forT (fun i Γ' Θ' => ∃ y3 y4 y5 ps, Γ' = [some (.tup (m.map nda)), some (frac (1 / 2)), some (.ref L), y3, y4, y5, none, none, none] ∧ ps.length = i ∧ Θ' = (L, .lst (ps.map Da.ref)) :: dics ps ((m.take i).map row0)) (ev_var rfl ⟨_, rfl, ⟨_, _, _, [], rfl, rfl, rfl⟩, ?_, ?_⟩)
    · rintro i Γ' Θ' d hi hd ⟨y3, y4, y5, ps, rfl, hp, rfl⟩
      rw [List.length_map] at hi
      have e1 : d = nda m[i] := by
        rw [List.getElem?_map, List.getElem?_eq_getElem hi] at hd
        exact (Option.some.inj hd).symm
      have e2 : (m.take (i + 1)).map row0 = (m.take i).map row0 ++ [row0 m[i]] := by rw [List.take_add_one, List.getElem?_eq_getElem hi, List.map_append]; rfl
      rw [e2]
      have hlen : ((m.take i).map row0).length = ps.length := by rw [List.length_map, List.length_take]; omega
      subst e1
      generalize m[i] = pr at *
      obtain ⟨u, v⟩ := pr
      show Tg _ _ (.tup [u.da, v.da]) _ _ _
      repeat' (first | infer_instance | fail)
      refine ev_disp fun p => ?_
      show EvG _ _ _ _ _
      repeat' (first | infer_instance | fail)
      refine ev_con ho ?_
      show EvG _ _ _ _ _
      repeat' (first | infer_instance | fail)
      rw [← u.key_da, ← v.key_da]
      have e3 : dputs [] [(Da.str "tosses", frac 1), (u.key.da, frac (1 / 2))] = Row.kvs [(.toss, 1), (u.key, 1 / 2)] := by
        show dput (dput (Row.kvs []) Key.toss.da (frac 1)) u.key.da (frac (1 / 2)) = _
        rw [put_kvs, put_kvs]
        cases u <;> rfl
      simp only [EvP, e3]
      refine ⟨_, .last _, by show 2 ≤ 15; decide, fun x hx => ?_, ?_⟩
      · rcases List.mem_cons.mp hx with e | hx
        · subst e; exact ⟨_, Key.nk .toss, Key.dep _⟩
        · obtain rfl := List.mem_singleton.mp hx
          exact ⟨_, u.key.nk, Key.dep _⟩
      · repeat' (first | infer_instance | fail)
        refine ev_dget2 (ev_var rfl ⟨_, rfl, ⟨_, mem_last⟩, ?_⟩)
        repeat' (first | infer_instance | fail)
        refine ev_con hz ?_
        repeat' (first | infer_instance | fail)
        refine ⟨_, _, _, v.key.kk, rfl, mem_last, v.key.nk, Key.dep _, ?_⟩
        rw [getD_kvs]
        repeat' (first | infer_instance | fail)
        have zr : RowOk 2 [(.toss, 1), (u.key, 1 / 2)] := ⟨by show 2 ≤ 1000; decide, fun x hx => by
          rcases List.mem_cons.mp hx with e | hx
          · subst e; exact Sz.one.mono (by decide)
          · obtain rfl := List.mem_singleton.mp hx
            exact Sz.half, by
          unfold NDk
          cases u <;> simp [Arm.key]⟩
        refine ⟨[], _, .nil, _, _, rfl, (zr.get (by decide) _).mono (by decide), Sz.half.mono (by decide), ?_⟩
        simp only [List.append_nil]
        refine tg_setD (ev_var rfl (ev_var rfl ⟨_, _, v.key.kk, _, rfl, .last _, by rw [kvs_len]; show 2 < sizeLine; decide, v.key.nk, Key.dep _, ?_⟩))
        rw [put_kvs]
        repeat' (first | infer_instance | fail)
        refine ev_app (ev_var rfl ⟨_, rfl, ⟨_, .head _⟩, ?_⟩)
        repeat' (first | infer_instance | fail)
        refine ⟨_, _, _, rfl, .here, ?_, ?_⟩
        · rw [List.length_map, hp]
          exact Nat.lt_of_le_of_lt (show i ≤ 400 from by have := hm.hi; omega) (by decide)
        · refine fg_all ⟨_, _, _, ps ++ [p], rfl, by rw [List.length_append, hp]; rfl, ?_⟩
          have ed : dics (ps ++ [p]) ((m.take i).map row0 ++ [row0 (u, v)]) = dics ps ((m.take i).map row0) ++ [(p, dm (row0 (u, v)))] := by
            show mos _ (List.map dm _) = _
            rw [List.map_append]
            exact mos_app (by rw [List.length_map]; exact hlen.symm) p _
          rw [List.map_append, ed]
          rfl
    · rintro Γ' Θ' ⟨y3, y4, y5, ps, rfl, hp, rfl⟩
      rw [List.length_map] at hp
      rw [List.length_map, List.take_length]
      have hl := hm.lo
      have hh := hm.hi
      have et : (((m.length : Int) - 1) - -1).toNat = m.length := by omega
      have hR := RgC.neg (i := (m.length : Int) - 1) (j := -1) (by omega) (by omega) (by omega) (by omega)
      rw [et] at hR
      refine x_seq ?_
      refine x_for (ei_rng3 ?_)
      repeat' (first | infer_instance | fail)
      rw [List.length_map]
      repeat' (first | infer_instance | fail)
      refine ⟨_, _, _, _, rfl, hR, fun j Γ' Θ' => ∃ y3 y4 y5 y6 y7 y8 ps rows, Γ' = [some (.tup (m.map nda)), some (frac (1 / 2)), some (.ref L), y3, y4, y5, y6, y7, y8] ∧ ps.length = m.length ∧ rows.length = m.length ∧ Θ' = (L, .lst (ps.map Da.ref)) :: dics ps rows ∧ elim (m.length - j) rows = elim m.length (m.map row0) ∧ RunOk (m.length - j) rows,
        ⟨_, _, _, _, _, _, ps, m.map row0, rfl, hp, by rw [List.length_map], rfl, rfl, hrun⟩, fun _ _ _ _ _ => trivial, ?_, ?_⟩
      · rintro j Γ' Θ' hj ⟨y3, y4, y5, y6, y7, y8, ps, rows, rfl, hps, hrows, rfl, he, hr⟩
        have en : ∃ n, m.length - j = n + 1 := ⟨m.length - j - 1, by omega⟩
        obtain ⟨n, en⟩ := en
        rw [en] at he hr
        have ei : Da.int ((m.length : Int) - 1 + (j : Nat) * -1) = .int (n : Int) := by congr 1; omega
        simp only [ei, show m.length - (j + 1) = n by omega]
        obtain ⟨h600, hback, hc, hr⟩ := hr
        have he : elim n (stepE rows n) = elim m.length (m.map row0) := he
        have hn : n < m.length := by omega
        have hpn : ps[n]? = some ps[n] := List.getElem?_eq_getElem (by omega)
        have hrn : rows[n]? = some (rows.getD n []) := by rw [List.getD_eq_getElem?_getD, List.getElem?_eq_getElem (by omega)]; rfl
        have hrn' : (rows.map dm)[n]? = some (dm (rows.getD n [])) := by rw [List.getElem?_map, hrn]; rfl
        have hmem : rows.getD n [] ∈ rows := List.mem_of_getElem? hrn
        repeat' (first | infer_instance | fail)
        refine s_ixL (.head _) (atI_nat (j := n) (by rw [List.getElem?_map, hpn]; rfl)) ?_
        repeat' (first | infer_instance | fail)
        refine ⟨_, _, .cons (.there (mos_take hpn hrn')) .nil, ps[n], rows.getD n [], n, rfl, rfl, h600 _ hmem, hback, fun q => ?_⟩
        refine tg_setL (ev_var rfl (ev_var rfl ⟨L, _, n, n, _, rfl, rfl, .here, ixN_nat (by rw [List.length_map]; omega), ?_⟩))
        -- the rows as they stand now
        have hps2 : (ps.set n q).length = m.length := by rw [List.length_set]; exact hps
        generalize hcdef : closedRow (rows.getD n []) n = c at *
        have hrows2 : (rows.set n c).length = m.length := by rw [List.length_set]; exact hrows
        have hqn : (ps.set n q)[n]? = some q := List.getElem?_set_self (by omega)
        have hcn : (rows.set n c)[n]? = some c := List.getElem?_set_self (by omega)
        have hcn' : ((rows.set n c).map dm)[n]? = some (dm c) := by rw [List.getElem?_map, hcn]; rfl
        have hstep : rowsE n c (rows.set n c) n = stepE rows n := by rw [← hcdef]; exact rowsE_all rows n
        refine rn_keep (Θ' := (L, .lst ((ps.set n q).map Da.ref)) :: dics (ps.set n q) (rowsE n c (rows.set n c) 0)) (Θr := [(ps[n], dm (rows.getD n []))]) ?_ ?_
        · rw [rowsE_zero, List.map_set]
          refine .cons _ ?_
          have t2 := (mos_take hqn hcn').perm
          rw [List.map_set] at t2
          rw [List.eraseIdx_set_eq, List.eraseIdx_set_eq] at t2
          have t3 := t2.append_right [(ps[n], dm (rows.getD n []))]
          rw [dics, List.map_set]
          refine List.Perm.trans ?_ t3.symm
          show List.Perm (_ ++ [(ps[n], dm (rows.getD n [])), (q, dm c)]) ((q, dm c) :: (_ ++ [(ps[n], dm (rows.getD n []))]))
          refine (List.perm_append_comm).trans ?_
          show List.Perm ((ps[n], dm (rows.getD n [])) :: (q, dm c) :: _) _
          refine (List.Perm.swap _ _ _).trans (.cons _ ?_)
          exact (List.perm_append_comm (l₁ := [(ps[n], dm (rows.getD n []))]))
        · refine x_forR (fun e Γ' Θ' => ∃ y7 y8, Γ' = [some (.tup (m.map nda)), some (frac (1 / 2)), some (.ref L), y3, y4, y5, some (.int (n : Int)), y7, y8] ∧ Θ' = (L, .lst ((ps.set n q).map Da.ref)) :: dics (ps.set n q) (rowsE n c (rows.set n c) e)) ?_
          repeat' (first | infer_instance | fail)
          refine ⟨by omega, ⟨_, _, rfl, rfl⟩, ?_, ?_⟩
          · rintro e Γ' Θ' he' ⟨y7, y8, rfl, rfl⟩
            have ee : (ps.set n q)[e]? = some ps[e] := by rw [List.getElem?_set_ne (by omega), List.getElem?_eq_getElem (by omega)]
            have eb : (rows.set n c)[e]? = some rows[e] := by rw [List.getElem?_set_ne (by omega), List.getElem?_eq_getElem (by omega)]
            rw [rowsE_succ eb]
            have er : (rowsE n c (rows.set n c) e)[e]? = some rows[e] := rowsE_at eb (Nat.le_refl _)
            have ern : (rowsE n c (rows.set n c) e)[n]? = some c := rowsE_at hcn (by omega)
            have hre : RowOk 600 rows[e] := h600 _ (List.getElem_mem _)
            generalize rowsE n c (rows.set n c) e = RS at *
            generalize hrr : rows[e] = re at *
            generalize ps[e] = pe at *
            have er' : (RS.map dm)[e]? = some (dm re) := by rw [List.getElem?_map, er]; rfl
            repeat' (first | infer_instance | fail)
            refine s_ixL (.head _) (atI_nat (j := e) (by rw [List.getElem?_map, ee]; rfl)) ?_
            refine s_in (.tail _ (mos_mem ee er')) (Key.nk (.node n)) (Key.dep _) ?_
            rw [show (if false = true then !(dget re.kvs (.int (n : Int))).isSome else (dget re.kvs (.int (n : Int))).isSome) = (look re (.node n)).isSome from look_kvs_some re (.node n)]
            have es : sub1 n c e re = if (look re (.node n)).isSome then putInto (rdel re (.node n)) (rget re (.node n)) c else re := by
              unfold sub1
              by_cases z : (look re (.node n)).isSome
              · rw [if_pos ⟨he', z⟩, if_pos z]
              · rw [if_neg fun w => z w.2, if_neg z]
            repeat' (first | infer_instance | fail)
            refine ⟨fun hs => ?_, fun hs => ?_⟩
            · rw [if_pos hs] at es
              rw [es]
              have eg : look re (.node n) = some (rget re (.node n)) := by
                unfold rget
                cases z : look re (.node n) with
                | none => rw [z] at hs; cases hs
                | some x => rfl
              have zg := hre.get (by decide) (.node n)
              repeat' (first | infer_instance | fail)
              refine ev_dpop ?_
              repeat' (first | infer_instance | fail)
              refine s_ixL (.head _) (atI_nat (j := e) (by rw [List.getElem?_map, ee]; rfl)) ?_
              refine ⟨_, rfl, ⟨_, .tail _ (mos_mem ee er')⟩, ?_⟩
              repeat' (first | infer_instance | fail)
              refine ⟨_, _, _, _, _, rfl, .there (mos_put ee er'), Key.nk (.node n), Key.dep _, (get_kvs re (.node n)).trans (by rw [eg]; rfl), ?_⟩
              rw [show ddel re.kvs (.int (n : Int)) = (rdel re (.node n)).kvs from del_kvs re (.node n)]
              repeat' (first | infer_instance | fail)
              refine s_ixL (.head _) (atI_nat (j := e) (by rw [List.getElem?_map, ee]; rfl)) ?_
              repeat' (first | infer_instance | fail)
              refine s_ixL (.head _) (atI_nat (j := n) (by rw [List.getElem?_map, hqn]; rfl)) ?_
              repeat' (first | infer_instance | fail)
              have hRl : e < RS.length := (List.getElem?_eq_some_iff.mp er).1
              have k1 : (RS.map dm |>.set e (dm (rdel re (.node n))))[e]? = some (dm (rdel re (.node n))) := List.getElem?_set_self (by rw [List.length_map]; exact hRl)
              have q1 : ((ps.set n q).eraseIdx e)[n - 1]? = some q := by
                rw [List.getElem?_eraseIdx, if_neg (by omega), show n - 1 + 1 = n by omega]; exact hqn
              have q2 : ((RS.map dm |>.set e (dm (rdel re (.node n)))).eraseIdx e)[n - 1]? = some (dm c) := by
                rw [List.getElem?_eraseIdx, if_neg (by omega), show n - 1 + 1 = n by omega, List.getElem?_set_ne (by omega), List.getElem?_map, ern]; rfl
              refine ⟨_, _, .cons (.there (mos_take ee k1)) (.cons (.there (mos_take q1 q2)) .nil), pe, q, rdel re (.node n), c, rget re (.node n), rfl, rfl, zg.mono (by decide), (rdel_ok hre _).mono (by decide), hc, ?_⟩
              have k2 : ((RS.set e (putInto (rdel re (.node n)) (rget re (.node n)) c)).map dm)[e]? = some (dm (putInto (rdel re (.node n)) (rget re (.node n)) c)) := by
                rw [List.getElem?_map, List.getElem?_set_self hRl]; rfl
              have q3 : (((RS.set e (putInto (rdel re (.node n)) (rget re (.node n)) c)).map dm).eraseIdx e)[n - 1]? = some (dm c) := by
                rw [List.getElem?_eraseIdx, if_neg (by omega), show n - 1 + 1 = n by omega, List.getElem?_map, List.getElem?_set_ne (by omega), ern]; rfl
              refine fg_perm (Θ' := (L, .lst ((ps.set n q).map Da.ref)) :: dics (ps.set n q) (RS.set e (putInto (rdel re (.node n)) (rget re (.node n)) c))) (Θr := []) ?_ ⟨_, _, rfl, rfl⟩
              rw [List.append_nil]
              have t1 := (mos_take ee k2).perm
              have t2 := (mos_take q1 q3).perm
              rw [List.map_set, List.eraseIdx_set_eq] at t2
              rw [List.map_set, List.eraseIdx_set_eq] at t1
              rw [List.eraseIdx_set_eq]
              rw [dics, List.map_set (f := dm)]
              exact (List.Perm.cons _ List.perm_append_comm).trans (List.Perm.cons _ (t1.trans (.cons _ t2)).symm)
            · rw [if_neg (by rw [hs]; decide)] at es
              rw [es]
              repeat' (first | infer_instance | fail)
              refine fg_all ⟨_, _, rfl, ?_⟩
              rw [show RS.set e re = RS from by
                refine List.ext_getElem? fun i => ?_
                by_cases z : e = i
                · subst z; rw [List.getElem?_set_self ((List.getElem?_eq_some_iff.mp er).1), er]
                · rw [List.getElem?_set_ne z]]
          · rintro Γ' Θ' ⟨y7, y8, rfl, rfl⟩
            refine fg_all ⟨_, _, _, _, _, _, ps.set n q, stepE rows n, rfl, hps2, ?_, by rw [hstep], he, hr⟩
            rw [← hstep]
            unfold rowsE
            rw [List.length_mapIdx]
            exact hrows2
      · rintro Γ' Θ' ⟨y3, y4, y5, y6, y7, y8, ps, rows, rfl, hps, hrows, rfl, he, hr⟩
        rw [Nat.sub_self] at he
        have he : rows = elim m.length (m.map row0) := he
        match ps, rows, hps, hrows with
        | p :: ps, r :: rows, hps, hrows =>
          repeat' (first | infer_instance | fail)
          refine s_ixL (.head _) (atI_nat (j := 0) rfl) ?_
          have es : solved m = r := by
            unfold solved
            rw [← he]
            rfl
          rw [es] at k
          exact ⟨_, _, .cons (.there .here) .nil, k p⟩
        | [], _, hps, _ => rw [← hps] at hl; exact absurd hl (by decide)
        | _ :: _, [], _, hrows => rw [← hrows] at hl; exact absurd hl (by decide)
end
end K38

end
section
/-! k38, part F: coin_shares, coin_cost, toss. -/
namespace K38
open PySem PySem.Spec PyProof.Rows L2 Sy
local macro_rules | `(tactic| infer_instance) => `(tactic| first
  | with_reducible refine x_seq ?_
  | with_reducible refine x_asg ?_
  | with_reducible refine x_ret ?_
  | with_reducible refine x_drop ?_
  | with_reducible refine x_par ?_
  | with_reducible refine x_if ?_
  | with_reducible refine ev_op ?_
  | with_reducible refine ev_un ?_
  | with_reducible refine ev_cb ?_
  | with_reducible refine ev_tup ?_
  | with_reducible refine ea_nil ?_
  | with_reducible refine ea_cons ?_
  | with_reducible refine ev_int ?_
  | with_reducible refine ev_bl ?_
  | with_reducible refine ev_str ?_
  | with_reducible refine ev_ty ?_
  | with_reducible refine ev_non ?_
  | with_reducible refine et_test ?_
  | with_reducible refine et_B ?_
  | with_reducible refine et_not ?_
  | with_reducible refine et_and ?_
  | with_reducible refine et_or ?_
  | with_reducible refine ev_cal ?_
  | with_reducible refine ev_if ?_
  | with_reducible refine ev_andV ?_
  | with_reducible refine ev_orV ?_
  | with_reducible refine ev_notV ?_
  | with_reducible refine ev_chain ?_
  | with_reducible refine x_drop ?_
  | with_reducible refine x_par ?_
  | refine ev_var rfl ?_
  | with_reducible refine x_next ?_
  | refine s_I (by assumption) ?_
  | refine s_isi rfl rfl ?_
  | refine s_I0 ?_
  | refine s_B0 ?_
  | refine s_neg ?_
  | refine s_eqI ?_
  | refine s_neI ?_
  | refine s_eqS ?_
  | refine s_isN ?_
  | refine s_notN ?_
  | refine s_abs ?_
  | refine s_max2 ?_
  | refine s_min2 ?_
  | refine s_int1 ?_
  | refine s_intB ?_
  | refine s_lenT ?_
  | refine s_lenF ?_
  | refine s_ixT rfl ?_
  | refine tg_name (of_decide_eq_true rfl) ?_
  | refine tg_tup rfl ?_
  | refine tgs_cons ?_
  | refine tgs_nil ?_
  | refine ⟨fun _ => ?_, fun z => nomatch (show true = false from z)⟩
  | refine ⟨fun z => (nomatch (show false = true from z)), fun _ => ?_⟩
  | with_reducible refine ⟨_, rfl, ?_⟩
  | refine ⟨_, _, rfl, of_decide_eq_true rfl, of_decide_eq_true rfl, ?_⟩
  | fail "x")
def sharesL (r : Row) (c : Nat) : List Rat := (List.range c).map (fun o => rget r (.out o)) ++ [rget r .endl]
def sharesD (m : Mach) (c : Nat) : Da := .tup ((sharesL (solved m) c).map frac)
def ss_coin_shares : Ss := fun ds Θ R => ∃ (m : Mach) (c : Nat), ds = [mda m, .int (c : Int)] ∧ Θ = [] ∧ MOk m ∧ RunOk m.length (m.map row0) ∧ 1 ≤ c ∧ c ≤ 26 ∧ (∀ p ∈ m, p.1.below c ∧ p.2.below c) ∧ R (sharesD m c) []
def costO (m : Mach) : Option Rat := if (look (solved m) .endl).isSome then none else some (rget (solved m) .toss)
def ofrac : Option Rat → Da
  | none => .non
  | some q => frac q
def ss_coin_cost : Ss := fun ds Θ R => ∃ m : Mach, ds = [mda m] ∧ Θ = [] ∧ MOk m ∧ RunOk m.length (m.map row0) ∧ ((look (solved m) .endl).isSome = false → (look (solved m) .toss).isSome = true) ∧ R (ofrac (costO m)) []
def pick (m : Mach) (n : Nat) (b : Bool) : Arm := if b then (m.getD n (.at 0, .at 0)).1 else (m.getD n (.at 0, .at 0)).2
def tossGo (m : Mach) : Nat → Nat → List Bool → Da
  | _, used, [] => .tup [.non, .int (used : Int)]
  | n, used, b :: bs => match pick m n b with
    | .out k => .tup [.int (k : Int), .int ((used : Int) + 1)]
    | .at n' => tossGo m n' (used + 1) bs
theorem tossGo_cons (m : Mach) (n used : Nat) (b : Bool) (bs : List Bool) : tossGo m n used (b :: bs) = (match pick m n b with
    | .out k => .tup [.int (k : Int), .int ((used : Int) + 1)]
    | .at n' => tossGo m n' (used + 1) bs) := by rw [tossGo]
def ss_toss : Ss := fun ds Θ R => ∃ (m : Mach) (bs : List Bool), ds = [mda m, .tup (bs.map Da.bl)] ∧ MOk m ∧ R (tossGo m 0 0 bs) Θ
abbrev t_coin_shares (K : PySem.W.Frag) (w : World) (v_ZERO : V) (v_ONE : V) : TS :=
  (tSeq (tDrop (tCall (toSp K w ss_need_machine) [] xk0 (tCons (tVar 0) tNil)))
    (tSeq (tIfS (tNot (tB (tCall (toSp K w ss_is_integer) [] xk0 (tCons (tVar 1) (tCons (tC (.int 1)) (tCons (tC (.int 26)) tNil)))))) tNever tNext)
    (tSeq (tIfS (tB (tCall (toSp K w ss_has_beyond) [] xk0 (tCons (tVar 0) (tCons (tVar 1) tNil)))) tNever tNext)
    (tSeq (tAsg (tCall (toSp K w ss_solved_machine) [] xk0 (tCons (tVar 0) tNil)) (gName 2))
    (tRet (tCB (rTupOf K) (tCons (tOp (rCat) (tLc (iRng1 (tCons (tVar 1) tNil)) (gName 3) tYes (Dx.tM K w (Dx.rGet2 K w) (tVar 2) (tCons (tTup (tCons (tC (.str "out")) (tCons (tVar 3) tNil))) (tCons (tC v_ZERO) tNil))) [3]) (tLst (tCons (Dx.tM K w (Dx.rGet2 K w) (tVar 2) (tCons (tC (.str "endless")) (tCons (tC v_ZERO) tNil))) tNil))) tNil)))))))
section
variable {P : Program} {w : World} {K : PySem.W.Frag} {mg : Str → Option Value} {base : Heap} {v_ZERO v_ONE : V}
theorem p_coin_shares (T : Txt mg v_ZERO v_ONE)
    (C_has_beyond : Cal P w K mg base 1 "has_beyond" ["machine", "count"] kb_has_beyond ss_has_beyond)
    (C_is_integer : Cal P w K mg base 1 "is_integer" ["thing", "low", "high"] kb_is_integer ss_is_integer)
    (C_need_machine : Cal P w K mg base 4 "need_machine" ["thing"] kb_need_machine ss_need_machine)
    (C_solved_machine : Cal P w K mg base 6 "solved_machine" ["machine"] kb_solved_machine ss_solved_machine)
    (fa : Addr) (cdv : Value) (A : Around) (outer : List Env) (s : Shared) (H : Hp) (E : XK) (hgd : A.guards = some []) (hr : Room 6 (A.deeper (envOfC "coin_shares" (defScope s_coin_shares) s.heap.objs.size fa cdv))) :
    PSs (cxOf CX0 P w K mg base N_coin_shares "coin_shares" (defScope s_coin_shares) fa cdv A outer s H E).nox (defBody s_coin_shares) (t_coin_shares K w v_ZERO v_ONE) :=
  (pss_cons (ps_expr (pe_cal C_need_machine hgd (hr.mono (by decide)) (by rfl) (pa_cons (pv 0) pa_nil)))
    (pss_cons (ps_if (pt_not (pt_val (pe_cal C_is_integer hgd (hr.mono (by decide)) (by rfl) (pa_cons (pv 1) (pa_cons pe_int (pa_cons (pe_gl T.c_MOST_OUTCOMES (by rfl)) pa_nil)))))) pss_never pss_nil)
    (pss_cons (ps_if (pt_val (pe_cal C_has_beyond hgd (hr.mono (by decide)) (by rfl) (pa_cons (pv 0) (pa_cons (pv 1) pa_nil)))) pss_never pss_nil)
    (pss_cons (ps_set (i := 2) sc_coin_shares.nd rfl (by first | exact Or.inl rfl | exact Or.inr rfl) (pe_cal C_solved_machine hgd (hr.mono (by decide)) (by rfl) (pa_cons (pv 0) pa_nil)))
    (pss_one (ps_ret (pe_callTy call_tuple_of (by rfl) T.b_tuple (by decide +kernel) (pa_cons (pe_op op_cat (pe_lc (own := [("outcome", 3)]) (g := (gName 3)) (tt := tYes) rfl sc_coin_shares.nd (pi_range1 (by rfl) T.b_range (pa_cons (pv 1) pa_nil)) (blkOk_by (N := N_coin_shares) (sc := defScope s_coin_shares) (by decide +kernel)) (fun _ _ _ _ _ => (pg_name (i := 3) sc_coin_shares.nd rfl (by first | exact Or.inl rfl | exact Or.inr rfl))) (fun _ _ _ _ _ => pts_nil) (fun _ _ _ _ _ => (Dx.pe_m PySem.F.slot_dict_get PySem.F.type_dict_get (Dx.mt_get2 (hu20 hr)) (pv 2) (pa_cons (pe_tup (pa_cons pe_str (pa_cons (pv 3) pa_nil))) (pa_cons (pe_gl T.c_ZERO (by rfl)) pa_nil))))) (pe_lst (pa_cons (Dx.pe_m PySem.F.slot_dict_get PySem.F.type_dict_get (Dx.mt_get2 (hu20 hr)) (pv 2) (pa_cons pe_str (pa_cons (pe_gl T.c_ZERO (by rfl)) pa_nil))) pa_nil))) pa_nil))))))))
end
abbrev t_coin_cost (K : PySem.W.Frag) (w : World) (v_ZERO : V) (v_ONE : V) : TS :=
  (tSeq (tDrop (tCall (toSp K w ss_need_machine) [] xk0 (tCons (tVar 0) tNil)))
    (tSeq (tAsg (tCall (toSp K w ss_solved_machine) [] xk0 (tCons (tVar 0) tNil)) (gName 1))
    (tRet (tIf (tTest (tOp (Dx.rIn K w true) (tC (.str "endless")) (tVar 1))) (Dx.tGet K w (tVar 1) (tC (.str "tosses"))) (tC .non)))))
section
variable {P : Program} {w : World} {K : PySem.W.Frag} {mg : Str → Option Value} {base : Heap} {v_ZERO v_ONE : V}
theorem p_coin_cost (T : Txt mg v_ZERO v_ONE)
    (C_need_machine : Cal P w K mg base 4 "need_machine" ["thing"] kb_need_machine ss_need_machine)
    (C_solved_machine : Cal P w K mg base 6 "solved_machine" ["machine"] kb_solved_machine ss_solved_machine)
    (fa : Addr) (cdv : Value) (A : Around) (outer : List Env) (s : Shared) (H : Hp) (E : XK) (hgd : A.guards = some []) (hr : Room 6 (A.deeper (envOfC "coin_cost" (defScope s_coin_cost) s.heap.objs.size fa cdv))) :
    PSs (cxOf CX0 P w K mg base N_coin_cost "coin_cost" (defScope s_coin_cost) fa cdv A outer s H E).nox (defBody s_coin_cost) (t_coin_cost K w v_ZERO v_ONE) :=
  (pss_cons (ps_expr (pe_cal C_need_machine hgd (hr.mono (by decide)) (by rfl) (pa_cons (pv 0) pa_nil)))
    (pss_cons (ps_set (i := 1) sc_coin_cost.nd rfl (by first | exact Or.inl rfl | exact Or.inr rfl) (pe_cal C_solved_machine hgd (hr.mono (by decide)) (by rfl) (pa_cons (pv 0) pa_nil)))
    (pss_one (ps_ret (pe_ifExp (pt_cmpR (Dx.op_notIn (hu20 hr)) pe_str (pv 1) (by rfl)) (Dx.pe_get (hu20 hr) (pv 1) pe_str (fun _ _ => rfl)) pe_non)))))
end
abbrev t_toss (K : PySem.W.Frag) (w : World) (v_ZERO : V) (v_ONE : V) : TS :=
  (tSeq (tDrop (tCall (toSp K w ss_need_machine) [] xk0 (tCons (tVar 0) tNil)))
    (tSeq (tAsg (tC (.int 0)) (gName 2))
    (tSeq (tFor (iEnumT K (tCons (tVar 1) tNil)) (gTup K 2 (gCons (gName 3) (gCons (gName 4) gNil)))
    (tSeq (tAsg (tOp (rIxT K) (tOp (rIxT K) (tVar 0) (tVar 2)) (tIf (tB (tVar 4)) (tC (.int 0)) (tC (.int 1)))) (gName 5))
    (tSeq (tIfS (tB (tCB (rIsi K) (tCons (tVar 5) (tCons (tC (.ty "tuple")) tNil)))) (tRet (tTup (tCons (tOp (rIxT K) (tVar 5) (tC (.int 1))) (tCons (tOp (rI0 fun i j => .int (i + j)) (tVar 3) (tC (.int 1))) tNil)))) tNext)
    (tAsg (tVar 5) (gName 2)))))
    (tRet (tTup (tCons (tC .non) (tCons (tCB (rLenS K) (tCons (tVar 1) tNil)) tNil)))))))
section
variable {P : Program} {w : World} {K : PySem.W.Frag} {mg : Str → Option Value} {base : Heap} {v_ZERO v_ONE : V}
theorem p_toss (T : Txt mg v_ZERO v_ONE)
    (C_need_machine : Cal P w K mg base 4 "need_machine" ["thing"] kb_need_machine ss_need_machine)
    (fa : Addr) (cdv : Value) (A : Around) (outer : List Env) (s : Shared) (H : Hp) (E : XK) (hgd : A.guards = some []) (hr : Room 4 (A.deeper (envOfC "toss" (defScope s_toss) s.heap.objs.size fa cdv))) :
    PSs (cxOf CX0 P w K mg base N_toss "toss" (defScope s_toss) fa cdv A outer s H E).nox (defBody s_toss) (t_toss K w v_ZERO v_ONE) :=
  (pss_cons (ps_expr (pe_cal C_need_machine hgd (hr.mono (by decide)) (by rfl) (pa_cons (pv 0) pa_nil)))
    (pss_cons (ps_set (i := 2) sc_toss.nd rfl (by first | exact Or.inl rfl | exact Or.inr rfl) pe_int)
    (pss_cons (ps_for PassesOwn.never rfl (pi_enumT (by rfl) T.b_enumerate (pa_cons (pv 1) pa_nil)) (pg_tup rfl (pgs_cons (pg_name (i := 3) sc_toss.nd rfl (by first | exact Or.inl rfl | exact Or.inr rfl)) (pgs_cons (pg_name (i := 4) sc_toss.nd rfl (by first | exact Or.inl rfl | exact Or.inr rfl)) pgs_nil)))
    (pss_cons (ps_set (i := 5) sc_toss.nd rfl (by first | exact Or.inl rfl | exact Or.inr rfl) (pe_ix ix_tup (pe_ix ix_tup (pv 0) (pv 2) (fun _ _ => rfl)) (pe_ifExp (pt_val (pv 4)) pe_int pe_int) (fun _ _ => rfl)))
    (pss_cons (ps_if (pt_val (pe_callB call_isi (by rfl) T.b_isinstance (by decide +kernel) (pa_cons (pv 5) (pa_cons (pe_bltn (by rfl) T.b_tuple (by decide +kernel) rfl) pa_nil)))) (pss_one (ps_ret (pe_tup (pa_cons (pe_ix ix_tup (pv 5) pe_int (fun _ _ => rfl)) (pa_cons (pe_op op_add (pv 3) pe_int) pa_nil))))) pss_nil)
    (pss_one (ps_set (i := 2) sc_toss.nd rfl (by first | exact Or.inl rfl | exact Or.inr rfl) (pv 5))))))
    (pss_one (ps_ret (pe_tup (pa_cons pe_non (pa_cons (pe_callB call_len_seq (by rfl) T.b_len (by decide +kernel) (pa_cons (pv 1) pa_nil)) pa_nil))))))))
end
section
variable {P : Program} {w : World} {K : PySem.W.Frag} {mg : Str → Option Value} {base : Heap} {v_ZERO v_ONE : V}
theorem ok_coin_shares {f : Addr} {fd : FuncData} (F : Fun K "coin_shares" "coin_shares" s_coin_shares f fd) (T : Txt mg v_ZERO v_ONE) (hz : ∀ H, Rp K H v_ZERO (frac 0)) (C1 : Cal P w K mg base 1 "has_beyond" ["machine", "count"] kb_has_beyond ss_has_beyond) (C2 : Cal P w K mg base 1 "is_integer" ["thing", "low", "high"] kb_is_integer ss_is_integer)
    (C3 : Cal P w K mg base 4 "need_machine" ["thing"] kb_need_machine ss_need_machine) (C4 : Cal P w K mg base 6 "solved_machine" ["machine"] kb_solved_machine ss_solved_machine) : GnOk P w K mg base CX0 7 f fd ["machine", "count"] (toSp K w ss_coin_shares) :=
  sy_okX F sc_coin_shares (fun ds Θ R ⟨_, _, e, _⟩ => by rw [e]; rfl) (by decide) (fun cdv A outer s H E hg hr => p_coin_shares T C1 C2 C3 C4 f cdv A outer s H E hg hr) fun H ds Θ R ⟨m, c, e, e2, hm, hrun, c1, c2, hb, k⟩ => by
    subst e; subst e2
    show Rn _ _ [some (mda m), some (.int (c : Int)), none, none] _ _
    repeat' (first | infer_instance | fail)
    refine ⟨[], _, .nil, m, rfl, hm, ?_⟩
    repeat' (first | infer_instance | fail)
    refine ⟨[], _, .nil, _, _, _, rfl, ?_⟩
    rw [decide_eq_true (show (1 : Int) ≤ c by omega), decide_eq_true (show (c : Int) ≤ 26 by omega)]
    repeat' (first | infer_instance | fail)
    refine ⟨[], _, .nil, m, c, rfl, hm.hi, hb, ?_⟩
    repeat' (first | infer_instance | fail)
    refine ⟨[], _, .nil, m, rfl, rfl, hm, hrun, fun p => ?_⟩
    repeat' (first | infer_instance | fail)
    refine lc_R (fun o => frac (rget (solved m) (.out o))) (into_name (by decide)) ?_
    repeat' (first | infer_instance | fail)
    refine ⟨by omega, ?_, ?_⟩
    · intro q acc i hi
      show Tg _ _ _ [some (mda m), some (.int (c : Int)), some (.ref p), none] _ _
      repeat' (first | infer_instance | fail)
      refine ev_dget2 (ev_var rfl ⟨_, rfl, ⟨_, .head _⟩, ?_⟩)
      repeat' (first | infer_instance | fail)
      refine ⟨by show 2 ≤ sizeLine; decide, ?_⟩
      repeat' (first | infer_instance | fail)
      refine ev_con hz ?_
      repeat' (first | infer_instance | fail)
      exact ⟨_, _, _, (Key.out i).kk, rfl, .head _, Key.nk (.out i), Key.dep _, getD_kvs _ (.out i), rfl⟩
    · intro q
      refine ev_lst ?_
      repeat' (first | infer_instance | fail)
      refine ev_dget2 (ev_var rfl ⟨_, rfl, ⟨_, .head _⟩, ?_⟩)
      repeat' (first | infer_instance | fail)
      refine ev_con hz ?_
      repeat' (first | infer_instance | fail)
      refine ⟨_, _, _, (Key.endl).kk, rfl, .head _, Key.nk .endl, Key.dep _, ?_⟩
      rw [show (dget (solved m).kvs (.str "endless")).getD (frac 0) = frac (rget (solved m) .endl) from getD_kvs _ .endl]
      repeat' (first | infer_instance | fail)
      refine ⟨by show 1 ≤ sizeLine; decide, fun z => ?_⟩
      refine s_cat (.tail _ (.head _)) (.tail _ (.tail _ (.head _))) ?_ fun y => ?_
      · rw [List.length_map, List.length_range]
        exact Nat.le_trans (show c + 1 ≤ 27 by omega) (by decide)
      repeat' (first | infer_instance | fail)
      refine s_tupL mem_last ?_
      have e : sharesD m c = .tup ((List.range c).map (fun o => frac (rget (solved m) (.out o))) ++ [frac (rget (solved m) .endl)]) := by
        unfold sharesD sharesL
        rw [List.map_append, List.map_map]; rfl
      rw [← e]
      exact ⟨_, _, .nil, k⟩
theorem ok_coin_cost {f : Addr} {fd : FuncData} (F : Fun K "coin_cost" "coin_cost" s_coin_cost f fd) (T : Txt mg v_ZERO v_ONE) (C3 : Cal P w K mg base 4 "need_machine" ["thing"] kb_need_machine ss_need_machine) (C4 : Cal P w K mg base 6 "solved_machine" ["machine"] kb_solved_machine ss_solved_machine) :
    GnOk P w K mg base CX0 7 f fd ["machine"] (toSp K w ss_coin_cost) :=
  sy_okX F sc_coin_cost (fun ds Θ R ⟨_, e, _⟩ => by rw [e]; rfl) (by decide) (fun cdv A outer s H E hg hr => p_coin_cost T C3 C4 f cdv A outer s H E hg hr) fun H ds Θ R ⟨m, e, e2, hm, hrun, ht, k⟩ => by
    subst e; subst e2
    show Rn _ _ [some (mda m), none] _ _
    repeat' (first | infer_instance | fail)
    refine ⟨[], _, .nil, m, rfl, hm, ?_⟩
    repeat' (first | infer_instance | fail)
    refine ⟨[], _, .nil, m, rfl, rfl, hm, hrun, fun p => ?_⟩
    repeat' (first | infer_instance | fail)
    refine s_in (.head _) (Key.nk .endl) (Key.dep _) ?_
    rw [show (if true = true then !(dget (solved m).kvs (.str "endless")).isSome else (dget (solved m).kvs (.str "endless")).isSome) = !(look (solved m) .endl).isSome by rw [← look_kvs_some]; rfl]
    unfold costO at k
    cases h : (look (solved m) .endl).isSome with
    | true =>
      rw [h] at k
      repeat' (first | infer_instance | fail)
      exact ⟨_, _, .nil, k⟩
    | false =>
      rw [h] at k
      have ht := ht h
      have eg : look (solved m) .toss = some (rget (solved m) .toss) := by
        unfold rget
        cases z : look (solved m) .toss with
        | none => rw [z] at ht; cases ht
        | some x => rfl
      repeat' (first | infer_instance | fail)
      refine ev_dget (ev_var rfl ?_)
      repeat' (first | infer_instance | fail)
      exact ⟨_, _, _, _, rfl, .head _, Key.nk .toss, Key.dep _, (get_kvs _ .toss).trans (by rw [eg]; rfl), _, _, .nil, k⟩
theorem ok_toss {f : Addr} {fd : FuncData} (F : Fun K "toss" "toss" s_toss f fd) (T : Txt mg v_ZERO v_ONE) (C3 : Cal P w K mg base 4 "need_machine" ["thing"] kb_need_machine ss_need_machine) :
    GnOk P w K mg base CX0 5 f fd ["machine", "tosses"] (toSp K w ss_toss) :=
  sy_okX F sc_toss (fun ds Θ R ⟨_, _, e, _⟩ => by rw [e]; rfl) (by decide) (fun cdv A outer s H E hg hr => p_toss T C3 f cdv A outer s H E hg hr) fun H ds Θ R ⟨m, bs, e, hm, k⟩ => by
    subst e
    show Rn _ _ [some (mda m), some (.tup (bs.map Da.bl)), none, none, none, none] _ _
    repeat' (first | infer_instance | fail)
    refine ⟨[], _, .nil, m, rfl, hm, ?_⟩
    simp only [List.append_nil]
    repeat' (first | infer_instance | fail)
    refine x_for (ei_enumT ?_)
    repeat' (first | infer_instance | fail)
    refine ⟨fun i Γ' Θ' => ∃ n y3 y4 y5, n < m.length ∧ tossGo m n i (bs.drop i) = tossGo m 0 0 bs ∧ Γ' = [some (.tup (m.map nda)), some (.tup (bs.map Da.bl)), some (.int ((n : Nat) : Int)), y3, y4, y5] ∧ Θ' = Θ, ⟨0, _, _, _, hm.lo, rfl, rfl, rfl⟩, fun _ _ _ _ _ => trivial, ?_, ?_⟩
    · rintro i Γ' Θ' hi ⟨n, y3, y4, y5, hn, ht, rfl, rfl⟩
      rw [List.length_map] at hi
      have e1 : (bs.map Da.bl).getD i .non = .bl bs[i] := getD_of (by rw [List.getElem?_map, List.getElem?_eq_getElem hi]; rfl)
      rw [List.drop_eq_getElem_cons hi] at ht
      simp only [e1]
      have hA := hm.arms _ (List.getElem_mem hn)
      have hx : (m.map nda)[n]? = some (nda m[n]) := by rw [List.getElem?_map, List.getElem?_eq_getElem hn]; rfl
      have hpk : pick m n bs[i] = if bs[i] then m[n].1 else m[n].2 := by
        unfold pick
        rw [List.getD_eq_getElem?_getD, List.getElem?_eq_getElem hn]; rfl
      rw [tossGo_cons] at ht
      rw [hpk] at ht
      generalize m[n] = pr at *
      generalize bs[i] = b at *
      obtain ⟨u, v⟩ := pr
      have hx2 : (mda m) = .tup (m.map nda) := rfl
      cases b with
      | true =>
        cases u with
        | out j =>
          repeat' (first | infer_instance | fail)
          refine s_ixT (atI_nat hx) ?_
          repeat' (first | infer_instance | fail)
          refine ⟨by show 2 ≤ sizeLine; decide, ft_all ?_⟩
          have hg : Da.tup [.int (j : Int), .int ((i : Int) + 1)] = tossGo m 0 0 bs := ht
          rw [hg]
          exact k
        | «at» j =>
          repeat' (first | infer_instance | fail)
          refine s_ixT (atI_nat hx) ?_
          repeat' (first | infer_instance | fail)
          exact fg_all ⟨j, _, _, _, hA.1, ht, rfl, rfl⟩
      | false =>
        cases v with
        | out j =>
          repeat' (first | infer_instance | fail)
          refine s_ixT (atI_nat hx) ?_
          repeat' (first | infer_instance | fail)
          refine ⟨by show 2 ≤ sizeLine; decide, ft_all ?_⟩
          have hg : Da.tup [.int (j : Int), .int ((i : Int) + 1)] = tossGo m 0 0 bs := ht
          rw [hg]
          exact k
        | «at» j =>
          repeat' (first | infer_instance | fail)
          refine s_ixT (atI_nat hx) ?_
          repeat' (first | infer_instance | fail)
          exact fg_all ⟨j, _, _, _, hA.2, ht, rfl, rfl⟩
    · rintro Γ' Θ' ⟨n, y3, y4, y5, hn, ht, rfl, rfl⟩
      rw [List.length_map, List.drop_length] at ht
      repeat' (first | infer_instance | fail)
      rw [List.length_map]
      repeat' (first | infer_instance | fail)
      refine ⟨by show 2 ≤ sizeLine; decide, ft_all ?_⟩
      rw [← ht] at k
      exact k
end
end K38

end
section
/-! k38, part G: the law's numbers: well, drop, low, half. -/
namespace K38
open PySem PySem.Spec PyProof.Rows L2 Sy
local macro_rules | `(tactic| infer_instance) => `(tactic| first
  | with_reducible refine x_seq ?_
  | with_reducible refine x_asg ?_
  | with_reducible refine x_ret ?_
  | with_reducible refine x_drop ?_
  | with_reducible refine x_par ?_
  | with_reducible refine x_if ?_
  | with_reducible refine ev_op ?_
  | with_reducible refine ev_un ?_
  | with_reducible refine ev_cb ?_
  | with_reducible refine ev_tup ?_
  | with_reducible refine ea_nil ?_
  | with_reducible refine ea_cons ?_
  | with_reducible refine ev_int ?_
  | with_reducible refine ev_bl ?_
  | with_reducible refine ev_str ?_
  | with_reducible refine ev_ty ?_
  | with_reducible refine ev_non ?_
  | with_reducible refine et_test ?_
  | with_reducible refine et_B ?_
  | with_reducible refine et_not ?_
  | with_reducible refine et_and ?_
  | with_reducible refine et_or ?_
  | with_reducible refine ev_cal ?_
  | with_reducible refine ev_if ?_
  | with_reducible refine ev_andV ?_
  | with_reducible refine ev_orV ?_
  | with_reducible refine ev_notV ?_
  | with_reducible refine ev_chain ?_
  | with_reducible refine x_drop ?_
  | with_reducible refine x_par ?_
  | refine ev_var rfl ?_
  | with_reducible refine x_next ?_
  | refine s_I (by assumption) ?_
  | refine s_isi rfl rfl ?_
  | refine s_I0 ?_
  | refine s_B0 ?_
  | refine s_neg ?_
  | refine s_eqI ?_
  | refine s_neI ?_
  | refine s_eqS ?_
  | refine s_isN ?_
  | refine s_notN ?_
  | refine s_abs ?_
  | refine s_max2 ?_
  | refine s_min2 ?_
  | refine s_int1 ?_
  | refine s_intB ?_
  | refine s_lenT ?_
  | refine s_lenF ?_
  | refine s_ixT rfl ?_
  | refine tg_name (of_decide_eq_true rfl) ?_
  | refine tg_tup rfl ?_
  | refine tgs_cons ?_
  | refine tgs_nil ?_
  | refine ⟨fun _ => ?_, fun z => nomatch (show true = false from z)⟩
  | refine ⟨fun z => (nomatch (show false = true from z)), fun _ => ?_⟩
  | with_reducible refine ⟨_, rfl, ?_⟩
  | refine ⟨_, _, rfl, of_decide_eq_true rfl, of_decide_eq_true rfl, ?_⟩
  | fail "x")
theorem Bd.pw {n : Nat} {i j : Int} (h : Bd n i) (h0 : 0 ≤ j := by decide) (h1 : j ≤ 1000 := by decide) (h2 : n ≤ 4096 := by decide) : CPowW i j := ⟨h0, h1, h.mono h2⟩
theorem bd_of {n k : Nat} {i : Int} (h0 : 0 ≤ i) (h : i ≤ (k : Int)) (hk : k < 2 ^ n) : Bd n i := by
  unfold Bd
  omega
structure WellOk (n : Nat) (x y z : Int) : Prop where
  x0 : 0 ≤ x
  y0 : 0 ≤ y
  yb : Bd 200 y
  z0 : 0 ≤ z
  zn : z ≤ n
theorem WellOk.mono {n m : Nat} {x y z : Int} (h : WellOk n x y z) (l : n ≤ m) : WellOk m x y z := ⟨h.x0, h.y0, h.yb, h.z0, by have := h.zn; omega⟩
def wl (x y z : Int) : Mo := .lst [.int x, .int y, .int z]
def ss__law_drop : Ss := fun ds Θ R => ∃ (a : Addr) (x y z : Int) (n b : Nat), ds = [.ref a, .int (b : Int)] ∧ Θ = [(a, wl x y z)] ∧ WellOk n x y z ∧ n ≤ 1000000 ∧ 0 < b ∧ b ≤ 1000000 ∧ ∀ (d : Nat) (x' y' z' : Int), d < b → WellOk (n + 1) x' y' z' → R (.int (d : Int)) [(a, wl x' y' z')]
def ss__law_well : Ss := fun ds Θ R => ∃ (ns : List Int) (i : Nat), ds = [.lis (ns.map Da.int), .int (i : Int)] ∧ i ≤ 100 ∧ Θ = [] ∧ ∀ (p : Addr) (x y z : Int), WellOk 0 x y z → R (.ref p) [(p, wl x y z)]
def ss__law_low : Ss := fun ds Θ R => ∃ a b : Int, ds = [.int a, .int b] ∧ Bd 8000 a ∧ Bd 8000 b ∧ 0 < b ∧ R (frac (mkRat a b.toNat)) Θ
def ss__law_half : Ss := fun ds Θ R => ∃ a b : Rat, ds = [frac a, frac b] ∧ Sz 3000 a ∧ Sz 3000 b ∧ R (frac ((a + b) / 2)) Θ
abbrev t__law_drop (K : PySem.W.Frag) (w : World) (v_ZERO : V) (v_ONE : V) : TS :=
  (tSeq (tIfS (tTest (tOp (rI0 fun i j => .bl (decide (j < i))) (tOp (rIxL K) (tVar 0) (tC (.int 0))) (tC (.int 0)))) (tSeq (tAsg (tOp (rI (fun _ j => 0 < j) fun i j => .int (i % j)) (tCB rInt1 (tCons (tOp (rIxL K) (tVar 0) (tC (.int 0))) tNil)) (tVar 1)) (gName 2))
    (tSeq (tAsg (tOp (rI CDivW fun i j => .int (i / j)) (tOp (rIxL K) (tVar 0) (tC (.int 0))) (tVar 1)) (gSub (tVar 0) (tC (.int 0)) rSetL))
    (tRet (tVar 2)))) tNext)
    (tSeq (tAsg (tOp (rI0 fun i j => .int (i + j)) (tOp (rIxL K) (tVar 0) (tC (.int 2))) (tC (.int 1))) (gSub (tVar 0) (tC (.int 2)) rSetL))
    (tSeq (tAsg (tOp (rI (fun _ j => 0 < j) fun i j => .int (i % j)) (tCB rInt1 (tCons (tOp (rI CPowW fun i j => .int (i ^ j.toNat)) (tOp (rI0 fun i j => .int (i + j)) (tOp (rIxL K) (tVar 0) (tC (.int 1))) (tOp (rI CMulW fun i j => .int (i * j)) (tC (.int 86028121)) (tOp (rIxL K) (tVar 0) (tC (.int 2))))) (tC (.int 3))) tNil)) (tOp (rI0 fun i j => .int (i + j)) (tOp (rI CPowW fun i j => .int (i ^ j.toNat)) (tC (.int 10)) (tC (.int 39))) (tC (.int 3)))) (gName 3))
    (tSeq (tAsg (tOp (rI (fun _ j => 0 < j) fun i j => .int (i % j)) (tCB rInt1 (tCons (tOp (rI CPowW fun i j => .int (i ^ j.toNat)) (tOp (rI0 fun i j => .int (i + j)) (tVar 3) (tOp (rI CMulW fun i j => .int (i * j)) (tC (.int 67867967)) (tOp (rIxL K) (tVar 0) (tC (.int 2))))) (tC (.int 3))) tNil)) (tOp (rI0 fun i j => .int (i + j)) (tOp (rI CPowW fun i j => .int (i ^ j.toNat)) (tC (.int 10)) (tC (.int 41))) (tC (.int 109)))) (gName 3))
    (tRet (tOp (rI (fun _ j => 0 < j) fun i j => .int (i % j)) (tOp (rI CDivW fun i j => .int (i / j)) (tCB rInt1 (tCons (tVar 3) tNil)) (tC (.int 65521))) (tVar 1)))))))
section
variable {P : Program} {w : World} {K : PySem.W.Frag} {mg : Str → Option Value} {base : Heap} {v_ZERO v_ONE : V}
theorem p__law_drop (T : Txt mg v_ZERO v_ONE)
    (fa : Addr) (cdv : Value) (A : Around) (outer : List Env) (s : Shared) (H : Hp) (E : XK) (hgd : A.guards = some []) (hr : Room 0 (A.deeper (envOfC "_law_drop" (defScope s__law_drop) s.heap.objs.size fa cdv))) :
    PSs (cxOf CX0 P w K mg base N__law_drop "_law_drop" (defScope s__law_drop) fa cdv A outer s H E).nox (defBody s__law_drop) (t__law_drop K w v_ZERO v_ONE) :=
  (pss_cons (ps_if (pt_cmpR op_gt (pe_ix ix_list (pv 0) pe_int (fun _ _ => rfl)) pe_int (nomark _)) (pss_cons (ps_set (i := 2) sc__law_drop.nd rfl (by first | exact Or.inl rfl | exact Or.inr rfl) (pe_op op_mod (pe_callTy call_int1 (by rfl) T.b_int (by decide +kernel) (pa_cons (pe_ix ix_list (pv 0) pe_int (fun _ _ => rfl)) pa_nil)) (pv 1)))
    (pss_cons (ps_asg (pe_op op_fdivW (pe_ix ix_list (pv 0) pe_int (fun _ _ => rfl)) (pv 1)) (pg_sub (pv 0) pe_int set_list))
    (pss_one (ps_ret (pv 2))))) pss_nil)
    (pss_cons (ps_asg (pe_op op_add (pe_ix ix_list (pv 0) pe_int (fun _ _ => rfl)) pe_int) (pg_sub (pv 0) pe_int set_list))
    (pss_cons (ps_set (i := 3) sc__law_drop.nd rfl (by first | exact Or.inl rfl | exact Or.inr rfl) (pe_op op_mod (pe_callTy call_int1 (by rfl) T.b_int (by decide +kernel) (pa_cons (pe_op op_powW (pe_op op_add (pe_ix ix_list (pv 0) pe_int (fun _ _ => rfl)) (pe_op op_mulW pe_int (pe_ix ix_list (pv 0) pe_int (fun _ _ => rfl)))) pe_int) pa_nil)) (pe_op op_add (pe_op op_powW pe_int pe_int) pe_int)))
    (pss_cons (ps_set (i := 3) sc__law_drop.nd rfl (by first | exact Or.inl rfl | exact Or.inr rfl) (pe_op op_mod (pe_callTy call_int1 (by rfl) T.b_int (by decide +kernel) (pa_cons (pe_op op_powW (pe_op op_add (pv 3) (pe_op op_mulW pe_int (pe_ix ix_list (pv 0) pe_int (fun _ _ => rfl)))) pe_int) pa_nil)) (pe_op op_add (pe_op op_powW pe_int pe_int) pe_int)))
    (pss_one (ps_ret (pe_op op_mod (pe_op op_fdivW (pe_callTy call_int1 (by rfl) T.b_int (by decide +kernel) (pa_cons (pv 3) pa_nil)) pe_int) (pv 1))))))))
end
abbrev t__law_well (K : PySem.W.Frag) (w : World) (v_ZERO : V) (v_ONE : V) : TS :=
  (tSeq (tAsg (tC (.int 0)) (gName 2))
    (tSeq (tIfS (tTest (tOp (rI0 fun i j => .bl (decide (i < j))) (tVar 1) (tCB (rLenS K) (tCons (tVar 0) tNil)))) (tAsg (tOp (rIxL K) (tVar 0) (tVar 1)) (gName 2)) tNext)
    (tRet (tLst (tCons (tCB rMax2 (tCons (tC (.int 0)) (tCons (tOp (rI0 fun i j => .int (i - j)) (tVar 2) (tOp (rI CPowW fun i j => .int (i ^ j.toNat)) (tC (.int 10)) (tC (.int 18)))) tNil))) (tCons (tOp (rI0 fun i j => .int (i + j)) (tOp (rI0 fun i j => .int (i + j)) (tOp (rI CMulW fun i j => .int (i * j)) (tOp (rI (fun _ j => 0 < j) fun i j => .int (i % j)) (tCB rInt1 (tCons (tVar 2) tNil)) (tOp (rI0 fun i j => .int (i + j)) (tOp (rI CPowW fun i j => .int (i ^ j.toNat)) (tC (.int 10)) (tC (.int 36))) (tC (.int 67)))) (tC (.int 613))) (tOp (rI CMulW fun i j => .int (i * j)) (tC (.int 104729)) (tVar 1))) (tC (.int 7))) (tCons (tC (.int 0)) tNil)))))))
section
variable {P : Program} {w : World} {K : PySem.W.Frag} {mg : Str → Option Value} {base : Heap} {v_ZERO v_ONE : V}
theorem p__law_well (T : Txt mg v_ZERO v_ONE)
    (fa : Addr) (cdv : Value) (A : Around) (outer : List Env) (s : Shared) (H : Hp) (E : XK) (hgd : A.guards = some []) (hr : Room 0 (A.deeper (envOfC "_law_well" (defScope s__law_well) s.heap.objs.size fa cdv))) :
    PSs (cxOf CX0 P w K mg base N__law_well "_law_well" (defScope s__law_well) fa cdv A outer s H E).nox (defBody s__law_well) (t__law_well K w v_ZERO v_ONE) :=
  (pss_cons (ps_set (i := 2) sc__law_well.nd rfl (by first | exact Or.inl rfl | exact Or.inr rfl) pe_int)
    (pss_cons (ps_if (pt_cmpR op_lt (pv 1) (pe_callB call_len_seq (by rfl) T.b_len (by decide +kernel) (pa_cons (pv 0) pa_nil)) (nomark _)) (pss_one (ps_set (i := 2) sc__law_well.nd rfl (by first | exact Or.inl rfl | exact Or.inr rfl) (pe_ix ix_list (pv 0) (pv 1) (fun _ _ => rfl)))) pss_nil)
    (pss_one (ps_ret (pe_lst (pa_cons (pe_callB (call_max2 rfl) (by rfl) T.b_max (by decide +kernel) (pa_cons pe_int (pa_cons (pe_op op_sub (pv 2) (pe_op op_powW pe_int pe_int)) pa_nil))) (pa_cons (pe_op op_add (pe_op op_add (pe_op op_mulW (pe_op op_mod (pe_callTy call_int1 (by rfl) T.b_int (by decide +kernel) (pa_cons (pv 2) pa_nil)) (pe_op op_add (pe_op op_powW pe_int pe_int) pe_int)) pe_int) (pe_op op_mulW pe_int (pv 1))) pe_int) (pa_cons pe_int pa_nil))))))))
end
abbrev t__law_low (K : PySem.W.Frag) (w : World) (v_ZERO : V) (v_ONE : V) : TS :=
  (tSeq (tPar 2 3 (tCons (tCB rAbs (tCons (tVar 0) tNil)) (tCons (tVar 1) tNil)))
    (tSeq (tWhile (tTest (tOp (rI0 fun i j => .bl (decide (j < i))) (tVar 3) (tC (.int 0)))) (tPar 2 3 (tCons (tVar 3) (tCons (tOp (rI (fun _ j => 0 < j) fun i j => .int (i % j)) (tCB rInt1 (tCons (tVar 2) tNil)) (tVar 3)) tNil))))
    (tRet (tTup (tCons (tOp (rI CDivW fun i j => .int (i / j)) (tVar 0) (tVar 2)) (tCons (tOp (rI CDivW fun i j => .int (i / j)) (tVar 1) (tVar 2)) tNil))))))
section
variable {P : Program} {w : World} {K : PySem.W.Frag} {mg : Str → Option Value} {base : Heap} {v_ZERO v_ONE : V}
theorem p__law_low (T : Txt mg v_ZERO v_ONE)
    (fa : Addr) (cdv : Value) (A : Around) (outer : List Env) (s : Shared) (H : Hp) (E : XK) (hgd : A.guards = some []) (hr : Room 0 (A.deeper (envOfC "_law_low" (defScope s__law_low) s.heap.objs.size fa cdv))) :
    PSs (cxOf CX0 P w K mg base N__law_low "_law_low" (defScope s__law_low) fa cdv A outer s H E).nox (defBody s__law_low) (t__law_low K w v_ZERO v_ONE) :=
  (pss_cons (ps_par (i := 2) (j := 3) rfl sc__law_low.nd rfl rfl (by decide) rfl rfl (pa_cons (pe_callB call_abs (by rfl) T.b_abs (by decide +kernel) (pa_cons (pv 0) pa_nil)) (pa_cons (pv 1) pa_nil)) (by rfl))
    (pss_cons (ps_while PassesOwn.never (pt_cmpR op_gt (pv 3) pe_int (nomark _)) (pss_one (ps_par (i := 2) (j := 3) rfl sc__law_low.nd rfl rfl (by decide) rfl rfl (pa_cons (pv 3) (pa_cons (pe_op op_mod (pe_callTy call_int1 (by rfl) T.b_int (by decide +kernel) (pa_cons (pv 2) pa_nil)) (pv 3)) pa_nil)) (by rfl))))
    (pss_one (ps_ret (pe_tup (pa_cons (pe_op op_fdivW (pv 0) (pv 2)) (pa_cons (pe_op op_fdivW (pv 1) (pv 2)) pa_nil)))))))
end
abbrev t__law_half (K : PySem.W.Frag) (w : World) (v_ZERO : V) (v_ONE : V) : TS :=
  (tRet (tCall (toSp K w ss__law_low) [] xk0 (tCons (tOp (rI0 fun i j => .int (i + j)) (tOp (rI CMulW fun i j => .int (i * j)) (tOp (rIxT K) (tVar 0) (tC (.int 0))) (tOp (rIxT K) (tVar 1) (tC (.int 1)))) (tOp (rI CMulW fun i j => .int (i * j)) (tOp (rIxT K) (tVar 1) (tC (.int 0))) (tOp (rIxT K) (tVar 0) (tC (.int 1))))) (tCons (tOp (rI CMulW fun i j => .int (i * j)) (tOp (rI CMulW fun i j => .int (i * j)) (tC (.int 2)) (tOp (rIxT K) (tVar 0) (tC (.int 1)))) (tOp (rIxT K) (tVar 1) (tC (.int 1)))) tNil))))
section
variable {P : Program} {w : World} {K : PySem.W.Frag} {mg : Str → Option Value} {base : Heap} {v_ZERO v_ONE : V}
theorem p__law_half (T : Txt mg v_ZERO v_ONE)
    (C__law_low : Cal P w K mg base 1 "_law_low" ["_law_above", "_law_below"] kb__law_low ss__law_low)
    (fa : Addr) (cdv : Value) (A : Around) (outer : List Env) (s : Shared) (H : Hp) (E : XK) (hgd : A.guards = some []) (hr : Room 1 (A.deeper (envOfC "_law_half" (defScope s__law_half) s.heap.objs.size fa cdv))) :
    PSs (cxOf CX0 P w K mg base N__law_half "_law_half" (defScope s__law_half) fa cdv A outer s H E).nox (defBody s__law_half) (t__law_half K w v_ZERO v_ONE) :=
  (pss_one (ps_ret (pe_cal C__law_low hgd (hr.mono (by decide)) (by rfl) (pa_cons (pe_op op_add (pe_op op_mulW (pe_ix ix_tup (pv 0) pe_int (fun _ _ => rfl)) (pe_ix ix_tup (pv 1) pe_int (fun _ _ => rfl))) (pe_op op_mulW (pe_ix ix_tup (pv 1) pe_int (fun _ _ => rfl)) (pe_ix ix_tup (pv 0) pe_int (fun _ _ => rfl)))) (pa_cons (pe_op op_mulW (pe_op op_mulW pe_int (pe_ix ix_tup (pv 0) pe_int (fun _ _ => rfl))) (pe_ix ix_tup (pv 1) pe_int (fun _ _ => rfl))) pa_nil)))))
end
section
variable {P : Program} {w : World} {K : PySem.W.Frag} {mg : Str → Option Value} {base : Heap} {v_ZERO v_ONE : V}
theorem ok__law_drop {f : Addr} {fd : FuncData} (F : Fun K "_law_drop" "_law_drop" s__law_drop f fd) (T : Txt mg v_ZERO v_ONE) : GnOk P w K mg base CX0 1 f fd ["_law_well_here", "_law_bound"] (toSp K w ss__law_drop) :=
  sy_okX F sc__law_drop (fun ds Θ R ⟨_, _, _, _, _, _, e, _⟩ => by rw [e]; rfl) (by decide) (fun cdv A outer s H E hg hr => p__law_drop T f cdv A outer s H E hg hr) fun H ds Θ R ⟨a, x, y, z, n, b, e, e2, W, hn, hb, hb2, k⟩ => by
    subst e; subst e2
    show Rn _ _ [some (.ref a), some (.int (b : Int)), none, none] _ _
    have hx := W.x0
    have hbi : (0 : Int) < (b : Int) := by omega
    repeat' (first | infer_instance | fail)
    refine s_ixL (.head _) rfl ?_
    repeat' (first | infer_instance | fail)
    refine ⟨fun h => ?_, fun h => ?_⟩
    · have h0 : 0 < x := of_decide_eq_true h
      repeat' (first | infer_instance | fail)
      refine s_ixL (.head _) rfl ?_
      repeat' (first | infer_instance | fail)
      refine s_ixL (.head _) rfl ?_
      have c1 : CDivW x (b : Int) := (bd_of (n := 20) (k := 1000000) (by omega) (by omega) (by decide)).cd hbi
      repeat' (first | infer_instance | fail)
      refine tg_setL (ev_var rfl (ev_int ⟨a, _, 0, 0, _, rfl, rfl, .here, rfl, ?_⟩))
      repeat' (first | infer_instance | fail)
      have m0 : 0 ≤ x % (b : Int) := Int.emod_nonneg _ (by omega)
      have m1 : x % (b : Int) < b := Int.emod_lt_of_pos _ hbi
      have e : x % (b : Int) = ((x % (b : Int)).toNat : Int) := by omega
      rw [e]
      exact ft_all (k _ _ _ _ (by omega) ⟨Int.ediv_nonneg hx (by omega), W.y0, W.yb, W.z0, by have := W.zn; omega⟩)
    · repeat' (first | infer_instance | fail)
      refine s_ixL (.head _) rfl ?_
      repeat' (first | infer_instance | fail)
      refine tg_setL (ev_var rfl (ev_int ⟨a, _, 2, 2, _, rfl, rfl, .here, rfl, ?_⟩))
      have z0 : 0 ≤ z + 1 := by have := W.z0; omega
      have zb : Bd 30 (z + 1) := bd_of z0 (k := 1000001) (by have := W.zn; omega) (by decide)
      have k1 : Bd 30 86028121 := by unfold Bd; decide
      have k2 : Bd 30 67867967 := by unfold Bd; decide
      have k3 : Bd 4 10 := by unfold Bd; decide
      have k4 : Bd 30 65521 := by unfold Bd; decide
      have c1 : CMulW 86028121 (z + 1) := k1.cm zb
      have c2 : CMulW 67867967 (z + 1) := k2.cm zb
      have q1 : Bd 201 (y + 86028121 * (z + 1)) := (W.yb.add ((k1.mul zb).mono (by decide)))
      have c3 : CPowW (y + 86028121 * (z + 1)) 3 := q1.pw
      have c4 : CPowW 10 39 := k3.pw
      have c5 : CPowW 10 41 := k3.pw
      have p1 : (0 : Int) < 10 ^ Int.toNat 39 + 3 := by decide
      have p2 : (0 : Int) < 10 ^ Int.toNat 41 + 109 := by decide
      repeat' (first | infer_instance | fail)
      refine s_ixL (.head _) rfl ?_
      repeat' (first | infer_instance | fail)
      refine s_ixL (.head _) rfl ?_
      repeat' (first | infer_instance | fail)
      have m0 : 0 ≤ (y + 86028121 * (z + 1)) ^ Int.toNat 3 % (10 ^ Int.toNat 39 + 3) := Int.emod_nonneg _ (by decide)
      have m1 : (y + 86028121 * (z + 1)) ^ Int.toNat 3 % (10 ^ Int.toNat 39 + 3) < 10 ^ Int.toNat 39 + 3 := Int.emod_lt_of_pos _ p1
      generalize (y + 86028121 * (z + 1)) ^ Int.toNat 3 % (10 ^ Int.toNat 39 + 3) = u at *
      have ub : Bd 200 u := by
        have : (10 : Int) ^ Int.toNat 39 + 3 < 2 ^ 200 := by decide
        unfold Bd
        omega
      have q2 : Bd 201 (u + 67867967 * (z + 1)) := ub.add ((k2.mul zb).mono (by decide))
      have c6 : CPowW (u + 67867967 * (z + 1)) 3 := q2.pw
      refine s_ixL (.head _) rfl ?_
      repeat' (first | infer_instance | fail)
      have n0 : 0 ≤ (u + 67867967 * (z + 1)) ^ Int.toNat 3 % (10 ^ Int.toNat 41 + 109) := Int.emod_nonneg _ (by decide)
      generalize (u + 67867967 * (z + 1)) ^ Int.toNat 3 % (10 ^ Int.toNat 41 + 109) = v at *
      have c7 : CDivW v 65521 := k4.cd (by decide)
      repeat' (first | infer_instance | fail)
      have m2 : 0 ≤ v / 65521 % (b : Int) := Int.emod_nonneg _ (by omega)
      have m3 : v / 65521 % (b : Int) < b := Int.emod_lt_of_pos _ hbi
      have e : v / 65521 % (b : Int) = ((v / 65521 % (b : Int)).toNat : Int) := by omega
      rw [e]
      exact ft_all (k _ _ _ _ (by omega) ⟨hx, W.y0, W.yb, z0, by have := W.zn; omega⟩)
theorem ok__law_well {f : Addr} {fd : FuncData} (F : Fun K "_law_well" "_law_well" s__law_well f fd) (T : Txt mg v_ZERO v_ONE) : GnOk P w K mg base CX0 1 f fd ["_law_script", "_law_index"] (toSp K w ss__law_well) :=
  sy_okX F sc__law_well (fun ds Θ R ⟨_, _, e, _⟩ => by rw [e]; rfl) (by decide) (fun cdv A outer s H E hg hr => p__law_well T f cdv A outer s H E hg hr) fun H ds Θ R ⟨ns, i, e, hi, e2, k⟩ => by
    subst e; subst e2
    show Rn _ _ [some (.lis (ns.map Da.int)), some (.int (i : Int)), none] _ _
    have k3 : Bd 4 10 := by unfold Bd; decide
    have c4 : CPowW 10 18 := k3.pw
    have c5 : CPowW 10 36 := k3.pw
    have p1 : (0 : Int) < 10 ^ Int.toNat 36 + 67 := by decide
    have p2 : (10 : Int) ^ Int.toNat 36 + 67 < 2 ^ 120 := by decide
    have fin : ∀ cell : Int, Rn ⟨K, w, H, []⟩ (tRet (tLst (tCons (tCB rMax2 (tCons (tC (.int 0)) (tCons (tOp (rI0 fun i j => .int (i - j)) (tVar 2) (tOp (rI CPowW fun i j => .int (i ^ j.toNat)) (tC (.int 10)) (tC (.int 18)))) tNil))) (tCons (tOp (rI0 fun i j => .int (i + j)) (tOp (rI0 fun i j => .int (i + j)) (tOp (rI CMulW fun i j => .int (i * j)) (tOp (rI (fun _ j => 0 < j) fun i j => .int (i % j)) (tCB rInt1 (tCons (tVar 2) tNil)) (tOp (rI0 fun i j => .int (i + j)) (tOp (rI CPowW fun i j => .int (i ^ j.toNat)) (tC (.int 10)) (tC (.int 36))) (tC (.int 67)))) (tC (.int 613))) (tOp (rI CMulW fun i j => .int (i * j)) (tC (.int 104729)) (tVar 1))) (tC (.int 7))) (tCons (tC (.int 0)) tNil))))) [some (.lis (ns.map Da.int)), some (.int (i : Int)), some (.int cell)] [] ⟨fun _ Θ => FgtT R .non Θ, FgtT R, fun _ _ => False, fun _ _ => False⟩ := by
      intro cell
      have m0 : 0 ≤ cell % (10 ^ Int.toNat 36 + 67) := Int.emod_nonneg _ (by decide)
      have m1 : cell % (10 ^ Int.toNat 36 + 67) < 10 ^ Int.toNat 36 + 67 := Int.emod_lt_of_pos _ p1
      have c1 : CMulW (cell % (10 ^ Int.toNat 36 + 67)) 613 := by
        have h1 : Bd 120 (cell % (10 ^ Int.toNat 36 + 67)) := by unfold Bd; omega
        have h2 : Bd 20 613 := by unfold Bd; decide
        exact h1.cm h2
      have c2 : CMulW 104729 (i : Int) := by
        have h1 : Bd 20 104729 := by unfold Bd; decide
        have h2 : Bd 20 (i : Int) := bd_of (k := 100) (by omega) (by omega) (by decide)
        exact h1.cm h2
      refine x_ret (ev_lst ?_)
      repeat' (first | infer_instance | fail)
      refine ⟨by show 3 ≤ sizeLine; decide, fun p => ?_⟩
      refine ft_all (k p _ _ _ ⟨?_, ?_, ?_, by omega, by omega⟩)
      · split <;> omega
      · omega
      · unfold Bd; omega
    repeat' (first | infer_instance | fail)
    refine ⟨fun h => ?_, fun h => ?_⟩
    · rw [List.length_map] at h
      have hl : i < ns.length := by have := of_decide_eq_true h; omega
      repeat' (first | infer_instance | fail)
      refine s_ixF (atI_nat (j := i) (by rw [List.getElem?_map, List.getElem?_eq_getElem hl]; rfl)) ?_
      refine tg_name (of_decide_eq_true rfl) ?_
      exact fin _
    · refine x_next ?_
      exact fin 0
theorem ok__law_low {f : Addr} {fd : FuncData} (F : Fun K "_law_low" "_law_low" s__law_low f fd) (T : Txt mg v_ZERO v_ONE) : GnOk P w K mg base CX0 1 f fd ["_law_above", "_law_below"] (toSp K w ss__law_low) :=
  sy_okX F sc__law_low (fun ds Θ R ⟨_, _, e, _⟩ => by rw [e]; rfl) (by decide) (fun cdv A outer s H E hg hr => p__law_low T f cdv A outer s H E hg hr) fun H ds Θ R ⟨a, b, e, ha, hb, h0, k⟩ => by
    subst e
    show Rn _ _ [some (.int a), some (.int b), none, none] Θ _
    repeat' (first | infer_instance | fail)
    refine x_while (fun m Γ1 Θ1 => Θ1 = Θ ∧ ∃ (u v : Int), Γ1 = [some (.int a), some (.int b), some (.int u), some (.int v)] ∧ 0 ≤ u ∧ 0 ≤ v ∧ Int.gcd u v = Int.gcd a b ∧ v.toNat = m) b.toNat ⟨rfl, _, _, rfl, ?_, by omega, ?_, rfl⟩ ?_
    · split <;> omega
    · have e1 : (if a < 0 then -a else a) = (a.natAbs : Int) := by split <;> omega
      rw [e1]
      rfl
    · rintro m Γ1 Θ1 ⟨rfl, u, v, rfl, hu, hv, hg, hm⟩
      repeat' (first | infer_instance | fail)
      refine ⟨fun hlt => ?_, fun hlt => ?_⟩
      · have hlt : 0 < v := of_decide_eq_true hlt
        have m0 : 0 ≤ u % v := Int.emod_nonneg _ (by omega)
        have m1 : u % v < v := Int.emod_lt_of_pos _ hlt
        have e : u - u / v * v = u % v := by rw [Int.emod_def, Int.mul_comm]
        repeat' (first | infer_instance | fail)
        refine fg_all ⟨(u % v).toNat, by omega, rfl, v, u % v, rfl, hv, m0, by rw [← e, gcd_step hlt hu, hg], rfl⟩
      · have hz : v = 0 := by have := of_decide_eq_false hlt; omega
        subst hz
        have eu : u = (Int.gcd a b : Int) := by
          rw [← hg, Int.gcd_zero_right]
          omega
        have g0 : 0 < Int.gcd a b := Int.gcd_pos_of_ne_zero_right _ (by omega)
        have bg : Bd 8000 (Int.gcd a b : Int) := by
          have : Int.gcd a b ≤ b.natAbs := Int.gcd_le_natAbs_right _ (by omega)
          unfold Bd at *
          omega
        subst eu
        have c1 : CDivW a (Int.gcd a b : Int) := bg.cd (by omega)
        have c2 : CDivW b (Int.gcd a b : Int) := bg.cd (by omega)
        repeat' (first | infer_instance | fail)
        refine ⟨by show 2 ≤ sizeLine; decide, ft_all ?_⟩
        have e : Da.tup [.int (a / (Int.gcd a b : Int)), .int (b / (Int.gcd a b : Int))] = frac (mkRat a b.toNat) := by
          unfold frac
          rw [Rat.num_mkRat, Rat.den_mkRat, if_neg (by omega), if_neg (by omega)]
          have e1 : Int.gcd a b = b.toNat.gcd a.natAbs := by
            rw [Int.gcd_comm]
            show Nat.gcd b.natAbs a.natAbs = _
            congr 1
            omega
          rw [e1, Int.natCast_ediv, Int.toNat_of_nonneg (by omega)]
        rw [e]
        exact k
theorem half_mk (a b : Rat) : mkRat (a.num * b.den + b.num * a.den) (2 * (a.den : Int) * b.den).toNat = (a + b) / 2 := by
  have e1 : (((2 * (a.den : Int) * b.den).toNat : Nat) : Rat) = 2 * ((a.den : Rat) * (b.den : Rat)) := by
    rw [show (2 * (a.den : Int) * b.den).toNat = 2 * (a.den * b.den) by
      rw [Int.mul_assoc, ← Int.natCast_mul]
      omega]
    rw [Rat.natCast_mul, Rat.natCast_mul]
    rfl
  have ea : a = (a.num : Rat) / (a.den : Rat) := by rw [← Rat.mkRat_eq_div, Rat.mkRat_self]
  have eb : b = (b.num : Rat) / (b.den : Rat) := by rw [← Rat.mkRat_eq_div, Rat.mkRat_self]
  have d1 : (a.den : Rat) ≠ 0 := by
    intro z
    have := a.den_nz
    exact this (by exact_mod_cast z)
  have d2 : (b.den : Rat) ≠ 0 := by
    intro z
    have := b.den_nz
    exact this (by exact_mod_cast z)
  rw [Rat.mkRat_eq_div, e1, Rat.intCast_add, Rat.intCast_mul, Rat.intCast_mul, Rat.intCast_natCast, Rat.intCast_natCast]
  generalize (a.num : Rat) = x at *
  generalize (a.den : Rat) = y at *
  generalize (b.num : Rat) = u at *
  generalize (b.den : Rat) = v at *
  rw [ea, eb]
  grind
theorem ok__law_half {f : Addr} {fd : FuncData} (F : Fun K "_law_half" "_law_half" s__law_half f fd) (T : Txt mg v_ZERO v_ONE) (C : Cal P w K mg base 1 "_law_low" ["_law_above", "_law_below"] kb__law_low ss__law_low) : GnOk P w K mg base CX0 2 f fd ["_law_one", "_law_other"] (toSp K w ss__law_half) :=
  sy_okX F sc__law_half (fun ds Θ R ⟨_, _, e, _⟩ => by rw [e]; rfl) (by decide) (fun cdv A outer s H E hg hr => p__law_half T C f cdv A outer s H E hg hr) fun H ds Θ R ⟨a, b, e, ha, hb, k⟩ => by
    subst e
    show Rn _ _ [some (.tup [.int a.num, .int (a.den : Int)]), some (.tup [.int b.num, .int (b.den : Int)])] Θ _
    have k2 : Bd 3 2 := by unfold Bd; decide
    have c1 : CMulW a.num b.den := ha.1.cm hb.d
    have c2 : CMulW b.num a.den := hb.1.cm ha.d
    have c3 : CMulW 2 a.den := k2.cm ha.d
    have c4 : CMulW (2 * (a.den : Int)) b.den := (k2.mul ha.d).cm hb.d
    repeat' (first | infer_instance | fail)
    refine ⟨[], Θ, .nil, _, _, rfl, ((ha.1.mul hb.d).add (hb.1.mul ha.d)).mono (by decide), ((k2.mul ha.d).mul hb.d).mono (by decide), Int.mul_pos (Int.mul_pos (by decide) (den_pos a)) (den_pos b), ?_⟩
    simp only [List.append_nil]
    rw [half_mk]
    exact ft_all k
end
end K38

end
section
/-! k38, part H: the law's machines and their other readings. -/
namespace K38
open PySem PySem.Spec PyProof.Rows L2 Sy
local macro_rules | `(tactic| infer_instance) => `(tactic| first
  | with_reducible refine x_seq ?_
  | with_reducible refine x_asg ?_
  | with_reducible refine x_ret ?_
  | with_reducible refine x_drop ?_
  | with_reducible refine x_par ?_
  | with_reducible refine x_if ?_
  | with_reducible refine ev_op ?_
  | with_reducible refine ev_un ?_
  | with_reducible refine ev_cb ?_
  | with_reducible refine ev_tup ?_
  | with_reducible refine ea_nil ?_
  | with_reducible refine ea_cons ?_
  | with_reducible refine ev_int ?_
  | with_reducible refine ev_bl ?_
  | with_reducible refine ev_str ?_
  | with_reducible refine ev_ty ?_
  | with_reducible refine ev_non ?_
  | with_reducible refine et_test ?_
  | with_reducible refine et_B ?_
  | with_reducible refine et_not ?_
  | with_reducible refine et_and ?_
  | with_reducible refine et_or ?_
  | with_reducible refine ev_cal ?_
  | with_reducible refine ev_if ?_
  | with_reducible refine ev_andV ?_
  | with_reducible refine ev_orV ?_
  | with_reducible refine ev_notV ?_
  | with_reducible refine ev_chain ?_
  | with_reducible refine x_drop ?_
  | with_reducible refine x_par ?_
  | refine ev_var rfl ?_
  | with_reducible refine x_next ?_
  | refine s_I (by assumption) ?_
  | refine s_isi rfl rfl ?_
  | refine s_I0 ?_
  | refine s_B0 ?_
  | refine s_neg ?_
  | refine s_eqI ?_
  | refine s_neI ?_
  | refine s_eqS ?_
  | refine s_isN ?_
  | refine s_notN ?_
  | refine s_abs ?_
  | refine s_max2 ?_
  | refine s_min2 ?_
  | refine s_int1 ?_
  | refine s_intB ?_
  | refine s_lenT ?_
  | refine s_lenF ?_
  | refine s_ixT rfl ?_
  | refine tg_name (of_decide_eq_true rfl) ?_
  | refine tg_tup rfl ?_
  | refine tgs_cons ?_
  | refine tgs_nil ?_
  | refine ⟨fun _ => ?_, fun z => nomatch (show true = false from z)⟩
  | refine ⟨fun z => (nomatch (show false = true from z)), fun _ => ?_⟩
  | with_reducible refine ⟨_, rfl, ?_⟩
  | refine ⟨_, _, rfl, of_decide_eq_true rfl, of_decide_eq_true rfl, ?_⟩
  | fail "x")
def ss__law_tossed : Ss := fun ds Θ R => ∃ (m : Mach) (bs : List Bool), ds = [mda m, .tup (bs.map Da.bl)] ∧ MOk m ∧ R (tossGo m 0 0 bs) Θ
def sw (k i : Nat) : Nat := if i = k then 0 else if i = 0 then k else i
def swA (k : Nat) : Arm → Arm
  | .out j => .out j
  | .at n => .at (sw k n)
def d0 : Arm × Arm := (.at 0, .at 0)
def swapM (m : Mach) (k : Nat) : Mach := (List.range m.length).map fun i => (swA k (m.getD (sw k i) d0).1, swA k (m.getD (sw k i) d0).2)
def ss__law_from : Ss := fun ds Θ R => ∃ (m : Mach) (k : Nat), ds = [mda m, .int (k : Int)] ∧ Θ = [] ∧ MOk m ∧ k < m.length ∧ R (mda (swapM m k)) []
def mark (f : List Bool) (j : Nat) : Arm → List Bool
  | .out _ => f.set j true
  | .at n => if f.getD n false then f.set j true else f
def sweep1 (m : Mach) (f : List Bool) (j : Nat) : List Bool := mark (mark f j (m.getD j d0).1) j (m.getD j d0).2
def sweepN (m : Mach) (f : List Bool) : Nat → List Bool
  | 0 => f
  | j + 1 => sweep1 m (sweepN m f j) j
def rounds (m : Mach) : Nat → List Bool
  | 0 => List.replicate m.length false
  | k + 1 => sweepN m (rounds m k) m.length
def ss__law_ending : Ss := fun ds Θ R => ∃ m : Mach, ds = [mda m] ∧ Θ = [] ∧ MOk m ∧ ∀ p, R (.ref p) [(p, .lst ((rounds m m.length).map Da.bl))]
theorem mark_len (f : List Bool) (j : Nat) (a : Arm) : (mark f j a).length = f.length := by
  cases a with
  | out => exact List.length_set
  | «at» n =>
    show (if f.getD n false then f.set j true else f).length = _
    split
    · exact List.length_set
    · rfl
theorem sweep1_len (m : Mach) (f : List Bool) (j : Nat) : (sweep1 m f j).length = f.length := by
  unfold sweep1
  rw [mark_len, mark_len]
theorem sweepN_len (m : Mach) (f : List Bool) : ∀ j, (sweepN m f j).length = f.length
  | 0 => rfl
  | j + 1 => by
    unfold sweepN
    rw [sweep1_len, sweepN_len m f j]
theorem rounds_len (m : Mach) : ∀ k, (rounds m k).length = m.length
  | 0 => List.length_replicate
  | k + 1 => by
    unfold rounds
    rw [sweepN_len, rounds_len m k]
abbrev t__law_tossed (K : PySem.W.Frag) (w : World) (v_ZERO : V) (v_ONE : V) : TS :=
  (tSeq (tAsg (tTup (tCons (tC (.int 0)) (tCons (tC (.int 0)) tNil))) (gTup K 2 (gCons (gName 2) (gCons (gName 3) gNil))))
    (tSeq (tFor (iTup K (tVar 1)) (gName 4)
    (tSeq (tPar 5 3 (tCons (tOp (rIxT K) (tOp (rIxT K) (tVar 0) (tVar 2)) (tOp (rI0 fun i j => .int (i - j)) (tC (.int 1)) (tCB rInt1 (tCons (tVar 4) tNil)))) (tCons (tOp (rI0 fun i j => .int (i + j)) (tVar 3) (tC (.int 1))) tNil)))
    (tSeq (tIfS (tB (tCB (rIsi K) (tCons (tVar 5) (tCons (tC (.ty "tuple")) tNil)))) (tRet (tTup (tCons (tOp (rIxT K) (tVar 5) (tC (.int 1))) (tCons (tVar 3) tNil)))) tNext)
    (tAsg (tVar 5) (gName 2)))))
    (tRet (tTup (tCons (tC .non) (tCons (tVar 3) tNil))))))
section
variable {P : Program} {w : World} {K : PySem.W.Frag} {mg : Str → Option Value} {base : Heap} {v_ZERO v_ONE : V}
theorem p__law_tossed (T : Txt mg v_ZERO v_ONE)
    (fa : Addr) (cdv : Value) (A : Around) (outer : List Env) (s : Shared) (H : Hp) (E : XK) (hgd : A.guards = some []) (hr : Room 0 (A.deeper (envOfC "_law_tossed" (defScope s__law_tossed) s.heap.objs.size fa cdv))) :
    PSs (cxOf CX0 P w K mg base N__law_tossed "_law_tossed" (defScope s__law_tossed) fa cdv A outer s H E).nox (defBody s__law_tossed) (t__law_tossed K w v_ZERO v_ONE) :=
  (pss_cons (ps_asg (pe_tup (pa_cons pe_int (pa_cons pe_int pa_nil))) (pg_tup rfl (pgs_cons (pg_name (i := 2) sc__law_tossed.nd rfl (by first | exact Or.inl rfl | exact Or.inr rfl)) (pgs_cons (pg_name (i := 3) sc__law_tossed.nd rfl (by first | exact Or.inl rfl | exact Or.inr rfl)) pgs_nil))))
    (pss_cons (ps_for PassesOwn.never rfl (pi_tup (pv 1)) (pg_name (i := 4) sc__law_tossed.nd rfl (by first | exact Or.inl rfl | exact Or.inr rfl))
    (pss_cons (ps_par (i := 5) (j := 3) rfl sc__law_tossed.nd rfl rfl (by decide) rfl rfl (pa_cons (pe_ix ix_tup (pe_ix ix_tup (pv 0) (pv 2) (fun _ _ => rfl)) (pe_op op_sub pe_int (pe_callTy call_int1 (by rfl) T.b_int (by decide +kernel) (pa_cons (pv 4) pa_nil))) (fun _ _ => rfl)) (pa_cons (pe_op op_add (pv 3) pe_int) pa_nil)) (by rfl))
    (pss_cons (ps_if (pt_val (pe_callB call_isi (by rfl) T.b_isinstance (by decide +kernel) (pa_cons (pv 5) (pa_cons (pe_bltn (by rfl) T.b_tuple (by decide +kernel) rfl) pa_nil)))) (pss_one (ps_ret (pe_tup (pa_cons (pe_ix ix_tup (pv 5) pe_int (fun _ _ => rfl)) (pa_cons (pv 3) pa_nil))))) pss_nil)
    (pss_one (ps_set (i := 2) sc__law_tossed.nd rfl (by first | exact Or.inl rfl | exact Or.inr rfl) (pv 5))))))
    (pss_one (ps_ret (pe_tup (pa_cons pe_non (pa_cons (pv 3) pa_nil)))))))
end
abbrev t__law_from (K : PySem.W.Frag) (w : World) (v_ZERO : V) (v_ONE : V) : TS :=
  (tSeq (tAsg (tLstRg (tRg1 (tCB (rLenS K) (tCons (tVar 0) tNil)))) (gName 2))
    (tSeq (tAsg (tVar 1) (gSub (tVar 2) (tC (.int 0)) rSetL))
    (tSeq (tAsg (tC (.int 0)) (gSub (tVar 2) (tVar 1) rSetL))
    (tSeq (tAsg (tLst tNil) (gName 3))
    (tSeq (tFor (iList K (tVar 2)) (gName 4)
    (tDrop (tBM K "list" rAppend (tVar 3) (tCons (tCB (rTupOf K) (tCons (tLc (iTup K (tOp (rIxT K) (tVar 0) (tVar 4))) (gName 5) tYes (tIf (tB (tCB (rIsi K) (tCons (tVar 5) (tCons (tC (.ty "tuple")) tNil)))) (tVar 5) (tOp (rIxL K) (tVar 2) (tVar 5))) [5]) tNil)) tNil))))
    (tRet (tCB (rTupOf K) (tCons (tVar 3) tNil))))))))
section
variable {P : Program} {w : World} {K : PySem.W.Frag} {mg : Str → Option Value} {base : Heap} {v_ZERO v_ONE : V}
theorem p__law_from (T : Txt mg v_ZERO v_ONE)
    (fa : Addr) (cdv : Value) (A : Around) (outer : List Env) (s : Shared) (H : Hp) (E : XK) (hgd : A.guards = some []) (hr : Room 0 (A.deeper (envOfC "_law_from" (defScope s__law_from) s.heap.objs.size fa cdv))) :
    PSs (cxOf CX0 P w K mg base N__law_from "_law_from" (defScope s__law_from) fa cdv A outer s H E).nox (defBody s__law_from) (t__law_from K w v_ZERO v_ONE) :=
  (pss_cons (ps_set (i := 2) sc__law_from.nd rfl (by first | exact Or.inl rfl | exact Or.inr rfl) (pe_listRg rfl (by rfl) T.b_list (prg_1 (by rfl) T.b_range (pe_callB call_len_seq (by rfl) T.b_len (by decide +kernel) (pa_cons (pv 0) pa_nil)))))
    (pss_cons (ps_asg (pv 1) (pg_sub (pv 2) pe_int set_list))
    (pss_cons (ps_asg pe_int (pg_sub (pv 2) (pv 1) set_list))
    (pss_cons (ps_set (i := 3) sc__law_from.nd rfl (by first | exact Or.inl rfl | exact Or.inr rfl) (pe_lst pa_nil))
    (pss_cons (ps_for PassesOwn.never rfl (pi_list (pv 2)) (pg_name (i := 4) sc__law_from.nd rfl (by first | exact Or.inl rfl | exact Or.inr rfl))
    (pss_one (ps_expr (pe_bm PySem.F.plainAttrs_list PySem.F.slot_list_append PySem.F.type_list_append mt_append (pv 3) (pa_cons (pe_callTy call_tuple_of (by rfl) T.b_tuple (by decide +kernel) (pa_cons (pe_lc (own := [("_law_arm", 5)]) (g := (gName 5)) (tt := tYes) rfl sc__law_from.nd (pi_tup (pe_ix ix_tup (pv 0) (pv 4) (fun _ _ => rfl))) (blkOk_by (N := N__law_from) (sc := defScope s__law_from) (by decide +kernel)) (fun _ _ _ _ _ => (pg_name (i := 5) sc__law_from.nd rfl (by first | exact Or.inl rfl | exact Or.inr rfl))) (fun _ _ _ _ _ => pts_nil) (fun _ _ _ _ _ => (pe_ifExp (pt_val (pe_callB call_isi (by rfl) T.b_isinstance (by decide +kernel) (pa_cons (pv 5) (pa_cons (pe_bltn (by rfl) T.b_tuple (by decide +kernel) rfl) pa_nil)))) (pv 5) (pe_ix ix_list (pv 2) (pv 5) (fun _ _ => rfl))))) pa_nil)) pa_nil)))))
    (pss_one (ps_ret (pe_callTy call_tuple_of (by rfl) T.b_tuple (by decide +kernel) (pa_cons (pv 3) pa_nil)))))))))
end
abbrev t__law_ending (K : PySem.W.Frag) (w : World) (v_ZERO : V) (v_ONE : V) : TS :=
  (tSeq (tAsg (tLc (iTup K (tVar 0)) (gName 5) tYes (tC (.bl false)) [5]) (gName 1))
    (tSeq (tFor (iRng1 (tCons (tCB (rLenS K) (tCons (tVar 0) tNil)) tNil)) (gName 2)
    (tFor (iRng1 (tCons (tCB (rLenS K) (tCons (tVar 0) tNil)) tNil)) (gName 3)
    (tFor (iTup K (tOp (rIxT K) (tVar 0) (tVar 3))) (gName 4)
    (tIfS (tOr (tB (tCB (rIsi K) (tCons (tVar 4) (tCons (tC (.ty "tuple")) tNil)))) (tB (tOp (rIxL K) (tVar 1) (tVar 4)))) (tAsg (tC (.bl true)) (gSub (tVar 1) (tVar 3) rSetL)) tNext))))
    (tRet (tVar 1))))
section
variable {P : Program} {w : World} {K : PySem.W.Frag} {mg : Str → Option Value} {base : Heap} {v_ZERO v_ONE : V}
theorem p__law_ending (T : Txt mg v_ZERO v_ONE)
    (fa : Addr) (cdv : Value) (A : Around) (outer : List Env) (s : Shared) (H : Hp) (E : XK) (hgd : A.guards = some []) (hr : Room 0 (A.deeper (envOfC "_law_ending" (defScope s__law_ending) s.heap.objs.size fa cdv))) :
    PSs (cxOf CX0 P w K mg base N__law_ending "_law_ending" (defScope s__law_ending) fa cdv A outer s H E).nox (defBody s__law_ending) (t__law_ending K w v_ZERO v_ONE) :=
  (pss_cons (ps_setLc (i := 1) (own := [("_law_node", 5)]) (g := (gName 5)) (tt := tYes) rfl sc__law_ending.nd rfl rfl (sw_true rfl rfl rfl (by decide +kernel)) (pi_tup (pv 0)) (blkOk_by (N := N__law_ending) (sc := defScope s__law_ending) (by decide +kernel)) (fun _ _ _ _ _ => (pg_name (i := 5) sc__law_ending.nd rfl (by first | exact Or.inl rfl | exact Or.inr rfl))) (fun _ _ _ _ _ => pts_nil) (fun _ _ _ _ _ => pe_bl))
    (pss_cons (ps_for PassesOwn.never rfl (pi_range1 (by rfl) T.b_range (pa_cons (pe_callB call_len_seq (by rfl) T.b_len (by decide +kernel) (pa_cons (pv 0) pa_nil)) pa_nil)) (pg_name (i := 2) sc__law_ending.nd rfl (by first | exact Or.inl rfl | exact Or.inr rfl))
    (pss_one (ps_for PassesOwn.never rfl (pi_range1 (by rfl) T.b_range (pa_cons (pe_callB call_len_seq (by rfl) T.b_len (by decide +kernel) (pa_cons (pv 0) pa_nil)) pa_nil)) (pg_name (i := 3) sc__law_ending.nd rfl (by first | exact Or.inl rfl | exact Or.inr rfl))
    (pss_one (ps_for PassesOwn.never rfl (pi_tup (pe_ix ix_tup (pv 0) (pv 3) (fun _ _ => rfl))) (pg_name (i := 4) sc__law_ending.nd rfl (by first | exact Or.inl rfl | exact Or.inr rfl))
    (pss_one (ps_if (PW.pt (pw_or (pt_val (pe_callB call_isi (by rfl) T.b_isinstance (by decide +kernel) (pa_cons (pv 4) (pa_cons (pe_bltn (by rfl) T.b_tuple (by decide +kernel) rfl) pa_nil)))) (pw_or1 (pt_val (pe_ix ix_list (pv 1) (pv 4) (fun _ _ => rfl)))))) (pss_one (ps_asg pe_bl (pg_sub (pv 1) (pv 3) set_list))) pss_nil)))))))
    (pss_one (ps_ret (pv 1)))))
end
section
variable {P : Program} {w : World} {K : PySem.W.Frag} {mg : Str → Option Value} {base : Heap} {v_ZERO v_ONE : V}
theorem ok__law_tossed {f : Addr} {fd : FuncData} (F : Fun K "_law_tossed" "_law_tossed" s__law_tossed f fd) (T : Txt mg v_ZERO v_ONE) : GnOk P w K mg base CX0 1 f fd ["_law_machine_here", "_law_tosses_here"] (toSp K w ss__law_tossed) :=
  sy_okX F sc__law_tossed (fun ds Θ R ⟨_, _, e, _⟩ => by rw [e]; rfl) (by decide) (fun cdv A outer s H E hg hr => p__law_tossed T f cdv A outer s H E hg hr) fun H ds Θ R ⟨m, bs, e, hm, k⟩ => by
    subst e
    show Rn _ _ [some (mda m), some (.tup (bs.map Da.bl)), none, none, none, none] _ _
    repeat' (first | infer_instance | fail)
    refine ⟨by show 2 ≤ sizeLine; decide, ?_⟩
    repeat' (first | infer_instance | fail)
    refine x_forT (fun i Γ' Θ' => ∃ n y4 y5, n < m.length ∧ tossGo m n i (bs.drop i) = tossGo m 0 0 bs ∧ Γ' = [some (.tup (m.map nda)), some (.tup (bs.map Da.bl)), some (.int ((n : Nat) : Int)), some (.int ((i : Nat) : Int)), y4, y5] ∧ Θ' = Θ) ?_
    repeat' (first | infer_instance | fail)
    refine ⟨⟨0, _, _, hm.lo, rfl, rfl, rfl⟩, ?_, ?_⟩
    · rintro i Γ' Θ' d hi hd ⟨n, y4, y5, hn, ht, rfl, rfl⟩
      rw [List.length_map] at hi
      have e1 : d = .bl bs[i] := by
        rw [List.getElem?_map, List.getElem?_eq_getElem hi] at hd
        exact (Option.some.inj hd).symm
      subst e1
      rw [List.drop_eq_getElem_cons hi] at ht
      have hA := hm.arms _ (List.getElem_mem hn)
      have hx : (m.map nda)[n]? = some (nda m[n]) := by rw [List.getElem?_map, List.getElem?_eq_getElem hn]; rfl
      have hpk : pick m n bs[i] = if bs[i] then m[n].1 else m[n].2 := by
        unfold pick
        rw [List.getD_eq_getElem?_getD, List.getElem?_eq_getElem hn]; rfl
      rw [tossGo_cons] at ht
      rw [hpk] at ht
      have ec : ((i + 1 : Nat) : Int) = (i : Int) + 1 := by omega
      rw [ec]
      generalize m[n] = pr at *
      generalize bs[i] = b at *
      obtain ⟨u, v⟩ := pr
      have hx2 : (mda m) = .tup (m.map nda) := rfl
      cases b with
      | true =>
        cases u with
        | out j =>
          repeat' (first | infer_instance | fail)
          refine s_ixT (atI_nat hx) ?_
          repeat' (first | infer_instance | fail)
          refine ⟨by show 2 ≤ sizeLine; decide, ft_all ?_⟩
          have hg : Da.tup [.int (j : Int), .int ((i : Int) + 1)] = tossGo m 0 0 bs := ht
          rw [hg]
          exact k
        | «at» j =>
          repeat' (first | infer_instance | fail)
          refine s_ixT (atI_nat hx) ?_
          repeat' (first | infer_instance | fail)
          exact fg_all ⟨j, _, _, hA.1, ht, rfl, rfl⟩
      | false =>
        cases v with
        | out j =>
          repeat' (first | infer_instance | fail)
          refine s_ixT (atI_nat hx) ?_
          repeat' (first | infer_instance | fail)
          refine ⟨by show 2 ≤ sizeLine; decide, ft_all ?_⟩
          have hg : Da.tup [.int (j : Int), .int ((i : Int) + 1)] = tossGo m 0 0 bs := ht
          rw [hg]
          exact k
        | «at» j =>
          repeat' (first | infer_instance | fail)
          refine s_ixT (atI_nat hx) ?_
          repeat' (first | infer_instance | fail)
          exact fg_all ⟨j, _, _, hA.2, ht, rfl, rfl⟩
    · rintro Γ' Θ' ⟨n, y4, y5, hn, ht, rfl, rfl⟩
      rw [List.length_map, List.drop_length] at ht
      rw [List.length_map]
      repeat' (first | infer_instance | fail)
      refine ⟨by show 2 ≤ sizeLine; decide, ft_all ?_⟩
      rw [← ht] at k
      exact k
theorem sw_lt {k n i : Nat} (hk : k < n) (hi : i < n) : sw k i < n := by unfold sw; split <;> (try split) <;> omega
theorem swA_da (k : Nat) (a : Arm) : (swA k a).da = match a with | .out j => Da.tup [.str "out", .int (j : Int)] | .at n => .int ((sw k n : Nat) : Int) := by cases a <;> rfl
def swD (k : Nat) : Da → Da
  | .int i => .int ((sw k i.toNat : Nat) : Int)
  | d => d
theorem ok__law_from {f : Addr} {fd : FuncData} (F : Fun K "_law_from" "_law_from" s__law_from f fd) (T : Txt mg v_ZERO v_ONE) : GnOk P w K mg base CX0 1 f fd ["_law_machine_here", "_law_node"] (toSp K w ss__law_from) :=
  sy_okX F sc__law_from (fun ds Θ R ⟨_, _, e, _⟩ => by rw [e]; rfl) (by decide) (fun cdv A outer s H E hg hr => p__law_from T f cdv A outer s H E hg hr) fun H ds Θ R ⟨m, kk, e, e2, hm, hk, k⟩ => by
    subst e; subst e2
    show Rn _ _ [some (.tup (m.map nda)), some (.int (kk : Int)), none, none, none, none] _ _
    have l1 := hm.lo
    have l2 := hm.hi
    refine x_seq (x_asg (ev_lrg ?_))
    repeat' (first | infer_instance | fail)
    rw [List.length_map]
    refine ⟨.of_le (by omega) (by omega) (by omega) (by omega), fun p => ?_⟩
    rw [Int.toNat_natCast]
    repeat' (first | infer_instance | fail)
    refine tg_setL (ev_var rfl (ev_int ⟨p, _, 0, 0, _, rfl, rfl, .here, by rw [List.length_map, List.length_range]; exact ixN_nat (i := 0) (by omega), ?_⟩))
    repeat' (first | infer_instance | fail)
    refine tg_setL (ev_var rfl (ev_var rfl ⟨p, _, kk, kk, _, rfl, rfl, .here, by rw [List.length_set, List.length_map, List.length_range]; exact ixN_nat hk, ?_⟩))
    have epl : ((((List.range m.length).map fun i => Da.int ((i : Nat) : Int)).set 0 (.int (kk : Int))).set kk (.int 0)) = (List.range m.length).map fun i => Da.int ((sw kk i : Nat) : Int) := by
      refine List.ext_getElem? fun i => ?_
      rw [List.getElem?_set, List.getElem?_set, List.getElem?_map, List.length_set, List.length_map, List.length_range, List.getElem?_map]
      by_cases hi : i < m.length
      · rw [List.getElem?_range hi]
        by_cases h1 : kk = i
        · rw [if_pos h1, if_pos (by omega)]
          have e : sw kk i = 0 := by unfold sw; rw [if_pos h1.symm]
          show some _ = some (Da.int ((sw kk i : Nat) : Int))
          rw [e]; rfl
        · rw [if_neg h1]
          by_cases h2 : 0 = i
          · rw [if_pos h2, if_pos (by omega)]
            have e : sw kk i = kk := by unfold sw; rw [if_neg (fun z => h1 z.symm), if_pos h2.symm]
            show some _ = some (Da.int ((sw kk i : Nat) : Int))
            rw [e]
          · rw [if_neg h2]
            have e : sw kk i = i := by unfold sw; rw [if_neg (fun z => h1 z.symm), if_neg (fun z => h2 z.symm)]
            show some _ = some (Da.int ((sw kk i : Nat) : Int))
            rw [e]
      · rw [List.getElem?_eq_none (by rw [List.length_range]; omega)]
        rw [if_neg (by omega), if_neg (by omega)]
        rfl
    rw [epl]
    have hpl : ∀ i, i < m.length → ((List.range m.length).map fun i => Da.int ((sw kk i : Nat) : Int))[i]? = some (.int ((sw kk i : Nat) : Int)) := fun i hi => by rw [List.getElem?_map, List.getElem?_range hi]; rfl
    have hlp : ((List.range m.length).map fun i => Da.int ((sw kk i : Nat) : Int)).length = m.length := by rw [List.length_map, List.length_range]
    generalize ((List.range m.length).map fun i => Da.int ((sw kk i : Nat) : Int)) = pl at *
    refine x_seq (x_asg (ev_lst ?_))
    repeat' (first | infer_instance | fail)
    refine ⟨Nat.zero_le _, fun q => ?_⟩
    repeat' (first | infer_instance | fail)
    refine x_forL (fun i Γ' Θ' => ∃ y4, Γ' = [some (.tup (m.map nda)), some (.int (kk : Int)), some (.ref p), some (.ref q), y4, none] ∧ Θ' = [(p, .lst pl), (q, .lst (((swapM m kk).take i).map nda))]) (ev_var rfl ⟨p, pl, rfl, .head _, ⟨_, rfl, rfl⟩, ?_, ?_, ?_⟩)
    · rintro i Γ' Θ' ⟨y4, rfl, rfl⟩
      exact .head _
    · rintro i Γ' Θ' d hi hd ⟨y4, rfl, rfl⟩
      rw [hlp] at hi
      have ed : d = .int ((sw kk i : Nat) : Int) := Option.some.inj (hd.symm.trans (hpl i hi))
      subst ed
      have hs := sw_lt hk hi
      have hA := hm.arms _ (List.getElem_mem hs)
      have hx : (m.map nda)[sw kk i]? = some (nda m[sw kk i]) := by rw [List.getElem?_map, List.getElem?_eq_getElem hs]; rfl
      have hsi : (swapM m kk)[i]? = some (swA kk m[sw kk i].1, swA kk m[sw kk i].2) := by
        unfold swapM
        rw [List.getElem?_map, List.getElem?_range hi, Option.map_some, List.getD_eq_getElem?_getD, List.getElem?_eq_getElem hs]
        rfl
      rw [List.take_add_one, hsi, List.map_append]
      have hlen : (((swapM m kk).take i).map nda).length < sizeLine := by
        rw [List.length_map, List.length_take]
        exact Nat.lt_of_le_of_lt (show _ ≤ 400 by omega) (by decide)
      generalize m[sw kk i] = pr at *
      obtain ⟨u, v⟩ := pr
      repeat' (first | infer_instance | fail)
      refine ev_app (ev_var rfl ⟨_, rfl, ⟨_, .tail _ (.head _)⟩, ?_⟩)
      repeat' (first | infer_instance | fail)
      refine lc_T (swD kk) (into_name (by decide)) ?_
      repeat' (first | infer_instance | fail)
      refine s_ixT (atI_nat hx) ?_
      refine ⟨_, rfl, by show 2 ≤ sizeLine; decide, ?_, fun r => ?_⟩
      · intro r acc d hd
        have e2 : ∃ a : Arm, d = a.da ∧ a.ok m.length := by
          rcases List.mem_cons.mp hd with e | e
          · exact ⟨u, e, hA.1⟩
          · exact ⟨v, List.mem_singleton.mp e, hA.2⟩
        obtain ⟨a, rfl, oa⟩ := e2
        cases a with
        | out j =>
          show Tg _ _ _ [some (.tup (m.map nda)), some (.int (kk : Int)), some (.ref p), some (.ref q), some (.int ((sw kk i : Nat) : Int)), none] _ _
          repeat' (first | infer_instance | fail)
          exact ⟨rfl, rfl⟩
        | «at» j =>
          show Tg _ _ _ [some (.tup (m.map nda)), some (.int (kk : Int)), some (.ref p), some (.ref q), some (.int ((sw kk i : Nat) : Int)), none] _ _
          repeat' (first | infer_instance | fail)
          refine s_ixL (.head _) (atI_nat (hpl j oa)) ⟨?_, rfl⟩
          show _ = swD kk (.int (j : Int))
          show _ = Da.int ((sw kk (j : Int).toNat : Nat) : Int)
          rw [Int.toNat_natCast]
      · repeat' (first | infer_instance | fail)
        refine s_tupL mem_last ?_
        repeat' (first | infer_instance | fail)
        refine ⟨_, _, _, rfl, .there .here, hlen, ?_⟩
        have e3 : ∀ a : Arm, swD kk a.da = (swA kk a).da := fun a => by
          cases a with
          | out j => rfl
          | «at» j => show Da.int ((sw kk (j : Int).toNat : Nat) : Int) = _; rw [Int.toNat_natCast]; rfl
        have e4 : Da.tup (List.map (swD kk) [u.da, v.da]) = nda (swA kk u, swA kk v) := by
          show Da.tup [swD kk u.da, swD kk v.da] = _
          rw [e3, e3]; rfl
        rw [e4]
        exact ⟨_, [(p, .lst pl), (q, .lst _)], _, .refl _, (by repeat' (first | exact Take.here | exact Spl.nil | apply Spl.cons | apply Take.there | fail)), _, rfl, rfl⟩
    · rintro Γ' Θ' ⟨y4, rfl, rfl⟩
      have e5 : (swapM m kk).take pl.length = swapM m kk := by
        rw [hlp]
        exact List.take_of_length_le (by unfold swapM; rw [List.length_map, List.length_range]; exact Nat.le_refl _)
      rw [e5]
      repeat' (first | infer_instance | fail)
      refine s_tupL (.tail _ (.head _)) ?_
      exact ⟨_, _, .nil, k⟩
end
end K38

end
section
/-! k38, part I: the law's ending flags. -/
namespace K38
open PySem PySem.Spec PyProof.Rows L2 Sy
local macro_rules | `(tactic| infer_instance) => `(tactic| first
  | with_reducible refine x_seq ?_
  | with_reducible refine x_asg ?_
  | with_reducible refine x_ret ?_
  | with_reducible refine x_drop ?_
  | with_reducible refine x_par ?_
  | with_reducible refine x_if ?_
  | with_reducible refine ev_op ?_
  | with_reducible refine ev_un ?_
  | with_reducible refine ev_cb ?_
  | with_reducible refine ev_tup ?_
  | with_reducible refine ea_nil ?_
  | with_reducible refine ea_cons ?_
  | with_reducible refine ev_int ?_
  | with_reducible refine ev_bl ?_
  | with_reducible refine ev_str ?_
  | with_reducible refine ev_ty ?_
  | with_reducible refine ev_non ?_
  | with_reducible refine et_test ?_
  | with_reducible refine et_B ?_
  | with_reducible refine et_not ?_
  | with_reducible refine et_and ?_
  | with_reducible refine et_or ?_
  | with_reducible refine ev_cal ?_
  | with_reducible refine ev_if ?_
  | with_reducible refine ev_andV ?_
  | with_reducible refine ev_orV ?_
  | with_reducible refine ev_notV ?_
  | with_reducible refine ev_chain ?_
  | with_reducible refine x_drop ?_
  | with_reducible refine x_par ?_
  | refine ev_var rfl ?_
  | with_reducible refine x_next ?_
  | refine s_I (by assumption) ?_
  | refine s_isi rfl rfl ?_
  | refine s_I0 ?_
  | refine s_B0 ?_
  | refine s_neg ?_
  | refine s_eqI ?_
  | refine s_neI ?_
  | refine s_eqS ?_
  | refine s_isN ?_
  | refine s_notN ?_
  | refine s_abs ?_
  | refine s_max2 ?_
  | refine s_min2 ?_
  | refine s_int1 ?_
  | refine s_intB ?_
  | refine s_lenT ?_
  | refine s_lenF ?_
  | refine s_ixT rfl ?_
  | refine tg_name (of_decide_eq_true rfl) ?_
  | refine tg_tup rfl ?_
  | refine tgs_cons ?_
  | refine tgs_nil ?_
  | refine ⟨fun _ => ?_, fun z => nomatch (show true = false from z)⟩
  | refine ⟨fun z => (nomatch (show false = true from z)), fun _ => ?_⟩
  | with_reducible refine ⟨_, rfl, ?_⟩
  | refine ⟨_, _, rfl, of_decide_eq_true rfl, of_decide_eq_true rfl, ?_⟩
  | fail "x")
section
variable {P : Program} {w : World} {K : PySem.W.Frag} {mg : Str → Option Value} {base : Heap} {v_ZERO v_ONE : V}
def marks (g : List Bool) (j : Nat) (u v : Arm) : Nat → List Bool
  | 0 => g
  | 1 => mark g j u
  | _ => mark (mark g j u) j v
theorem ok__law_ending {f : Addr} {fd : FuncData} (F : Fun K "_law_ending" "_law_ending" s__law_ending f fd) (T : Txt mg v_ZERO v_ONE) : GnOk P w K mg base CX0 1 f fd ["_law_machine_here"] (toSp K w ss__law_ending) :=
  sy_okX F sc__law_ending (fun ds Θ R ⟨_, e, _⟩ => by rw [e]; rfl) (by decide) (fun cdv A outer s H E hg hr => p__law_ending T f cdv A outer s H E hg hr) fun H ds Θ R ⟨m, e, e2, hm, k⟩ => by
    subst e; subst e2
    show Rn _ _ [some (.tup (m.map nda)), none, none, none, none, none] _ _
    have l2 := hm.hi
    repeat' (first | infer_instance | fail)
    refine lc_T (fun _ => .bl false) (into_name (by decide)) (ev_var rfl ⟨_, rfl, by rw [List.length_map]; exact Nat.le_trans l2 (by decide), ?_, fun p => ?_⟩)
    · intro p acc d hd
      show Tg _ _ _ [some (.tup (m.map nda)), none, none, none, none, none] _ _
      repeat' (first | infer_instance | fail)
      exact ⟨rfl, rfl⟩
    have e0 : (m.map nda).map (fun _ => Da.bl false) = (rounds m 0).map Da.bl := by
      unfold rounds
      rw [List.map_map, List.map_replicate]
      exact List.map_const'
    rw [e0]
    repeat' (first | infer_instance | fail)
    refine x_forR (fun t Γ' Θ' => ∃ y2 y3 y4, Γ' = [some (.tup (m.map nda)), some (.ref p), y2, y3, y4, none] ∧ Θ' = [(p, .lst ((rounds m t).map Da.bl))]) ?_
    repeat' (first | infer_instance | fail)
    rw [List.length_map]
    refine ⟨by omega, ⟨_, _, _, rfl, rfl⟩, ?_, ?_⟩
    · rintro t Γ' Θ' ht ⟨y2, y3, y4, rfl, rfl⟩
      have hlf := rounds_len m t
      show Tg _ _ _ _ _ fun Γ2 Θ2 => Rn _ _ Γ2 Θ2 ⟨Fgt fun Γ' Θ' => ∃ y2 y3 y4, Γ' = [some (.tup (m.map nda)), some (.ref p), y2, y3, y4, none] ∧ Θ' = [(p, .lst ((sweepN m (rounds m t) m.length).map Da.bl))], _, _, Fgt fun Γ' Θ' => ∃ y2 y3 y4, Γ' = [some (.tup (m.map nda)), some (.ref p), y2, y3, y4, none] ∧ Θ' = [(p, .lst ((sweepN m (rounds m t) m.length).map Da.bl))]⟩
      generalize rounds m t = g at *
      repeat' (first | infer_instance | fail)
      refine x_forR (fun j Γ' Θ' => ∃ y2 y3 y4, Γ' = [some (.tup (m.map nda)), some (.ref p), y2, y3, y4, none] ∧ Θ' = [(p, .lst ((sweepN m g j).map Da.bl))]) ?_
      repeat' (first | infer_instance | fail)
      rw [List.length_map]
      refine ⟨by omega, ⟨_, _, _, rfl, rfl⟩, ?_, ?_⟩
      · rintro j Γ' Θ' hj ⟨y2, y3, y4, rfl, rfl⟩
        have hlg : (sweepN m g j).length = m.length := by rw [sweepN_len]; exact hlf
        have hA := hm.arms _ (List.getElem_mem hj)
        have hx : (m.map nda)[j]? = some (nda m[j]) := by rw [List.getElem?_map, List.getElem?_eq_getElem hj]; rfl
        have hs : sweepN m g (j + 1) = mark (mark (sweepN m g j) j m[j].1) j m[j].2 := by
          show sweep1 m (sweepN m g j) j = _
          unfold sweep1
          rw [List.getD_eq_getElem?_getD, List.getElem?_eq_getElem hj]; rfl
        rw [hs]
        generalize sweepN m g j = h at *
        generalize m[j] = pr at *
        obtain ⟨u, v⟩ := pr
        repeat' (first | infer_instance | fail)
        refine x_forT (fun i Γ' Θ' => ∃ y4, Γ' = [some (.tup (m.map nda)), some (.ref p), y2, some (.int ((j : Nat) : Int)), y4, none] ∧ Θ' = [(p, .lst ((marks h j u v i).map Da.bl))]) ?_
        repeat' (first | infer_instance | fail)
        refine s_ixT (atI_nat hx) ?_
        refine ⟨_, rfl, ⟨_, rfl, rfl⟩, ?_, ?_⟩
        · rintro i Γ' Θ' d hi hd ⟨y4, rfl, rfl⟩
          have e2 : ∃ a : Arm, d = a.da ∧ a.ok m.length ∧ marks h j u v (i + 1) = mark (marks h j u v i) j a := by
            match i, hi with
            | 0, _ => exact ⟨u, (Option.some.inj hd).symm, hA.1, rfl⟩
            | 1, _ => exact ⟨v, (Option.some.inj hd).symm, hA.2, rfl⟩
          obtain ⟨a, rfl, oa, em⟩ := e2
          rw [em]
          have hlm : (marks h j u v i).length = m.length := by
            match i, hi with
            | 0, _ => exact hlg
            | 1, _ => exact (mark_len _ _ _).trans hlg
          generalize marks h j u v i = q at *
          have fin : Tg ⟨K, w, H, []⟩ (gSub (tVar 1) (tVar 3) rSetL) (.bl true) [some (.tup (m.map nda)), some (.ref p), y2, some (.int ((j : Nat) : Int)), some a.da, none] [(p, .lst (q.map Da.bl))] (Fgt fun Γ' Θ' => ∃ y4, Γ' = [some (.tup (m.map nda)), some (.ref p), y2, some (.int ((j : Nat) : Int)), y4, none] ∧ Θ' = [(p, .lst ((q.set j true).map Da.bl))]) := by
            refine tg_setL (ev_var rfl (ev_var rfl ⟨p, _, j, j, _, rfl, rfl, .here, by rw [List.length_map]; exact ixN_nat (by omega), ?_⟩))
            exact fg_all ⟨_, rfl, by rw [List.map_set]⟩
          cases a with
          | out o =>
            show Tg _ _ (.tup [.str "out", .int (o : Int)]) _ _ _
            repeat' (first | infer_instance | fail)
            exact fin
          | «at» o =>
            have hq : (q.map Da.bl)[o]? = some (.bl (q.getD o false)) := by
              have ho : o < q.length := by have : o < m.length := oa; omega
              rw [List.getElem?_map, List.getD_eq_getElem?_getD, List.getElem?_eq_getElem ho]; rfl
            have hmk : mark q j (.at o) = if q.getD o false then q.set j true else q := rfl
            show Tg _ _ (.int (o : Int)) _ _ _
            repeat' (first | infer_instance | fail)
            refine s_ixL (.head _) (atI_nat hq) ?_
            rw [hmk]
            cases q.getD o false with
            | true =>
              repeat' (first | infer_instance | fail)
              exact fin
            | false =>
              repeat' (first | infer_instance | fail)
              exact fg_all ⟨_, rfl, rfl⟩
        · rintro Γ' Θ' ⟨y4, rfl, rfl⟩
          exact fg_all ⟨_, _, _, rfl, rfl⟩
      · rintro Γ' Θ' ⟨y2, y3, y4, rfl, rfl⟩
        exact fg_all ⟨_, _, _, rfl, rfl⟩
    · rintro Γ' Θ' ⟨y2, y3, y4, rfl, rfl⟩
      repeat' (first | infer_instance | fail)
      exact ft_all (k p)
end
end K38

end
section
/-! k38, part J: the law's drawn machines. -/
namespace K38
open PySem PySem.Spec PyProof.Rows L2 Sy
local macro_rules | `(tactic| infer_instance) => `(tactic| first
  | with_reducible refine x_seq ?_
  | with_reducible refine x_asg ?_
  | with_reducible refine x_ret ?_
  | with_reducible refine x_drop ?_
  | with_reducible refine x_par ?_
  | with_reducible refine x_if ?_
  | with_reducible refine ev_op ?_
  | with_reducible refine ev_un ?_
  | with_reducible refine ev_cb ?_
  | with_reducible refine ev_tup ?_
  | with_reducible refine ea_nil ?_
  | with_reducible refine ea_cons ?_
  | with_reducible refine ev_int ?_
  | with_reducible refine ev_bl ?_
  | with_reducible refine ev_str ?_
  | with_reducible refine ev_ty ?_
  | with_reducible refine ev_non ?_
  | with_reducible refine et_test ?_
  | with_reducible refine et_B ?_
  | with_reducible refine et_not ?_
  | with_reducible refine et_and ?_
  | with_reducible refine et_or ?_
  | with_reducible refine ev_cal ?_
  | with_reducible refine ev_if ?_
  | with_reducible refine ev_andV ?_
  | with_reducible refine ev_orV ?_
  | with_reducible refine ev_notV ?_
  | with_reducible refine ev_chain ?_
  | with_reducible refine x_drop ?_
  | with_reducible refine x_par ?_
  | refine ev_var rfl ?_
  | with_reducible refine x_next ?_
  | refine s_I (by assumption) ?_
  | refine s_isi rfl rfl ?_
  | refine s_I0 ?_
  | refine s_B0 ?_
  | refine s_neg ?_
  | refine s_eqI ?_
  | refine s_neI ?_
  | refine s_eqS ?_
  | refine s_isN ?_
  | refine s_notN ?_
  | refine s_abs ?_
  | refine s_max2 ?_
  | refine s_min2 ?_
  | refine s_int1 ?_
  | refine s_intB ?_
  | refine s_lenT ?_
  | refine s_lenF ?_
  | refine s_ixT rfl ?_
  | refine tg_name (of_decide_eq_true rfl) ?_
  | refine tg_tup rfl ?_
  | refine tgs_cons ?_
  | refine tgs_nil ?_
  | refine ⟨fun _ => ?_, fun z => nomatch (show true = false from z)⟩
  | refine ⟨fun z => (nomatch (show false = true from z)), fun _ => ?_⟩
  | with_reducible refine ⟨_, rfl, ?_⟩
  | refine ⟨_, _, rfl, of_decide_eq_true rfl, of_decide_eq_true rfl, ?_⟩
  | fail "x")
section
variable {F : Fx} {Γ : Gm} {Θ : Th} {t u : TS} {nx : Gm → Th → Prop} {rt : Da → Th → Prop} {bk ct : Gm → Th → Prop}
theorem x_cut (Mid : Gm → Th → Prop) (h1 : Rn F t Γ Θ ⟨Mid, rt, bk, ct⟩) (h2 : ∀ Γ' Θ', Mid Γ' Θ' → Rn F u Γ' Θ' ⟨nx, rt, bk, ct⟩) : Rn F (tSeq t u) Γ Θ ⟨nx, rt, bk, ct⟩ :=
  x_seq fun σ H D hS hD => h1 σ H D hS ⟨fun σ' H' Γ' Θ' p s k => hD.nx σ' H' Γ' Θ' p s (h2 Γ' Θ' k), hD.rt, hD.bk, hD.ct⟩
end
def ss__law_machine : Ss := fun ds Θ R => ∃ (a : Addr) (x y z : Int) (n many cnt : Nat), ds = [.ref a, .int (many : Int), .int (cnt : Int)] ∧ Θ = [(a, wl x y z)] ∧ WellOk n x y z ∧ n ≤ 900000 ∧ 1 ≤ many ∧ many ≤ 8 ∧ 1 ≤ cnt ∧ cnt ≤ 26 ∧
  ∀ (m : Mach) (x' y' z' : Int), MOk m → m.length = many → (∀ p ∈ m, p.1.below cnt ∧ p.2.below cnt) → WellOk (n + 100) x' y' z' → R (mda m) [(a, wl x' y' z')]
def ss__law_great : Ss := fun ds Θ R => ∃ (a : Addr) (x y z : Int) (n : Nat), ds = [.ref a] ∧ Θ = [(a, wl x y z)] ∧ WellOk n x y z ∧ n ≤ 900000 ∧ ∀ (m : Mach) (x' y' z' : Int), MOk m → WellOk (n + 2) x' y' z' → R (mda m) [(a, wl x' y' z')]
abbrev t__law_machine (K : PySem.W.Frag) (w : World) (v_ZERO : V) (v_ONE : V) : TS :=
  (tSeq (tPar 3 4 (tCons (tLst tNil) (tCons (tCall (toSp K w ss__law_drop) [] xk0 (tCons (tVar 0) (tCons (tC (.int 3)) tNil))) tNil)))
    (tSeq (tFor (iRng1 (tCons (tVar 1) tNil)) (gName 5)
    (tSeq (tAsg (tLst tNil) (gName 6))
    (tSeq (tFor (iRng1 (tCons (tC (.int 2)) tNil)) (gName 7)
    (tSeq (tAsg (tCall (toSp K w ss__law_drop) [] xk0 (tCons (tVar 0) (tCons (tVar 1) tNil))) (gName 8))
    (tSeq (tIfS (tTest (tOp rEq (tVar 4) (tC (.int 1)))) (tAsg (tCB rMin2 (tCons (tOp (rI0 fun i j => .int (i - j)) (tVar 1) (tC (.int 1))) (tCons (tOp (rI0 fun i j => .int (i + j)) (tOp (rI0 fun i j => .int (i + j)) (tVar 5) (tC (.int 1))) (tCall (toSp K w ss__law_drop) [] xk0 (tCons (tVar 0) (tCons (tC (.int 2)) tNil)))) tNil))) (gName 8)) tNext)
    (tDrop (tBM K "list" rAppend (tVar 6) (tCons (tIf (tTest (tOp rEq (tCall (toSp K w ss__law_drop) [] xk0 (tCons (tVar 0) (tCons (tOp (rIxL K) (tLst (tCons (tC (.int 2)) (tCons (tC (.int 3)) (tCons (tC (.int 5)) tNil)))) (tVar 4)) tNil))) (tC (.int 0)))) (tTup (tCons (tC (.str "out")) (tCons (tCall (toSp K w ss__law_drop) [] xk0 (tCons (tVar 0) (tCons (tVar 2) tNil))) tNil))) (tVar 8)) tNil))))))
    (tDrop (tBM K "list" rAppend (tVar 3) (tCons (tTup (tCons (tOp (rIxL K) (tVar 6) (tC (.int 0))) (tCons (tOp (rIxL K) (tVar 6) (tC (.int 1))) tNil))) tNil))))))
    (tRet (tCB (rTupOf K) (tCons (tVar 3) tNil)))))
section
variable {P : Program} {w : World} {K : PySem.W.Frag} {mg : Str → Option Value} {base : Heap} {v_ZERO v_ONE : V}
theorem p__law_machine (T : Txt mg v_ZERO v_ONE)
    (C__law_drop : Cal P w K mg base 1 "_law_drop" ["_law_well_here", "_law_bound"] kb__law_drop ss__law_drop)
    (fa : Addr) (cdv : Value) (A : Around) (outer : List Env) (s : Shared) (H : Hp) (E : XK) (hgd : A.guards = some []) (hr : Room 1 (A.deeper (envOfC "_law_machine" (defScope s__law_machine) s.heap.objs.size fa cdv))) :
    PSs (cxOf CX0 P w K mg base N__law_machine "_law_machine" (defScope s__law_machine) fa cdv A outer s H E).nox (defBody s__law_machine) (t__law_machine K w v_ZERO v_ONE) :=
  (pss_cons (ps_par (i := 3) (j := 4) rfl sc__law_machine.nd rfl rfl (by decide) rfl rfl (pa_cons (pe_lst pa_nil) (pa_cons (pe_cal C__law_drop hgd (hr.mono (by decide)) (by rfl) (pa_cons (pv 0) (pa_cons pe_int pa_nil))) pa_nil)) (by rfl))
    (pss_cons (ps_for PassesOwn.never rfl (pi_range1 (by rfl) T.b_range (pa_cons (pv 1) pa_nil)) (pg_name (i := 5) sc__law_machine.nd rfl (by first | exact Or.inl rfl | exact Or.inr rfl))
    (pss_cons (ps_set (i := 6) sc__law_machine.nd rfl (by first | exact Or.inl rfl | exact Or.inr rfl) (pe_lst pa_nil))
    (pss_cons (ps_for PassesOwn.never rfl (pi_range1 (by rfl) T.b_range (pa_cons pe_int pa_nil)) (pg_name (i := 7) sc__law_machine.nd rfl (by first | exact Or.inl rfl | exact Or.inr rfl))
    (pss_cons (ps_set (i := 8) sc__law_machine.nd rfl (by first | exact Or.inl rfl | exact Or.inr rfl) (pe_cal C__law_drop hgd (hr.mono (by decide)) (by rfl) (pa_cons (pv 0) (pa_cons (pv 1) pa_nil))))
    (pss_cons (ps_if (pt_cmpR op_eq (pv 4) pe_int (nomark _)) (pss_one (ps_set (i := 8) sc__law_machine.nd rfl (by first | exact Or.inl rfl | exact Or.inr rfl) (pe_callB (call_min2 rfl) (by rfl) T.b_min (by decide +kernel) (pa_cons (pe_op op_sub (pv 1) pe_int) (pa_cons (pe_op op_add (pe_op op_add (pv 5) pe_int) (pe_cal C__law_drop hgd (hr.mono (by decide)) (by rfl) (pa_cons (pv 0) (pa_cons pe_int pa_nil)))) pa_nil))))) pss_nil)
    (pss_one (ps_expr (pe_bm PySem.F.plainAttrs_list PySem.F.slot_list_append PySem.F.type_list_append mt_append (pv 6) (pa_cons (pe_ifExp (pt_cmpR op_eq (pe_cal C__law_drop hgd (hr.mono (by decide)) (by rfl) (pa_cons (pv 0) (pa_cons (pe_ix ix_list (pe_lst (pa_cons pe_int (pa_cons pe_int (pa_cons pe_int pa_nil)))) (pv 4) (fun _ _ => rfl)) pa_nil))) pe_int (nomark _)) (pe_tup (pa_cons pe_str (pa_cons (pe_cal C__law_drop hgd (hr.mono (by decide)) (by rfl) (pa_cons (pv 0) (pa_cons (pv 2) pa_nil))) pa_nil))) (pv 8)) pa_nil)))))))
    (pss_one (ps_expr (pe_bm PySem.F.plainAttrs_list PySem.F.slot_list_append PySem.F.type_list_append mt_append (pv 3) (pa_cons (pe_tup (pa_cons (pe_ix ix_list (pv 6) pe_int (fun _ _ => rfl)) (pa_cons (pe_ix ix_list (pv 6) pe_int (fun _ _ => rfl)) pa_nil))) pa_nil)))))))
    (pss_one (ps_ret (pe_callTy call_tuple_of (by rfl) T.b_tuple (by decide +kernel) (pa_cons (pv 3) pa_nil))))))
end
abbrev t__law_great (K : PySem.W.Frag) (w : World) (v_ZERO : V) (v_ONE : V) : TS :=
  (tSeq (tPar 1 2 (tCons (tOp (rI0 fun i j => .int (i + j)) (tC (.int 1)) (tCall (toSp K w ss__law_drop) [] xk0 (tCons (tVar 0) (tCons (tC (.int 399)) tNil)))) (tCons (tOp (rI0 fun i j => .int (i + j)) (tC (.int 1)) (tCall (toSp K w ss__law_drop) [] xk0 (tCons (tVar 0) (tCons (tC (.int 26)) tNil)))) tNil)))
    (tSeq (tAsg (tLst tNil) (gName 3))
    (tSeq (tFor (iRng1 (tCons (tC (.int 400)) tNil)) (gName 4)
    (tSeq (tAsg (tOp (rI (fun _ j => 0 < j) fun i j => .int (i % j)) (tCB rInt1 (tCons (tOp (rI0 fun i j => .int (i + j)) (tVar 4) (tVar 1)) tNil)) (tC (.int 400))) (gName 5))
    (tDrop (tBM K "list" rAppend (tVar 3) (tCons (tTup (tCons (tIf (tTest (tOp rEq (tOp (rI (fun _ j => 0 < j) fun i j => .int (i % j)) (tCB rInt1 (tCons (tVar 4) tNil)) (tC (.int 7))) (tC (.int 3)))) (tTup (tCons (tC (.str "out")) (tCons (tOp (rI (fun _ j => 0 < j) fun i j => .int (i % j)) (tCB rInt1 (tCons (tVar 4) tNil)) (tVar 2)) tNil))) (tVar 5)) (tCons (tOp (rI (fun _ j => 0 < j) fun i j => .int (i % j)) (tCB rInt1 (tCons (tOp (rI0 fun i j => .int (i + j)) (tVar 4) (tC (.int 1))) tNil)) (tC (.int 400))) tNil))) tNil)))))
    (tRet (tCB (rTupOf K) (tCons (tVar 3) tNil))))))
section
variable {P : Program} {w : World} {K : PySem.W.Frag} {mg : Str → Option Value} {base : Heap} {v_ZERO v_ONE : V}
theorem p__law_great (T : Txt mg v_ZERO v_ONE)
    (C__law_drop : Cal P w K mg base 1 "_law_drop" ["_law_well_here", "_law_bound"] kb__law_drop ss__law_drop)
    (fa : Addr) (cdv : Value) (A : Around) (outer : List Env) (s : Shared) (H : Hp) (E : XK) (hgd : A.guards = some []) (hr : Room 1 (A.deeper (envOfC "_law_great" (defScope s__law_great) s.heap.objs.size fa cdv))) :
    PSs (cxOf CX0 P w K mg base N__law_great "_law_great" (defScope s__law_great) fa cdv A outer s H E).nox (defBody s__law_great) (t__law_great K w v_ZERO v_ONE) :=
  (pss_cons (ps_par (i := 1) (j := 2) rfl sc__law_great.nd rfl rfl (by decide) rfl rfl (pa_cons (pe_op op_add pe_int (pe_cal C__law_drop hgd (hr.mono (by decide)) (by rfl) (pa_cons (pv 0) (pa_cons pe_int pa_nil)))) (pa_cons (pe_op op_add pe_int (pe_cal C__law_drop hgd (hr.mono (by decide)) (by rfl) (pa_cons (pv 0) (pa_cons pe_int pa_nil)))) pa_nil)) (by rfl))
    (pss_cons (ps_set (i := 3) sc__law_great.nd rfl (by first | exact Or.inl rfl | exact Or.inr rfl) (pe_lst pa_nil))
    (pss_cons (ps_for PassesOwn.never rfl (pi_range1 (by rfl) T.b_range (pa_cons pe_int pa_nil)) (pg_name (i := 4) sc__law_great.nd rfl (by first | exact Or.inl rfl | exact Or.inr rfl))
    (pss_cons (ps_set (i := 5) sc__law_great.nd rfl (by first | exact Or.inl rfl | exact Or.inr rfl) (pe_op op_mod (pe_callTy call_int1 (by rfl) T.b_int (by decide +kernel) (pa_cons (pe_op op_add (pv 4) (pv 1)) pa_nil)) pe_int))
    (pss_one (ps_expr (pe_bm PySem.F.plainAttrs_list PySem.F.slot_list_append PySem.F.type_list_append mt_append (pv 3) (pa_cons (pe_tup (pa_cons (pe_ifExp (pt_cmpR op_eq (pe_op op_mod (pe_callTy call_int1 (by rfl) T.b_int (by decide +kernel) (pa_cons (pv 4) pa_nil)) pe_int) pe_int (nomark _)) (pe_tup (pa_cons pe_str (pa_cons (pe_op op_mod (pe_callTy call_int1 (by rfl) T.b_int (by decide +kernel) (pa_cons (pv 4) pa_nil)) (pv 2)) pa_nil))) (pv 5)) (pa_cons (pe_op op_mod (pe_callTy call_int1 (by rfl) T.b_int (by decide +kernel) (pa_cons (pe_op op_add (pv 4) pe_int) pa_nil)) pe_int) pa_nil))) pa_nil))))))
    (pss_one (ps_ret (pe_callTy call_tuple_of (by rfl) T.b_tuple (by decide +kernel) (pa_cons (pv 3) pa_nil)))))))
end
section
variable {P : Program} {w : World} {K : PySem.W.Frag} {mg : Str → Option Value} {base : Heap} {v_ZERO v_ONE : V}
theorem ok__law_machine {f : Addr} {fd : FuncData} (F : Fun K "_law_machine" "_law_machine" s__law_machine f fd) (T : Txt mg v_ZERO v_ONE) (C : Cal P w K mg base 1 "_law_drop" ["_law_well_here", "_law_bound"] kb__law_drop ss__law_drop) : GnOk P w K mg base CX0 2 f fd ["_law_well_here", "_law_many", "_law_count_here"] (toSp K w ss__law_machine) :=
  sy_okX F sc__law_machine (fun ds Θ R ⟨_, _, _, _, _, _, _, e, _⟩ => by rw [e]; rfl) (by decide) (fun cdv A outer s H E hg hr => p__law_machine T C f cdv A outer s H E hg hr) fun H ds Θ R ⟨a, x, y, z, n, many, cnt, e, e2, W, hn, m1, m8, c1, c26, k⟩ => by
    subst e; subst e2
    show Rn _ _ [some (.ref a), some (.int (many : Int)), some (.int (cnt : Int)), none, none, none, none, none, none] _ _
    repeat' (first | infer_instance | fail)
    refine ev_lst ?_
    repeat' (first | infer_instance | fail)
    refine ⟨Nat.zero_le _, fun q => ?_⟩
    repeat' (first | infer_instance | fail)
    refine ⟨[(a, wl x y z)], _, (by repeat' (first | exact Take.here | exact Spl.nil | apply Spl.cons | apply Take.there | fail)), a, x, y, z, n, 3, rfl, rfl, W, by omega, by decide, by decide, fun way x1 y1 z1 hway W1 => ?_⟩
    repeat' (first | infer_instance | fail)
    refine rn_keep (Θ' := [(a, wl x1 y1 z1), (q, .lst [])]) (Θr := []) (List.Perm.swap _ _ _) ?_
    refine x_forR (fun i Γ' Θ' => ∃ y5 y6 y7 y8 x y z mm, Γ' = [some (.ref a), some (.int (many : Int)), some (.int (cnt : Int)), some (.ref q), some (.int (way : Int)), y5, y6, y7, y8] ∧ Θ' = [(a, wl x y z), (q, .lst ((mm : Mach).map nda))] ∧ mm.length = i ∧ (∀ p ∈ mm, p.1.ok many ∧ p.2.ok many) ∧ (∀ p ∈ mm, p.1.below cnt ∧ p.2.below cnt) ∧ WellOk (n + 1 + 8 * i) x y z) ?_
    repeat' (first | infer_instance | fail)
    refine ⟨by omega, ⟨_, _, _, _, x1, y1, z1, [], rfl, rfl, rfl, fun _ z => (nomatch z), fun _ z => (nomatch z), W1⟩, ?_, ?_⟩
    · rintro i Γ' Θ' hi ⟨y5, y6, y7, y8, x2, y2, z2, mm, rfl, rfl, hl, hok, hbl, W2⟩
      repeat' (first | infer_instance | fail)
      refine ev_lst ?_
      repeat' (first | infer_instance | fail)
      refine ⟨Nat.zero_le _, fun r => ?_⟩
      repeat' (first | infer_instance | fail)
      refine x_forR (fun s Γ' Θ' => ∃ y7 y8 x y z as, Γ' = [some (.ref a), some (.int (many : Int)), some (.int (cnt : Int)), some (.ref q), some (.int (way : Int)), some (.int (i : Int)), some (.ref r), y7, y8] ∧ Θ' = [(a, wl x y z), (q, .lst (mm.map nda)), (r, .lst ((as : List Arm).map Arm.da))] ∧ as.length = s ∧ (∀ u ∈ as, u.ok many ∧ u.below cnt) ∧ WellOk (n + 1 + 8 * i + 4 * s) x y z) ?_
      repeat' (first | infer_instance | fail)
      refine ⟨by decide, ⟨_, _, x2, y2, z2, [], rfl, rfl, rfl, fun _ z => (nomatch z), W2⟩, ?_, ?_⟩
      · rintro s Γ' Θ' hs ⟨y7, y8, x3, y3, z3, as, rfl, rfl, hla, hoa, W3⟩
        have hs : s < (2 : Nat) := hs
        repeat' (first | infer_instance | fail)
        refine ⟨[(a, wl x3 y3 z3)], _, (by repeat' (first | exact Take.here | exact Spl.nil | apply Spl.cons | apply Take.there | fail)), a, x3, y3, z3, _, many, rfl, rfl, W3, by omega, by omega, by omega, fun d1 x4 y4 z4 hd1 W4 => ?_⟩
        refine tg_name (of_decide_eq_true rfl) ?_
        refine x_cut (fun Γ' Θ' => ∃ (pl : Nat) (x y z : Int), Γ' = [some (.ref a), some (.int (many : Int)), some (.int (cnt : Int)), some (.ref q), some (.int (way : Int)), some (.int (i : Int)), some (.ref r), some (.int (s : Int)), some (.int (pl : Int))] ∧ Θ' = [(q, .lst (mm.map nda)), (r, .lst (as.map Arm.da)), (a, wl x y z)] ∧ pl < many ∧ WellOk (n + 1 + 8 * i + 4 * s + 2) x y z) ?_ ?_
        · repeat' (first | infer_instance | fail)
          refine ⟨fun _ => ?_, fun _ => ?_⟩
          · repeat' (first | infer_instance | fail)
            refine ⟨[(a, wl x4 y4 z4)], _, (by repeat' (first | exact Take.here | exact Spl.nil | apply Spl.cons | apply Take.there | fail)), a, x4, y4, z4, _, 2, rfl, rfl, W4, by omega, by decide, by decide, fun d2 x5 y5 z5 hd2 W5 => ?_⟩
            repeat' (first | infer_instance | fail)
            have e : (if (i : Int) + 1 + (d2 : Int) < (many : Int) - 1 then (i : Int) + 1 + (d2 : Int) else (many : Int) - 1) = ((if i + 1 + d2 < many - 1 then i + 1 + d2 else many - 1 : Nat) : Int) := by
              split <;> split <;> omega
            rw [e]
            exact ⟨_, x5, y5, z5, rfl, rfl, by split <;> omega, W5⟩
          · repeat' (first | infer_instance | fail)
            exact ⟨_, x4, y4, z4, rfl, rfl, hd1, W4.mono (by omega)⟩
        · rintro Γ' Θ' ⟨pl, x5, y5, z5, rfl, rfl, hpl, W5⟩
          repeat' (first | infer_instance | fail)
          refine ev_app (ev_var rfl ⟨_, rfl, ⟨_, .tail _ (.head _)⟩, ?_⟩)
          repeat' (first | infer_instance | fail)
          refine ev_lst ?_
          repeat' (first | infer_instance | fail)
          refine ⟨by show 3 ≤ sizeLine; decide, fun t => ?_⟩
          repeat' (first | infer_instance | fail)
          obtain ⟨b, eb, b0, b5⟩ : ∃ b : Nat, [Da.int 2, .int 3, .int 5][way]? = some (.int (b : Int)) ∧ 0 < b ∧ b ≤ 5 := by
            match way, hway with
            | 0, _ => exact ⟨2, rfl, by decide, by decide⟩
            | 1, _ => exact ⟨3, rfl, by decide, by decide⟩
            | 2, _ => exact ⟨5, rfl, by decide, by decide⟩
          refine s_ixL mem_last (atI_nat eb) ?_
          repeat' (first | infer_instance | fail)
          refine ⟨[(a, wl x5 y5 z5)], _, (by repeat' (first | exact Take.here | exact Spl.nil | apply Spl.cons | apply Take.there | fail)), a, x5, y5, z5, _, b, rfl, rfl, W5, by omega, b0, by omega, fun d3 x6 y6 z6 hd3 W6 => ?_⟩
          repeat' (first | infer_instance | fail)
          have hz : (as.map Arm.da).length < sizeLine := by rw [List.length_map, hla]; exact Nat.lt_of_le_of_lt (show s ≤ 2 by omega) (by decide)
          have app : ∀ u : Arm, u.ok many → u.below cnt → as.map Arm.da ++ [u.da] = (as ++ [u]).map Arm.da ∧ (as ++ [u]).length = s + 1 ∧ ∀ v ∈ as ++ [u], v.ok many ∧ v.below cnt := by
            intro u h1 h2
            refine ⟨by rw [List.map_append]; rfl, by rw [List.length_append, hla]; rfl, fun p hp => ?_⟩
            rcases List.mem_append.mp hp with hp | hp
            · exact hoa p hp
            · obtain rfl := List.mem_singleton.mp hp
              exact ⟨h1, h2⟩
          refine ⟨fun _ => ?_, fun _ => ?_⟩
          · repeat' (first | infer_instance | fail)
            refine ⟨[(a, wl x6 y6 z6)], _, (by repeat' (first | exact Take.here | exact Spl.nil | apply Spl.cons | apply Take.there | fail)), a, x6, y6, z6, _, cnt, rfl, rfl, W6, by omega, by omega, by omega, fun d4 x7 y7 z7 hd4 W7 => ?_⟩
            repeat' (first | infer_instance | fail)
            refine ⟨by show 2 ≤ sizeLine; decide, ?_⟩
            repeat' (first | infer_instance | fail)
            refine ⟨_, _, _, rfl, .there .here, hz, ?_⟩
            obtain ⟨a1, a2, a3⟩ := app (.out d4) (show d4 < 26 by omega) hd4
            exact ⟨_, [(a, wl x7 y7 z7), (q, .lst (mm.map nda)), (r, .lst (as.map Arm.da ++ [(Arm.out d4).da]))], _, .refl _, (by repeat' (first | exact Take.here | exact Spl.nil | apply Spl.cons | apply Take.there | fail)), _, _, x7, y7, z7, as ++ [.out d4], rfl, by rw [a1], a2, a3, W7.mono (by omega)⟩
          · repeat' (first | infer_instance | fail)
            refine ⟨_, _, _, rfl, .there .here, hz, ?_⟩
            obtain ⟨a1, a2, a3⟩ := app (.at pl) hpl trivial
            exact ⟨_, [(a, wl x6 y6 z6), (q, .lst (mm.map nda)), (r, .lst (as.map Arm.da ++ [(Arm.at pl).da]))], _, .refl _, (by repeat' (first | exact Take.here | exact Spl.nil | apply Spl.cons | apply Take.there | fail)), _, _, x6, y6, z6, as ++ [.at pl], rfl, by rw [a1], a2, a3, W6.mono (by omega)⟩
      · rintro Γ' Θ' ⟨y7, y8, x3, y3, z3, as, rfl, rfl, hla, hoa, W3⟩
        match as, hla with
        | [u, v], _ =>
          have W3 : WellOk (n + 1 + 8 * i + 4 * 2) x3 y3 z3 := W3
          have hu := hoa u (.head _)
          have hv := hoa v (.tail _ (.head _))
          refine x_drop (ev_app (ev_var rfl ⟨_, rfl, ⟨_, .tail _ (.head _)⟩, ?_⟩))
          repeat' (first | infer_instance | fail)
          refine s_ixL (.tail _ (.tail _ (.head _))) rfl ?_
          repeat' (first | infer_instance | fail)
          refine s_ixL (.tail _ (.tail _ (.head _))) rfl ?_
          repeat' (first | infer_instance | fail)
          refine ⟨by show 2 ≤ sizeLine; decide, ?_⟩
          repeat' (first | infer_instance | fail)
          refine ⟨_, _, _, rfl, .there .here, by rw [List.length_map, hl]; exact Nat.lt_of_le_of_lt (show i ≤ 8 by omega) (by decide), ?_⟩
          refine ⟨_, [(a, wl x3 y3 z3), (q, .lst (mm.map nda ++ [nda (u, v)]))], _, .refl _, (by repeat' (first | exact Take.here | exact Spl.nil | apply Spl.cons | apply Take.there | fail)), _, _, _, _, x3, y3, z3, mm ++ [(u, v)], rfl, by rw [List.map_append]; rfl, by rw [List.length_append, hl]; rfl, fun p hp => ?_, fun p hp => ?_, W3.mono (by omega)⟩
          · rcases List.mem_append.mp hp with hp | hp
            · exact hok p hp
            · obtain rfl := List.mem_singleton.mp hp
              exact ⟨hu.1, hv.1⟩
          · rcases List.mem_append.mp hp with hp | hp
            · exact hbl p hp
            · obtain rfl := List.mem_singleton.mp hp
              exact ⟨hu.2, hv.2⟩
    · rintro Γ' Θ' ⟨y5, y6, y7, y8, x2, y2, z2, mm, rfl, rfl, hl, hok, hbl, W2⟩
      repeat' (first | infer_instance | fail)
      refine s_tupL (.tail _ (.head _)) ?_
      exact ⟨_, _, (by repeat' (first | exact Take.here | exact Spl.nil | apply Spl.cons | apply Take.there | fail)), k mm x2 y2 z2 ⟨by omega, by omega, fun p hp => by rw [hl]; exact hok p hp⟩ hl hbl (W2.mono (by omega))⟩
theorem ok__law_great {f : Addr} {fd : FuncData} (F : Fun K "_law_great" "_law_great" s__law_great f fd) (T : Txt mg v_ZERO v_ONE) (C : Cal P w K mg base 1 "_law_drop" ["_law_well_here", "_law_bound"] kb__law_drop ss__law_drop) : GnOk P w K mg base CX0 2 f fd ["_law_well_here"] (toSp K w ss__law_great) :=
  sy_okX F sc__law_great (fun ds Θ R ⟨_, _, _, _, _, e, _⟩ => by rw [e]; rfl) (by decide) (fun cdv A outer s H E hg hr => p__law_great T C f cdv A outer s H E hg hr) fun H ds Θ R ⟨a, x, y, z, n, e, e2, W, hn, k⟩ => by
    subst e; subst e2
    show Rn _ _ [some (.ref a), none, none, none, none, none] _ _
    repeat' (first | infer_instance | fail)
    refine ⟨[(a, wl x y z)], _, (by repeat' (first | exact Take.here | exact Spl.nil | apply Spl.cons | apply Take.there | fail)), a, x, y, z, n, 399, rfl, rfl, W, by omega, by decide, by decide, fun st x1 y1 z1 hst W1 => ?_⟩
    repeat' (first | infer_instance | fail)
    refine ⟨[(a, wl x1 y1 z1)], _, (by repeat' (first | exact Take.here | exact Spl.nil | apply Spl.cons | apply Take.there | fail)), a, x1, y1, z1, n + 1, 26, rfl, rfl, W1, by omega, by decide, by decide, fun ou x2 y2 z2 hou W2 => ?_⟩
    repeat' (first | infer_instance | fail)
    refine ev_lst ?_
    repeat' (first | infer_instance | fail)
    refine ⟨Nat.zero_le _, fun q => ?_⟩
    repeat' (first | infer_instance | fail)
    refine x_forR (fun i Γ' Θ' => ∃ y4 y5 mm, Γ' = [some (.ref a), some (.int (1 + (st : Int))), some (.int (1 + (ou : Int))), some (.ref q), y4, y5] ∧ Θ' = [(a, wl x2 y2 z2), (q, .lst ((mm : Mach).map nda))] ∧ mm.length = i ∧ (∀ p ∈ mm, p.1.ok 400 ∧ p.2.ok 400)) ?_
    repeat' (first | infer_instance | fail)
    refine ⟨by decide, ⟨_, _, [], rfl, rfl, rfl, fun _ z => (nomatch z)⟩, ?_, ?_⟩
    · rintro i Γ' Θ' hi ⟨y4, y5, mm, rfl, rfl, hl, hok⟩
      have hi : i < (400 : Nat) := hi
      have p400 : (0 : Int) < 400 := by decide
      have p7 : (0 : Int) < 7 := by decide
      have pou : (0 : Int) < 1 + (ou : Int) := by omega
      have e1 : ((i : Int) + (1 + (st : Int))) % 400 = (((i + (1 + st)) % 400 : Nat) : Int) := by omega
      have e2 : ((i : Int) + 1) % 400 = (((i + 1) % 400 : Nat) : Int) := by omega
      have e3 : (i : Int) % (1 + (ou : Int)) = ((i % (1 + ou) : Nat) : Int) := by rw [Int.natCast_emod]; rfl
      have l1 : (i + (1 + st)) % 400 < 400 := Nat.mod_lt _ (by decide)
      have l2 : (i + 1) % 400 < 400 := Nat.mod_lt _ (by decide)
      have l3 : i % (1 + ou) < 26 := Nat.lt_of_lt_of_le (Nat.mod_lt _ (by omega)) (by omega)
      have hz : (mm.map nda).length < sizeLine := by rw [List.length_map, hl]; exact Nat.lt_of_le_of_lt (show i ≤ 400 by omega) (by decide)
      have app : ∀ u : Arm, u.ok 400 → mm.map nda ++ [Da.tup [u.da, .int (((i + 1) % 400 : Nat) : Int)]] = (mm ++ [(u, Arm.at ((i + 1) % 400))]).map nda ∧ (mm ++ [(u, Arm.at ((i + 1) % 400))]).length = i + 1 ∧ ∀ p ∈ mm ++ [(u, Arm.at ((i + 1) % 400))], p.1.ok 400 ∧ p.2.ok 400 := by
        intro u hu
        refine ⟨by rw [List.map_append]; rfl, by rw [List.length_append, hl]; rfl, fun p hp => ?_⟩
        rcases List.mem_append.mp hp with hp | hp
        · exact hok p hp
        · obtain rfl := List.mem_singleton.mp hp
          exact ⟨hu, l2⟩
      repeat' (first | infer_instance | fail)
      rw [e1]
      repeat' (first | infer_instance | fail)
      refine ev_app (ev_var rfl ⟨_, rfl, ⟨_, .tail _ (.head _)⟩, ?_⟩)
      repeat' (first | infer_instance | fail)
      refine ⟨fun _ => ?_, fun _ => ?_⟩
      · repeat' (first | infer_instance | fail)
        refine ⟨by show 2 ≤ sizeLine; decide, ?_⟩
        repeat' (first | infer_instance | fail)
        refine ⟨by show 2 ≤ sizeLine; decide, ?_⟩
        rw [e2, e3]
        repeat' (first | infer_instance | fail)
        refine ⟨_, _, _, rfl, .there .here, hz, ?_⟩
        obtain ⟨a1, a2, a3⟩ := app (.out (i % (1 + ou))) l3
        exact fg_all ⟨_, _, _, rfl, congrArg (fun l => [(a, wl x2 y2 z2), (q, Mo.lst l)]) a1, a2, a3⟩
      · repeat' (first | infer_instance | fail)
        refine ⟨by show 2 ≤ sizeLine; decide, ?_⟩
        rw [e2]
        repeat' (first | infer_instance | fail)
        refine ⟨_, _, _, rfl, .there .here, hz, ?_⟩
        obtain ⟨a1, a2, a3⟩ := app (.at ((i + (1 + st)) % 400)) l1
        exact fg_all ⟨_, _, _, rfl, congrArg (fun l => [(a, wl x2 y2 z2), (q, Mo.lst l)]) a1, a2, a3⟩
    · rintro Γ' Θ' ⟨y4, y5, mm, rfl, rfl, hl, hok⟩
      have hl : mm.length = (400 : Nat) := hl
      repeat' (first | infer_instance | fail)
      refine s_tupL (.tail _ (.head _)) ?_
      exact ⟨_, _, (by repeat' (first | exact Take.here | exact Spl.nil | apply Spl.cons | apply Take.there | fail)), k mm x2 y2 z2 ⟨by omega, by omega, fun p hp => by rw [hl]; exact hok p hp⟩ W2⟩
end
end K38

end
section
/-! k38, part K: what repr shows; the law's check of the shares. -/
namespace K38
open PySem PySem.Spec PyProof.Rows L2 Sy
local macro_rules | `(tactic| infer_instance) => `(tactic| first
  | with_reducible refine x_seq ?_
  | with_reducible refine x_asg ?_
  | with_reducible refine x_ret ?_
  | with_reducible refine x_drop ?_
  | with_reducible refine x_par ?_
  | with_reducible refine x_if ?_
  | with_reducible refine ev_op ?_
  | with_reducible refine ev_un ?_
  | with_reducible refine ev_cb ?_
  | with_reducible refine ev_tup ?_
  | with_reducible refine ea_nil ?_
  | with_reducible refine ea_cons ?_
  | with_reducible refine ev_int ?_
  | with_reducible refine ev_bl ?_
  | with_reducible refine ev_str ?_
  | with_reducible refine ev_ty ?_
  | with_reducible refine ev_non ?_
  | with_reducible refine et_test ?_
  | with_reducible refine et_B ?_
  | with_reducible refine et_not ?_
  | with_reducible refine et_and ?_
  | with_reducible refine et_or ?_
  | with_reducible refine ev_cal ?_
  | with_reducible refine ev_if ?_
  | with_reducible refine ev_andV ?_
  | with_reducible refine ev_orV ?_
  | with_reducible refine ev_notV ?_
  | with_reducible refine ev_chain ?_
  | with_reducible refine x_drop ?_
  | with_reducible refine x_par ?_
  | refine ev_var rfl ?_
  | with_reducible refine x_next ?_
  | refine s_I (by assumption) ?_
  | refine s_isi rfl rfl ?_
  | refine s_I0 ?_
  | refine s_B0 ?_
  | refine s_neg ?_
  | refine s_eqI ?_
  | refine s_neI ?_
  | refine s_eqS ?_
  | refine s_isN ?_
  | refine s_notN ?_
  | refine s_abs ?_
  | refine s_max2 ?_
  | refine s_min2 ?_
  | refine s_int1 ?_
  | refine s_intB ?_
  | refine s_lenT ?_
  | refine s_lenF ?_
  | refine s_ixT rfl ?_
  | refine tg_name (of_decide_eq_true rfl) ?_
  | refine tg_tup rfl ?_
  | refine tgs_cons ?_
  | refine tgs_nil ?_
  | refine ⟨fun _ => ?_, fun z => nomatch (show true = false from z)⟩
  | refine ⟨fun z => (nomatch (show false = true from z)), fun _ => ?_⟩
  | with_reducible refine ⟨_, rfl, ?_⟩
  | refine ⟨_, _, rfl, of_decide_eq_true rfl, of_decide_eq_true rfl, ?_⟩
  | fail "x")
theorem piled_le {B : Nat} : ∀ {ts : List Str}, (∀ t ∈ ts, t.length ≤ B) → piled ts ≤ ts.length * (B + 2)
  | [], _ => Nat.zero_le _
  | t :: ts, h => by
    rw [piled_cons, List.length_cons, Nat.succ_mul]
    have h1 := h t List.mem_cons_self
    have h2 := piled_le (B := B) (ts := ts) fun x hx => h x (List.mem_cons_of_mem _ hx)
    omega
theorem tupleText_le {B : Nat} {ts : List Str} (h : ∀ t ∈ ts, t.length ≤ B) : (tupleText ts).length ≤ 3 + ts.length * (B + 2) := by
  unfold tupleText
  rw [strLen_append, strLen_append]
  have e1 : ((("(" : String) : Str)).length = 1 := rfl
  have e3 : (((if ts.length == 1 then ",)" else ")" : String) : Str)).length ≤ 2 := by split <;> decide
  rw [e1]
  have hp := piled_le h
  by_cases q : ts = []
  · subst q
    have : (Str.join ", " ([] : List Str)).length = 0 := rfl
    omega
  · have := join_length_add ts q
    omega
theorem pyL_map : ∀ ds : List Da, pyL ds = ds.map Da.py
  | [] => rfl
  | d :: ds => by rw [pyL, pyL_map ds]; rfl
/-- an item that is shown in few signs -/
structure Sh (B : Nat) (n : Nat) (x : PyData) : Prop where
  s : x.showable = true
  d : x.hasDict = false
  p : x.depth ≤ n
  l : x.shown.length ≤ B
theorem showableAll_of : ∀ {xs : List PyData}, (∀ x ∈ xs, x.showable = true) → PyData.showableAll xs = true
  | [], _ => rfl
  | x :: xs, h => by
    rw [PyData.showableAll, h x List.mem_cons_self, showableAll_of fun y hy => h y (List.mem_cons_of_mem _ hy)]; rfl
theorem hasDictAll_of : ∀ {xs : List PyData}, (∀ x ∈ xs, x.hasDict = false) → PyData.hasDictAll xs = false
  | [], _ => rfl
  | x :: xs, h => by
    rw [PyData.hasDictAll, h x List.mem_cons_self, hasDictAll_of fun y hy => h y (List.mem_cons_of_mem _ hy)]; rfl
theorem depthAll_of {n : Nat} : ∀ {xs : List PyData}, (∀ x ∈ xs, x.depth ≤ n) → PyData.depthAll xs ≤ n
  | [], _ => Nat.zero_le _
  | x :: xs, h => by
    rw [PyData.depthAll]
    exact Nat.max_le.mpr ⟨h x List.mem_cons_self, depthAll_of fun y hy => h y (List.mem_cons_of_mem _ hy)⟩
theorem Sh.tup {B n : Nat} {xs : List PyData} (h : ∀ x ∈ xs, Sh B n x) : Sh (3 + xs.length * (B + 2)) (n + 1) (.tuple xs) where
  s := by rw [PyData.showable]; exact showableAll_of fun x hx => (h x hx).s
  d := by rw [PyData.hasDict]; exact hasDictAll_of fun x hx => (h x hx).d
  p := by rw [PyData.depth]; exact Nat.succ_le_succ (depthAll_of fun x hx => (h x hx).p)
  l := by
    rw [PyData.shown, shownAll_eq_map]
    have := tupleText_le (B := B) (ts := xs.map PyData.shown) (by
      intro t ht
      obtain ⟨x, hx, rfl⟩ := List.mem_map.mp ht
      exact (h x hx).l)
    rw [List.length_map] at this
    exact this
theorem Sh.mono {B C n k : Nat} {p : PyData} (h : Sh B n p) (l : B ≤ C) (m : n ≤ k) : Sh C k p := ⟨h.s, h.d, Nat.le_trans h.p m, Nat.le_trans h.l l⟩
theorem sh_int {i : Int} (h : Bd 1920 i) : Sh 1921 0 (.int i) := by
  have hl : i.natAbs.log2 < 1920 := PySem.Flt.log2_lt_of (by decide) h
  refine ⟨by rw [PyData.showable]; exact decide_eq_true hl, by rw [PyData.hasDict], by rw [PyData.depth]; exact Nat.le_refl _, ?_⟩
  rw [PyData.shown]
  exact int_text_len_1921 hl
theorem sh_non : Sh 1921 0 .none := ⟨by rw [PyData.showable], by rw [PyData.hasDict], by rw [PyData.depth]; exact Nat.le_refl _, by rw [PyData.shown]; decide⟩
theorem sh_frac {q : Rat} (h : Sz 1920 q) : Sh 4000 1 (frac q).py := by
  have := Sh.tup (B := 1921) (n := 0) (xs := [.int q.num, .int (q.den : Int)]) (by
    intro x hx
    rcases List.mem_cons.mp hx with e | hx
    · subst e; exact sh_int h.1
    · obtain rfl := List.mem_singleton.mp hx
      exact sh_int h.d)
  exact this.mono (by show 3 + 2 * (1921 + 2) ≤ 4000; decide) (Nat.le_refl _)
def shD (l : List Rat) : Da := .tup (l.map frac)
theorem plain_fracs : ∀ l : List Rat, plainL (l.map frac) = true
  | [] => rfl
  | q :: l => by
    show ((frac q).plain && plainL (l.map frac)) = true
    rw [plain_fracs l]; rfl
theorem sh_fracs {l : List Rat} (hl : l.length ≤ 100) (h : ∀ q ∈ l, Sz 1920 q) : Sh 500000 2 (shD l).py := by
  have e : (shD l).py = .tuple ((l.map frac).map Da.py) := by
    show PyData.tuple (pyL (l.map frac)) = _
    rw [pyL_map]
  rw [e]
  have := Sh.tup (B := 4000) (n := 1) (xs := (l.map frac).map Da.py) (by
    intro x hx
    obtain ⟨d, hd, rfl⟩ := List.mem_map.mp hx
    obtain ⟨q, hq, rfl⟩ := List.mem_map.mp hd
    exact sh_frac (h q hq))
  refine this.mono ?_ (Nat.le_refl _)
  rw [List.length_map, List.length_map]
  have : l.length * (4000 + 2) ≤ 100 * 4002 := Nat.mul_le_mul hl (Nat.le_refl _)
  omega
section
variable {F : Fx} {Θ : Th} {R : Da → Th → Prop}
theorem s_reprS {ds : List Da} (h1 : plainL ds = true) (h : Sh 1000000 20 (Da.tup ds).py) (k : R (.str (Da.tup ds).py.shown) Θ) : SL F (rRepr F.K) [.tup ds] Θ R :=
  s_repr h1 h.s h.d (Nat.le_trans h.p (by decide)) (Nat.le_trans h.l (show 1000000 ≤ sizeLine by decide)) k
theorem s_reprF {l : List Rat} (hl : l.length ≤ 100) (h : ∀ q ∈ l, Sz 1920 q) (k : R (.str (shD l).py.shown) Θ) : SL F (rRepr F.K) [shD l] Θ R :=
  s_reprS (plain_fracs l) ((sh_fracs hl h).mono (by decide) (by decide)) k
theorem s_reprQ {q : Rat} (h : Sz 1920 q) (k : R (.str (frac q).py.shown) Θ) : SL F (rRepr F.K) [frac q] Θ R :=
  s_reprS rfl ((sh_frac h).mono (by decide) (by decide)) k
end
theorem rn_spl {F : Fx} {Γ : Gm} {Θ Θ' Θr : Th} {t : TS} {E : SE} (h : Spl Θ Θ' Θr) (k : Rn F t Γ Θ' E) : Rn F t Γ Θ E := fun σ H D hS hD => k σ H D (hS.spl h) hD
/-! ### the check of the shares -/
def unitL (c j : Nat) : List Rat := (List.replicate (c + 1) 0).set j 1
def armRow (c : Nat) (sh : List (List Rat)) : Arm → List Rat
  | .out k => unitL c k
  | .at n => sh.getD n []
def halfL (a b : List Rat) : List Rat := List.zipWith (fun x y => (x + y) / 2) a b
def endL (c : Nat) : List Rat := List.replicate c 0 ++ [1]
structure ShOk (m : Mach) (c : Nat) (sh : List (List Rat)) : Prop where
  len : sh.length = m.length
  rows : ∀ l ∈ sh, l.length = c + 1 ∧ ∀ q ∈ l, Sz 600 q
  eq : ∀ (i : Nat) (p : Arm × Arm), m[i]? = some p → sh[i]? = some (halfL (armRow c sh p.1) (armRow c sh p.2))
  dead : ∀ i : Nat, (rounds m m.length)[i]? = some false → sh[i]? = some (endL c)
def ss__law_shares_right : Ss := fun ds Θ R => ∃ (m : Mach) (c : Nat) (S : Addr) (sh : List (List Rat)), ds = [mda m, .int (c : Int), .ref S] ∧ Θ = [(S, .lst (sh.map shD))] ∧ MOk m ∧ 1 ≤ c ∧ c ≤ 26 ∧ (∀ p ∈ m, p.1.below c ∧ p.2.below c) ∧ ShOk m c sh ∧ R (.bl true) [(S, .lst (sh.map shD))]
theorem zero_eq : Da.tup [.int 0, .int 1] = frac 0 := rfl
theorem one_eq : Da.tup [.int 1, .int 1] = frac 1 := rfl
theorem _root_.Sy.Seq.mono {Θ Θ' : Th} {k : Bool} {d : Da} {ds : List Da} (q : Seq Θ k d ds) (h : ∀ x ∈ Θ, x ∈ Θ') : Seq Θ' k d ds := by
  cases q with
  | tup => exact .tup _
  | lst hm => exact .lst (h _ hm)
abbrev t__law_shares_right (K : PySem.W.Frag) (w : World) (v_ZERO : V) (v_ONE : V) : TS :=
  (tSeq (tPar 3 4 (tCons (tCB (rTupOf K) (tCons (tOp (rCat) (tOp (rRep) (tLst (tCons (tTup (tCons (tC (.int 0)) (tCons (tC (.int 1)) tNil))) tNil)) (tVar 1)) (tLst (tCons (tTup (tCons (tC (.int 1)) (tCons (tC (.int 1)) tNil))) tNil))) tNil)) (tCons (tCall (toSp K w ss__law_ending) [] xk0 (tCons (tVar 0) tNil)) tNil)))
    (tSeq (tFor (iRng1 (tCons (tCB (rLenS K) (tCons (tVar 0) tNil)) tNil)) (gName 5)
    (tSeq (tAsg (tLst tNil) (gName 6))
    (tSeq (tFor (iTup K (tOp (rIxT K) (tVar 0) (tVar 5))) (gName 7)
    (tSeq (tAsg (tOp (rRep) (tLst (tCons (tTup (tCons (tC (.int 0)) (tCons (tC (.int 1)) tNil))) tNil)) (tOp (rI0 fun i j => .int (i + j)) (tVar 1) (tC (.int 1)))) (gName 8))
    (tSeq (tIfS (tB (tCB (rIsi K) (tCons (tVar 7) (tCons (tC (.ty "tuple")) tNil)))) (tAsg (tTup (tCons (tC (.int 1)) (tCons (tC (.int 1)) tNil))) (gSub (tVar 8) (tOp (rIxT K) (tVar 7) (tC (.int 1))) rSetL)) tNext)
    (tDrop (tBM K "list" rAppend (tVar 6) (tCons (tIf (tB (tCB (rIsi K) (tCons (tVar 7) (tCons (tC (.ty "tuple")) tNil)))) (tVar 8) (tOp (rIxL K) (tVar 2) (tVar 7))) tNil))))))
    (tSeq (tAsg (tCB (rTupOf K) (tCons (tLc (iZip2 K (tCons (tOp (rIxL K) (tVar 6) (tC (.int 0))) (tCons (tOp (rIxL K) (tVar 6) (tC (.int 1))) tNil))) (gTup K 2 (gCons (gName 8) (gCons (gName 10) gNil))) tYes (tCall (toSp K w ss__law_half) [] xk0 (tCons (tVar 8) (tCons (tVar 10) tNil))) [8, 10]) tNil)) (gName 9))
    (tIfS (tOr (tTest (tOp rNe (tCB (rRepr K) (tCons (tOp (rIxL K) (tVar 2) (tVar 5)) tNil)) (tCB (rRepr K) (tCons (tVar 9) tNil)))) (tAnd (tNot (tB (tOp (rIxL K) (tVar 4) (tVar 5)))) (tTest (tOp rNe (tCB (rRepr K) (tCons (tVar 9) tNil)) (tCB (rRepr K) (tCons (tVar 3) tNil)))))) (tRet (tC (.bl false))) tNext)))))
    (tRet (tC (.bl true)))))
section
variable {P : Program} {w : World} {K : PySem.W.Frag} {mg : Str → Option Value} {base : Heap} {v_ZERO v_ONE : V}
theorem p__law_shares_right (T : Txt mg v_ZERO v_ONE)
    (C__law_ending : Cal P w K mg base 1 "_law_ending" ["_law_machine_here"] kb__law_ending ss__law_ending)
    (C__law_half : Cal P w K mg base 2 "_law_half" ["_law_one", "_law_other"] kb__law_half ss__law_half)
    (fa : Addr) (cdv : Value) (A : Around) (outer : List Env) (s : Shared) (H : Hp) (E : XK) (hgd : A.guards = some []) (hr : Room 2 (A.deeper (envOfC "_law_shares_right" (defScope s__law_shares_right) s.heap.objs.size fa cdv))) :
    PSs (cxOf CX0 P w K mg base N__law_shares_right "_law_shares_right" (defScope s__law_shares_right) fa cdv A outer s H E).nox (defBody s__law_shares_right) (t__law_shares_right K w v_ZERO v_ONE) :=
  (pss_cons (ps_par (i := 3) (j := 4) rfl sc__law_shares_right.nd rfl rfl (by decide) rfl rfl (pa_cons (pe_callTy call_tuple_of (by rfl) T.b_tuple (by decide +kernel) (pa_cons (pe_op op_cat (pe_op op_rep (pe_lst (pa_cons (pe_tup (pa_cons pe_int (pa_cons pe_int pa_nil))) pa_nil)) (pv 1)) (pe_lst (pa_cons (pe_tup (pa_cons pe_int (pa_cons pe_int pa_nil))) pa_nil))) pa_nil)) (pa_cons (pe_cal C__law_ending hgd (hr.mono (by decide)) (by rfl) (pa_cons (pv 0) pa_nil)) pa_nil)) (by rfl))
    (pss_cons (ps_for PassesOwn.never rfl (pi_range1 (by rfl) T.b_range (pa_cons (pe_callB call_len_seq (by rfl) T.b_len (by decide +kernel) (pa_cons (pv 0) pa_nil)) pa_nil)) (pg_name (i := 5) sc__law_shares_right.nd rfl (by first | exact Or.inl rfl | exact Or.inr rfl))
    (pss_cons (ps_set (i := 6) sc__law_shares_right.nd rfl (by first | exact Or.inl rfl | exact Or.inr rfl) (pe_lst pa_nil))
    (pss_cons (ps_for PassesOwn.never rfl (pi_tup (pe_ix ix_tup (pv 0) (pv 5) (fun _ _ => rfl))) (pg_name (i := 7) sc__law_shares_right.nd rfl (by first | exact Or.inl rfl | exact Or.inr rfl))
    (pss_cons (ps_set (i := 8) sc__law_shares_right.nd rfl (by first | exact Or.inl rfl | exact Or.inr rfl) (pe_op op_rep (pe_lst (pa_cons (pe_tup (pa_cons pe_int (pa_cons pe_int pa_nil))) pa_nil)) (pe_op op_add (pv 1) pe_int)))
    (pss_cons (ps_if (pt_val (pe_callB call_isi (by rfl) T.b_isinstance (by decide +kernel) (pa_cons (pv 7) (pa_cons (pe_bltn (by rfl) T.b_tuple (by decide +kernel) rfl) pa_nil)))) (pss_one (ps_asg (pe_tup (pa_cons pe_int (pa_cons pe_int pa_nil))) (pg_sub (pv 8) (pe_ix ix_tup (pv 7) pe_int (fun _ _ => rfl)) set_list))) pss_nil)
    (pss_one (ps_expr (pe_bm PySem.F.plainAttrs_list PySem.F.slot_list_append PySem.F.type_list_append mt_append (pv 6) (pa_cons (pe_ifExp (pt_val (pe_callB call_isi (by rfl) T.b_isinstance (by decide +kernel) (pa_cons (pv 7) (pa_cons (pe_bltn (by rfl) T.b_tuple (by decide +kernel) rfl) pa_nil)))) (pv 8) (pe_ix ix_list (pv 2) (pv 7) (fun _ _ => rfl))) pa_nil)))))))
    (pss_cons (ps_set (i := 9) sc__law_shares_right.nd rfl (by first | exact Or.inl rfl | exact Or.inr rfl) (pe_callTy call_tuple_of (by rfl) T.b_tuple (by decide +kernel) (pa_cons (pe_lc (own := [("_law_one", 8), ("_law_other", 10)]) (g := (gTup K 2 (gCons (gName 8) (gCons (gName 10) gNil)))) (tt := tYes) rfl sc__law_shares_right.nd (pi_zip2 (by rfl) T.b_zip (pa_cons (pe_ix ix_list (pv 6) pe_int (fun _ _ => rfl)) (pa_cons (pe_ix ix_list (pv 6) pe_int (fun _ _ => rfl)) pa_nil))) (blkOk_by (N := N__law_shares_right) (sc := defScope s__law_shares_right) (by decide +kernel)) (fun _ _ _ _ _ => (pg_tup rfl (pgs_cons (pg_name (i := 8) sc__law_shares_right.nd rfl (by first | exact Or.inl rfl | exact Or.inr rfl)) (pgs_cons (pg_name (i := 10) sc__law_shares_right.nd rfl (by first | exact Or.inl rfl | exact Or.inr rfl)) pgs_nil)))) (fun _ _ _ _ _ => pts_nil) (fun _ _ _ _ _ => (pe_cal C__law_half hgd (hr.mono (by decide)) (by rfl) (pa_cons (pv 8) (pa_cons (pv 10) pa_nil))))) pa_nil)))
    (pss_one (ps_if (PW.pt (pw_or (pt_cmpR op_ne (pe_callB (call_repr hgd hr.units) (by rfl) T.b_repr (by decide +kernel) (pa_cons (pe_ix ix_list (pv 2) (pv 5) (fun _ _ => rfl)) pa_nil)) (pe_callB (call_repr hgd hr.units) (by rfl) T.b_repr (by decide +kernel) (pa_cons (pv 9) pa_nil)) (nomark _)) (pw_or1 (PW.pt (pw_and (pt_not (pt_val (pe_ix ix_list (pv 4) (pv 5) (fun _ _ => rfl)))) (pw_and1 (pt_cmpR op_ne (pe_callB (call_repr hgd hr.units) (by rfl) T.b_repr (by decide +kernel) (pa_cons (pv 9) pa_nil)) (pe_callB (call_repr hgd hr.units) (by rfl) T.b_repr (by decide +kernel) (pa_cons (pv 3) pa_nil)) (nomark _)))))))) (pss_one (ps_ret pe_bl)) pss_nil))))))
    (pss_one (ps_ret pe_bl))))
end
section
variable {P : Program} {w : World} {K : PySem.W.Frag} {mg : Str → Option Value} {base : Heap} {v_ZERO v_ONE : V}
theorem ok__law_shares_right {f : Addr} {fd : FuncData} (F : Fun K "_law_shares_right" "_law_shares_right" s__law_shares_right f fd) (T : Txt mg v_ZERO v_ONE) (C1 : Cal P w K mg base 1 "_law_ending" ["_law_machine_here"] kb__law_ending ss__law_ending)
    (C2 : Cal P w K mg base 2 "_law_half" ["_law_one", "_law_other"] kb__law_half ss__law_half) : GnOk P w K mg base CX0 3 f fd ["_law_machine_here", "_law_count_here", "_law_shares"] (toSp K w ss__law_shares_right) :=
  sy_okX F sc__law_shares_right (fun ds Θ R ⟨_, _, _, _, e, _⟩ => by rw [e]; rfl) (by decide) (fun cdv A outer s H E hg hr => p__law_shares_right T C1 C2 f cdv A outer s H E hg hr) fun H ds Θ R ⟨m, c, S, sh, e, e2, hm, c1, c26, hb, so, k⟩ => by
    subst e; subst e2
    show Rn _ _ [some (mda m), some (.int (c : Int)), some (.ref S), none, none, none, none, none, none, none, none] _ _
    have hh := hm.hi
    repeat' (first | infer_instance | fail)
    refine ev_lst ?_
    repeat' (first | infer_instance | fail)
    refine ⟨by show 2 ≤ sizeLine; decide, ?_⟩
    rw [zero_eq]
    repeat' (first | infer_instance | fail)
    refine ⟨by show 1 ≤ sizeLine; decide, fun a1 => ?_⟩
    repeat' (first | infer_instance | fail)
    refine s_rep1 mem_last (by omega) (by omega) fun a2 => ?_
    rw [Int.toNat_natCast]
    refine ev_lst ?_
    repeat' (first | infer_instance | fail)
    refine ⟨by show 2 ≤ sizeLine; decide, ?_⟩
    rw [one_eq]
    repeat' (first | infer_instance | fail)
    refine ⟨by show 1 ≤ sizeLine; decide, fun a3 => ?_⟩
    refine s_cat (.tail _ (.tail _ (.head _))) (.tail _ (.tail _ (.tail _ (.head _)))) ?_ fun a4 => ?_
    · rw [List.length_replicate]
      exact Nat.le_trans (show c + 1 ≤ 27 by omega) (by decide)
    repeat' (first | infer_instance | fail)
    refine s_tupL mem_last ?_
    repeat' (first | infer_instance | fail)
    refine ⟨[], _, .nil, m, rfl, rfl, hm, fun a5 => ?_⟩
    repeat' (first | infer_instance | fail)
    have eE : Da.tup (List.replicate c (frac 0) ++ [frac 1]) = shD (endL c) := by
      unfold shD endL
      rw [List.map_append, List.map_replicate]; rfl
    have zE : ∀ q ∈ endL c, Sz 1920 q := by
      intro q hq
      rcases List.mem_append.mp hq with hq | hq
      · rw [(List.mem_replicate.mp hq).2]; exact Sz.zero.mono (by decide)
      · rw [List.mem_singleton.mp hq]; exact Sz.one.mono (by decide)
    have lE : (endL c).length ≤ 100 := by
      unfold endL
      rw [List.length_append, List.length_replicate]
      show c + 1 ≤ 100
      omega
    rw [eE]
    refine rn_spl (Θ' := [(S, .lst (sh.map shD)), (a5, .lst ((rounds m m.length).map Da.bl))]) (by repeat' (first | exact Take.here | exact Spl.nil | apply Spl.cons | apply Take.there | fail)) ?_
    refine x_forR (fun i Γ' Θ' => ∃ y5 y6 y7 y8 y9 y10, Γ' = [some (.tup (m.map nda)), some (.int (c : Int)), some (.ref S), some (shD (endL c)), some (.ref a5), y5, y6, y7, y8, y9, y10] ∧ Θ' = [(S, .lst (sh.map shD)), (a5, .lst ((rounds m m.length).map Da.bl))]) ?_
    have hmd : mda m = .tup (m.map nda) := rfl
    rw [hmd]
    repeat' (first | infer_instance | fail)
    rw [List.length_map]
    refine ⟨by omega, ⟨_, _, _, _, _, _, rfl, rfl⟩, ?_, ?_⟩
    · rintro i Γ' Θ' hi ⟨y5, y6, y7, y8, y9, y10, rfl, rfl⟩
      have hA := hm.arms _ (List.getElem_mem hi)
      have hB := hb _ (List.getElem_mem hi)
      have hx : (m.map nda)[i]? = some (nda m[i]) := by rw [List.getElem?_map, List.getElem?_eq_getElem hi]; rfl
      have heq := so.eq i m[i] (List.getElem?_eq_getElem hi)
      have hsl := so.len
      have hrl := rounds_len m m.length
      obtain ⟨flag, hfl⟩ : ∃ b, (rounds m m.length)[i]? = some b := ⟨_, List.getElem?_eq_getElem (by omega)⟩
      have hdead := so.dead i
      have harm : ∀ a : Arm, a.ok m.length → a.below c → (armRow c sh a).length = c + 1 ∧ ∀ q ∈ armRow c sh a, Sz 600 q := by
        intro a ha hb
        cases a with
        | out o =>
          refine ⟨by show (unitL c o).length = c + 1; unfold unitL; rw [List.length_set, List.length_replicate], fun q hq => ?_⟩
          have hq : q ∈ unitL c o := hq
          unfold unitL at hq
          rcases List.mem_or_eq_of_mem_set hq with hq | hq
          · rw [(List.mem_replicate.mp hq).2]; exact Sz.zero.mono (by decide)
          · rw [hq]; exact Sz.one.mono (by decide)
        | «at» o =>
          have ho : o < sh.length := by rw [hsl]; exact ha
          have e : armRow c sh (.at o) = sh[o] := by show sh.getD o [] = _; rw [List.getD_eq_getElem?_getD, List.getElem?_eq_getElem ho]; rfl
          rw [e]
          exact so.rows _ (List.getElem_mem ho)
      generalize m[i] = pr at *
      obtain ⟨u, v⟩ := pr
      repeat' (first | infer_instance | fail)
      refine ev_lst ?_
      repeat' (first | infer_instance | fail)
      refine ⟨Nat.zero_le _, fun ar => ?_⟩
      repeat' (first | infer_instance | fail)
      refine x_forT (fun j Γ' Θ' => ∃ y7 y8 ds ex, Γ' = [some (.tup (m.map nda)), some (.int (c : Int)), some (.ref S), some (shD (endL c)), some (.ref a5), some (.int (i : Int)), some (.ref ar), y7, y8, y9, y10] ∧ Θ' = (S, .lst (sh.map shD)) :: (a5, .lst ((rounds m m.length).map Da.bl)) :: (ar, .lst ds) :: ex ∧ ds.length = j ∧ ∀ t d, ds[t]? = some d → ∃ kd, Seq ex kd d ((armRow c sh (if t = 0 then u else v)).map frac)) ?_
      repeat' (first | infer_instance | fail)
      refine s_ixT (atI_nat hx) ⟨_, rfl, ⟨_, _, [], [], rfl, rfl, rfl, fun _ _ z => by simp at z⟩, ?_, ?_⟩
      · rintro j Γ' Θ' d hj hd ⟨y7, y8, ds, ex, rfl, rfl, hdl, hds⟩
        have e2 : ∃ a : Arm, d = a.da ∧ a.ok m.length ∧ a.below c ∧ (if j = 0 then u else v) = a := by
          match j, hj with
          | 0, _ => exact ⟨u, (Option.some.inj hd).symm, hA.1, hB.1, rfl⟩
          | 1, _ => exact ⟨v, (Option.some.inj hd).symm, hA.2, hB.2, rfl⟩
        obtain ⟨a, rfl, oa, ba, ea⟩ := e2
        have hz : ds.length < sizeLine := by
          have : j < 2 := hj
          rw [hdl]; exact Nat.lt_of_le_of_lt (show j ≤ 2 by omega) (by decide)
        have app : ∀ (d : Da) (ex' : Th) (kd : Bool), (∀ q ∈ ex, q ∈ ex') → Seq ex' kd d ((armRow c sh a).map frac) → ∀ t x, (ds ++ [d])[t]? = some x → ∃ kd, Seq ex' kd x ((armRow c sh (if t = 0 then u else v)).map frac) := by
          intro d' ex' kd hsub hseq t x hx
          by_cases ht : t < ds.length
          · rw [List.getElem?_append_left ht] at hx
            obtain ⟨kd, q⟩ := hds t x hx
            refine ⟨kd, ?_⟩
            cases q with
            | tup => exact .tup _
            | lst hm => exact .lst (hsub _ hm)
          · rw [List.getElem?_append_right (by omega)] at hx
            have ht2 : t = j := by
              have := (List.getElem?_eq_some_iff.mp hx).1
              rw [List.length_singleton] at this
              omega
            subst ht2
            rw [ea]
            rw [hdl, Nat.sub_self] at hx
            cases hx
            exact ⟨kd, hseq⟩
        repeat' (first | infer_instance | fail)
        refine ev_lst ?_
        repeat' (first | infer_instance | fail)
        refine ⟨by show 2 ≤ sizeLine; decide, ?_⟩
        rw [zero_eq]
        repeat' (first | infer_instance | fail)
        refine ⟨by show 1 ≤ sizeLine; decide, fun t1 => ?_⟩
        repeat' (first | infer_instance | fail)
        refine s_rep1 mem_last (by omega) (by omega) fun t2 => ?_
        rw [show ((c : Int) + 1).toNat = c + 1 by omega]
        cases a with
        | out o =>
          have ho : o < c := ba
          repeat' (first | infer_instance | fail)
          refine ⟨by show 2 ≤ sizeLine; decide, ?_⟩
          rw [one_eq]
          refine tg_setL ?_
          repeat' (first | infer_instance | fail)
          refine ⟨t2, _, _, o, _, rfl, rfl, .last _, by rw [List.length_replicate]; exact ixN_nat (by omega), ?_⟩
          repeat' (first | infer_instance | fail)
          refine ev_app (ev_var rfl ⟨_, rfl, ⟨_, .tail _ (.tail _ (.head _))⟩, ?_⟩)
          repeat' (first | infer_instance | fail)
          refine ⟨_, _, _, rfl, .there (.there .here), hz, ?_⟩
          refine fg_all ⟨_, _, ds ++ [.ref t2], ex ++ [(t1, .lst [frac 0])] ++ [(t2, .lst ((List.replicate (c + 1) (frac 0)).set o (frac 1)))], rfl, rfl, by rw [List.length_append, hdl]; rfl, app _ _ false (fun q hq => List.mem_append_left _ (List.mem_append_left _ hq)) ?_⟩
          have e : (armRow c sh (.out o)).map frac = (List.replicate (c + 1) (frac 0)).set o (frac 1) := by
            show (unitL c o).map frac = _
            unfold unitL
            rw [List.map_set, List.map_replicate]
          rw [e]
          exact .lst mem_last
        | «at» o =>
          have ho : o < sh.length := by rw [hsl]; exact oa
          have e : armRow c sh (.at o) = sh[o] := by show sh.getD o [] = _; rw [List.getD_eq_getElem?_getD, List.getElem?_eq_getElem ho]; rfl
          have hso : (sh.map shD)[o]? = some (shD sh[o]) := by rw [List.getElem?_map, List.getElem?_eq_getElem ho]; rfl
          repeat' (first | infer_instance | fail)
          refine ev_app (ev_var rfl ⟨_, rfl, ⟨_, .tail _ (.tail _ (.head _))⟩, ?_⟩)
          repeat' (first | infer_instance | fail)
          refine s_ixL (.head _) (atI_nat hso) ?_
          repeat' (first | infer_instance | fail)
          refine ⟨_, _, _, rfl, .there (.there .here), hz, ?_⟩
          refine fg_all ⟨_, _, ds ++ [shD sh[o]], ex ++ [(t1, .lst [frac 0])] ++ [(t2, .lst (List.replicate (c + 1) (frac 0)))], rfl, rfl, by rw [List.length_append, hdl]; rfl, app _ _ true (fun q hq => List.mem_append_left _ (List.mem_append_left _ hq)) ?_⟩
          rw [e]
          exact .tup _
      · rintro Γ' Θ' ⟨y7, y8, ds, ex, rfl, rfl, hdl, hds⟩
        match ds, hdl with
        | [d1, d2], _ =>
          obtain ⟨k1, q1⟩ := hds 0 d1 rfl
          obtain ⟨k2, q2⟩ := hds 1 d2 rfl
          have q1 : Seq ex k1 d1 ((armRow c sh u).map frac) := q1
          have q2 : Seq ex k2 d2 ((armRow c sh v).map frac) := q2
          obtain ⟨lu, zu⟩ := harm u hA.1 hB.1
          obtain ⟨lv, zv⟩ := harm v hA.2 hB.2
          generalize armRow c sh u = ru at *
          generalize armRow c sh v = rv at *
          have zh : ∀ q ∈ halfL ru rv, Sz 1920 q := by
            intro q hq
            unfold halfL at hq
            obtain ⟨t, ht, rfl⟩ := List.mem_iff_getElem.mp hq
            rw [List.getElem_zipWith]
            rw [List.length_zipWith] at ht
            have h1 := zu _ (List.getElem_mem (show t < ru.length by omega))
            have h2 := zv _ (List.getElem_mem (show t < rv.length by omega))
            have h3 : Sz 2 2 := ⟨by show (2 : Int).natAbs < 4; decide, by show 1 < 4; decide⟩
            exact ((h1.add h2).div h3 (by decide)).mono (by decide)
          have lh : (halfL ru rv).length = c + 1 := by unfold halfL; rw [List.length_zipWith, lu, lv]; exact Nat.min_self _
          repeat' (first | infer_instance | fail)
          refine lc_pure (into_two (by decide) (by decide)) (ei_zip2 ?_)
          repeat' (first | infer_instance | fail)
          refine s_ixL (.tail _ (.tail _ (.head _))) rfl ?_
          repeat' (first | infer_instance | fail)
          refine s_ixL (.tail _ (.tail _ (.head _))) rfl ?_
          repeat' (first | infer_instance | fail)
          refine ⟨k1, k2, d1, d2, _, _, rfl, q1.mono fun q hq => .tail _ (.tail _ (.tail _ hq)), q2.mono fun q hq => .tail _ (.tail _ (.tail _ hq)), by rw [List.length_map, List.length_map, lu, lv], ?_, fun t => frac ((ru.getD t 0 + rv.getD t 0) / 2), fun p acc => ⟨q1.mono fun q hq => List.mem_append_left _ (.tail _ (.tail _ (.tail _ hq))), q2.mono fun q hq => List.mem_append_left _ (.tail _ (.tail _ (.tail _ hq)))⟩, ?_, fun p => ?_⟩
          · rw [List.length_map, lu]
            exact Nat.le_trans (show c + 1 ≤ 27 by omega) (by decide)
          · intro p acc t ht
            rw [List.length_map, lu] at ht
            have hg : ∀ r : List Rat, r.length = c + 1 → (r.map frac).getD t .non = frac (r.getD t 0) := fun r hr => by
              rw [List.getD_eq_getElem?_getD, List.getD_eq_getElem?_getD, List.getElem?_map, List.getElem?_eq_getElem (by omega)]; rfl
            have hzr : ∀ r : List Rat, r.length = c + 1 → (∀ q ∈ r, Sz 600 q) → Sz 3000 (r.getD t 0) := fun r hr hs => by
              rw [List.getD_eq_getElem?_getD, List.getElem?_eq_getElem (by omega)]
              exact (hs _ (List.getElem_mem (by omega))).mono (by decide)
            simp only [hg ru lu, hg rv lv]
            show Tg _ _ _ [some (.tup (m.map nda)), some (.int (c : Int)), some (.ref S), some (shD (endL c)), some (.ref a5), some (.int (i : Int)), some (.ref ar), y7, none, y9, none] _ _
            repeat' (first | infer_instance | fail)
            exact ⟨[], _, .nil, _, _, rfl, hzr ru lu zu, hzr rv lv zv, rfl, List.append_nil _⟩
          · have el : (List.range (ru.map frac).length).map (fun t => frac ((ru.getD t 0 + rv.getD t 0) / 2)) = (halfL ru rv).map frac := by
              unfold halfL
              refine List.ext_getElem (by rw [List.length_map, List.length_range, List.length_map, List.length_map, List.length_zipWith, lu, lv, Nat.min_self]) fun t h1 h2 => ?_
              rw [List.length_map, List.length_range, List.length_map, lu] at h1
              rw [List.getElem_map, List.getElem_range, List.getElem_map, List.getElem_zipWith, List.getD_eq_getElem?_getD, List.getElem?_eq_getElem (by omega), List.getD_eq_getElem?_getD, List.getElem?_eq_getElem (by omega)]
              rfl
            rw [el]
            repeat' (first | infer_instance | fail)
            refine s_tupL mem_last ?_
            have hso : (sh.map shD)[i]? = some (shD (halfL ru rv)) := by rw [List.getElem?_map, heq]; rfl
            show Tg _ _ (shD (halfL ru rv)) _ _ _
            repeat' (first | infer_instance | fail)
            refine s_ixL (.head _) (atI_nat hso) ?_
            repeat' (first | infer_instance | fail)
            refine s_reprF (by omega) zh ?_
            repeat' (first | infer_instance | fail)
            refine s_reprF (by omega) zh ?_
            refine s_neS ?_
            rw [decide_eq_true rfl]
            repeat' (first | infer_instance | fail)
            refine s_ixL (.tail _ (.head _)) (atI_nat (v := .bl flag) (by rw [List.getElem?_map, hfl]; rfl)) ?_
            cases flag with
            | true =>
              repeat' (first | infer_instance | fail)
              exact ⟨_, _, _, .refl _, (by repeat' (first | exact Take.here | exact Spl.nil | apply Spl.cons | apply Take.there | fail)), _, _, _, _, _, _, rfl, rfl⟩
            | false =>
              have e6 : halfL ru rv = endL c := Option.some.inj (heq.symm.trans (hdead hfl))
              repeat' (first | infer_instance | fail)
              refine s_reprF (by omega) zh ?_
              repeat' (first | infer_instance | fail)
              refine s_reprF lE zE ?_
              refine s_neS ?_
              rw [e6, decide_eq_true rfl]
              repeat' (first | infer_instance | fail)
              exact ⟨_, _, _, .refl _, (by repeat' (first | exact Take.here | exact Spl.nil | apply Spl.cons | apply Take.there | fail)), _, _, _, _, _, _, rfl, rfl⟩
    · rintro Γ' Θ' ⟨y5, y6, y7, y8, y9, y10, rfl, rfl⟩
      repeat' (first | infer_instance | fail)
      exact ⟨_, _, (by repeat' (first | exact Take.here | exact Spl.nil | apply Spl.cons | apply Take.there | fail)), k⟩
end
end K38

end
section
/-! k38, part L: the law's check of the costs. -/
namespace K38
open PySem PySem.Spec PyProof.Rows L2 Sy
local macro_rules | `(tactic| infer_instance) => `(tactic| first
  | with_reducible refine x_seq ?_
  | with_reducible refine x_asg ?_
  | with_reducible refine x_ret ?_
  | with_reducible refine x_drop ?_
  | with_reducible refine x_par ?_
  | with_reducible refine x_if ?_
  | with_reducible refine ev_op ?_
  | with_reducible refine ev_un ?_
  | with_reducible refine ev_cb ?_
  | with_reducible refine ev_tup ?_
  | with_reducible refine ea_nil ?_
  | with_reducible refine ea_cons ?_
  | with_reducible refine ev_int ?_
  | with_reducible refine ev_bl ?_
  | with_reducible refine ev_str ?_
  | with_reducible refine ev_ty ?_
  | with_reducible refine ev_non ?_
  | with_reducible refine et_test ?_
  | with_reducible refine et_B ?_
  | with_reducible refine et_not ?_
  | with_reducible refine et_and ?_
  | with_reducible refine et_or ?_
  | with_reducible refine ev_cal ?_
  | with_reducible refine ev_if ?_
  | with_reducible refine ev_andV ?_
  | with_reducible refine ev_orV ?_
  | with_reducible refine ev_notV ?_
  | with_reducible refine ev_chain ?_
  | with_reducible refine x_drop ?_
  | with_reducible refine x_par ?_
  | refine ev_var rfl ?_
  | with_reducible refine x_next ?_
  | refine s_I (by assumption) ?_
  | refine s_isi rfl rfl ?_
  | refine s_I0 ?_
  | refine s_B0 ?_
  | refine s_neg ?_
  | refine s_eqI ?_
  | refine s_neI ?_
  | refine s_eqS ?_
  | refine s_isN ?_
  | refine s_notN ?_
  | refine s_abs ?_
  | refine s_max2 ?_
  | refine s_min2 ?_
  | refine s_int1 ?_
  | refine s_intB ?_
  | refine s_lenT ?_
  | refine s_lenF ?_
  | refine s_ixT rfl ?_
  | refine tg_name (of_decide_eq_true rfl) ?_
  | refine tg_tup rfl ?_
  | refine tgs_cons ?_
  | refine tgs_nil ?_
  | refine ⟨fun _ => ?_, fun z => nomatch (show true = false from z)⟩
  | refine ⟨fun z => (nomatch (show false = true from z)), fun _ => ?_⟩
  | with_reducible refine ⟨_, rfl, ?_⟩
  | refine ⟨_, _, rfl, of_decide_eq_true rfl, of_decide_eq_true rfl, ?_⟩
  | fail "x")
theorem frac_succ (q : Rat) : Da.tup [.int (q.num + q.den), .int (q.den : Int)] = frac (1 + q) := by
  have hc : (q.num + (q.den : Int)).natAbs.Coprime q.den := by
    have h := q.reduced
    unfold Nat.Coprime at *
    have e : Nat.gcd (q.num + (q.den : Int)).natAbs q.den = Int.gcd (q.num + (q.den : Int)) (q.den : Int) := rfl
    rw [e, Int.gcd_add_right_left_of_dvd _ (Int.dvd_refl _)]
    exact h
  have e : 1 + q = ⟨q.num + (q.den : Int), q.den, q.den_nz, hc⟩ := by
    have h1 : (⟨q.num + (q.den : Int), q.den, q.den_nz, hc⟩ : Rat) = mkRat (q.num + (q.den : Int)) q.den := (Rat.mkRat_self _).symm
    rw [h1, Rat.mkRat_eq_div, Rat.intCast_add, Rat.intCast_natCast]
    have eq : q = (q.num : Rat) / (q.den : Rat) := by rw [← Rat.mkRat_eq_div, Rat.mkRat_self]
    have d1 : (q.den : Rat) ≠ 0 := by
      intro z
      have := q.den_nz
      exact this (by exact_mod_cast z)
    generalize (q.num : Rat) = x at *
    generalize (q.den : Rat) = y at *
    rw [eq]
    grind
  rw [e]
  rfl
def armCost (co : List (Option Rat)) : Arm → Option Rat
  | .out _ => some 0
  | .at n => co.getD n none
structure CostOk (m : Mach) (sh : List (List Rat)) (co : List (Option Rat)) : Prop where
  ls : sh.length = m.length
  lc : co.length = m.length
  end_ : ∀ (i : Nat) (l : List Rat) (o : Option Rat), sh[i]? = some l → co[i]? = some o → ∃ a e, l = a ++ [e] ∧ o.isNone = !decide (e = 0)
  sz : ∀ q, some q ∈ co → Sz 600 q
  eq : ∀ (i : Nat) (p : Arm × Arm) (q : Rat), m[i]? = some p → co[i]? = some (some q) → ∃ a b, armCost co p.1 = some a ∧ armCost co p.2 = some b ∧ q = 1 + (a + b) / 2
def ss__law_costs_right : Ss := fun ds Θ R => ∃ (m : Mach) (S C : Addr) (sh : List (List Rat)) (co : List (Option Rat)), ds = [mda m, .ref S, .ref C] ∧ Θ = [(S, .lst (sh.map shD)), (C, .lst (co.map ofrac))] ∧ MOk m ∧ CostOk m sh co ∧ R (.bl true) [(S, .lst (sh.map shD)), (C, .lst (co.map ofrac))]
def costD (co : List (Option Rat)) : Da → Da
  | .int i => ofrac (co.getD i.toNat none)
  | _ => frac 0
theorem ofrac_non (o : Option Rat) : (ofrac o).isNon = o.isNone := by cases o <;> rfl
theorem costD_arm (co : List (Option Rat)) (a : Arm) : costD co a.da = ofrac (armCost co a) := by
  cases a with
  | out o => rfl
  | «at» o =>
    show ofrac (co.getD (o : Int).toNat none) = _
    rw [Int.toNat_natCast]; rfl
abbrev t__law_costs_right (K : PySem.W.Frag) (w : World) (v_ZERO : V) (v_ONE : V) : TS :=
  (tSeq (tFor (iRng1 (tCons (tCB (rLenS K) (tCons (tVar 0) tNil)) tNil)) (gName 3)
    (tSeq (tIfS (tTest (tOp rNe (tOp rIsN (tOp (rIxL K) (tVar 2) (tVar 3)) (tC .non)) (tOp (rNeD K) (tOp (rIxT K) (tOp (rIxL K) (tVar 1) (tVar 3)) (tUn (rU fun i => .int (-i)) (tC (.int 1)))) (tTup (tCons (tC (.int 0)) (tCons (tC (.int 1)) tNil)))))) (tRet (tC (.bl false))) tNext)
    (tIfS (tTest (tOp rNotN (tOp (rIxL K) (tVar 2) (tVar 3)) (tC .non))) (tSeq (tAsg (tLc (iTup K (tOp (rIxT K) (tVar 0) (tVar 3))) (gName 6) tYes (tIf (tB (tCB (rIsi K) (tCons (tVar 6) (tCons (tC (.ty "tuple")) tNil)))) (tTup (tCons (tC (.int 0)) (tCons (tC (.int 1)) tNil))) (tOp (rIxL K) (tVar 2) (tVar 6))) [6]) (gName 4))
    (tSeq (tAsg (tCall (toSp K w ss__law_half) [] xk0 (tCons (tOp (rIxL K) (tVar 4) (tC (.int 0))) (tCons (tOp (rIxL K) (tVar 4) (tC (.int 1))) tNil))) (gName 5))
    (tIfS (tTest (tOp rNe (tCB (rRepr K) (tCons (tOp (rIxL K) (tVar 2) (tVar 3)) tNil)) (tCB (rRepr K) (tCons (tTup (tCons (tOp (rI0 fun i j => .int (i + j)) (tOp (rIxT K) (tVar 5) (tC (.int 0))) (tOp (rIxT K) (tVar 5) (tC (.int 1)))) (tCons (tOp (rIxT K) (tVar 5) (tC (.int 1))) tNil))) tNil)))) (tRet (tC (.bl false))) tNext))) tNext)))
    (tRet (tC (.bl true))))
section
variable {P : Program} {w : World} {K : PySem.W.Frag} {mg : Str → Option Value} {base : Heap} {v_ZERO v_ONE : V}
theorem p__law_costs_right (T : Txt mg v_ZERO v_ONE)
    (C__law_half : Cal P w K mg base 2 "_law_half" ["_law_one", "_law_other"] kb__law_half ss__law_half)
    (fa : Addr) (cdv : Value) (A : Around) (outer : List Env) (s : Shared) (H : Hp) (E : XK) (hgd : A.guards = some []) (hr : Room 2 (A.deeper (envOfC "_law_costs_right" (defScope s__law_costs_right) s.heap.objs.size fa cdv))) :
    PSs (cxOf CX0 P w K mg base N__law_costs_right "_law_costs_right" (defScope s__law_costs_right) fa cdv A outer s H E).nox (defBody s__law_costs_right) (t__law_costs_right K w v_ZERO v_ONE) :=
  (pss_cons (ps_for PassesOwn.never rfl (pi_range1 (by rfl) T.b_range (pa_cons (pe_callB call_len_seq (by rfl) T.b_len (by decide +kernel) (pa_cons (pv 0) pa_nil)) pa_nil)) (pg_name (i := 3) sc__law_costs_right.nd rfl (by first | exact Or.inl rfl | exact Or.inr rfl))
    (pss_cons (ps_if (pt_cmpR op_ne (pe_cmpR op_isN (pe_ix ix_list (pv 2) (pv 3) (fun _ _ => rfl)) pe_non (nomark _)) (pe_cmpR (op_neD hr.units) (pe_ix ix_tup (pe_ix ix_list (pv 1) (pv 3) (fun _ _ => rfl)) (pe_un un_neg pe_int) (fun _ _ => rfl)) (pe_tup (pa_cons pe_int (pa_cons pe_int pa_nil))) (nomark _)) (nomark _)) (pss_one (ps_ret pe_bl)) pss_nil)
    (pss_one (ps_if (pt_cmpR op_notN (pe_ix ix_list (pv 2) (pv 3) (fun _ _ => rfl)) pe_non (nomark _)) (pss_cons (ps_setLc (i := 4) (own := [("_law_arm", 6)]) (g := (gName 6)) (tt := tYes) rfl sc__law_costs_right.nd rfl rfl (sw_true rfl rfl rfl (by decide +kernel)) (pi_tup (pe_ix ix_tup (pv 0) (pv 3) (fun _ _ => rfl))) (blkOk_by (N := N__law_costs_right) (sc := defScope s__law_costs_right) (by decide +kernel)) (fun _ _ _ _ _ => (pg_name (i := 6) sc__law_costs_right.nd rfl (by first | exact Or.inl rfl | exact Or.inr rfl))) (fun _ _ _ _ _ => pts_nil) (fun _ _ _ _ _ => (pe_ifExp (pt_val (pe_callB call_isi (by rfl) T.b_isinstance (by decide +kernel) (pa_cons (pv 6) (pa_cons (pe_bltn (by rfl) T.b_tuple (by decide +kernel) rfl) pa_nil)))) (pe_tup (pa_cons pe_int (pa_cons pe_int pa_nil))) (pe_ix ix_list (pv 2) (pv 6) (fun _ _ => rfl)))))
    (pss_cons (ps_set (i := 5) sc__law_costs_right.nd rfl (by first | exact Or.inl rfl | exact Or.inr rfl) (pe_cal C__law_half hgd (hr.mono (by decide)) (by rfl) (pa_cons (pe_ix ix_list (pv 4) pe_int (fun _ _ => rfl)) (pa_cons (pe_ix ix_list (pv 4) pe_int (fun _ _ => rfl)) pa_nil))))
    (pss_one (ps_if (pt_cmpR op_ne (pe_callB (call_repr hgd hr.units) (by rfl) T.b_repr (by decide +kernel) (pa_cons (pe_ix ix_list (pv 2) (pv 3) (fun _ _ => rfl)) pa_nil)) (pe_callB (call_repr hgd hr.units) (by rfl) T.b_repr (by decide +kernel) (pa_cons (pe_tup (pa_cons (pe_op op_add (pe_ix ix_tup (pv 5) pe_int (fun _ _ => rfl)) (pe_ix ix_tup (pv 5) pe_int (fun _ _ => rfl))) (pa_cons (pe_ix ix_tup (pv 5) pe_int (fun _ _ => rfl)) pa_nil))) pa_nil)) (nomark _)) (pss_one (ps_ret pe_bl)) pss_nil)))) pss_nil))))
    (pss_one (ps_ret pe_bl)))
end
section
variable {P : Program} {w : World} {K : PySem.W.Frag} {mg : Str → Option Value} {base : Heap} {v_ZERO v_ONE : V}
theorem ok__law_costs_right {f : Addr} {fd : FuncData} (F : Fun K "_law_costs_right" "_law_costs_right" s__law_costs_right f fd) (T : Txt mg v_ZERO v_ONE)
    (C2 : Cal P w K mg base 2 "_law_half" ["_law_one", "_law_other"] kb__law_half ss__law_half) : GnOk P w K mg base CX0 3 f fd ["_law_machine_here", "_law_shares", "_law_costs"] (toSp K w ss__law_costs_right) :=
  sy_okX F sc__law_costs_right (fun ds Θ R ⟨_, _, _, _, _, e, _⟩ => by rw [e]; rfl) (by decide) (fun cdv A outer s H E hg hr => p__law_costs_right T C2 f cdv A outer s H E hg hr) fun H ds Θ R ⟨m, S, C, sh, co, e, e2, hm, so, k⟩ => by
    subst e; subst e2
    show Rn _ _ [some (.tup (m.map nda)), some (.ref S), some (.ref C), none, none, none, none] _ _
    have hh := hm.hi
    repeat' (first | infer_instance | fail)
    refine x_forR (fun i Γ' Θ' => ∃ y3 y4 y5, Γ' = [some (.tup (m.map nda)), some (.ref S), some (.ref C), y3, y4, y5, none] ∧ Θ' = [(S, .lst (sh.map shD)), (C, .lst (co.map ofrac))]) ?_
    repeat' (first | infer_instance | fail)
    rw [List.length_map]
    refine ⟨by omega, ⟨_, _, _, rfl, rfl⟩, ?_, ?_⟩
    · rintro i Γ' Θ' hi ⟨y3, y4, y5, rfl, rfl⟩
      have hA := hm.arms _ (List.getElem_mem hi)
      have hx : (m.map nda)[i]? = some (nda m[i]) := by rw [List.getElem?_map, List.getElem?_eq_getElem hi]; rfl
      have heq := so.eq i m[i]
      have hls := so.ls
      have hlc := so.lc
      have hsi : sh[i]? = some sh[i] := List.getElem?_eq_getElem (by omega)
      have hci : co[i]? = some co[i] := List.getElem?_eq_getElem (by omega)
      obtain ⟨a0, e0, hl, ho⟩ := so.end_ i _ _ hsi hci
      have hs : (sh.map shD)[i]? = some (shD (a0 ++ [e0])) := by rw [List.getElem?_map, hsi, hl]; rfl
      have hc : (co.map ofrac)[i]? = some (ofrac co[i]) := by rw [List.getElem?_map, hci]; rfl
      have hat : atI ((a0 ++ [e0]).map frac) (-1) = some (frac e0) := by rw [List.map_append]; exact atI_last _ _
      have hzc : ∀ q, co[i] = some q → Sz 600 q := fun q e => so.sz q (by rw [← e]; exact List.getElem_mem _)
      have heq := heq
      rw [List.getElem?_eq_getElem hi, hci] at heq
      generalize m[i] = pr at *
      generalize co[i] = o at *
      obtain ⟨u, v⟩ := pr
      repeat' (first | infer_instance | fail)
      refine s_ixL (.tail _ (.head _)) (atI_nat hc) ?_
      repeat' (first | infer_instance | fail)
      refine s_ixL (.head _) (atI_nat hs) ?_
      repeat' (first | infer_instance | fail)
      refine s_ixT hat ?_
      repeat' (first | infer_instance | fail)
      refine ⟨by show 2 ≤ sizeLine; decide, ?_⟩
      rw [zero_eq]
      refine s_neD rfl rfl rfl rfl ?_
      rw [frac_eqv, ofrac_non, ho]
      refine s_neB ?_
      rw [decide_eq_true rfl]
      repeat' (first | infer_instance | fail)
      refine s_ixL (.tail _ (.head _)) (atI_nat hc) ?_
      repeat' (first | infer_instance | fail)
      cases o with
      | none =>
        repeat' (first | infer_instance | fail)
        exact fg_all ⟨_, _, _, rfl, rfl⟩
      | some q =>
        obtain ⟨a, b, ea, eb, rfl⟩ := heq q rfl rfl
        repeat' (first | infer_instance | fail)
        refine lc_T (costD co) (into_name (by decide)) ?_
        repeat' (first | infer_instance | fail)
        refine s_ixT (atI_nat hx) ⟨_, rfl, by show 2 ≤ sizeLine; decide, ?_, fun p => ?_⟩
        · intro p acc d hd
          have e2 : ∃ a : Arm, d = a.da ∧ a.ok m.length := by
            rcases List.mem_cons.mp hd with e | e
            · exact ⟨u, e, hA.1⟩
            · exact ⟨v, List.mem_singleton.mp e, hA.2⟩
          obtain ⟨a, rfl, oa⟩ := e2
          cases a with
          | out j =>
            show Tg _ _ _ [some (.tup (m.map nda)), some (.ref S), some (.ref C), some (.int (i : Int)), y4, y5, none] _ _
            repeat' (first | infer_instance | fail)
            refine ⟨by show 2 ≤ sizeLine; decide, rfl, rfl⟩
          | «at» j =>
            have hj : j < co.length := by rw [hlc]; exact oa
            have hcj : (co.map ofrac)[j]? = some (ofrac (co.getD j none)) := by rw [List.getElem?_map, List.getD_eq_getElem?_getD, List.getElem?_eq_getElem hj]; rfl
            show Tg _ _ _ [some (.tup (m.map nda)), some (.ref S), some (.ref C), some (.int (i : Int)), y4, y5, none] _ _
            repeat' (first | infer_instance | fail)
            refine s_ixL (.tail _ (.head _)) (atI_nat hcj) ⟨?_, rfl⟩
            rw [costD_arm]; rfl
        · have e3 : List.map (costD co) [u.da, v.da] = [frac a, frac b] := by
            show [costD co u.da, costD co v.da] = _
            rw [costD_arm, costD_arm, ea, eb]; rfl
          have e4 : List.map (costD co) [(u, v).fst.da, (u, v).snd.da] = [frac a, frac b] := e3
          rw [e4]
          have hza : ∀ (x : Arm) (r : Rat), armCost co x = some r → Sz 3000 r := by
            intro x r hr
            cases x with
            | out j => cases hr; exact Sz.zero.mono (by decide)
            | «at» j =>
              have hr : co.getD j none = some r := hr
              rw [List.getD_eq_getElem?_getD] at hr
              cases hz : co[j]? with
              | none => rw [hz] at hr; cases hr
              | some z =>
                rw [hz] at hr
                have : z = some r := hr
                subst this
                exact (so.sz r (List.mem_of_getElem? hz)).mono (by decide)
          repeat' (first | infer_instance | fail)
          refine s_ixL mem_last rfl ?_
          repeat' (first | infer_instance | fail)
          refine s_ixL mem_last rfl ?_
          repeat' (first | infer_instance | fail)
          refine ⟨[], _, .nil, a, b, rfl, hza u a ea, hza v b eb, ?_⟩
          simp only [List.append_nil]
          have zq := hzc _ rfl
          show Tg _ _ (.tup [.int ((a + b) / 2).num, .int (((a + b) / 2).den : Int)]) _ _ _
          have ef := frac_succ ((a + b) / 2)
          generalize (a + b) / 2 = mean at *
          repeat' (first | infer_instance | fail)
          refine s_ixL (.tail _ (.head _)) (atI_nat hc) ?_
          repeat' (first | infer_instance | fail)
          refine s_reprQ (zq.mono (by decide)) ?_
          repeat' (first | infer_instance | fail)
          refine ⟨by show 2 ≤ sizeLine; decide, ?_⟩
          rw [ef]
          repeat' (first | infer_instance | fail)
          refine s_reprQ (zq.mono (by decide)) ?_
          refine s_neS ?_
          rw [decide_eq_true rfl]
          repeat' (first | infer_instance | fail)
          exact ⟨_, _, _, .refl _, (by repeat' (first | exact Take.here | exact Spl.nil | apply Spl.cons | apply Take.there | fail)), _, _, _, rfl, rfl⟩
    · rintro Γ' Θ' ⟨y3, y4, y5, rfl, rfl⟩
      repeat' (first | infer_instance | fail)
      exact ft_all k
end
end K38

end
section
/-! k38, part N: the ring of 101 to 108 nodes. -/
namespace K38
open PySem PySem.Spec PyProof.Rows L2 Sy
def ringN (n o i : Nat) : Arm × Arm := (.out (i % o), .at ((i + 1) % n))
def ringM (n o : Nat) : Mach := (List.range n).map (ringN n o)
/-- the row below, when row t has come to be R -/
def nextR (n o t : Nat) (R : Row) : Row := putInto (rdel (row0 (ringN n o t)) (.node (t + 1))) (rget (row0 (ringN n o t)) (.node (t + 1))) (closedRow R (t + 1))
def finR (n o : Nat) : Nat → Row → Row
  | 0, R => closedRow R 0
  | t + 1, R => finR n o t (nextR n o t R)
def szB (n : Nat) (q : Rat) : Bool := decide (q.num.natAbs < 2 ^ n) && decide (q.den < 2 ^ n)
def rowB (n : Nat) (r : Row) : Bool := decide (r.length ≤ 1000) && r.all fun p => szB n p.2
def backB (R : Row) (t : Nat) : Bool := decide (rget R (.node t) = 1) || decide (0 < 1 - rget R (.node t))
def chkR (n o : Nat) : Nat → Row → Bool
  | 0, R => rowB 600 R && backB R 0 && rowB 600 (closedRow R 0)
  | t + 1, R => rowB 600 R && backB R (t + 1) && rowB 600 (closedRow R (t + 1)) && chkR n o t (nextR n o t R)
theorem RowOk.ofB {n : Nat} {r : Row} (h : rowB n r = true) (nd : NDk r) : RowOk n r := by
  unfold rowB at h
  rw [Bool.and_eq_true, decide_eq_true_iff, List.all_eq_true] at h
  refine ⟨h.1, fun p hp => ?_, nd⟩
  have := h.2 p hp
  unfold szB at this
  rw [Bool.and_eq_true, decide_eq_true_iff, decide_eq_true_iff] at this
  exact this
theorem backB_ok {R : Row} {t : Nat} (h : backB R t = true) : rget R (.node t) ≠ 1 → 0 < 1 - rget R (.node t) := by
  unfold backB at h
  rw [Bool.or_eq_true, decide_eq_true_iff, decide_eq_true_iff] at h
  intro q
  exact h.resolve_left q
theorem closed_nd {r : Row} (h : NDk r) (n : Nat) : NDk (closedRow r n) := by
  unfold closedRow
  split
  · simp [NDk]
  · exact putInto_nd (by simp [NDk]) _ _
theorem row0_nd (p : Arm × Arm) : NDk (row0 p) := by
  unfold row0
  refine rput_nd ?_ _ _
  unfold NDk
  cases p.1 <;> simp [Arm.key]
theorem look_row0 (p : Arm × Arm) (k : Key) : (look (row0 p) k).isSome = (decide (k = .toss) || decide (k = p.1.key) || decide (k = p.2.key)) := by
  have e : look (row0 p) k = look (rput [(.toss, 1), (p.1.key, 1 / 2)] p.2.key (rget [(.toss, 1), (p.1.key, 1 / 2)] p.2.key + 1 / 2)) k := rfl
  rw [e, look_rput]
  by_cases h : k = p.2.key
  · rw [if_pos h, decide_eq_true h, Bool.or_true]; rfl
  · rw [if_neg h, decide_eq_false h, Bool.or_false]
    unfold look
    rw [List.find?_cons, List.find?_cons]
    by_cases h1 : k = .toss
    · rw [decide_eq_true h1, decide_eq_true h1.symm]; rfl
    · rw [decide_eq_false h1, decide_eq_false fun z => h1 z.symm]
      by_cases h2 : k = p.1.key
      · rw [decide_eq_true h2, decide_eq_true h2.symm]; rfl
      · rw [decide_eq_false h2, decide_eq_false fun z => h2 z.symm]; rfl
theorem row0_sz (p : Arm × Arm) : RowOk 600 (row0 p) := by
  have zr : RowOk 2 [(.toss, 1), (p.1.key, 1 / 2)] := ⟨by show 2 ≤ 1000; decide, fun x hx => by
    rcases List.mem_cons.mp hx with e | hx
    · subst e; exact Sz.one.mono (by decide)
    · obtain rfl := List.mem_singleton.mp hx
      exact Sz.half, by
    unfold NDk
    cases p.1 <;> simp [Arm.key]⟩
  refine ⟨Nat.le_trans (rput_len _ _ _) (by show 2 + 1 ≤ 1000; decide), fun x hx => ?_, row0_nd p⟩
  have hx : x ∈ rput [(.toss, 1), (p.1.key, 1 / 2)] p.2.key (rget [(.toss, 1), (p.1.key, 1 / 2)] p.2.key + 1 / 2) := hx
  have hq : Sz 600 (rget [(.toss, 1), (p.1.key, 1 / 2)] p.2.key + 1 / 2) := ((zr.get (by decide) _).add Sz.half).mono (by decide)
  unfold rput at hx
  split at hx
  · obtain ⟨y, hy, rfl⟩ := List.mem_map.mp hx
    split
    · exact hq
    · exact (zr.sz y hy).mono (by decide)
  · rcases List.mem_append.mp hx with hx | hx
    · exact (zr.sz x hx).mono (by decide)
    · rw [List.mem_singleton.mp hx]; exact hq
structure Stage (n o t : Nat) (R : Row) (rows : List Row) : Prop where
  len : rows.length = n
  low : ∀ i, i < t → rows[i]? = some (row0 (ringN n o i))
  here : rows[t]? = some R
  high : ∀ i r, t < i → rows[i]? = some r → RowOk 600 r
  nd : NDk R
theorem ringN_look {n o i t : Nat} (hi : i + 1 < n) (ht : t < n) : (look (row0 (ringN n o i)) (.node t)).isSome = decide (t = i + 1) := by
  rw [look_row0]
  have e : (i + 1) % n = i + 1 := Nat.mod_eq_of_lt hi
  show (decide (Key.node t = .toss) || decide (Key.node t = .out (i % o)) || decide (Key.node t = .node ((i + 1) % n))) = _
  rw [e, decide_eq_false (by intro z; cases z), decide_eq_false (by intro z; cases z), Bool.false_or, Bool.false_or]
  simp
theorem stage_step {n o t : Nat} {R : Row} {rows : List Row} (S : Stage n o (t + 1) R rows) (hn : t + 1 < n) (h6 : rowB 600 (closedRow R (t + 1)) = true) : Stage n o t (nextR n o t R) (stepE rows (t + 1)) := by
  have hd : rows.getD (t + 1) [] = R := by rw [List.getD_eq_getElem?_getD, S.here]; rfl
  have hg : ∀ i r, (stepE rows (t + 1))[i]? = some r → (i = t + 1 ∧ r = closedRow R (t + 1)) ∨ (i ≠ t + 1 ∧ ∃ r0, rows[i]? = some r0 ∧ r = sub1 (t + 1) (closedRow R (t + 1)) i r0) := by
    intro i r h
    unfold stepE at h
    rw [hd, List.getElem?_mapIdx, List.getElem?_set] at h
    by_cases e : t + 1 = i
    · rw [if_pos e, if_pos (by rw [S.len]; omega)] at h
      refine .inl ⟨e.symm, ?_⟩
      rw [← Option.some.inj h]
      show sub1 _ _ i _ = _
      unfold sub1
      rw [if_neg (by omega)]
    · rw [if_neg e] at h
      cases hr : rows[i]? with
      | none => rw [hr] at h; cases h
      | some r0 => rw [hr] at h; exact .inr ⟨fun z => e z.symm, r0, rfl, (Option.some.inj h).symm⟩
  have hl : (stepE rows (t + 1)).length = n := by
    unfold stepE
    rw [List.length_mapIdx, List.length_set, S.len]
  refine ⟨hl, fun i hi => ?_, ?_, fun i r hi hr => ?_, ?_⟩
  · obtain ⟨r, hr⟩ : ∃ r, (stepE rows (t + 1))[i]? = some r := ⟨_, List.getElem?_eq_getElem (by omega)⟩
    rcases hg i r hr with ⟨e, _⟩ | ⟨_, r0, h0, rfl⟩
    · omega
    · rw [S.low i (by omega)] at h0
      obtain rfl := Option.some.inj h0
      rw [hr]
      unfold sub1
      rw [if_neg]
      rintro ⟨_, z⟩
      rw [ringN_look (by omega) (by omega)] at z
      have := of_decide_eq_true z
      omega
  · obtain ⟨r, hr⟩ : ∃ r, (stepE rows (t + 1))[t]? = some r := ⟨_, List.getElem?_eq_getElem (by omega)⟩
    rcases hg t r hr with ⟨e, _⟩ | ⟨_, r0, h0, rfl⟩
    · omega
    · rw [S.low t (by omega)] at h0
      obtain rfl := Option.some.inj h0
      rw [hr]
      unfold sub1
      rw [if_pos ⟨by omega, by rw [ringN_look (by omega) (by omega)]; exact decide_eq_true rfl⟩]
      rfl
  · rcases hg i r hr with ⟨_, rfl⟩ | ⟨hne, r0, h0, rfl⟩
    · exact .ofB h6 (closed_nd S.nd _)
    · unfold sub1
      rw [if_neg (by omega)]
      exact S.high i r0 (by omega) h0
  · unfold nextR
    exact putInto_nd (rdel_nd (row0_nd _) _) _ _
theorem stage_rows {n o t : Nat} {R : Row} {rows : List Row} (S : Stage n o t R rows) (h : rowB 600 R = true) : ∀ r ∈ rows, RowOk 600 r := by
  intro r hr
  obtain ⟨i, hi, rfl⟩ := List.mem_iff_getElem.mp hr
  have e := List.getElem?_eq_getElem hi
  rcases Nat.lt_trichotomy i t with q | q | q
  · rw [S.low i q] at e
    rw [← Option.some.inj e]
    exact row0_sz _
  · subst q
    rw [S.here] at e
    rw [← Option.some.inj e]
    exact .ofB h S.nd
  · exact S.high i _ q e
theorem stage_run {n o : Nat} : ∀ (t : Nat) (R : Row) (rows : List Row), t < n → Stage n o t R rows → chkR n o t R = true → RunOk (t + 1) rows ∧ (elim (t + 1) rows).getD 0 [] = finR n o t R
  | 0, R, rows, hn, S, h => by
    unfold chkR at h
    rw [Bool.and_eq_true, Bool.and_eq_true] at h
    obtain ⟨⟨h1, h2⟩, h3⟩ := h
    have hd : rows.getD 0 [] = R := by rw [List.getD_eq_getElem?_getD, S.here]; rfl
    refine ⟨⟨stage_rows S h1, by rw [hd]; exact backB_ok h2, by rw [hd]; exact (RowOk.ofB h3 (closed_nd S.nd _)).mono (by decide), trivial⟩, ?_⟩
    show (elim 0 (stepE rows 0)).getD 0 [] = _
    unfold elim stepE finR
    rw [List.getD_eq_getElem?_getD, List.getElem?_mapIdx, List.getElem?_set, if_pos rfl, if_pos (by rw [S.len]; exact hn), hd]
    show sub1 _ _ 0 _ = _
    unfold sub1
    rw [if_neg (by omega)]
  | t + 1, R, rows, hn, S, h => by
    unfold chkR at h
    rw [Bool.and_eq_true, Bool.and_eq_true, Bool.and_eq_true] at h
    obtain ⟨⟨⟨h1, h2⟩, h3⟩, h4⟩ := h
    have hd : rows.getD (t + 1) [] = R := by rw [List.getD_eq_getElem?_getD, S.here]; rfl
    obtain ⟨r1, r2⟩ := stage_run t _ _ (by omega) (stage_step S hn h3) h4
    exact ⟨⟨stage_rows S h1, by rw [hd]; exact backB_ok h2, by rw [hd]; exact (RowOk.ofB h3 (closed_nd S.nd _)).mono (by decide), r1⟩, r2⟩
/-- the law's weights when it has come to node i -/
def wts (n o i : Nat) : List Int := (List.range o).map fun k => (((List.range i).filter fun j => j % o == k).map fun j => (2 : Int) ^ (n - 1 - j)).sum
def dueL (n o : Nat) : List Rat := (wts n o n).map (fun w => mkRat w (2 ^ n - 1)) ++ [0]
def ringB (n o : Nat) : Bool :=
  let R := row0 (ringN n o (n - 1))
  let r := finR n o (n - 1) R
  chkR n o (n - 1) R && (decide (look r .endl = none) && (decide (look r .toss = some 2) && (decide (sharesL r o = dueL n o) && ((wts n o n).all (fun w => decide (w.natAbs < 2 ^ 200)) && (dueL n o).all (szB 600)))))
set_option maxRecDepth 1000000 in
theorem ring_all : ∀ i : Fin 8, ∀ j : Fin 2, ringB (101 + i.val) (1 + j.val) = true := by decide +kernel
structure RingOk (n o : Nat) : Prop where
  mok : MOk (ringM n o)
  run : RunOk (ringM n o).length ((ringM n o).map row0)
  endl : look (solved (ringM n o)) .endl = none
  toss : look (solved (ringM n o)) .toss = some 2
  due : sharesL (solved (ringM n o)) o = dueL n o
  wb : ∀ w ∈ wts n o n, Bd 200 w
  ds : ∀ q ∈ dueL n o, Sz 600 q
theorem ring_ok {n o : Nat} (h1 : 101 ≤ n) (h2 : n < 109) (h3 : 1 ≤ o) (h4 : o < 3) : RingOk n o := by
  have h := ring_all ⟨n - 101, by omega⟩ ⟨o - 1, by omega⟩
  have e1 : 101 + (n - 101) = n := by omega
  have e2 : 1 + (o - 1) = o := by omega
  simp only [e1, e2] at h
  unfold ringB at h
  simp only [Bool.and_eq_true, decide_eq_true_eq, List.all_eq_true] at h
  obtain ⟨b1, b2, b3, b4, b5, b6⟩ := h
  have ln : (ringM n o).length = n := by unfold ringM; rw [List.length_map, List.length_range]
  have S : Stage n o (n - 1) (row0 (ringN n o (n - 1))) ((ringM n o).map row0) := by
    refine ⟨by rw [List.length_map, ln], fun i hi => ?_, ?_, fun i r hi hr => ?_, row0_nd _⟩
    · unfold ringM
      rw [List.map_map, List.getElem?_map, List.getElem?_range (by omega)]; rfl
    · unfold ringM
      rw [List.map_map, List.getElem?_map, List.getElem?_range (by omega)]; rfl
    · have := (List.getElem?_eq_some_iff.mp hr).1
      rw [List.length_map, ln] at this
      omega
  obtain ⟨r1, r2⟩ := stage_run (n - 1) _ _ (by omega) S b1
  have en : n - 1 + 1 = n := by omega
  rw [en] at r1 r2
  have es : solved (ringM n o) = finR n o (n - 1) (row0 (ringN n o (n - 1))) := by
    unfold solved
    rw [ln]
    exact r2
  refine ⟨⟨by omega, by omega, fun p hp => ?_⟩, by rw [ln]; exact r1, by rw [es]; exact b2, by rw [es]; exact b3, by rw [es]; exact b4, fun w hw => b5 w hw, fun q hq => ?_⟩
  · rw [ln]
    unfold ringM at hp
    obtain ⟨i, hi, rfl⟩ := List.mem_map.mp hp
    refine ⟨?_, Nat.mod_lt _ (by omega)⟩
    show i % o < 26
    have := Nat.mod_lt i (show 0 < o by omega)
    omega
  · have := b6 q hq
    unfold szB at this
    rw [Bool.and_eq_true, decide_eq_true_iff, decide_eq_true_iff] at this
    exact this
theorem wts_len (n o i : Nat) : (wts n o i).length = o := by unfold wts; rw [List.length_map, List.length_range]
theorem wts_zero (n o : Nat) : wts n o 0 = List.replicate o 0 := by
  unfold wts
  refine List.ext_getElem (by simp) fun i h1 h2 => ?_
  simp
theorem wts_succ {n o i : Nat} (ho : 0 < o) : wts n o (i + 1) = (wts n o i).set (i % o) ((wts n o i).getD (i % o) 0 + 2 ^ (n - 1 - i)) := by
  have hm : i % o < o := Nat.mod_lt _ ho
  refine List.ext_getElem (by rw [List.length_set, wts_len, wts_len]) fun k h1 h2 => ?_
  rw [wts_len] at h1
  have hg : ∀ j k, k < o → (wts n o j)[k]? = some (((List.range j).filter fun x => x % o == k).map fun x => (2 : Int) ^ (n - 1 - x)).sum := fun j k hk => by
    unfold wts
    rw [List.getElem?_map, List.getElem?_range hk]; rfl
  rw [List.getElem_set]
  have e1 : (wts n o (i + 1))[k]'(by rw [wts_len]; exact h1) = (((List.range (i + 1)).filter fun x => x % o == k).map fun x => (2 : Int) ^ (n - 1 - x)).sum := by
    have := hg (i + 1) k h1
    rw [List.getElem?_eq_getElem (by rw [wts_len]; exact h1)] at this
    exact Option.some.inj this
  have e2 : (wts n o i)[k]'(by rw [wts_len]; exact h1) = (((List.range i).filter fun x => x % o == k).map fun x => (2 : Int) ^ (n - 1 - x)).sum := by
    have := hg i k h1
    rw [List.getElem?_eq_getElem (by rw [wts_len]; exact h1)] at this
    exact Option.some.inj this
  rw [e1, List.range_succ, List.filter_append, List.map_append, List.sum_append]
  by_cases e : i % o = k
  · rw [if_pos e]
    have e3 : (wts n o i).getD (i % o) 0 = (((List.range i).filter fun x => x % o == k).map fun x => (2 : Int) ^ (n - 1 - x)).sum := by
      rw [List.getD_eq_getElem?_getD, e, hg i k h1]; rfl
    rw [e3]
    simp [e]
  · rw [if_neg e, e2]
    simp [e]
end K38

end
section
/-! k38, part O: the law's check of the ring. -/
namespace K38
open PySem PySem.Spec PyProof.Rows L2 Sy
local macro_rules | `(tactic| infer_instance) => `(tactic| first
  | with_reducible refine x_seq ?_
  | with_reducible refine x_asg ?_
  | with_reducible refine x_ret ?_
  | with_reducible refine x_drop ?_
  | with_reducible refine x_par ?_
  | with_reducible refine x_if ?_
  | with_reducible refine ev_op ?_
  | with_reducible refine ev_un ?_
  | with_reducible refine ev_cb ?_
  | with_reducible refine ev_tup ?_
  | with_reducible refine ea_nil ?_
  | with_reducible refine ea_cons ?_
  | with_reducible refine ev_int ?_
  | with_reducible refine ev_bl ?_
  | with_reducible refine ev_str ?_
  | with_reducible refine ev_ty ?_
  | with_reducible refine ev_non ?_
  | with_reducible refine et_test ?_
  | with_reducible refine et_B ?_
  | with_reducible refine et_not ?_
  | with_reducible refine et_and ?_
  | with_reducible refine et_or ?_
  | with_reducible refine ev_cal ?_
  | with_reducible refine ev_if ?_
  | with_reducible refine ev_andV ?_
  | with_reducible refine ev_orV ?_
  | with_reducible refine ev_notV ?_
  | with_reducible refine ev_chain ?_
  | with_reducible refine x_drop ?_
  | with_reducible refine x_par ?_
  | refine ev_var rfl ?_
  | with_reducible refine x_next ?_
  | refine s_I (by assumption) ?_
  | refine s_isi rfl rfl ?_
  | refine s_I0 ?_
  | refine s_B0 ?_
  | refine s_neg ?_
  | refine s_eqI ?_
  | refine s_neI ?_
  | refine s_eqS ?_
  | refine s_isN ?_
  | refine s_notN ?_
  | refine s_abs ?_
  | refine s_max2 ?_
  | refine s_min2 ?_
  | refine s_int1 ?_
  | refine s_intB ?_
  | refine s_lenT ?_
  | refine s_lenF ?_
  | refine s_ixT rfl ?_
  | refine tg_name (of_decide_eq_true rfl) ?_
  | refine tg_tup rfl ?_
  | refine tgs_cons ?_
  | refine tgs_nil ?_
  | refine ⟨fun _ => ?_, fun z => nomatch (show true = false from z)⟩
  | refine ⟨fun z => (nomatch (show false = true from z)), fun _ => ?_⟩
  | with_reducible refine ⟨_, rfl, ?_⟩
  | refine ⟨_, _, rfl, of_decide_eq_true rfl, of_decide_eq_true rfl, ?_⟩
  | fail "x")
def ss__law_chain_right : Ss := fun ds Θ R => ∃ (a : Addr) (x y z : Int) (n : Nat), ds = [.ref a] ∧ Θ = [(a, wl x y z)] ∧ WellOk n x y z ∧ n ≤ 900000 ∧ ∀ (x' y' z' : Int), WellOk (n + 3) x' y' z' → R (.bl true) [(a, wl x' y' z')]
theorem shown_two : (frac 2).py.shown = "(2, 1)" := by decide +kernel
abbrev t__law_chain_right (K : PySem.W.Frag) (w : World) (v_ZERO : V) (v_ONE : V) : TS :=
  (tSeq (tAsg (tTup (tCons (tOp (rI0 fun i j => .int (i + j)) (tC (.int 101)) (tCall (toSp K w ss__law_drop) [] xk0 (tCons (tVar 0) (tCons (tC (.int 8)) tNil)))) (tCons (tOp (rI0 fun i j => .int (i + j)) (tC (.int 1)) (tCall (toSp K w ss__law_drop) [] xk0 (tCons (tVar 0) (tCons (tC (.int 2)) tNil)))) tNil))) (gTup K 2 (gCons (gName 1) (gCons (gName 2) gNil))))
    (tSeq (tAsg (tCB (rTupOf K) (tCons (tLc (iRng1 (tCons (tVar 1) tNil)) (gName 5) tYes (tTup (tCons (tTup (tCons (tC (.str "out")) (tCons (tOp (rI (fun _ j => 0 < j) fun i j => .int (i % j)) (tCB rInt1 (tCons (tVar 5) tNil)) (tVar 2)) tNil))) (tCons (tOp (rI (fun _ j => 0 < j) fun i j => .int (i % j)) (tCB rInt1 (tCons (tOp (rI0 fun i j => .int (i + j)) (tVar 5) (tC (.int 1))) tNil)) (tVar 1)) tNil))) [5]) tNil)) (gName 3))
    (tSeq (tIfS (tTest (tOp rEq (tCall (toSp K w ss__law_drop) [] xk0 (tCons (tVar 0) (tCons (tC (.int 2)) tNil))) (tC (.int 0)))) (tRet (tOp rEq (tCB (rRepr K) (tCons (tCall (toSp K w ss_coin_cost) [] xk0 (tCons (tVar 3) tNil)) tNil)) (tC (.str "(2, 1)")))) tNext)
    (tSeq (tAsg (tOp (rRep) (tLst (tCons (tC (.int 0)) tNil)) (tVar 2)) (gName 4))
    (tSeq (tFor (iRng1 (tCons (tVar 1) tNil)) (gName 5)
    (tSeq (tAsg (tOp (rI (fun _ j => 0 < j) fun i j => .int (i % j)) (tCB rInt1 (tCons (tVar 5) tNil)) (tVar 2)) (gName 6))
    (tAsg (tOp (rI0 fun i j => .int (i + j)) (tOp (rIxL K) (tVar 4) (tVar 6)) (tOp (rI CPow fun i j => .int (i * 2 ^ j.toNat)) (tC (.int 1)) (tOp (rI0 fun i j => .int (i - j)) (tOp (rI0 fun i j => .int (i - j)) (tVar 1) (tC (.int 1))) (tVar 5)))) (gSub (tVar 4) (tVar 6) rSetL))))
    (tSeq (tAsg (tCB (rTupOf K) (tCons (tOp (rCat) (tLc (iList K (tVar 4)) (gName 8) tYes (tCall (toSp K w ss__law_low) [] xk0 (tCons (tVar 8) (tCons (tOp (rI0 fun i j => .int (i - j)) (tOp (rI CPow fun i j => .int (i * 2 ^ j.toNat)) (tC (.int 1)) (tVar 1)) (tC (.int 1))) tNil))) [8]) (tLst (tCons (tTup (tCons (tC (.int 0)) (tCons (tC (.int 1)) tNil))) tNil))) tNil)) (gName 7))
    (tRet (tOp rEq (tCB (rRepr K) (tCons (tCall (toSp K w ss_coin_shares) [] xk0 (tCons (tVar 3) (tCons (tVar 2) tNil))) tNil)) (tCB (rRepr K) (tCons (tVar 7) tNil))))))))))
section
variable {P : Program} {w : World} {K : PySem.W.Frag} {mg : Str → Option Value} {base : Heap} {v_ZERO v_ONE : V}
theorem p__law_chain_right (T : Txt mg v_ZERO v_ONE)
    (C__law_drop : Cal P w K mg base 1 "_law_drop" ["_law_well_here", "_law_bound"] kb__law_drop ss__law_drop)
    (C__law_low : Cal P w K mg base 1 "_law_low" ["_law_above", "_law_below"] kb__law_low ss__law_low)
    (C_coin_cost : Cal P w K mg base 7 "coin_cost" ["machine"] kb_coin_cost ss_coin_cost)
    (C_coin_shares : Cal P w K mg base 7 "coin_shares" ["machine", "count"] kb_coin_shares ss_coin_shares)
    (fa : Addr) (cdv : Value) (A : Around) (outer : List Env) (s : Shared) (H : Hp) (E : XK) (hgd : A.guards = some []) (hr : Room 7 (A.deeper (envOfC "_law_chain_right" (defScope s__law_chain_right) s.heap.objs.size fa cdv))) :
    PSs (cxOf CX0 P w K mg base N__law_chain_right "_law_chain_right" (defScope s__law_chain_right) fa cdv A outer s H E).nox (defBody s__law_chain_right) (t__law_chain_right K w v_ZERO v_ONE) :=
  (pss_cons (ps_asg (pe_tup (pa_cons (pe_op op_add pe_int (pe_cal C__law_drop hgd (hr.mono (by decide)) (by rfl) (pa_cons (pv 0) (pa_cons pe_int pa_nil)))) (pa_cons (pe_op op_add pe_int (pe_cal C__law_drop hgd (hr.mono (by decide)) (by rfl) (pa_cons (pv 0) (pa_cons pe_int pa_nil)))) pa_nil))) (pg_tup rfl (pgs_cons (pg_name (i := 1) sc__law_chain_right.nd rfl (by first | exact Or.inl rfl | exact Or.inr rfl)) (pgs_cons (pg_name (i := 2) sc__law_chain_right.nd rfl (by first | exact Or.inl rfl | exact Or.inr rfl)) pgs_nil))))
    (pss_cons (ps_set (i := 3) sc__law_chain_right.nd rfl (by first | exact Or.inl rfl | exact Or.inr rfl) (pe_callTy call_tuple_of (by rfl) T.b_tuple (by decide +kernel) (pa_cons (pe_lc (own := [("_law_node", 5)]) (g := (gName 5)) (tt := tYes) rfl sc__law_chain_right.nd (pi_range1 (by rfl) T.b_range (pa_cons (pv 1) pa_nil)) (blkOk_by (N := N__law_chain_right) (sc := defScope s__law_chain_right) (by decide +kernel)) (fun _ _ _ _ _ => (pg_name (i := 5) sc__law_chain_right.nd rfl (by first | exact Or.inl rfl | exact Or.inr rfl))) (fun _ _ _ _ _ => pts_nil) (fun _ _ _ _ _ => (pe_tup (pa_cons (pe_tup (pa_cons pe_str (pa_cons (pe_op op_mod (pe_callTy call_int1 (by rfl) T.b_int (by decide +kernel) (pa_cons (pv 5) pa_nil)) (pv 2)) pa_nil))) (pa_cons (pe_op op_mod (pe_callTy call_int1 (by rfl) T.b_int (by decide +kernel) (pa_cons (pe_op op_add (pv 5) pe_int) pa_nil)) (pv 1)) pa_nil))))) pa_nil)))
    (pss_cons (ps_if (pt_cmpR op_eq (pe_cal C__law_drop hgd (hr.mono (by decide)) (by rfl) (pa_cons (pv 0) (pa_cons pe_int pa_nil))) pe_int (nomark _)) (pss_one (ps_ret (pe_cmpR op_eq (pe_callB (call_repr hgd hr.units) (by rfl) T.b_repr (by decide +kernel) (pa_cons (pe_cal C_coin_cost hgd (hr.mono (by decide)) (by rfl) (pa_cons (pv 3) pa_nil)) pa_nil)) pe_str (nomark _)))) pss_nil)
    (pss_cons (ps_set (i := 4) sc__law_chain_right.nd rfl (by first | exact Or.inl rfl | exact Or.inr rfl) (pe_op op_rep (pe_lst (pa_cons pe_int pa_nil)) (pv 2)))
    (pss_cons (ps_for PassesOwn.never rfl (pi_range1 (by rfl) T.b_range (pa_cons (pv 1) pa_nil)) (pg_name (i := 5) sc__law_chain_right.nd rfl (by first | exact Or.inl rfl | exact Or.inr rfl))
    (pss_cons (ps_set (i := 6) sc__law_chain_right.nd rfl (by first | exact Or.inl rfl | exact Or.inr rfl) (pe_op op_mod (pe_callTy call_int1 (by rfl) T.b_int (by decide +kernel) (pa_cons (pv 5) pa_nil)) (pv 2)))
    (pss_one (ps_asg (pe_op op_add (pe_ix ix_list (pv 4) (pv 6) (fun _ _ => rfl)) (pe_op op_shl pe_int (pe_op op_sub (pe_op op_sub (pv 1) pe_int) (pv 5)))) (pg_sub (pv 4) (pv 6) set_list)))))
    (pss_cons (ps_set (i := 7) sc__law_chain_right.nd rfl (by first | exact Or.inl rfl | exact Or.inr rfl) (pe_callTy call_tuple_of (by rfl) T.b_tuple (by decide +kernel) (pa_cons (pe_op op_cat (pe_lc (own := [("_law_weight", 8)]) (g := (gName 8)) (tt := tYes) rfl sc__law_chain_right.nd (pi_list (pv 4)) (blkOk_by (N := N__law_chain_right) (sc := defScope s__law_chain_right) (by decide +kernel)) (fun _ _ _ _ _ => (pg_name (i := 8) sc__law_chain_right.nd rfl (by first | exact Or.inl rfl | exact Or.inr rfl))) (fun _ _ _ _ _ => pts_nil) (fun _ _ _ _ _ => (pe_cal C__law_low hgd (hr.mono (by decide)) (by rfl) (pa_cons (pv 8) (pa_cons (pe_op op_sub (pe_op op_shl pe_int (pv 1)) pe_int) pa_nil))))) (pe_lst (pa_cons (pe_tup (pa_cons pe_int (pa_cons pe_int pa_nil))) pa_nil))) pa_nil)))
    (pss_one (ps_ret (pe_cmpR op_eq (pe_callB (call_repr hgd hr.units) (by rfl) T.b_repr (by decide +kernel) (pa_cons (pe_cal C_coin_shares hgd (hr.mono (by decide)) (by rfl) (pa_cons (pv 3) (pa_cons (pv 2) pa_nil))) pa_nil)) (pe_callB (call_repr hgd hr.units) (by rfl) T.b_repr (by decide +kernel) (pa_cons (pv 7) pa_nil)) (nomark _))))))))))
end
section
variable {P : Program} {w : World} {K : PySem.W.Frag} {mg : Str → Option Value} {base : Heap} {v_ZERO v_ONE : V}
theorem ok__law_chain_right {f : Addr} {fd : FuncData} (F : Fun K "_law_chain_right" "_law_chain_right" s__law_chain_right f fd) (T : Txt mg v_ZERO v_ONE) (C1 : Cal P w K mg base 1 "_law_drop" ["_law_well_here", "_law_bound"] kb__law_drop ss__law_drop)
    (C2 : Cal P w K mg base 1 "_law_low" ["_law_above", "_law_below"] kb__law_low ss__law_low) (C3 : Cal P w K mg base 7 "coin_cost" ["machine"] kb_coin_cost ss_coin_cost) (C4 : Cal P w K mg base 7 "coin_shares" ["machine", "count"] kb_coin_shares ss_coin_shares) :
    GnOk P w K mg base CX0 8 f fd ["_law_well_here"] (toSp K w ss__law_chain_right) :=
  sy_okX F sc__law_chain_right (fun ds Θ R ⟨_, _, _, _, _, e, _⟩ => by rw [e]; rfl) (by decide) (fun cdv A outer s H E hg hr => p__law_chain_right T C1 C2 C3 C4 f cdv A outer s H E hg hr) fun H ds Θ R ⟨a, x, y, z, n, e, e2, W, hn, k⟩ => by
    subst e; subst e2
    show Rn _ _ [some (.ref a), none, none, none, none, none, none, none, none] _ _
    repeat' (first | infer_instance | fail)
    refine ⟨[(a, wl x y z)], _, (by repeat' (first | exact Take.here | exact Spl.nil | apply Spl.cons | apply Take.there | fail)), a, x, y, z, n, 8, rfl, rfl, W, by omega, by decide, by decide, fun d1 x1 y1 z1 hd1 W1 => ?_⟩
    repeat' (first | infer_instance | fail)
    refine ⟨[(a, wl x1 y1 z1)], _, (by repeat' (first | exact Take.here | exact Spl.nil | apply Spl.cons | apply Take.there | fail)), a, x1, y1, z1, n + 1, 2, rfl, rfl, W1, by omega, by decide, by decide, fun d2 x2 y2 z2 hd2 W2 => ?_⟩
    repeat' (first | infer_instance | fail)
    refine ⟨by show 2 ≤ sizeLine; decide, ?_⟩
    have eM : (101 : Int) + (d1 : Int) = ((101 + d1 : Nat) : Int) := by omega
    have eO : (1 : Int) + (d2 : Int) = ((1 + d2 : Nat) : Int) := by omega
    rw [eM, eO]
    have rg : RingOk (101 + d1) (1 + d2) := ring_ok (by omega) (by omega) (by omega) (by omega)
    have hM : 101 + d1 < 109 := by omega
    have hM1 : 101 ≤ 101 + d1 := by omega
    have hO : 0 < 1 + d2 := by omega
    have hO3 : 1 + d2 < 3 := by omega
    generalize 101 + d1 = M at *
    generalize 1 + d2 = O at *
    have pO : (0 : Int) < (O : Int) := by omega
    have pM : (0 : Int) < (M : Int) := by omega
    repeat' (first | infer_instance | fail)
    refine lc_R (fun i => nda (ringN M O i)) (into_name (by decide)) ?_
    repeat' (first | infer_instance | fail)
    refine ⟨by omega, ?_, fun p => ?_⟩
    · intro p acc i hi
      have e1 : (i : Int) % (O : Int) = ((i % O : Nat) : Int) := by rw [Int.natCast_emod]
      have e2 : ((i : Int) + 1) % (M : Int) = (((i + 1) % M : Nat) : Int) := by rw [Int.natCast_emod]; rfl
      show Tg _ _ _ [some (.ref a), some (.int (M : Int)), some (.int (O : Int)), none, none, none, none, none, none] _ _
      repeat' (first | infer_instance | fail)
      refine ⟨by show 2 ≤ sizeLine; decide, ?_⟩
      repeat' (first | infer_instance | fail)
      refine ⟨by show 2 ≤ sizeLine; decide, ?_⟩
      rw [e1, e2]
      exact ⟨rfl, rfl⟩
    have emd : mda (ringM M O) = .tup ((List.range M).map fun i => nda (ringN M O i)) := by
      unfold mda ringM
      rw [List.map_map]; rfl
    repeat' (first | infer_instance | fail)
    refine s_tupL mem_last ?_
    rw [← emd]
    repeat' (first | infer_instance | fail)
    refine ⟨[(a, wl x2 y2 z2)], _, (by repeat' (first | exact Take.here | exact Spl.nil | apply Spl.cons | apply Take.there | fail)), a, x2, y2, z2, n + 2, 2, rfl, rfl, W2, by omega, by decide, by decide, fun d3 x3 y3 z3 hd3 W3 => ?_⟩
    repeat' (first | infer_instance | fail)
    refine ⟨fun _ => ?_, fun _ => ?_⟩
    · repeat' (first | infer_instance | fail)
      have hc : costO (ringM M O) = some 2 := by
        unfold costO rget
        rw [rg.endl, rg.toss]; rfl
      refine ⟨[], _, .nil, ringM M O, rfl, rfl, rg.mok, rg.run, fun _ => by rw [rg.toss]; rfl, ?_⟩
      rw [hc]
      have z2 : Sz 1920 2 := Sz.mono (n := 2) ⟨by show (2 : Int).natAbs < 4; decide, by show 1 < 4; decide⟩ (by decide)
      repeat' (first | infer_instance | fail)
      refine s_reprQ z2 ?_
      rw [shown_two]
      repeat' (first | infer_instance | fail)
      exact ⟨_, _, (by repeat' (first | exact Take.here | exact Spl.nil | apply Spl.cons | apply Take.there | fail)), k x3 y3 z3 W3⟩
    · repeat' (first | infer_instance | fail)
      refine ev_lst ?_
      repeat' (first | infer_instance | fail)
      refine ⟨by show 1 ≤ sizeLine; decide, fun q1 => ?_⟩
      repeat' (first | infer_instance | fail)
      refine s_rep1 mem_last (by omega) (by omega) fun q => ?_
      rw [Int.toNat_natCast]
      repeat' (first | infer_instance | fail)
      refine rn_spl (Θ' := [(a, wl x3 y3 z3), (q, .lst (List.replicate O (.int 0)))]) (by repeat' (first | exact Take.here | exact Spl.nil | apply Spl.cons | apply Take.there | fail)) ?_
      refine x_forR (fun i Γ' Θ' => ∃ y5 y6, Γ' = [some (.ref a), some (.int (M : Int)), some (.int (O : Int)), some (mda (ringM M O)), some (.ref q), y5, y6, none, none] ∧ Θ' = [(a, wl x3 y3 z3), (q, .lst ((wts M O i).map Da.int))]) ?_
      repeat' (first | infer_instance | fail)
      refine ⟨by omega, ⟨_, _, rfl, by rw [wts_zero, List.map_replicate]⟩, ?_, ?_⟩
      · rintro i Γ' Θ' hi ⟨y5, y6, rfl, rfl⟩
        have e1 : (i : Int) % (O : Int) = ((i % O : Nat) : Int) := by rw [Int.natCast_emod]
        have hm : i % O < O := Nat.mod_lt _ hO
        have hg : ((wts M O i).map Da.int)[i % O]? = some (.int ((wts M O i).getD (i % O) 0)) := by
          rw [List.getElem?_map, List.getD_eq_getElem?_getD, List.getElem?_eq_getElem (by rw [wts_len]; exact hm)]; rfl
        have c1 : CPow 1 ((M : Int) - 1 - (i : Int)) := ⟨by omega, by omega, by decide⟩
        have e2 : (1 : Int) * 2 ^ ((M : Int) - 1 - (i : Int)).toNat = 2 ^ (M - 1 - i) := by
          rw [Int.one_mul, show ((M : Int) - 1 - (i : Int)).toNat = M - 1 - i by omega]
        repeat' (first | infer_instance | fail)
        rw [e1]
        repeat' (first | infer_instance | fail)
        refine s_ixL (.tail _ (.head _)) (atI_nat hg) ?_
        repeat' (first | infer_instance | fail)
        rw [e2]
        refine tg_setL (ev_var rfl (ev_var rfl ⟨q, _, _, i % O, _, rfl, rfl, .there .here, by rw [List.length_map, wts_len]; exact ixN_nat hm, ?_⟩))
        exact fg_all ⟨_, _, rfl, by rw [wts_succ hO, List.map_set]⟩
      · rintro Γ' Θ' ⟨y5, y6, rfl, rfl⟩
        have c2 : CPow 1 (M : Int) := ⟨by omega, by omega, by decide⟩
        have e3 : (1 : Int) * 2 ^ (M : Int).toNat - 1 = 2 ^ M - 1 := by rw [Int.one_mul, Int.toNat_natCast]
        have p2 : (2 : Int) ^ M - 1 = ((2 ^ M - 1 : Nat) : Int) := by
          have := Nat.one_le_two_pow (n := M)
          rw [Int.natCast_sub this]
          simp
        have hp : 0 < 2 ^ M - 1 := by
          have := Nat.pow_le_pow_right (show 0 < 2 by decide) (show 1 ≤ M by omega)
          omega
        have bp : Bd 110 ((2 : Int) ^ M - 1) := by
          rw [p2]
          have := Nat.pow_le_pow_right (show 0 < 2 by decide) (show M ≤ 109 by omega)
          have h109 : 2 ^ 109 < 2 ^ 110 := by decide
          unfold Bd
          omega
        repeat' (first | infer_instance | fail)
        refine lc_L (fun d => match d with | .int w => frac (mkRat w (2 ^ M - 1)) | d => d) (into_name (by decide)) ?_
        repeat' (first | infer_instance | fail)
        refine ⟨q, _, rfl, .tail _ (.head _), by rw [List.length_map, wts_len]; exact Nat.le_trans (show O ≤ 3 by omega) (by decide), ?_, fun r => ?_⟩
        · intro p acc d hd
          obtain ⟨v, hv, rfl⟩ := List.mem_map.mp hd
          show Tg _ _ _ [some (.ref a), some (.int (M : Int)), some (.int (O : Int)), some (mda (ringM M O)), some (.ref q), y5, y6, none, none] _ _
          repeat' (first | infer_instance | fail)
          rw [e3]
          refine ⟨[], _, .nil, v, _, rfl, (rg.wb v hv).mono (by decide), bp.mono (by decide), by rw [p2]; omega, ?_, by rw [List.append_nil]⟩
          rw [p2, Int.toNat_natCast]
        · refine ev_lst ?_
          repeat' (first | infer_instance | fail)
          refine ⟨by show 2 ≤ sizeLine; decide, ?_⟩
          rw [zero_eq]
          repeat' (first | infer_instance | fail)
          refine ⟨by show 1 ≤ sizeLine; decide, fun r2 => ?_⟩
          refine s_cat (.tail _ (.tail _ (.head _))) (.tail _ (.tail _ (.tail _ (.head _)))) ?_ fun r3 => ?_
          · rw [List.length_map, List.length_map, wts_len]
            exact Nat.le_trans (show O + 1 ≤ 4 by omega) (by decide)
          repeat' (first | infer_instance | fail)
          refine s_tupL mem_last ?_
          have ed : Da.tup (((wts M O M).map Da.int).map (fun d => match d with | .int w => frac (mkRat w (2 ^ M - 1)) | d => d) ++ [frac 0]) = shD (dueL M O) := by
            unfold shD dueL
            rw [List.map_append, List.map_map, List.map_map]; rfl
          rw [ed]
          repeat' (first | infer_instance | fail)
          have bel : ∀ p ∈ ringM M O, p.1.below O ∧ p.2.below O := by
            intro p hp
            unfold ringM at hp
            obtain ⟨i, hi, rfl⟩ := List.mem_map.mp hp
            exact ⟨Nat.mod_lt _ hO, trivial⟩
          refine ⟨[], _, .nil, ringM M O, O, rfl, rfl, rg.mok, rg.run, hO, by omega, bel, ?_⟩
          have es : sharesD (ringM M O) O = shD (dueL M O) := by
            unfold sharesD
            rw [rg.due]; rfl
          rw [es]
          have zd : ∀ q ∈ dueL M O, Sz 1920 q := fun q hq => (rg.ds q hq).mono (by decide)
          have ld : (dueL M O).length ≤ 100 := by
            unfold dueL
            rw [List.length_append, List.length_map, wts_len]
            show O + 1 ≤ 100
            omega
          repeat' (first | infer_instance | fail)
          refine s_reprF ld zd ?_
          repeat' (first | infer_instance | fail)
          refine s_reprF ld zd ?_
          repeat' (first | infer_instance | fail)
          rw [decide_eq_true rfl]
          exact ⟨_, _, (by repeat' (first | exact Take.here | exact Spl.nil | apply Spl.cons | apply Take.there | fail)), k x3 y3 z3 W3⟩
end
end K38

end
section
/-! k38, part P: the law. -/
namespace K38
open PySem PySem.Spec PyProof.Rows L2 Sy
local macro_rules | `(tactic| infer_instance) => `(tactic| first
  | with_reducible refine x_seq ?_
  | with_reducible refine x_asg ?_
  | with_reducible refine x_ret ?_
  | with_reducible refine x_drop ?_
  | with_reducible refine x_par ?_
  | with_reducible refine x_if ?_
  | with_reducible refine ev_op ?_
  | with_reducible refine ev_un ?_
  | with_reducible refine ev_cb ?_
  | with_reducible refine ev_tup ?_
  | with_reducible refine ea_nil ?_
  | with_reducible refine ea_cons ?_
  | with_reducible refine ev_int ?_
  | with_reducible refine ev_bl ?_
  | with_reducible refine ev_str ?_
  | with_reducible refine ev_ty ?_
  | with_reducible refine ev_non ?_
  | with_reducible refine et_test ?_
  | with_reducible refine et_B ?_
  | with_reducible refine et_not ?_
  | with_reducible refine et_and ?_
  | with_reducible refine et_or ?_
  | with_reducible refine ev_cal ?_
  | with_reducible refine ev_kw ?_
  | with_reducible refine ev_if ?_
  | with_reducible refine ev_andV ?_
  | with_reducible refine ev_orV ?_
  | with_reducible refine ev_notV ?_
  | with_reducible refine ev_chain ?_
  | with_reducible refine x_drop ?_
  | with_reducible refine x_par ?_
  | refine ev_var rfl ?_
  | with_reducible refine x_next ?_
  | refine s_I (by assumption) ?_
  | refine s_isi rfl rfl ?_
  | refine s_I0 ?_
  | refine s_B0 ?_
  | refine s_neg ?_
  | refine s_eqI ?_
  | refine s_neI ?_
  | refine s_eqS ?_
  | refine s_isN ?_
  | refine s_notN ?_
  | refine s_abs ?_
  | refine s_max2 ?_
  | refine s_min2 ?_
  | refine s_int1 ?_
  | refine s_intB ?_
  | refine s_lenT ?_
  | refine s_lenF ?_
  | refine s_ixT rfl ?_
  | refine tg_name (of_decide_eq_true rfl) ?_
  | refine tg_tup rfl ?_
  | refine tgs_cons ?_
  | refine tgs_nil ?_
  | refine ⟨fun _ => ?_, fun z => nomatch (show true = false from z)⟩
  | refine ⟨fun z => (nomatch (show false = true from z)), fun _ => ?_⟩
  | with_reducible refine ⟨_, rfl, ?_⟩
  | refine ⟨_, _, rfl, of_decide_eq_true rfl, of_decide_eq_true rfl, ?_⟩
  | fail "x")
/-- what the numbers of a small machine come to -/
structure Right (m : Mach) (c : Nat) : Prop where
  run : ∀ k, k < m.length → RunOk (swapM m k).length ((swapM m k).map row0)
  toss : ∀ k, k < m.length → (look (solved (swapM m k)) .endl).isSome = false → (look (solved (swapM m k)) .toss).isSome = true
  sh : ShOk m c ((List.range m.length).map fun k => sharesL (solved (swapM m k)) c)
  co : CostOk m ((List.range m.length).map fun k => sharesL (solved (swapM m k)) c) ((List.range m.length).map fun k => costO (swapM m k))
theorem swapM_len (m : Mach) (k : Nat) : (swapM m k).length = m.length := by unfold swapM; rw [List.length_map, List.length_range]
theorem swapM_at {m : Mach} {k i : Nat} (hk : k < m.length) (hi : i < m.length) : (swapM m k)[i]? = some (swA k (m[sw k i]'(sw_lt hk hi)).1, swA k (m[sw k i]'(sw_lt hk hi)).2) := by
  unfold swapM
  rw [List.getElem?_map, List.getElem?_range hi, Option.map_some, List.getD_eq_getElem?_getD, List.getElem?_eq_getElem (sw_lt hk hi)]
  rfl
theorem swA_ok {m : Mach} {k : Nat} (hk : k < m.length) {a : Arm} (h : a.ok m.length) : (swA k a).ok m.length := by
  cases a with
  | out o => exact h
  | «at» o => exact sw_lt hk h
theorem swA_below {k c : Nat} {a : Arm} (h : a.below c) : (swA k a).below c := by cases a <;> exact h
theorem swapM_mem {m : Mach} {k : Nat} (hk : k < m.length) {p : Arm × Arm} (hp : p ∈ swapM m k) : ∃ q ∈ m, p = (swA k q.1, swA k q.2) := by
  obtain ⟨i, hi, rfl⟩ := List.mem_iff_getElem.mp hp
  rw [swapM_len] at hi
  have e := swapM_at hk hi
  rw [List.getElem?_eq_getElem (by rw [swapM_len]; exact hi)] at e
  exact ⟨_, List.getElem_mem _, Option.some.inj e⟩
theorem swapM_ok {m : Mach} {k : Nat} (hm : MOk m) (hk : k < m.length) : MOk (swapM m k) := by
  refine ⟨by rw [swapM_len]; exact hm.lo, by rw [swapM_len]; exact hm.hi, fun p hp => ?_⟩
  obtain ⟨q, hq, rfl⟩ := swapM_mem hk hp
  rw [swapM_len]
  exact ⟨swA_ok hk (hm.arms q hq).1, swA_ok hk (hm.arms q hq).2⟩
theorem swapM_below {m : Mach} {k c : Nat} (hk : k < m.length) (hb : ∀ p ∈ m, p.1.below c ∧ p.2.below c) : ∀ p ∈ swapM m k, p.1.below c ∧ p.2.below c := by
  intro p hp
  obtain ⟨q, hq, rfl⟩ := swapM_mem hk hp
  exact ⟨swA_below (hb q hq).1, swA_below (hb q hq).2⟩
theorem sw_zero (i : Nat) : sw 0 i = i := by unfold sw; split <;> omega
theorem swA_zero (a : Arm) : swA 0 a = a := by
  cases a with
  | out o => rfl
  | «at» o => show Arm.at (sw 0 o) = _; rw [sw_zero]
theorem swapM_zero (m : Mach) : swapM m 0 = m := by
  refine List.ext_getElem (swapM_len m 0) fun i h1 h2 => ?_
  have e := swapM_at (m := m) (k := 0) (i := i) (by omega) h2
  rw [List.getElem?_eq_getElem h1] at e
  rw [Option.some.inj e]
  simp only [sw_zero, swA_zero]
/-- what a toss comes to is short -/
theorem toss_sh (m : Mach) (hm : ∀ n b, ∀ k, pick m n b = .out k → k < 26) : ∀ (bs : List Bool) (n used : Nat), used + bs.length ≤ 10000 → ∃ ds, tossGo m n used bs = .tup ds ∧ plainL ds = true ∧ Sh 1000000 20 (Da.tup ds).py
  | [], n, used, h => by
    refine ⟨_, rfl, rfl, ?_⟩
    have hb : Bd 1920 (used : Int) := (bd_of (n := 20) (k := 10000) (by omega) (by rw [List.length_nil] at h; omega) (by decide)).mono (by decide)
    have := Sh.tup (B := 1921) (n := 0) (xs := [.none, .int (used : Int)]) (by
      intro x hx
      rcases List.mem_cons.mp hx with e | hx
      · subst e; exact sh_non
      · obtain rfl := List.mem_singleton.mp hx
        exact sh_int hb)
    exact this.mono (by show 3 + 2 * (1921 + 2) ≤ 1000000; decide) (by decide)
  | b :: bs, n, used, h => by
    rw [List.length_cons] at h
    rw [tossGo_cons]
    cases hp : pick m n b with
    | out k =>
      have hk := hm n b k hp
      refine ⟨_, rfl, rfl, ?_⟩
      have hb : Bd 1920 ((used : Int) + 1) := (bd_of (n := 20) (k := 10001) (by omega) (by omega) (by decide)).mono (by decide)
      have hb2 : Bd 1920 (k : Int) := (bd_of (n := 20) (k := 26) (by omega) (by omega) (by decide)).mono (by decide)
      have := Sh.tup (B := 1921) (n := 0) (xs := [.int (k : Int), .int ((used : Int) + 1)]) (by
        intro x hx
        rcases List.mem_cons.mp hx with e | hx
        · subst e; exact sh_int hb2
        · obtain rfl := List.mem_singleton.mp hx
          exact sh_int hb)
      exact this.mono (by show 3 + 2 * (1921 + 2) ≤ 1000000; decide) (by decide)
    | «at» k => exact toss_sh m hm bs k (used + 1) (by omega)
theorem pick_out {m : Mach} (hm : MOk m) (n : Nat) (b : Bool) (k : Nat) (h : pick m n b = .out k) : k < 26 := by
  unfold pick at h
  by_cases hn : n < m.length
  · rw [List.getD_eq_getElem?_getD, List.getElem?_eq_getElem hn] at h
    have hA := hm.arms _ (List.getElem_mem hn)
    cases b with
    | true =>
      have h : m[n].1 = .out k := h
      have := hA.1
      rw [h] at this
      exact this
    | false =>
      have h : m[n].2 = .out k := h
      have := hA.2
      rw [h] at this
      exact this
  · rw [List.getD_eq_getElem?_getD, List.getElem?_eq_none (by omega)] at h
    cases b <;> cases h
section
variable {F : Fx} {Θ : Th} {R : Da → Th → Prop}
theorem s_reprT {m : Mach} {bs : List Bool} (hm : MOk m) (hl : bs.length ≤ 10000) (k : ∀ x : Str, (∀ y ds, tossGo m 0 0 bs = .tup ds → y = (Da.tup ds).py.shown → y = x) → R (.str x) Θ) : SL F (rRepr F.K) [tossGo m 0 0 bs] Θ R := by
  obtain ⟨ds, e, h1, h2⟩ := toss_sh m (pick_out hm) bs 0 0 (by omega)
  rw [e]
  refine s_reprS h1 h2 (k _ fun y ds' e' ey => ?_)
  rw [e] at e'
  cases e'
  exact ey
end
def ss_law : Ss := fun ds Θ R => ∃ ns : List Int, ds = [.lis (ns.map Da.int)] ∧ Θ = [] ∧ R (.bl true) []
abbrev t_law (K : PySem.W.Frag) (w : World) (v_ZERO : V) (v_ONE : V) : TS :=
  (tSeq (tFor (iRng1 (tCons (tCB rMax2 (tCons (tC (.int 1)) (tCons (tCB rMin2 (tCons (tC (.int 2)) (tCons (tCB (rLenS K) (tCons (tVar 0) tNil)) tNil))) tNil))) tNil)) (gName 1)
    (tSeq (tAsg (tCall (toSp K w ss__law_well) [] xk0 (tCons (tVar 0) (tCons (tVar 1) tNil))) (gName 2))
    (tSeq (tPar 3 4 (tCons (tOp (rI0 fun i j => .int (i + j)) (tC (.int 1)) (tCall (toSp K w ss__law_drop) [] xk0 (tCons (tVar 2) (tCons (tOp (rIxL K) (tLst (tCons (tC (.int 2)) (tCons (tC (.int 4)) (tCons (tC (.int 26)) tNil)))) (tCall (toSp K w ss__law_drop) [] xk0 (tCons (tVar 2) (tCons (tC (.int 3)) tNil)))) tNil)))) (tCons (tOp (rI0 fun i j => .int (i + j)) (tC (.int 1)) (tCall (toSp K w ss__law_drop) [] xk0 (tCons (tVar 2) (tCons (tC (.int 8)) tNil)))) tNil)))
    (tSeq (tAsg (tTup (tCons (tCall (toSp K w ss__law_machine) [] xk0 (tCons (tVar 2) (tCons (tVar 4) (tCons (tVar 3) tNil)))) (tCons (tCB rMin2 (tCons (tC (.int 26)) (tCons (tOp (rI0 fun i j => .int (i + j)) (tVar 3) (tCall (toSp K w ss__law_drop) [] xk0 (tCons (tVar 2) (tCons (tC (.int 3)) tNil)))) tNil))) tNil))) (gTup K 2 (gCons (gName 5) (gCons (gName 6) gNil))))
    (tSeq (tIfS (tTest (tOp rEq (tCall (toSp K w ss__law_drop) [] xk0 (tCons (tVar 2) (tCons (tC (.int 9)) tNil))) (tC (.int 0)))) (tAsg (tC (.int 26)) (gName 6)) tNext)
    (tSeq (tAsg (tLc (iRng1 (tCons (tVar 4) tNil)) (gName 12) tYes (tCall (toSp K w ss_coin_shares) [] xk0 (tCons (tCall (toSp K w ss__law_from) [] xk0 (tCons (tVar 5) (tCons (tVar 12) tNil))) (tCons (tVar 6) tNil))) [12]) (gName 7))
    (tSeq (tIfS (tNot (tB (tCall (toSp K w ss__law_shares_right) [] xk0 (tCons (tVar 5) (tCons (tVar 6) (tCons (tVar 7) tNil)))))) (tRet (tC (.bl false))) tNext)
    (tSeq (tAsg (tLc (iRng1 (tCons (tVar 4) tNil)) (gName 12) tYes (tCall (toSp K w ss_coin_cost) [] xk0 (tCons (tCall (toSp K w ss__law_from) [] xk0 (tCons (tVar 5) (tCons (tVar 12) tNil))) tNil)) [12]) (gName 8))
    (tSeq (tIfS (tNot (tB (tCall (toSp K w ss__law_costs_right) [] xk0 (tCons (tVar 5) (tCons (tVar 7) (tCons (tVar 8) tNil)))))) (tRet (tC (.bl false))) tNext)
    (tSeq (tFor (iRng1 (tCons (tC (.int 4)) tNil)) (gName 9)
    (tSeq (tAsg (tCB (rTupOf K) (tCons (tLc (iRng1 (tCons (tOp (rIxL K) (tLst (tCons (tC (.int 0)) (tCons (tC (.int 1)) (tCons (tC (.int 3)) (tCons (tC (.int 13)) tNil))))) (tVar 9)) tNil)) (gName 13) tYes (tOp rEq (tCall (toSp K w ss__law_drop) [] xk0 (tCons (tVar 2) (tCons (tC (.int 2)) tNil))) (tC (.int 0))) [13]) tNil)) (gName 10))
    (tIfS (tTest (tOp rNe (tCB (rRepr K) (tCons (tCall (toSp K w ss_toss) [] xk0 (tCons (tVar 5) (tCons (tVar 10) tNil))) tNil)) (tCB (rRepr K) (tCons (tCall (toSp K w ss__law_tossed) [] xk0 (tCons (tVar 5) (tCons (tVar 10) tNil))) tNil)))) (tRet (tC (.bl false))) tNext)))
    (tSeq (tIfS (tOr (tTest (tOp rNe (tCB (rRepr K) (tCons (tKw (toSp K w ss_coin_shares) 2 [1, 0] (tCons (tVar 6) (tCons (tVar 5) tNil))) tNil)) (tCB (rRepr K) (tCons (tOp (rIxL K) (tVar 7) (tC (.int 0))) tNil)))) (tTest (tOp (rNeD K) (tKw (toSp K w ss_coin_cost) 1 [0] (tCons (tVar 5) tNil)) (tOp (rIxL K) (tVar 8) (tC (.int 0)))))) (tRet (tC (.bl false))) tNext)
    (tSeq (tIfS (tAnd (tTest (tOp rEq (tVar 1) (tC (.int 0)))) (tAnd (tTest (tOp rEq (tCall (toSp K w ss__law_drop) [] xk0 (tCons (tVar 2) (tCons (tC (.int 8)) tNil))) (tC (.int 0)))) (tNot (tB (tCall (toSp K w ss__law_chain_right) [] xk0 (tCons (tVar 2) tNil)))))) (tRet (tC (.bl false))) tNext)
    (tIfS (tTest (tOp rEq (tCall (toSp K w ss__law_drop) [] xk0 (tCons (tVar 2) (tCons (tC (.int 4)) tNil))) (tC (.int 0)))) (tSeq (tAsg (tTup (tCons (tCall (toSp K w ss__law_great) [] xk0 (tCons (tVar 2) tNil)) (tCons (tCall (toSp K w ss__law_drop) [] xk0 (tCons (tVar 2) (tCons (tC (.int 3)) tNil))) tNil))) (gTup K 2 (gCons (gName 5) (gCons (gName 11) gNil))))
    (tSeq (tAsg (tCB (rTupOf K) (tCons (tLc (iRng1 (tCons (tC (.int 1000)) tNil)) (gName 13) tYes (tOrV (tOp rEq (tVar 11) (tC (.int 0))) (tAndV (tOp rEq (tVar 11) (tC (.int 1))) (tOp rEq (tOp (rI (fun _ j => 0 < j) fun i j => .int (i % j)) (tCB rInt1 (tCons (tVar 13) tNil)) (tC (.int 3))) (tC (.int 0))))) [13]) tNil)) (gName 10))
    (tIfS (tTest (tOp rNe (tCB (rRepr K) (tCons (tKw (toSp K w ss_toss) 2 [1, 0] (tCons (tVar 10) (tCons (tVar 5) tNil))) tNil)) (tCB (rRepr K) (tCons (tCall (toSp K w ss__law_tossed) [] xk0 (tCons (tVar 5) (tCons (tVar 10) tNil))) tNil)))) (tRet (tC (.bl false))) tNext))) tNext)))))))))))))
    (tRet (tC (.bl true))))
section
variable {P : Program} {w : World} {K : PySem.W.Frag} {mg : Str → Option Value} {base : Heap} {v_ZERO v_ONE : V}
theorem p_law (T : Txt mg v_ZERO v_ONE)
    (C__law_chain_right : Cal P w K mg base 8 "_law_chain_right" ["_law_well_here"] kb__law_chain_right ss__law_chain_right)
    (C__law_costs_right : Cal P w K mg base 3 "_law_costs_right" ["_law_machine_here", "_law_shares", "_law_costs"] kb__law_costs_right ss__law_costs_right)
    (C__law_drop : Cal P w K mg base 1 "_law_drop" ["_law_well_here", "_law_bound"] kb__law_drop ss__law_drop)
    (C__law_from : Cal P w K mg base 1 "_law_from" ["_law_machine_here", "_law_node"] kb__law_from ss__law_from)
    (C__law_great : Cal P w K mg base 2 "_law_great" ["_law_well_here"] kb__law_great ss__law_great)
    (C__law_machine : Cal P w K mg base 2 "_law_machine" ["_law_well_here", "_law_many", "_law_count_here"] kb__law_machine ss__law_machine)
    (C__law_shares_right : Cal P w K mg base 3 "_law_shares_right" ["_law_machine_here", "_law_count_here", "_law_shares"] kb__law_shares_right ss__law_shares_right)
    (C__law_tossed : Cal P w K mg base 1 "_law_tossed" ["_law_machine_here", "_law_tosses_here"] kb__law_tossed ss__law_tossed)
    (C__law_well : Cal P w K mg base 1 "_law_well" ["_law_script", "_law_index"] kb__law_well ss__law_well)
    (C_coin_cost : Cal P w K mg base 7 "coin_cost" ["machine"] kb_coin_cost ss_coin_cost)
    (C_coin_shares : Cal P w K mg base 7 "coin_shares" ["machine", "count"] kb_coin_shares ss_coin_shares)
    (C_toss : Cal P w K mg base 5 "toss" ["machine", "tosses"] kb_toss ss_toss)
    (fa : Addr) (cdv : Value) (A : Around) (outer : List Env) (s : Shared) (H : Hp) (E : XK) (hgd : A.guards = some []) (hr : Room 8 (A.deeper (envOfC "law" (defScope s_law) s.heap.objs.size fa cdv))) :
    PSs (cxOf CX0 P w K mg base N_law "law" (defScope s_law) fa cdv A outer s H E).nox (defBody s_law) (t_law K w v_ZERO v_ONE) :=
  (pss_cons (ps_for PassesOwn.never rfl (pi_range1 (by rfl) T.b_range (pa_cons (pe_callB (call_max2 rfl) (by rfl) T.b_max (by decide +kernel) (pa_cons pe_int (pa_cons (pe_callB (call_min2 rfl) (by rfl) T.b_min (by decide +kernel) (pa_cons pe_int (pa_cons (pe_callB call_len_seq (by rfl) T.b_len (by decide +kernel) (pa_cons (pv 0) pa_nil)) pa_nil))) pa_nil))) pa_nil)) (pg_name (i := 1) sc_law.nd rfl (by first | exact Or.inl rfl | exact Or.inr rfl))
    (pss_cons (ps_set (i := 2) sc_law.nd rfl (by first | exact Or.inl rfl | exact Or.inr rfl) (pe_cal C__law_well hgd (hr.mono (by decide)) (by rfl) (pa_cons (pv 0) (pa_cons (pv 1) pa_nil))))
    (pss_cons (ps_par (i := 3) (j := 4) rfl sc_law.nd rfl rfl (by decide) rfl rfl (pa_cons (pe_op op_add pe_int (pe_cal C__law_drop hgd (hr.mono (by decide)) (by rfl) (pa_cons (pv 2) (pa_cons (pe_ix ix_list (pe_lst (pa_cons pe_int (pa_cons pe_int (pa_cons pe_int pa_nil)))) (pe_cal C__law_drop hgd (hr.mono (by decide)) (by rfl) (pa_cons (pv 2) (pa_cons pe_int pa_nil))) (fun _ _ => rfl)) pa_nil)))) (pa_cons (pe_op op_add pe_int (pe_cal C__law_drop hgd (hr.mono (by decide)) (by rfl) (pa_cons (pv 2) (pa_cons pe_int pa_nil)))) pa_nil)) (by rfl))
    (pss_cons (ps_asg (pe_tup (pa_cons (pe_cal C__law_machine hgd (hr.mono (by decide)) (by rfl) (pa_cons (pv 2) (pa_cons (pv 4) (pa_cons (pv 3) pa_nil)))) (pa_cons (pe_callB (call_min2 rfl) (by rfl) T.b_min (by decide +kernel) (pa_cons pe_int (pa_cons (pe_op op_add (pv 3) (pe_cal C__law_drop hgd (hr.mono (by decide)) (by rfl) (pa_cons (pv 2) (pa_cons pe_int pa_nil)))) pa_nil))) pa_nil))) (pg_tup rfl (pgs_cons (pg_name (i := 5) sc_law.nd rfl (by first | exact Or.inl rfl | exact Or.inr rfl)) (pgs_cons (pg_name (i := 6) sc_law.nd rfl (by first | exact Or.inl rfl | exact Or.inr rfl)) pgs_nil))))
    (pss_cons (ps_if (pt_cmpR op_eq (pe_cal C__law_drop hgd (hr.mono (by decide)) (by rfl) (pa_cons (pv 2) (pa_cons pe_int pa_nil))) pe_int (nomark _)) (pss_one (ps_set (i := 6) sc_law.nd rfl (by first | exact Or.inl rfl | exact Or.inr rfl) pe_int)) pss_nil)
    (pss_cons (ps_setLc (i := 7) (own := [("_law_node", 12)]) (g := (gName 12)) (tt := tYes) rfl sc_law.nd rfl rfl (sw_true rfl rfl rfl (by decide +kernel)) (pi_range1 (by rfl) T.b_range (pa_cons (pv 4) pa_nil)) (blkOk_by (N := N_law) (sc := defScope s_law) (by decide +kernel)) (fun _ _ _ _ _ => (pg_name (i := 12) sc_law.nd rfl (by first | exact Or.inl rfl | exact Or.inr rfl))) (fun _ _ _ _ _ => pts_nil) (fun _ _ _ _ _ => (pe_cal C_coin_shares hgd (hr.mono (by decide)) (by rfl) (pa_cons (pe_cal C__law_from hgd (hr.mono (by decide)) (by rfl) (pa_cons (pv 5) (pa_cons (pv 12) pa_nil))) (pa_cons (pv 6) pa_nil)))))
    (pss_cons (ps_if (pt_not (pt_val (pe_cal C__law_shares_right hgd (hr.mono (by decide)) (by rfl) (pa_cons (pv 5) (pa_cons (pv 6) (pa_cons (pv 7) pa_nil)))))) (pss_one (ps_ret pe_bl)) pss_nil)
    (pss_cons (ps_setLc (i := 8) (own := [("_law_node", 12)]) (g := (gName 12)) (tt := tYes) rfl sc_law.nd rfl rfl (sw_true rfl rfl rfl (by decide +kernel)) (pi_range1 (by rfl) T.b_range (pa_cons (pv 4) pa_nil)) (blkOk_by (N := N_law) (sc := defScope s_law) (by decide +kernel)) (fun _ _ _ _ _ => (pg_name (i := 12) sc_law.nd rfl (by first | exact Or.inl rfl | exact Or.inr rfl))) (fun _ _ _ _ _ => pts_nil) (fun _ _ _ _ _ => (pe_cal C_coin_cost hgd (hr.mono (by decide)) (by rfl) (pa_cons (pe_cal C__law_from hgd (hr.mono (by decide)) (by rfl) (pa_cons (pv 5) (pa_cons (pv 12) pa_nil))) pa_nil))))
    (pss_cons (ps_if (pt_not (pt_val (pe_cal C__law_costs_right hgd (hr.mono (by decide)) (by rfl) (pa_cons (pv 5) (pa_cons (pv 7) (pa_cons (pv 8) pa_nil)))))) (pss_one (ps_ret pe_bl)) pss_nil)
    (pss_cons (ps_for PassesOwn.never rfl (pi_range1 (by rfl) T.b_range (pa_cons pe_int pa_nil)) (pg_name (i := 9) sc_law.nd rfl (by first | exact Or.inl rfl | exact Or.inr rfl))
    (pss_cons (ps_set (i := 10) sc_law.nd rfl (by first | exact Or.inl rfl | exact Or.inr rfl) (pe_callTy call_tuple_of (by rfl) T.b_tuple (by decide +kernel) (pa_cons (pe_lc (own := [("_law_place", 13)]) (g := (gName 13)) (tt := tYes) rfl sc_law.nd (pi_range1 (by rfl) T.b_range (pa_cons (pe_ix ix_list (pe_lst (pa_cons pe_int (pa_cons pe_int (pa_cons pe_int (pa_cons pe_int pa_nil))))) (pv 9) (fun _ _ => rfl)) pa_nil)) (blkOk_by (N := N_law) (sc := defScope s_law) (by decide +kernel)) (fun _ _ _ _ _ => (pg_name (i := 13) sc_law.nd rfl (by first | exact Or.inl rfl | exact Or.inr rfl))) (fun _ _ _ _ _ => pts_nil) (fun _ _ _ _ _ => (pe_cmpR op_eq (pe_cal C__law_drop hgd (hr.mono (by decide)) (by rfl) (pa_cons (pv 2) (pa_cons pe_int pa_nil))) pe_int (nomark _)))) pa_nil)))
    (pss_one (ps_if (pt_cmpR op_ne (pe_callB (call_repr hgd hr.units) (by rfl) T.b_repr (by decide +kernel) (pa_cons (pe_cal C_toss hgd (hr.mono (by decide)) (by rfl) (pa_cons (pv 5) (pa_cons (pv 10) pa_nil))) pa_nil)) (pe_callB (call_repr hgd hr.units) (by rfl) T.b_repr (by decide +kernel) (pa_cons (pe_cal C__law_tossed hgd (hr.mono (by decide)) (by rfl) (pa_cons (pv 5) (pa_cons (pv 10) pa_nil))) pa_nil)) (nomark _)) (pss_one (ps_ret pe_bl)) pss_nil))))
    (pss_cons (ps_if (PW.pt (pw_or (pt_cmpR op_ne (pe_callB (call_repr hgd hr.units) (by rfl) T.b_repr (by decide +kernel) (pa_cons (pe_calK (ks := ["count", "machine"]) (gp := [1, 0]) C_coin_shares (by decide) hgd (hr.mono (by decide)) (by rfl) (pk_cons (pv 6) (pk_cons (pv 5) pk_nil))) pa_nil)) (pe_callB (call_repr hgd hr.units) (by rfl) T.b_repr (by decide +kernel) (pa_cons (pe_ix ix_list (pv 7) pe_int (fun _ _ => rfl)) pa_nil)) (nomark _)) (pw_or1 (pt_cmpR (op_neD hr.units) (pe_calK (ks := ["machine"]) (gp := [0]) C_coin_cost (by decide) hgd (hr.mono (by decide)) (by rfl) (pk_cons (pv 5) pk_nil)) (pe_ix ix_list (pv 8) pe_int (fun _ _ => rfl)) (nomark _))))) (pss_one (ps_ret pe_bl)) pss_nil)
    (pss_cons (ps_if (PW.pt (pw_and (pt_cmpR op_eq (pv 1) pe_int (nomark _)) (pw_and (pt_cmpR op_eq (pe_cal C__law_drop hgd (hr.mono (by decide)) (by rfl) (pa_cons (pv 2) (pa_cons pe_int pa_nil))) pe_int (nomark _)) (pw_and1 (pt_not (pt_val (pe_cal C__law_chain_right hgd (hr.mono (by decide)) (by rfl) (pa_cons (pv 2) pa_nil)))))))) (pss_one (ps_ret pe_bl)) pss_nil)
    (pss_one (ps_if (pt_cmpR op_eq (pe_cal C__law_drop hgd (hr.mono (by decide)) (by rfl) (pa_cons (pv 2) (pa_cons pe_int pa_nil))) pe_int (nomark _)) (pss_cons (ps_asg (pe_tup (pa_cons (pe_cal C__law_great hgd (hr.mono (by decide)) (by rfl) (pa_cons (pv 2) pa_nil)) (pa_cons (pe_cal C__law_drop hgd (hr.mono (by decide)) (by rfl) (pa_cons (pv 2) (pa_cons pe_int pa_nil))) pa_nil))) (pg_tup rfl (pgs_cons (pg_name (i := 5) sc_law.nd rfl (by first | exact Or.inl rfl | exact Or.inr rfl)) (pgs_cons (pg_name (i := 11) sc_law.nd rfl (by first | exact Or.inl rfl | exact Or.inr rfl)) pgs_nil))))
    (pss_cons (ps_set (i := 10) sc_law.nd rfl (by first | exact Or.inl rfl | exact Or.inr rfl) (pe_callTy call_tuple_of (by rfl) T.b_tuple (by decide +kernel) (pa_cons (pe_lc (own := [("_law_place", 13)]) (g := (gName 13)) (tt := tYes) rfl sc_law.nd (pi_range1 (by rfl) T.b_range (pa_cons pe_int pa_nil)) (blkOk_by (N := N_law) (sc := defScope s_law) (by decide +kernel)) (fun _ _ _ _ _ => (pg_name (i := 13) sc_law.nd rfl (by first | exact Or.inl rfl | exact Or.inr rfl))) (fun _ _ _ _ _ => pts_nil) (fun _ _ _ _ _ => (pe_or (pe_cmpR op_eq (pv 11) pe_int (nomark _)) (pe_one (pe_and (pe_cmpR op_eq (pv 11) pe_int (nomark _)) (pe_one (pe_cmpR op_eq (pe_op op_mod (pe_callTy call_int1 (by rfl) T.b_int (by decide +kernel) (pa_cons (pv 13) pa_nil)) pe_int) pe_int (nomark _)))))))) pa_nil)))
    (pss_one (ps_if (pt_cmpR op_ne (pe_callB (call_repr hgd hr.units) (by rfl) T.b_repr (by decide +kernel) (pa_cons (pe_calK (ks := ["tosses", "machine"]) (gp := [1, 0]) C_toss (by decide) hgd (hr.mono (by decide)) (by rfl) (pk_cons (pv 10) (pk_cons (pv 5) pk_nil))) pa_nil)) (pe_callB (call_repr hgd hr.units) (by rfl) T.b_repr (by decide +kernel) (pa_cons (pe_cal C__law_tossed hgd (hr.mono (by decide)) (by rfl) (pa_cons (pv 5) (pa_cons (pv 10) pa_nil))) pa_nil)) (nomark _)) (pss_one (ps_ret pe_bl)) pss_nil)))) pss_nil))))))))))))))
    (pss_one (ps_ret pe_bl)))
end
section
variable {P : Program} {w : World} {K : PySem.W.Frag} {mg : Str → Option Value} {base : Heap} {v_ZERO v_ONE : V}
theorem ok_law {f : Addr} {fd : FuncData} (hR : ∀ m c, MOk m → m.length ≤ 8 → 1 ≤ c → c ≤ 26 → (∀ p ∈ m, p.1.below c ∧ p.2.below c) → Right m c) (F : Fun K "law" "law" s_law f fd) (T : Txt mg v_ZERO v_ONE)
    (C__law_chain_right : Cal P w K mg base 8 "_law_chain_right" ["_law_well_here"] kb__law_chain_right ss__law_chain_right)
    (C__law_costs_right : Cal P w K mg base 3 "_law_costs_right" ["_law_machine_here", "_law_shares", "_law_costs"] kb__law_costs_right ss__law_costs_right)
    (C__law_drop : Cal P w K mg base 1 "_law_drop" ["_law_well_here", "_law_bound"] kb__law_drop ss__law_drop)
    (C__law_from : Cal P w K mg base 1 "_law_from" ["_law_machine_here", "_law_node"] kb__law_from ss__law_from)
    (C__law_great : Cal P w K mg base 2 "_law_great" ["_law_well_here"] kb__law_great ss__law_great)
    (C__law_machine : Cal P w K mg base 2 "_law_machine" ["_law_well_here", "_law_many", "_law_count_here"] kb__law_machine ss__law_machine)
    (C__law_shares_right : Cal P w K mg base 3 "_law_shares_right" ["_law_machine_here", "_law_count_here", "_law_shares"] kb__law_shares_right ss__law_shares_right)
    (C__law_tossed : Cal P w K mg base 1 "_law_tossed" ["_law_machine_here", "_law_tosses_here"] kb__law_tossed ss__law_tossed)
    (C__law_well : Cal P w K mg base 1 "_law_well" ["_law_script", "_law_index"] kb__law_well ss__law_well)
    (C_coin_cost : Cal P w K mg base 7 "coin_cost" ["machine"] kb_coin_cost ss_coin_cost)
    (C_coin_shares : Cal P w K mg base 7 "coin_shares" ["machine", "count"] kb_coin_shares ss_coin_shares)
    (C_toss : Cal P w K mg base 5 "toss" ["machine", "tosses"] kb_toss ss_toss) : GnOk P w K mg base CX0 9 f fd ["_law_script"] (toSp K w ss_law) :=
  sy_okX F sc_law (fun ds Θ R ⟨_, e, _⟩ => by rw [e]; rfl) (by decide) (fun cdv A outer s H E hg hr => p_law T C__law_chain_right C__law_costs_right C__law_drop C__law_from C__law_great C__law_machine C__law_shares_right C__law_tossed C__law_well C_coin_cost C_coin_shares C_toss f cdv A outer s H E hg hr) fun H ds Θ R ⟨ns, e, e2, k⟩ => by
    subst e; subst e2
    show Rn _ _ [some (.lis (ns.map Da.int)), none, none, none, none, none, none, none, none, none, none, none, none, none] _ _
    repeat' (first | infer_instance | fail)
    refine x_forR (fun i Γ' Θ' => ∃ y1 y2 y3 y4 y5 y6 y7 y8 y9 y10 y11, Γ' = [some (.lis (ns.map Da.int)), y1, y2, y3, y4, y5, y6, y7, y8, y9, y10, y11, none, none] ∧ Θ' = []) ?_
    repeat' (first | infer_instance | fail)
    rw [List.length_map]
    obtain ⟨N, eN, hN⟩ : ∃ N : Nat, (if (if (ns.length : Int) < 2 then (ns.length : Int) else 2) > 1 then (if (ns.length : Int) < 2 then (ns.length : Int) else 2) else 1) = (N : Int) ∧ N ≤ 2 := by
      by_cases h : ns.length < 2
      · exact ⟨1, by rw [if_pos (show (ns.length : Int) < 2 by omega)]; split <;> omega, by decide⟩
      · exact ⟨2, by rw [if_neg (show ¬ (ns.length : Int) < 2 by omega)]; rfl, by decide⟩
    rw [eN]
    repeat' (first | infer_instance | fail)
    refine ⟨by omega, ⟨_, _, _, _, _, _, _, _, _, _, _, rfl, rfl⟩, ?_, ?_⟩
    · rintro i Γ' Θ' hi ⟨y1, y2, y3, y4, y5, y6, y7, y8, y9, y10, y11, rfl, rfl⟩
      repeat' (first | infer_instance | fail)
      refine ⟨[], _, .nil, ns, i, rfl, by omega, rfl, fun a x0 y0 z0 W0 => ?_⟩
      repeat' (first | infer_instance | fail)
      refine ev_lst ?_
      repeat' (first | infer_instance | fail)
      refine ⟨by show 3 ≤ sizeLine; decide, fun t => ?_⟩
      repeat' (first | infer_instance | fail)
      refine ⟨[(a, wl x0 y0 z0)], _, (by repeat' (first | exact Take.here | exact Spl.nil | apply Spl.cons | apply Take.there | fail)), a, x0, y0, z0, 0, 3, rfl, rfl, W0, by decide, by decide, by decide, fun d1 x1 y1' z1 hd1 W1 => ?_⟩
      obtain ⟨b, eb, b0, b26⟩ : ∃ b : Nat, [Da.int 2, .int 4, .int 26][d1]? = some (.int (b : Int)) ∧ 0 < b ∧ b ≤ 26 := by
        match d1, hd1 with
        | 0, _ => exact ⟨2, rfl, by decide, by decide⟩
        | 1, _ => exact ⟨4, rfl, by decide, by decide⟩
        | 2, _ => exact ⟨26, rfl, by decide, by decide⟩
      refine s_ixL (.head _) (atI_nat eb) ?_
      repeat' (first | infer_instance | fail)
      refine ⟨[(a, wl x1 y1' z1)], _, (by repeat' (first | exact Take.here | exact Spl.nil | apply Spl.cons | apply Take.there | fail)), a, x1, y1', z1, 1, b, rfl, rfl, W1, by decide, b0, by omega, fun d2 x2 y2' z2 hd2 W2 => ?_⟩
      repeat' (first | infer_instance | fail)
      refine ⟨[(a, wl x2 y2' z2)], _, (by repeat' (first | exact Take.here | exact Spl.nil | apply Spl.cons | apply Take.there | fail)), a, x2, y2', z2, 2, 8, rfl, rfl, W2, by decide, by decide, by decide, fun d3 x3 y3' z3 hd3 W3 => ?_⟩
      have e1 : (1 : Int) + (d2 : Int) = ((1 + d2 : Nat) : Int) := by omega
      have e2 : (1 : Int) + (d3 : Int) = ((1 + d3 : Nat) : Int) := by omega
      rw [e1]
      repeat' (first | infer_instance | fail)
      rw [e2]
      have hM1 : 1 ≤ 1 + d3 := by omega
      have hM8 : 1 + d3 ≤ 8 := by omega
      have hL1 : 1 ≤ 1 + d2 := by omega
      have hL26 : 1 + d2 ≤ 26 := by omega
      generalize 1 + d3 = M at *
      generalize 1 + d2 = L at *
      repeat' (first | infer_instance | fail)
      refine ⟨[(a, wl x3 y3' z3)], _, (by repeat' (first | exact Take.here | exact Spl.nil | apply Spl.cons | apply Take.there | fail)), a, x3, y3', z3, 3, M, L, rfl, rfl, W3, by decide, hM1, hM8, hL1, hL26, fun m x4 y4' z4 hm hml hmb W4 => ?_⟩
      repeat' (first | infer_instance | fail)
      refine ⟨[(a, wl x4 y4' z4)], _, (by repeat' (first | exact Take.here | exact Spl.nil | apply Spl.cons | apply Take.there | fail)), a, x4, y4', z4, _, 3, rfl, rfl, W4, by decide, by decide, by decide, fun d4 x5 y5' z5 hd4 W5 => ?_⟩
      repeat' (first | infer_instance | fail)
      obtain ⟨c0, ec0, hc0, hc26⟩ : ∃ c : Nat, (if (L : Int) + (d4 : Int) < 26 then (L : Int) + (d4 : Int) else 26) = (c : Int) ∧ L ≤ c ∧ c ≤ 26 := by
        by_cases h : L + d4 < 26
        · exact ⟨L + d4, by rw [if_pos (show (L : Int) + (d4 : Int) < 26 by omega)]; omega, by omega, by omega⟩
        · exact ⟨26, by rw [if_neg (show ¬ (L : Int) + (d4 : Int) < 26 by omega)]; rfl, by omega, by omega⟩
      rw [ec0]
      refine ⟨by show 2 ≤ sizeLine; decide, ?_⟩
      refine tg_tup rfl (tgs_cons (tg_name (of_decide_eq_true rfl) (tgs_cons (tg_name (of_decide_eq_true rfl) (tgs_nil ?_)))))
      refine rn_spl (Θ' := [(a, wl x5 y5' z5)]) (by repeat' (first | exact Take.here | exact Spl.nil | apply Spl.cons | apply Take.there | fail)) ?_
      refine x_cut (fun Γ' Θ' => ∃ (c : Nat) (x y z : Int), Γ' = [some (.lis (ns.map Da.int)), some (.int (i : Int)), some (.ref a), some (.int (L : Int)), some (.int (M : Int)), some (mda m), some (.int (c : Int)), y7, y8, y9, y10, y11, none, none] ∧ Θ' = [(a, wl x y z)] ∧ L ≤ c ∧ c ≤ 26 ∧ WellOk 110 x y z) ?_ ?_
      · repeat' (first | infer_instance | fail)
        refine ⟨[(a, wl x5 y5' z5)], _, (by repeat' (first | exact Take.here | exact Spl.nil | apply Spl.cons | apply Take.there | fail)), a, x5, y5', z5, _, 9, rfl, rfl, W5, by decide, by decide, by decide, fun d5 x6 y6' z6 hd5 W6 => ?_⟩
        repeat' (first | infer_instance | fail)
        refine ⟨fun _ => ?_, fun _ => ?_⟩
        · repeat' (first | infer_instance | fail)
          exact ⟨26, x6, y6', z6, rfl, rfl, hL26, by decide, W6.mono (by decide)⟩
        · repeat' (first | infer_instance | fail)
          exact ⟨c0, x6, y6', z6, rfl, rfl, hc0, hc26, W6.mono (by decide)⟩
      rintro Γ' Θ' ⟨c, x6, y6', z6, rfl, rfl, hc, hc26, W6⟩
      have hmc : ∀ p ∈ m, p.1.below c ∧ p.2.below c := by
        have up : ∀ u : Arm, u.below L → u.below c := fun u hu => by
          cases u with
          | out o => exact Nat.lt_of_lt_of_le hu hc
          | «at» o => exact trivial
        exact fun p hp => ⟨up _ (hmb p hp).1, up _ (hmb p hp).2⟩
      have RT := hR m c hm (by omega) (by omega) hc26 hmc
      -- the shares
      refine x_seq (x_asg ?_)
      refine lc_R (fun k => shD (sharesL (solved (swapM m k)) c)) (into_name (by decide)) ?_
      repeat' (first | infer_instance | fail)
      refine ⟨by omega, ?_, fun S => ?_⟩
      · intro p acc k hk
        have hk : k < m.length := by omega
        show Tg _ _ _ [some (.lis (ns.map Da.int)), some (.int (i : Int)), some (.ref a), some (.int (L : Int)), some (.int (M : Int)), some (mda m), some (.int (c : Int)), y7, y8, y9, y10, y11, none, none] _ _
        repeat' (first | infer_instance | fail)
        refine ⟨[], _, .nil, m, k, rfl, rfl, hm, hk, ?_⟩
        repeat' (first | infer_instance | fail)
        exact ⟨[], _, .nil, swapM m k, c, rfl, rfl, swapM_ok hm hk, RT.run k hk, by omega, hc26, swapM_below hk hmc, rfl, by simp only [List.append_nil]⟩
      have es : (List.range M).map (fun k => shD (sharesL (solved (swapM m k)) c)) = ((List.range m.length).map fun k => sharesL (solved (swapM m k)) c).map shD := by rw [List.map_map, hml]; rfl
      rw [es]
      have hsh := RT.sh
      have hco := RT.co
      have hs0 : (((List.range m.length).map fun k => sharesL (solved (swapM m k)) c).map shD)[0]? = some (shD (sharesL (solved m) c)) := by
        rw [List.getElem?_map, List.getElem?_map, List.getElem?_range (by omega), Option.map_some, Option.map_some, swapM_zero]
      have hz0 : ∀ q ∈ sharesL (solved m) c, Sz 600 q := (hsh.rows (sharesL (solved m) c) (List.mem_map.mpr ⟨0, List.mem_range.mpr (by omega), by rw [swapM_zero]⟩)).2
      have hl0 : (sharesL (solved m) c).length ≤ 100 := by
        unfold sharesL
        rw [List.length_append, List.length_map, List.length_range]
        show c + 1 ≤ 100
        omega
      generalize ((List.range m.length).map fun k => sharesL (solved (swapM m k)) c) = sh at *
      repeat' (first | infer_instance | fail)
      refine ⟨[(S, .lst (sh.map shD))], _, (by repeat' (first | exact Take.here | exact Spl.nil | apply Spl.cons | apply Take.there | fail)), m, c, S, sh, rfl, rfl, hm, by omega, hc26, hmc, hsh, ?_⟩
      repeat' (first | infer_instance | fail)
      -- the costs
      refine lc_R (fun k => ofrac (costO (swapM m k))) (into_name (by decide)) ?_
      repeat' (first | infer_instance | fail)
      refine ⟨by omega, ?_, fun C => ?_⟩
      · intro p acc k hk
        have hk : k < m.length := by omega
        show Tg _ _ _ [some (.lis (ns.map Da.int)), some (.int (i : Int)), some (.ref a), some (.int (L : Int)), some (.int (M : Int)), some (mda m), some (.int (c : Int)), some (.ref S), y8, y9, y10, y11, none, none] _ _
        repeat' (first | infer_instance | fail)
        refine ⟨[], _, .nil, m, k, rfl, rfl, hm, hk, ?_⟩
        repeat' (first | infer_instance | fail)
        exact ⟨[], _, .nil, swapM m k, rfl, rfl, swapM_ok hm hk, RT.run k hk, RT.toss k hk, rfl, by simp only [List.append_nil]⟩
      have ec : (List.range M).map (fun k => ofrac (costO (swapM m k))) = ((List.range m.length).map fun k => costO (swapM m k)).map ofrac := by rw [List.map_map, hml]; rfl
      rw [ec]
      have hc0' : (((List.range m.length).map fun k => costO (swapM m k)).map ofrac)[0]? = some (ofrac (costO m)) := by
        rw [List.getElem?_map, List.getElem?_map, List.getElem?_range (by omega), Option.map_some, Option.map_some, swapM_zero]
      generalize ((List.range m.length).map fun k => costO (swapM m k)) = co at *
      repeat' (first | infer_instance | fail)
      refine ⟨[(S, .lst (sh.map shD)), (C, .lst (co.map ofrac))], _, (by repeat' (first | exact Take.here | exact Spl.nil | apply Spl.cons | apply Take.there | fail)), m, S, C, sh, co, rfl, rfl, hm, hco, ?_⟩
      repeat' (first | infer_instance | fail)
      -- four tosses
      refine rn_spl (Θ' := [(S, .lst (sh.map shD)), (C, .lst (co.map ofrac)), (a, wl x6 y6' z6)]) (by repeat' (first | exact Take.here | exact Spl.nil | apply Spl.cons | apply Take.there | fail)) ?_
      refine x_forR (fun j Γ' Θ' => ∃ y9 y10 x y z, Γ' = [some (.lis (ns.map Da.int)), some (.int (i : Int)), some (.ref a), some (.int (L : Int)), some (.int (M : Int)), some (mda m), some (.int (c : Int)), some (.ref S), some (.ref C), y9, y10, y11, none, none] ∧ Θ' = [(S, .lst (sh.map shD)), (C, .lst (co.map ofrac)), (a, wl x y z)] ∧ WellOk (110 + 20 * j) x y z) ?_
      repeat' (first | infer_instance | fail)
      refine ⟨by decide, ⟨_, _, x6, y6', z6, rfl, rfl, W6⟩, ?_, ?_⟩
      · rintro j Γ' Θ' hj ⟨y9, y10, x7, y7', z7, rfl, rfl, W7⟩
        have hj : j < (4 : Nat) := hj
        obtain ⟨B, eB, hB⟩ : ∃ b : Nat, [Da.int 0, .int 1, .int 3, .int 13][j]? = some (.int (b : Int)) ∧ b ≤ 13 := by
          match j, hj with
          | 0, _ => exact ⟨0, rfl, by decide⟩
          | 1, _ => exact ⟨1, rfl, by decide⟩
          | 2, _ => exact ⟨3, rfl, by decide⟩
          | 3, _ => exact ⟨13, rfl, by decide⟩
        repeat' (first | infer_instance | fail)
        refine ev_lc (into_name (by decide)) (ei_rng1 ?_)
        repeat' (first | infer_instance | fail)
        refine ev_lst ?_
        repeat' (first | infer_instance | fail)
        refine ⟨by show 4 ≤ sizeLine; decide, fun t => ?_⟩
        repeat' (first | infer_instance | fail)
        refine s_ixL mem_last (atI_nat eB) ?_
        repeat' (first | infer_instance | fail)
        refine ⟨by omega, by omega, fun p => ⟨fun r acc Θ' => ∃ (bs : List Bool) (x y z : Int), acc = bs.map Da.bl ∧ bs.length = r ∧ Θ' = [(S, .lst (sh.map shD)), (C, .lst (co.map ofrac)), (a, wl x y z), (t, .lst [.int 0, .int 1, .int 3, .int 13]), (p, .lst acc)] ∧ WellOk (110 + 20 * j + r) x y z, ⟨[], x7, y7', z7, rfl, rfl, rfl, W7⟩, fun _ _ _ _ _ => trivial, ?_, ?_⟩⟩
        · rintro r acc Θ' hr ⟨bs, x8, y8', z8, rfl, hbl, rfl, W8⟩
          rw [Int.toNat_natCast] at hr
          have hz : (bs.map Da.bl).length < sizeLine := by rw [List.length_map, hbl]; exact Nat.lt_of_le_of_lt (show r ≤ 13 by omega) (by decide)
          show Tg _ _ (.int (0 + (r : Int))) [some (.lis (ns.map Da.int)), some (.int (i : Int)), some (.ref a), some (.int (L : Int)), some (.int (M : Int)), some (mda m), some (.int (c : Int)), some (.ref S), some (.ref C), some (.int (j : Int)), y10, y11, none, none] _ _
          repeat' (first | infer_instance | fail)
          refine et_yes ⟨fun _ => ?_, fun z => nomatch z⟩
          repeat' (first | infer_instance | fail)
          refine ⟨[(a, wl x8 y8' z8)], _, (by repeat' (first | exact Take.here | exact Spl.nil | apply Spl.cons | apply Take.there | fail)), a, x8, y8', z8, _, 2, rfl, rfl, W8, by omega, by decide, by decide, fun d9 x9 y9' z9 hd9 W9 => ?_⟩
          repeat' (first | infer_instance | fail)
          refine ⟨_, .there (.there (.there .here)), hz, ?_⟩
          exact ⟨[(S, .lst (sh.map shD)), (C, .lst (co.map ofrac)), (a, wl x9 y9' z9), (t, .lst [.int 0, .int 1, .int 3, .int 13]), (p, .lst (bs.map Da.bl ++ [.bl (decide ((d9 : Int) = 0))]))], _, (by repeat' (first | exact Take.here | exact Spl.nil | apply Spl.cons | apply Take.there | fail)), bs ++ [decide ((d9 : Int) = 0)], x9, y9', z9, by rw [List.map_append]; rfl, by rw [List.length_append, hbl]; rfl, rfl, W9⟩
        · rintro acc Θ' ⟨bs, x8, y8', z8, rfl, hbl, rfl, W8⟩
          rw [Int.toNat_natCast] at hbl W8
          repeat' (first | infer_instance | fail)
          refine s_tupL (.tail _ (.tail _ (.tail _ (.tail _ (.head _))))) ?_
          repeat' (first | infer_instance | fail)
          refine ⟨[], _, .nil, m, bs, rfl, hm, ?_⟩
          simp only [List.append_nil]
          repeat' (first | infer_instance | fail)
          refine s_reprT hm (by omega) fun s1 hs1 => ?_
          repeat' (first | infer_instance | fail)
          refine ⟨[], _, .nil, m, bs, rfl, hm, ?_⟩
          simp only [List.append_nil]
          repeat' (first | infer_instance | fail)
          refine s_reprT hm (by omega) fun s2 hs2 => ?_
          have e12 : s1 = s2 := by
            obtain ⟨ds, e, _, _⟩ := toss_sh m (pick_out hm) bs 0 0 (by omega)
            exact (hs1 _ ds e rfl).symm.trans (hs2 _ ds e rfl)
          refine s_neS ?_
          rw [decide_eq_true e12]
          repeat' (first | infer_instance | fail)
          exact ⟨_, [(S, .lst (sh.map shD)), (C, .lst (co.map ofrac)), (a, wl x8 y8' z8)], _, .refl _, (by repeat' (first | exact Take.here | exact Spl.nil | apply Spl.cons | apply Take.there | fail)), _, _, x8, y8', z8, rfl, rfl, W8.mono (by omega)⟩
      rintro Γ' Θ' ⟨y9, y10, x7, y7', z7, rfl, rfl, W7⟩
      have W7 : WellOk (110 + 20 * 4) x7 y7' z7 := W7
      have run0 : RunOk m.length (m.map row0) := by
        have := RT.run 0 (by omega)
        rw [swapM_zero] at this
        exact this
      have toss0 : (look (solved m) .endl).isSome = false → (look (solved m) .toss).isSome = true := by
        have := RT.toss 0 (by omega)
        rw [swapM_zero] at this
        exact this
      repeat' (first | infer_instance | fail)
      refine ⟨rfl, [], _, .nil, m, c, rfl, rfl, hm, run0, by omega, hc26, hmc, ?_⟩
      simp only [List.append_nil]
      rw [show sharesD m c = shD (sharesL (solved m) c) from rfl]
      repeat' (first | infer_instance | fail)
      refine s_reprF hl0 (fun q hq => (hz0 q hq).mono (by decide)) ?_
      repeat' (first | infer_instance | fail)
      refine s_ixL (.head _) (atI_nat (j := 0) hs0) ?_
      repeat' (first | infer_instance | fail)
      refine s_reprF hl0 (fun q hq => (hz0 q hq).mono (by decide)) ?_
      refine s_neS ?_
      rw [decide_eq_true rfl]
      repeat' (first | infer_instance | fail)
      refine ⟨rfl, [], _, .nil, m, rfl, rfl, hm, run0, toss0, ?_⟩
      simp only [List.append_nil]
      repeat' (first | infer_instance | fail)
      refine s_ixL (.tail _ (.head _)) (atI_nat (j := 0) hc0') ?_
      have hpl : (ofrac (costO m)).plain = true := by cases costO m <;> rfl
      have hsp : SeqAt.shaped (ofrac (costO m)).py = true := by cases costO m <;> rfl
      have hev : PyData.eqv (ofrac (costO m)).py (ofrac (costO m)).py = true := by
        cases costO m with
        | none => rfl
        | some q => rw [show ofrac (some q) = frac q from rfl, frac_eqv]; exact decide_eq_true rfl
      refine s_neD hpl hpl hsp hsp ?_
      rw [hev]
      refine ⟨_, rfl, fun z => (nomatch (show false = true from z)), fun _ => x_next ?_⟩
      -- the ring
      refine rn_keep (Θ' := [(a, wl x7 y7' z7)]) (Θr := [(S, .lst (sh.map shD)), (C, .lst (co.map ofrac))]) (List.perm_append_comm (l₁ := [(S, Mo.lst (sh.map shD)), (C, Mo.lst (co.map ofrac))]) (l₂ := [(a, wl x7 y7' z7)])) ?_
      refine x_cut (fun Γ' Θ' => ∃ (x y z : Int), Γ' = [some (.lis (ns.map Da.int)), some (.int (i : Int)), some (.ref a), some (.int (L : Int)), some (.int (M : Int)), some (mda m), some (.int (c : Int)), some (.ref S), some (.ref C), y9, y10, y11, none, none] ∧ Θ' = [(a, wl x y z)] ∧ WellOk 300 x y z) ?_ ?_
      · have fin : ∀ x y z, WellOk 300 x y z → ∃ (x' y' z' : Int), [some (.lis (ns.map Da.int)), some (.int (i : Int)), some (.ref a), some (.int (L : Int)), some (.int (M : Int)), some (mda m), some (.int (c : Int)), some (.ref S), some (.ref C), y9, y10, y11, none, none] = [some (.lis (ns.map Da.int)), some (.int (i : Int)), some (.ref a), some (.int (L : Int)), some (.int (M : Int)), some (mda m), some (.int (c : Int)), some (.ref S), some (.ref C), y9, y10, y11, none, none] ∧ [(a, wl x y z)] = [(a, wl x' y' z')] ∧ WellOk 300 x' y' z' := fun x y z W => ⟨x, y, z, rfl, rfl, W⟩
        repeat' (first | infer_instance | fail)
        refine ⟨fun _ => ?_, fun _ => ?_⟩
        · repeat' (first | infer_instance | fail)
          refine ⟨[(a, wl x7 y7' z7)], _, (by repeat' (first | exact Take.here | exact Spl.nil | apply Spl.cons | apply Take.there | fail)), a, x7, y7', z7, _, 8, rfl, rfl, W7, by decide, by decide, by decide, fun d8 x8 y8' z8 hd8 W8 => ?_⟩
          repeat' (first | infer_instance | fail)
          refine ⟨fun _ => ?_, fun _ => ?_⟩
          · repeat' (first | infer_instance | fail)
            refine ⟨[(a, wl x8 y8' z8)], _, (by repeat' (first | exact Take.here | exact Spl.nil | apply Spl.cons | apply Take.there | fail)), a, x8, y8', z8, _, rfl, rfl, W8, by decide, fun x9 y9' z9 W9 => ?_⟩
            repeat' (first | infer_instance | fail)
            exact fin x9 y9' z9 (W9.mono (by decide))
          · repeat' (first | infer_instance | fail)
            exact fin x8 y8' z8 (W8.mono (by decide))
        · repeat' (first | infer_instance | fail)
          exact fin x7 y7' z7 (W7.mono (by decide))
      rintro Γ' Θ' ⟨x8, y8', z8, rfl, rfl, W8⟩
      repeat' (first | infer_instance | fail)
      refine ⟨[(a, wl x8 y8' z8)], _, (by repeat' (first | exact Take.here | exact Spl.nil | apply Spl.cons | apply Take.there | fail)), a, x8, y8', z8, _, 4, rfl, rfl, W8, by decide, by decide, by decide, fun d9 x9 y9' z9 hd9 W9 => ?_⟩
      repeat' (first | infer_instance | fail)
      refine ⟨fun _ => ?_, fun _ => ?_⟩
      · repeat' (first | infer_instance | fail)
        refine ⟨[(a, wl x9 y9' z9)], _, (by repeat' (first | exact Take.here | exact Spl.nil | apply Spl.cons | apply Take.there | fail)), a, x9, y9', z9, _, rfl, rfl, W9, by decide, fun g x10 y10' z10 hg W10 => ?_⟩
        repeat' (first | infer_instance | fail)
        refine ⟨[(a, wl x10 y10' z10)], _, (by repeat' (first | exact Take.here | exact Spl.nil | apply Spl.cons | apply Take.there | fail)), a, x10, y10', z10, _, 3, rfl, rfl, W10, by decide, by decide, by decide, fun d11 x11 y11' z11 hd11 W11 => ?_⟩
        repeat' (first | infer_instance | fail)
        refine ⟨by show 2 ≤ sizeLine; decide, ?_⟩
        have p3 : (0 : Int) < 3 := by decide
        repeat' (first | infer_instance | fail)
        refine lc_R (fun r => .bl (if d11 = 0 then true else (decide ((d11 : Int) = 1) && decide ((r : Int) % 3 = 0)))) (into_name (by decide)) ?_
        repeat' (first | infer_instance | fail)
        refine ⟨by decide, ?_, fun p => ?_⟩
        · intro p acc r hr
          show Tg _ _ _ [some (.lis (ns.map Da.int)), some (.int (i : Int)), some (.ref a), some (.int (L : Int)), some (.int (M : Int)), some (mda g), some (.int (c : Int)), some (.ref S), some (.ref C), y9, y10, some (.int (d11 : Int)), none, none] _ _
          repeat' (first | infer_instance | fail)
          refine ⟨fun h => ?_, fun h => ?_⟩
          · have h0 : d11 = 0 := by have := of_decide_eq_true h; omega
            exact ⟨by rw [if_pos h0], rfl⟩
          · have h0 : d11 ≠ 0 := by have := of_decide_eq_false h; omega
            repeat' (first | infer_instance | fail)
            refine ⟨fun h1 => ?_, fun h1 => ?_⟩
            · repeat' (first | infer_instance | fail)
              exact ⟨by rw [if_neg h0, h1, Bool.true_and], rfl⟩
            · exact ⟨by rw [if_neg h0, h1, Bool.false_and], rfl⟩
        · have eb : (List.range 1000).map (fun r : Nat => Da.bl (if d11 = 0 then true else (decide ((d11 : Int) = 1) && decide ((r : Int) % 3 = 0)))) = ((List.range 1000).map fun r : Nat => (if d11 = 0 then true else (decide ((d11 : Int) = 1) && decide ((r : Int) % 3 = 0)))).map Da.bl := by rw [List.map_map]; rfl
          refine ea_nil ?_
          show SL _ _ _ ([(a, wl x11 y11' z11)] ++ [(p, .lst ((List.range 1000).map (fun r : Nat => Da.bl (if d11 = 0 then true else (decide ((d11 : Int) = 1) && decide ((r : Int) % 3 = 0))))))]) _
          rw [eb]
          have hbl : ((List.range 1000).map fun r : Nat => (if d11 = 0 then true else (decide ((d11 : Int) = 1) && decide ((r : Int) % 3 = 0)))).length ≤ 10000 := by
            rw [List.length_map, List.length_range]; decide
          generalize ((List.range 1000).map fun r : Nat => (if d11 = 0 then true else (decide ((d11 : Int) = 1) && decide ((r : Int) % 3 = 0)))) = bs at *
          refine s_tupL mem_last ?_
          repeat' (first | infer_instance | fail)
          refine ⟨rfl, [], _, .nil, g, bs, rfl, hg, ?_⟩
          simp only [List.append_nil]
          repeat' (first | infer_instance | fail)
          refine s_reprT hg hbl fun s1 hs1 => ?_
          repeat' (first | infer_instance | fail)
          refine ⟨[], _, .nil, g, bs, rfl, hg, ?_⟩
          simp only [List.append_nil]
          repeat' (first | infer_instance | fail)
          refine s_reprT hg hbl fun s2 hs2 => ?_
          have e12 : s1 = s2 := by
            obtain ⟨ds, e, _, _⟩ := toss_sh g (pick_out hg) bs 0 0 (by omega)
            exact (hs1 _ ds e rfl).symm.trans (hs2 _ ds e rfl)
          refine s_neS ?_
          rw [decide_eq_true e12]
          repeat' (first | infer_instance | fail)
          exact ⟨_, [], _, .refl _, .nil, _, _, _, _, _, _, _, _, _, _, _, rfl, rfl⟩
      · repeat' (first | infer_instance | fail)
        exact ⟨_, [], _, .refl _, .nil, _, _, _, _, _, _, _, _, _, _, _, rfl, rfl⟩
    · rintro Γ' Θ' ⟨y1, y2, y3, y4, y5, y6, y7, y8, y9, y10, y11, rfl, rfl⟩
      repeat' (first | infer_instance | fail)
      exact ft_all k
end
end K38

end
section
/-! k38, part Q: the plain law: rows under a valuation. -/
namespace K38
open PySem PySem.Spec PyProof.Rows L2 Sy
abbrev Val := Key → Rat
def ev (r : Row) (v : Val) : Rat := (r.map fun p => p.2 * v p.1).sum
theorem ev_nil (v : Val) : ev [] v = 0 := rfl
theorem ev_cons (p : Key × Rat) (r : Row) (v : Val) : ev (p :: r) v = p.2 * v p.1 + ev r v := rfl
theorem ev_append (r s : Row) (v : Val) : ev (r ++ s) v = ev r v + ev s v := by
  induction r with
  | nil => rw [List.nil_append, ev_nil]; grind
  | cons p r ih => rw [List.cons_append, ev_cons, ev_cons, ih]; grind
def keys (r : Row) : List Key := r.map (·.1)
theorem look_keys {r : Row} {k : Key} : (look r k).isSome ↔ k ∈ keys r := by
  constructor
  · intro h
    obtain ⟨q, hq⟩ := Option.isSome_iff_exists.mp h
    exact List.mem_map.mpr ⟨_, look_some hq, rfl⟩
  · intro h
    obtain ⟨p, hp, rfl⟩ := List.mem_map.mp h
    cases e : look r p.1 with
    | some q => rfl
    | none => exact absurd rfl (look_none e p hp)
theorem rget_none {r : Row} {k : Key} (h : k ∉ keys r) : rget r k = 0 := by
  unfold rget
  cases e : look r k with
  | none => rfl
  | some q => exact absurd (look_keys.mp (by rw [e]; rfl)) h
theorem rget_mem {r : Row} {k : Key} (h : k ∈ keys r) : (k, rget r k) ∈ r := by
  have := look_keys.mpr h
  unfold rget
  cases e : look r k with
  | none => rw [e] at this; cases this
  | some q => exact look_some e
theorem nd_cons {p : Key × Rat} {r : Row} (h : NDk (p :: r)) : p.1 ∉ keys r ∧ NDk r := by
  unfold NDk at h
  rw [List.map_cons, List.nodup_cons] at h
  exact h
theorem rget_cons (p : Key × Rat) (r : Row) (k : Key) : rget (p :: r) k = if p.1 = k then p.2 else rget r k := by
  unfold rget look
  rw [List.find?_cons]
  by_cases h : p.1 = k
  · rw [decide_eq_true h, if_pos h]; rfl
  · rw [decide_eq_false h, if_neg h]
theorem map_put {r : Row} {k : Key} {q : Rat} (h : k ∉ keys r) : r.map (fun p => if p.1 = k then (p.1, q) else p) = r := by
  induction r with
  | nil => rfl
  | cons p r ih =>
    have h1 : p.1 ≠ k := fun e => h (by rw [← e]; exact List.mem_cons_self)
    rw [List.map_cons, if_neg h1, ih fun z => h (List.mem_cons_of_mem _ z)]
theorem ev_map {k : Key} {q : Rat} {v : Val} : ∀ {r : Row}, NDk r → k ∈ keys r → ev (r.map fun p => if p.1 = k then (p.1, q) else p) v = ev r v + (q - rget r k) * v k
  | p :: r, nd, h => by
    obtain ⟨h1, h2⟩ := nd_cons nd
    rw [List.map_cons, rget_cons]
    by_cases e : p.1 = k
    · rw [if_pos e, if_pos e, map_put (by rw [← e]; exact h1), ev_cons, ev_cons, e]
      show q * v k + ev r v = _
      grind
    · rw [if_neg e, if_neg e, ev_cons, ev_cons, ev_map h2 (by
        rcases List.mem_cons.mp h with z | z
        · exact absurd z.symm e
        · exact z)]
      grind
theorem ev_rput {r : Row} (nd : NDk r) (k : Key) (q : Rat) (v : Val) : ev (rput r k q) v = ev r v + (q - rget r k) * v k := by
  unfold rput
  by_cases h : (look r k).isSome
  · rw [if_pos h, ev_map nd (look_keys.mp h)]
  · rw [if_neg h, ev_append, rget_none fun z => h (look_keys.mpr z), ev_cons, ev_nil]
    grind
theorem ev_putInto {s : Rat} {v : Val} : ∀ {o r : Row}, NDk r → ev (putInto r s o) v = ev r v + s * ev o v
  | [], r, nd => by
    show ev r v = _
    rw [ev_nil]; grind
  | p :: o, r, nd => by
    show ev (putInto (rput r p.1 (rget r p.1 + s * p.2)) s o) v = _
    rw [ev_putInto (rput_nd nd _ _), ev_rput nd, ev_cons]
    grind
theorem rdel_id {r : Row} {k : Key} (h : k ∉ keys r) : rdel r k = r := by
  unfold rdel
  refine List.filter_eq_self.mpr fun p hp => decide_eq_true fun e => h ?_
  rw [← e]
  exact List.mem_map.mpr ⟨p, hp, rfl⟩
theorem ev_rdel {k : Key} {v : Val} : ∀ {r : Row}, NDk r → ev (rdel r k) v = ev r v - rget r k * v k
  | [], _ => by
    show ev [] v = _
    rw [ev_nil]
    show (0 : Rat) = 0 - 0 * v k
    grind
  | p :: r, nd => by
    obtain ⟨h1, h2⟩ := nd_cons nd
    rw [rget_cons, ev_cons]
    unfold rdel
    rw [List.filter_cons]
    by_cases e : p.1 = k
    · rw [if_pos e, if_neg (by simp [e])]
      have : r.filter (fun p => decide (p.1 ≠ k)) = r := rdel_id (by rw [← e]; exact h1)
      rw [this, e]
      grind
    · rw [if_neg e, if_pos (by simp [e]), ev_cons]
      have := ev_rdel (k := k) (v := v) h2
      unfold rdel at this
      rw [this]
      grind
theorem rest_del (r : Row) (n : Nat) : rest r n = rdel r (.node n) := rfl
theorem ev_closed {r : Row} (nd : NDk r) {n : Nat} (h : rget r (.node n) ≠ 1) (v : Val) : ev (closedRow r n) v = (1 / (1 - rget r (.node n))) * (ev r v - rget r (.node n) * v (.node n)) := by
  unfold closedRow
  rw [if_neg h, ev_putInto (by simp [NDk]), rest_del, ev_rdel nd, ev_nil]
  grind
theorem ev_closed1 {r : Row} {n : Nat} (h : rget r (.node n) = 1) (v : Val) : ev (closedRow r n) v = v .endl := by
  unfold closedRow
  rw [if_pos h, ev_cons, ev_nil]
  grind
/-! ### keys -/
theorem keys_rput (r : Row) (k : Key) (q : Rat) (l : Key) : l ∈ keys (rput r k q) ↔ l = k ∨ l ∈ keys r := by
  unfold keys
  rw [rput_keys]
  by_cases h : (look r k).isSome
  · rw [if_pos h]
    constructor
    · exact .inr
    · rintro (rfl | z)
      · exact look_keys.mp h
      · exact z
  · rw [if_neg h, List.mem_append, List.mem_singleton]
    exact Or.comm
theorem keys_putInto {s : Rat} {l : Key} : ∀ {o r : Row}, l ∈ keys (putInto r s o) ↔ l ∈ keys r ∨ l ∈ keys o
  | [], r => by
    show l ∈ keys r ↔ _
    exact ⟨.inl, fun h => h.resolve_right fun z => nomatch z⟩
  | p :: o, r => by
    show l ∈ keys (putInto (rput r p.1 (rget r p.1 + s * p.2)) s o) ↔ _
    rw [keys_putInto, keys_rput]
    show _ ↔ l ∈ keys r ∨ l ∈ p.1 :: keys o
    rw [List.mem_cons]
    constructor
    · rintro ((h | h) | h)
      · exact .inr (.inl h)
      · exact .inl h
      · exact .inr (.inr h)
    · rintro (h | h | h)
      · exact .inl (.inr h)
      · exact .inl (.inl h)
      · exact .inr h
theorem keys_rdel {r : Row} {k l : Key} : l ∈ keys (rdel r k) ↔ l ≠ k ∧ l ∈ keys r := by
  unfold keys rdel
  constructor
  · intro h
    obtain ⟨p, hp, rfl⟩ := List.mem_map.mp h
    obtain ⟨h1, h2⟩ := List.mem_filter.mp hp
    exact ⟨of_decide_eq_true h2, List.mem_map.mpr ⟨p, h1, rfl⟩⟩
  · rintro ⟨h1, h2⟩
    obtain ⟨p, hp, rfl⟩ := List.mem_map.mp h2
    exact List.mem_map.mpr ⟨p, List.mem_filter.mpr ⟨hp, decide_eq_true h1⟩, rfl⟩
theorem keys_closed {r : Row} {n : Nat} (h : rget r (.node n) ≠ 1) {l : Key} : l ∈ keys (closedRow r n) ↔ l ≠ .node n ∧ l ∈ keys r := by
  unfold closedRow
  rw [if_neg h, keys_putInto, rest_del, keys_rdel]
  exact ⟨fun z => z.resolve_left (fun y => (nomatch y)), .inr⟩
theorem keys_closed1 {r : Row} {n : Nat} (h : rget r (.node n) = 1) {l : Key} : l ∈ keys (closedRow r n) ↔ l = .endl := by
  unfold closedRow
  rw [if_pos h]
  exact List.mem_singleton
/-! ### a row's sum, its signs -/
def nt : Val := fun k => if k = .toss then 0 else 1
structure RI (r : Row) : Prop where
  nd : NDk r
  pos : ∀ p ∈ r, 0 < p.2
  one : ev r nt = 1
  te : Key.toss ∈ keys r ∨ Key.endl ∈ keys r
theorem rget_nonneg {r : Row} (h : ∀ p ∈ r, 0 < p.2) (k : Key) : 0 ≤ rget r k := by
  by_cases z : k ∈ keys r
  · have := h _ (rget_mem z)
    grind
  · rw [rget_none z]; exact Rat.le_refl
theorem ev_nonneg {v : Val} (hv : ∀ k, 0 ≤ v k) : ∀ {r : Row}, (∀ p ∈ r, 0 < p.2) → 0 ≤ ev r v
  | [], _ => by rw [ev_nil]; exact Rat.le_refl
  | p :: r, h => by
    rw [ev_cons]
    have h1 := h p List.mem_cons_self
    have h2 := hv p.1
    have h3 := ev_nonneg hv (r := r) fun x hx => h x (List.mem_cons_of_mem _ hx)
    have h4 : 0 ≤ p.2 * v p.1 := Rat.mul_nonneg (by grind) h2
    grind
theorem nt_nonneg : ∀ k, 0 ≤ nt k := by
  intro k
  unfold nt
  split <;> decide
theorem pos_rdel {r : Row} {k : Key} (h : ∀ p ∈ r, 0 < p.2) : ∀ p ∈ rdel r k, 0 < p.2 := fun p hp => h p (List.mem_filter.mp hp).1
theorem le_one {r : Row} (R : RI r) {k : Key} (hk : k ≠ .toss) : rget r k ≤ 1 := by
  have h1 := ev_rdel (k := k) (v := nt) R.nd
  have h2 := ev_nonneg nt_nonneg (pos_rdel (k := k) R.pos)
  have h3 : nt k = 1 := if_neg hk
  rw [h3, R.one] at h1
  grind
/-- a whole weight on one key: the others are tosses -/
theorem only {r : Row} (R : RI r) {k : Key} (hk : k ≠ .toss) (h : rget r k = 1) : ∀ l ∈ keys r, l = .toss ∨ l = k := by
  intro l hl
  apply Classical.byContradiction
  intro z
  have z1 : l ≠ .toss := fun e => z (.inl e)
  have z2 : l ≠ k := fun e => z (.inr e)
  have h1 := ev_rdel (k := k) (v := nt) R.nd
  have h3 : nt k = 1 := if_neg hk
  rw [h3, R.one, h] at h1
  have h4 := ev_rdel (k := l) (v := nt) (rdel_nd R.nd k)
  have h5 := ev_nonneg nt_nonneg (pos_rdel (k := l) (pos_rdel (k := k) R.pos))
  have h6 : nt l = 1 := if_neg z1
  have h7 : 0 < rget (rdel r k) l := pos_rdel R.pos _ (rget_mem (keys_rdel.mpr ⟨z2, hl⟩))
  rw [h6, h1] at h4
  grind
theorem back_lt {r : Row} (R : RI r) {n : Nat} (h : rget r (.node n) ≠ 1) : 0 < 1 - rget r (.node n) := by
  have := le_one R (k := .node n) (by intro z; cases z)
  grind
theorem pos_rput {r : Row} (h : ∀ p ∈ r, 0 < p.2) {k : Key} {q : Rat} (hq : 0 < q) : ∀ p ∈ rput r k q, 0 < p.2 := by
  intro p hp
  unfold rput at hp
  split at hp
  · obtain ⟨y, hy, rfl⟩ := List.mem_map.mp hp
    split
    · exact hq
    · exact h y hy
  · rcases List.mem_append.mp hp with hp | hp
    · exact h p hp
    · rw [List.mem_singleton.mp hp]; exact hq
theorem pos_putInto {s : Rat} (hs : 0 < s) : ∀ {o r : Row}, (∀ p ∈ r, 0 < p.2) → (∀ p ∈ o, 0 < p.2) → ∀ p ∈ putInto r s o, 0 < p.2
  | [], r, h, _ => h
  | x :: o, r, h, ho => by
    show ∀ p ∈ putInto (rput r x.1 (rget r x.1 + s * x.2)) s o, 0 < p.2
    refine pos_putInto hs (pos_rput h ?_) fun p hp => ho p (List.mem_cons_of_mem _ hp)
    have h1 := rget_nonneg h x.1
    have h2 : 0 < s * x.2 := Rat.mul_pos hs (ho x List.mem_cons_self)
    grind
theorem one_div_pos {a : Rat} (h : 0 < a) : 0 < 1 / a := by
  have h1 : a * (1 / a) = 1 := by grind
  apply Classical.byContradiction
  intro z
  have z : 1 / a ≤ 0 := by grind
  have : a * (1 / a) ≤ 0 := by
    have := Rat.mul_le_mul_of_nonneg_left z (Rat.le_of_lt h)
    grind
  grind
theorem RI.closed {r : Row} (R : RI r) (n : Nat) : RI (closedRow r n) := by
  by_cases h : rget r (.node n) = 1
  · refine ⟨closed_nd R.nd n, fun p hp => ?_, by rw [ev_closed1 h]; rfl, .inr ((keys_closed1 h).mpr rfl)⟩
    unfold closedRow at hp
    rw [if_pos h] at hp
    rw [List.mem_singleton.mp hp]
    decide
  · have hb := back_lt R h
    refine ⟨closed_nd R.nd n, fun p hp => ?_, ?_, ?_⟩
    · unfold closedRow at hp
      rw [if_neg h] at hp
      exact pos_putInto (one_div_pos hb) (r := []) (fun _ z => by cases z) (pos_rdel R.pos) p hp
    · rw [ev_closed R.nd h, R.one, show nt (.node n) = 1 from rfl]
      grind
    · rcases R.te with z | z
      · exact .inl ((keys_closed h).mpr ⟨(fun y => by cases y), z⟩)
      · exact .inr ((keys_closed h).mpr ⟨(fun y => by cases y), z⟩)
theorem RI.sub {r c : Row} (R : RI r) (C : RI c) {n : Nat} (h : Key.node n ∈ keys r) : RI (putInto (rdel r (.node n)) (rget r (.node n)) c) := by
  have hs : 0 < rget r (.node n) := R.pos _ (rget_mem h)
  refine ⟨putInto_nd (rdel_nd R.nd _) _ _, pos_putInto hs (pos_rdel R.pos) C.pos, ?_, ?_⟩
  · rw [ev_putInto (rdel_nd R.nd _), ev_rdel R.nd, R.one, C.one, show nt (.node n) = 1 from rfl]
    grind
  · rcases C.te with z | z
    · exact .inl (keys_putInto.mpr (.inr z))
    · exact .inr (keys_putInto.mpr (.inr z))
end K38

end
section
/-! k38, part S: the elimination keeps the equations. -/
namespace K38
open PySem PySem.Spec PyProof.Rows L2 Sy
/-- the table when the nodes from t on are done -/
structure Tb (n t : Nat) (rows : List Row) : Prop where
  len : rows.length = n
  ri : ∀ (i : Nat) (r : Row), rows[i]? = some r → RI r
  lo : ∀ (i : Nat) (r : Row), rows[i]? = some r → i < t → ∀ j, Key.node j ∈ keys r → j < t
  hi : ∀ (i : Nat) (r : Row), rows[i]? = some r → t ≤ i → ∀ j, Key.node j ∈ keys r → j < i
section
variable {n t : Nat} {rows : List Row}
theorem stepE_len : (stepE rows t).length = rows.length := by unfold stepE; rw [List.length_mapIdx, List.length_set]
theorem stepE_at {R : Row} (hR : rows[t]? = some R) (i : Nat) : (stepE rows t)[i]? = if i = t then some (closedRow R t) else rows[i]?.map (sub1 t (closedRow R t) i) := by
  have hd : rows.getD t [] = R := by rw [List.getD_eq_getElem?_getD, hR]; rfl
  have hl := (List.getElem?_eq_some_iff.mp hR).1
  unfold stepE
  rw [hd, List.getElem?_mapIdx, List.getElem?_set]
  by_cases e : t = i
  · rw [if_pos e, if_pos hl, if_pos e.symm]
    show some (sub1 t _ i _) = _
    unfold sub1
    rw [if_neg (by omega)]
  · rw [if_neg e, if_neg fun z => e z.symm]
/-- the three kinds of rows behind a step -/
theorem stepE_cases {R : Row} (hR : rows[t]? = some R) {i : Nat} {r' : Row} (h : (stepE rows t)[i]? = some r') :
    (i = t ∧ r' = closedRow R t) ∨ (i ≠ t ∧ rows[i]? = some r' ∧ (i < t → Key.node t ∉ keys r')) ∨
      (i < t ∧ ∃ r, rows[i]? = some r ∧ Key.node t ∈ keys r ∧ r' = putInto (rdel r (.node t)) (rget r (.node t)) (closedRow R t)) := by
  rw [stepE_at hR] at h
  by_cases e : i = t
  · rw [if_pos e] at h
    exact .inl ⟨e, (Option.some.inj h).symm⟩
  · rw [if_neg e] at h
    obtain ⟨r, hr, rfl⟩ := Option.map_eq_some_iff.mp h
    unfold sub1
    by_cases z : i < t ∧ (look r (.node t)).isSome
    · rw [if_pos z]
      exact .inr (.inr ⟨z.1, r, hr, look_keys.mp z.2, rfl⟩)
    · rw [if_neg z]
      exact .inr (.inl ⟨e, hr, fun l q => z ⟨l, look_keys.mpr q⟩⟩)
/-- every row ahead has one behind -/
theorem stepE_to {R : Row} (hR : rows[t]? = some R) {i : Nat} {r : Row} (h : rows[i]? = some r) (hi : i ≠ t) :
    (∃ r', (stepE rows t)[i]? = some r') := by
  rw [stepE_at hR, if_neg hi, h]
  exact ⟨_, rfl⟩
theorem Tb.row (T : Tb n (t + 1) rows) (ht : t < n) : ∃ R, rows[t]? = some R := ⟨_, List.getElem?_eq_getElem (by rw [T.len]; exact ht)⟩
theorem Tb.step (T : Tb n (t + 1) rows) (ht : t < n) : Tb n t (stepE rows t) := by
  obtain ⟨R, hR⟩ := T.row ht
  have RR := T.ri t R hR
  have cl : ∀ j, Key.node j ∈ keys (closedRow R t) → j < t := by
    intro j hj
    by_cases h : rget R (.node t) = 1
    · have := (keys_closed1 h).mp hj
      cases this
    · obtain ⟨h1, h2⟩ := (keys_closed h).mp hj
      have := T.lo t R hR (by omega) j h2
      have : j ≠ t := fun e => h1 (by rw [e])
      omega
  refine ⟨by rw [stepE_len]; exact T.len, fun i r' h => ?_, fun i r' h hi j hj => ?_, fun i r' h hi j hj => ?_⟩
  · rcases stepE_cases hR h with ⟨rfl, rfl⟩ | ⟨_, h0, _⟩ | ⟨_, r, h0, hk, rfl⟩
    · exact RR.closed _
    · exact T.ri i _ h0
    · exact (T.ri i _ h0).sub (RR.closed _) hk
  · rcases stepE_cases hR h with ⟨rfl, rfl⟩ | ⟨_, h0, hn⟩ | ⟨_, r, h0, hk, rfl⟩
    · omega
    · have := T.lo i _ h0 (by omega) j hj
      have : j ≠ t := fun e => hn hi (by rw [← e]; exact hj)
      omega
    · rcases keys_putInto.mp hj with z | z
      · obtain ⟨z1, z2⟩ := keys_rdel.mp z
        have := T.lo i _ h0 (by omega) j z2
        have : j ≠ t := fun e => z1 (by rw [e])
        omega
      · exact cl j z
  · rcases stepE_cases hR h with ⟨rfl, rfl⟩ | ⟨_, h0, hn⟩ | ⟨_, r, h0, hk, rfl⟩
    · exact cl j hj
    · exact T.hi i _ h0 (by omega) j hj
    · omega
/-! ### the equations at the nodes of G -/
def EG (G : Nat → Prop) (rows : List Row) (v : Val) : Prop := ∀ (j : Nat) (r : Row), rows[j]? = some r → G j → v (.node j) = ev r v
def SG (G : Nat → Prop) (rows : List Row) : Prop := ∀ (j : Nat) (r : Row), rows[j]? = some r → G j → ∀ l, Key.node l ∈ keys r → G l
variable {G : Nat → Prop} {v : Val}
theorem SG.step (T : Tb n (t + 1) rows) (ht : t < n) (S : SG G rows) : SG G (stepE rows t) := by
  obtain ⟨R, hR⟩ := T.row ht
  have cl : G t → ∀ l, Key.node l ∈ keys (closedRow R t) → G l := by
    intro hg l hl
    by_cases h : rget R (.node t) = 1
    · have := (keys_closed1 h).mp hl
      cases this
    · exact S t R hR hg l ((keys_closed h).mp hl).2
  intro j r' h hg l hl
  rcases stepE_cases hR h with ⟨rfl, rfl⟩ | ⟨_, h0, _⟩ | ⟨_, r, h0, hk, rfl⟩
  · exact cl hg l hl
  · exact S j _ h0 hg l hl
  · rcases keys_putInto.mp hl with z | z
    · exact S j _ h0 hg l (keys_rdel.mp z).2
    · exact cl (S j _ h0 hg t hk) l z
/-- forward -/
theorem EG.step (T : Tb n (t + 1) rows) (ht : t < n) (S : SG G rows) (E : EG G rows v) (hb : ∀ R, rows[t]? = some R → G t → rget R (.node t) = 1 → v (.node t) = v .endl) : EG G (stepE rows t) v := by
  obtain ⟨R, hR⟩ := T.row ht
  have RR := T.ri t R hR
  have cl : G t → v (.node t) = ev (closedRow R t) v := by
    intro hg
    by_cases h : rget R (.node t) = 1
    · rw [ev_closed1 h]; exact hb R hR hg h
    · have e := E t R hR hg
      have hp := back_lt RR h
      rw [ev_closed RR.nd h, ← e]
      generalize rget R (.node t) = b at *
      generalize v (.node t) = y at *
      grind
  intro j r' h hg
  rcases stepE_cases hR h with ⟨rfl, rfl⟩ | ⟨_, h0, _⟩ | ⟨_, r, h0, hk, rfl⟩
  · exact cl hg
  · exact E j _ h0 hg
  · have gt := S j _ h0 hg t hk
    have Rr := T.ri j _ h0
    rw [ev_putInto (rdel_nd Rr.nd _), ev_rdel Rr.nd, ← cl gt, E j _ h0 hg]
    grind
/-- backward -/
theorem EG.back (T : Tb n (t + 1) rows) (ht : t < n) (S : SG G rows) (E : EG G (stepE rows t) v) (hb : ∀ R, rows[t]? = some R → G t → rget R (.node t) = 1 → v .toss = 0) : EG G rows v := by
  obtain ⟨R, hR⟩ := T.row ht
  have RR := T.ri t R hR
  have hc : (stepE rows t)[t]? = some (closedRow R t) := by rw [stepE_at hR, if_pos rfl]
  intro j r h0 hg
  by_cases e : j = t
  · subst e
    rw [hR] at h0
    obtain rfl := Option.some.inj h0
    have e := E j _ hc hg
    by_cases h : rget R (.node j) = 1
    · have ht := hb R hR hg h
      have h1 := ev_rdel (k := .node j) (v := v) RR.nd
      have h2 : ev (rdel R (.node j)) v = 0 := by
        have : ∀ p ∈ rdel R (.node j), p.1 = .toss := by
          intro p hp
          have hm : p.1 ∈ keys (rdel R (.node j)) := List.mem_map.mpr ⟨p, hp, rfl⟩
          obtain ⟨z1, z2⟩ := keys_rdel.mp hm
          exact (only RR (by intro z; cases z) h p.1 z2).resolve_right z1
        generalize rdel R (.node j) = s at *
        clear h1
        induction s with
        | nil => rfl
        | cons p s ih =>
          rw [ev_cons, this p List.mem_cons_self, ht, ih fun q hq => this q (List.mem_cons_of_mem _ hq)]
          grind
      rw [h2, h] at h1
      grind
    · have hp := back_lt RR h
      rw [ev_closed RR.nd h] at e
      generalize rget R (.node j) = b at *
      generalize v (.node j) = y at *
      generalize ev R v = z at *
      have h3 : (1 - b) * y = z - b * y := by
        rw [e]
        grind
      grind
  · obtain ⟨r', h'⟩ := stepE_to hR h0 e
    have E' := E j r' h' hg
    rcases stepE_cases hR h' with ⟨z, _⟩ | ⟨_, z, _⟩ | ⟨_, r2, z, hk, rfl⟩
    · exact absurd z e
    · rw [z] at h0
      obtain rfl := Option.some.inj h0
      exact E'
    · rw [z] at h0
      obtain rfl := Option.some.inj h0
      have gt := S j _ z hg t hk
      have Rr := T.ri j _ z
      have ec := E t _ hc gt
      rw [ev_putInto (rdel_nd Rr.nd _), ev_rdel Rr.nd, ← ec] at E'
      grind
/-! ### closed sets -/
def Cl (C : Nat → Prop) (rows : List Row) : Prop := ∀ (j : Nat) (r : Row), rows[j]? = some r → C j → ∀ k ∈ keys r, k = .toss ∨ k = .endl ∨ ∃ l, k = .node l ∧ C l
theorem Cl.step {C : Nat → Prop} (T : Tb n (t + 1) rows) (ht : t < n) (K : Cl C rows) : Cl C (stepE rows t) := by
  obtain ⟨R, hR⟩ := T.row ht
  have cl : C t → ∀ k ∈ keys (closedRow R t), k = .toss ∨ k = .endl ∨ ∃ l, k = .node l ∧ C l := by
    intro hc k hk
    by_cases h : rget R (.node t) = 1
    · exact .inr (.inl ((keys_closed1 h).mp hk))
    · exact K t R hR hc k ((keys_closed h).mp hk).2
  intro j r' h hc k hk
  rcases stepE_cases hR h with ⟨rfl, rfl⟩ | ⟨_, h0, _⟩ | ⟨_, r, h0, hn, rfl⟩
  · exact cl hc k hk
  · exact K j _ h0 hc k hk
  · rcases keys_putInto.mp hk with z | z
    · exact K j _ h0 hc k (keys_rdel.mp z).2
    · rcases K j _ h0 hc _ hn with y | y | ⟨l, y, hl⟩
      · cases y
      · cases y
      · cases y
        exact cl hl k z
theorem Cl.back {C : Nat → Prop} (T : Tb n (t + 1) rows) (ht : t < n) (K : Cl C (stepE rows t)) : ∃ C' : Nat → Prop, (∀ j, C j → C' j) ∧ Cl C' rows := by
  obtain ⟨R, hR⟩ := T.row ht
  have RR := T.ri t R hR
  have hc : (stepE rows t)[t]? = some (closedRow R t) := by rw [stepE_at hR, if_pos rfl]
  let A : Prop := ∀ k ∈ keys R, k = .toss ∨ k = .endl ∨ k = .node t ∨ ∃ l, k = .node l ∧ C l
  refine ⟨fun j => C j ∨ (j = t ∧ A), fun j h => .inl h, ?_⟩
  have own : A → ∀ k ∈ keys R, k = .toss ∨ k = .endl ∨ ∃ l, k = .node l ∧ (C l ∨ (l = t ∧ A)) := by
    intro a k hk
    rcases a k hk with z | z | z | ⟨l, z, hl⟩
    · exact .inl z
    · exact .inr (.inl z)
    · exact .inr (.inr ⟨t, z, .inr ⟨rfl, a⟩⟩)
    · exact .inr (.inr ⟨l, z, .inl hl⟩)
  have mk : (∀ k ∈ keys (closedRow R t), k = .toss ∨ k = .endl ∨ ∃ l, k = .node l ∧ C l) → A := by
    intro hk k hkR
    by_cases h : rget R (.node t) = 1
    · rcases only RR (by intro z; cases z) h k hkR with z | z
      · exact .inl z
      · exact .inr (.inr (.inl z))
    · by_cases z : k = .node t
      · exact .inr (.inr (.inl z))
      · rcases hk k ((keys_closed h).mpr ⟨z, hkR⟩) with y | y | y
        · exact .inl y
        · exact .inr (.inl y)
        · exact .inr (.inr (.inr y))
  intro j r h0 hj k hk
  rcases hj with hj | ⟨rfl, a⟩
  · by_cases e : j = t
    · subst e
      rw [hR] at h0
      obtain rfl := Option.some.inj h0
      exact own (mk (K j _ hc hj)) k hk
    · obtain ⟨r', h'⟩ := stepE_to hR h0 e
      have K' := K j r' h' hj
      rcases stepE_cases hR h' with ⟨z, _⟩ | ⟨_, z, _⟩ | ⟨_, r2, z, hn, rfl⟩
      · exact absurd z e
      · rw [z] at h0
        obtain rfl := Option.some.inj h0
        rcases K' k hk with y | y | ⟨l, y, hl⟩
        · exact .inl y
        · exact .inr (.inl y)
        · exact .inr (.inr ⟨l, y, .inl hl⟩)
      · rw [z] at h0
        obtain rfl := Option.some.inj h0
        by_cases q : k = .node t
        · exact .inr (.inr ⟨t, q, .inr ⟨rfl, mk fun k' hk' => K' k' (keys_putInto.mpr (.inr hk'))⟩⟩)
        · rcases K' k (keys_putInto.mpr (.inl (keys_rdel.mpr ⟨q, hk⟩))) with y | y | ⟨l, y, hl⟩
          · exact .inl y
          · exact .inr (.inl y)
          · exact .inr (.inr ⟨l, y, .inl hl⟩)
  · rw [hR] at h0
    obtain rfl := Option.some.inj h0
    exact own a k hk
/-- what turns on itself alone is closed -/
theorem Cl.self {R : Row} (T : Tb n (t + 1) rows) (hR : rows[t]? = some R) (h : rget R (.node t) = 1) : Cl (fun j => j = t) rows := by
  intro j r h0 hj k hk
  subst hj
  rw [hR] at h0
  obtain rfl := Option.some.inj h0
  rcases only (T.ri j R hR) (by intro z; cases z) h k hk with z | z
  · exact .inl z
  · exact .inr (.inr ⟨j, z, rfl⟩)
end
end K38

end
section
/-! k38, part U: the elimination's end and its solution. -/
namespace K38
open PySem PySem.Spec PyProof.Rows L2 Sy
section
variable {n : Nat} {G : Nat → Prop} {v : Val}
theorem tb_all : ∀ (t : Nat) (rows : List Row), t ≤ n → Tb n t rows → Tb n 0 (elim t rows)
  | 0, _, _, T => T
  | t + 1, rows, h, T => tb_all t _ (by omega) (T.step (by omega))
theorem sg_all : ∀ (t : Nat) (rows : List Row), t ≤ n → Tb n t rows → SG G rows → SG G (elim t rows)
  | 0, _, _, _, S => S
  | t + 1, rows, h, T, S => sg_all t _ (by omega) (T.step (by omega)) (S.step T (by omega))
theorem cl_all {C : Nat → Prop} : ∀ (t : Nat) (rows : List Row), t ≤ n → Tb n t rows → Cl C rows → Cl C (elim t rows)
  | 0, _, _, _, K => K
  | t + 1, rows, h, T, K => cl_all t _ (by omega) (T.step (by omega)) (K.step T (by omega))
theorem fwd : ∀ (t : Nat) (rows : List Row), t ≤ n → Tb n t rows → SG G rows → EG G rows v → (∀ C : Nat → Prop, Cl C rows → ∀ j, j < n → C j → G j → v (.node j) = v .endl) → EG G (elim t rows) v
  | 0, _, _, _, _, E, _ => E
  | t + 1, rows, h, T, S, E, D => by
    refine fwd t _ (by omega) (T.step (by omega)) (S.step T (by omega)) (E.step T (by omega) S fun R hR hg hb => D _ (Cl.self T hR hb) t (by omega) rfl hg) fun C K j hj hc hg => ?_
    obtain ⟨C', hs, K'⟩ := K.back T (by omega)
    exact D C' K' j hj (hs j hc) hg
theorem bwd : ∀ (t : Nat) (rows : List Row), t ≤ n → Tb n t rows → SG G rows → EG G (elim t rows) v → (∀ C : Nat → Prop, Cl C rows → ∀ j, j < n → C j → G j → v .toss = 0) → EG G rows v
  | 0, _, _, _, _, E, _ => E
  | t + 1, rows, h, T, S, E, D => by
    refine EG.back T (by omega) S (bwd t _ (by omega) (T.step (by omega)) (S.step T (by omega)) E fun C K j hj hc hg => ?_) fun R hR hg hb => D _ (Cl.self T hR hb) t (by omega) rfl hg
    obtain ⟨C', hs, K'⟩ := K.back T (by omega)
    exact D C' K' j hj (hs j hc) hg
end
/-! ### the machine's own rows -/
theorem keys_row0 (p : Arm × Arm) (k : Key) : k ∈ keys (row0 p) ↔ k = .toss ∨ k = p.1.key ∨ k = p.2.key := by
  rw [← look_keys, look_row0, Bool.or_eq_true, Bool.or_eq_true, decide_eq_true_iff, decide_eq_true_iff, decide_eq_true_iff]
  exact or_assoc
theorem key_nt (a : Arm) : a.key ≠ .toss := by cases a <;> intro z <;> cases z
theorem ev_row0 (p : Arm × Arm) (v : Val) : ev (row0 p) v = v .toss + (v p.1.key + v p.2.key) / 2 := by
  have nd : NDk [(Key.toss, (1 : Rat)), (p.1.key, 1 / 2)] := by
    unfold NDk
    have := key_nt p.1
    simp [this.symm]
  show ev (rput [(.toss, 1), (p.1.key, 1 / 2)] p.2.key (rget [(.toss, 1), (p.1.key, 1 / 2)] p.2.key + 1 / 2)) v = _
  rw [ev_rput nd, ev_cons, ev_cons, ev_nil]
  grind
theorem row0_ri (p : Arm × Arm) : RI (row0 p) := by
  refine ⟨row0_nd p, ?_, ?_, .inl ((keys_row0 p _).mpr (.inl rfl))⟩
  · show ∀ x ∈ rput [(.toss, 1), (p.1.key, 1 / 2)] p.2.key (rget [(.toss, 1), (p.1.key, 1 / 2)] p.2.key + 1 / 2), 0 < x.2
    have h0 : ∀ x ∈ [(Key.toss, (1 : Rat)), (p.1.key, 1 / 2)], 0 < x.2 := by
      intro x hx
      rcases List.mem_cons.mp hx with e | hx
      · rw [e]; decide
      · rw [List.mem_singleton.mp hx]
        show (0 : Rat) < 1 / 2
        decide +kernel
    have h1 := rget_nonneg h0 p.2.key
    have h2 : (0 : Rat) < 1 / 2 := by decide +kernel
    exact pos_rput h0 (by grind)
  · rw [ev_row0]
    have h1 : nt p.1.key = 1 := if_neg (key_nt _)
    have h2 : nt p.2.key = 1 := if_neg (key_nt _)
    have h3 : nt .toss = 0 := if_pos rfl
    rw [h1, h2, h3]
    decide +kernel
def rows0 (m : Mach) : List Row := m.map row0
theorem rows0_at {m : Mach} {i : Nat} {r : Row} (h : (rows0 m)[i]? = some r) : ∃ p, m[i]? = some p ∧ r = row0 p := by
  unfold rows0 at h
  rw [List.getElem?_map] at h
  obtain ⟨p, hp, rfl⟩ := Option.map_eq_some_iff.mp h
  exact ⟨p, hp, rfl⟩
theorem rows0_of {m : Mach} {i : Nat} {p : Arm × Arm} (h : m[i]? = some p) : (rows0 m)[i]? = some (row0 p) := by
  unfold rows0
  rw [List.getElem?_map, h]; rfl
theorem tb0 {m : Mach} (hm : MOk m) : Tb m.length m.length (rows0 m) := by
  refine ⟨List.length_map .., fun i r h => ?_, fun i r h hi j hj => ?_, fun i r h hi j hj => ?_⟩
  · obtain ⟨p, _, rfl⟩ := rows0_at h
    exact row0_ri p
  · obtain ⟨p, hp, rfl⟩ := rows0_at h
    have hA := hm.arms p (List.mem_of_getElem? hp)
    have arm : ∀ a : Arm, a.ok m.length → Key.node j = a.key → j < m.length := by
      intro a ha e
      cases a with
      | out o => cases e
      | «at» o => cases e; exact ha
    rcases (keys_row0 p _).mp hj with z | z | z
    · cases z
    · exact arm _ hA.1 z
    · exact arm _ hA.2 z
  · have := (List.getElem?_eq_some_iff.mp h).1
    unfold rows0 at this
    rw [List.length_map] at this
    omega
/-! ### the solution, from the last rows -/
def vl (b : Val) (l : List Rat) : Val
  | .node j => l.getD j 0
  | k => b k
def nv (rows : List Row) (b : Val) : Nat → List Rat
  | 0 => []
  | i + 1 => nv rows b i ++ [ev (rows.getD i []) (vl b (nv rows b i))]
def sol (rows : List Row) (b : Val) : Val := vl b (nv rows b rows.length)
theorem nv_len (rows : List Row) (b : Val) : ∀ i, (nv rows b i).length = i
  | 0 => rfl
  | i + 1 => by
    show (nv rows b i ++ [_]).length = _
    rw [List.length_append, nv_len rows b i]; rfl
theorem nv_stay (rows : List Row) (b : Val) {i j : Nat} (hj : j < i) : ∀ d, (nv rows b (i + d)).getD j 0 = (nv rows b i).getD j 0
  | 0 => rfl
  | d + 1 => by
    show (nv rows b (i + d) ++ [_]).getD j 0 = _
    rw [← nv_stay rows b hj d, List.getD_eq_getElem?_getD, List.getD_eq_getElem?_getD, List.getElem?_append_left (by rw [nv_len]; omega)]
    rfl
theorem ev_congr {v w : Val} : ∀ {r : Row}, (∀ k ∈ keys r, v k = w k) → ev r v = ev r w
  | [], _ => rfl
  | p :: r, h => by rw [ev_cons, ev_cons, h p.1 List.mem_cons_self, ev_congr fun k hk => h k (List.mem_cons_of_mem _ hk)]
theorem sol_eq {n : Nat} {rows : List Row} (T : Tb n 0 rows) (b : Val) : EG (fun _ => True) rows (sol rows b) := by
  intro j r h _
  have hj := (List.getElem?_eq_some_iff.mp h).1
  have e : rows.getD j [] = r := by rw [List.getD_eq_getElem?_getD, h]; rfl
  have hd : rows.length = (j + 1) + (rows.length - (j + 1)) := by omega
  have h1 : sol rows b (.node j) = ev r (vl b (nv rows b j)) := by
    show (nv rows b rows.length).getD j 0 = _
    rw [hd, nv_stay rows b (Nat.lt_succ_self j)]
    show (nv rows b j ++ [ev (rows.getD j []) (vl b (nv rows b j))]).getD j 0 = _
    rw [List.getD_eq_getElem?_getD, List.getElem?_append_right (by rw [nv_len]; exact Nat.le_refl _), nv_len, Nat.sub_self, e]
    rfl
  rw [h1]
  refine ev_congr fun k hk => ?_
  cases k with
  | node l =>
    have hl := T.hi j r h (Nat.zero_le _) l hk
    show (nv rows b j).getD l 0 = (nv rows b rows.length).getD l 0
    have hd2 : rows.length = j + (rows.length - j) := by omega
    rw [hd2, nv_stay rows b hl]
  | toss => rfl
  | endl => rfl
  | out o => rfl
theorem ev_const {r : Row} (R : RI r) {v : Val} {c : Rat} (h : ∀ k ∈ keys r, v k = c * nt k) : ev r v = c := by
  rw [ev_congr h]
  have : ∀ s : Row, ev s (fun k => c * nt k) = c * ev s nt := by
    intro s
    induction s with
    | nil => rw [ev_nil, ev_nil]; grind
    | cons p s ih => rw [ev_cons, ev_cons, ih]; grind
  rw [this, R.one]
  grind
theorem ev_ind {v : Val} {o : Key} : ∀ {r : Row}, NDk r → (∀ k ∈ keys r, v k = if k = o then 1 else 0) → ev r v = rget r o
  | [], _, _ => rfl
  | p :: r, nd, h => by
    obtain ⟨h1, h2⟩ := nd_cons nd
    rw [ev_cons, rget_cons, h p.1 List.mem_cons_self]
    by_cases e : p.1 = o
    · rw [if_pos e, if_pos e, ev_ind h2 fun k hk => h k (List.mem_cons_of_mem _ hk), rget_none (by rw [← e]; exact h1)]
      grind
    · rw [if_neg e, if_neg e, ev_ind h2 fun k hk => h k (List.mem_cons_of_mem _ hk)]
      grind
/-! ### never ending nodes -/
theorem dead_endl {n : Nat} {rows : List Row} (T : Tb n 0 rows) {v : Val} (E : EG (fun _ => True) rows v) (h0 : v .toss = 0) {C : Nat → Prop} (K : Cl C rows) : ∀ (j : Nat), j < n → C j → v (.node j) = v .endl := by
  intro j
  induction j using Nat.strongRecOn with
  | _ j ih =>
    intro hj hc
    obtain ⟨r, hr⟩ : ∃ r, rows[j]? = some r := ⟨_, List.getElem?_eq_getElem (by rw [T.len]; exact hj)⟩
    rw [E j r hr trivial]
    refine ev_const (T.ri j r hr) fun k hk => ?_
    rcases K j r hr hc k hk with z | z | ⟨l, z, hl⟩
    · rw [z, h0, show nt .toss = 0 from rfl]; grind
    · rw [z, show nt .endl = 1 from rfl]; grind
    · subst z
      have hlj := T.hi j r hr (Nat.zero_le _) l hk
      rw [ih l hlj (by omega) hl, show nt (.node l) = 1 from rfl]; grind
/-- the values of the machine's nodes, b behind -/
def mv (m : Mach) (b : Val) : Val := sol (elim m.length (rows0 m)) b
section
variable {m : Mach} (hm : MOk m) {b : Val}
include hm
theorem mv_eg (h0 : b .toss = 0) : EG (fun _ => True) (rows0 m) (mv m b) := by
  have T := tb0 hm
  have TN := tb_all m.length (rows0 m) (Nat.le_refl _) T
  exact bwd m.length (rows0 m) (Nat.le_refl _) T (fun _ _ _ _ _ _ => trivial) (sol_eq TN b) fun _ _ _ _ _ _ => h0
theorem mv_dead (h0 : b .toss = 0) {C : Nat → Prop} (K : Cl C (rows0 m)) {j : Nat} (hj : j < m.length) (hc : C j) : mv m b (.node j) = b .endl := by
  have T := tb0 hm
  have TN := tb_all m.length (rows0 m) (Nat.le_refl _) T
  exact dead_endl TN (sol_eq TN b) h0 (cl_all m.length (rows0 m) (Nat.le_refl _) T K) j hj hc
end
/-! ### the swapped machine -/
theorem sw_sw (k i : Nat) : sw k (sw k i) = i := by unfold sw; split <;> split <;> (try split) <;> omega
theorem sw_zero' (k : Nat) : sw k 0 = k := by
  unfold sw
  by_cases h : 0 = k
  · rw [if_pos h]; exact h
  · rw [if_neg h, if_pos rfl]
def swV (k : Nat) (v : Val) : Val
  | .node j => v (.node (sw k j))
  | x => v x
theorem swV_arm (k : Nat) (v : Val) (a : Arm) : swV k v (swA k a).key = v a.key := by
  cases a with
  | out o => rfl
  | «at» o =>
    show v (.node (sw k (sw k o))) = _
    rw [sw_sw]; rfl
theorem swap_row {m : Mach} {k j : Nat} {r : Row} (hk : k < m.length) (h : (rows0 (swapM m k))[j]? = some r) : ∃ p, m[sw k j]? = some p ∧ r = row0 (swA k p.1, swA k p.2) := by
  obtain ⟨p, hp, rfl⟩ := rows0_at h
  have hj := (List.getElem?_eq_some_iff.mp hp).1
  rw [swapM_len] at hj
  rw [swapM_at hk hj] at hp
  obtain rfl := Option.some.inj hp
  exact ⟨_, List.getElem?_eq_getElem (sw_lt hk hj), rfl⟩
theorem swap_eg {m : Mach} {k : Nat} (hk : k < m.length) {G : Nat → Prop} {v : Val} (E : EG G (rows0 m) v) : EG (fun j => G (sw k j)) (rows0 (swapM m k)) (swV k v) := by
  intro j r h hg
  obtain ⟨p, hp, rfl⟩ := swap_row hk h
  have := E (sw k j) _ (rows0_of hp) hg
  rw [ev_row0] at this
  rw [ev_row0, swV_arm, swV_arm]
  exact this
theorem swap_cl {m : Mach} {k : Nat} (hk : k < m.length) {C : Nat → Prop} (K : Cl C (rows0 (swapM m k))) : Cl (fun j => C (sw k j)) (rows0 m) := by
  intro j r h hc x hx
  obtain ⟨p, hp, rfl⟩ := rows0_at h
  have hj := (List.getElem?_eq_some_iff.mp hp).1
  have hs := swapM_at hk (sw_lt hk hj)
  have e : m[sw k (sw k j)]'(sw_lt hk (sw_lt hk hj)) = p := by
    have h1 := List.getElem?_eq_getElem (sw_lt hk (sw_lt hk hj))
    have h2 : m[sw k (sw k j)]? = m[j]? := by rw [sw_sw]
    exact Option.some.inj (h1.symm.trans (h2.trans hp))
  rw [e] at hs
  have arm : ∀ a : Arm, (a = p.1 ∨ a = p.2) → x = a.key → x = .toss ∨ x = .endl ∨ ∃ l, x = .node l ∧ C (sw k l) := by
    intro a ha hx
    have K' := K (sw k j) _ (rows0_of hs) hc (swA k a).key ((keys_row0 _ _).mpr (by
      rcases ha with e | e
      · rw [e]; exact .inr (.inl rfl)
      · rw [e]; exact .inr (.inr rfl)))
    cases a with
    | out o => rcases K' with z | z | ⟨l, z, _⟩ <;> cases z
    | «at» o =>
      rcases K' with z | z | ⟨l, z, hl⟩
      · cases z
      · cases z
      · cases z
        exact .inr (.inr ⟨o, hx, hl⟩)
  rcases (keys_row0 p x).mp hx with z | z | z
  · exact .inl z
  · exact arm _ (.inl rfl) z
  · exact arm _ (.inr rfl) z
theorem swap_sg {m : Mach} {k : Nat} (hk : k < m.length) {G : Nat → Prop} (S : SG G (rows0 m)) : SG (fun j => G (sw k j)) (rows0 (swapM m k)) := by
  intro j r h hg l hl
  obtain ⟨p, hp, rfl⟩ := swap_row hk h
  have S' := S (sw k j) _ (rows0_of hp) hg
  have arm : ∀ a : Arm, (a = p.1 ∨ a = p.2) → Key.node l = (swA k a).key → G (sw k l) := by
    intro a ha e
    cases a with
    | out o => cases e
    | «at» o =>
      cases e
      refine S' (sw k (sw k o)) ((keys_row0 _ _).mpr ?_)
      rw [sw_sw]
      rcases ha with e | e
      · rw [← e]; exact .inr (.inl rfl)
      · rw [← e]; exact .inr (.inr rfl)
  rcases (keys_row0 _ _).mp hl with z | z | z
  · cases z
  · exact arm _ (.inl rfl) z
  · exact arm _ (.inr rfl) z
/-- the first row's end -/
theorem solved_row {m : Mach} (hm : MOk m) : ∃ r, (elim m.length (rows0 m))[0]? = some r ∧ solved m = r ∧ RI r ∧ ∀ j, Key.node j ∉ keys r := by
  have T := tb_all m.length (rows0 m) (Nat.le_refl _) (tb0 hm)
  obtain ⟨r, hr⟩ : ∃ r, (elim m.length (rows0 m))[0]? = some r := ⟨_, List.getElem?_eq_getElem (by rw [T.len]; exact hm.lo)⟩
  refine ⟨r, hr, ?_, T.ri 0 r hr, fun j hj => ?_⟩
  · show (elim m.length (m.map row0)).getD 0 [] = r
    rw [List.getD_eq_getElem?_getD]
    show ((elim m.length (rows0 m))[0]?).getD [] = r
    rw [hr]; rfl
  · have := T.hi 0 r hr (Nat.le_refl _) j hj
    omega
/-- values that keep the equations at G are found in the swapped machine's first row -/
theorem swap_val {m : Mach} (hm : MOk m) {k : Nat} (hk : k < m.length) {G : Nat → Prop} {v : Val} (S : SG G (rows0 m)) (E : EG G (rows0 m) v) (D : ∀ C : Nat → Prop, Cl C (rows0 m) → ∀ j, j < m.length → C j → G j → v (.node j) = v .endl) (hg : G k) :
    v (.node k) = ev (solved (swapM m k)) v := by
  have hm' := swapM_ok hm hk
  obtain ⟨r, hr, hs, R, hn⟩ := solved_row hm'
  have F := fwd (swapM m k).length (rows0 (swapM m k)) (Nat.le_refl _) (tb0 hm') (swap_sg hk S) (swap_eg hk E) fun C K j hj hc hg' => by
    rw [swapM_len] at hj
    exact D _ (swap_cl hk K) (sw k j) (sw_lt hk hj) (by show C (sw k (sw k j)); rw [sw_sw]; exact hc) hg'
  have := F 0 r hr (by show G (sw k 0); rw [sw_zero']; exact hg)
  have e0 : swV k v (.node 0) = v (.node k) := by show v (.node (sw k 0)) = _; rw [sw_zero']
  rw [e0] at this
  rw [this, hs]
  refine ev_congr fun x hx => ?_
  cases x with
  | node j => exact absurd hx (hn j)
  | toss => rfl
  | endl => rfl
  | out o => rfl
def ind (o : Key) : Val := fun k => if k = o then 1 else 0
theorem share_val {m : Mach} (hm : MOk m) {k : Nat} (hk : k < m.length) {o : Key} (ho : o ≠ .toss) (hn : ∀ j, o ≠ .node j) : rget (solved (swapM m k)) o = mv m (ind o) (.node k) := by
  have h0 : ind o .toss = 0 := if_neg (Ne.symm ho)
  have := swap_val hm hk (G := fun _ => True) (v := mv m (ind o)) (fun _ _ _ _ _ _ => trivial) (mv_eg hm h0) (fun C K j hj hc _ => by rw [mv_dead hm h0 K hj hc]; rfl) trivial
  rw [this]
  obtain ⟨r, _, hs, R, hnn⟩ := solved_row (swapM_ok hm hk)
  rw [hs]
  refine (ev_ind R.nd fun x hx => ?_).symm
  cases x with
  | node j => exact absurd hx (hnn j)
  | toss => rfl
  | endl => rfl
  | out o => rfl
end K38

end
section
/-! k38, part V: the flags, the shares, the costs. -/
namespace K38
open PySem PySem.Spec PyProof.Rows L2 Sy
/-! ### flags only grow -/
def Le : List Bool → List Bool → Prop
  | [], [] => True
  | a :: f, b :: g => (a = true → b = true) ∧ Le f g
  | _, _ => False
def cnt : List Bool → Nat
  | [] => 0
  | b :: f => (if b then 1 else 0) + cnt f
theorem Le.refl : ∀ f, Le f f
  | [] => trivial
  | _ :: f => ⟨id, Le.refl f⟩
theorem Le.trans : ∀ {f g h : List Bool}, Le f g → Le g h → Le f h
  | [], [], [], _, _ => trivial
  | _ :: _, _ :: _, _ :: _, a, b => ⟨fun z => b.1 (a.1 z), Le.trans a.2 b.2⟩
  | [], _ :: _, _, a, _ => a.elim
  | _ :: _, [], _, a, _ => a.elim
  | [], [], _ :: _, _, b => b.elim
  | _ :: _, _ :: _, [], _, b => b.elim
theorem Le.anti : ∀ {f g : List Bool}, Le f g → Le g f → f = g
  | [], [], _, _ => rfl
  | a :: f, b :: g, h, k => by
    have e : a = b := by
      cases a <;> cases b
      · rfl
      · exact k.1 rfl
      · exact (h.1 rfl).symm
      · rfl
    rw [e, Le.anti h.2 k.2]
  | [], _ :: _, a, _ => a.elim
  | _ :: _, [], a, _ => a.elim
theorem Le.set : ∀ (f : List Bool) (j : Nat), Le f (f.set j true)
  | [], _ => trivial
  | a :: f, 0 => ⟨fun _ => rfl, Le.refl f⟩
  | a :: f, j + 1 => ⟨id, Le.set f j⟩
theorem Le.cnt : ∀ {f g : List Bool}, Le f g → f = g ∨ K38.cnt f < K38.cnt g
  | [], [], _ => .inl rfl
  | a :: f, b :: g, h => by
    have h1 := Le.cnt h.2
    show _ ∨ (if a then 1 else 0) + K38.cnt f < (if b then 1 else 0) + K38.cnt g
    have h3 : K38.cnt f ≤ K38.cnt g := by
      rcases h1 with e | e
      · rw [e]; exact Nat.le_refl _
      · exact Nat.le_of_lt e
    cases a <;> cases b
    · rcases h1 with e | e
      · rw [e]; exact .inl rfl
      · exact .inr (by simpa using e)
    · exact .inr (by simp; omega)
    · have := h.1 rfl
      cases this
    · rcases h1 with e | e
      · rw [e]; exact .inl rfl
      · exact .inr (by simpa using e)
  | [], _ :: _, a => a.elim
  | _ :: _, [], a => a.elim
theorem cnt_all : ∀ {f : List Bool}, K38.cnt f ≤ f.length ∧ (f.length ≤ K38.cnt f → ∀ i : Nat, f[i]? ≠ some false)
  | [] => ⟨Nat.le_refl _, fun _ i z => by simp at z⟩
  | b :: f => by
    obtain ⟨h1, h2⟩ := cnt_all (f := f)
    show (if b then 1 else 0) + K38.cnt f ≤ f.length + 1 ∧ (f.length + 1 ≤ (if b then 1 else 0) + K38.cnt f → _)
    cases b
    · refine ⟨by simp; omega, fun z => ?_⟩
      simp at z
      omega
    · refine ⟨by simp; omega, fun z i => ?_⟩
      simp at z
      cases i with
      | zero => simp
      | succ i => exact h2 (by omega) i
theorem le_mark (f : List Bool) (j : Nat) (a : Arm) : Le f (mark f j a) := by
  cases a with
  | out o => exact Le.set f j
  | «at» o =>
    show Le f (if f.getD o false then f.set j true else f)
    split
    · exact Le.set f j
    · exact Le.refl f
theorem le_sweep1 (m : Mach) (f : List Bool) (j : Nat) : Le f (sweep1 m f j) := (le_mark f j _).trans (le_mark _ j _)
theorem le_sweepN (m : Mach) (f : List Bool) : ∀ j, Le f (sweepN m f j)
  | 0 => Le.refl f
  | j + 1 => (le_sweepN m f j).trans (le_sweep1 m _ j)
theorem le_sweepN' (m : Mach) (f : List Bool) (j : Nat) : ∀ d, Le (sweepN m f j) (sweepN m f (j + d))
  | 0 => Le.refl _
  | d + 1 => (le_sweepN' m f j d).trans (le_sweep1 m _ (j + d))
theorem mark_fix {f : List Bool} {j : Nat} {a : Arm} (hj : f[j]? = some false) (h : mark f j a = f) : ∃ l, a = .at l ∧ f.getD l false = false := by
  have hs : f.set j true ≠ f := by
    intro z
    have hl := (List.getElem?_eq_some_iff.mp hj).1
    have := List.getElem?_set_self (l := f) (i := j) (a := true) hl
    rw [z, hj] at this
    cases this
  cases a with
  | out o => exact absurd h hs
  | «at» l =>
    have h : (if f.getD l false then f.set j true else f) = f := h
    refine ⟨l, rfl, ?_⟩
    cases z : f.getD l false with
    | false => rfl
    | true =>
      rw [z, if_pos rfl] at h
      exact absurd h hs
theorem fix_closed {m : Mach} {f : List Bool} (hl : f.length = m.length) (hm : MOk m) (h : sweepN m f m.length = f) : Cl (fun j => f[j]? = some false) (rows0 m) := by
  intro j r hr hj x hx
  obtain ⟨p, hp, rfl⟩ := rows0_at hr
  have hjl := (List.getElem?_eq_some_iff.mp hp).1
  have eq : ∀ i, i ≤ m.length → sweepN m f i = f := by
    intro i hi
    have h1 := le_sweepN m f i
    have h2 := le_sweepN' m f i (m.length - i)
    rw [show i + (m.length - i) = m.length by omega, h] at h2
    exact (h1.anti h2).symm
  have h1 : sweep1 m f j = f := by
    have := eq (j + 1) (by omega)
    show sweep1 m f j = f
    have e2 : sweepN m f (j + 1) = sweep1 m (sweepN m f j) j := rfl
    rw [e2, eq j (by omega)] at this
    exact this
  have hd : m.getD j d0 = p := by rw [List.getD_eq_getElem?_getD, hp]; rfl
  unfold sweep1 at h1
  rw [hd] at h1
  have h2 : mark f j p.1 = f := (le_mark f j p.1).anti (by
    have := le_mark (mark f j p.1) j p.2
    rw [h1] at this
    exact this) |>.symm
  rw [h2] at h1
  have hA := hm.arms p (List.mem_of_getElem? hp)
  have arm : ∀ a : Arm, a.ok m.length → mark f j a = f → x = a.key → x = .toss ∨ x = .endl ∨ ∃ l, x = .node l ∧ f[l]? = some false := by
    intro a ha hf hx
    obtain ⟨l, rfl, z⟩ := mark_fix hj hf
    refine .inr (.inr ⟨l, hx, ?_⟩)
    have hll : l < f.length := by rw [hl]; exact ha
    rw [List.getD_eq_getElem?_getD, List.getElem?_eq_getElem hll] at z
    rw [List.getElem?_eq_getElem hll]
    exact congrArg some z
  rcases (keys_row0 p x).mp hx with z | z | z
  · exact .inl z
  · exact arm _ hA.1 h2 z
  · exact arm _ hA.2 h1 z
theorem rounds_fix (m : Mach) : ∀ k, sweepN m (rounds m k) m.length = rounds m k ∨ k ≤ cnt (rounds m k)
  | 0 => .inr (Nat.zero_le _)
  | k + 1 => by
    show sweepN m (sweepN m (rounds m k) m.length) m.length = sweepN m (rounds m k) m.length ∨ k + 1 ≤ cnt (sweepN m (rounds m k) m.length)
    rcases rounds_fix m k with h | h
    · exact .inl (by rw [h, h])
    · rcases (le_sweepN m (rounds m k) m.length).cnt with z | z
      · exact .inl (by rw [← z, ← z])
      · exact .inr (by omega)
theorem rounds_closed {m : Mach} (hm : MOk m) : Cl (fun j => (rounds m m.length)[j]? = some false) (rows0 m) := by
  rcases rounds_fix m m.length with h | h
  · exact fix_closed (rounds_len m _) hm h
  · intro j r _ hj
    exact absurd hj ((cnt_all (f := rounds m m.length)).2 (by rw [rounds_len]; exact h) j)
/-! ### the shares -/
def keyOf (c j : Nat) : Key := if j < c then .out j else .endl
theorem keyOf_ne (c j : Nat) : keyOf c j ≠ .toss ∧ ∀ l, keyOf c j ≠ .node l := by
  unfold keyOf
  split
  · exact ⟨(by intro z; cases z), (by intro l z; cases z)⟩
  · exact ⟨(by intro z; cases z), (by intro l z; cases z)⟩
theorem sharesL_key (r : Row) (c : Nat) : sharesL r c = (List.range (c + 1)).map fun j => rget r (keyOf c j) := by
  unfold sharesL
  rw [List.range_succ, List.map_append]
  congr 1
  · refine List.map_congr_left fun j hj => ?_
    unfold keyOf
    rw [if_pos (List.mem_range.mp hj)]
  · show [rget r .endl] = [rget r (keyOf c c)]
    unfold keyOf
    rw [if_neg (Nat.lt_irrefl _)]
theorem sharesL_len (r : Row) (c : Nat) : (sharesL r c).length = c + 1 := by rw [sharesL_key, List.length_map, List.length_range]
theorem sharesL_at (r : Row) (c : Nat) {j : Nat} (hj : j < c + 1) : (sharesL r c)[j]? = some (rget r (keyOf c j)) := by
  rw [sharesL_key, List.getElem?_map, List.getElem?_range hj]; rfl
def shs (m : Mach) (c : Nat) : List (List Rat) := (List.range m.length).map fun k => sharesL (solved (swapM m k)) c
theorem shs_at {m : Mach} {c i : Nat} (hi : i < m.length) : (shs m c)[i]? = some (sharesL (solved (swapM m i)) c) := by
  unfold shs
  rw [List.getElem?_map, List.getElem?_range hi]; rfl
theorem armRow_at {m : Mach} (hm : MOk m) {c : Nat} {a : Arm} (ha : a.ok m.length) (hb : a.below c) {j : Nat} (hj : j < c + 1) : (armRow c (shs m c) a)[j]? = some (mv m (ind (keyOf c j)) a.key) := by
  cases a with
  | out q =>
    have hq : q < c := hb
    show (unitL c q)[j]? = some (ind (keyOf c j) (.out q))
    unfold unitL ind
    rw [List.getElem?_set]
    by_cases e : q = j
    · rw [if_pos e, if_pos (by rw [List.length_replicate]; omega), if_pos (by unfold keyOf; rw [if_pos (by omega), e])]
    · rw [if_neg e, List.getElem?_replicate, if_pos hj, if_neg]
      unfold keyOf
      split
      · intro z
        cases z
        exact e rfl
      · intro z
        cases z
  | «at» l =>
    have hl : l < m.length := ha
    show ((shs m c).getD l [])[j]? = _
    rw [List.getD_eq_getElem?_getD, shs_at hl]
    show (sharesL _ c)[j]? = _
    rw [sharesL_at _ c hj, share_val hm hl (keyOf_ne c j).1 (keyOf_ne c j).2]
    rfl
theorem armRow_len {m : Mach} {c : Nat} {a : Arm} (ha : a.ok m.length) : (armRow c (shs m c) a).length = c + 1 := by
  cases a with
  | out q =>
    show (unitL c q).length = c + 1
    unfold unitL
    rw [List.length_set, List.length_replicate]
  | «at» l =>
    show ((shs m c).getD l []).length = _
    rw [List.getD_eq_getElem?_getD, shs_at ha]
    exact sharesL_len _ c
theorem shs_ok {m : Mach} (hm : MOk m) {c : Nat} (hb : ∀ p ∈ m, p.1.below c ∧ p.2.below c) (hz : ∀ k, k < m.length → ∀ q ∈ sharesL (solved (swapM m k)) c, Sz 600 q) : ShOk m c (shs m c) := by
  refine ⟨by unfold shs; rw [List.length_map, List.length_range], fun l hl => ?_, fun i p hp => ?_, fun i hi => ?_⟩
  · obtain ⟨k, hk, rfl⟩ := List.mem_map.mp hl
    exact ⟨sharesL_len _ c, hz k (List.mem_range.mp hk)⟩
  · have hi := (List.getElem?_eq_some_iff.mp hp).1
    have hA := hm.arms p (List.mem_of_getElem? hp)
    have hB := hb p (List.mem_of_getElem? hp)
    rw [shs_at hi]
    congr 1
    refine List.ext_getElem? fun j => ?_
    by_cases hj : j < c + 1
    · rw [sharesL_at _ c hj, share_val hm hi (keyOf_ne c j).1 (keyOf_ne c j).2]
      unfold halfL
      rw [List.getElem?_zipWith, armRow_at hm hA.1 hB.1 hj, armRow_at hm hA.2 hB.2 hj]
      have h0 : ind (keyOf c j) .toss = 0 := if_neg (Ne.symm (keyOf_ne c j).1)
      have e := mv_eg hm h0 i _ (rows0_of hp) trivial
      rw [e, ev_row0]
      have h1 : mv m (ind (keyOf c j)) .toss = 0 := h0
      rw [h1]
      show some _ = some _
      congr 1
      grind
    · rw [List.getElem?_eq_none (by rw [sharesL_len]; omega), List.getElem?_eq_none]
      unfold halfL
      rw [List.length_zipWith, armRow_len hA.1, armRow_len hA.2]
      omega
  · have hil : i < m.length := by
      have := (List.getElem?_eq_some_iff.mp hi).1
      rw [rounds_len] at this
      exact this
    rw [shs_at hil]
    congr 1
    refine List.ext_getElem? fun j => ?_
    by_cases hj : j < c + 1
    · have h0 : ind (keyOf c j) .toss = 0 := if_neg (Ne.symm (keyOf_ne c j).1)
      rw [sharesL_at _ c hj, share_val hm hil (keyOf_ne c j).1 (keyOf_ne c j).2, mv_dead hm h0 (rounds_closed hm) hil hi]
      unfold endL ind keyOf
      by_cases e : j < c
      · rw [if_pos e, if_neg (by intro z; cases z), List.getElem?_append_left (by rw [List.length_replicate]; exact e), List.getElem?_replicate, if_pos e]
      · have e : j = c := by omega
        subst e
        rw [if_neg (Nat.lt_irrefl _), if_pos rfl, List.getElem?_append_right (by rw [List.length_replicate]; exact Nat.le_refl _), List.length_replicate, Nat.sub_self]
        rfl
    · rw [List.getElem?_eq_none (by rw [sharesL_len]; omega), List.getElem?_eq_none]
      unfold endL
      rw [List.length_append, List.length_replicate]
      show c + 1 ≤ j
      omega
/-! ### the costs -/
def cb : Val := fun k => if k = .toss then 1 else 0
theorem endl_iff {m : Mach} (hm : MOk m) {k : Nat} (hk : k < m.length) : (look (solved (swapM m k)) .endl).isSome = true ↔ mv m (ind .endl) (.node k) ≠ 0 := by
  obtain ⟨r, _, hs, R, hn⟩ := solved_row (swapM_ok hm hk)
  rw [← share_val hm hk (o := .endl) (by intro z; cases z) (by intro j z; cases z), hs, look_keys]
  constructor
  · intro h
    have := R.pos _ (rget_mem h)
    intro z
    have : 0 < rget r .endl := this
    rw [z] at this
    exact absurd this (by decide)
  · intro h
    apply Classical.byContradiction
    intro z
    exact h (rget_none z)
theorem endl_nonneg {m : Mach} (hm : MOk m) {k : Nat} (hk : k < m.length) : 0 ≤ mv m (ind .endl) (.node k) := by
  obtain ⟨r, _, hs, R, hn⟩ := solved_row (swapM_ok hm hk)
  rw [← share_val hm hk (o := .endl) (by intro z; cases z) (by intro j z; cases z), hs]
  exact rget_nonneg R.pos _
def Gc (m : Mach) : Nat → Prop := fun j => mv m (ind .endl) (.node j) = 0
theorem gc_arms {m : Mach} (hm : MOk m) {i : Nat} {p : Arm × Arm} (hp : m[i]? = some p) (hg : Gc m i) : (∀ l, p.1 = .at l → Gc m l) ∧ ∀ l, p.2 = .at l → Gc m l := by
  have h0 : ind .endl .toss = 0 := if_neg (by intro z; cases z)
  have e := mv_eg hm h0 i _ (rows0_of hp) trivial
  have hg : mv m (ind .endl) (.node i) = 0 := hg
  have h1 : mv m (ind .endl) .toss = 0 := h0
  rw [hg, ev_row0, h1] at e
  have hA := hm.arms p (List.mem_of_getElem? hp)
  have nn : ∀ a : Arm, a.ok m.length → 0 ≤ mv m (ind .endl) a.key := by
    intro a ha
    cases a with
    | out o =>
      show 0 ≤ ind .endl (.out o)
      unfold ind
      rw [if_neg (by intro z; cases z)]
      exact Rat.le_refl
    | «at» l => exact endl_nonneg hm ha
  have n1 := nn _ hA.1
  have n2 := nn _ hA.2
  constructor
  · intro l hl
    rw [hl] at n1 e
    show mv m (ind .endl) (.node l) = 0
    have n1 : 0 ≤ mv m (ind .endl) (.node l) := n1
    have e : (0 : Rat) = 0 + (mv m (ind .endl) (.node l) + mv m (ind .endl) p.2.key) / 2 := e
    grind
  · intro l hl
    rw [hl] at n2 e
    show mv m (ind .endl) (.node l) = 0
    have n2 : 0 ≤ mv m (ind .endl) (.node l) := n2
    have e : (0 : Rat) = 0 + (mv m (ind .endl) p.1.key + mv m (ind .endl) (.node l)) / 2 := e
    grind
theorem gc_sg {m : Mach} (hm : MOk m) : SG (Gc m) (rows0 m) := by
  intro j r h hg l hl
  obtain ⟨p, hp, rfl⟩ := rows0_at h
  obtain ⟨g1, g2⟩ := gc_arms hm hp hg
  have arm : ∀ a : Arm, Key.node l = a.key → a = .at l := by
    intro a e
    cases a with
    | out o => cases e
    | «at» o => cases e; rfl
  rcases (keys_row0 p _).mp hl with z | z | z
  · cases z
  · exact g1 l (arm _ z)
  · exact g2 l (arm _ z)
theorem gc_dead {m : Mach} (hm : MOk m) (C : Nat → Prop) (K : Cl C (rows0 m)) (j : Nat) (hj : j < m.length) (hc : C j) (hg : Gc m j) : False := by
  have h0 : ind .endl .toss = 0 := if_neg (by intro z; cases z)
  have := mv_dead hm h0 K hj hc
  have hg : mv m (ind .endl) (.node j) = 0 := hg
  rw [hg] at this
  have h1 : ind .endl .endl = 1 := if_pos rfl
  rw [h1] at this
  exact absurd this (by decide)
theorem cost_eg {m : Mach} (hm : MOk m) : EG (Gc m) (rows0 m) (mv m cb) := by
  have T := tb0 hm
  have TN := tb_all m.length (rows0 m) (Nat.le_refl _) T
  exact bwd m.length (rows0 m) (Nat.le_refl _) T (gc_sg hm) (fun j r h _ => sol_eq TN cb j r h trivial) fun C K j hj hc hg => (gc_dead hm C K j hj hc hg).elim
theorem cost_val {m : Mach} (hm : MOk m) {k : Nat} (hk : k < m.length) (hg : Gc m k) : rget (solved (swapM m k)) .toss = mv m cb (.node k) := by
  have := swap_val hm hk (gc_sg hm) (cost_eg hm) (fun C K j hj hc hg => (gc_dead hm C K j hj hc hg).elim) hg
  rw [this]
  obtain ⟨r, _, hs, R, hn⟩ := solved_row (swapM_ok hm hk)
  rw [hs]
  refine (ev_ind R.nd fun x hx => ?_).symm
  cases x with
  | node j => exact absurd hx (hn j)
  | toss => rfl
  | endl => rfl
  | out o => rfl
def cos (m : Mach) : List (Option Rat) := (List.range m.length).map fun k => costO (swapM m k)
theorem cos_at {m : Mach} {i : Nat} (hi : i < m.length) : (cos m)[i]? = some (costO (swapM m i)) := by
  unfold cos
  rw [List.getElem?_map, List.getElem?_range hi]; rfl
theorem cost_some {m : Mach} (hm : MOk m) {k : Nat} (hk : k < m.length) (hg : Gc m k) : costO (swapM m k) = some (mv m cb (.node k)) := by
  unfold costO
  rw [if_neg, cost_val hm hk hg]
  intro z
  exact (endl_iff hm hk).mp z hg
theorem cost_gc {m : Mach} (hm : MOk m) {k : Nat} (hk : k < m.length) {q : Rat} (h : costO (swapM m k) = some q) : Gc m k := by
  apply Classical.byContradiction
  intro z
  have := (endl_iff hm hk).mpr z
  unfold costO at h
  rw [if_pos this] at h
  cases h
theorem cos_ok {m : Mach} (hm : MOk m) {c : Nat} (hz : ∀ k, k < m.length → Sz 600 (rget (solved (swapM m k)) .toss)) : CostOk m (shs m c) (cos m) := by
  refine ⟨by unfold shs; rw [List.length_map, List.length_range], by unfold cos; rw [List.length_map, List.length_range], fun i l o hl ho => ?_, fun q hq => ?_, fun i p q hp hq => ?_⟩
  · have hi : i < m.length := by
      have := (List.getElem?_eq_some_iff.mp hl).1
      unfold shs at this
      rw [List.length_map, List.length_range] at this
      exact this
    rw [shs_at hi] at hl
    rw [cos_at hi] at ho
    obtain rfl := Option.some.inj hl
    obtain rfl := Option.some.inj ho
    refine ⟨_, _, rfl, ?_⟩
    have e := endl_iff hm hi
    rw [← share_val hm hi (o := .endl) (by intro z; cases z) (by intro j z; cases z)] at e
    unfold costO
    by_cases h : (look (solved (swapM m i)) .endl).isSome = true
    · rw [if_pos h, decide_eq_false (e.mp h)]; rfl
    · rw [if_neg h, decide_eq_true (Decidable.byContradiction fun z => h (e.mpr z))]; rfl
  · obtain ⟨k, hk, he⟩ := List.mem_map.mp hq
    have hk := List.mem_range.mp hk
    have hg := cost_gc hm hk he
    rw [cost_some hm hk hg, ← cost_val hm hk hg] at he
    rw [← Option.some.inj he]
    exact hz k hk
  · have hi := (List.getElem?_eq_some_iff.mp hp).1
    rw [cos_at hi] at hq
    have hq := Option.some.inj hq
    have hg := cost_gc hm hi hq
    rw [cost_some hm hi hg] at hq
    obtain rfl := Option.some.inj hq
    obtain ⟨g1, g2⟩ := gc_arms hm hp hg
    have hA := hm.arms p (List.mem_of_getElem? hp)
    have arm : ∀ a : Arm, a.ok m.length → (∀ l, a = .at l → Gc m l) → armCost (cos m) a = some (mv m cb a.key) := by
      intro a ha g
      cases a with
      | out o => rfl
      | «at» l =>
        show (cos m).getD l none = _
        rw [List.getD_eq_getElem?_getD, cos_at ha]
        exact cost_some hm ha (g l rfl)
    refine ⟨_, _, arm _ hA.1 g1, arm _ hA.2 g2, ?_⟩
    rw [cost_eg hm i _ (rows0_of hp) hg, ev_row0]
    rfl
theorem toss_ok {m : Mach} (hm : MOk m) {k : Nat} (hk : k < m.length) (h : (look (solved (swapM m k)) .endl).isSome = false) : (look (solved (swapM m k)) .toss).isSome = true := by
  obtain ⟨r, _, hs, R, hn⟩ := solved_row (swapM_ok hm hk)
  rw [hs] at h ⊢
  rcases R.te with z | z
  · exact look_keys.mpr z
  · rw [look_keys.mpr z] at h
    cases h
end K38

end
section
/-! k38, part W: the numbers stay short. -/
namespace K38
open PySem PySem.Spec PyProof.Rows L2 Sy
theorem rget_of {r : Row} (nd : NDk r) {p : Key × Rat} (h : p ∈ r) : rget r p.1 = p.2 := by
  unfold rget
  rw [look_of nd (k := p.1) (q := p.2) h]; rfl
theorem rget_put {s : Rat} {k : Key} : ∀ {o r : Row}, NDk o → rget (putInto r s o) k = rget r k + s * rget o k
  | [], r, _ => by
    show rget r k = rget r k + s * 0
    grind
  | p :: o, r, nd => by
    obtain ⟨h1, h2⟩ := nd_cons nd
    show rget (putInto (rput r p.1 (rget r p.1 + s * p.2)) s o) k = _
    rw [rget_put h2, rget_rput, rget_cons]
    by_cases e : k = p.1
    · rw [if_pos e, if_pos e.symm, e, rget_none h1]
      grind
    · rw [if_neg e, if_neg fun z => e z.symm]
theorem rget_rdel {k l : Key} : ∀ {r : Row}, rget (rdel r k) l = if l = k then 0 else rget r l
  | [] => by
    show (0 : Rat) = if l = k then 0 else 0
    split <;> rfl
  | p :: r => by
    have ih := rget_rdel (k := k) (l := l) (r := r)
    have e1 : rdel (p :: r) k = if p.1 = k then rdel r k else p :: rdel r k := by
      unfold rdel
      rw [List.filter_cons]
      by_cases e : p.1 = k
      · rw [if_pos e, if_neg (by simp [e])]
      · rw [if_neg e, if_pos (by simp [e])]
    rw [e1, rget_cons]
    by_cases e : p.1 = k
    · rw [if_pos e, ih]
      by_cases z : l = k
      · rw [if_pos z, if_pos z]
      · rw [if_neg z, if_neg z, if_neg (fun y => z (y.symm.trans e))]
    · rw [if_neg e, rget_cons, ih]
      by_cases z : l = k
      · rw [if_pos z, if_pos z, if_neg (fun y => e (y.trans z))]
      · rw [if_neg z, if_neg z]
theorem rget_closed {r : Row} (nd : NDk r) {n : Nat} (h : rget r (.node n) ≠ 1) (k : Key) : rget (closedRow r n) k = (1 / (1 - rget r (.node n))) * (if k = .node n then 0 else rget r k) := by
  unfold closedRow
  rw [if_neg h, rest_del, rget_put (rdel_nd nd _), rget_rdel]
  have : rget [] k = 0 := rfl
  rw [this]
  grind
theorem rget_closed1 {r : Row} {n : Nat} (h : rget r (.node n) = 1) (k : Key) : rget (closedRow r n) k = if k = .endl then 1 else 0 := by
  unfold closedRow
  rw [if_pos h, rget_cons]
  by_cases e : k = .endl
  · rw [if_pos e, if_pos e.symm]
  · rw [if_neg e, if_neg fun z => e z.symm]; rfl
def Dv (D : Nat) (q : Rat) : Prop := ∃ a : Int, q * (D : Rat) = (a : Rat)
theorem Dv.zero (D : Nat) : Dv D 0 := ⟨0, by show (0 : Rat) * _ = 0; grind⟩
theorem Dv.one (D : Nat) : Dv D 1 := ⟨(D : Int), by rw [Rat.intCast_natCast]; grind⟩
theorem Dv.add {D : Nat} {x y : Rat} (h : Dv D x) (k : Dv D y) : Dv D (x + y) := by
  obtain ⟨a, ha⟩ := h
  obtain ⟨b, hb⟩ := k
  exact ⟨a + b, by rw [Rat.intCast_add, ← ha, ← hb]; grind⟩
theorem Dv.mul {D E : Nat} {x y : Rat} (h : Dv D x) (k : Dv E y) : Dv (D * E) (x * y) := by
  obtain ⟨a, ha⟩ := h
  obtain ⟨b, hb⟩ := k
  exact ⟨a * b, by rw [Rat.intCast_mul, ← ha, ← hb, Rat.natCast_mul]; grind⟩
theorem Dv.left {D E : Nat} {x : Rat} (h : Dv D x) : Dv (D * E) x := by
  have := h.mul (Dv.one E)
  rw [Rat.mul_one] at this
  exact this
theorem Dv.right {D E : Nat} {x : Rat} (h : Dv E x) : Dv (D * E) x := by
  have := (Dv.one D).mul h
  rw [Rat.one_mul] at this
  exact this
structure Bs (D T L : Nat) (rows : List Row) : Prop where
  d0 : 0 < D
  t0 : 1 ≤ T
  l0 : 1 ≤ L
  at_ : ∀ (i : Nat) (r : Row), rows[i]? = some r → r.length ≤ L ∧ ∀ k, Dv D (rget r k) ∧ rget r k ≤ (T : Rat)
theorem cast_pos {n : Nat} (h : 1 ≤ n) : (1 : Rat) ≤ (n : Rat) := by exact_mod_cast h
theorem Bs.step {n t D T L : Nat} {rows : List Row} (B : Bs D T L rows) (Tt : Tb n (t + 1) rows) (ht : t < n) : ∃ D', D' ≤ D * D ∧ Bs D' (T * (1 + D)) (2 * L) (stepE rows t) := by
  obtain ⟨R, hR⟩ := Tt.row ht
  have RR := Tt.ri t R hR
  obtain ⟨lR, bR⟩ := B.at_ t R hR
  have D1 : (1 : Rat) ≤ (D : Rat) := cast_pos B.d0
  have T1 : (1 : Rat) ≤ (T : Rat) := cast_pos B.t0
  have eT : ((T * (1 + D) : Nat) : Rat) = (T : Rat) * (1 + (D : Rat)) := by
    rw [Rat.natCast_mul, Rat.natCast_add]; rfl
  have hTD : 0 ≤ (T : Rat) * (D : Rat) := Rat.mul_nonneg (by grind) (by grind)
  have hT2 : 1 ≤ T * (1 + D) := Nat.le_trans B.t0 (Nat.le_mul_of_pos_right _ (by omega))
  have lsub : ∀ (r c : Row), r.length ≤ L → c.length ≤ L → (putInto (rdel r (.node t)) (rget r (.node t)) c).length ≤ 2 * L := by
    intro r c h1 h2
    have h3 := putInto_len (rdel r (.node t)) (rget r (.node t)) c
    have h4 : (rdel r (.node t)).length ≤ r.length := List.length_filter_le _ _
    omega
  by_cases h : rget R (.node t) = 1
  · have hc : ∀ k, rget (closedRow R t) k = 0 ∨ rget (closedRow R t) k = 1 := by
      intro k
      rw [rget_closed1 h]
      split
      · exact .inr rfl
      · exact .inl rfl
    have lc : (closedRow R t).length ≤ L := by
      unfold closedRow
      rw [if_pos h]
      exact B.l0
    refine ⟨D, Nat.le_mul_of_pos_right _ B.d0, B.d0, hT2, by have := B.l0; omega, fun i r' hi => ?_⟩
    rcases stepE_cases hR hi with ⟨rfl, rfl⟩ | ⟨_, h0, _⟩ | ⟨_, r, h0, hk, rfl⟩
    · refine ⟨by omega, fun k => ?_⟩
      rw [eT]
      rcases hc k with z | z
      · rw [z]; exact ⟨.zero D, by grind⟩
      · rw [z]; exact ⟨.one D, by grind⟩
    · obtain ⟨l1, b1⟩ := B.at_ i _ h0
      refine ⟨by omega, fun k => ⟨(b1 k).1, ?_⟩⟩
      have := (b1 k).2
      rw [eT]
      grind
    · obtain ⟨l1, b1⟩ := B.at_ i _ h0
      have Rr := Tt.ri i _ h0
      refine ⟨lsub _ _ l1 lc, fun k => ?_⟩
      rw [rget_put (closed_nd RR.nd _), rget_rdel, eT]
      have s1 := le_one Rr (k := .node t) (by intro z; cases z)
      have hb : (if k = .node t then 0 else rget r k) ≤ (T : Rat) := by
        split
        · grind
        · exact (b1 k).2
      have hd : Dv D (if k = .node t then 0 else rget r k) := by
        split
        · exact .zero D
        · exact (b1 k).1
      rcases hc k with z | z
      · rw [z, Rat.mul_zero, Rat.add_zero]
        exact ⟨hd, by grind⟩
      · rw [z, Rat.mul_one]
        refine ⟨hd.add (b1 _).1, ?_⟩
        have : (T : Rat) * 1 ≤ (T : Rat) * (D : Rat) := Rat.mul_le_mul_of_nonneg_left D1 (by grind)
        grind
  · have hb := back_lt RR h
    have hb0 := rget_nonneg RR.pos (.node t)
    obtain ⟨a, ha⟩ := (bR (.node t)).1
    generalize hbk : rget R (.node t) = b at *
    -- the new denominator
    have aD : a < (D : Int) := by
      have h1 : b * (D : Rat) < 1 * (D : Rat) := Rat.mul_lt_mul_of_pos_right (by grind) (by grind)
      rw [ha, Rat.one_mul, ← Rat.intCast_natCast] at h1
      exact_mod_cast h1
    have a0 : 0 ≤ a := by
      have h1 : 0 ≤ b * (D : Rat) := Rat.mul_nonneg hb0 (by grind)
      rw [ha] at h1
      exact_mod_cast h1
    obtain ⟨E, hE⟩ : ∃ E : Nat, (E : Int) = (D : Int) - a := ⟨((D : Int) - a).toNat, by omega⟩
    have E0 : 0 < E := by omega
    have E1 : (1 : Rat) ≤ (E : Rat) := cast_pos E0
    have eE : (E : Rat) = (1 - b) * (D : Rat) := by
      have : (E : Rat) = ((E : Int) : Rat) := (Rat.intCast_natCast E).symm
      rw [this, hE, Rat.intCast_sub, Rat.intCast_natCast, ← ha]
      grind
    have hcl : ∀ k, ∃ w, rget (closedRow R t) k * (E : Rat) = w * (D : Rat) ∧ Dv D w ∧ 0 ≤ w ∧ w ≤ (T : Rat) := by
      intro k
      refine ⟨if k = .node t then 0 else rget R k, ?_, ?_, ?_, ?_⟩
      · rw [rget_closed RR.nd (by rw [hbk]; exact h), hbk, eE]
        generalize (if k = Key.node t then (0 : Rat) else rget R k) = w
        have : (1 / (1 - b)) * (1 - b) = 1 := by grind
        grind
      · split
        · exact .zero D
        · exact (bR k).1
      · split
        · exact Rat.le_refl
        · exact rget_nonneg RR.pos k
      · split
        · grind
        · exact (bR k).2
    have hcp : ∀ k, 0 ≤ rget (closedRow R t) k := rget_nonneg (RR.closed t).pos
    have hcd : ∀ k, Dv E (rget (closedRow R t) k) := by
      intro k
      obtain ⟨w, e, ⟨x, hx⟩, _, _⟩ := hcl k
      exact ⟨x, by rw [e]; exact hx⟩
    have hcT : ∀ k, rget (closedRow R t) k ≤ (T : Rat) * (D : Rat) := by
      intro k
      obtain ⟨w, e, _, w0, wT⟩ := hcl k
      have h1 : rget (closedRow R t) k * 1 ≤ rget (closedRow R t) k * (E : Rat) := Rat.mul_le_mul_of_nonneg_left E1 (hcp k)
      have h2 : w * (D : Rat) ≤ (T : Rat) * (D : Rat) := Rat.mul_le_mul_of_nonneg_right wT (by grind)
      grind
    have lc : (closedRow R t).length ≤ L := by
      unfold closedRow
      rw [if_neg (by rw [hbk]; exact h)]
      have h1 := putInto_len [] (1 / (1 - rget R (.node t))) (rest R t)
      have h2 : (rest R t).length ≤ R.length := List.length_filter_le _ _
      rw [List.length_nil] at h1
      omega
    refine ⟨D * E, Nat.mul_le_mul (Nat.le_refl _) (by omega), Nat.mul_pos B.d0 E0, hT2, by have := B.l0; omega, fun i r' hi => ?_⟩
    rcases stepE_cases hR hi with ⟨rfl, rfl⟩ | ⟨_, h0, _⟩ | ⟨_, r, h0, hk, rfl⟩
    · refine ⟨by omega, fun k => ⟨(hcd k).right, ?_⟩⟩
      have := hcT k
      rw [eT]
      grind
    · obtain ⟨l1, b1⟩ := B.at_ i _ h0
      refine ⟨by omega, fun k => ⟨(b1 k).1.left, ?_⟩⟩
      have := (b1 k).2
      rw [eT]
      grind
    · obtain ⟨l1, b1⟩ := B.at_ i _ h0
      have Rr := Tt.ri i _ h0
      refine ⟨lsub _ _ l1 lc, fun k => ?_⟩
      rw [rget_put (closed_nd RR.nd _), rget_rdel, eT]
      have s1 := le_one Rr (k := .node t) (by intro z; cases z)
      have hb2 : (if k = .node t then 0 else rget r k) ≤ (T : Rat) := by
        split
        · grind
        · exact (b1 k).2
      have hd : Dv D (if k = .node t then 0 else rget r k) := by
        split
        · exact .zero D
        · exact (b1 k).1
      refine ⟨hd.left.add ((b1 _).1.mul (hcd k)), ?_⟩
      have h1 := hcT k
      have h2 := hcp k
      have h3 : rget r (.node t) * rget (closedRow R t) k ≤ 1 * rget (closedRow R t) k := Rat.mul_le_mul_of_nonneg_right s1 h2
      grind
theorem sz_of {D T : Nat} {q : Rat} (hD : 0 < D) (h : Dv D q) (h0 : 0 ≤ q) (hT : q ≤ (T : Rat)) (b1 : T * D < 2 ^ 600) (b2 : D < 2 ^ 600) : Sz 600 q := by
  obtain ⟨a, ha⟩ := h
  have D1 : (1 : Rat) ≤ (D : Rat) := cast_pos hD
  have a0 : 0 ≤ a := by
    have h1 : 0 ≤ q * (D : Rat) := Rat.mul_nonneg h0 (by grind)
    rw [ha] at h1
    exact_mod_cast h1
  have aT : a ≤ ((T * D : Nat) : Int) := by
    have h1 : q * (D : Rat) ≤ (T : Rat) * (D : Rat) := Rat.mul_le_mul_of_nonneg_right hT (by grind)
    rw [ha, ← Rat.natCast_mul, ← Rat.intCast_natCast] at h1
    exact_mod_cast h1
  have e : q = mkRat a D := by
    rw [Rat.mkRat_eq_div, ← ha]
    grind
  rw [e]
  refine .mk ?_ b2 (by omega)
  unfold Bd
  omega
/-- the bounds when s nodes are done -/
def St8 (s : Nat) (rows : List Row) : Prop := ∃ D T L, D ≤ 2 ^ (2 ^ s) ∧ T ≤ 2 ^ (2 ^ s + s) ∧ L ≤ 3 * 2 ^ s ∧ Bs D T L rows
theorem St8.step {n t s : Nat} {rows : List Row} (B : St8 s rows) (Tt : Tb n (t + 1) rows) (ht : t < n) : St8 (s + 1) (stepE rows t) := by
  obtain ⟨D, T, L, hD, hT, hL, B⟩ := B
  obtain ⟨D', hD', B'⟩ := B.step Tt ht
  refine ⟨D', _, _, Nat.le_trans hD' ?_, ?_, ?_, B'⟩
  · have e : 2 ^ (2 ^ (s + 1)) = 2 ^ (2 ^ s) * 2 ^ (2 ^ s) := by rw [← Nat.pow_add, Nat.pow_succ, Nat.mul_two]
    rw [e]
    exact Nat.mul_le_mul hD hD
  · have e : 2 ^ (2 ^ (s + 1) + (s + 1)) = 2 ^ (2 ^ s + s) * 2 ^ (2 ^ s + 1) := by
      rw [← Nat.pow_add]
      congr 1
      rw [Nat.pow_succ]
      omega
    rw [e]
    refine Nat.mul_le_mul hT ?_
    rw [Nat.pow_succ]
    have := Nat.one_le_two_pow (n := 2 ^ s)
    omega
  · rw [Nat.pow_succ]
    omega
theorem St8.row {n t s : Nat} {rows : List Row} (B : St8 s rows) (Tt : Tb n t rows) (hs : s ≤ 8) {i : Nat} {r : Row} (h : rows[i]? = some r) : RowOk 600 r := by
  obtain ⟨D, T, L, hD, hT, hL, B⟩ := B
  obtain ⟨l1, b1⟩ := B.at_ i r h
  have R := Tt.ri i r h
  have p1 : 2 ^ s ≤ 256 := Nat.pow_le_pow_right (n := 2) (by decide) hs
  have hD2 : D ≤ 2 ^ 256 := Nat.le_trans hD (Nat.pow_le_pow_right (by decide) p1)
  have hT2 : T ≤ 2 ^ 264 := Nat.le_trans hT (Nat.pow_le_pow_right (by decide) (by omega))
  have hTD : T * D < 2 ^ 600 := by
    have := Nat.mul_le_mul hT2 hD2
    rw [← Nat.pow_add] at this
    exact Nat.lt_of_le_of_lt this (Nat.pow_lt_pow_right (by decide) (by decide))
  have hD3 : D < 2 ^ 600 := Nat.lt_of_le_of_lt hD2 (Nat.pow_lt_pow_right (by decide) (by decide))
  refine ⟨by omega, fun p hp => ?_, R.nd⟩
  rw [← rget_of R.nd hp]
  exact sz_of B.d0 (b1 _).1 (rget_nonneg R.pos _) (b1 _).2 hTD hD3
theorem St8.zero (m : Mach) : St8 0 (rows0 m) := by
  refine ⟨2, 1, 3, by decide, by decide, by decide, by decide, by decide, by decide, fun i r h => ?_⟩
  obtain ⟨p, _, rfl⟩ := rows0_at h
  refine ⟨Nat.le_trans (rput_len _ _ _) (by show 2 + 1 ≤ 3; decide), fun k => ?_⟩
  have R := row0_ri p
  have hd : Dv 2 (rget (row0 p) k) := by
    have e : rget (row0 p) k = if k = p.2.key then (rget [(.toss, 1), (p.1.key, 1 / 2)] p.2.key + 1 / 2) else rget [(.toss, 1), (p.1.key, 1 / 2)] k := rget_rput _ _ _ _
    have hh : Dv 2 (1 / 2) := ⟨1, by decide +kernel⟩
    have hb : ∀ k, Dv 2 (rget [(.toss, 1), (p.1.key, 1 / 2)] k) := by
      intro k
      rw [rget_cons, rget_cons]
      split
      · exact .one 2
      · split
        · exact hh
        · exact .zero 2
    rw [e]
    split
    · exact (hb _).add hh
    · exact hb k
  refine ⟨hd, ?_⟩
  by_cases e : k = .toss
  · subst e
    have e1 : rget (row0 p) .toss = if Key.toss = p.2.key then (rget [(.toss, 1), (p.1.key, 1 / 2)] p.2.key + 1 / 2) else rget [(.toss, 1), (p.1.key, 1 / 2)] .toss := rget_rput _ _ _ _
    rw [e1, if_neg (Ne.symm (key_nt _)), rget_cons, if_pos rfl]
    exact Rat.le_refl
  · exact le_one R e
theorem run_all {n : Nat} : ∀ (t s : Nat) (rows : List Row), t + s ≤ 8 → t ≤ n → Tb n t rows → St8 s rows → RunOk t rows ∧ ∃ s', s' ≤ 8 ∧ St8 s' (elim t rows)
  | 0, s, rows, h, _, _, B => ⟨trivial, s, by omega, B⟩
  | t + 1, s, rows, h, hn, Tt, B => by
    obtain ⟨R, hR⟩ := Tt.row (t := t) (by omega)
    have hd : rows.getD t [] = R := by rw [List.getD_eq_getElem?_getD, hR]; rfl
    have B' := B.step Tt (by omega)
    have T' := Tt.step (by omega)
    obtain ⟨r1, r2⟩ := run_all t (s + 1) _ (by omega) (by omega) T' B'
    refine ⟨⟨fun r hr => ?_, ?_, ?_, r1⟩, r2⟩
    · obtain ⟨i, hi, rfl⟩ := List.mem_iff_getElem.mp hr
      exact B.row Tt (by omega) (List.getElem?_eq_getElem hi)
    · rw [hd]
      exact fun z => back_lt (Tt.ri t R hR) z
    · rw [hd]
      have hc : (stepE rows t)[t]? = some (closedRow R t) := by rw [stepE_at hR, if_pos rfl]
      exact (B'.row T' (by omega) hc).mono (by decide)
theorem small_run {m : Mach} (hm : MOk m) (h8 : m.length ≤ 8) : RunOk m.length (m.map row0) ∧ RowOk 600 (solved m) := by
  obtain ⟨r1, s', hs, B⟩ := run_all m.length 0 (rows0 m) (by omega) (Nat.le_refl _) (tb0 hm) (St8.zero m)
  obtain ⟨r, hr, he, _, _⟩ := solved_row hm
  refine ⟨r1, ?_⟩
  rw [he]
  exact B.row (tb_all m.length (rows0 m) (Nat.le_refl _) (tb0 hm)) hs hr
theorem right_ok (m : Mach) (c : Nat) (hm : MOk m) (h8 : m.length ≤ 8) (hb : ∀ p ∈ m, p.1.below c ∧ p.2.below c) : Right m c := by
  have sr : ∀ k, k < m.length → RunOk (swapM m k).length ((swapM m k).map row0) ∧ RowOk 600 (solved (swapM m k)) := fun k hk => small_run (swapM_ok hm hk) (by rw [swapM_len]; exact h8)
  refine ⟨fun k hk => (sr k hk).1, fun k hk => toss_ok hm hk, ?_, ?_⟩
  · refine shs_ok hm hb fun k hk q hq => ?_
    rw [sharesL_key] at hq
    obtain ⟨j, _, rfl⟩ := List.mem_map.mp hq
    exact (sr k hk).2.get (by decide) _
  · exact cos_ok hm fun k hk => (sr k hk).2.get (by decide) _
end K38

end
section
/-! k38, part X: what the top has written; the theorem. -/
namespace K38
open PySem PySem.Spec PyProof.Rows L2 Sy
theorem law_sp {K : PySem.W.Frag} {w : World} {H : Hp} {a : Addr} {ns : List Int} (hO : Only H) (hS : SqL K H a (ns.map V.int)) : toSp K w ss_law [.ref a] H (fun v _ => v = .bl true) fun _ _ _ => False := by
  have hf : SqF K H a (ns.map V.int) := by
    rcases hS with (h | h) | h
    · rcases hO a with z | ⟨o, xs, z⟩
      · rw [z] at h; cases h
      · rw [z] at h; cases h
    · exact .inl h
    · exact .inr h
  refine ⟨[.lis (ns.map Da.int)], [], fun d _ => d = .bl true, .cons (.lis hf (RpL.ofInts ns)) .nil, fun _ _ z => (nomatch z), List.nodup_nil, ⟨ns, rfl, rfl, rfl⟩, fun d Θ' v H' hd b => ?_⟩
  have r := b.rp
  rw [hd] at r
  cases r
  rfl
theorem all_mk {l : PySem.W.OpenLaw} {w : World} {K : PySem.W.Frag} {h : Heap} {mg : Str → Option Value} {fa dT AZERO AONE f0 f1 f2 f3 f4 f5 f6 f7 f8 f9 f10 f11 f12 f13 f14 f15 f16 f17 f18 f19 f20 f21 f22 f23 f24 f25 f26 f27 f28 f29 : Addr} {od0 an0 od1 an1 od2 an2 od3 an3 od4 an4 od5 an5 od6 an6 od7 an7 od8 an8 od9 an9 od10 an10 od11 an11 od12 an12 od13 an13 od14 an14 od15 an15 od16 an16 od17 an17 od18 an18 od19 an19 od20 an20 od21 an21 od22 an22 od23 an23 od24 an24 od25 an25 od26 an26 od27 an27 od28 an28 od29 an29 odT odZERO odONE : Option Addr} {sl0 sl1 sl2 sl3 sl4 sl5 sl6 sl7 sl8 sl9 sl10 sl11 sl12 sl13 sl14 sl15 sl16 sl17 sl18 sl19 sl20 sl21 sl22 sl23 sl24 sl25 sl26 sl27 sl28 sl29 slT slZERO slONE : Array (Option Value)} {oc0 kV0 dc0 pm0 cd0 ct0 oc1 kV1 dc1 pm1 cd1 ct1 oc2 kV2 dc2 pm2 cd2 ct2 oc3 kV3 dc3 pm3 cd3 ct3 oc4 kV4 dc4 pm4 cd4 ct4 oc5 kV5 dc5 pm5 cd5 ct5 oc6 kV6 dc6 pm6 cd6 ct6 oc7 kV7 dc7 pm7 cd7 ct7 oc8 kV8 dc8 pm8 cd8 ct8 oc9 kV9 dc9 pm9 cd9 ct9 oc10 kV10 dc10 pm10 cd10 ct10 oc11 kV11 dc11 pm11 cd11 ct11 oc12 kV12 dc12 pm12 cd12 ct12 oc13 kV13 dc13 pm13 cd13 ct13 oc14 kV14 dc14 pm14 cd14 ct14 oc15 kV15 dc15 pm15 cd15 ct15 oc16 kV16 dc16 pm16 cd16 ct16 oc17 kV17 dc17 pm17 cd17 ct17 oc18 kV18 dc18 pm18 cd18 ct18 oc19 kV19 dc19 pm19 cd19 ct19 oc20 kV20 dc20 pm20 cd20 ct20 oc21 kV21 dc21 pm21 cd21 ct21 oc22 kV22 dc22 pm22 cd22 ct22 oc23 kV23 dc23 pm23 cd23 ct23 oc24 kV24 dc24 pm24 cd24 ct24 oc25 kV25 dc25 pm25 cd25 ct25 oc26 kV26 dc26 pm26 cd26 ct26 oc27 kV27 dc27 pm27 cd27 ct27 oc28 kV28 dc28 pm28 cd28 ct28 oc29 kV29 dc29 pm29 cd29 ct29 ocT : Value} {nT wZERO wONE : Nat} {tZERO uZERO tONE uONE tMOST_NODES tMOST_OUTCOMES : Tok} (X : K.In h) (G : h.Ns mainGlobals mg) (hfa : mg "law" = some (.ref fa))
    (a0 : PySem.W.nsIn K mainGlobals "greatest_divisor" = some (some (.ref f0))) (l0 : K.lookup f0 = some ⟨oc0, od0, .func (PySem.W.fnOf "greatest_divisor" "greatest_divisor" (defArgs s_greatest_divisor) (defBody s_greatest_divisor) (defScope s_greatest_divisor) .none kV0 dc0 pm0 an0 cd0 ct0), sl0⟩) (c0 : PySem.W.codeIn K cd0 "greatest_divisor" = true) (k0 : PySem.W.keepIn K (.ref f0) = true)
    (a1 : PySem.W.nsIn K mainGlobals "is_integer" = some (some (.ref f1))) (l1 : K.lookup f1 = some ⟨oc1, od1, .func (PySem.W.fnOf "is_integer" "is_integer" (defArgs s_is_integer) (defBody s_is_integer) (defScope s_is_integer) (.ref dT) kV1 dc1 pm1 an1 cd1 ct1), sl1⟩) (c1 : PySem.W.codeIn K cd1 "is_integer" = true) (k1 : PySem.W.keepIn K (.ref f1) = true)
    (a2 : PySem.W.nsIn K mainGlobals "has_beyond" = some (some (.ref f2))) (l2 : K.lookup f2 = some ⟨oc2, od2, .func (PySem.W.fnOf "has_beyond" "has_beyond" (defArgs s_has_beyond) (defBody s_has_beyond) (defScope s_has_beyond) .none kV2 dc2 pm2 an2 cd2 ct2), sl2⟩) (c2 : PySem.W.codeIn K cd2 "has_beyond" = true) (k2 : PySem.W.keepIn K (.ref f2) = true)
    (a3 : PySem.W.nsIn K mainGlobals "_law_well" = some (some (.ref f3))) (l3 : K.lookup f3 = some ⟨oc3, od3, .func (PySem.W.fnOf "_law_well" "_law_well" (defArgs s__law_well) (defBody s__law_well) (defScope s__law_well) .none kV3 dc3 pm3 an3 cd3 ct3), sl3⟩) (c3 : PySem.W.codeIn K cd3 "_law_well" = true) (k3 : PySem.W.keepIn K (.ref f3) = true)
    (a4 : PySem.W.nsIn K mainGlobals "_law_drop" = some (some (.ref f4))) (l4 : K.lookup f4 = some ⟨oc4, od4, .func (PySem.W.fnOf "_law_drop" "_law_drop" (defArgs s__law_drop) (defBody s__law_drop) (defScope s__law_drop) .none kV4 dc4 pm4 an4 cd4 ct4), sl4⟩) (c4 : PySem.W.codeIn K cd4 "_law_drop" = true) (k4 : PySem.W.keepIn K (.ref f4) = true)
    (a5 : PySem.W.nsIn K mainGlobals "_law_low" = some (some (.ref f5))) (l5 : K.lookup f5 = some ⟨oc5, od5, .func (PySem.W.fnOf "_law_low" "_law_low" (defArgs s__law_low) (defBody s__law_low) (defScope s__law_low) .none kV5 dc5 pm5 an5 cd5 ct5), sl5⟩) (c5 : PySem.W.codeIn K cd5 "_law_low" = true) (k5 : PySem.W.keepIn K (.ref f5) = true)
    (a6 : PySem.W.nsIn K mainGlobals "_law_from" = some (some (.ref f6))) (l6 : K.lookup f6 = some ⟨oc6, od6, .func (PySem.W.fnOf "_law_from" "_law_from" (defArgs s__law_from) (defBody s__law_from) (defScope s__law_from) .none kV6 dc6 pm6 an6 cd6 ct6), sl6⟩) (c6 : PySem.W.codeIn K cd6 "_law_from" = true) (k6 : PySem.W.keepIn K (.ref f6) = true)
    (a7 : PySem.W.nsIn K mainGlobals "_law_ending" = some (some (.ref f7))) (l7 : K.lookup f7 = some ⟨oc7, od7, .func (PySem.W.fnOf "_law_ending" "_law_ending" (defArgs s__law_ending) (defBody s__law_ending) (defScope s__law_ending) .none kV7 dc7 pm7 an7 cd7 ct7), sl7⟩) (c7 : PySem.W.codeIn K cd7 "_law_ending" = true) (k7 : PySem.W.keepIn K (.ref f7) = true)
    (a8 : PySem.W.nsIn K mainGlobals "_law_tossed" = some (some (.ref f8))) (l8 : K.lookup f8 = some ⟨oc8, od8, .func (PySem.W.fnOf "_law_tossed" "_law_tossed" (defArgs s__law_tossed) (defBody s__law_tossed) (defScope s__law_tossed) .none kV8 dc8 pm8 an8 cd8 ct8), sl8⟩) (c8 : PySem.W.codeIn K cd8 "_law_tossed" = true) (k8 : PySem.W.keepIn K (.ref f8) = true)
    (a9 : PySem.W.nsIn K mainGlobals "lowest" = some (some (.ref f9))) (l9 : K.lookup f9 = some ⟨oc9, od9, .func (PySem.W.fnOf "lowest" "lowest" (defArgs s_lowest) (defBody s_lowest) (defScope s_lowest) .none kV9 dc9 pm9 an9 cd9 ct9), sl9⟩) (c9 : PySem.W.codeIn K cd9 "lowest" = true) (k9 : PySem.W.keepIn K (.ref f9) = true)
    (a10 : PySem.W.nsIn K mainGlobals "is_arm" = some (some (.ref f10))) (l10 : K.lookup f10 = some ⟨oc10, od10, .func (PySem.W.fnOf "is_arm" "is_arm" (defArgs s_is_arm) (defBody s_is_arm) (defScope s_is_arm) .none kV10 dc10 pm10 an10 cd10 ct10), sl10⟩) (c10 : PySem.W.codeIn K cd10 "is_arm" = true) (k10 : PySem.W.keepIn K (.ref f10) = true)
    (a11 : PySem.W.nsIn K mainGlobals "_law_machine" = some (some (.ref f11))) (l11 : K.lookup f11 = some ⟨oc11, od11, .func (PySem.W.fnOf "_law_machine" "_law_machine" (defArgs s__law_machine) (defBody s__law_machine) (defScope s__law_machine) .none kV11 dc11 pm11 an11 cd11 ct11), sl11⟩) (c11 : PySem.W.codeIn K cd11 "_law_machine" = true) (k11 : PySem.W.keepIn K (.ref f11) = true)
    (a12 : PySem.W.nsIn K mainGlobals "_law_half" = some (some (.ref f12))) (l12 : K.lookup f12 = some ⟨oc12, od12, .func (PySem.W.fnOf "_law_half" "_law_half" (defArgs s__law_half) (defBody s__law_half) (defScope s__law_half) .none kV12 dc12 pm12 an12 cd12 ct12), sl12⟩) (c12 : PySem.W.codeIn K cd12 "_law_half" = true) (k12 : PySem.W.keepIn K (.ref f12) = true)
    (a13 : PySem.W.nsIn K mainGlobals "_law_great" = some (some (.ref f13))) (l13 : K.lookup f13 = some ⟨oc13, od13, .func (PySem.W.fnOf "_law_great" "_law_great" (defArgs s__law_great) (defBody s__law_great) (defScope s__law_great) .none kV13 dc13 pm13 an13 cd13 ct13), sl13⟩) (c13 : PySem.W.codeIn K cd13 "_law_great" = true) (k13 : PySem.W.keepIn K (.ref f13) = true)
    (a14 : PySem.W.nsIn K mainGlobals "plus" = some (some (.ref f14))) (l14 : K.lookup f14 = some ⟨oc14, od14, .func (PySem.W.fnOf "plus" "plus" (defArgs s_plus) (defBody s_plus) (defScope s_plus) .none kV14 dc14 pm14 an14 cd14 ct14), sl14⟩) (c14 : PySem.W.codeIn K cd14 "plus" = true) (k14 : PySem.W.keepIn K (.ref f14) = true)
    (a15 : PySem.W.nsIn K mainGlobals "minus" = some (some (.ref f15))) (l15 : K.lookup f15 = some ⟨oc15, od15, .func (PySem.W.fnOf "minus" "minus" (defArgs s_minus) (defBody s_minus) (defScope s_minus) .none kV15 dc15 pm15 an15 cd15 ct15), sl15⟩) (c15 : PySem.W.codeIn K cd15 "minus" = true) (k15 : PySem.W.keepIn K (.ref f15) = true)
    (a16 : PySem.W.nsIn K mainGlobals "times" = some (some (.ref f16))) (l16 : K.lookup f16 = some ⟨oc16, od16, .func (PySem.W.fnOf "times" "times" (defArgs s_times) (defBody s_times) (defScope s_times) .none kV16 dc16 pm16 an16 cd16 ct16), sl16⟩) (c16 : PySem.W.codeIn K cd16 "times" = true) (k16 : PySem.W.keepIn K (.ref f16) = true)
    (a17 : PySem.W.nsIn K mainGlobals "over" = some (some (.ref f17))) (l17 : K.lookup f17 = some ⟨oc17, od17, .func (PySem.W.fnOf "over" "over" (defArgs s_over) (defBody s_over) (defScope s_over) .none kV17 dc17 pm17 an17 cd17 ct17), sl17⟩) (c17 : PySem.W.codeIn K cd17 "over" = true) (k17 : PySem.W.keepIn K (.ref f17) = true)
    (a18 : PySem.W.nsIn K mainGlobals "is_machine" = some (some (.ref f18))) (l18 : K.lookup f18 = some ⟨oc18, od18, .func (PySem.W.fnOf "is_machine" "is_machine" (defArgs s_is_machine) (defBody s_is_machine) (defScope s_is_machine) .none kV18 dc18 pm18 an18 cd18 ct18), sl18⟩) (c18 : PySem.W.codeIn K cd18 "is_machine" = true) (k18 : PySem.W.keepIn K (.ref f18) = true)
    (a19 : PySem.W.nsIn K mainGlobals "_law_shares_right" = some (some (.ref f19))) (l19 : K.lookup f19 = some ⟨oc19, od19, .func (PySem.W.fnOf "_law_shares_right" "_law_shares_right" (defArgs s__law_shares_right) (defBody s__law_shares_right) (defScope s__law_shares_right) .none kV19 dc19 pm19 an19 cd19 ct19), sl19⟩) (c19 : PySem.W.codeIn K cd19 "_law_shares_right" = true) (k19 : PySem.W.keepIn K (.ref f19) = true)
    (a20 : PySem.W.nsIn K mainGlobals "_law_costs_right" = some (some (.ref f20))) (l20 : K.lookup f20 = some ⟨oc20, od20, .func (PySem.W.fnOf "_law_costs_right" "_law_costs_right" (defArgs s__law_costs_right) (defBody s__law_costs_right) (defScope s__law_costs_right) .none kV20 dc20 pm20 an20 cd20 ct20), sl20⟩) (c20 : PySem.W.codeIn K cd20 "_law_costs_right" = true) (k20 : PySem.W.keepIn K (.ref f20) = true)
    (a21 : PySem.W.nsIn K mainGlobals "need_machine" = some (some (.ref f21))) (l21 : K.lookup f21 = some ⟨oc21, od21, .func (PySem.W.fnOf "need_machine" "need_machine" (defArgs s_need_machine) (defBody s_need_machine) (defScope s_need_machine) .none kV21 dc21 pm21 an21 cd21 ct21), sl21⟩) (c21 : PySem.W.codeIn K cd21 "need_machine" = true) (k21 : PySem.W.keepIn K (.ref f21) = true)
    (a22 : PySem.W.nsIn K mainGlobals "put_into" = some (some (.ref f22))) (l22 : K.lookup f22 = some ⟨oc22, od22, .func (PySem.W.fnOf "put_into" "put_into" (defArgs s_put_into) (defBody s_put_into) (defScope s_put_into) .none kV22 dc22 pm22 an22 cd22 ct22), sl22⟩) (c22 : PySem.W.codeIn K cd22 "put_into" = true) (k22 : PySem.W.keepIn K (.ref f22) = true)
    (a23 : PySem.W.nsIn K mainGlobals "closed_row" = some (some (.ref f23))) (l23 : K.lookup f23 = some ⟨oc23, od23, .func (PySem.W.fnOf "closed_row" "closed_row" (defArgs s_closed_row) (defBody s_closed_row) (defScope s_closed_row) .none kV23 dc23 pm23 an23 cd23 ct23), sl23⟩) (c23 : PySem.W.codeIn K cd23 "closed_row" = true) (k23 : PySem.W.keepIn K (.ref f23) = true)
    (a24 : PySem.W.nsIn K mainGlobals "toss" = some (some (.ref f24))) (l24 : K.lookup f24 = some ⟨oc24, od24, .func (PySem.W.fnOf "toss" "toss" (defArgs s_toss) (defBody s_toss) (defScope s_toss) .none kV24 dc24 pm24 an24 cd24 ct24), sl24⟩) (c24 : PySem.W.codeIn K cd24 "toss" = true) (k24 : PySem.W.keepIn K (.ref f24) = true)
    (a25 : PySem.W.nsIn K mainGlobals "solved_machine" = some (some (.ref f25))) (l25 : K.lookup f25 = some ⟨oc25, od25, .func (PySem.W.fnOf "solved_machine" "solved_machine" (defArgs s_solved_machine) (defBody s_solved_machine) (defScope s_solved_machine) .none kV25 dc25 pm25 an25 cd25 ct25), sl25⟩) (c25 : PySem.W.codeIn K cd25 "solved_machine" = true) (k25 : PySem.W.keepIn K (.ref f25) = true)
    (a26 : PySem.W.nsIn K mainGlobals "coin_shares" = some (some (.ref f26))) (l26 : K.lookup f26 = some ⟨oc26, od26, .func (PySem.W.fnOf "coin_shares" "coin_shares" (defArgs s_coin_shares) (defBody s_coin_shares) (defScope s_coin_shares) .none kV26 dc26 pm26 an26 cd26 ct26), sl26⟩) (c26 : PySem.W.codeIn K cd26 "coin_shares" = true) (k26 : PySem.W.keepIn K (.ref f26) = true)
    (a27 : PySem.W.nsIn K mainGlobals "coin_cost" = some (some (.ref f27))) (l27 : K.lookup f27 = some ⟨oc27, od27, .func (PySem.W.fnOf "coin_cost" "coin_cost" (defArgs s_coin_cost) (defBody s_coin_cost) (defScope s_coin_cost) .none kV27 dc27 pm27 an27 cd27 ct27), sl27⟩) (c27 : PySem.W.codeIn K cd27 "coin_cost" = true) (k27 : PySem.W.keepIn K (.ref f27) = true)
    (a28 : PySem.W.nsIn K mainGlobals "_law_chain_right" = some (some (.ref f28))) (l28 : K.lookup f28 = some ⟨oc28, od28, .func (PySem.W.fnOf "_law_chain_right" "_law_chain_right" (defArgs s__law_chain_right) (defBody s__law_chain_right) (defScope s__law_chain_right) .none kV28 dc28 pm28 an28 cd28 ct28), sl28⟩) (c28 : PySem.W.codeIn K cd28 "_law_chain_right" = true) (k28 : PySem.W.keepIn K (.ref f28) = true)
    (a29 : PySem.W.nsIn K mainGlobals "law" = some (some (.ref f29))) (l29 : K.lookup f29 = some ⟨oc29, od29, .func (PySem.W.fnOf "law" "law" (defArgs s_law) (defBody s_law) (defScope s_law) .none kV29 dc29 pm29 an29 cd29 ct29), sl29⟩) (c29 : PySem.W.codeIn K cd29 "law" = true) (k29 : PySem.W.keepIn K (.ref f29) = true)
    (lT : K.lookup dT = some ⟨ocT, odT, .seq #[.none, .none] nT, slT⟩)
    (z_abs : PySem.W.nsIn K mainGlobals "abs" = some none)
    (z_all : PySem.W.nsIn K mainGlobals "all" = some none)
    (z_any : PySem.W.nsIn K mainGlobals "any" = some none)
    (z_bool : PySem.W.nsIn K mainGlobals "bool" = some none)
    (z_enumerate : PySem.W.nsIn K mainGlobals "enumerate" = some none)
    (z_int : PySem.W.nsIn K mainGlobals "int" = some none)
    (z_isinstance : PySem.W.nsIn K mainGlobals "isinstance" = some none)
    (z_len : PySem.W.nsIn K mainGlobals "len" = some none)
    (z_list : PySem.W.nsIn K mainGlobals "list" = some none)
    (z_max : PySem.W.nsIn K mainGlobals "max" = some none)
    (z_min : PySem.W.nsIn K mainGlobals "min" = some none)
    (z_range : PySem.W.nsIn K mainGlobals "range" = some none)
    (z_repr : PySem.W.nsIn K mainGlobals "repr" = some none)
    (z_sum : PySem.W.nsIn K mainGlobals "sum" = some none)
    (z_tuple : PySem.W.nsIn K mainGlobals "tuple" = some none)
    (z_zip : PySem.W.nsIn K mainGlobals "zip" = some none)
    (n_MOST_NODES : PySem.W.nsIn K mainGlobals "MOST_NODES" = some (some (.int 400 tMOST_NODES)))
    (n_MOST_OUTCOMES : PySem.W.nsIn K mainGlobals "MOST_OUTCOMES" = some (some (.int 26 tMOST_OUTCOMES)))
    (n_ONE : PySem.W.nsIn K mainGlobals "ONE" = some (some (.ref AONE))) (m_ONE : K.lookup AONE = some ⟨.type "tuple", odONE, .seq #[.int 1 tONE, .int 1 uONE] wONE, slONE⟩)
    (n_ZERO : PySem.W.nsIn K mainGlobals "ZERO" = some (some (.ref AZERO))) (m_ZERO : K.lookup AZERO = some ⟨.type "tuple", odZERO, .seq #[.int 0 tZERO, .int 1 uZERO] wZERO, slZERO⟩) :
    ∃ fd : FuncData, (∀ (s : Shared) (v : Value), BindsTo s fd ⟨[v], []⟩ [("_law_script", v)]) ∧ ∀ base : Heap, K.In base → base.Ns mainGlobals mg → GnOk l.prog w K mg base CX0 9 fa fd ["_law_script"] (toSp K w ss_law) := by
  have e := hfa.symm.trans (PySem.W.mg_of X G a29)
  cases e
  have T : Txt mg (.ref AZERO) (.ref AONE) :=
    { b_abs := PySem.W.mg_none_of X G z_abs, b_all := PySem.W.mg_none_of X G z_all, b_any := PySem.W.mg_none_of X G z_any, b_bool := PySem.W.mg_none_of X G z_bool, b_enumerate := PySem.W.mg_none_of X G z_enumerate, b_int := PySem.W.mg_none_of X G z_int, b_isinstance := PySem.W.mg_none_of X G z_isinstance, b_len := PySem.W.mg_none_of X G z_len, b_list := PySem.W.mg_none_of X G z_list, b_max := PySem.W.mg_none_of X G z_max, b_min := PySem.W.mg_none_of X G z_min, b_range := PySem.W.mg_none_of X G z_range, b_repr := PySem.W.mg_none_of X G z_repr, b_sum := PySem.W.mg_none_of X G z_sum, b_tuple := PySem.W.mg_none_of X G z_tuple, b_zip := PySem.W.mg_none_of X G z_zip, c_MOST_NODES := ⟨_, PySem.W.mg_of X G n_MOST_NODES, ⟨_, rfl⟩⟩, c_MOST_OUTCOMES := ⟨_, PySem.W.mg_of X G n_MOST_OUTCOMES, ⟨_, rfl⟩⟩, c_ONE := ⟨_, PySem.W.mg_of X G n_ONE, rfl⟩, c_ZERO := ⟨_, PySem.W.mg_of X G n_ZERO, rfl⟩ }
  have rZERO : ∀ H, Rp K H (.ref AZERO) (frac 0) := fun H => .tup (xs := [.int 0, .int 1]) (.inr ⟨_, _, _, m_ZERO, rfl, rfl, by show 2 ≤ sizeLine; decide, .cons ⟨_, rfl⟩ (.cons ⟨_, rfl⟩ .nil)⟩) (.cons (.int 0) (.cons (.int 1) .nil))
  have rONE : ∀ H, Rp K H (.ref AONE) (frac 1) := fun H => .tup (xs := [.int 1, .int 1]) (.inr ⟨_, _, _, m_ONE, rfl, rfl, by show 2 ≤ sizeLine; decide, .cons ⟨_, rfl⟩ (.cons ⟨_, rfl⟩ .nil)⟩) (.cons (.int 1) (.cons (.int 1) .nil))
  have F0 := fun_mk (st := s_greatest_divisor) l0 c0 k0
  have b0 := F0.binds (ps := ["one", "other"]) fun _ _ _ _ _ _ us hl => match us, hl with | [_, _], _ => rfl
  have F1 : FunD K "is_integer" "is_integer" (defArgs s_is_integer) (defBody s_is_integer) (defScope s_is_integer) [.non, .non] [] f1 (PySem.W.fnOf "is_integer" "is_integer" (defArgs s_is_integer) (defBody s_is_integer) (defScope s_is_integer) (.ref dT) kV1 dc1 pm1 an1 cd1 ct1) := ⟨⟨_, _, _, _, _, _, _, _, _, _, rfl, l1, c1, .inr ⟨by simp, _, _, [.none, .none], _, rfl, lT, rfl, .cons rfl (.cons rfl .nil)⟩, .inl rfl⟩, k1⟩
  obtain ⟨ds1, v1, b1⟩ := F1.binds1 (ps := ["thing", "low", "high"]) 3 2 (by simp) rfl fun _ _ _ _ _ _ _ us its h1 h2 => match us, h1, its, h2 with | [_, _, _], _, [_, _], _ => ⟨_, rfl, rfl⟩
  cases v1
  have F2 := fun_mk (st := s_has_beyond) l2 c2 k2
  have b2 := F2.binds (ps := ["machine", "count"]) fun _ _ _ _ _ _ us hl => match us, hl with | [_, _], _ => rfl
  have F3 := fun_mk (st := s__law_well) l3 c3 k3
  have b3 := F3.binds (ps := ["_law_script", "_law_index"]) fun _ _ _ _ _ _ us hl => match us, hl with | [_, _], _ => rfl
  have F4 := fun_mk (st := s__law_drop) l4 c4 k4
  have b4 := F4.binds (ps := ["_law_well_here", "_law_bound"]) fun _ _ _ _ _ _ us hl => match us, hl with | [_, _], _ => rfl
  have F5 := fun_mk (st := s__law_low) l5 c5 k5
  have b5 := F5.binds (ps := ["_law_above", "_law_below"]) fun _ _ _ _ _ _ us hl => match us, hl with | [_, _], _ => rfl
  have F6 := fun_mk (st := s__law_from) l6 c6 k6
  have b6 := F6.binds (ps := ["_law_machine_here", "_law_node"]) fun _ _ _ _ _ _ us hl => match us, hl with | [_, _], _ => rfl
  have F7 := fun_mk (st := s__law_ending) l7 c7 k7
  have b7 := F7.binds (ps := ["_law_machine_here"]) fun _ _ _ _ _ _ us hl => match us, hl with | [_], _ => rfl
  have F8 := fun_mk (st := s__law_tossed) l8 c8 k8
  have b8 := F8.binds (ps := ["_law_machine_here", "_law_tosses_here"]) fun _ _ _ _ _ _ us hl => match us, hl with | [_, _], _ => rfl
  have F9 := fun_mk (st := s_lowest) l9 c9 k9
  have b9 := F9.binds (ps := ["above", "below"]) fun _ _ _ _ _ _ us hl => match us, hl with | [_, _], _ => rfl
  have F10 := fun_mk (st := s_is_arm) l10 c10 k10
  have b10 := F10.binds (ps := ["thing", "many"]) fun _ _ _ _ _ _ us hl => match us, hl with | [_, _], _ => rfl
  have F11 := fun_mk (st := s__law_machine) l11 c11 k11
  have b11 := F11.binds (ps := ["_law_well_here", "_law_many", "_law_count_here"]) fun _ _ _ _ _ _ us hl => match us, hl with | [_, _, _], _ => rfl
  have F12 := fun_mk (st := s__law_half) l12 c12 k12
  have b12 := F12.binds (ps := ["_law_one", "_law_other"]) fun _ _ _ _ _ _ us hl => match us, hl with | [_, _], _ => rfl
  have F13 := fun_mk (st := s__law_great) l13 c13 k13
  have b13 := F13.binds (ps := ["_law_well_here"]) fun _ _ _ _ _ _ us hl => match us, hl with | [_], _ => rfl
  have F14 := fun_mk (st := s_plus) l14 c14 k14
  have b14 := F14.binds (ps := ["one", "other"]) fun _ _ _ _ _ _ us hl => match us, hl with | [_, _], _ => rfl
  have F15 := fun_mk (st := s_minus) l15 c15 k15
  have b15 := F15.binds (ps := ["one", "other"]) fun _ _ _ _ _ _ us hl => match us, hl with | [_, _], _ => rfl
  have F16 := fun_mk (st := s_times) l16 c16 k16
  have b16 := F16.binds (ps := ["one", "other"]) fun _ _ _ _ _ _ us hl => match us, hl with | [_, _], _ => rfl
  have F17 := fun_mk (st := s_over) l17 c17 k17
  have b17 := F17.binds (ps := ["one", "other"]) fun _ _ _ _ _ _ us hl => match us, hl with | [_, _], _ => rfl
  have F18 := fun_mk (st := s_is_machine) l18 c18 k18
  have b18 := F18.binds (ps := ["thing"]) fun _ _ _ _ _ _ us hl => match us, hl with | [_], _ => rfl
  have F19 := fun_mk (st := s__law_shares_right) l19 c19 k19
  have b19 := F19.binds (ps := ["_law_machine_here", "_law_count_here", "_law_shares"]) fun _ _ _ _ _ _ us hl => match us, hl with | [_, _, _], _ => rfl
  have F20 := fun_mk (st := s__law_costs_right) l20 c20 k20
  have b20 := F20.binds (ps := ["_law_machine_here", "_law_shares", "_law_costs"]) fun _ _ _ _ _ _ us hl => match us, hl with | [_, _, _], _ => rfl
  have F21 := fun_mk (st := s_need_machine) l21 c21 k21
  have b21 := F21.binds (ps := ["thing"]) fun _ _ _ _ _ _ us hl => match us, hl with | [_], _ => rfl
  have F22 := fun_mk (st := s_put_into) l22 c22 k22
  have b22 := F22.binds (ps := ["row", "share", "other"]) fun _ _ _ _ _ _ us hl => match us, hl with | [_, _, _], _ => rfl
  have F23 := fun_mk (st := s_closed_row) l23 c23 k23
  have b23 := F23.binds (ps := ["row", "node"]) fun _ _ _ _ _ _ us hl => match us, hl with | [_, _], _ => rfl
  have F24 := fun_mk (st := s_toss) l24 c24 k24
  have b24 := F24.binds (ps := ["machine", "tosses"]) fun _ _ _ _ _ _ us hl => match us, hl with | [_, _], _ => rfl
  have F25 := fun_mk (st := s_solved_machine) l25 c25 k25
  have b25 := F25.binds (ps := ["machine"]) fun _ _ _ _ _ _ us hl => match us, hl with | [_], _ => rfl
  have F26 := fun_mk (st := s_coin_shares) l26 c26 k26
  have b26 := F26.binds (ps := ["machine", "count"]) fun _ _ _ _ _ _ us hl => match us, hl with | [_, _], _ => rfl
  have F27 := fun_mk (st := s_coin_cost) l27 c27 k27
  have b27 := F27.binds (ps := ["machine"]) fun _ _ _ _ _ _ us hl => match us, hl with | [_], _ => rfl
  have F28 := fun_mk (st := s__law_chain_right) l28 c28 k28
  have b28 := F28.binds (ps := ["_law_well_here"]) fun _ _ _ _ _ _ us hl => match us, hl with | [_], _ => rfl
  have F29 := fun_mk (st := s_law) l29 c29 k29
  refine ⟨(PySem.W.fnOf "law" "law" (defArgs s_law) (defBody s_law) (defScope s_law) .none kV29 dc29 pm29 an29 cd29 ct29), fun s v => .of_eq rfl, fun base _ _ => ?_⟩
  have G0 : GnOk l.prog w K mg base CX0 1 f0 _ ["one", "other"] (toSp K w ss_greatest_divisor) := ok_greatest_divisor F0 T
  have C_greatest_divisor : Cal l.prog w K mg base 1 "greatest_divisor" ["one", "other"] kb_greatest_divisor ss_greatest_divisor := ⟨f0, _, G0, PySem.W.mg_of X G a0, F0.kp, b0, fun q hq => by cases hq⟩
  have G1 : GnOk l.prog w K mg base CX0 1 f1 _ ["thing", "low", "high"] (toSp K w ss_is_integer) := ok_is_integer F1 T
  have C_is_integer : Cal l.prog w K mg base 1 "is_integer" ["thing", "low", "high"] kb_is_integer ss_is_integer := ⟨f1, _, G1, PySem.W.mg_of X G a1, F1.kp, b1, fun q hq => by cases hq⟩
  have G2 : GnOk l.prog w K mg base CX0 1 f2 _ ["machine", "count"] (toSp K w ss_has_beyond) := ok_has_beyond F2 T
  have C_has_beyond : Cal l.prog w K mg base 1 "has_beyond" ["machine", "count"] kb_has_beyond ss_has_beyond := ⟨f2, _, G2, PySem.W.mg_of X G a2, F2.kp, b2, fun q hq => by cases hq⟩
  have G3 : GnOk l.prog w K mg base CX0 1 f3 _ ["_law_script", "_law_index"] (toSp K w ss__law_well) := ok__law_well F3 T
  have C__law_well : Cal l.prog w K mg base 1 "_law_well" ["_law_script", "_law_index"] kb__law_well ss__law_well := ⟨f3, _, G3, PySem.W.mg_of X G a3, F3.kp, b3, fun q hq => by cases hq⟩
  have G4 : GnOk l.prog w K mg base CX0 1 f4 _ ["_law_well_here", "_law_bound"] (toSp K w ss__law_drop) := ok__law_drop F4 T
  have C__law_drop : Cal l.prog w K mg base 1 "_law_drop" ["_law_well_here", "_law_bound"] kb__law_drop ss__law_drop := ⟨f4, _, G4, PySem.W.mg_of X G a4, F4.kp, b4, fun q hq => by cases hq⟩
  have G5 : GnOk l.prog w K mg base CX0 1 f5 _ ["_law_above", "_law_below"] (toSp K w ss__law_low) := ok__law_low F5 T
  have C__law_low : Cal l.prog w K mg base 1 "_law_low" ["_law_above", "_law_below"] kb__law_low ss__law_low := ⟨f5, _, G5, PySem.W.mg_of X G a5, F5.kp, b5, fun q hq => by cases hq⟩
  have G6 : GnOk l.prog w K mg base CX0 1 f6 _ ["_law_machine_here", "_law_node"] (toSp K w ss__law_from) := ok__law_from F6 T
  have C__law_from : Cal l.prog w K mg base 1 "_law_from" ["_law_machine_here", "_law_node"] kb__law_from ss__law_from := ⟨f6, _, G6, PySem.W.mg_of X G a6, F6.kp, b6, fun q hq => by cases hq⟩
  have G7 : GnOk l.prog w K mg base CX0 1 f7 _ ["_law_machine_here"] (toSp K w ss__law_ending) := ok__law_ending F7 T
  have C__law_ending : Cal l.prog w K mg base 1 "_law_ending" ["_law_machine_here"] kb__law_ending ss__law_ending := ⟨f7, _, G7, PySem.W.mg_of X G a7, F7.kp, b7, fun q hq => by cases hq⟩
  have G8 : GnOk l.prog w K mg base CX0 1 f8 _ ["_law_machine_here", "_law_tosses_here"] (toSp K w ss__law_tossed) := ok__law_tossed F8 T
  have C__law_tossed : Cal l.prog w K mg base 1 "_law_tossed" ["_law_machine_here", "_law_tosses_here"] kb__law_tossed ss__law_tossed := ⟨f8, _, G8, PySem.W.mg_of X G a8, F8.kp, b8, fun q hq => by cases hq⟩
  have G9 : GnOk l.prog w K mg base CX0 2 f9 _ ["above", "below"] (toSp K w ss_lowest) := ok_lowest F9 T  C_greatest_divisor
  have C_lowest : Cal l.prog w K mg base 2 "lowest" ["above", "below"] kb_lowest ss_lowest := ⟨f9, _, G9, PySem.W.mg_of X G a9, F9.kp, b9, fun q hq => by cases hq⟩
  have G10 : GnOk l.prog w K mg base CX0 2 f10 _ ["thing", "many"] (toSp K w ss_is_arm) := ok_is_arm F10 T  C_is_integer
  have C_is_arm : Cal l.prog w K mg base 2 "is_arm" ["thing", "many"] kb_is_arm ss_is_arm := ⟨f10, _, G10, PySem.W.mg_of X G a10, F10.kp, b10, fun q hq => by cases hq⟩
  have G11 : GnOk l.prog w K mg base CX0 2 f11 _ ["_law_well_here", "_law_many", "_law_count_here"] (toSp K w ss__law_machine) := ok__law_machine F11 T  C__law_drop
  have C__law_machine : Cal l.prog w K mg base 2 "_law_machine" ["_law_well_here", "_law_many", "_law_count_here"] kb__law_machine ss__law_machine := ⟨f11, _, G11, PySem.W.mg_of X G a11, F11.kp, b11, fun q hq => by cases hq⟩
  have G12 : GnOk l.prog w K mg base CX0 2 f12 _ ["_law_one", "_law_other"] (toSp K w ss__law_half) := ok__law_half F12 T  C__law_low
  have C__law_half : Cal l.prog w K mg base 2 "_law_half" ["_law_one", "_law_other"] kb__law_half ss__law_half := ⟨f12, _, G12, PySem.W.mg_of X G a12, F12.kp, b12, fun q hq => by cases hq⟩
  have G13 : GnOk l.prog w K mg base CX0 2 f13 _ ["_law_well_here"] (toSp K w ss__law_great) := ok__law_great F13 T  C__law_drop
  have C__law_great : Cal l.prog w K mg base 2 "_law_great" ["_law_well_here"] kb__law_great ss__law_great := ⟨f13, _, G13, PySem.W.mg_of X G a13, F13.kp, b13, fun q hq => by cases hq⟩
  have G14 : GnOk l.prog w K mg base CX0 3 f14 _ ["one", "other"] (toSp K w ss_plus) := ok_plus F14 T  C_lowest
  have C_plus : Cal l.prog w K mg base 3 "plus" ["one", "other"] kb_plus ss_plus := ⟨f14, _, G14, PySem.W.mg_of X G a14, F14.kp, b14, fun q hq => by cases hq⟩
  have G15 : GnOk l.prog w K mg base CX0 3 f15 _ ["one", "other"] (toSp K w ss_minus) := ok_minus F15 T  C_lowest
  have C_minus : Cal l.prog w K mg base 3 "minus" ["one", "other"] kb_minus ss_minus := ⟨f15, _, G15, PySem.W.mg_of X G a15, F15.kp, b15, fun q hq => by cases hq⟩
  have G16 : GnOk l.prog w K mg base CX0 3 f16 _ ["one", "other"] (toSp K w ss_times) := ok_times F16 T  C_lowest
  have C_times : Cal l.prog w K mg base 3 "times" ["one", "other"] kb_times ss_times := ⟨f16, _, G16, PySem.W.mg_of X G a16, F16.kp, b16, fun q hq => by cases hq⟩
  have G17 : GnOk l.prog w K mg base CX0 3 f17 _ ["one", "other"] (toSp K w ss_over) := ok_over F17 T  C_lowest
  have C_over : Cal l.prog w K mg base 3 "over" ["one", "other"] kb_over ss_over := ⟨f17, _, G17, PySem.W.mg_of X G a17, F17.kp, b17, fun q hq => by cases hq⟩
  have G18 : GnOk l.prog w K mg base CX0 3 f18 _ ["thing"] (toSp K w ss_is_machine) := ok_is_machine F18 T  C_is_arm
  have C_is_machine : Cal l.prog w K mg base 3 "is_machine" ["thing"] kb_is_machine ss_is_machine := ⟨f18, _, G18, PySem.W.mg_of X G a18, F18.kp, b18, fun q hq => by cases hq⟩
  have G19 : GnOk l.prog w K mg base CX0 3 f19 _ ["_law_machine_here", "_law_count_here", "_law_shares"] (toSp K w ss__law_shares_right) := ok__law_shares_right F19 T  C__law_ending C__law_half
  have C__law_shares_right : Cal l.prog w K mg base 3 "_law_shares_right" ["_law_machine_here", "_law_count_here", "_law_shares"] kb__law_shares_right ss__law_shares_right := ⟨f19, _, G19, PySem.W.mg_of X G a19, F19.kp, b19, fun q hq => by cases hq⟩
  have G20 : GnOk l.prog w K mg base CX0 3 f20 _ ["_law_machine_here", "_law_shares", "_law_costs"] (toSp K w ss__law_costs_right) := ok__law_costs_right F20 T  C__law_half
  have C__law_costs_right : Cal l.prog w K mg base 3 "_law_costs_right" ["_law_machine_here", "_law_shares", "_law_costs"] kb__law_costs_right ss__law_costs_right := ⟨f20, _, G20, PySem.W.mg_of X G a20, F20.kp, b20, fun q hq => by cases hq⟩
  have G21 : GnOk l.prog w K mg base CX0 4 f21 _ ["thing"] (toSp K w ss_need_machine) := ok_need_machine F21 T  C_is_machine
  have C_need_machine : Cal l.prog w K mg base 4 "need_machine" ["thing"] kb_need_machine ss_need_machine := ⟨f21, _, G21, PySem.W.mg_of X G a21, F21.kp, b21, fun q hq => by cases hq⟩
  have G22 : GnOk l.prog w K mg base CX0 4 f22 _ ["row", "share", "other"] (toSp K w ss_put_into) := ok_put_into F22 T rZERO C_plus C_times
  have C_put_into : Cal l.prog w K mg base 4 "put_into" ["row", "share", "other"] kb_put_into ss_put_into := ⟨f22, _, G22, PySem.W.mg_of X G a22, F22.kp, b22, fun q hq => by cases hq⟩
  have G23 : GnOk l.prog w K mg base CX0 5 f23 _ ["row", "node"] (toSp K w ss_closed_row) := ok_closed_row F23 T rZERO rONE C_minus C_over C_put_into
  have C_closed_row : Cal l.prog w K mg base 5 "closed_row" ["row", "node"] kb_closed_row ss_closed_row := ⟨f23, _, G23, PySem.W.mg_of X G a23, F23.kp, b23, fun q hq => by cases hq⟩
  have G24 : GnOk l.prog w K mg base CX0 5 f24 _ ["machine", "tosses"] (toSp K w ss_toss) := ok_toss F24 T  C_need_machine
  have C_toss : Cal l.prog w K mg base 5 "toss" ["machine", "tosses"] kb_toss ss_toss := ⟨f24, _, G24, PySem.W.mg_of X G a24, F24.kp, b24, fun q hq => by
    obtain rfl := List.mem_singleton.mp hq
    exact fun s ws _ hl => match ws, hl with | [_, _], _ => .of_eq rfl⟩
  have G25 : GnOk l.prog w K mg base CX0 6 f25 _ ["machine"] (toSp K w ss_solved_machine) := ok_solved_machine F25 T rZERO rONE C_closed_row C_plus C_put_into
  have C_solved_machine : Cal l.prog w K mg base 6 "solved_machine" ["machine"] kb_solved_machine ss_solved_machine := ⟨f25, _, G25, PySem.W.mg_of X G a25, F25.kp, b25, fun q hq => by cases hq⟩
  have G26 : GnOk l.prog w K mg base CX0 7 f26 _ ["machine", "count"] (toSp K w ss_coin_shares) := ok_coin_shares F26 T rZERO C_has_beyond C_is_integer C_need_machine C_solved_machine
  have C_coin_shares : Cal l.prog w K mg base 7 "coin_shares" ["machine", "count"] kb_coin_shares ss_coin_shares := ⟨f26, _, G26, PySem.W.mg_of X G a26, F26.kp, b26, fun q hq => by
    obtain rfl := List.mem_singleton.mp hq
    exact fun s ws _ hl => match ws, hl with | [_, _], _ => .of_eq rfl⟩
  have G27 : GnOk l.prog w K mg base CX0 7 f27 _ ["machine"] (toSp K w ss_coin_cost) := ok_coin_cost F27 T  C_need_machine C_solved_machine
  have C_coin_cost : Cal l.prog w K mg base 7 "coin_cost" ["machine"] kb_coin_cost ss_coin_cost := ⟨f27, _, G27, PySem.W.mg_of X G a27, F27.kp, b27, fun q hq => by
    obtain rfl := List.mem_singleton.mp hq
    exact fun s ws _ hl => match ws, hl with | [_], _ => .of_eq rfl⟩
  have G28 : GnOk l.prog w K mg base CX0 8 f28 _ ["_law_well_here"] (toSp K w ss__law_chain_right) := ok__law_chain_right F28 T  C__law_drop C__law_low C_coin_cost C_coin_shares
  have C__law_chain_right : Cal l.prog w K mg base 8 "_law_chain_right" ["_law_well_here"] kb__law_chain_right ss__law_chain_right := ⟨f28, _, G28, PySem.W.mg_of X G a28, F28.kp, b28, fun q hq => by cases hq⟩
  exact ok_law (fun m c h1 h2 _ _ h5 => right_ok m c h1 h2 h5) F29 T C__law_chain_right C__law_costs_right C__law_drop C__law_from C__law_great C__law_machine C__law_shares_right C__law_tossed C__law_well C_coin_cost C_coin_shares C_toss
end K38
open PySem PySem.W PyProof.Rows
set_option maxHeartbeats 0 in
theorem PySem.Challenge.cw_alikechances_k38_whole_coin_machines_holds : PySem.Challenge.rw_alikechances_k38_whole_coin_machines.Holds := by
  w_on; o_law; k_head; (case hw => w_witness2)
  k_fill
  refine Sy.walk_ofG (l := PySem.Challenge.rw_alikechances_k38_whole_coin_machines) (n := 63) (k := 9) (x := "_law_script") (CX := L2.CX0) (sp := fun w => Sy.toSp _ w K38.ss_law) rfl (by decide) rfl ⟨rfl, by decide, by decide⟩ (fun w h Y => PySem.W.kIn_of Y) ?F (fun w H a ns hl hO hS => K38.law_sp hO hS) (fun _ _ _ _ h => h)
  case F =>
    intro w mg fa h KX G hmg
    refine' K38.all_mk KX G hmg ?a0 ?l0 ?c0 ?k0 ?a1 ?l1 ?c1 ?k1 ?a2 ?l2 ?c2 ?k2 ?a3 ?l3 ?c3 ?k3 ?a4 ?l4 ?c4 ?k4 ?a5 ?l5 ?c5 ?k5 ?a6 ?l6 ?c6 ?k6 ?a7 ?l7 ?c7 ?k7 ?a8 ?l8 ?c8 ?k8 ?a9 ?l9 ?c9 ?k9 ?a10 ?l10 ?c10 ?k10 ?a11 ?l11 ?c11 ?k11 ?a12 ?l12 ?c12 ?k12 ?a13 ?l13 ?c13 ?k13 ?a14 ?l14 ?c14 ?k14 ?a15 ?l15 ?c15 ?k15 ?a16 ?l16 ?c16 ?k16 ?a17 ?l17 ?c17 ?k17 ?a18 ?l18 ?c18 ?k18 ?a19 ?l19 ?c19 ?k19 ?a20 ?l20 ?c20 ?k20 ?a21 ?l21 ?c21 ?k21 ?a22 ?l22 ?c22 ?k22 ?a23 ?l23 ?c23 ?k23 ?a24 ?l24 ?c24 ?k24 ?a25 ?l25 ?c25 ?k25 ?a26 ?l26 ?c26 ?k26 ?a27 ?l27 ?c27 ?k27 ?a28 ?l28 ?c28 ?k28 ?a29 ?l29 ?c29 ?k29 ?lT ?z_abs ?z_all ?z_any ?z_bool ?z_enumerate ?z_int ?z_isinstance ?z_len ?z_list ?z_max ?z_min ?z_range ?z_repr ?z_sum ?z_tuple ?z_zip ?n_MOST_NODES ?n_MOST_OUTCOMES ?n_ONE ?m_ONE ?n_ZERO ?m_ZERO
    (case a0 => k_is); (case l0 => k_is); (case c0 => k_is); (case k0 => k_is); (case a1 => k_is); (case l1 => k_is); (case c1 => k_is); (case k1 => k_is); (case a2 => k_is); (case l2 => k_is); (case c2 => k_is); (case k2 => k_is); (case a3 => k_is); (case l3 => k_is); (case c3 => k_is); (case k3 => k_is); (case a4 => k_is); (case l4 => k_is); (case c4 => k_is); (case k4 => k_is); (case a5 => k_is); (case l5 => k_is); (case c5 => k_is); (case k5 => k_is); (case a6 => k_is); (case l6 => k_is); (case c6 => k_is); (case k6 => k_is); (case a7 => k_is); (case l7 => k_is); (case c7 => k_is); (case k7 => k_is); (case a8 => k_is); (case l8 => k_is); (case c8 => k_is); (case k8 => k_is); (case a9 => k_is); (case l9 => k_is); (case c9 => k_is); (case k9 => k_is); (case a10 => k_is); (case l10 => k_is); (case c10 => k_is); (case k10 => k_is); (case a11 => k_is); (case l11 => k_is); (case c11 => k_is); (case k11 => k_is); (case a12 => k_is); (case l12 => k_is); (case c12 => k_is); (case k12 => k_is); (case a13 => k_is); (case l13 => k_is); (case c13 => k_is); (case k13 => k_is); (case a14 => k_is); (case l14 => k_is); (case c14 => k_is); (case k14 => k_is); (case a15 => k_is); (case l15 => k_is); (case c15 => k_is); (case k15 => k_is); (case a16 => k_is); (case l16 => k_is); (case c16 => k_is); (case k16 => k_is); (case a17 => k_is); (case l17 => k_is); (case c17 => k_is); (case k17 => k_is); (case a18 => k_is); (case l18 => k_is); (case c18 => k_is); (case k18 => k_is); (case a19 => k_is); (case l19 => k_is); (case c19 => k_is); (case k19 => k_is); (case a20 => k_is); (case l20 => k_is); (case c20 => k_is); (case k20 => k_is); (case a21 => k_is); (case l21 => k_is); (case c21 => k_is); (case k21 => k_is); (case a22 => k_is); (case l22 => k_is); (case c22 => k_is); (case k22 => k_is); (case a23 => k_is); (case l23 => k_is); (case c23 => k_is); (case k23 => k_is); (case a24 => k_is); (case l24 => k_is); (case c24 => k_is); (case k24 => k_is); (case a25 => k_is); (case l25 => k_is); (case c25 => k_is); (case k25 => k_is); (case a26 => k_is); (case l26 => k_is); (case c26 => k_is); (case k26 => k_is); (case a27 => k_is); (case l27 => k_is); (case c27 => k_is); (case k27 => k_is); (case a28 => k_is); (case l28 => k_is); (case c28 => k_is); (case k28 => k_is); (case a29 => k_is); (case l29 => k_is); (case c29 => k_is); (case k29 => k_is); (case lT => k_is); (case z_abs => k_is); (case z_all => k_is); (case z_any => k_is); (case z_bool => k_is); (case z_enumerate => k_is); (case z_int => k_is); (case z_isinstance => k_is); (case z_len => k_is); (case z_list => k_is); (case z_max => k_is); (case z_min => k_is); (case z_range => k_is); (case z_repr => k_is); (case z_sum => k_is); (case z_tuple => k_is); (case z_zip => k_is); (case n_MOST_NODES => k_is); (case n_MOST_OUTCOMES => k_is); (case n_ONE => k_is); (case m_ONE => k_is); (case n_ZERO => k_is); (case m_ZERO => k_is)

end
