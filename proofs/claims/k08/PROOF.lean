import PyProof.Rows.All
import Wide.All
import OpenK.AllK
import Wide.FinOn
import HandS.ForMost
import HandS.Exc
import HandS.TryOnly
import HandS.TupMul
import HandS.Wide
import HandS.TupAny
import HandS.Deep
import KE.SortData
import HandS.SortKw
import HandS.WordsDict
import HandS.More
import HandS.Conv
import HandS.SetFor
import HandS.Strs
import PyProof.ReprRoads
import HandS.Rev
import HandS.Zip
import HandS.RevRange
import PyProof.AutoSeq1
import HandS.Ends
import PyProof.StrLawsRepr
import HandS.List
import HandS.Dict
import PyProof.P3In
import KE.GoesEnum
import KE.GoesMore
import HandS.DictComp
import PySem.Challenge.RW_countsfall_k08_whole_values_by_counts
set_option Elab.async false
set_option linter.all false
set_option maxRecDepth 100000
set_option maxHeartbeats 4000000
set_option autoImplicit false
set_option exponentiation.threshold 5000
section
/-! CF, part a: data trees read off the abstract heap, slots, the states' relation. -/
namespace CF
open PySem PySem.Spec PyProof.Rows L2

abbrev D := PyData
def keyD : Key → D
  | .inl i => .int i
  | .inr x => .str x

def KTup (K : PySem.W.Frag) (a : Addr) (xs : List V) : Prop :=
  ∃ (o : Obj) (its : Array Value) (n : Nat), K.lookup a = some o ∧ o.cls = .type "tuple" ∧ o.data = .seq its n ∧ its.size ≤ sizeLine ∧ Vals xs its.toList

mutual
/-- v reads as the tree d; no object of W is met on the way -/
inductive Rx (K : PySem.W.Frag) (W : Addr → Prop) (H : Hp) : V → D → Prop
  | non : Rx K W H .non .none
  | bl (b : Bool) : Rx K W H (.bl b) (.bool b)
  | int (i : Int) : Rx K W H (.int i) (.int i)
  | str (x : Str) : Rx K W H (.str x) (.str x)
  | lst {a : Addr} {xs : List V} {ds : List D} : ¬ W a → L2.Rd H a (.lst xs) → RxL K W H xs ds → Rx K W H (.ref a) (.list ds)
  | tup {a : Addr} {xs : List V} {ds : List D} : ¬ W a → L2.Rd H a (.tup xs) → RxL K W H xs ds → Rx K W H (.ref a) (.tuple ds)
  | tupK {a : Addr} {xs : List V} {ds : List D} : KTup K a xs → RxL K W H xs ds → Rx K W H (.ref a) (.tuple ds)
  | dic {a : Addr} {kvs : List (Key × V)} {es : List (D × D)} : ¬ W a → L2.Rd H a (.dK kvs) → RxK K W H kvs es → Rx K W H (.ref a) (.dict es)
inductive RxL (K : PySem.W.Frag) (W : Addr → Prop) (H : Hp) : List V → List D → Prop
  | nil : RxL K W H [] []
  | cons {v : V} {vs : List V} {d : D} {ds : List D} : Rx K W H v d → RxL K W H vs ds → RxL K W H (v :: vs) (d :: ds)
inductive RxK (K : PySem.W.Frag) (W : Addr → Prop) (H : Hp) : List (Key × V) → List (D × D) → Prop
  | nil : RxK K W H [] []
  | cons {k : Key} {v : V} {kvs : List (Key × V)} {d : D} {es : List (D × D)} : Rx K W H v d → RxK K W H kvs es → RxK K W H ((k, v) :: kvs) ((keyD k, d) :: es)
end

/-- what is tracked stays: what is someone's own, but not O's, to the sign; the rest as far as it can be read -/
structure KeepO (W O : Addr → Prop) (H H' : Hp) : Prop where
  own : ∀ a o, H a = some o → W a → ¬ O a → H' a = some o
  rest : ∀ a u, L2.Rd H a u → ¬ W a → L2.Rd H' a u
  frz : ∀ a o u, H a = some (.frz o u) → ¬ W a → H' a = some (.frz o u)
  lst : ∀ a xs, H a = some (.lst xs) → ¬ W a → H' a = some (.lst xs)
theorem KeepO.refl {W O : Addr → Prop} {H : Hp} : KeepO W O H H := ⟨fun _ _ h _ _ => h, fun _ _ h _ => h, fun _ _ _ h _ => h, fun _ _ h _ => h⟩
theorem KeepO.trans {W O : Addr → Prop} {H H1 H2 : Hp} (a : KeepO W O H H1) (b : KeepO W O H1 H2) : KeepO W O H H2 := ⟨fun c o h w n => b.own c o (a.own c o h w n) w n, fun c u h n => b.rest c u (a.rest c u h n) n, fun c o u h n => b.frz c o u (a.frz c o u h n) n, fun c xs h n => b.lst c xs (a.lst c xs h n) n⟩
theorem rd_same {H H1 : Hp} (a : Same H H1) {c : Addr} {u : HO} (h : L2.Rd H c u) : L2.Rd H1 c u := by
  rcases h with h | ⟨o, h⟩
  · exact .inl (a _ _ h)
  · exact .inr ⟨o, a _ _ h⟩
theorem KeepO.of {W O : Addr → Prop} {H H1 : Hp} (a : Same H H1) : KeepO W O H H1 := ⟨fun c o h _ _ => a c o h, fun c u h _ => rd_same a h, fun c o u h _ => a _ _ h, fun c xs h _ => a _ _ h⟩
theorem Same.upd {H : Hp} {p : Addr} {o : HO} (h : H p = none) : Same H (upd H p o) := fun b x e => by
  rw [upd_ne (ne_of_none e h)]
  exact e

theorem rd_some {H : Hp} {a : Addr} {u : HO} (h : L2.Rd H a u) : ∃ o, H a = some o := by
  rcases h with h | ⟨o, h⟩ <;> exact ⟨_, h⟩
theorem rd_keep {H H' : Hp} {a : Addr} {u : HO} (k : ∀ o, H a = some o → H' a = some o) (h : L2.Rd H a u) : L2.Rd H' a u := by
  rcases h with h | ⟨o, h⟩
  · exact .inl (k _ h)
  · exact .inr ⟨o, k _ h⟩

section
variable {K : PySem.W.Frag} {W W' : Addr → Prop} {H H' : Hp}
mutual
/-- what a tree leans on is kept -/
theorem Rx.go (k : ∀ a u, L2.Rd H a u → ¬ W a → L2.Rd H' a u) (w : ∀ a o, H a = some o → W' a → W a) : ∀ (d : D) (v : V), Rx K W H v d → Rx K W' H' v d
  | .none, _, h => by cases h; exact .non
  | .bool _, _, h => by cases h; exact .bl _
  | .int _, _, h => by cases h; exact .int _
  | .str _, _, h => by cases h; exact .str _
  | .list ds, _, h => by
    cases h with
    | lst hw hr hl =>
      obtain ⟨o, ho⟩ := rd_some hr
      exact .lst (fun z => hw (w _ o ho z)) (k _ _ hr hw) (RxL.go k w ds _ hl)
  | .tuple ds, _, h => by
    cases h with
    | tup hw hr hl =>
      obtain ⟨o, ho⟩ := rd_some hr
      exact .tup (fun z => hw (w _ o ho z)) (k _ _ hr hw) (RxL.go k w ds _ hl)
    | tupK hk hl => exact .tupK hk (RxL.go k w ds _ hl)
  | .dict es, _, h => by
    cases h with
    | dic hw hr hl =>
      obtain ⟨o, ho⟩ := rd_some hr
      exact .dic (fun z => hw (w _ o ho z)) (k _ _ hr hw) (RxK.go k w es _ hl)
theorem RxL.go (k : ∀ a u, L2.Rd H a u → ¬ W a → L2.Rd H' a u) (w : ∀ a o, H a = some o → W' a → W a) : ∀ (ds : List D) (vs : List V), RxL K W H vs ds → RxL K W' H' vs ds
  | [], _, h => by cases h; exact .nil
  | d :: ds, _, h => by
    cases h with
    | cons h1 h2 => exact .cons (Rx.go k w d _ h1) (RxL.go k w ds _ h2)
theorem RxK.go (k : ∀ a u, L2.Rd H a u → ¬ W a → L2.Rd H' a u) (w : ∀ a o, H a = some o → W' a → W a) : ∀ (es : List (D × D)) (kvs : List (Key × V)), RxK K W H kvs es → RxK K W' H' kvs es
  | [], _, h => by cases h; exact .nil
  | (_, d) :: es, _, h => by
    cases h with
    | cons h1 h2 => exact .cons (Rx.go k w d _ h1) (RxK.go k w es _ h2)
end
theorem Rx.same {v : V} {d : D} (h : Rx K W H v d) (s : Same H H') : Rx K W H' v d := Rx.go (fun a u e _ => rd_same s e) (fun _ _ _ z => z) d v h
theorem RxL.same {vs : List V} {ds : List D} (h : RxL K W H vs ds) (s : Same H H') : RxL K W H' vs ds := RxL.go (fun a u e _ => rd_same s e) (fun _ _ _ z => z) ds vs h
theorem RxK.same {kvs : List (Key × V)} {es : List (D × D)} (h : RxK K W H kvs es) (s : Same H H') : RxK K W H' kvs es := RxK.go (fun a u e _ => rd_same s e) (fun _ _ _ z => z) es kvs h
theorem Rx.less {v : V} {d : D} (h : Rx K W H v d) (w : ∀ a, W' a → W a) : Rx K W' H v d := Rx.go (fun _ _ e _ => e) (fun a _ _ z => w a z) d v h
theorem RxL.less {vs : List V} {ds : List D} (h : RxL K W H vs ds) (w : ∀ a, W' a → W a) : RxL K W' H vs ds := RxL.go (fun _ _ e _ => e) (fun a _ _ z => w a z) ds vs h
theorem RxK.less {kvs : List (Key × V)} {es : List (D × D)} (h : RxK K W H kvs es) (w : ∀ a, W' a → W a) : RxK K W' H kvs es := RxK.go (fun _ _ e _ => e) (fun a _ _ z => w a z) es kvs h
/-- one more address that is new -/
def plus (W : Addr → Prop) (p : Addr) : Addr → Prop := fun a => W a ∨ a = p
theorem Rx.plus {v : V} {d : D} {p : Addr} (h : Rx K W H v d) (n : H p = none) : Rx K (CF.plus W p) H v d :=
  Rx.go (fun _ _ e _ => e) (fun a o e z => z.elim id fun q => by subst q; rw [n] at e; cases e) d v h
theorem RxL.plus {vs : List V} {ds : List D} {p : Addr} (h : RxL K W H vs ds) (n : H p = none) : RxL K (CF.plus W p) H vs ds :=
  RxL.go (fun _ _ e _ => e) (fun a o e z => z.elim id fun q => by subst q; rw [n] at e; cases e) ds vs h
theorem RxK.plus {kvs : List (Key × V)} {es : List (D × D)} {p : Addr} (h : RxK K W H kvs es) (n : H p = none) : RxK K (CF.plus W p) H kvs es :=
  RxK.go (fun _ _ e _ => e) (fun a o e z => z.elim id fun q => by subst q; rw [n] at e; cases e) es kvs h

theorem RxL.length : ∀ {vs : List V} {ds : List D}, RxL K W H vs ds → vs.length = ds.length
  | _, [], h => by cases h; rfl
  | _, _ :: _, h => by
    cases h with
    | cons _ t => rw [List.length_cons, List.length_cons, RxL.length t]
theorem RxL.append : ∀ {vs : List V} {ds : List D} {ws : List V} {es : List D}, RxL K W H vs ds → RxL K W H ws es → RxL K W H (vs ++ ws) (ds ++ es)
  | _, [], _, _, h, g => by cases h; exact g
  | _, _ :: _, _, _, h, g => by
    cases h with
    | cons r t => exact .cons r (RxL.append t g)
theorem RxL.take : ∀ (n : Nat) {vs : List V} {ds : List D}, RxL K W H vs ds → RxL K W H (vs.take n) (ds.take n)
  | 0, _, _, _ => by simpa using RxL.nil
  | _ + 1, _, [], h => by cases h; simpa using RxL.nil
  | n + 1, _, _ :: _, h => by
    cases h with
    | cons r t => simpa using RxL.cons r (RxL.take n t)
theorem RxL.drop : ∀ (n : Nat) {vs : List V} {ds : List D}, RxL K W H vs ds → RxL K W H (vs.drop n) (ds.drop n)
  | 0, _, _, h => by simpa using h
  | _ + 1, _, [], h => by cases h; simpa using RxL.nil
  | n + 1, _, _ :: _, h => by
    cases h with
    | cons r t => simpa using RxL.drop n t
theorem RxL.get : ∀ {i : Nat} {vs : List V} {ds : List D} {d : D}, RxL K W H vs ds → ds[i]? = some d → ∃ v, vs[i]? = some v ∧ Rx K W H v d
  | _, _, [], _, _, e => by simp at e
  | 0, _, _ :: _, _, h, e => by
    cases h with
    | cons r t => simp at e; subst e; exact ⟨_, rfl, r⟩
  | i + 1, _, _ :: _, _, h, e => by
    cases h with
    | cons r t => simpa using RxL.get (i := i) t (by simpa using e)
theorem RxL.get' : ∀ {i : Nat} {vs : List V} {ds : List D} {v : V}, RxL K W H vs ds → vs[i]? = some v → ∃ d, ds[i]? = some d ∧ Rx K W H v d := fun {i vs ds v} h e => by
  have hl := h.length
  obtain ⟨hi, _⟩ := List.getElem?_eq_some_iff.mp e
  have e2 : ds[i]? = some ds[i] := List.getElem?_eq_getElem (by omega)
  obtain ⟨w, e3, r⟩ := h.get e2
  rw [e] at e3; cases e3
  exact ⟨_, e2, r⟩
theorem RxL.set : ∀ {vs : List V} {ds : List D} (i : Nat) {v : V} {d : D}, RxL K W H vs ds → Rx K W H v d → RxL K W H (vs.set i v) (ds.set i d)
  | _, [], _, _, _, h, _ => by cases h; exact .nil
  | _, _ :: _, 0, _, _, h, r => by
    cases h with
    | cons _ t => exact .cons r t
  | _, _ :: _, i + 1, _, _, h, r => by
    cases h with
    | cons q t => exact .cons q (RxL.set i t r)
theorem RxL.one {v : V} {d : D} (r : Rx K W H v d) : RxL K W H [v] [d] := .cons r .nil

/-- the object at a is one's own: it may stand in W, what is in it does not -/
def OwnAt (K : PySem.W.Frag) (W : Addr → Prop) (H : Hp) (a : Addr) : D → Prop
  | .list ds => ∃ xs, H a = some (.lst xs) ∧ RxL K W H xs ds
  | .dict es => ∃ kvs, H a = some (.dK kvs) ∧ RxK K W H kvs es
  | _ => False
/-- a value that is looked at: a tree, or an own object -/
def Tx (K : PySem.W.Frag) (W : Addr → Prop) (H : Hp) (v : V) (d : D) : Prop := Rx K W H v d ∨ ∃ a, v = .ref a ∧ OwnAt K W H a d
theorem OwnAt.go {a : Addr} {d : D} (k : ∀ a u, L2.Rd H a u → ¬ W a → L2.Rd H' a u) (w : ∀ a o, H a = some o → W' a → W a) (ha : ∀ o, H a = some o → H' a = some o) (h : OwnAt K W H a d) : OwnAt K W' H' a d := by
  cases d with
  | list ds => obtain ⟨xs, e, r⟩ := h; exact ⟨xs, ha _ e, RxL.go k w _ _ r⟩
  | dict es => obtain ⟨xs, e, r⟩ := h; exact ⟨xs, ha _ e, RxK.go k w _ _ r⟩
  | _ => exact h.elim
theorem OwnAt.some {a : Addr} {d : D} (h : OwnAt K W H a d) : ∃ o, H a = some o := by
  cases d with
  | list ds => obtain ⟨xs, e, r⟩ := h; exact ⟨_, e⟩
  | dict es => obtain ⟨xs, e, r⟩ := h; exact ⟨_, e⟩
  | _ => exact h.elim
theorem OwnAt.less {a : Addr} {d : D} (h : OwnAt K W H a d) (w : ∀ a, W' a → W a) : OwnAt K W' H a d := h.go (fun _ _ e _ => e) (fun a _ _ z => w a z) fun _ e => e
theorem OwnAt.plus {a p : Addr} {d : D} (h : OwnAt K W H a d) (n : H p = none) : OwnAt K (CF.plus W p) H a d :=
  h.go (fun _ _ e _ => e) (fun a o e z => z.elim id fun q => by subst q; rw [n] at e; cases e) fun _ e => e
theorem OwnAt.rx {a : Addr} {d : D} (h : OwnAt K W H a d) (n : ¬ W a) : Rx K W H (.ref a) d := by
  cases d with
  | list ds => obtain ⟨xs, e, r⟩ := h; exact .lst n (.inl e) r
  | dict es => obtain ⟨xs, e, r⟩ := h; exact .dic n (.inl e) r
  | _ => exact h.elim
theorem Tx.of {v : V} {d : D} (h : Rx K W H v d) : Tx K W H v d := .inl h
theorem Tx.bare {v : V} {d : D} (h : Tx K W H v d) : Rx K (fun _ => False) H v d := by
  rcases h with h | ⟨a, rfl, h⟩
  · exact h.less fun _ z => z.elim
  · exact (h.less (W' := fun _ => False) fun _ z => z.elim).rx fun z => z
theorem Tx.list {v : V} {ds : List D} (h : Tx K W H v (.list ds)) : ∃ a xs, v = .ref a ∧ L2.Rd H a (.lst xs) ∧ RxL K W H xs ds := by
  rcases h with h | ⟨a, rfl, xs, e, r⟩
  · cases h with
    | lst _ hr hl => exact ⟨_, _, rfl, hr, hl⟩
  · exact ⟨a, xs, rfl, .inl e, r⟩
theorem Rx.tuple {v : V} {ds : List D} (h : Rx K W H v (.tuple ds)) : ∃ a xs, v = .ref a ∧ SqT K H a xs ∧ RxL K W H xs ds := by
  cases h with
  | tup _ hr hl => exact ⟨_, _, rfl, .inl hr, hl⟩
  | tupK hk hl => exact ⟨_, _, rfl, .inr hk, hl⟩
theorem Tx.tuple {v : V} {ds : List D} (h : Tx K W H v (.tuple ds)) : ∃ a xs, v = .ref a ∧ SqT K H a xs ∧ RxL K W H xs ds := by
  rcases h with h | ⟨a, rfl, h⟩
  · exact h.tuple
  · exact h.elim
theorem Tx.rxT {v : V} {ds : List D} (h : Tx K W H v (.tuple ds)) : Rx K W H v (.tuple ds) := by
  rcases h with h | ⟨a, rfl, h⟩
  · exact h
  · exact h.elim
theorem Tx.dict {v : V} {es : List (D × D)} (h : Tx K W H v (.dict es)) : ∃ a kvs, v = .ref a ∧ L2.Rd H a (.dK kvs) ∧ RxK K W H kvs es := by
  rcases h with h | ⟨a, rfl, xs, e, r⟩
  · cases h with
    | dic _ hr hl => exact ⟨_, _, rfl, hr, hl⟩
  · exact ⟨a, xs, rfl, .inl e, r⟩
theorem Tx.int {v : V} {i : Int} (h : Tx K W H v (.int i)) : v = .int i := by
  rcases h with h | ⟨a, rfl, h⟩
  · cases h; rfl
  · exact h.elim
theorem Tx.str {v : V} {i : Str} (h : Tx K W H v (.str i)) : v = .str i := by
  rcases h with h | ⟨a, rfl, h⟩
  · cases h; rfl
  · exact h.elim
theorem Tx.bool {v : V} {i : Bool} (h : Tx K W H v (.bool i)) : v = .bl i := by
  rcases h with h | ⟨a, rfl, h⟩
  · cases h; rfl
  · exact h.elim
theorem Tx.none {v : V} (h : Tx K W H v .none) : v = .non := by
  rcases h with h | ⟨a, rfl, h⟩
  · cases h; rfl
  · exact h.elim
end

/-! ### trees off the heap itself -/
section
variable {X : Cx} {pins : List (Addr × Obj)} {σ : L2.St} {H : Hp} {s : Shared} {W : Addr → Prop}
theorem keyD_reads {h : Heap} {k : Key} {u : Value} (r : keyIs k u = true) : Reads h u (keyD k) [] := by
  rcases keyIs_shape r with ⟨i, t, rfl, rfl⟩ | ⟨x, t, rfl, rfl⟩
  · exact .int i t
  · exact .str x t
theorem pairs_keys {h : Heap} {P : Program} {w : World} : ∀ {es : List DictEntry} {vs : List (Key × Value)}, Pairs (mixKind P w) es vs → ∃ as, ReadsAll h (es.map (·.key)) (vs.map fun p => keyD p.1) as
  | _, _, .nil => ⟨_, .nil⟩
  | _, _, .cons h1 _ t => by
    obtain ⟨as, r⟩ := pairs_keys (h := h) t
    exact ⟨_, .cons (keyD_reads h1) r⟩
theorem pairs_vals {P : Program} {w : World} : ∀ {es : List DictEntry} {vs : List (Key × Value)}, Pairs (mixKind P w) es vs → es.map (·.val) = vs.map (·.2)
  | _, _, .nil => rfl
  | _, _, .cons _ h2 t => by rw [List.map_cons, List.map_cons, pairs_vals t, h2]
theorem kv_keys : ∀ {kvs : List (Key × V)} {vs : List (Key × Value)}, KV kvs vs → kvs.map (·.1) = vs.map (·.1)
  | _, _, .nil => rfl
  | _, _, .cons h t => by rw [List.map_cons, List.map_cons, kv_keys t, h.1]
theorem rxk_keys {K : PySem.W.Frag} : ∀ {kvs : List (Key × V)} {es : List (D × D)}, RxK K W H kvs es → es.map (·.1) = kvs.map fun p => keyD p.1
  | _, [], h => by cases h; rfl
  | _, (_, _) :: _, h => by
    cases h with
    | cons _ t => rw [List.map_cons, List.map_cons, rxk_keys t]
mutual
theorem Rx.reads (I : Inv X pins σ H s) : ∀ (d : D) (v : V) (u : Value), Rx X.K W H v d → RelV v u → ∃ as, Reads s.heap u d as
  | .none, _, _, h, r => by
    cases h
    cases r
    exact ⟨_, Reads.none⟩
  | .bool b, _, _, h, r => by
    cases h
    cases r
    exact ⟨_, Reads.bool b⟩
  | .int i, _, _, h, r => by
    cases h
    obtain ⟨t, rfl⟩ := r
    exact ⟨_, Reads.int i t⟩
  | .str x, _, _, h, r => by
    cases h
    obtain ⟨t, rfl⟩ := r
    exact ⟨_, Reads.str x t⟩
  | .list ds, _, _, h, r => by
    cases h with
    | lst hw hs ha =>
      cases r
      obtain ⟨its, rv, ⟨o, n, ho, hc, _, hd⟩, _⟩ := I.list (.inl hs)
      obtain ⟨as, hr⟩ := RxL.reads I ds _ its ha rv
      exact ⟨_, Reads.list ho hc hd hr⟩
  | .tuple ds, _, _, h, r => by
    cases h with
    | tup hw hs ha =>
      cases r
      obtain ⟨its, rv, ⟨o, ho, hc, n, hd⟩, _⟩ := I.tuple (.inl hs)
      obtain ⟨as, hr⟩ := RxL.reads I ds _ its ha rv
      exact ⟨_, Reads.tuple ho hc hd hr⟩
    | tupK hs ha =>
      cases r
      obtain ⟨its, rv, ⟨o, ho, hc, n, hd⟩, _⟩ := I.tuple (.inr hs)
      obtain ⟨as, hr⟩ := RxL.reads I ds _ its ha rv
      exact ⟨_, Reads.tuple ho hc hd hr⟩
  | .dict es, _, _, h, r => by
    cases h with
    | @dic _ kvs _ hw hs ha =>
      cases r
      obtain ⟨z, y, vs, kv, o, es', ep, ho, hx, hd, hk, hp, nd⟩ := hs.ok I.hok
      obtain ⟨as, h1⟩ := pairs_keys (h := s.heap) hp
      obtain ⟨bs, h2⟩ := RxK.reads I es _ _ ha kv
      refine ⟨_, Reads.dict (as := as) (bs := bs) ho hx.1 hd ?_ ?_⟩
      · rw [rxk_keys ha]
        have e : (vs.map fun p => keyD p.1) = kvs.map fun p => keyD p.1 := by
          rw [show (vs.map fun p => keyD p.1) = (vs.map (·.1)).map keyD by rw [List.map_map]; rfl, ← kv_keys kv, List.map_map]
          rfl
        rw [e] at h1
        exact h1
      · rw [pairs_vals hp]
        exact h2
theorem RxL.reads (I : Inv X pins σ H s) : ∀ (ds : List D) (vs : List V) (us : List Value), RxL X.K W H vs ds → Vals vs us → ∃ as, ReadsAll s.heap us ds as
  | [], _, _, h, r => by
    cases h
    cases r
    exact ⟨_, ReadsAll.nil⟩
  | d :: ds, _, _, h, r => by
    cases h with
    | cons h1 h2 =>
      cases r with
      | cons r1 r2 =>
        obtain ⟨as, q1⟩ := Rx.reads I d _ _ h1 r1
        obtain ⟨bs, q2⟩ := RxL.reads I ds _ _ h2 r2
        exact ⟨_, ReadsAll.cons q1 q2⟩
theorem RxK.reads (I : Inv X pins σ H s) : ∀ (es : List (D × D)) (kvs : List (Key × V)) (vs : List (Key × Value)), RxK X.K W H kvs es → KV kvs vs → ∃ as, ReadsAll s.heap (vs.map (·.2)) (es.map (·.2)) as
  | [], _, _, h, r => by
    cases h
    cases r
    exact ⟨_, ReadsAll.nil⟩
  | (_, d) :: es, _, _, h, r => by
    cases h with
    | cons h1 h2 =>
      cases r with
      | cons r1 r2 =>
        obtain ⟨as, q1⟩ := Rx.reads I d _ _ h1 r1.2
        obtain ⟨bs, q2⟩ := RxK.reads I es _ _ h2 r2
        exact ⟨_, ReadsAll.cons q1 q2⟩
end
theorem Tx.reads (I : Inv X pins σ H s) {d : D} {v : V} {u : Value} (h : Tx X.K W H v d) (r : RelV v u) : ∃ as, Reads s.heap u d as := Rx.reads I d v u h.bare r
end

/-! ### slots -/
inductive Slot where
  | un
  | dat (d : D)
  | own (d : D)
def SlotRel (K : PySem.W.Frag) (W O : Addr → Prop) (H : Hp) (x : Option V) : Slot → Prop
  | .un => True
  | .dat d => ∃ v, x = some v ∧ Rx K W H v d
  | .own d => ∃ a, x = some (.ref a) ∧ O a ∧ OwnAt K W H a d
structure SRel (K : PySem.W.Frag) (W O : Addr → Prop) (H : Hp) (σ : L2.St) (ρ : List Slot) : Prop where
  len : σ.length = ρ.length
  ow : ∀ a, O a → W a
  tr : ∀ a, W a → ∃ o, H a = some o
  sl : ∀ (i : Nat) (x : Option V) (r : Slot), σ[i]? = some x → ρ[i]? = some r → SlotRel K W O H x r
  ne : ∀ (i j : Nat) (a : Addr) (d e : D), i ≠ j → ρ[i]? = some (.own d) → ρ[j]? = some (.own e) → σ[i]? = some (some (.ref a)) → σ[j]? = some (some (.ref a)) → False

/-! ### the monad -/
structure Exc where
  cls : Str
  args : List D
inductive R (α : Type) where
  | ok (a : α) (ρ : List Slot)
  | ex (e : Exc) (ρ : List Slot)
abbrev M (α : Type) := List Slot → Option (R α)
def M.pure {α : Type} (a : α) : M α := fun ρ => some (.ok a ρ)
def M.bind {α β : Type} (m : M α) (f : α → M β) : M β := fun ρ =>
  match m ρ with
  | some (.ok a ρ') => f a ρ'
  | some (.ex e ρ') => some (.ex e ρ')
  | none => none
instance : Monad M where
  pure := M.pure
  bind := M.bind
/-- a value that may lack -/
def lift {α : Type} (o : Option α) : M α := fun ρ => o.map fun a => .ok a ρ

/-- the exception's class and fields -/
def ExcRel (K : PySem.W.Frag) (W : Addr → Prop) (H : Hp) (c : Value) (dx : Option Addr) (e : Exc) : Prop :=
  ∃ a, c = .ref a ∧ PySem.W.nsIn K mainGlobals e.cls = some (some (.ref a)) ∧
    ((dx = none ∧ e.args = []) ∨ ∃ d fs, dx = some d ∧ H d = some (.xd fs) ∧ RxL K W H (fs.map (·.2)) e.args)

/-- what is to hold behind a run that came to r -/
def Out (K : PySem.W.Frag) (Ew : WX) (W O : Addr → Prop) (σ : L2.St) (H : Hp) {α : Type} (Q : α → List Slot → Hp → Prop) : Option (R α) → Prop
  | some (.ok a ρ') => ∀ H', KeepO W O H H' → SRel K W O H' σ ρ' → Q a ρ' H'
  | some (.ex e ρ') => ∀ c dx H', KeepO W O H H' → SRel K W O H' σ ρ' → ExcRel K W H' c dx e → Ew c dx σ H'
  | none => False
section
variable {K : PySem.W.Frag} {Ew : WX} {W O : Addr → Prop} {σ : L2.St} {H H1 : Hp} {α β : Type} {Q Q' : α → List Slot → Hp → Prop} {r : Option (R α)} {ρ : List Slot}
theorem Out.shift (h : Out K Ew W O σ H Q r) (k : KeepO W O H H1) : Out K Ew W O σ H1 Q r := by
  match r, h with
  | some (.ok a ρ'), h => exact fun H' k' R => h H' (k.trans k') R
  | some (.ex e ρ'), h => exact fun c dx H' k' R x => h c dx H' (k.trans k') R x
theorem Out.mono (h : Out K Ew W O σ H Q r) (f : ∀ a ρ' H', KeepO W O H H' → SRel K W O H' σ ρ' → Q a ρ' H' → Q' a ρ' H') : Out K Ew W O σ H Q' r := by
  match r, h with
  | some (.ok a ρ'), h => exact fun H' k' R => f a ρ' H' k' R (h H' k' R)
  | some (.ex e ρ'), h => exact h
theorem Out.bind {m : M α} {f : α → M β} {Q : β → List Slot → Hp → Prop} (h : Out K Ew W O σ H Q ((m >>= f) ρ)) : Out K Ew W O σ H (fun a ρ1 H1 => Out K Ew W O σ H1 Q (f a ρ1)) (m ρ) := by
  have h : Out K Ew W O σ H Q (M.bind m f ρ) := h
  unfold M.bind at h
  generalize m ρ = r at h
  match r, h with
  | some (.ok a ρ'), h => exact fun H' k' R => Out.shift h k'
  | some (.ex e ρ'), h => exact h
theorem Out.lift {o : Option α} (h : Out K Ew W O σ H Q (lift o ρ)) (R : SRel K W O H σ ρ) : ∃ a, o = some a ∧ ∀ H', KeepO W O H H' → SRel K W O H' σ ρ → Q a ρ H' := by
  cases o with
  | none => exact h.elim
  | some a => exact ⟨a, rfl, h⟩
theorem Out.pure {a : α} (h : Out K Ew W O σ H Q ((pure a : M α) ρ)) : ∀ H', KeepO W O H H' → SRel K W O H' σ ρ → Q a ρ H' := h
end

section
variable {K : PySem.W.Frag} {W O : Addr → Prop} {H H' : Hp} {σ : L2.St} {ρ : List Slot}
theorem Rx.keepO {v : V} {d : D} (h : Rx K W H v d) (R : SRel K W O H σ ρ) (k : KeepO W O H H') : Rx K W H' v d :=
  Rx.go (fun a u e n => k.rest a u e n) (fun _ _ _ z => z) d v h
theorem RxL.keepO {vs : List V} {ds : List D} (h : RxL K W H vs ds) (R : SRel K W O H σ ρ) (k : KeepO W O H H') : RxL K W H' vs ds :=
  RxL.go (fun a u e n => k.rest a u e n) (fun _ _ _ z => z) ds vs h
/-- more is tracked -/
theorem SRel.same (R : SRel K W O H σ ρ) (s : Same H H') : SRel K W O H' σ ρ := by
  refine ⟨R.len, R.ow, fun a w => ?_, fun i x r h1 h2 => ?_, R.ne⟩
  · obtain ⟨o, e⟩ := R.tr a w
    exact ⟨o, s a o e⟩
  · have q := R.sl i x r h1 h2
    cases r with
    | un => trivial
    | dat d => obtain ⟨v, e, h⟩ := q; exact ⟨v, e, h.same s⟩
    | own d => obtain ⟨a, e, o, h⟩ := q; exact ⟨a, e, o, h.go (fun a u e _ => rd_same s e) (fun _ _ _ z => z) fun o e => s a o e⟩
theorem SRel.plus {p : Addr} {o : HO} (R : SRel K W O H σ ρ) (n : H p = none) (e : H' p = some o) (s : Same H H') : SRel K (CF.plus W p) (CF.plus O p) H' σ ρ := by
  refine ⟨R.len, fun a z => z.elim (fun q => .inl (R.ow a q)) .inr, fun a w => ?_, fun i x r h1 h2 => ?_, R.ne⟩
  · rcases w with w | rfl
    · obtain ⟨o, e⟩ := R.tr a w
      exact ⟨o, s a o e⟩
    · exact ⟨o, e⟩
  · have q := R.sl i x r h1 h2
    cases r with
    | un => trivial
    | dat d => obtain ⟨v, e, h⟩ := q; exact ⟨v, e, (h.plus n).same s⟩
    | own d =>
      obtain ⟨a, e, oo, h⟩ := q
      exact ⟨a, e, .inl oo, (h.plus n).go (fun a u e _ => rd_same s e) (fun _ _ _ z => z) fun o e => s a o e⟩
theorem SRel.less {W' O' : Addr → Prop} (R : SRel K W' O' H σ ρ) (w : ∀ a, W a → W' a) (ow : ∀ a, O a → W a) (oo : ∀ (i : Nat) (a : Addr) (d : D), ρ[i]? = some (.own d) → σ[i]? = some (some (.ref a)) → O a) : SRel K W O H σ ρ := by
  refine ⟨R.len, ow, fun a z => R.tr a (w a z), fun i x r h1 h2 => ?_, R.ne⟩
  have q := R.sl i x r h1 h2
  cases r with
  | un => trivial
  | dat d => obtain ⟨v, e, h⟩ := q; exact ⟨v, e, h.less w⟩
  | own d =>
    obtain ⟨a, e, o, h⟩ := q
    subst e
    exact ⟨a, rfl, oo i a d h2 h1, h.less w⟩
/-- a slot's value -/
theorem SRel.dat (R : SRel K W O H σ ρ) {i : Nat} {d : D} (h : ρ[i]? = some (.dat d)) : ∃ v, σ[i]? = some (some v) ∧ Rx K W H v d := by
  obtain ⟨hi, _⟩ := List.getElem?_eq_some_iff.mp h
  have hj : i < σ.length := by rw [R.len]; exact hi
  have e : σ[i]? = some σ[i] := List.getElem?_eq_getElem hj
  obtain ⟨v, e2, r⟩ := R.sl i _ _ e h
  exact ⟨v, by rw [e, e2], r⟩
theorem SRel.own (R : SRel K W O H σ ρ) {i : Nat} {d : D} (h : ρ[i]? = some (.own d)) : ∃ a, σ[i]? = some (some (.ref a)) ∧ O a ∧ OwnAt K W H a d := by
  obtain ⟨hi, _⟩ := List.getElem?_eq_some_iff.mp h
  have hj : i < σ.length := by rw [R.len]; exact hi
  have e : σ[i]? = some σ[i] := List.getElem?_eq_getElem hj
  obtain ⟨v, e2, r⟩ := R.sl i _ _ e h
  exact ⟨v, by rw [e, e2], r⟩
end

/-! ### the readings of trees -/
/-- a tree -/
def tD (K : PySem.W.Frag) (Ew : WX) (m : M D) : TE := fun σ H Q => ∃ W O ρ, SRel K W O H σ ρ ∧ Out K Ew W O σ H (fun d _ H' => ∀ v, Rx K W H' v d → Q v H') (m ρ)
/-- an object of its own -/
def tF (K : PySem.W.Frag) (Ew : WX) (m : M D) : TE := fun σ H Q => ∃ W O ρ, SRel K W O H σ ρ ∧
  Out K Ew W O σ H (fun d ρ' H' => ∀ a, SRel K (plus W a) (plus O a) H' σ ρ' → H a = none → OwnAt K (plus W a) H' a d → Q (.ref a) H') (m ρ)
/-- a thing that is looked at: a tree, or what stands in a slot -/
inductive LV where
  | dat (d : D)
  | slot (i : Nat)
def LRel (K : PySem.W.Frag) (W : Addr → Prop) (H : Hp) (σ : L2.St) (v : V) : LV → Prop
  | .dat d => Rx K W H v d
  | .slot i => σ[i]? = some (some v)
def tL (K : PySem.W.Frag) (Ew : WX) (m : M LV) : TE := fun σ H Q => ∃ W O ρ, SRel K W O H σ ρ ∧ Out K Ew W O σ H (fun d _ H' => ∀ v, LRel K W H' σ v d → Q v H') (m ρ)
/-- a test -/
def tT (K : PySem.W.Frag) (Ew : WX) (m : M Bool) : TT := fun σ H Q => ∃ W O ρ, SRel K W O H σ ρ ∧ Out K Ew W O σ H (fun b _ H' => Q b H') (m ρ)
/-- a list of trees -/
def tDs (K : PySem.W.Frag) (Ew : WX) (m : M (List D)) : TA := fun σ H Q => ∃ W O ρ, SRel K W O H σ ρ ∧ Out K Ew W O σ H (fun ds _ H' => ∀ vs, RxL K W H' vs ds → Q vs H') (m ρ)
inductive LRels (K : PySem.W.Frag) (W : Addr → Prop) (H : Hp) (σ : L2.St) : List V → List LV → Prop
  | nil : LRels K W H σ [] []
  | cons {v : V} {vs : List V} {l : LV} {ls : List LV} : LRel K W H σ v l → LRels K W H σ vs ls → LRels K W H σ (v :: vs) (l :: ls)
def tLs (K : PySem.W.Frag) (Ew : WX) (m : M (List LV)) : TA := fun σ H Q => ∃ W O ρ, SRel K W O H σ ρ ∧ Out K Ew W O σ H (fun ds _ H' => ∀ vs, LRels K W H' σ vs ds → Q vs H') (m ρ)

theorem PE.imp {X : Cx} {e : Expr} {t t' : TE} (h : PE X e t) (i : ∀ σ H Q, t' σ H Q → t σ H Q) : PE X e t' := ⟨fun pins s σ H Q I hw => h.run pins s σ H Q I (i σ H Q hw)⟩
theorem PT.imp {X : Cx} {e : Expr} {t t' : TT} (h : PT X e t) (i : ∀ σ H Q, t' σ H Q → t σ H Q) : PT X e t' := ⟨fun pins s σ H Q I hw => h.run pins s σ H Q I (i σ H Q hw)⟩
theorem PW.imp {X : Cx} {e : Expr} {t t' : TT} (h : PW X e t) (i : ∀ σ H Q, t' σ H Q → t σ H Q) : PW X e t' := ⟨fun wh pins s σ H Q I hw => h.run wh pins s σ H Q I (i σ H Q hw)⟩
theorem PA.imp {X : Cx} {es : List Expr} {t t' : TA} (h : PA X es t) (i : ∀ σ H Q, t' σ H Q → t σ H Q) : PA X es t' := ⟨fun pos pins s σ H Q I hw => h.run pos pins s σ H Q I (i σ H Q hw)⟩
end CF
end
section
/-! CF, part b0: a tuple times any int. -/
namespace CF
open PySem PySem.Spec PyProof.Rows L2
theorem tuple_mul1 (l : Addr) (items : Array Value) (n : Nat) (dd : Option Addr) (sl : Array (Option Value)) (x : Int) (u : Tok) (c0 : (decide (x < -(2 ^ 63)) || decide (x ≥ 2 ^ 63)) = false) (c1 : (items.isEmpty || x == 1) = true) :
    Meets (Builtin.«tuple.__mul__» ⟨[.ref l, .int x u], []⟩) (fun _ R s => s.heap.get? l = some { cls := .type "tuple", dict := dd, data := .seq items n, slots := sl } ∧ R (.ok (.ret (Value.ref l))) s) :=
  .of_wp fun prog w A R s h => by
    obtain ⟨hp, g, d, tk, os⟩ := s
    obtain ⟨hl, h⟩ := h
    have f1 := AutoSeq1.idx_int
    wp_walk using wpAny_loadPart' hl
    repeat (first
      | (refine wpAny_ite_false (decide_eq_false (by rw [c0]; exact Bool.false_ne_true)) ?_; wp_walk using wpAny_loadPart' hl)
      | (refine wpAny_ite_true (decide_eq_true (by rw [c1])) ?_; wp_walk using wpAny_loadPart' hl))
    exact ⟨_, rfl, h⟩
theorem tuple_mul0 (l : Addr) (items : Array Value) (n : Nat) (dd : Option Addr) (sl : Array (Option Value)) (x : Int) (u : Tok) (c0 : (decide (x < -(2 ^ 63)) || decide (x ≥ 2 ^ 63)) = false) (c1 : (items.isEmpty || x == 1) = false) (c2 : (decide (x ≤ 0) || items.isEmpty) = true) :
    Meets (Builtin.«tuple.__mul__» ⟨[.ref l, .int x u], []⟩) (fun _ R s => s.heap.get? l = some { cls := .type "tuple", dict := dd, data := .seq items n, slots := sl } ∧
      R (.ok (.ret (Value.ref s.heap.objs.size))) { s with heap := s.heap.push { cls := Value.type "tuple", data := Data.seq #[] }, toks := s.toks }) :=
  .of_wp fun prog w A R s h => by
    obtain ⟨hp, g, d, tk, os⟩ := s
    obtain ⟨hl, h⟩ := h
    have f1 := AutoSeq1.idx_int
    wp_walk using wpAny_loadPart' hl
    repeat (first
      | (refine wpAny_ite_false (decide_eq_false (by rw [c0]; exact Bool.false_ne_true)) ?_; wp_walk using wpAny_loadPart' hl)
      | (refine wpAny_ite_false (decide_eq_false (by rw [c1]; exact Bool.false_ne_true)) ?_; wp_walk using wpAny_loadPart' hl)
      | (refine wpAny_ite_true (decide_eq_true (by rw [c2])) ?_; wp_walk using wpAny_loadPart' hl))
    exact ⟨_, rfl, h⟩
/-- a tuple times an int: once is the tuple itself -/
def rRepA (K : PySem.W.Frag) : R2 := fun x y H Q => ∃ l k xs, x = .ref l ∧ y = .int k ∧ SqT K H l xs ∧ xs ≠ [] ∧ -(2 ^ 63) ≤ k ∧ k ≤ 1000 ∧ xs.length ≤ 1000 ∧ (k = 1 → Q (.ref l) H) ∧ (k ≠ 1 → ∀ p, H p = none → Q (.ref p) (upd H p (.tup (List.replicate k.toNat xs).flatten)))
theorem op_repA {X : Cx} : OpR X (binaryOp .Mult) (rRepA X.K) := by
  intro pins s σ H x y v u Q I rx ry h
  obtain ⟨l, k, xs, rfl, rfl, hT, hne, h1, h2, hz, q1, q⟩ := h
  by_cases k2 : 2 ≤ k
  · exact op_repT pins s σ H _ _ v u Q I rx ry ⟨l, k, xs, rfl, rfl, hT, hne, k2, h2, hz, q (by omega)⟩
  cases rx
  obtain ⟨t, rfl⟩ := ry
  obtain ⟨its, r, ⟨⟨cls, dd, data, sl⟩, ho, hc, n, hd⟩, hs⟩ := I.tuple hT
  simp only at hc hd
  subst hc hd
  have hle : its.length = xs.length := r.length.symm
  have hn : its ≠ [] := fun e => hne (by
    rw [e] at hle
    exact List.eq_nil_of_length_eq_zero hle.symm)
  have hi : its.toArray.isEmpty = false := by
    cases its with
    | nil => exact absurd rfl hn
    | cons a b => rfl
  have c0 : (decide (k < -(2 ^ 63)) || decide (k ≥ 2 ^ 63)) = false := by
    rw [decide_eq_false (by omega), decide_eq_false (by omega)] <;> rfl
  by_cases k1 : k = 1
  · have c1 : (its.toArray.isEmpty || k == 1) = true := by
      rw [hi, Bool.false_or]
      exact beq_iff_eq.mpr k1
    refine wpAny_binaryOp_repeat_ref (T := "tuple") (U := "int") (by decide) ⟨_, ho, rfl⟩ (fun s' => typeIs_int s' k t) noFill_tuple_mul F.fills_int_mul F.slot_int_rmul repeat_tuple F.slot_int_index.lookup
      (call_meets F.slot_int_rmul (typeIs_int s k t) F.entry_int_rmul (F.args_int_rmul_2 _ _) (int_rmul_tuple k t l its.toArray n dd sl)
        ⟨ho, rfl, ⟨_, ho, rfl⟩, call_meets F.slot_tuple_mul ⟨_, ho, rfl⟩ F.entry_tuple_mul (F.args_tuple_mul_2 _ _) (tuple_mul1 l its.toArray n dd sl k t c0 c1) ⟨ho, ?_⟩⟩)
    exact ⟨.ref l, H, I, rfl, q1 k1⟩
  · have c1 : (its.toArray.isEmpty || k == 1) = false := by
      rw [hi, Bool.false_or]
      exact beq_eq_false_iff_ne.mpr k1
    have c2 : (decide (k ≤ 0) || its.toArray.isEmpty) = true := by
      rw [decide_eq_true (by omega)]
      rfl
    refine wpAny_binaryOp_repeat_ref (T := "tuple") (U := "int") (by decide) ⟨_, ho, rfl⟩ (fun s' => typeIs_int s' k t) noFill_tuple_mul F.fills_int_mul F.slot_int_rmul repeat_tuple F.slot_int_index.lookup
      (call_meets F.slot_int_rmul (typeIs_int s k t) F.entry_int_rmul (F.args_int_rmul_2 _ _) (int_rmul_tuple k t l its.toArray n dd sl)
        ⟨ho, rfl, ⟨_, ho, rfl⟩, call_meets F.slot_tuple_mul ⟨_, ho, rfl⟩ F.entry_tuple_mul (F.args_tuple_mul_2 _ _) (tuple_mul0 l its.toArray n dd sl k t c0 c1 c2) ⟨ho, ?_⟩⟩)
    have e : (List.replicate k.toNat xs).flatten = [] := by
      rw [show k.toNat = 0 by omega]
      rfl
    have q := q k1
    rw [e] at q
    refine ⟨.ref s.heap.objs.size, _, I.laid (t' := s.toks) (o := .tup []) (fun b ob q => Heap.get?_push_of_some _ q) (Nat.le_refl _) ?_, rfl, q _ (I.hok.fresh (Nat.le_refl _))⟩
    exact ⟨by rw [sizeLine_eq]; decide, [], .nil, IsTup.new _ _⟩
end CF
end
section
/-! CF, part b: operators over trees. -/
namespace CF
open PySem PySem.Spec PyProof.Rows L2

/-- a two-place operation over trees: f says its value -/
def rD (K : PySem.W.Frag) (f : D → D → Option D) : R2 := fun x y H Q => ∃ (W : Addr → Prop) (d e r : D), (∀ a, W a → ∃ o, H a = some o) ∧ Tx K W H x d ∧ Tx K W H y e ∧ f d e = some r ∧
  ∀ w H', Same H H' → Rx K W H' w r → Q w H'
/-- .. whose value is a new object -/
def rF (K : PySem.W.Frag) (f : D → D → Option D) : R2 := fun x y H Q => ∃ (W : Addr → Prop) (d e r : D), (∀ a, W a → ∃ o, H a = some o) ∧ Tx K W H x d ∧ Tx K W H y e ∧ f d e = some r ∧
  ∀ p H', Same H H' → H p = none → OwnAt K (plus W p) H' p r → Q (.ref p) H'
/-- a call over trees -/
inductive TxL (K : PySem.W.Frag) (W : Addr → Prop) (H : Hp) : List V → List D → Prop
  | nil : TxL K W H [] []
  | cons {v : V} {vs : List V} {d : D} {ds : List D} : Tx K W H v d → TxL K W H vs ds → TxL K W H (v :: vs) (d :: ds)
def rC (K : PySem.W.Frag) (f : List D → Option D) : List V → Hp → VK → Prop := fun xs H Q => ∃ (W : Addr → Prop) (ds : List D) (r : D), (∀ a, W a → ∃ o, H a = some o) ∧ TxL K W H xs ds ∧ f ds = some r ∧
  ∀ w H', Same H H' → Rx K W H' w r → Q w H'
def rCF (K : PySem.W.Frag) (f : List D → Option D) : List V → Hp → VK → Prop := fun xs H Q => ∃ (W : Addr → Prop) (ds : List D) (r : D), (∀ a, W a → ∃ o, H a = some o) ∧ TxL K W H xs ds ∧ f ds = some r ∧
  ∀ p H', Same H H' → H p = none → OwnAt K (plus W p) H' p r → Q (.ref p) H'
theorem own_rx {K : PySem.W.Frag} {W : Addr → Prop} {H H' : Hp} {p : Addr} {r : D} (tr : ∀ a, W a → ∃ o, H a = some o) (n : H p = none) (h : OwnAt K (plus W p) H' p r) : Rx K W H' (.ref p) r :=
  (h.less fun _ z => .inl z).rx fun z => by
    obtain ⟨o, e⟩ := tr p z
    rw [n] at e
    cases e
section
variable {X : Cx}
theorem OpR.imp {f : Value → Value → Sem Value} {r r' : R2} (h : OpR X f r) (i : ∀ x y H Q, r' x y H Q → r x y H Q) : OpR X f r' := fun pins s σ H x y v u Q I rx ry q => h pins s σ H x y v u Q I rx ry (i x y H Q q)
theorem CallR.imp {f : Value} {r r' : List V → Hp → VK → Prop} (h : CallR X f r) (i : ∀ xs H Q, r' xs H Q → r xs H Q) : CallR X f r' := fun pins s σ H xs us Q I rx q => h pins s σ H xs us Q I rx (i xs H Q q)
theorem rF_rD {K : PySem.W.Frag} {f : D → D → Option D} {x y : V} {H : Hp} {Q : VK} (h : rD K f x y H Q) : rF K f x y H Q := by
  obtain ⟨W, d, e, r, tr, hx, hy, hf, q⟩ := h
  exact ⟨W, d, e, r, tr, hx, hy, hf, fun p H' s n o => q _ H' s (own_rx tr n o)⟩
theorem rCF_rC {K : PySem.W.Frag} {f : List D → Option D} {xs : List V} {H : Hp} {Q : VK} (h : rC K f xs H Q) : rCF K f xs H Q := by
  obtain ⟨W, ds, r, tr, hx, hf, q⟩ := h
  exact ⟨W, ds, r, tr, hx, hf, fun p H' s n o => q _ H' s (own_rx tr n o)⟩
theorem own_new {K : PySem.W.Frag} {W : Addr → Prop} {H : Hp} {p : Addr} {xs : List V} {ds : List D} (n : H p = none) (h : RxL K W H xs ds) : OwnAt K (plus W p) (upd H p (.lst xs)) p (.list ds) :=
  ⟨xs, upd_same, (h.plus n).same (Same.upd n)⟩
theorem tup_new {K : PySem.W.Frag} {W : Addr → Prop} {H : Hp} {p : Addr} {xs : List V} {ds : List D} (tr : ∀ a, W a → ∃ o, H a = some o) (n : H p = none) (h : RxL K W H xs ds) : Rx K W (upd H p (.tup xs)) (.ref p) (.tuple ds) :=
  .tup (fun z => by
    obtain ⟨o, e⟩ := tr p z
    rw [n] at e
    cases e) (.inl upd_same) (h.same (Same.upd n))

/-! ### arithmetic -/
def small (i : Int) : Bool := decide (-(2 ^ 64) < i ∧ i < 2 ^ 64)
def addL : D → D → Option D
  | .list xs, .list ys => if xs.length + ys.length ≤ sizeLine then some (.list (xs ++ ys)) else none
  | _, _ => none
def addD : D → D → Option D
  | .int i, .int j => some (.int (i + j))
  | .str x, .str y => if x.length + y.length ≤ sizeLine then some (.str (x ++ y)) else none
  | .tuple xs, .tuple ys => if xs.length + ys.length ≤ sizeLine then some (.tuple (xs ++ ys)) else none
  | .list xs, .list ys => if xs.length + ys.length ≤ sizeLine then some (.list (xs ++ ys)) else none
  | _, _ => none
def subD : D → D → Option D
  | .int i, .int j => some (.int (i - j))
  | _, _ => none
def mulI : D → D → Option D
  | .int i, .int j => if small i || small j then some (.int (i * j)) else none
  | _, _ => none
def repD (xs : List D) (k : Int) : Option D := if xs ≠ [] ∧ -(2 ^ 63) ≤ k ∧ k ≤ 1000 ∧ xs.length ≤ 1000 then some (.tuple (List.replicate k.toNat xs).flatten) else none
def mulD : D → D → Option D
  | .int i, .int j => if small i || small j then some (.int (i * j)) else none
  | .tuple xs, .int k => repD xs k
  | _, _ => none
def fdivD : D → D → Option D
  | .int i, .int j => if 0 < j ∧ j < 1073741824 then some (.int (i / j)) else none
  | _, _ => none
def modD : D → D → Option D
  | .int i, .int j => if 0 < j then some (.int (i % j)) else none
  | _, _ => none
def powD : D → D → Option D
  | .int i, .int j => if 0 ≤ j ∧ j ≤ 1000000 ∧ i.natAbs < 2 ^ 64 then some (.int (i ^ j.toNat)) else none
  | _, _ => none

theorem op_addL : OpR X (binaryOp .Add) (rF X.K addL) := by
  intro pins s σ H x y v u Q I rx ry ⟨W, d, e, r, tr, hx, hy, hf, q⟩
  cases d with
  | list xs =>
    cases e with
    | list ys =>
      simp only [addL] at hf
      split at hf
      · rename_i hz
        cases hf
        obtain ⟨a, vs, rfl, sa, la⟩ := hx.list
        obtain ⟨b, ws, rfl, sb, lb⟩ := hy.list
        cases rx
        cases ry
        obtain ⟨z1, its, n1, r1, e1⟩ := sa.ok I.hok
        obtain ⟨z2, its2, n2, r2, e2⟩ := sb.ok I.hok
        have l1 := la.length
        have l2 := lb.length
        have m1 := r1.length
        have m2 := r2.length
        refine PySem.P.add_list e1 e2 ?_ (by rw [List.size_toArray, List.size_toArray]; omega)
        rw [show its.toArray ++ its2.toArray = (its ++ its2).toArray by simp]
        exact ⟨.ref _, _, I.lnew (t' := s.toks) (r1.append r2) (by rw [List.length_append]; omega), rfl, q _ _ (Same.upd I.fresh) I.fresh (own_new I.fresh (la.append lb))⟩
      · cases hf
    | _ => cases hf
  | _ => cases hf
theorem op_addD : OpR X (binaryOp .Add) (rD X.K addD) := by
  intro pins s σ H x y v u Q I rx ry ⟨W, d, e, r, tr, hx, hy, hf, q⟩
  cases d with
  | list xs =>
    cases e with
    | list ys => exact op_addL pins s σ H x y v u Q I rx ry (rF_rD ⟨W, _, _, r, tr, hx, hy, hf, q⟩)
    | _ => cases hf
  | int i =>
    cases e with
    | int j =>
      cases hf
      exact op_add pins s σ H x y v u Q I rx ry ⟨i, j, hx.int, hy.int, q _ _ (Same.refl H) (.int _)⟩
    | _ => cases hf
  | str i =>
    cases e with
    | str j =>
      simp only [addD] at hf
      split at hf
      · rename_i hz
        cases hf
        exact op_add_str pins s σ H x y v u Q I rx ry ⟨i, j, hx.str, hy.str, hz, q _ _ (Same.refl H) (.str _)⟩
      · cases hf
    | _ => cases hf
  | tuple xs =>
    cases e with
    | tuple ys =>
      simp only [addD] at hf
      split at hf
      · rename_i hz
        cases hf
        obtain ⟨a, vs, rfl, sa, la⟩ := hx.tuple
        obtain ⟨b, ws, rfl, sb, lb⟩ := hy.tuple
        have l1 := la.length
        have l2 := lb.length
        have hx' : Rx X.K W H (.ref a) (.tuple xs) := by
          rcases hx with hx | ⟨_, _, hx⟩
          · exact hx
          · exact hx.elim
        have hy' : Rx X.K W H (.ref b) (.tuple ys) := by
          rcases hy with hy | ⟨_, _, hy⟩
          · exact hy
          · exact hy.elim
        refine op_catA pins s σ H _ _ v u Q I rx ry ⟨a, b, vs, ws, rfl, rfl, sa, sb, by omega, fun e => ?_, fun _ e => ?_, fun _ _ p n => ?_⟩
        · subst e
          have e1 : xs = [] := List.eq_nil_of_length_eq_zero (by simpa using l1.symm)
          subst e1
          exact q _ _ (Same.refl H) hy'
        · subst e
          have e1 : ys = [] := List.eq_nil_of_length_eq_zero (by simpa using l2.symm)
          subst e1
          rw [List.append_nil] at q
          exact q _ _ (Same.refl H) hx'
        · exact q _ _ (Same.upd n) (tup_new tr n (la.append lb))
      · cases hf
    | _ => cases hf
  | _ => cases hf
theorem op_subD : OpR X (binaryOp .Sub) (rD X.K subD) := by
  intro pins s σ H x y v u Q I rx ry ⟨W, d, e, r, tr, hx, hy, hf, q⟩
  cases d with
  | int i =>
    cases e with
    | int j =>
      cases hf
      exact op_sub pins s σ H x y v u Q I rx ry ⟨i, j, hx.int, hy.int, q _ _ (Same.refl H) (.int _)⟩
    | _ => cases hf
  | _ => cases hf
theorem op_mulD : OpR X (binaryOp .Mult) (rD X.K mulD) := by
  intro pins s σ H x y v u Q I rx ry ⟨W, d, e, r, tr, hx, hy, hf, q⟩
  cases d with
  | int i =>
    cases e with
    | int j =>
      simp only [mulD] at hf
      split at hf
      · rename_i hz
        cases hf
        have hc : CMul i j := by
          rw [Bool.or_eq_true] at hz
          exact hz.imp of_decide_eq_true of_decide_eq_true
        exact op_mul pins s σ H x y v u Q I rx ry ⟨i, j, hx.int, hy.int, hc, q _ _ (Same.refl H) (.int _)⟩
      · cases hf
    | _ => cases hf
  | tuple xs =>
    cases e with
    | int k =>
      simp only [mulD, repD] at hf
      split at hf
      · rename_i hz
        cases hf
        obtain ⟨z1, z2, z3, z4⟩ := hz
        obtain ⟨a, vs, rfl, sa, la⟩ := hx.tuple
        have l1 := la.length
        have hx' : Rx X.K W H (.ref a) (.tuple xs) := by
          rcases hx with hx | ⟨_, _, hx⟩
          · exact hx
          · exact hx.elim
        refine op_repA pins s σ H _ y v u Q I rx ry ⟨a, k, vs, rfl, hy.int, sa, fun e => ?_, z2, z3, by omega, fun e => ?_, fun _ p n => ?_⟩
        · subst e
          exact z1 (List.eq_nil_of_length_eq_zero (by simpa using l1.symm))
        · subst e
          rw [show (List.replicate (Int.toNat 1) xs).flatten = xs by simp] at q
          exact q _ _ (Same.refl H) hx'
        · refine q _ _ (Same.upd n) (tup_new tr n ?_)
          generalize k.toNat = m
          induction m with
          | zero => exact .nil
          | succ m ih => rw [List.replicate_succ, List.replicate_succ, List.flatten_cons, List.flatten_cons]; exact la.append ih
      · cases hf
    | _ => cases hf
  | _ => cases hf
theorem op_fdivD : OpR X (binaryOp .FloorDiv) (rD X.K fdivD) := by
  intro pins s σ H x y v u Q I rx ry ⟨W, d, e, r, tr, hx, hy, hf, q⟩
  cases d with
  | int i =>
    cases e with
    | int j =>
      simp only [fdivD] at hf
      split at hf
      · rename_i hz
        cases hf
        exact op_fdiv pins s σ H x y v u Q I rx ry ⟨i, j, hx.int, hy.int, hz, q _ _ (Same.refl H) (.int _)⟩
      · cases hf
    | _ => cases hf
  | _ => cases hf
theorem op_modD : OpR X (binaryOp .Mod) (rD X.K modD) := by
  intro pins s σ H x y v u Q I rx ry ⟨W, d, e, r, tr, hx, hy, hf, q⟩
  cases d with
  | int i =>
    cases e with
    | int j =>
      simp only [modD] at hf
      split at hf
      · rename_i hz
        cases hf
        exact op_mod pins s σ H x y v u Q I rx ry ⟨i, j, hx.int, hy.int, hz, q _ _ (Same.refl H) (.int _)⟩
      · cases hf
    | _ => cases hf
  | _ => cases hf
theorem op_powD : OpR X (binaryOp .Pow) (rD X.K powD) := by
  intro pins s σ H x y v u Q I rx ry ⟨W, d, e, r, tr, hx, hy, hf, q⟩
  cases d with
  | int i =>
    cases e with
    | int j =>
      simp only [powD] at hf
      split at hf
      · rename_i hz
        cases hf
        exact op_pow pins s σ H x y v u Q I rx ry ⟨i, j, hx.int, hy.int, hz, q _ _ (Same.refl H) (.int _)⟩
      · cases hf
    | _ => cases hf
  | _ => cases hf

/-! ### comparisons -/
def bothD (c : Int → Int → Bool) : D → D → Option D
  | .int i, .int j => some (.bool (c i j))
  | _, _ => none
theorem cmp_int {op : CmpOp} {c : Int → Int → Bool} (h : OpR X (compareOp op) (rI0 fun i j => .bl (c i j))) : OpR X (compareOp op) (rD X.K (bothD c)) := by
  intro pins s σ H x y v u Q I rx ry ⟨W, d, e, r, tr, hx, hy, hf, q⟩
  cases d with
  | int i =>
    cases e with
    | int j =>
      cases hf
      exact h pins s σ H x y v u Q I rx ry ⟨i, j, hx.int, hy.int, q _ _ (Same.refl H) (.bl _)⟩
    | _ => cases hf
  | _ => cases hf
def ltD : D → D → Option D := bothD fun i j => decide (i < j)
def leD : D → D → Option D := bothD fun i j => decide (i ≤ j)
def gtD : D → D → Option D := bothD fun i j => decide (j < i)
def geD : D → D → Option D := bothD fun i j => decide (j ≤ i)
theorem op_ltD : OpR X (compareOp .Lt) (rD X.K ltD) := cmp_int op_lt
theorem op_leD : OpR X (compareOp .LtE) (rD X.K leD) := cmp_int op_le
theorem op_gtD : OpR X (compareOp .Gt) (rD X.K gtD) := cmp_int op_gt
theorem op_geD : OpR X (compareOp .GtE) (rD X.K geD) := cmp_int op_ge
/-- is None, is not None -/
def isNon : D → Bool
  | .none => true
  | _ => false
def isND (d e : D) : Option D := if isNon e then some (.bool (isNon d)) else none
def notND (d e : D) : Option D := if isNon e then some (.bool (!isNon d)) else none
theorem tx_none {K : PySem.W.Frag} {W : Addr → Prop} {H : Hp} {x : V} {d : D} (h : Tx K W H x d) : decide (x = .non) = isNon d := by
  rcases h with h | ⟨a, rfl, h⟩
  · cases h <;> rfl
  · cases d <;> first | exact h.elim | rfl
theorem op_isND : OpR X (compareOp .Is) (rD X.K isND) := by
  intro pins s σ H x y v u Q I rx ry ⟨W, d, e, r, tr, hx, hy, hf, q⟩
  cases e with
  | none =>
    simp only [isND, isNon, if_true] at hf
    cases hf
    refine op_isN pins s σ H x y v u Q I rx ry ⟨hy.none, ?_⟩
    rw [tx_none hx]
    exact q _ _ (Same.refl H) (.bl _)
  | _ => simp [isND, isNon] at hf
theorem op_notND : OpR X (compareOp .IsNot) (rD X.K notND) := by
  intro pins s σ H x y v u Q I rx ry ⟨W, d, e, r, tr, hx, hy, hf, q⟩
  cases e with
  | none =>
    simp only [notND, isNon, if_true] at hf
    cases hf
    refine op_notN pins s σ H x y v u Q I rx ry ⟨hy.none, ?_⟩
    rw [tx_none hx]
    exact q _ _ (Same.refl H) (.bl _)
  | _ => simp [notND, isNon] at hf
end
end CF
end
section
/-! CF, part c: places, slices, looking up, calls of built-ins over trees. -/
namespace CF
open PySem PySem.Spec PyProof.Rows L2

def keyEq : D → D → Bool
  | .int i, .int j => i == j
  | .str x, .str y => x == y
  | _, _ => false
def lookD : List (D × D) → D → Option D
  | [], _ => none
  | (k, d) :: es, x => if keyEq k x then some d else lookD es x
def isKey : D → Bool
  | .int _ => true
  | .str _ => true
  | _ => false
def keyOf : D → Option Key
  | .int i => some (.inl i)
  | .str x => some (.inr x)
  | _ => none
theorem keyD_of {d : D} {k : Key} (h : keyOf d = some k) : d = keyD k := by
  cases d <;> simp only [keyOf] at h <;> first | (cases h; rfl) | cases h
theorem keyEq_iff (k l : Key) : keyEq (keyD k) (keyD l) = decide (k = l) := by
  cases k <;> cases l <;> simp only [keyD, keyEq] <;> rw [Bool.eq_iff_iff] <;> simp
section
variable {K : PySem.W.Frag} {W : Addr → Prop} {H : Hp}
theorem look_val : ∀ {kvs : List (Key × V)} {es : List (D × D)} {k : Key} {d : D}, RxK K W H kvs es → lookD es (keyD k) = some d → ∃ v, valV kvs k = some v ∧ Rx K W H v d
  | _, [], _, _, _, e => by cases e
  | _, (_, _) :: es, k, d, h, e => by
    cases h with
    | @cons l v kvs _ _ r t =>
      simp only [lookD] at e
      rw [keyEq_iff] at e
      by_cases q : l = k
      · subst q
        simp at e
        subst e
        exact ⟨v, valV_pos rfl, r⟩
      · rw [decide_eq_false q] at e
        obtain ⟨w, h1, h2⟩ := look_val t (by simpa using e)
        refine ⟨w, ?_, h2⟩
        rw [← h1]
        simp [valV, List.find?_cons, q]
theorem look_none : ∀ {kvs : List (Key × V)} {es : List (D × D)} {k : Key}, RxK K W H kvs es → lookD es (keyD k) = none → valV kvs k = none
  | _, [], _, h, _ => by cases h; rfl
  | _, (_, _) :: es, k, h, e => by
    cases h with
    | @cons l v kvs _ _ r t =>
      simp only [lookD] at e
      rw [keyEq_iff] at e
      by_cases q : l = k
      · rw [decide_eq_true q] at e
        simp at e
      · rw [decide_eq_false q] at e
        have h1 := look_none t (k := k) (by simpa using e)
        rw [← h1]
        simp [valV, List.find?_cons, q]
theorem Rx.key {v : V} {k : Key} (h : Tx K W H v (keyD k)) : v = kV k := by
  cases k with
  | inl i => exact h.int
  | inr x => exact h.str
theorem RxL.atI {xs : List V} {ds : List D} {i : Int} {d : D} (h : RxL K W H xs ds) (e : L2.atI ds i = some d) : ∃ v, L2.atI xs i = some v ∧ Rx K W H v d := by
  unfold L2.atI at e ⊢
  rw [h.length]
  cases q : ixN ds.length i with
  | none => rw [q] at e; cases e
  | some j =>
    rw [q] at e
    exact h.get e
end
/-- d[i] -/
def ixD : D → D → Option D
  | .list xs, .int i => L2.atI xs i
  | .tuple xs, .int i => L2.atI xs i
  | .str z, .int i => if z.length ≤ sizeLine then (L2.atI z.cps.toList i).map fun c => .str ⟨#[c]⟩ else none
  | .dict es, k => if isKey k then lookD es k else none
  | _, _ => none
theorem isKey_of {d : D} (h : isKey d = true) : ∃ k : Key, d = keyD k := by
  cases d <;> first | exact ⟨.inl _, rfl⟩ | exact ⟨.inr _, rfl⟩ | cases h
section
variable {X : Cx}
theorem ix_D (hu : X.A.units + 1 < cLine) : IxR X (rD X.K ixD) := by
  intro value slice pins s σ H x y v u Q I rx ry ⟨W, d, e, r, tr, hx, hy, hf, q⟩ hs
  cases d with
  | list xs =>
    cases e with
    | int i =>
      obtain ⟨a, vs, rfl, sa, la⟩ := hx.list
      obtain ⟨w, hw, rw'⟩ := la.atI hf
      exact ix_list value slice pins s σ H _ y v u Q I rx ry ⟨a, vs, i, w, rfl, hy.int, .inl sa, hw, q _ _ (Same.refl H) rw'⟩ hs
    | _ => cases hf
  | tuple xs =>
    cases e with
    | int i =>
      obtain ⟨a, vs, rfl, sa, la⟩ := hx.tuple
      obtain ⟨w, hw, rw'⟩ := la.atI hf
      exact ix_tup value slice pins s σ H _ y v u Q I rx ry ⟨a, vs, i, w, rfl, hy.int, sa, hw, q _ _ (Same.refl H) rw'⟩ hs
    | _ => cases hf
  | str z =>
    cases e with
    | int i =>
      simp only [ixD] at hf
      split at hf
      · rename_i hz
        cases q' : L2.atI z.cps.toList i with
        | none => rw [q'] at hf; cases hf
        | some c =>
          rw [q'] at hf
          cases hf
          exact ix_str value slice pins s σ H _ y v u Q I rx ry ⟨z, i, c, hx.str, hy.int, hz, q', q _ _ (Same.refl H) (.str _)⟩ hs
      · cases hf
    | _ => cases hf
  | dict es =>
    simp only [ixD] at hf
    split at hf
    · rename_i hk
      obtain ⟨k, rfl⟩ := isKey_of hk
      obtain ⟨a, kvs, rfl, sa, la⟩ := hx.dict
      obtain ⟨w, hw, rw'⟩ := look_val la hf
      have ey : y = kV k := Rx.key hy
      have g : DGet H a y (some w) := .inl ⟨kvs, k, sa, ey, hw.symm⟩
      cases rx
      exact tail_any (dict_typeIs I g) PySem.F.slot_dict_getitem.lookup (d_getItem hu I g ry fun w' s3 I3 rw2 => ⟨w, H, I3, rw2, q _ _ (Same.refl H) rw'⟩) hs
    · cases hf
  | _ => cases hf

/-! ### slices -/
def cutL {α : Type} (xs : List α) (lo hi : Option Int) : List α := (xs.drop (HT.sIx xs.length 0 lo)).take (HT.sIx xs.length xs.length hi - HT.sIx xs.length 0 lo)
theorem RxL.cut {K : PySem.W.Frag} {W : Addr → Prop} {H : Hp} {xs : List V} {ds : List D} (h : RxL K W H xs ds) (lo hi : Option Int) : RxL K W H (cutV xs lo hi) (cutL ds lo hi) := by
  unfold cutV cutL
  rw [h.length]
  exact RxL.take _ (RxL.drop _ h)
def slL (d : D) (lo hi : Option Int) : Option D := match d with
  | .list xs => some (.list (cutL xs lo hi))
  | _ => none
def slD (d : D) (lo hi : Option Int) : Option D := match d with
  | .list xs => some (.list (cutL xs lo hi))
  | .tuple xs => some (.tuple (cutL xs lo hi))
  | .str z => if z.length ≤ sizeLine then some (.str (cutS z lo hi)) else none
  | _ => none
def rSD (K : PySem.W.Frag) : V → Option Int → Option Int → Hp → VK → Prop := fun x lo hi H Q => ∃ (W : Addr → Prop) (d r : D), (∀ a, W a → ∃ o, H a = some o) ∧ Tx K W H x d ∧ slD d lo hi = some r ∧
  ∀ w H', Same H H' → Rx K W H' w r → Q w H'
def rSF (K : PySem.W.Frag) : V → Option Int → Option Int → Hp → VK → Prop := fun x lo hi H Q => ∃ (W : Addr → Prop) (d r : D), (∀ a, W a → ∃ o, H a = some o) ∧ Tx K W H x d ∧ slL d lo hi = some r ∧
  ∀ p H', Same H H' → H p = none → OwnAt K (plus W p) H' p r → Q (.ref p) H'
theorem sl_F : SlR X (rSF X.K) := by
  intro pins s σ H x v vl vu lo hi sl Q I rx hs pl pu ⟨W, d, r, tr, hx, hf, q⟩
  cases d with
  | list xs =>
    cases hf
    obtain ⟨a, vs, rfl, sa, la⟩ := hx.list
    exact sl_list pins s σ H _ v vl vu lo hi sl Q I rx hs pl pu ⟨a, vs, rfl, .inl sa, fun p n => q p _ (Same.upd n) n (own_new n (la.cut lo hi))⟩
  | _ => cases hf
theorem cutL_all {α : Type} {xs : List α} {lo hi : Option Int} (h : HT.sIx xs.length 0 lo = 0 ∧ HT.sIx xs.length xs.length hi = xs.length) : cutL xs lo hi = xs := by
  unfold cutL
  rw [h.1, h.2]
  simp
theorem sl_D : SlR X (rSD X.K) := by
  intro pins s σ H x v vl vu lo hi sl Q I rx hs pl pu ⟨W, d, r, tr, hx, hf, q⟩
  cases d with
  | list xs =>
    exact sl_F pins s σ H x v vl vu lo hi sl Q I rx hs pl pu ⟨W, _, r, tr, hx, hf, fun p H' sm n o => q _ H' sm (own_rx tr n o)⟩
  | tuple xs =>
    cases hf
    have hx' := hx.rxT
    obtain ⟨a, vs, rfl, sa, la⟩ := hx.tuple
    have ll := la.length
    refine sl_tupA pins s σ H _ v vl vu lo hi sl Q I rx hs pl pu ⟨a, vs, rfl, sa, fun h => ?_, fun h p n => q _ _ (Same.upd n) (tup_new tr n (la.cut lo hi))⟩
    rw [ll] at h
    rw [cutL_all h] at q
    exact q _ _ (Same.refl H) hx'
  | str z =>
    simp only [slD] at hf
    split at hf
    · rename_i hz
      cases hf
      exact sl_str pins s σ H _ v vl vu lo hi sl Q I rx hs pl pu ⟨z, hx.str, hz, q _ _ (Same.refl H) (.str _)⟩
    · cases hf
  | _ => cases hf

/-! ### calls of built-ins -/
def lenC : List D → Option D
  | [.list xs] => some (.int xs.length)
  | [.tuple xs] => some (.int xs.length)
  | [.dict es] => some (.int es.length)
  | [.str z] => if z.length ≤ sizeLine then some (.int z.length) else none
  | _ => none
theorem RxK.length {K : PySem.W.Frag} {W : Addr → Prop} {H : Hp} : ∀ {kvs : List (Key × V)} {es : List (D × D)}, RxK K W H kvs es → kvs.length = es.length
  | _, [], h => by cases h; rfl
  | _, (_, _) :: _, h => by
    cases h with
    | cons _ t => rw [List.length_cons, List.length_cons, RxK.length t]
theorem TxL.one {K : PySem.W.Frag} {W : Addr → Prop} {H : Hp} {xs : List V} {d : D} (h : TxL K W H xs [d]) : ∃ x, xs = [x] ∧ Tx K W H x d := by
  cases h with
  | cons h1 h2 => cases h2; exact ⟨_, rfl, h1⟩
theorem TxL.two {K : PySem.W.Frag} {W : Addr → Prop} {H : Hp} {xs : List V} {d e : D} (h : TxL K W H xs [d, e]) : ∃ x y, xs = [x, y] ∧ Tx K W H x d ∧ Tx K W H y e := by
  cases h with
  | cons h1 h2 =>
    obtain ⟨y, rfl, h3⟩ := h2.one
    exact ⟨_, y, rfl, h1, h3⟩
theorem cr_len : CallR X (.builtin "len") (rC X.K lenC) := by
  intro pins s σ H xs us Q I rx ⟨W, ds, r, tr, hx, hf, q⟩
  unfold lenC at hf
  split at hf
  · obtain ⟨x, rfl, h⟩ := hx.one
    cases hf
    obtain ⟨a, vs, rfl, sa, la⟩ := h.list
    refine call_len_seq pins s σ H _ us Q I rx ⟨a, vs, rfl, .inl (.inl sa), ?_⟩
    rw [la.length]
    exact q _ _ (Same.refl H) (.int _)
  · obtain ⟨x, rfl, h⟩ := hx.one
    cases hf
    obtain ⟨a, vs, rfl, sa, la⟩ := h.tuple
    refine call_len_seq pins s σ H _ us Q I rx ⟨a, vs, rfl, .inr sa, ?_⟩
    rw [la.length]
    exact q _ _ (Same.refl H) (.int _)
  · obtain ⟨x, rfl, h⟩ := hx.one
    cases hf
    obtain ⟨a, kvs, rfl, sa, la⟩ := h.dict
    obtain ⟨u, rfl, ru⟩ := vals1 rx
    cases ru
    refine d_len I sa fun t s' I' => ⟨.int kvs.length, H, I', ⟨t, rfl⟩, ?_⟩
    rw [la.length]
    exact q _ _ (Same.refl H) (.int _)
  · obtain ⟨x, rfl, h⟩ := hx.one
    split at hf
    · rename_i hz
      cases hf
      exact call_len_str pins s σ H _ us Q I rx ⟨_, by rw [h.str], hz, q _ _ (Same.refl H) (.int _)⟩
    · cases hf
  · cases hf
def absC : List D → Option D
  | [.int i] => some (.int (if i < 0 then -i else i))
  | _ => none
theorem cr_abs : CallR X (.builtin "abs") (rC X.K absC) := by
  intro pins s σ H xs us Q I rx ⟨W, ds, r, tr, hx, hf, q⟩
  unfold absC at hf
  split at hf
  · obtain ⟨x, rfl, h⟩ := hx.one
    cases hf
    exact call_abs pins s σ H _ us Q I rx ⟨_, by rw [h.int], q _ _ (Same.refl H) (.int _)⟩
  · cases hf
def intC : List D → Option D
  | [.int i] => some (.int i)
  | [.bool b] => some (.int (if b then 1 else 0))
  | _ => none
theorem cr_int : CallR X (.type "int") (rC X.K intC) := by
  intro pins s σ H xs us Q I rx ⟨W, ds, r, tr, hx, hf, q⟩
  unfold intC at hf
  split at hf
  · obtain ⟨x, rfl, h⟩ := hx.one
    cases hf
    exact call_int1 pins s σ H _ us Q I rx (.inl ⟨_, by rw [h.int], q _ _ (Same.refl H) (.int _)⟩)
  · obtain ⟨x, rfl, h⟩ := hx.one
    cases hf
    exact call_int1 pins s σ H _ us Q I rx (.inr ⟨_, by rw [h.bool], q _ _ (Same.refl H) (.int _)⟩)
  · cases hf
def listC : List D → Option D
  | [.list xs] => some (.list xs)
  | [.tuple xs] => some (.list xs)
  | [.dict es] => some (.list (es.map (·.1)))
  | _ => none
theorem rxk_kV {K : PySem.W.Frag} {W : Addr → Prop} {H : Hp} : ∀ {kvs : List (Key × V)} {es : List (D × D)}, RxK K W H kvs es → RxL K W H (kvs.map fun p => kV p.1) (es.map (·.1))
  | _, [], h => by cases h; exact .nil
  | _, (_, _) :: _, h => by
    cases h with
    | @cons k _ _ _ _ _ t =>
      refine .cons ?_ (rxk_kV t)
      cases k
      · exact .int _
      · exact .str _
theorem cr_list (hc : X.calm = true) : CallR X (.type "list") (rCF X.K listC) := by
  intro pins s σ H xs us Q I rx ⟨W, ds, r, tr, hx, hf, q⟩
  unfold listC at hf
  split at hf
  · obtain ⟨x, rfl, h⟩ := hx.one
    cases hf
    obtain ⟨a, vs, rfl, sa, la⟩ := h.list
    exact call_list_of pins s σ H _ us Q I rx ⟨a, vs, rfl, .inl (.inl sa), fun p n => q p _ (Same.upd n) n (own_new n la)⟩
  · obtain ⟨x, rfl, h⟩ := hx.one
    cases hf
    obtain ⟨a, vs, rfl, sa, la⟩ := h.tuple
    exact call_list_of pins s σ H _ us Q I rx ⟨a, vs, rfl, .inr sa, fun p n => q p _ (Same.upd n) n (own_new n la)⟩
  · obtain ⟨x, rfl, h⟩ := hx.one
    cases hf
    obtain ⟨a, kvs, rfl, sa, la⟩ := h.dict
    exact call_listD hc pins s σ H _ us Q I rx ⟨a, kvs, rfl, sa, fun p n => q p _ (Same.upd n) n (own_new n (rxk_kV la))⟩
  · cases hf
def tupleC : List D → Option D
  | [.list xs] => some (.tuple xs)
  | [.tuple xs] => some (.tuple xs)
  | _ => none
theorem cr_tuple : CallR X (.type "tuple") (rC X.K tupleC) := by
  intro pins s σ H xs us Q I rx ⟨W, ds, r, tr, hx, hf, q⟩
  unfold tupleC at hf
  split at hf
  · obtain ⟨x, rfl, h⟩ := hx.one
    cases hf
    obtain ⟨a, vs, rfl, sa, la⟩ := h.list
    exact call_tuple_of pins s σ H _ us Q I rx ⟨a, vs, rfl, .inl ⟨.inl sa, fun p n => q _ _ (Same.upd n) (tup_new tr n la)⟩⟩
  · obtain ⟨x, rfl, h⟩ := hx.one
    cases hf
    have h' := h.rxT
    obtain ⟨a, vs, rfl, sa, la⟩ := h.tuple
    exact call_tuple_of pins s σ H _ us Q I rx ⟨a, vs, rfl, .inr ⟨sa, q _ _ (Same.refl H) h'⟩⟩
  · cases hf
/-- min(a, b), max(a, b) of ints -/
def min2C : List D → Option D
  | [.int i, .int j] => some (.int (if j < i then j else i))
  | _ => none
def max2C : List D → Option D
  | [.int i, .int j] => some (.int (if j > i then j else i))
  | _ => none
theorem cr_min2 (hc : X.calm = true) : CallR X (.builtin "min") (rC X.K min2C) := by
  intro pins s σ H xs us Q I rx ⟨W, ds, r, tr, hx, hf, q⟩
  unfold min2C at hf
  split at hf
  · obtain ⟨x, y, rfl, h1, h2⟩ := hx.two
    cases hf
    exact call_min2 hc pins s σ H _ us Q I rx ⟨_, _, by rw [h1.int, h2.int], q _ _ (Same.refl H) (.int _)⟩
  · cases hf
theorem cr_max2 (hc : X.calm = true) : CallR X (.builtin "max") (rC X.K max2C) := by
  intro pins s σ H xs us Q I rx ⟨W, ds, r, tr, hx, hf, q⟩
  unfold max2C at hf
  split at hf
  · obtain ⟨x, y, rfl, h1, h2⟩ := hx.two
    cases hf
    exact call_max2 hc pins s σ H _ us Q I rx ⟨_, _, by rw [h1.int, h2.int], q _ _ (Same.refl H) (.int _)⟩
  · cases hf
end
section
variable {X : Cx}
/-! ### == over texts, over trees without dicts, 64 deep, and over dicts of such -/
def stxD : D → D → Option Bool
  | .str x, .str y => some (decide (x = y))
  | _, _ => none
theorem stxD_some {d e : D} {b : Bool} (h : stxD d e = some b) : ∃ x y, d = .str x ∧ e = .str y ∧ b = decide (x = y) := by
  unfold stxD at h
  split at h
  · cases h; exact ⟨_, _, rfl, rfl, rfl⟩
  · cases h
def valOk (d : D) : Bool := SeqAt.shaped d && decide (d.depth ≤ 60)
def eqKs (es fs : List (D × D)) : Bool := es.all fun p => match lookD fs p.1 with
  | some y => PyData.eqv p.2 y
  | none => false
def dicB : D → D → Option Bool
  | .dict es, .dict fs => if (es.all fun p => valOk p.2) && fs.all fun p => valOk p.2 then some (es.length == fs.length && eqKs es fs) else none
  | _, _ => none
theorem dicB_some {d e : D} {b : Bool} (h : dicB d e = some b) : ∃ es fs, d = .dict es ∧ e = .dict fs ∧ (es.all fun p => valOk p.2) = true ∧ (fs.all fun p => valOk p.2) = true ∧ b = (es.length == fs.length && eqKs es fs) := by
  unfold dicB at h
  split at h
  · split at h
    · rename_i hz
      rw [Bool.and_eq_true] at hz
      cases h
      exact ⟨_, _, rfl, rfl, hz.1, hz.2, rfl⟩
    · cases h
  · cases h
theorem look_mem : ∀ {fs : List (D × D)} {k d : D}, lookD fs k = some d → ∃ p ∈ fs, p.2 = d
  | [], _, _, e => by cases e
  | (l, x) :: fs, k, d, e => by
    simp only [lookD] at e
    split at e
    · cases e
      exact ⟨_, List.mem_cons_self, rfl⟩
    · obtain ⟨p, hp, hd⟩ := look_mem e
      exact ⟨p, List.mem_cons_of_mem _ hp, hd⟩
theorem hits_D {pins : List (Addr × Obj)} {σ : L2.St} {s : Shared} {H : Hp} {W : Addr → Prop} (I : Inv X pins σ H s) {A : Around} (hu : A.units + 60 < cLine) {kb : List (Key × V)} {fs : List (D × D)} {vb : List (Key × Value)} (hb : RxK X.K W H kb fs) (kvb : KV kb vb) (ok : (fs.all fun p => valOk p.2) = true) :
    ∀ {ka : List (Key × V)} {es : List (D × D)} {va : List (Key × Value)}, RxK X.K W H ka es → KV ka va → (es.all fun p => valOk p.2) = true → PySem.W.KeqHits A s vb va (eqKs es fs)
  | _, [], _, ha, kva, _ => by
    cases ha
    cases kva
    exact .nil
  | _, (_, d) :: es, _, ha, kva, oka => by
    cases ha with
    | @cons l v kvs _ _ r t =>
      cases kva with
      | @cons _ q _ _ h1 h2 =>
        obtain ⟨k, u⟩ := q
        obtain ⟨h3, h4⟩ := h1
        simp only at h3 h4
        subst h3
        rw [List.all_cons, Bool.and_eq_true] at oka
        obtain ⟨o1, o2⟩ := oka
        unfold eqKs
        rw [List.all_cons]
        have rv := kvb.val l
        cases e : lookD fs (keyD l) with
        | none =>
          rw [look_none hb e] at rv
          rw [Bool.false_and]
          exact .miss (RelO.none_of rv)
        | some y =>
          obtain ⟨v', e1, r1⟩ := look_val hb e
          rw [e1] at rv
          obtain ⟨u', e2, r2⟩ := RelO.some_of rv
          obtain ⟨p, pm, pe⟩ := look_mem e
          have oky : valOk y = true := by
            rw [← pe]
            exact List.all_eq_true.mp ok p pm
          unfold valOk at o1 oky
          rw [Bool.and_eq_true] at o1 oky
          obtain ⟨as, ra⟩ := Rx.reads I _ _ _ r h4
          obtain ⟨bs, rb⟩ := Rx.reads I _ _ _ r1 r2
          have hd := of_decide_eq_true o1.2
          have hm : min d.depth y.depth ≤ d.depth := Nat.min_le_left _ _
          exact .hit e2 (SeqAt.eqAt_reads _ _ _ _ _ _ _ _ ra rb (SeqAt.canLay_of_shaped o1.1) (SeqAt.canLay_of_shaped oky.1) (by omega)) (hits_D I hu hb kvb ok t h2 o2)
def eqB (d e : D) : Option Bool := match stxD d e with
  | some b => some b
  | none => if SeqAt.shaped d && SeqAt.shaped e then some (PyData.eqv d e) else dicB d e
def eqD (d e : D) : Option D := (eqB d e).map fun b => .bool b
def neD (d e : D) : Option D := (eqB d e).map fun b => .bool (!b)
theorem op_eqDD (hu : X.A.units + 64 < cLine) : OpR X (compareOp .Eq) (rD X.K eqD) := by
  intro pins s σ H x y v u Q I rx ry ⟨W, d, e, r, tr, hx, hy, hf, q⟩
  obtain ⟨b, hb, rfl⟩ := Option.map_eq_some_iff.mp hf
  unfold eqB at hb
  split at hb
  · rename_i b' hs
    cases hb
    obtain ⟨t, t', rfl, rfl, rfl⟩ := stxD_some hs
    have ex := hx.str
    have ey := hy.str
    subst ex; subst ey
    refine op_eq pins s σ H _ _ v u Q I rx ry ⟨rfl, ?_⟩
    rw [show decide (V.str t = V.str t') = decide (t = t') by rw [Bool.eq_iff_iff]; simp]
    exact q _ _ (Same.refl H) (.bl _)
  · split at hb
    · rename_i hz
      rw [Bool.and_eq_true] at hz
      cases hb
      obtain ⟨as, r1⟩ := hx.reads I rx
      obtain ⟨bs, r2⟩ := hy.reads I ry
      exact PyProof.Rows.eq_dataH r1 r2 hz.1 hz.2 hu ⟨.bl _, H, I, rfl, q _ _ (Same.refl H) (.bl _)⟩
    · obtain ⟨es, fs, rfl, rfl, o1, o2, rfl⟩ := dicB_some hb
      obtain ⟨a, ka, rfl, sa, la⟩ := hx.dict
      obtain ⟨c, kb, rfl, sc, lc⟩ := hy.dict
      cases rx
      cases ry
      obtain ⟨_, z1, va, r1, d1⟩ := dk_rd I.hok sa
      obtain ⟨_, z2, vb, r2, d2⟩ := dk_rd I.hok sc
      have l1 := la.length
      have l2 := lc.length
      have m1 := r1.length
      have m2 := r2.length
      refine PySem.W.keq_eq (knd := mixKind X.prog X.w) z1 z2 d1 d2 (by omega) (fun _ => hits_D I (show X.A.units + 1 + 60 < cLine by omega) lc r2 o2 la r1 o1) ?_
      rw [show va.length = es.length by omega, show vb.length = fs.length by omega]
      exact ⟨.bl _, H, I, rfl, q _ _ (Same.refl H) (.bl _)⟩
theorem op_neDD (hu : X.A.units + 64 < cLine) : OpR X (compareOp .NotEq) (rD X.K neD) := by
  intro pins s σ H x y v u Q I rx ry ⟨W, d, e, r, tr, hx, hy, hf, q⟩
  obtain ⟨b, hb, rfl⟩ := Option.map_eq_some_iff.mp hf
  unfold eqB at hb
  split at hb
  · rename_i b' hs
    cases hb
    obtain ⟨t, t', rfl, rfl, rfl⟩ := stxD_some hs
    have ex := hx.str
    have ey := hy.str
    subst ex; subst ey
    refine op_ne pins s σ H _ _ v u Q I rx ry ⟨rfl, ?_⟩
    rw [show decide (V.str t = V.str t') = decide (t = t') by rw [Bool.eq_iff_iff]; simp]
    exact q _ _ (Same.refl H) (.bl _)
  · split at hb
    · rename_i hz
      rw [Bool.and_eq_true] at hz
      cases hb
      obtain ⟨as, r1⟩ := hx.reads I rx
      obtain ⟨bs, r2⟩ := hy.reads I ry
      exact PyProof.Rows.ne_dataH r1 r2 hz.1 hz.2 hu ⟨.bl _, H, I, rfl, q _ _ (Same.refl H) (.bl _)⟩
    · obtain ⟨es, fs, rfl, rfl, o1, o2, rfl⟩ := dicB_some hb
      obtain ⟨a, ka, rfl, sa, la⟩ := hx.dict
      obtain ⟨c, kb, rfl, sc, lc⟩ := hy.dict
      cases rx
      cases ry
      obtain ⟨_, z1, va, r1, d1⟩ := dk_rd I.hok sa
      obtain ⟨_, z2, vb, r2, d2⟩ := dk_rd I.hok sc
      have l1 := la.length
      have l2 := lc.length
      have m1 := r1.length
      have m2 := r2.length
      refine PySem.W.keq_ne (knd := mixKind X.prog X.w) z1 z2 d1 d2 (by omega) (fun _ => hits_D I (show X.A.units + 1 + 60 < cLine by omega) lc r2 o2 la r1 o1) ?_
      rw [show va.length = es.length by omega, show vb.length = fs.length by omega]
      exact ⟨.bl _, H, I, rfl, q _ _ (Same.refl H) (.bl _)⟩
end
end CF
end
section
/-! CF, part d: sorted, sets of ints. -/
namespace CF
open PySem PySem.Spec PyProof.Rows L2

/-! ### sorted(xs) -/
theorem each_two {K : PySem.W.Frag} {W : Addr → Prop} {H : Hp} {X : Cx} {pins : List (Addr × Obj)} {σ : L2.St} {s : Shared} (I : Inv X pins σ H s) : ∀ {xs : List V} {ds : List D} {its : List Value}, RxL X.K W H xs ds → Vals xs its →
    PySem.W.EachIs (fun u (b : V × D) => RelV b.1 u ∧ Rx X.K W H b.1 b.2 ∧ ∃ as, Reads s.heap u b.2 as) its (xs.zip ds)
  | _, [], _, h, r => by
    cases h
    cases r
    exact .nil
  | _, d :: ds, _, h, r => by
    cases h with
    | cons h1 h2 =>
      cases r with
      | cons r1 r2 =>
        rw [List.zip_cons_cons]
        exact .cons ⟨r1, h1, Rx.reads I d _ _ h1 r1⟩ (each_two (K := K) I h2 r2)
theorem each_out {K : PySem.W.Frag} {W : Addr → Prop} {H : Hp} {P : Value → V × D → Prop} (hP : ∀ u b, P u b → RelV b.1 u ∧ Rx K W H b.1 b.2) : ∀ {out : List Value} {bs : List (V × D)}, PySem.W.EachIs P out bs → Vals (bs.map (·.1)) out ∧ RxL K W H (bs.map (·.1)) (bs.map (·.2))
  | _, _, .nil => ⟨.nil, .nil⟩
  | _, _, .cons h t => by
    obtain ⟨a, b⟩ := each_out hP t
    obtain ⟨c, d⟩ := hP _ _ h
    exact ⟨.cons c a, .cons d b⟩
theorem zip_snd {K : PySem.W.Frag} {W : Addr → Prop} {H : Hp} : ∀ {xs : List V} {ds : List D}, RxL K W H xs ds → (xs.zip ds).map (·.2) = ds
  | _, [], h => by cases h; rfl
  | _, _ :: _, h => by
    cases h with
    | cons _ t => rw [List.zip_cons_cons, List.map_cons, zip_snd t]
def tupNE : D → Bool
  | .tuple (_ :: _) => true
  | _ => false
def tupNo : D → Bool
  | .tuple _ => false
  | .none => false
  | _ => true
/-- what may be sorted -/
def canSort (ds : List D) : Bool := ds.all (fun d => ds.all fun e => PySem.W.alike d e) && (ds.all tupNE || ds.all tupNo) && ds.all fun d => decide (d.depth ≤ 60)
theorem canSort_of {ds : List D} (h : canSort ds = true) : PySem.W.AllAlike ds ∧ PySem.W.Sortable ds ∧ ∀ d ∈ ds, d.depth ≤ 60 := by
  unfold canSort at h
  simp only [Bool.and_eq_true, Bool.or_eq_true, List.all_eq_true, decide_eq_true_eq] at h
  obtain ⟨⟨h1, h2⟩, h3⟩ := h
  refine ⟨fun d hd e he => h1 d hd e he, ?_, h3⟩
  rcases h2 with h2 | h2
  · refine .inl fun d hd => ?_
    have q := h2 d hd
    cases d with
    | tuple xs =>
      cases xs with
      | nil => cases q
      | cons x r => exact ⟨x, r, rfl⟩
    | _ => cases q
  · refine .inr fun d hd => ?_
    have q := h2 d hd
    cases d with
    | none => cases q
    | tuple _ => cases q
    | _ =>
      constructor
      · intro z; cases z
      · intro _ z; cases z
def sortL (rev : Bool) (ds : List D) : List D := ds.mergeSort (PySem.W.dataLe rev id)
def strK : D → Bool
  | .str _ => true
  | _ => false
def intK : D → Bool
  | .int _ => true
  | _ => false
def keysOk (es : List (D × D)) : Bool := decide (es.length < 64) && ((es.all fun p => strK p.1) || es.all fun p => intK p.1)
def sortedC : List D → Option D
  | [.list ds] => if canSort ds then some (.list (sortL false ds)) else none
  | [.dict es] => if keysOk es then some (.list (sortL false (es.map (·.1)))) else none
  | _ => none
section
variable {K : PySem.W.Frag} {W : Addr → Prop} {H : Hp}
theorem keys_S : ∀ {kvs : List (Key × V)} {es : List (D × D)}, RxK K W H kvs es → (es.all fun p => strK p.1) = true → ∃ ks : List Str, kvs.map (·.1) = ks.map Sum.inr ∧ es.map (·.1) = ks.map PyData.str
  | _, [], h, _ => by
    cases h
    exact ⟨[], rfl, rfl⟩
  | _, (_, _) :: es, h, e => by
    cases h with
    | @cons l v kvs _ _ r t =>
      rw [List.all_cons, Bool.and_eq_true] at e
      obtain ⟨ks, h1, h2⟩ := keys_S t e.2
      cases l with
      | inl i => exact absurd e.1 (by simp [strK, keyD])
      | inr x => exact ⟨x :: ks, by rw [List.map_cons, h1, List.map_cons], by rw [List.map_cons, h2, List.map_cons]; rfl⟩
theorem keys_I : ∀ {kvs : List (Key × V)} {es : List (D × D)}, RxK K W H kvs es → (es.all fun p => intK p.1) = true → ∃ ks : List Int, kvs.map (·.1) = ks.map Sum.inl ∧ es.map (·.1) = ks.map PyData.int
  | _, [], h, _ => by
    cases h
    exact ⟨[], rfl, rfl⟩
  | _, (_, _) :: es, h, e => by
    cases h with
    | @cons l v kvs _ _ r t =>
      rw [List.all_cons, Bool.and_eq_true] at e
      obtain ⟨ks, h1, h2⟩ := keys_I t e.2
      cases l with
      | inr i => exact absurd e.1 (by simp [intK, keyD])
      | inl x => exact ⟨x :: ks, by rw [List.map_cons, h1, List.map_cons], by rw [List.map_cons, h2, List.map_cons]; rfl⟩
theorem rxl_S : ∀ ys : List Str, RxL K W H (ys.map V.str) (ys.map PyData.str)
  | [] => .nil
  | _ :: ys => .cons (.str _) (rxl_S ys)
theorem rxl_I : ∀ ys : List Int, RxL K W H (ys.map V.int) (ys.map PyData.int)
  | [] => .nil
  | _ :: ys => .cons (.int _) (rxl_I ys)
theorem rising_le : ∀ {p : Str} {l : List Str}, risingS p l = true → (∀ x ∈ l, p.cps.toList ≤ x.cps.toList) ∧ l.Pairwise fun a b => a.cps.toList ≤ b.cps.toList
  | p, [], _ => ⟨fun _ h => (by cases h), .nil⟩
  | p, x :: r, h => by
    have h' : (!ltCps x.cps.toList p.cps.toList && risingS x r) = true := h
    rw [Bool.and_eq_true, ltCps_eq] at h'
    have hx : p.cps.toList ≤ x.cps.toList := List.not_lt.mp (by simpa using h'.1)
    obtain ⟨h1, h2⟩ := rising_le h'.2
    refine ⟨fun y hy => ?_, List.pairwise_cons.mpr ⟨h1, h2⟩⟩
    rcases List.mem_cons.mp hy with rfl | hy
    · exact hx
    · exact List.le_trans hx (h1 y hy)
theorem sortedS_le : ∀ {l : List Str}, sortedS l = true → l.Pairwise fun a b => a.cps.toList ≤ b.cps.toList
  | [], _ => .nil
  | _ :: _, h => by
    obtain ⟨h1, h2⟩ := rising_le h
    exact List.pairwise_cons.mpr ⟨h1, h2⟩
theorem sort_S {ks ys : List Str} (hp : ys.Perm ks) (hs : sortedS ys = true) : sortL false (ks.map PyData.str) = ys.map PyData.str := by
  have e : sortL false (ks.map PyData.str) = (ks.mergeSort fun a b => decide (a.cps.toList ≤ b.cps.toList)).map PyData.str :=
    (PySem.W.sort_maps (s := PySem.W.dataLe false id) PyData.str fun a _ b _ => (congrFun (congrFun (PySem.W.dataLe_str (β := Str) id) a) b).symm).symm
  rw [e]
  congr 1
  have h := List.pairwise_mergeSort (le := fun a b : Str => decide (a.cps.toList ≤ b.cps.toList)) (fun a b c h1 h2 => decide_eq_true (List.le_trans (of_decide_eq_true h1) (of_decide_eq_true h2))) (fun a b => by
    rcases List.le_total a.cps.toList b.cps.toList with h | h
    · rw [decide_eq_true h]; rfl
    · rw [decide_eq_true h, Bool.or_true]) ks
  refine ((List.mergeSort_perm ks _).trans hp.symm).eq_of_pairwise (le := fun a b : Str => a.cps.toList ≤ b.cps.toList) (fun a b _ _ h1 h2 => ?_) (h.imp fun {a b} z => of_decide_eq_true z) (sortedS_le hs)
  have e := List.le_antisymm h1 h2
  obtain ⟨x⟩ := a
  obtain ⟨y⟩ := b
  congr 1
  exact Array.toList_inj.mp e
theorem sort_I {ks ys : List Int} (hp : ys.Perm ks) (hs : ys.Pairwise (· ≤ ·)) : sortL false (ks.map PyData.int) = ys.map PyData.int := by
  have e : sortL false (ks.map PyData.int) = (ks.mergeSort fun a b => decide (a ≤ b)).map PyData.int :=
    (PySem.W.sort_maps (s := PySem.W.dataLe false id) PyData.int fun a _ b _ => (congrFun (congrFun (PySem.W.dataLe_int (β := Int) id) a) b).symm).symm
  rw [e]
  congr 1
  have h := List.pairwise_mergeSort (le := fun a b : Int => decide (a ≤ b)) (fun a b c h1 h2 => decide_eq_true (Int.le_trans (of_decide_eq_true h1) (of_decide_eq_true h2))) (fun a b => by
    rcases Int.le_total a b with h | h
    · rw [decide_eq_true h]; rfl
    · rw [decide_eq_true h, Bool.or_true]) ks
  exact ((List.mergeSort_perm ks _).trans hp.symm).eq_of_pairwise (le := fun a b : Int => a ≤ b) (fun a b _ _ h1 h2 => Int.le_antisymm h1 h2) (h.imp fun {a b} z => of_decide_eq_true z) hs
end
section
variable {X : Cx}
theorem sort_ok {rev : Bool} {ds : List D} {xs : List V} {K : PySem.W.Frag} {W : Addr → Prop} {H : Hp} (la : RxL K W H xs ds) : ((xs.zip ds).mergeSort (PySem.W.dataLe rev Prod.snd)).map (·.2) = sortL rev ds := by
  have e : ((xs.zip ds).mergeSort (PySem.W.dataLe rev Prod.snd)).map Prod.snd = ((xs.zip ds).map Prod.snd).mergeSort (PySem.W.dataLe rev id) :=
    PySem.W.sort_maps Prod.snd fun a _ b _ => rfl
  rw [show ((xs.zip ds).map Prod.snd) = ds from zip_snd la] at e
  exact e
theorem cr_sorted' (hcalm : X.calm = true) (hu : X.A.units + 64 < cLine) : CallR X (.builtin "sorted") (rCF X.K sortedC) := by
  intro pins s σ H xs us Q I rx ⟨W, ds, r, tr, hx, hf, q⟩
  unfold sortedC at hf
  split at hf
  · rename_i ds
    split at hf
    · rename_i hc
      cases hf
      obtain ⟨x, rfl, h⟩ := hx.one
      obtain ⟨a, vs, rfl, sa, la⟩ := h.list
      obtain ⟨u, rfl, ru⟩ := vals1 rx
      cases ru
      obtain ⟨z, its, n, rv, e⟩ := sa.ok I.hok
      obtain ⟨c1, c2, c3⟩ := canSort_of hc
      have ez := zip_snd la
      have hl : s.heap.IsList a its.toArray := ⟨_, e, rfl, n, rfl⟩
      have ee := each_two (K := X.K) I la rv
      have ll := la.length
      refine PySem.W.sorted_data (enc := Prod.snd) hl ee (ee.mono fun _ _ p => p.2.2) ?_ ?_ ?_ ?_ fun out ho eo => ?_
      · rw [show List.map Prod.snd (vs.zip ds) = ds from ez]; exact c1
      · rw [show List.map Prod.snd (vs.zip ds) = ds from ez]; exact c2
      · rw [List.length_zip]; omega
      · intro b hb
        have := c3 b.2 (List.of_mem_zip hb).2
        omega
      · obtain ⟨g1, g2⟩ := each_out (fun u b p => ⟨p.1, p.2.1⟩) eo
        obtain ⟨ep, he⟩ := PyProof.Rows.sortedAll_at s.heap its out.toArray
        rw [sort_ok la] at g2
        have hn : H (s.heap.objs.size + 1) = none := I.hok.fresh (Nat.le_succ _)
        refine ⟨.ref _, upd H (s.heap.objs.size + 1) (.lst (((vs.zip ds).mergeSort (PySem.W.dataLe false Prod.snd)).map (·.1))), I.laid (t' := s.toks) (fun _ _ => PyProof.Rows.sortedAll_old) (Nat.le_succ _) ⟨?_, out, ep, g1, he⟩, rfl,
          q _ _ (Same.upd hn) hn (own_new hn g2)⟩
        rw [List.length_map, List.length_mergeSort, List.length_zip]
        omega
    · cases hf
  · rename_i es
    split at hf
    · rename_i hc
      cases hf
      obtain ⟨x, rfl, h⟩ := hx.one
      obtain ⟨a, kvs, rfl, sa, la⟩ := h.dict
      unfold keysOk at hc
      rw [Bool.and_eq_true, Bool.or_eq_true] at hc
      have h64 := of_decide_eq_true hc.1
      rcases hc.2 with hk | hk
      · obtain ⟨ks, k1, k2⟩ := keys_S la hk
        have hl : ks.length < 64 := by
          have := congrArg List.length k2
          rw [List.length_map, List.length_map] at this
          omega
        refine call_sortedD hcalm pins s σ H _ us Q I rx ⟨a, kvs, ks, rfl, sa, k1, hl, fun ys p hp hs n => q p _ (Same.upd n) n (own_new n ?_)⟩
        rw [k2, sort_S hp hs]
        exact rxl_S ys
      · obtain ⟨ks, k1, k2⟩ := keys_I la hk
        have hl : ks.length < 64 := by
          have := congrArg List.length k2
          rw [List.length_map, List.length_map] at this
          omega
        refine call_sortedDI hcalm pins s σ H _ us Q I rx ⟨a, kvs, ks, rfl, sa, k1, hl, fun ys p hp hs n => q p _ (Same.upd n) n (own_new n ?_)⟩
        rw [k2, sort_I hp hs]
        exact rxl_I ys
    · cases hf
  · cases hf
def sortedRC (b : Bool) : List D → Option D
  | [.list ds] => if canSort ds then some (.list (sortL b ds)) else none
  | _ => none
theorem cr_sortedR (hu : X.A.units + 64 < cLine) (b : Bool) : CallRK X (.builtin "sorted") [Str.ofString "reverse"] (fun vs zs H Q => zs = [.bl b] ∧ rCF X.K (sortedRC b) vs H Q) := by
  intro pins s σ H xs zs us ws Q I rx rz ⟨hz, W, ds, r, tr, hx, hf, q⟩
  subst hz
  obtain ⟨wv, rfl, hw⟩ := vals1 rz
  cases hw
  unfold sortedRC at hf
  split at hf
  · rename_i ds
    split at hf
    · rename_i hc
      cases hf
      obtain ⟨x, rfl, h⟩ := hx.one
      obtain ⟨a, vs, rfl, sa, la⟩ := h.list
      obtain ⟨u, rfl, ru⟩ := vals1 rx
      cases ru
      obtain ⟨z, its, n, rv, e⟩ := sa.ok I.hok
      obtain ⟨c1, c2, c3⟩ := canSort_of hc
      have ez := zip_snd la
      have hl : s.heap.IsList a its.toArray := ⟨_, e, rfl, n, rfl⟩
      have ee := each_two (K := X.K) I la rv
      have ll := la.length
      refine PySem.W.sorted_rev_data (b := b) (enc := Prod.snd) hl ee (ee.mono fun _ _ p => p.2.2) ?_ ?_ ?_ ?_ fun out ho eo => ?_
      · rw [show List.map Prod.snd (vs.zip ds) = ds from ez]; exact c1
      · rw [show List.map Prod.snd (vs.zip ds) = ds from ez]; exact c2
      · rw [List.length_zip]; omega
      · intro b hb
        have := c3 b.2 (List.of_mem_zip hb).2
        omega
      · obtain ⟨g1, g2⟩ := each_out (fun u b p => ⟨p.1, p.2.1⟩) eo
        obtain ⟨ep, he⟩ := PyProof.Rows.sortedAll_at s.heap its out.toArray
        rw [sort_ok la] at g2
        have hn : H (s.heap.objs.size + 1) = none := I.hok.fresh (Nat.le_succ _)
        refine ⟨.ref _, upd H (s.heap.objs.size + 1) (.lst (((vs.zip ds).mergeSort (PySem.W.dataLe b Prod.snd)).map (·.1))), I.laid (t' := s.toks) (fun _ _ => PyProof.Rows.sortedAll_old) (Nat.le_succ _) ⟨?_, out, ep, g1, he⟩, rfl,
          q _ _ (Same.upd hn) hn (own_new hn g2)⟩
        rw [List.length_map, List.length_mergeSort, List.length_zip]
        omega
    · cases hf
  · cases hf
end

end CF
end
section
/-! CF, part s: sets of ints. -/
namespace CF
open PySem PySem.Spec PyProof.Rows L2

/-! ### set(xs) of a list of ints, as far as sorted and len ask -/
/-- a set that has just been made -/
abbrev setNew (w : World) : Obj := { cls := .type "set", dict := none, data := .set #[] 0 (.fresh 0 0 (!w.params.followText "set-order")) }
section
variable {P : Program} {w : World} {A : Around} {E : Value → Shared → Prop} {s : Shared}
set_option maxRecDepth 100000 in
theorem set_of_list {l : Addr} {its : Array Value} (ns : List Int) {Q : Value → Shared → Prop} (hh : A.handled = none) (hl : s.heap.IsList l its) (hit : IntsAre its.toList ns) (hb : ns.length + 1 < scanBound)
    (h : ∀ (h' : Heap) (tk c : Nat), SetR w h' s.heap.objs.size (fun j => decide (j ∈ ns)) c → c ≤ ns.length → (∀ b o, s.heap.get? b = some o → h'.get? b = some o) → Q (.ref s.heap.objs.size) { s with heap := h', toks := tk }) :
    wpAny (model P w) A (call (.type "set") [.ref l]) Q E s := by
  have hsz : its.size = ns.length := by have q := IntsAre.length hit; rw [Array.length_toList] at q; exact q
  obtain ⟨c, tl, m0⟩ := F.called_set.mro; have m1 := F.called_set.made; have m2 := F.called_set.sub
  refine wpAny_call (codeAny_of_tree ?_)
  show wpAny _ _ (callAny (.type "set") _) _ _ _
  refine wpAny_pure ⟨Code.quiet_builtin _ (by decide +kernel), codeAny_builtin F.entry_type_call ?_⟩; rw [Around.under_plain (weight_type_call_type "set" [.ref l] []) rfl]
  have m3 := F.called_set.notType; have m4 := F.called_set.canCreate; have m5 := F.typeCall_set_1 (.ref l)
  repeat (any_goals (first | assumption | wp_step))
  refine codeAny_mono (code_set_led1 (.ref l) (E := E) (Q₁ := fun obj s₁ => obj = .ref s.heap.objs.size ∧ s₁ = { s with heap := s.heap.push (setNew w) }) ⟨rfl, rfl⟩) fun r s₁ hr => ?_
  match r, hr with
  | .ok (.ret obj), hr =>
    obtain ⟨rfl, rfl⟩ := hr
    have g0 : (s.heap.push (setNew w)).get? s.heap.objs.size = some (setNew w) := Heap.get?_push_size _ rfl
    have gT : Shared.TypeIs { s with heap := s.heap.push (setNew w) } (.ref s.heap.objs.size) "set" := ⟨_, g0, rfl⟩
    have m6 := F.called_set.init.lookup; have m7 := F.called_set.init.bind (.ref s.heap.objs.size)
    repeat (any_goals (first | assumption | wp_step))
    refine codeAny_mono (codeAny_call_builtin (R := wants (fun r s₂ => r = .none ∧ ∃ h' tk c, s₂ = { s with heap := h', toks := tk } ∧ SetR w h' s.heap.objs.size (fun j => decide (j ∈ ns)) c ∧ c ≤ ns.length ∧
        (∀ b o, s.heap.get? b = some o → h'.get? b = some o)) E) F.called_set.init.plain F.entry_set_init (check_set_init_1 gT ?_)) fun r₂ s₂ hr₂ => ?_
    · obtain ⟨⟨oc, od, dt, osl⟩, ho, hc, nl, hd⟩ := hl
      simp only at hc hd
      subst hc; subst hd
      have ho' : (s.heap.push (setNew w)).get? l = some { cls := .type "list", dict := od, data := .seq its nl, slots := osl } := Heap.get?_push_of_some _ ho
      have k1 := F.sub_list_set; have k2 := F.sub_list_frozenset
      have k3 : (Value.type "list" == Value.type "dict") = false := by decide
      have hl1 : (s.heap.push (setNew w)).IsList l its := ⟨_, ho', rfl, nl, rfl⟩
      unfold Builtin.«set.__init__» noKeywords Builtin.Frozenset.updateFrom
      generalize hPI : pyIter = PI
      wp_walk
      subst hPI
      refine wpAny_pyIter_list hl1 (wpAny_bind (wpAny_runValue ?_))
      have l0 : l < s.heap.objs.size := Heap.lt_size ho
      have hh3 : A.in1.in1.in1.handled = none := by simp [hh]
      have n1 : l ≠ (s.heap.push (setNew w)).objs.size := by rw [Heap.size_push]; exact Nat.ne_of_lt (Nat.lt_succ_of_lt l0)
      have n2 : s.heap.objs.size ∉ [(s.heap.push (setNew w)).objs.size, l] := by
        rw [Heap.size_push]
        simp only [List.mem_cons, List.not_mem_nil, or_false, not_or]; exact ⟨Nat.ne_of_lt (Nat.lt_succ_self _), Nat.ne_of_gt l0⟩
      have hv : ∀ (i : Nat) (v : Value), its[i]? = some v → ∃ k t, ns[i]? = some k ∧ v = .int k t := fun i v q => by
        have hi : i < ns.length := by rw [← hsz]; exact (Array.getElem?_eq_some_iff.mp q).1
        obtain ⟨t, e⟩ := PyProof.Rows.IntsAre.int_at hit i v (by rw [Array.getElem?_toList]; exact q)
        refine ⟨ns[i], t, List.getElem?_eq_getElem hi, ?_⟩
        rw [e, List.getD_eq_getElem?_getD, List.getElem?_eq_getElem hi] <;> rfl
      refine set_update_ints ((Walks.list hh3 _ l n1 its).toS) s.heap.objs.size n2 ns hsz hb hv (its.size - 0) 0 _ (by omega) (Nat.zero_le _) ⟨⟨_, Heap.get?_push_size _ rfl, rfl, rfl⟩, (hl1.push _)⟩ ?hS0 ?hR
      case hS0 => exact ⟨0, Nat.le_refl 0, setR_new_at (Heap.get?_push_of_some _ g0)⟩
      case hR =>
        intro s' c' hm hc' hS'
        obtain ⟨h', g2, d', tk', os'⟩ := s'
        obtain rfl : g2 = s.gens := hm.gens
        obtain rfl : d' = s.drawn := hm.drawn
        obtain rfl : os' = s.os := hm.os
        show wpAny _ _ _ _ _ _
        refine wpAny_pure ?_
        show wpAny _ _ (ret Value.none) _ _ _
        rw [hsz] at hc'
        refine wpAny_pure ⟨rfl, h', tk', c', rfl, hS', hc', fun b o e => ?_⟩
        have b0 : b < s.heap.objs.size := Heap.lt_size e
        refine hm.heap b o ?_ (Heap.get?_push_of_some _ (Heap.get?_push_of_some _ e))
        rw [Heap.size_push]
        simp only [List.mem_cons, List.not_mem_nil, or_false, not_or]; exact ⟨Nat.ne_of_lt b0, Nat.ne_of_lt (Nat.lt_succ_of_lt b0)⟩
    · match r₂, hr₂ with
      | .ok (.ret r), hr₂ =>
        obtain ⟨rfl, h', tk, c', rfl, hS', hc', hk'⟩ := hr₂
        repeat (any_goals (first | assumption | wp_step))
        exact h _ _ _ hS' hc' hk'
      | .error e, hr₂ => exact hr₂
  | .error e, hr => exact hr
end
end CF
end
section
/-! CF, part r: trees off the heap itself, repr. -/
namespace CF
open PySem PySem.Spec PyProof.Rows L2

mutual
/-- u reads as the tree, no dict of it is sys.modules -/
inductive Rn (P : Program) (w : World) (h : Heap) : Value → D → Prop
  | non : Rn P w h .none .none
  | bl (b : Bool) : Rn P w h (.bool b) (.bool b)
  | int (i : Int) (t : Tok) : Rn P w h (.int i t) (.int i)
  | str (x : Str) (t : Tok) : Rn P w h (.str x t) (.str x)
  | lst {a : Addr} {its : List Value} {n : Nat} {ds : List D} : h.get? a = some { cls := .type "list", data := .seq its.toArray n } → RnL P w h its ds → Rn P w h (.ref a) (.list ds)
  | tup {a : Addr} {o : Obj} {its : List Value} {n : Nat} {ds : List D} : h.get? a = some o → o.cls = .type "tuple" → o.data = .seq its.toArray n → RnL P w h its ds → Rn P w h (.ref a) (.tuple ds)
  | dic {a : Addr} {vs : List (Key × Value)} {es : List (D × D)} : (a == sysModules) = false → h.DictOf (mixKind P w) a vs → RnK P w h vs es → Rn P w h (.ref a) (.dict es)
inductive RnL (P : Program) (w : World) (h : Heap) : List Value → List D → Prop
  | nil : RnL P w h [] []
  | cons {v : Value} {vs : List Value} {d : D} {ds : List D} : Rn P w h v d → RnL P w h vs ds → RnL P w h (v :: vs) (d :: ds)
inductive RnK (P : Program) (w : World) (h : Heap) : List (Key × Value) → List (D × D) → Prop
  | nil : RnK P w h [] []
  | cons {k : Key} {v : Value} {vs : List (Key × Value)} {d : D} {es : List (D × D)} : Rn P w h v d → RnK P w h vs es → RnK P w h ((k, v) :: vs) ((keyD k, d) :: es)
end

section
variable {X : Cx} {pins : List (Addr × Obj)} {σ : L2.St} {H : Hp} {s : Shared} {W : Addr → Prop}
mutual
theorem Rx.rn (I : Inv X pins σ H s) : ∀ (d : D) (v : V) (u : Value), Rx X.K W H v d → RelV v u → Rn X.prog X.w s.heap u d
  | .none, _, _, h, r => by
    cases h
    cases r
    exact .non
  | .bool b, _, _, h, r => by
    cases h
    cases r
    exact .bl b
  | .int i, _, _, h, r => by
    cases h
    obtain ⟨t, rfl⟩ := r
    exact .int i t
  | .str x, _, _, h, r => by
    cases h
    obtain ⟨t, rfl⟩ := r
    exact .str x t
  | .list ds, _, _, h, r => by
    cases h with
    | lst hw hs ha =>
      cases r
      obtain ⟨z, its, n, rv, e⟩ := hs.ok I.hok
      exact .lst e (RxL.rn I ds _ its ha rv)
  | .tuple ds, _, _, h, r => by
    cases h with
    | tup hw hs ha =>
      cases r
      obtain ⟨its, rv, ⟨o, ho, hc, n, hd⟩, _⟩ := I.tuple (.inl hs)
      exact .tup ho hc hd (RxL.rn I ds _ its ha rv)
    | tupK hs ha =>
      cases r
      obtain ⟨its, rv, ⟨o, ho, hc, n, hd⟩, _⟩ := I.tuple (.inr hs)
      exact .tup ho hc hd (RxL.rn I ds _ its ha rv)
  | .dict es, _, _, h, r => by
    cases h with
    | dic hw hs ha =>
      cases r
      obtain ⟨z, y, vs, kv, dd⟩ := hs.ok I.hok
      exact .dic y dd (RxK.rn I es _ _ ha kv)
theorem RxL.rn (I : Inv X pins σ H s) : ∀ (ds : List D) (vs : List V) (us : List Value), RxL X.K W H vs ds → Vals vs us → RnL X.prog X.w s.heap us ds
  | [], _, _, h, r => by
    cases h
    cases r
    exact .nil
  | d :: ds, _, _, h, r => by
    cases h with
    | cons h1 h2 =>
      cases r with
      | cons r1 r2 => exact .cons (Rx.rn I d _ _ h1 r1) (RxL.rn I ds _ _ h2 r2)
theorem RxK.rn (I : Inv X pins σ H s) : ∀ (es : List (D × D)) (kvs : List (Key × V)) (vs : List (Key × Value)), RxK X.K W H kvs es → KV kvs vs → RnK X.prog X.w s.heap vs es
  | [], _, _, h, r => by
    cases h
    cases r
    exact .nil
  | (_, d) :: es, _, (_, _) :: _, h, r => by
    cases h with
    | cons h1 h2 =>
      cases r with
      | cons r1 r2 =>
        obtain ⟨e, r1⟩ := r1
        simp only at e r1
        subst e
        exact .cons (Rx.rn I d _ _ h1 r1) (RxK.rn I es _ _ h2 r2)
  | (_, _) :: _, _, [], h, r => by
    cases h with
    | cons h1 h2 => cases r
end
theorem Tx.rn (I : Inv X pins σ H s) {d : D} {v : V} {u : Value} (h : Tx X.K W H v d) (r : RelV v u) : Rn X.prog X.w s.heap u d := Rx.rn I d v u h.bare r
end

section
variable {P : Program} {w : World} {h : Heap}
theorem rnk_keys : ∀ {vs : List (Key × Value)} {es : List (D × D)}, RnK P w h vs es → es.map (·.1) = vs.map fun p => keyD p.1
  | _, [], r => by cases r; rfl
  | _, (_, _) :: _, r => by
    cases r with
    | cons _ t => rw [List.map_cons, List.map_cons, rnk_keys t]
mutual
theorem Rn.reads : ∀ (d : D) (u : Value), Rn P w h u d → ∃ as, Reads h u d as
  | .none, _, r => by cases r; exact ⟨_, .none⟩
  | .bool b, _, r => by cases r; exact ⟨_, .bool b⟩
  | .int i, _, r => by cases r; exact ⟨_, .int i _⟩
  | .str x, _, r => by cases r; exact ⟨_, .str x _⟩
  | .list ds, _, r => by
    cases r with
    | lst e t =>
      obtain ⟨as, q⟩ := RnL.reads ds _ t
      exact ⟨_, .list e rfl rfl q⟩
  | .tuple ds, _, r => by
    cases r with
    | tup e c g t =>
      obtain ⟨as, q⟩ := RnL.reads ds _ t
      exact ⟨_, .tuple e c g q⟩
  | .dict es, _, r => by
    cases r with
    | dic y dd t =>
      obtain ⟨o, es', ep, ho, hx, hd, hk, hp, nd⟩ := dd
      obtain ⟨as, h1⟩ := pairs_keys (h := h) hp
      obtain ⟨bs, h2⟩ := RnK.reads es _ t
      refine ⟨_, Reads.dict (as := as) (bs := bs) ho hx.1 hd ?_ ?_⟩
      · rw [rnk_keys t]
        exact h1
      · rw [pairs_vals hp]
        exact h2
theorem RnL.reads : ∀ (ds : List D) (us : List Value), RnL P w h us ds → ∃ as, ReadsAll h us ds as
  | [], _, r => by cases r; exact ⟨_, .nil⟩
  | d :: ds, _, r => by
    cases r with
    | cons r1 r2 =>
      obtain ⟨as, q1⟩ := Rn.reads d _ r1
      obtain ⟨bs, q2⟩ := RnL.reads ds _ r2
      exact ⟨_, .cons q1 q2⟩
theorem RnK.reads : ∀ (es : List (D × D)) (vs : List (Key × Value)), RnK P w h vs es → ∃ as, ReadsAll h (vs.map (·.2)) (es.map (·.2)) as
  | [], _, r => by cases r; exact ⟨_, .nil⟩
  | (_, d) :: es, _, r => by
    cases r with
    | cons r1 r2 =>
      obtain ⟨as, q1⟩ := Rn.reads d _ r1
      obtain ⟨bs, q2⟩ := RnK.reads es _ r2
      exact ⟨_, .cons q1 q2⟩
end

/-! ### repr -/
theorem keys_repr : ∀ (vs : List (Key × Value)) (es : List DictEntry), Pairs (mixKind P w) es vs → PyData.showableAll (vs.map fun p => keyD p.1) = true → (∀ t ∈ PyData.shownAll (vs.map fun p => keyD p.1), t.length ≤ sizeLine) →
    ReprAllK P w [] h 0 (es.map (·.key)) (PyData.shownAll (vs.map fun p => keyD p.1))
  | [], _, r, _, _ => by cases r; exact .nil
  | (k, v) :: vs, e :: es, r, hs, hz => by
    cases r with
    | cons r1 _ r2 =>
      simp only [List.map_cons, PyData.showableAll, Bool.and_eq_true] at hs
      simp only [List.map_cons, PyData.shownAll, List.mem_cons] at hz ⊢
      refine .cons ?_ (keys_repr vs es r2 hs.2 fun t ht => hz t (.inr ht))
      rcases keyIs_shape r1 with ⟨i, t, e1, e2⟩ | ⟨x, t, e1, e2⟩
      · simp only at e1
        subst e1
        rw [e2]
        simp only [keyD, PyData.shown]
        exact .of_is (ReprIs.int t (by simpa [keyD, PyData.showable] using hs.1)) _ _ _
      · simp only at e1
        subst e1
        rw [e2]
        have hl := hz _ (.inl rfl)
        simp only [keyD, PyData.shown] at hl ⊢
        exact .of_is (ReprIs.str x t hl) _ _ _
mutual
theorem Rn.repr : ∀ (d : D) (u : Value), Rn P w h u d → d.showable = true → d.shown.length ≤ sizeLine → ∃ bs, ReadAtMost h d.depth bs ∧ ReprK P w bs h d.depth u d.shown
  | .none, _, r, _, _ => by
    cases r
    refine ⟨[], (fun _ z => nomatch z), ?_⟩
    simp only [PyData.shown]
    exact .of_is ReprIs.none _ _ _
  | .bool b, _, r, _, _ => by
    cases r
    refine ⟨[], (fun _ z => nomatch z), ?_⟩
    simp only [PyData.shown]
    exact .of_is (ReprIs.bool b) _ _ _
  | .int i, _, r, hs, _ => by
    cases r
    refine ⟨[], (fun _ z => nomatch z), ?_⟩
    simp only [PyData.shown]
    exact .of_is (ReprIs.int _ (by simpa [PyData.showable] using hs)) _ _ _
  | .str x, _, r, _, hz => by
    cases r
    refine ⟨[], (fun _ z => nomatch z), ?_⟩
    simp only [PyData.shown] at hz ⊢
    exact .of_is (ReprIs.str x _ hz) _ _ _
  | .list ds, _, r, hs, hz => by
    obtain ⟨as0, q0⟩ := Rn.reads _ _ r
    cases r with
    | @lst a its n _ e t =>
      simp only [PyData.shown] at hz ⊢
      obtain ⟨bs, hb, hk⟩ := RnL.repr ds _ t (by simpa [PyData.showable] using hs) fun t ht => Nat.le_trans (listText_mem_le ht) hz
      have hna : a ∉ bs := not_mem_of_deeper q0 (by simp only [PyData.depth]; omega) hb
      refine ⟨a :: bs, ReadAtMost.cons q0 (by simp only [PyData.depth]; omega) hb, ?_⟩
      simp only [PyData.depth]
      cases its with
      | nil =>
        cases t
        simp only [PyData.shownAll, listText_nil]
        exact ReprK.listEmpty e rfl rfl
      | cons x l => exact ReprK.list e rfl rfl hna (by simpa using hk.length_eq) fun i y q => hk.item i y (by simpa using q)
  | .tuple ds, _, r, hs, hz => by
    obtain ⟨as0, q0⟩ := Rn.reads _ _ r
    cases r with
    | @tup a o its n _ e c g t =>
      simp only [PyData.shown] at hz ⊢
      obtain ⟨bs, hb, hk⟩ := RnL.repr ds _ t (by simpa [PyData.showable] using hs) fun t ht => Nat.le_trans (tupleText_mem_le ht) hz
      have hna : a ∉ bs := not_mem_of_deeper q0 (by simp only [PyData.depth]; omega) hb
      refine ⟨a :: bs, ReadAtMost.cons q0 (by simp only [PyData.depth]; omega) hb, ?_⟩
      simp only [PyData.depth]
      exact ReprK.tuple e c g hna hk
  | .dict es, _, r, hs, hz => by
    obtain ⟨as0, q0⟩ := Rn.reads _ _ r
    cases r with
    | @dic a vs _ y dd t =>
      obtain ⟨o, es', ep, ho, hx, hd, hk, hp, nd⟩ := dd
      simp only [PyData.shown] at hz ⊢
      obtain ⟨hs1, hs2⟩ := PyData.showableKv_split es (by simpa [PyData.showable] using hs)
      rw [rnk_keys t] at hs1
      obtain ⟨bs, hb, k2⟩ := RnK.repr es _ t hs2 fun t ht => let ⟨p, hp, hl⟩ := PyData.shownKv_val_le es t ht; Nat.le_trans hl (Nat.le_trans (dictText_mem_le hp) hz)
      have k1 := keys_repr (h := h) vs es'.toList hp hs1 fun x hx => by
        rw [← rnk_keys t] at hx
        obtain ⟨p, hp, hl⟩ := PyData.shownKv_key_le es x hx
        exact Nat.le_trans hl (Nat.le_trans (dictText_mem_le hp) hz)
      rw [← rnk_keys t] at k1
      have hb' : ReadAtMost h (PyData.depthKv es) bs := hb.mono (PyData.depthAll_vals_le es)
      have hna : a ∉ bs := not_mem_of_deeper q0 (by simp only [PyData.depth]; omega) hb'
      refine ⟨a :: bs, ReadAtMost.cons q0 (by simp only [PyData.depth]; omega) hb', ?_⟩
      simp only [PyData.depth, PyData.shownKv_eq]
      rw [← pairs_vals hp] at k2
      exact ReprK.dict ho hx.1 hd y hna (ReprEntriesK.of_two es'.toList _ _ (k1.more_le (fun _ z => by simp at z) (Nat.zero_le _)) (k2.more_le (fun _ z => z) (PyData.depthAll_vals_le es)))
theorem RnL.repr : ∀ (ds : List D) (us : List Value), RnL P w h us ds → PyData.showableAll ds = true → (∀ t ∈ PyData.shownAll ds, t.length ≤ sizeLine) → ∃ bs, ReadAtMost h (PyData.depthAll ds) bs ∧ ReprAllK P w bs h (PyData.depthAll ds) us (PyData.shownAll ds)
  | [], _, r, _, _ => by
    cases r
    refine ⟨[], (fun _ z => nomatch z), ?_⟩
    simp only [PyData.shownAll]
    exact .nil
  | d :: ds, _, r, hs, hz => by
    cases r with
    | cons r1 r2 =>
      simp only [PyData.showableAll, Bool.and_eq_true] at hs
      simp only [PyData.shownAll, List.mem_cons] at hz
      obtain ⟨b1, hb1, k1⟩ := Rn.repr d _ r1 hs.1 (hz _ (.inl rfl))
      obtain ⟨b2, hb2, k2⟩ := RnL.repr ds _ r2 hs.2 fun t ht => hz t (.inr ht)
      simp only [PyData.depthAll, PyData.shownAll]
      exact ⟨b1 ++ b2, (hb1.mono (Nat.le_max_left _ _)).append (hb2.mono (Nat.le_max_right _ _)), .cons ((k1.more fun b hb => List.mem_append_left _ hb).level_le (Nat.le_max_left _ _)) (k2.more_le (fun b hb => List.mem_append_right _ hb) (Nat.le_max_right _ _))⟩
theorem RnK.repr : ∀ (es : List (D × D)) (vs : List (Key × Value)), RnK P w h vs es → PyData.showableAll (es.map (·.2)) = true → (∀ t ∈ PyData.shownAll (es.map (·.2)), t.length ≤ sizeLine) → ∃ bs, ReadAtMost h (PyData.depthAll (es.map (·.2))) bs ∧ ReprAllK P w bs h (PyData.depthAll (es.map (·.2))) (vs.map (·.2)) (PyData.shownAll (es.map (·.2)))
  | [], _, r, _, _ => by
    cases r
    refine ⟨[], (fun _ z => nomatch z), ?_⟩
    simp only [List.map_nil, PyData.shownAll]
    exact .nil
  | (_, d) :: es, _, r, hs, hz => by
    cases r with
    | cons r1 r2 =>
      simp only [List.map_cons, PyData.showableAll, Bool.and_eq_true] at hs
      simp only [List.map_cons, PyData.shownAll, List.mem_cons] at hz
      obtain ⟨b1, hb1, k1⟩ := Rn.repr d _ r1 hs.1 (hz _ (.inl rfl))
      obtain ⟨b2, hb2, k2⟩ := RnK.repr es _ r2 hs.2 fun t ht => hz t (.inr ht)
      simp only [List.map_cons, PyData.depthAll, PyData.shownAll]
      exact ⟨b1 ++ b2, (hb1.mono (Nat.le_max_left _ _)).append (hb2.mono (Nat.le_max_right _ _)), .cons ((k1.more fun b hb => List.mem_append_left _ hb).level_le (Nat.le_max_left _ _)) (k2.more_le (fun b hb => List.mem_append_right _ hb) (Nat.le_max_right _ _))⟩
end
/-- what repr(x) may be asked of -/
def canShow (d : D) : Bool := d.showable && decide (d.depth ≤ 60) && decide (d.shown.length ≤ sizeLine)
theorem call_repr_rn {A : Around} {E : Value → Shared → Prop} {s : Shared} {Q : Value → Shared → Prop} {u : Value} {d : D} (r : Rn P w s.heap u d) (hc : canShow d = true) (hg : A.guards = some []) (hu : A.units + 64 < cLine)
    (hQ : ∀ h' t tk, (∀ b o, s.heap.get? b = some o → h'.get? b = some o) → Q (.str d.shown t) { s with heap := h', toks := tk }) : wpAny (model P w) A (call (.builtin "repr") [u]) Q E s := by
  unfold canShow at hc
  simp only [Bool.and_eq_true, decide_eq_true_eq] at hc
  obtain ⟨⟨hs, hd⟩, hz⟩ := hc
  have g1 : A.in1.guards = some [] := hg
  have q0 := Rn.reads _ _ r
  cases r with
  | non => exact PySem.P.repr_of_none (by simpa only [PyData.shown] using hQ s.heap _ _ fun _ _ e => e)
  | bl b => exact PySem.P.repr_of_bool (by simpa only [PyData.shown] using hQ s.heap _ _ fun _ _ e => e)
  | int i t => exact PySem.P.repr_of_int (by simpa [PyData.showable] using hs) (by simpa only [PyData.shown] using hQ s.heap _ _ fun _ _ e => e)
  | str x t => exact PySem.P.repr_of_str (by simpa only [PyData.shown] using hQ s.heap _ _ fun _ _ e => e) (by simpa only [PyData.shown] using hz)
  | @lst a its n ds e t =>
    obtain ⟨as0, q0⟩ := q0
    simp only [PyData.shown] at hz hQ
    simp only [PyData.depth] at hd
    obtain ⟨bs, hb, hk⟩ := RnL.repr ds _ t (by simpa [PyData.showable] using hs) fun t ht => Nat.le_trans (listText_mem_le ht) hz
    have hna : a ∉ bs := not_mem_of_deeper q0 (by simp only [PyData.depth]; omega) hb
    refine call_repr_slot (by omega) ⟨_, e, rfl⟩ F.slot_list_repr.toG ?_
    cases its with
    | nil =>
      cases t
      simp only [PyData.shownAll, listText_nil] at hQ
      exact call_list_repr_empty ⟨_, e, rfl⟩ e rfl ⟨_, _, rfl, hQ s.heap _ _ fun _ _ e => e⟩
    | cons x l => exact call_list_reprK e rfl rfl hna (by simpa using hk.length_eq) (fun i y q => hk.item i y (by simpa using q)) g1 (fun b _ => Clear.nil b) (by show A.units + 1 + _ < cLine; omega) (fun _ _ e => e) (fun h' u tk hk' => ⟨_, _, rfl, hQ h' _ _ hk'⟩) hz
  | @tup a o its n ds e c g t =>
    obtain ⟨as0, q0⟩ := q0
    simp only [PyData.shown] at hz hQ
    simp only [PyData.depth] at hd
    obtain ⟨bs, hb, hk⟩ := RnL.repr ds _ t (by simpa [PyData.showable] using hs) fun t ht => Nat.le_trans (tupleText_mem_le ht) hz
    have hna : a ∉ bs := not_mem_of_deeper q0 (by simp only [PyData.depth]; omega) hb
    refine call_repr_slot (by omega) ⟨_, e, c⟩ F.slot_tuple_repr ?_
    exact call_tuple_reprK e c g hna hk g1 (fun b _ => Clear.nil b) (by show A.units + 1 + _ < cLine; omega) (fun _ _ e => e) (fun h' u tk hk' => ⟨_, _, rfl, hQ h' _ _ hk'⟩) hz
  | @dic a vs es y dd t =>
    obtain ⟨as0, q0⟩ := q0
    obtain ⟨o, es', ep, ho, hx, hdt, hk, hp, nd⟩ := dd
    simp only [PyData.shown] at hz hQ
    simp only [PyData.depth] at hd
    obtain ⟨hs1, hs2⟩ := PyData.showableKv_split es (by simpa [PyData.showable] using hs)
    rw [rnk_keys t] at hs1
    obtain ⟨bs, hb, k2⟩ := RnK.repr es _ t hs2 fun t ht => let ⟨p, hp, hl⟩ := PyData.shownKv_val_le es t ht; Nat.le_trans hl (Nat.le_trans (dictText_mem_le hp) hz)
    have k1 := keys_repr (h := s.heap) vs es'.toList hp hs1 fun x hx => by
      rw [← rnk_keys t] at hx
      obtain ⟨p, hp, hl⟩ := PyData.shownKv_key_le es x hx
      exact Nat.le_trans hl (Nat.le_trans (dictText_mem_le hp) hz)
    rw [← rnk_keys t] at k1
    have hb' : ReadAtMost s.heap (PyData.depthKv es) bs := hb.mono (PyData.depthAll_vals_le es)
    have hna : a ∉ bs := not_mem_of_deeper q0 (by simp only [PyData.depth]; omega) hb'
    rw [PyData.shownKv_eq] at hz hQ
    rw [← pairs_vals hp] at k2
    refine call_repr_slot (by omega) ⟨_, ho, hx.1⟩ F.slot_dict_repr ?_
    exact call_dict_reprK ho hx.1 hdt y hna (ReprEntriesK.of_two es'.toList _ _ (k1.more_le (fun _ z => by simp at z) (Nat.zero_le _)) (k2.more_le (fun _ z => z) (PyData.depthAll_vals_le es))) g1 (fun b _ => Clear.nil b)
      (by show A.units + 1 + _ < cLine; omega) (fun _ _ e => e) (fun h' u tk hk' => ⟨_, _, rfl, hQ h' _ _ hk'⟩) hz
end
def reprC : List D → Option D
  | [d] => if canShow d then some (.str d.shown) else none
  | _ => none
theorem cr_repr {X : Cx} (hg : X.A.guards = some []) (hu : X.A.units + 64 < cLine) : CallR X (.builtin "repr") (rC X.K reprC) := by
  intro pins s σ H xs us Q I rx ⟨W, ds, r, tr, hx, hf, q⟩
  unfold reprC at hf
  split at hf
  · rename_i d
    split at hf
    · rename_i hc
      cases hf
      obtain ⟨x, rfl, h⟩ := hx.one
      obtain ⟨u, rfl, ru⟩ := vals1 rx
      exact call_repr_rn (h.rn I ru) hc hg hu fun h' t tk k => ⟨.str d.shown, H, I.kept k, ⟨_, rfl⟩, q _ _ (Same.refl H) (.str _)⟩
    · cases hf
  · cases hf
end CF
end
section
/-! CF, part e: expressions. -/
namespace CF
open PySem PySem.Spec PyProof.Rows L2

theorem M.assoc {α β γ : Type} {m : M α} {f : α → M β} {g : β → M γ} : ((m >>= f) >>= g) = (m >>= fun a => f a >>= g) := by
  funext ρ
  show M.bind (M.bind m f) g ρ = M.bind m _ ρ
  unfold M.bind
  cases m ρ with
  | none => rfl
  | some r => cases r <;> rfl
def LV.get : LV → M D
  | .dat d => pure d
  | .slot i => fun ρ => match ρ[i]? with
    | some (.dat d) => some (.ok d ρ)
    | some (.own d) => some (.ok d ρ)
    | _ => none
def mVar (i : Nat) : M D := fun ρ => match ρ[i]? with
  | some (.dat d) => some (.ok d ρ)
  | _ => none
def mPk (i : Nat) : M LV := fun ρ => match ρ[i]? with
  | some (.dat _) => some (.ok (.slot i) ρ)
  | some (.own _) => some (.ok (.slot i) ρ)
  | _ => none
def mC (d : D) : M D := pure d
def mV (m : M D) : M LV := do
  let d ← m
  pure (.dat d)
def mOp2 (f : D → D → Option D) (a b : M LV) : M D := do
  let x ← a
  let y ← b
  let d ← x.get
  let e ← y.get
  lift (f d e)
def mOp1 (f : D → Option D) (a : M LV) : M D := do
  let x ← a
  let d ← x.get
  lift (f d)
/-- a call's arguments, looked at -/
def mLs : List (M LV) → M (List LV)
  | [] => pure []
  | a :: as => do
    let x ← a
    let xs ← mLs as
    pure (x :: xs)
def getAll : List LV → M (List D)
  | [] => pure []
  | x :: xs => do
    let d ← x.get
    let ds ← getAll xs
    pure (d :: ds)
def mCall (g : List D → Option D) (as : List (M LV)) : M D := do
  let xs ← mLs as
  let ds ← getAll xs
  lift (g ds)
/-- a row of trees -/
def mDs : List (M D) → M (List D)
  | [] => pure []
  | a :: as => do
    let d ← a
    let ds ← mDs as
    pure (d :: ds)
def mTup (as : List (M D)) : M D := do
  let ds ← mDs as
  lift (if ds.length ≤ sizeLine then some (.tuple ds) else none)
def mLst (as : List (M D)) : M D := do
  let ds ← mDs as
  lift (if ds.length ≤ sizeLine then some (.list ds) else none)
def mTest (m : M D) : M Bool := do
  let d ← m
  lift (match d with
    | .bool b => some b
    | _ => none)
def mAnd (a b : M Bool) : M Bool := do
  let x ← a
  if x = true then b else pure false
def mOr (a b : M Bool) : M Bool := do
  let x ← a
  if x = true then pure true else b
def mNot (a : M Bool) : M Bool := do
  let x ← a
  pure (!x)
def mIf (t : M Bool) (a b : M D) : M D := do
  let x ← t
  if x = true then a else b
def mIfL (t : M Bool) (a b : M LV) : M LV := do
  let x ← t
  if x = true then a else b
def mBl (t : M Bool) : M D := do
  let x ← t
  pure (.bool x)

section
variable {K : PySem.W.Frag} {Ew : WX} {W O : Addr → Prop} {σ : L2.St} {H H' : Hp} {ρ : List Slot}
theorem SRel.dom (R : SRel K W O H' σ ρ) (k : KeepO W O H H') {p : Addr} (n : H' p = none) : H p = none := by
  cases e : H p with
  | none => rfl
  | some o =>
    by_cases q : W p
    · obtain ⟨o', e'⟩ := R.tr p q
      rw [n] at e'
      cases e'
    · obtain ⟨o', e'⟩ := rd_some (k.rest p o (.inl e) q)
      rw [n] at e'
      cases e'
theorem LRel.keep {v : V} {x : LV} (h : LRel K W H σ v x) (R : SRel K W O H σ ρ) (k : KeepO W O H H') : LRel K W H' σ v x := by
  cases x with
  | dat d => exact Rx.keepO h R k
  | slot i => exact h
theorem LRels.keep : ∀ {vs : List V} {xs : List LV}, LRels K W H σ vs xs → SRel K W O H σ ρ → KeepO W O H H' → LRels K W H' σ vs xs
  | _, [], h, _, _ => by cases h; exact .nil
  | _, _ :: _, h, R, k => by
    cases h with
    | cons h1 h2 => exact .cons (h1.keep R k) (h2.keep R k)
theorem SRel.look (R : SRel K W O H σ ρ) {i : Nat} {v : V} (h : σ[i]? = some (some v)) {d : D} (e : ρ[i]? = some (.dat d) ∨ ρ[i]? = some (.own d)) : Tx K W H v d := by
  rcases e with e | e
  · obtain ⟨w, h1, h2⟩ := R.dat e
    rw [h] at h1; cases h1
    exact .inl h2
  · obtain ⟨a, h1, _, h2⟩ := R.own e
    rw [h] at h1; cases h1
    exact .inr ⟨a, rfl, h2⟩
theorem Out.get {β : Type} {Q : β → List Slot → Hp → Prop} {x : LV} {f : D → M β} {v : V} (h : Out K Ew W O σ H Q ((x.get >>= f) ρ)) (R : SRel K W O H σ ρ) (r : LRel K W H σ v x) :
    ∃ d, Tx K W H v d ∧ Out K Ew W O σ H Q (f d ρ) := by
  cases x with
  | dat d => exact ⟨d, .inl r, h⟩
  | slot i =>
    have h : Out K Ew W O σ H Q (M.bind (LV.get (.slot i)) f ρ) := h
    unfold M.bind LV.get at h
    have r : σ[i]? = some (some v) := r
    cases e : ρ[i]? with
    | none => simp only [e] at h; exact h.elim
    | some s =>
      cases s with
      | un => simp only [e] at h; exact h.elim
      | dat d => simp only [e] at h; exact ⟨d, R.look r (.inl e), h⟩
      | own d => simp only [e] at h; exact ⟨d, R.look r (.inr e), h⟩
theorem Out.getAll {β : Type} {Q : β → List Slot → Hp → Prop} : ∀ {xs : List LV} {vs : List V} {f : List D → M β}, Out K Ew W O σ H Q ((CF.getAll xs >>= f) ρ) → SRel K W O H σ ρ → LRels K W H σ vs xs →
    ∃ ds, TxL K W H vs ds ∧ Out K Ew W O σ H Q (f ds ρ)
  | [], _, f, h, R, r => by
    cases r
    exact ⟨[], .nil, h⟩
  | x :: xs, _, f, h, R, r => by
    cases r with
    | cons r1 r2 =>
      have h' : Out K Ew W O σ H Q ((x.get >>= fun d => CF.getAll xs >>= fun ds => f (d :: ds)) ρ) := by
        have e : (CF.getAll (x :: xs) >>= f) = (x.get >>= fun d => CF.getAll xs >>= fun ds => f (d :: ds)) := by
          show (M.bind (x.get >>= fun d => CF.getAll xs >>= fun ds => Pure.pure (d :: ds)) f) = _
          rw [show M.bind (x.get >>= fun d => CF.getAll xs >>= fun ds => Pure.pure (d :: ds)) f = ((x.get >>= fun d => CF.getAll xs >>= fun ds => Pure.pure (d :: ds)) >>= f) from rfl, M.assoc]
          congr 1
          funext d
          rw [M.assoc]
          rfl
        rw [← e]
        exact h
      obtain ⟨d, t1, h2⟩ := Out.get h' R r1
      obtain ⟨ds, t2, h3⟩ := Out.getAll h2 R r2
      exact ⟨d :: ds, .cons t1 t2, h3⟩
end

section
variable {X : Cx} {Ew : WX} {a b c e : Expr} {es : List Expr} {pos : Pos} {ma mb : M LV} {md me : M D} {mt mu : M Bool} {as : List (M LV)} {ds : List (M D)}
/-- a name -/
theorem dv (i : Nat) {x : Str} {pos : Pos} (hN : X.N[i]? = some x := by rfl) (hv : Vis X.env.scope x := by first | exact Or.inl rfl | exact Or.inr (Or.inl rfl) | exact Or.inr (Or.inr rfl)) (hd : (x == ("__debug__" : Str)) = false := by decide)
    (hcd : (x == ("__classdict__" : Str)) = false := by decide) : PE X (.Name x pos) (tD X.K Ew (mVar i)) := by
  refine PE.imp (pe_var hN hv hd hcd) fun σ H Q ⟨W, O, ρ, R, h⟩ => ?_
  unfold mVar at h
  cases e : ρ[i]? with
  | none => simp only [e] at h; exact h.elim
  | some s =>
    cases s with
    | un => simp only [e] at h; exact h.elim
    | own d => simp only [e] at h; exact h.elim
    | dat d =>
      simp only [e] at h
      obtain ⟨v, h1, h2⟩ := R.dat e
      exact ⟨v, h1, h H KeepO.refl R v h2⟩
theorem dk (i : Nat) {x : Str} {pos : Pos} (hN : X.N[i]? = some x := by rfl) (hv : Vis X.env.scope x := by first | exact Or.inl rfl | exact Or.inr (Or.inl rfl) | exact Or.inr (Or.inr rfl)) (hd : (x == ("__debug__" : Str)) = false := by decide)
    (hcd : (x == ("__classdict__" : Str)) = false := by decide) : PE X (.Name x pos) (tL X.K Ew (mPk i)) := by
  refine PE.imp (pe_var hN hv hd hcd) fun σ H Q ⟨W, O, ρ, R, h⟩ => ?_
  unfold mPk at h
  cases e : ρ[i]? with
  | none => simp only [e] at h; exact h.elim
  | some s =>
    cases s with
    | un => simp only [e] at h; exact h.elim
    | own d =>
      simp only [e] at h
      obtain ⟨v, h1, _, h2⟩ := R.own e
      exact ⟨_, h1, h H KeepO.refl R _ h1⟩
    | dat d =>
      simp only [e] at h
      obtain ⟨v, h1, h2⟩ := R.dat e
      exact ⟨v, h1, h H KeepO.refl R v h1⟩
theorem dc {v : V} {d : D} (h : PE X e (tC v)) (r : ∀ W H, Rx X.K W H v d) : PE X e (tD X.K Ew (mC d)) :=
  PE.imp h fun σ H Q ⟨W, O, ρ, R, h⟩ => h H KeepO.refl R v (r W H)
theorem dInt {i j pos} : PE X (.Constant (.int i) j pos) (tD X.K Ew (mC (.int i))) := dc pe_int fun _ _ => .int _
theorem dBl {b j pos} : PE X (.Constant (.bool b) j pos) (tD X.K Ew (mC (.bool b))) := dc pe_bl fun _ _ => .bl _
theorem dNon {j pos} : PE X (.Constant .none j pos) (tD X.K Ew (mC .none)) := dc pe_non fun _ _ => .non
theorem dStr {x j pos} : PE X (.Constant (.str x) j pos) (tD X.K Ew (mC (.str x))) := dc pe_str fun _ _ => .str _
theorem dl (h : PE X e (tD X.K Ew md)) : PE X e (tL X.K Ew (mV md)) :=
  PE.imp h fun σ H Q ⟨W, O, ρ, R, h⟩ => ⟨W, O, ρ, R, (Out.bind h).mono fun d ρ' H' k R' h' v r => h' H' KeepO.refl R' v r⟩
theorem df (h : PE X e (tF X.K Ew md)) : PE X e (tD X.K Ew md) :=
  PE.imp h fun σ H Q ⟨W, O, ρ, R, h⟩ => ⟨W, O, ρ, R, h.mono fun d ρ' H' k R' h' a R2 n o => h' _ ((o.less fun _ z => .inl z).rx fun z => by
    obtain ⟨o', e'⟩ := R.tr a z
    rw [n] at e'
    cases e')⟩
section
variable {K : PySem.W.Frag} {W O : Addr → Prop} {σ : L2.St} {H : Hp} {ρ : List Slot} {Q : VK}
theorem t_op2 {f : D → D → Option D} (h : tD K Ew (mOp2 f ma mb) σ H Q) : tOp (rD K f) (tL K Ew ma) (tL K Ew mb) σ H Q := by
  obtain ⟨W, O, ρ, R, h⟩ := h
  refine ⟨W, O, ρ, R, (Out.bind h).mono fun x ρ1 H1 k1 R1 h1 v rv => ⟨W, O, ρ1, R1, (Out.bind h1).mono fun y ρ2 H2 k2 R2 h2 w rw => ?_⟩⟩
  obtain ⟨d, tx, h3⟩ := Out.get h2 R2 (rv.keep R1 k2)
  obtain ⟨e, ty, h4⟩ := Out.get h3 R2 rw
  obtain ⟨r, hf, q⟩ := Out.lift h4 R2
  exact ⟨W, d, e, r, R2.tr, tx, ty, hf, fun u H' s ru => q H' (KeepO.of s) (R2.same s) u ru⟩
theorem fresh_end {H0 H1 H' : Hp} {r : D} {p : Addr} (R0 : KeepO W O H0 H1) (R1 : SRel K W O H1 σ ρ) (s : Same H1 H') (n : H1 p = none) (o : OwnAt K (plus W p) H' p r) :
    SRel K (plus W p) (plus O p) H' σ ρ ∧ H0 p = none ∧ KeepO W O H1 H' ∧ SRel K W O H' σ ρ := by
  obtain ⟨ob, e⟩ := o.some
  exact ⟨R1.plus n e s, R1.dom R0 n, KeepO.of s, R1.same s⟩
theorem t_op2F {f : D → D → Option D} (h : tF K Ew (mOp2 f ma mb) σ H Q) : tOp (rF K f) (tL K Ew ma) (tL K Ew mb) σ H Q := by
  obtain ⟨W, O, ρ, R, h⟩ := h
  refine ⟨W, O, ρ, R, (Out.bind h).mono fun x ρ1 H1 k1 R1 h1 v rv => ⟨W, O, ρ1, R1, (Out.bind h1).mono fun y ρ2 H2 k2 R2 h2 w rw => ?_⟩⟩
  obtain ⟨d, tx, h3⟩ := Out.get h2 R2 (rv.keep R1 k2)
  obtain ⟨e, ty, h4⟩ := Out.get h3 R2 rw
  obtain ⟨r, hf, q⟩ := Out.lift h4 R2
  refine ⟨W, d, e, r, R2.tr, tx, ty, hf, fun p H' s n o => ?_⟩
  obtain ⟨g1, g2, g3, g4⟩ := fresh_end (k1.trans k2) R2 s n o
  exact q H' g3 g4 p g1 g2 o
end
/-- a op b -/
theorem dOp {op : Operator} {f : D → D → Option D} (ho : OpR X (binaryOp op) (rD X.K f)) (ha : PE X a (tL X.K Ew ma)) (hb : PE X b (tL X.K Ew mb)) : PE X (.BinOp a op b pos) (tD X.K Ew (mOp2 f ma mb)) :=
  PE.imp (pe_op ho ha hb) fun _ _ _ h => t_op2 h
theorem fOp {op : Operator} {f : D → D → Option D} (ho : OpR X (binaryOp op) (rF X.K f)) (ha : PE X a (tL X.K Ew ma)) (hb : PE X b (tL X.K Ew mb)) : PE X (.BinOp a op b pos) (tF X.K Ew (mOp2 f ma mb)) :=
  PE.imp (pe_op ho ha hb) fun _ _ _ h => t_op2F h
/-- a == b and its like -/
theorem dCmp {op : CmpOp} {f : D → D → Option D} (ho : OpR X (compareOp op) (rD X.K f)) (ha : PE X a (tL X.K Ew ma)) (hb : PE X b (tL X.K Ew mb)) (hm : behindInMarks op b = false := by first | exact nobehind _ (by decide) (by decide) | rfl) :
    PE X (.Compare a [op] [b] pos) (tD X.K Ew (mOp2 f ma mb)) :=
  PE.imp (pe_cmpR ho ha hb hm) fun _ _ _ h => t_op2 h
theorem t_test {K : PySem.W.Frag} {t : TE} {t' : TT} {σ : L2.St} {H : Hp} {Q : Bool → Hp → Prop} (i : ∀ Q : VK, tD K Ew md σ H Q → t σ H Q) (h : tT K Ew (mTest md) σ H Q) : t σ H fun x H1 => ∃ c, x = .bl c ∧ Q c H1 := by
  obtain ⟨W, O, ρ, R, h⟩ := h
  refine i _ ⟨W, O, ρ, R, (Out.bind h).mono fun d ρ1 H1 k1 R1 h1 v rv => ?_⟩
  cases d with
  | bool c =>
    cases rv
    exact ⟨c, rfl, h1 H1 KeepO.refl R1⟩
  | _ => exact h1.elim
/-- a comparison as a test -/
theorem qCmp {op : CmpOp} {f : D → D → Option D} (ho : OpR X (compareOp op) (rD X.K f)) (ha : PE X a (tL X.K Ew ma)) (hb : PE X b (tL X.K Ew mb)) (hm : behindInMarks op b = false := by first | exact nobehind _ (by decide) (by decide) | rfl) :
    PT X (.Compare a [op] [b] pos) (tT X.K Ew (mTest (mOp2 f ma mb))) :=
  PT.imp (pt_cmpR ho ha hb hm) fun σ H Q h => t_test (t := tOp (rD X.K f) (tL X.K Ew ma) (tL X.K Ew mb)) (t' := tT X.K Ew (mTest (mOp2 f ma mb))) (fun Q h => t_op2 h) h
/-- a value as a test -/
theorem qVal (he : PE X e (tD X.K Ew md)) (hh : ∀ whole, isTrue e X.env whole = (do let v ← whole; standAt e.pos; holding [v] (truthy v)) := by intro _; rfl) : PT X e (tT X.K Ew (mTest md)) :=
  PT.imp (pt_val he hh) fun σ H Q h => t_test (t := tD X.K Ew md) (t' := tT X.K Ew (mTest md)) (fun Q h => h) h
theorem t_and {K : PySem.W.Frag} {σ : L2.St} {H : Hp} {Q : Bool → Hp → Prop} (h : tT K Ew (mAnd mt mu) σ H Q) : tAnd (tT K Ew mt) (tT K Ew mu) σ H Q := by
  obtain ⟨W, O, ρ, R, h⟩ := h
  refine ⟨W, O, ρ, R, (Out.bind h).mono fun c ρ1 H1 k1 R1 h1 => ?_⟩
  cases c with
  | true => exact ⟨W, O, ρ1, R1, h1⟩
  | false => exact h1 H1 KeepO.refl R1
theorem t_or {K : PySem.W.Frag} {σ : L2.St} {H : Hp} {Q : Bool → Hp → Prop} (h : tT K Ew (mOr mt mu) σ H Q) : tOr (tT K Ew mt) (tT K Ew mu) σ H Q := by
  obtain ⟨W, O, ρ, R, h⟩ := h
  refine ⟨W, O, ρ, R, (Out.bind h).mono fun c ρ1 H1 k1 R1 h1 => ?_⟩
  cases c with
  | false => exact ⟨W, O, ρ1, R1, h1⟩
  | true => exact h1 H1 KeepO.refl R1
theorem wAnd1 (h : PT X a (tT X.K Ew mt)) : PW X (.BoolOp .And [a] pos) (tT X.K Ew mt) := pw_and1 h
theorem wOr1 (h : PT X a (tT X.K Ew mt)) : PW X (.BoolOp .Or [a] pos) (tT X.K Ew mt) := pw_or1 h
theorem wAnd (h : PT X a (tT X.K Ew mt)) (h2 : PW X (.BoolOp .And (b :: es) pos) (tT X.K Ew mu)) : PW X (.BoolOp .And (a :: b :: es) pos) (tT X.K Ew (mAnd mt mu)) := PW.imp (pw_and h h2) fun _ _ _ h => t_and h
theorem wOr (h : PT X a (tT X.K Ew mt)) (h2 : PW X (.BoolOp .Or (b :: es) pos) (tT X.K Ew mu)) : PW X (.BoolOp .Or (a :: b :: es) pos) (tT X.K Ew (mOr mt mu)) := PW.imp (pw_or h h2) fun _ _ _ h => t_or h
theorem qW (h : PW X a (tT X.K Ew mt)) : PT X a (tT X.K Ew mt) := h.pt
theorem qNot (h : PT X a (tT X.K Ew mt)) : PT X (.UnaryOp .Not a pos) (tT X.K Ew (mNot mt)) :=
  PT.imp (pt_not h) fun σ H Q ⟨W, O, ρ, R, h⟩ => ⟨W, O, ρ, R, (Out.bind h).mono fun c ρ1 H1 k1 R1 h1 => h1 H1 KeepO.refl R1⟩
/-- and, or, not of truths, as values -/
theorem dAnd1 {op : BoolOp} (h : PE X a (tD X.K Ew (mBl mt))) : PE X (.BoolOp op [a] pos) (tD X.K Ew (mBl mt)) := pe_one h
theorem t_bl {K : PySem.W.Frag} {σ : L2.St} {H : Hp} {Q : VK} (h : tD K Ew (mBl mt) σ H Q) : ∃ W O ρ, SRel K W O H σ ρ ∧ Out K Ew W O σ H (fun c _ H' => Q (.bl c) H') (mt ρ) := by
  obtain ⟨W, O, ρ, R, h⟩ := h
  exact ⟨W, O, ρ, R, (Out.bind h).mono fun c ρ1 H1 k1 R1 h1 => h1 H1 KeepO.refl R1 _ (.bl c)⟩
theorem bl_bind {m : M Bool} {f : Bool → M Bool} {ρ : List Slot} : mBl (m >>= f) ρ = (m >>= fun c => mBl (f c)) ρ := by
  show M.bind (M.bind m f) _ ρ = M.bind m _ ρ
  unfold M.bind
  cases m ρ with
  | none => rfl
  | some r => cases r <;> rfl
theorem dAnd (h : PE X a (tD X.K Ew (mBl mt))) (h2 : PE X (.BoolOp .And (b :: es) pos) (tD X.K Ew (mBl mu))) : PE X (.BoolOp .And (a :: b :: es) pos) (tD X.K Ew (mBl (mAnd mt mu))) := by
  refine PE.imp (pe_and h h2) fun σ H Q ⟨W, O, ρ, R, h⟩ => ?_
  have h' : Out X.K Ew W O σ H (fun d _ H' => ∀ v, Rx X.K W H' v d → Q v H') ((mt >>= fun c => mBl (if c = true then mu else pure false)) ρ) := by rw [← bl_bind]; exact h
  refine ⟨W, O, ρ, R, ?_⟩
  show Out _ _ _ _ _ _ _ ((mt >>= fun c => pure (PyData.bool c)) ρ)
  have step := Out.bind h'
  generalize hr : mt ρ = r at step
  show Out _ _ _ _ _ _ _ (M.bind mt _ ρ)
  unfold M.bind
  rw [hr]
  match r, step with
  | some (.ex e ρ'), step => exact step
  | some (.ok c ρ1), step =>
    intro H1 k1 R1 v rv
    cases rv
    have h1 := step H1 k1 R1
    refine ⟨c, rfl, ?_⟩
    cases c with
    | true => exact ⟨W, O, ρ1, R1, h1⟩
    | false => exact h1 H1 KeepO.refl R1 _ (.bl false)
theorem dOr (h : PE X a (tD X.K Ew (mBl mt))) (h2 : PE X (.BoolOp .Or (b :: es) pos) (tD X.K Ew (mBl mu))) : PE X (.BoolOp .Or (a :: b :: es) pos) (tD X.K Ew (mBl (mOr mt mu))) := by
  refine PE.imp (pe_or h h2) fun σ H Q ⟨W, O, ρ, R, h⟩ => ?_
  have h' : Out X.K Ew W O σ H (fun d _ H' => ∀ v, Rx X.K W H' v d → Q v H') ((mt >>= fun c => mBl (if c = true then pure true else mu)) ρ) := by rw [← bl_bind]; exact h
  refine ⟨W, O, ρ, R, ?_⟩
  have step := Out.bind h'
  generalize hr : mt ρ = r at step
  show Out _ _ _ _ _ _ _ (M.bind mt _ ρ)
  unfold M.bind
  rw [hr]
  match r, step with
  | some (.ex e ρ'), step => exact step
  | some (.ok c ρ1), step =>
    intro H1 k1 R1 v rv
    cases rv
    have h1 := step H1 k1 R1
    refine ⟨c, rfl, ?_⟩
    cases c with
    | false => exact ⟨W, O, ρ1, R1, h1⟩
    | true => exact h1 H1 KeepO.refl R1 _ (.bl true)
theorem dNot (h : PE X a (tD X.K Ew (mBl mt))) : PE X (.UnaryOp .Not a pos) (tD X.K Ew (mBl (mNot mt))) := by
  refine PE.imp (pe_not h) fun σ H Q ⟨W, O, ρ, R, h⟩ => ?_
  have h' : Out X.K Ew W O σ H (fun d _ H' => ∀ v, Rx X.K W H' v d → Q v H') ((mt >>= fun c => mBl (pure (!c))) ρ) := by rw [← bl_bind]; exact h
  refine ⟨W, O, ρ, R, ?_⟩
  have step := Out.bind h'
  generalize hr : mt ρ = r at step
  show Out _ _ _ _ _ _ _ (M.bind mt _ ρ)
  unfold M.bind
  rw [hr]
  match r, step with
  | some (.ex e ρ'), step => exact step
  | some (.ok c ρ1), step =>
    intro H1 k1 R1 v rv
    cases rv
    exact ⟨c, rfl, step H1 k1 R1 H1 KeepO.refl R1 _ (.bl _)⟩
/-- a value that is a truth -/
theorem dBlOf (h : PE X a (tD X.K Ew md)) : PE X a (tD X.K Ew (mBl (mTest md))) := by
  refine PE.imp h fun σ H Q ⟨W, O, ρ, R, h⟩ => ⟨W, O, ρ, R, ?_⟩
  have h' : Out X.K Ew W O σ H (fun d _ H' => ∀ v, Rx X.K W H' v d → Q v H') ((md >>= fun d => mBl (lift (match d with | .bool b => some b | _ => none))) ρ) := by
    have e : mBl (mTest md) ρ = (md >>= fun d => mBl (lift (match d with | .bool b => some b | _ => none))) ρ := by
      show M.bind (M.bind md _) _ ρ = M.bind md _ ρ
      unfold M.bind
      cases md ρ with
      | none => rfl
      | some r => cases r <;> rfl
    rw [← e]; exact h
  refine (Out.bind h').mono fun d ρ1 H1 k1 R1 h1 v rv => ?_
  cases d with
  | bool c => exact h1 H1 KeepO.refl R1 v rv
  | _ => exact h1.elim
/-- a if t else b -/
theorem dIf (h : PT X c (tT X.K Ew mt)) (ha : PE X a (tD X.K Ew md)) (hb : PE X b (tD X.K Ew me)) : PE X (.IfExp c a b pos) (tD X.K Ew (mIf mt md me)) :=
  PE.imp (pe_ifExp h ha hb) fun σ H Q ⟨W, O, ρ, R, h⟩ => ⟨W, O, ρ, R, (Out.bind h).mono fun x ρ1 H1 k1 R1 h1 => by
    cases x with
    | true => exact ⟨W, O, ρ1, R1, h1⟩
    | false => exact ⟨W, O, ρ1, R1, h1⟩⟩
theorem lIf (h : PT X c (tT X.K Ew mt)) (ha : PE X a (tL X.K Ew ma)) (hb : PE X b (tL X.K Ew mb)) : PE X (.IfExp c a b pos) (tL X.K Ew (mIfL mt ma mb)) :=
  PE.imp (pe_ifExp h ha hb) fun σ H Q ⟨W, O, ρ, R, h⟩ => ⟨W, O, ρ, R, (Out.bind h).mono fun x ρ1 H1 k1 R1 h1 => by
    cases x with
    | true => exact ⟨W, O, ρ1, R1, h1⟩
    | false => exact ⟨W, O, ρ1, R1, h1⟩⟩
theorem fIf (h : PT X c (tT X.K Ew mt)) (ha : PE X a (tF X.K Ew md)) (hb : PE X b (tF X.K Ew me)) : PE X (.IfExp c a b pos) (tF X.K Ew (mIf mt md me)) :=
  PE.imp (pe_ifExp h ha hb) fun σ H Q ⟨W, O, ρ, R, h⟩ => ⟨W, O, ρ, R, (Out.bind h).mono fun x ρ1 H1 k1 R1 h1 => by
    have go : ∀ {m : M D}, Out X.K Ew W O σ H1 (fun d ρ' H' => ∀ a, SRel X.K (plus W a) (plus O a) H' σ ρ' → H a = none → OwnAt X.K (plus W a) H' a d → Q (.ref a) H') (m ρ1) → tF X.K Ew m σ H1 Q :=
      fun h1 => ⟨W, O, ρ1, R1, h1.mono fun d ρ' H' k R' q a R2 n o => q a R2 (R1.dom k1 n) o⟩
    cases x with
    | true => exact go h1
    | false => exact go h1⟩

/-! ### rows of arguments -/
theorem aNil : PA X [] (tLs X.K Ew (mLs [])) := PA.imp pa_nil fun σ H Q ⟨W, O, ρ, R, h⟩ => h H KeepO.refl R [] .nil
theorem aCons (ha : PE X e (tL X.K Ew ma)) (hr : PA X es (tLs X.K Ew (mLs as))) (hs : starEach (e :: es) X.env = (false, eval e X.env) :: starEach es X.env := by rfl) : PA X (e :: es) (tLs X.K Ew (mLs (ma :: as))) :=
  PA.imp (pa_cons ha hr hs) fun σ H Q ⟨W, O, ρ, R, h⟩ => ⟨W, O, ρ, R, (Out.bind h).mono fun x ρ1 H1 k1 R1 h1 v rv =>
    ⟨W, O, ρ1, R1, (Out.bind h1).mono fun xs ρ2 H2 k2 R2 h2 vs rvs => h2 H2 KeepO.refl R2 (v :: vs) (.cons (rv.keep R1 k2) rvs)⟩⟩
theorem bNil : PA X [] (tDs X.K Ew (mDs [])) := PA.imp pa_nil fun σ H Q ⟨W, O, ρ, R, h⟩ => h H KeepO.refl R [] .nil
theorem bCons (ha : PE X e (tD X.K Ew md)) (hr : PA X es (tDs X.K Ew (mDs ds))) (hs : starEach (e :: es) X.env = (false, eval e X.env) :: starEach es X.env := by rfl) : PA X (e :: es) (tDs X.K Ew (mDs (md :: ds))) :=
  PA.imp (pa_cons ha hr hs) fun σ H Q ⟨W, O, ρ, R, h⟩ => ⟨W, O, ρ, R, (Out.bind h).mono fun x ρ1 H1 k1 R1 h1 v rv =>
    ⟨W, O, ρ1, R1, (Out.bind h1).mono fun xs ρ2 H2 k2 R2 h2 vs rvs => h2 H2 KeepO.refl R2 (v :: vs) (.cons (rv.keepO R1 k2) rvs)⟩⟩
theorem t_call {K : PySem.W.Frag} {g : List D → Option D} {σ : L2.St} {H : Hp} {Q : VK} (h : tD K Ew (mCall g as) σ H Q) : tCB (rC K g) (tLs K Ew (mLs as)) σ H Q := by
  obtain ⟨W, O, ρ, R, h⟩ := h
  refine ⟨W, O, ρ, R, (Out.bind h).mono fun xs ρ1 H1 k1 R1 h1 vs rvs => ?_⟩
  obtain ⟨ds, tx, h2⟩ := Out.getAll h1 R1 rvs
  obtain ⟨r, hf, q⟩ := Out.lift h2 R1
  exact ⟨W, ds, r, R1.tr, tx, hf, fun w H' s rw => q H' (KeepO.of s) (R1.same s) w rw⟩
theorem t_callF {K : PySem.W.Frag} {g : List D → Option D} {σ : L2.St} {H : Hp} {Q : VK} (h : tF K Ew (mCall g as) σ H Q) : tCB (rCF K g) (tLs K Ew (mLs as)) σ H Q := by
  obtain ⟨W, O, ρ, R, h⟩ := h
  refine ⟨W, O, ρ, R, (Out.bind h).mono fun xs ρ1 H1 k1 R1 h1 vs rvs => ?_⟩
  obtain ⟨ds, tx, h2⟩ := Out.getAll h1 R1 rvs
  obtain ⟨r, hf, q⟩ := Out.lift h2 R1
  refine ⟨W, ds, r, R1.tr, tx, hf, fun p H' s n o => ?_⟩
  obtain ⟨g1, g2, g3, g4⟩ := fresh_end k1 R1 s n o
  exact q H' g3 g4 p g1 g2 o
section
variable {x : Str} {p : Pos} {id T : String} {g : List D → Option D}
/-- f(e, ..), f a built-in function -/
theorem dB (hc : CallR X (.builtin id) (rC X.K g)) (hm : X.mg x = none) (ha : PA X (e :: es) (tLs X.K Ew (mLs as))) (hg : Gl X x := by rfl) (hv : bootBuiltins x = some (.builtin id) := by decide +kernel) (hn : x ≠ "__name__" := by decide) (hdb : (x == ("__debug__" : Str)) = false := by decide)
    (he : starEach (e :: es) X.env = (false, eval e X.env) :: starEach es X.env := by rfl) (hpl : (backTo pos (starEach es X.env)).any (·.1) = false := by rfl) : PE X (.Call (.Name x p) (e :: es) [] pos) (tD X.K Ew (mCall g as)) :=
  PE.imp (pe_callB hc hg hm hv ha hn hdb he hpl) fun _ _ _ h => t_call h
theorem fB (hc : CallR X (.builtin id) (rCF X.K g)) (hm : X.mg x = none) (ha : PA X (e :: es) (tLs X.K Ew (mLs as))) (hg : Gl X x := by rfl) (hv : bootBuiltins x = some (.builtin id) := by decide +kernel) (hn : x ≠ "__name__" := by decide) (hdb : (x == ("__debug__" : Str)) = false := by decide)
    (he : starEach (e :: es) X.env = (false, eval e X.env) :: starEach es X.env := by rfl) (hpl : (backTo pos (starEach es X.env)).any (·.1) = false := by rfl) : PE X (.Call (.Name x p) (e :: es) [] pos) (tF X.K Ew (mCall g as)) :=
  PE.imp (pe_callB hc hg hm hv ha hn hdb he hpl) fun _ _ _ h => t_callF h
/-- T(e, ..), T a built-in type -/
theorem dT (hc : CallR X (.type T) (rC X.K g)) (hm : X.mg x = none) (ha : PA X (e :: es) (tLs X.K Ew (mLs as))) (hg : Gl X x := by rfl) (hv : bootBuiltins x = some (.type T) := by decide +kernel) (hn : x ≠ "__name__" := by decide) (hdb : (x == ("__debug__" : Str)) = false := by decide)
    (he : starEach (e :: es) X.env = (false, eval e X.env) :: starEach es X.env := by rfl) (hpl : (backTo pos (starEach es X.env)).any (·.1) = false := by rfl) : PE X (.Call (.Name x p) (e :: es) [] pos) (tD X.K Ew (mCall g as)) :=
  PE.imp (pe_callTy hc hg hm hv ha hn hdb he hpl) fun _ _ _ h => t_call h
theorem fT (hc : CallR X (.type T) (rCF X.K g)) (hm : X.mg x = none) (ha : PA X (e :: es) (tLs X.K Ew (mLs as))) (hg : Gl X x := by rfl) (hv : bootBuiltins x = some (.type T) := by decide +kernel) (hn : x ≠ "__name__" := by decide) (hdb : (x == ("__debug__" : Str)) = false := by decide)
    (he : starEach (e :: es) X.env = (false, eval e X.env) :: starEach es X.env := by rfl) (hpl : (backTo pos (starEach es X.env)).any (·.1) = false := by rfl) : PE X (.Call (.Name x p) (e :: es) [] pos) (tF X.K Ew (mCall g as)) :=
  PE.imp (pe_callTy hc hg hm hv ha hn hdb he hpl) fun _ _ _ h => t_callF h
end
/-- displays -/
theorem dTup {k : Nat} (h : PA X es (tDs X.K Ew (mDs ds))) : PE X (.Tuple es k pos) (tD X.K Ew (mTup ds)) := by
  refine PE.imp (pe_tup h) fun σ H Q ⟨W, O, ρ, R, h⟩ => ⟨W, O, ρ, R, (Out.bind h).mono fun xs ρ1 H1 k1 R1 h1 vs rvs => ?_⟩
  obtain ⟨r, hf, q⟩ := Out.lift h1 R1
  split at hf
  · rename_i hz
    cases hf
    refine ⟨by rw [rvs.length]; exact hz, fun p n => ?_⟩
    exact q _ (KeepO.of (Same.upd n)) (R1.same (Same.upd n)) _ (tup_new R1.tr n rvs)
  · cases hf
theorem fLst (h : PA X es (tDs X.K Ew (mDs ds))) : PE X (.List es pos) (tF X.K Ew (mLst ds)) := by
  refine PE.imp (pe_lst h) fun σ H Q ⟨W, O, ρ, R, h⟩ => ⟨W, O, ρ, R, (Out.bind h).mono fun xs ρ1 H1 k1 R1 h1 vs rvs => ?_⟩
  obtain ⟨r, hf, q⟩ := Out.lift h1 R1
  split at hf
  · rename_i hz
    cases hf
    refine ⟨by rw [rvs.length]; exact hz, fun p n => ?_⟩
    obtain ⟨g1, g2, g3, g4⟩ := fresh_end k1 R1 (Same.upd n) n (own_new n rvs)
    exact q _ g3 g4 p g1 g2 (own_new n rvs)
  · cases hf
/-- a[b] -/
theorem dIx (hu : X.A.units + 1 < cLine) (ha : PE X a (tL X.K Ew ma)) (hb : PE X b (tL X.K Ew mb)) (hs : PlainIx b := by exact fun _ _ => rfl) : PE X (.Subscript a b pos) (tD X.K Ew (mOp2 ixD ma mb)) :=
  PE.imp (pe_ix (ix_D hu) ha hb hs) fun _ _ _ h => t_op2 h
/-- -a -/
def negD : D → Option D
  | .int i => some (.int (-i))
  | _ => none
theorem dNeg (ha : PE X a (tL X.K Ew ma)) : PE X (.UnaryOp .USub a pos) (tD X.K Ew (mOp1 negD ma)) := by
  refine PE.imp (pe_un un_neg ha) fun σ H Q ⟨W, O, ρ, R, h⟩ => ⟨W, O, ρ, R, (Out.bind h).mono fun x ρ1 H1 k1 R1 h1 v rv => ?_⟩
  obtain ⟨d, tx, h2⟩ := Out.get h1 R1 rv
  obtain ⟨r, hf, q⟩ := Out.lift h2 R1
  cases d with
  | int i =>
    cases hf
    exact ⟨i, tx.int, q H1 KeepO.refl R1 _ (.int _)⟩
  | _ => cases hf
end
end CF
end
section
/-! CF, part g: what is walked; comprehensions; slices; sorted by keywords. -/
namespace CF
open PySem PySem.Spec PyProof.Rows L2

/-- the walk J goes through the trees ds, as long as what stood stands -/
structure Src (K : PySem.W.Frag) (J : It) (W0 O0 : Addr → Prop) (H0 : Hp) (ds : List D) : Prop where
  go : ∀ i H, KeepO W0 O0 H0 H → i < ds.length → J.go i H
  yld : ∀ (i : Nat) (H : Hp) (x : V) (H' : Hp) (d : D), KeepO W0 O0 H0 H → ds[i]? = some d → J.yld i H x H' → Same H H' ∧ ∀ W : Addr → Prop, (∀ a, W a → W0 a ∨ H0 a = none) → (∀ a, W a → ∃ o, H a = some o) → Rx K W H' x d
  stop : ∀ H, KeepO W0 O0 H0 H → J.stop ds.length H
def tI (K : PySem.W.Frag) (Ew : WX) (m : M (List D)) : TI := fun σ H R => ∃ W O ρ, SRel K W O H σ ρ ∧ Out K Ew W O σ H (fun ds ρ' H' => ∀ J, Src K J W O H' ds → R J H') (m ρ)
theorem PI.imp {X : Cx} {tg e : Expr} {t t' : TI} (h : PI X tg e t) (i : ∀ σ H R, t' σ H R → t σ H R) : PI X tg e t' := ⟨fun pins s σ H R I hw => h.run pins s σ H R I (i σ H R hw)⟩
theorem PI.or {X : Cx} {tg e : Expr} {t t' : TI} (h : PI X tg e t) (h' : PI X tg e t') : PI X tg e (fun σ H R => t σ H R ∨ t' σ H R) :=
  ⟨fun pins s σ H R I hw => hw.elim (h.run pins s σ H R I) (h'.run pins s σ H R I)⟩

section
variable {K : PySem.W.Frag} {W O W' : Addr → Prop} {H0 H H' : Hp} {σ : L2.St} {ρ : List Slot}
/-- a tree that was known at the walk's start, later -/
theorem Rx.later {v : V} {d : D} (h : Rx K W H0 v d) (k : KeepO W O H0 H) (w : ∀ a, W' a → W a ∨ H0 a = none) : Rx K W' H v d :=
  Rx.go (fun a u e n => k.rest a u e n) (fun a o e z => (w a z).elim id fun q => by rw [q] at e; cases e) d v h
theorem sqL_keep {a : Addr} {xs : List V} (k : KeepO W O H0 H) (n : ¬ W a) (h : L2.Rd H0 a (.lst xs)) : SqL K H a xs := .inl (k.rest a _ h n)
theorem sqT_rx {a : Addr} {xs : List V} {ds : List D} (h : Rx K W H0 (.ref a) (.tuple ds)) (hx : SqT K H0 a xs) : ∃ xs', SqT K H0 a xs' ∧ RxL K W H0 xs' ds ∧ ∀ H, KeepO W O H0 H → SqT K H a xs' := by
  cases h with
  | tup hw hr hl => exact ⟨_, .inl hr, hl, fun H k => .inl (k.rest _ _ hr hw)⟩
  | tupK hk hl => exact ⟨_, .inr hk, hl, fun H k => .inr hk⟩
theorem RxL.same_at {xs : List V} {ds : List D} {i : Nat} {x : V} {d : D} (l : RxL K W H xs ds) (hx : xs[i]? = some x) (hd : ds[i]? = some d) : Rx K W H x d := by
  obtain ⟨e, h1, h2⟩ := l.get' hx
  rw [hd] at h1; cases h1
  exact h2
theorem src_list {a : Addr} {xs : List V} {ds : List D} (n : ¬ W a) (h : L2.Rd H0 a (.lst xs)) (l : RxL K W H0 xs ds) : Src K (Itl K a) W O H0 ds := by
  have ll := l.length
  refine ⟨fun i H k hi => ?_, fun i H x H' d k e y => ?_, fun H k => ?_⟩
  · exact ⟨xs, xs[i]'(by omega), sqL_keep k n h, List.getElem?_eq_getElem _⟩
  · obtain ⟨rfl, y⟩ := y
    exact ⟨Same.refl _, fun W' w1 _ => (l.same_at (y xs (sqL_keep k n h)) e).later k w1⟩
  · exact ⟨xs, sqL_keep k n h, by omega⟩
theorem src_tuple {a : Addr} {ds : List D} (h : Rx K W H0 (.ref a) (.tuple ds)) : Src K (Itt K a) W O H0 ds := by
  obtain ⟨b, xs, e, hx, _⟩ := h.tuple
  cases e
  obtain ⟨xs, h1, l, h2⟩ := sqT_rx (O := O) h hx
  have ll := l.length
  refine ⟨fun i H k hi => ?_, fun i H x H' d k e y => ?_, fun H k => ?_⟩
  · exact ⟨xs, xs[i]'(by omega), h2 H k, List.getElem?_eq_getElem _⟩
  · obtain ⟨rfl, y⟩ := y
    exact ⟨Same.refl _, fun W' w1 _ => (l.same_at (y xs (h2 _ k)) e).later k w1⟩
  · exact ⟨xs, h2 H k, by omega⟩
def signs (x : Str) : List D := x.cps.toList.map fun c => .str ⟨#[c]⟩
theorem src_str {x : Str} : Src K (Its x) W O H0 (signs x) := by
  have hl : (signs x).length = x.cps.size := by simp [signs]
  refine ⟨fun i H k hi => ?_, fun i H v H' d k e y => ?_, fun H k => ?_⟩
  · show i < x.cps.size
    omega
  · obtain ⟨rfl, c, q, rfl⟩ := y
    rw [signs, List.getElem?_map, Array.getElem?_toList, q] at e
    cases e
    exact ⟨Same.refl _, fun _ _ _ => .str _⟩
  · show x.cps.size ≤ _
    omega
def rangeD (lo : Int) (n : Nat) : List D := (List.range n).map fun i => .int (lo + (i : Nat))
theorem src_range {lo : Int} {n : Nat} : Src K (Itr lo n) W O H0 (rangeD lo n) := by
  have hl : (rangeD lo n).length = n := by simp [rangeD]
  refine ⟨fun i H k hi => ?_, fun i H v H' d k e y => ?_, fun H k => ?_⟩
  · show i < n
    omega
  · obtain ⟨rfl, rfl⟩ := y
    rw [rangeD, List.getElem?_map] at e
    have hi : i < n := by
      rcases Nat.lt_or_ge i n with h | h
      · exact h
      · rw [List.getElem?_eq_none (by simpa using h)] at e
        cases e
    rw [List.getElem?_range hi] at e
    cases e
    exact ⟨Same.refl _, fun _ _ _ => .int _⟩
  · show n ≤ _
    omega
theorem keys_at {kvs : List (Key × V)} {es : List (D × D)} (l : RxK K W H kvs es) : es.map (·.1) = kvs.map fun p => keyD p.1 := rxk_keys l
theorem src_keys {d : Addr} {o : Obj} {kvs : List (Key × V)} {es : List (D × D)} (n : ¬ W d) (h : H0 d = some (.frz o (.dK kvs))) (l : RxK K W H0 kvs es) : Src K (Itk d o kvs) W O H0 (es.map (·.1)) := by
  have ll := l.length
  have lk := rxk_keys l
  refine ⟨fun i H k hi => ?_, fun i H v H' dd k e y => ?_, fun H k => ?_⟩
  · exact ⟨k.frz _ _ _ h n, by rw [List.length_map] at hi; omega⟩
  · obtain ⟨rfl, key, w, q, rfl⟩ := y
    rw [lk, List.getElem?_map, q] at e
    cases e
    refine ⟨Same.refl _, fun _ _ _ => ?_⟩
    cases key
    · exact .int _
    · exact .str _
  · exact ⟨k.frz _ _ _ h n, by rw [List.length_map]; omega⟩
theorem RxK.get' : ∀ {i : Nat} {kvs : List (Key × V)} {es : List (D × D)} {k : Key} {v : V}, RxK K W H kvs es → kvs[i]? = some (k, v) → ∃ d, es[i]? = some (keyD k, d) ∧ Rx K W H v d
  | _, _, [], _, _, h, e => by cases h; simp at e
  | 0, _, (_, _) :: _, _, _, h, e => by
    cases h with
    | cons r t =>
      simp at e
      obtain ⟨rfl, rfl⟩ := e
      exact ⟨_, rfl, r⟩
  | i + 1, _, (_, _) :: _, _, _, h, e => by
    cases h with
    | cons r t => simpa using RxK.get' (i := i) t (by simpa using e)
theorem key_rx {k : Key} : Rx K W H (kV k) (keyD k) := by
  cases k
  · exact .int _
  · exact .str _
theorem tup_at {T : Addr} {xs : List V} {ds : List D} (n : H T = none) (w : ∀ a, W a → ∃ o, H a = some o) (l : RxL K W (upd H T (.tup xs)) xs ds) : Rx K W (upd H T (.tup xs)) (.ref T) (.tuple ds) :=
  .tup (fun z => by
    obtain ⟨o, e⟩ := w T z
    rw [n] at e
    cases e) (.inl upd_same) l
theorem src_items {d : Addr} {o : Obj} {kvs : List (Key × V)} {es : List (D × D)} (n : ¬ W d) (h : H0 d = some (.frz o (.dK kvs))) (l : RxK K W H0 kvs es) : Src K (Iti d o kvs) W O H0 (es.map fun p => .tuple [p.1, p.2]) := by
  have ll := l.length
  refine ⟨fun i H k hi => ?_, fun i H v H' dd k e y => ?_, fun H k => ?_⟩
  · exact ⟨k.frz _ _ _ h n, by rw [List.length_map] at hi; omega⟩
  · obtain ⟨T, key, w, q, rfl, hT, rfl⟩ := y
    obtain ⟨dv, e1, rv⟩ := l.get' q
    rw [List.getElem?_map, e1] at e
    cases e
    exact ⟨Same.upd hT, fun W' w1 w2 => tup_at hT w2 (.cons key_rx (.cons ((rv.later k w1).same (Same.upd hT)) .nil))⟩
  · exact ⟨k.frz _ _ _ h n, by rw [List.length_map]; omega⟩
theorem src_vals {d : Addr} {o : Obj} {kvs : List (Key × V)} {es : List (D × D)} (n : ¬ W d) (h : H0 d = some (.frz o (.dK kvs))) (l : RxK K W H0 kvs es) : Src K (Itd d o kvs) W O H0 (es.map (·.2)) := by
  have ll := l.length
  refine ⟨fun i H k hi => ?_, fun i H v H' dd k e y => ?_, fun H k => ?_⟩
  · exact ⟨k.frz _ _ _ h n, by rw [List.length_map] at hi; omega⟩
  · obtain ⟨rfl, key, q⟩ := y
    obtain ⟨dv, e1, rv⟩ := l.get' q
    rw [List.getElem?_map, e1] at e
    cases e
    exact ⟨Same.refl _, fun W' w1 w2 => rv.later k w1⟩
  · exact ⟨k.frz _ _ _ h n, by rw [List.length_map]; omega⟩
def zipD (xs ys : List D) : List D := (xs.zip ys).map fun p => .tuple [p.1, p.2]
theorem zipD_at {xs ys : List D} {i : Nat} {d : D} (h : (zipD xs ys)[i]? = some d) : ∃ x y, xs[i]? = some x ∧ ys[i]? = some y ∧ d = .tuple [x, y] := by
  rw [zipD, List.getElem?_map] at h
  cases e : (xs.zip ys)[i]? with
  | none => rw [e] at h; cases h
  | some p =>
    rw [e] at h
    cases h
    obtain ⟨h1, h2⟩ := List.getElem?_zip_eq_some.mp e
    exact ⟨p.1, p.2, h1, h2, rfl⟩
theorem src_zip {a b : Addr} {xs ys : List V} {ds es : List D} (na : ¬ W a) (ha : L2.Rd H0 a (.lst xs)) (la : RxL K W H0 xs ds) (nb : ¬ W b) (hb : L2.Rd H0 b (.lst ys)) (lb : RxL K W H0 ys es) : Src K (Itz K a b) W O H0 (zipD ds es) := by
  have l1 := la.length
  have l2 := lb.length
  have lz : (zipD ds es).length = min ds.length es.length := by simp [zipD]
  refine ⟨fun i H k hi => ?_, fun i H v H' dd k e y => ?_, fun H k => ?_⟩
  · exact ⟨xs, ys, xs[i]'(by omega), ys[i]'(by omega), sqL_keep k na ha, sqL_keep k nb hb, List.getElem?_eq_getElem _, List.getElem?_eq_getElem _⟩
  · obtain ⟨T, x, y, rfl, hT, rfl, y1, y2⟩ := y
    obtain ⟨d1, d2, e1, e2, rfl⟩ := zipD_at e
    have r1 := la.same_at (y1 xs (sqL_keep k na ha)) e1
    have r2 := lb.same_at (y2 ys (sqL_keep k nb hb)) e2
    exact ⟨Same.upd hT, fun W' w1 w2 => tup_at hT w2 (.cons ((r1.later k w1).same (Same.upd hT)) (.cons ((r2.later k w1).same (Same.upd hT)) .nil))⟩
  · exact ⟨xs, ys, sqL_keep k na ha, sqL_keep k nb hb, by omega⟩
theorem src_zipT {a b : Addr} {ds es : List D} (ha : Rx K W H0 (.ref a) (.tuple ds)) (hb : Rx K W H0 (.ref b) (.tuple es)) : Src K (RZ.ItzT K a b) W O H0 (zipD ds es) := by
  obtain ⟨_, xs, e, hx, _⟩ := ha.tuple
  cases e
  obtain ⟨_, ys, e, hy, _⟩ := hb.tuple
  cases e
  obtain ⟨xs, _, la, ka⟩ := sqT_rx (O := O) ha hx
  obtain ⟨ys, _, lb, kb⟩ := sqT_rx (O := O) hb hy
  have l1 := la.length
  have l2 := lb.length
  have lz : (zipD ds es).length = min ds.length es.length := by simp [zipD]
  refine ⟨fun i H k hi => ?_, fun i H v H' dd k e y => ?_, fun H k => ?_⟩
  · exact ⟨xs, ys, xs[i]'(by omega), ys[i]'(by omega), ka H k, kb H k, List.getElem?_eq_getElem _, List.getElem?_eq_getElem _⟩
  · obtain ⟨T, x, y, rfl, hT, rfl, y1, y2⟩ := y
    obtain ⟨d1, d2, e1, e2, rfl⟩ := zipD_at e
    have r1 := la.same_at (y1 xs (ka _ k)) e1
    have r2 := lb.same_at (y2 ys (kb _ k)) e2
    exact ⟨Same.upd hT, fun W' w1 w2 => tup_at hT w2 (.cons ((r1.later k w1).same (Same.upd hT)) (.cons ((r2.later k w1).same (Same.upd hT)) .nil))⟩
  · exact ⟨xs, ys, ka H k, kb H k, by omega⟩
def enumD (xs : List D) : List D := xs.zipIdx.map fun p => .tuple [.int (p.2 : Nat), p.1]
theorem enumD_at {xs : List D} {i : Nat} {d : D} (h : (enumD xs)[i]? = some d) : ∃ x, xs[i]? = some x ∧ d = .tuple [.int (i : Nat), x] := by
  rw [enumD, List.getElem?_map, List.getElem?_zipIdx] at h
  cases e : xs[i]? with
  | none => rw [e] at h; cases h
  | some x =>
    rw [e] at h
    simp at h
    exact ⟨x, rfl, h.symm⟩
theorem src_enum {a : Addr} {xs : List V} {ds : List D} (n : ¬ W a) (h : L2.Rd H0 a (.lst xs)) (l : RxL K W H0 xs ds) : Src K (Ite K a) W O H0 (enumD ds) := by
  have ll := l.length
  have le : (enumD ds).length = ds.length := by simp [enumD]
  refine ⟨fun i H k hi => ?_, fun i H v H' dd k e y => ?_, fun H k => ?_⟩
  · exact ⟨xs, xs[i]'(by omega), sqL_keep k n h, List.getElem?_eq_getElem _⟩
  · obtain ⟨T, x, rfl, hT, rfl, y1⟩ := y
    obtain ⟨d1, e1, rfl⟩ := enumD_at e
    have r1 := l.same_at (y1 xs (sqL_keep k n h)) e1
    exact ⟨Same.upd hT, fun W' w1 w2 => tup_at hT w2 (.cons (.int _) (.cons ((r1.later k w1).same (Same.upd hT)) .nil))⟩
  · exact ⟨xs, sqL_keep k n h, by omega⟩
theorem src_rev {a : Addr} {xs : List V} {ds : List D} (n : ¬ W a) (h : L2.Rd H0 a (.lst xs)) (l : RxL K W H0 xs ds) : Src K (Itv K a xs.length) W O H0 ds.reverse := by
  have ll := l.length
  refine ⟨fun i H k hi => ?_, fun i H x H' d k e y => ?_, fun H k => ?_⟩
  · rw [List.length_reverse] at hi
    exact ⟨by omega, xs, xs[xs.length - 1 - i]'(by omega), sqL_keep k n h, List.getElem?_eq_getElem _⟩
  · obtain ⟨rfl, y⟩ := y
    have hi : i < ds.length := by
      have := (List.getElem?_eq_some_iff.mp e).1
      simpa using this
    rw [List.getElem?_reverse hi, ← ll] at e
    exact ⟨Same.refl _, fun W' w1 _ => (l.same_at (y xs (sqL_keep k n h)) e).later k w1⟩
  · show xs.length ≤ _
    rw [List.length_reverse]
    omega
theorem src_revT {a : Addr} {ds : List D} (h : Rx K W H0 (.ref a) (.tuple ds)) : Src K (RT.ItvT K a ds.length) W O H0 ds.reverse := by
  obtain ⟨b, xs, e, hx, _⟩ := h.tuple
  cases e
  obtain ⟨xs, h1, l, h2⟩ := sqT_rx (O := O) h hx
  have ll := l.length
  refine ⟨fun i H k hi => ?_, fun i H x H' d k e y => ?_, fun H k => ?_⟩
  · rw [List.length_reverse] at hi
    exact ⟨by omega, xs, xs[ds.length - 1 - i]'(by omega), h2 H k, List.getElem?_eq_getElem _⟩
  · obtain ⟨rfl, y⟩ := y
    have hi : i < ds.length := by
      have := (List.getElem?_eq_some_iff.mp e).1
      simpa using this
    rw [List.getElem?_reverse hi] at e
    exact ⟨Same.refl _, fun W' w1 _ => (l.same_at (y xs (h2 _ k)) e).later k w1⟩
  · show ds.length ≤ _
    rw [List.length_reverse]
    omega
end

/-! ### the sources -/
def iterD : D → Option (List D)
  | .list xs => some xs
  | .tuple xs => some xs
  | .str z => some (signs z)
  | .dict es => some (es.map (·.1))
  | _ => none
def mIt (m : M D) : M (List D) := do
  let d ← m
  lift (iterD d)
def intOf : D → Option Int
  | .int i => some i
  | _ => none
def okR (i : Int) : Bool := decide (-(2 ^ 62) ≤ i ∧ i < 2 ^ 62)
def mRng1 (m : M LV) : M (List D) := do
  let x ← m
  let d ← x.get
  lift ((intOf d).bind fun j => if okR j then some (rangeD 0 j.toNat) else none)
def mRng2 (m m2 : M LV) : M (List D) := do
  let x ← m
  let y ← m2
  let d ← x.get
  let e ← y.get
  lift ((intOf d).bind fun i => (intOf e).bind fun j => if okR i && okR j then some (rangeD i (j - i).toNat) else none)
def mZip (m m2 : M D) : M (List D) := do
  let d ← m
  let e ← m2
  lift (match d, e with
    | .list xs, .list ys => some (zipD xs ys)
    | .tuple xs, .tuple ys => some (zipD xs ys)
    | _, _ => none)
def mEnum (m : M D) : M (List D) := do
  let d ← m
  lift (match d with
    | .list xs => some (enumD xs)
    | _ => none)
def mRev (m : M D) : M (List D) := do
  let d ← m
  lift (match d with
    | .list xs => some xs.reverse
    | .tuple xs => some xs.reverse
    | _ => none)
def mItems (m : M D) : M (List D) := do
  let d ← m
  lift (match d with
    | .dict es => some (es.map fun p => .tuple [p.1, p.2])
    | _ => none)
def mVals (m : M D) : M (List D) := do
  let d ← m
  lift (match d with
    | .dict es => some (es.map (·.2))
    | _ => none)
section
variable {X : Cx} {Ew : WX} {tg e e2 : Expr} {md me : M D} {ma mb : M LV} {pos p tpos apos : Pos} {elts : List Expr} {kk : Nat}
theorem ne_W {W : Addr → Prop} {a d : Addr} (w : W a) (n : ¬ W d) : a ≠ d := by
  intro z
  rw [z] at w
  exact n w
/-- the heap with a dict locked, or as it is -/
theorem lock_keep {W O : Addr → Prop} {K : PySem.W.Frag} {σ : L2.St} {ρ : List Slot} {H : Hp} {d : Addr} {o : Obj} {u : HO} (R : SRel K W O H σ ρ) (n : ¬ W d) (h : H d = some u) (nf : ∀ o' u', u ≠ .frz o' u') (nl : ∀ xs, u ≠ .lst xs) :
    KeepO W O H (upd H d (.frz o u)) ∧ SRel K W O (upd H d (.frz o u)) σ ρ := by
  have k : KeepO W O H (upd H d (.frz o u)) := by
    refine ⟨fun a ob e w _ => ?_, fun a ob e w => ?_, fun a ob v e w => ?_, fun a xs e w => ?_⟩
    · rw [upd_ne (ne_W w n)]; exact e
    · by_cases q : a = d
      · subst q
        rcases e with e | ⟨o', e⟩
        · rw [h] at e; cases e
          exact .inr ⟨o, upd_same⟩
        · rw [h] at e
          exact absurd (Option.some.inj e) (nf _ _)
      · rcases e with e | ⟨o', e⟩
        · exact .inl (by rw [upd_ne q]; exact e)
        · exact .inr ⟨o', by rw [upd_ne q]; exact e⟩
    · by_cases q : a = d
      · subst q
        rw [h] at e
        exact absurd (Option.some.inj e) (nf _ _)
      · rw [upd_ne q]; exact e
    · by_cases q : a = d
      · subst q
        rw [h] at e
        exact absurd (Option.some.inj e) (nl _)
      · rw [upd_ne q]; exact e
  refine ⟨k, R.len, R.ow, fun a w => ?_, fun i x r h1 h2 => ?_, R.ne⟩
  · obtain ⟨ob, e⟩ := R.tr a w
    exact ⟨ob, by rw [upd_ne (ne_W w n)]; exact e⟩
  · have q := R.sl i x r h1 h2
    cases r with
    | un => trivial
    | dat dd => obtain ⟨v, e, hr⟩ := q; exact ⟨v, e, hr.keepO R k⟩
    | own dd =>
      obtain ⟨a, e, oa, hr⟩ := q
      exact ⟨a, e, oa, hr.go (fun a u e n => k.rest a u e n) (fun _ _ _ z => z) fun ob eb => by rw [upd_ne (ne_W (R.ow a oa) n)]; exact eb⟩
/-- for k in d -/
def iLock (K : PySem.W.Frag) (te : TE) (J : Addr → Obj → List (Key × V) → It) : TI := fun σ H R => te σ H fun x H1 => ∃ d kvs, x = .ref d ∧ L2.Rd H1 d (.dK kvs) ∧
  (∀ o, H1 d = some (.frz o (.dK kvs)) → R (J d o kvs) H1) ∧ (H1 d = some (.dK kvs) → ∀ o, R (J d o kvs) (upd H1 d (.frz o (.dK kvs))))
theorem lock_pe {te : TE} {J : Addr → Obj → List (Key × V) → It} {pins : List (Addr × Obj)} {s : Shared} {σ : L2.St} {H : Hp} {R : It → Hp → Prop} (he : PE X e te) (I : Inv X pins σ H s) (h : iLock X.K te J σ H R) :
    wpAny (model X.prog X.w) X.A (eval e X.env) (fun u s1 => ∃ d o kvs H1, u = .ref d ∧ Inv X pins σ H1 s1 ∧ H1 d = some (.frz o (.dK kvs)) ∧ R (J d o kvs) H1) X.xe s := by
  refine thn (he.run pins s σ H _ I h) fun u s1 ⟨x, H1, I1, rx, d, kvs, ex, hd, q1, q2⟩ => ?_
  subst ex
  obtain rfl : u = Value.ref d := rx
  rcases hd with hd | ⟨o, hd⟩
  · obtain ⟨od, I2⟩ := I1.lock hd trivial
    exact ⟨d, od, kvs, _, rfl, I2, upd_same, q2 hd od⟩
  · exact ⟨d, o, kvs, H1, rfl, I1, hd, q1 o hd⟩
/-- a state as an expression's reading: the evaluation is done by another rule -/
theorem pe_at {te : TE} (h : ∀ (pins : List (Addr × Obj)) (s : Shared) (σ : L2.St) (H : Hp) (Q : VK), Inv X pins σ H s → te σ H Q → wpAny (model X.prog X.w) X.A (eval e X.env) (EP X pins σ Q) X.xe s) : PE X e te := ⟨h⟩
theorem pe_locked {te : TE} {J : Addr → Obj → List (Key × V) → It} (he : PE X e te) : PE X e (fun σ H Q => ∃ R, iLock X.K te J σ H R ∧ ∀ d o kvs H1, H1 d = some (.frz o (.dK kvs)) → R (J d o kvs) H1 → Q (.ref d) H1) :=
  ⟨fun pins s σ H Q I ⟨R, h, hq⟩ => thn (lock_pe he I h) fun u s1 ⟨d, o, kvs, H1, eu, I1, hd, r⟩ => ⟨.ref d, H1, I1, eu, hq d o kvs H1 hd r⟩⟩
theorem pi_keysL {te : TE} (he : PE X e te) : PI X tg e (iLock X.K te Itk) := by
  refine PI.imp (pi_keys (pe_locked (J := Itk) he)) fun σ H R h => ⟨R, h, fun d o kvs H1 hd r => ⟨d, o, rfl, .inl ⟨kvs, hd, r⟩⟩⟩
theorem t_lock {K : PySem.W.Frag} {J : Addr → Obj → List (Key × V) → It} {g : List (D × D) → List D} {σ : L2.St} {H : Hp} {R : It → Hp → Prop} {f : D → Option (List D)} (hf : ∀ d r, f d = some r → ∃ es, d = .dict es ∧ r = g es)
    (hs : ∀ (W O : Addr → Prop) (H0 : Hp) (d : Addr) (o : Obj) (kvs : List (Key × V)) (es : List (D × D)), ¬ W d → H0 d = some (.frz o (.dK kvs)) → RxK K W H0 kvs es → Src K (J d o kvs) W O H0 (g es))
    (h : tI K Ew (md >>= fun d => CF.lift (f d)) σ H R) : iLock K (tD K Ew md) J σ H R := by
  obtain ⟨W, O, ρ, R0, h⟩ := h
  refine ⟨W, O, ρ, R0, (Out.bind h).mono fun d ρ1 H1 k1 R1 h1 v rv => ?_⟩
  obtain ⟨r, hr, q⟩ := Out.lift h1 R1
  obtain ⟨es, rfl, rfl⟩ := hf d r hr
  cases rv with
  | @dic a kvs _ hw hd l =>
    refine ⟨a, kvs, rfl, hd, fun o e => q H1 KeepO.refl R1 _ (hs W O H1 a o kvs es hw e l), fun e o => ?_⟩
    obtain ⟨k2, R2⟩ := lock_keep (o := o) R1 hw e (fun _ _ z => nomatch z) (fun _ z => nomatch z)
    exact q _ k2 R2 _ (hs W O _ a o kvs es hw upd_same (RxK.go (fun a u e n => k2.rest a u e n) (fun _ _ _ z => z) es kvs l))
theorem iIt (he : PE X e (tD X.K Ew md)) : PI X tg e (tI X.K Ew (mIt md)) := by
  refine PI.imp (CF.PI.or (CF.PI.or (pi_list he) (pi_tup he)) (CF.PI.or (pi_str he) (pi_keysL he))) fun σ H R h => ?_
  obtain ⟨W, O, ρ, R0, h⟩ := h
  generalize hr : md ρ = r
  have hb := Out.bind h
  rw [hr] at hb
  have mk : ∀ Q : VK, Out X.K Ew W O σ H (fun d _ H' => ∀ v, Rx X.K W H' v d → Q v H') r → tD X.K Ew md σ H Q := fun Q z => ⟨W, O, ρ, R0, by rw [hr]; exact z⟩
  match r, hb with
  | some (.ex e' ρ'), hb => exact .inl (.inl (mk _ hb))
  | some (.ok d ρ1), hb =>
    cases d with
    | list ds =>
      refine .inl (.inl (mk _ fun H1 k1 R1 v rv => ?_))
      obtain ⟨_, hf, q⟩ := Out.lift (hb H1 k1 R1) R1
      cases hf
      cases rv with
      | lst hw hd l => exact ⟨_, rfl, ⟨_, .inl hd⟩, q H1 KeepO.refl R1 _ (src_list hw hd l)⟩
    | tuple ds =>
      refine .inl (.inr (mk _ fun H1 k1 R1 v rv => ?_))
      obtain ⟨_, hf, q⟩ := Out.lift (hb H1 k1 R1) R1
      cases hf
      obtain ⟨a, xs, rfl, hx, _⟩ := rv.tuple
      exact ⟨_, rfl, ⟨_, hx⟩, q H1 KeepO.refl R1 _ (src_tuple rv)⟩
    | str z =>
      refine .inr (.inl (mk _ fun H1 k1 R1 v rv => ?_))
      obtain ⟨_, hf, q⟩ := Out.lift (hb H1 k1 R1) R1
      cases hf
      cases rv
      exact ⟨z, rfl, q H1 KeepO.refl R1 _ src_str⟩
    | dict es =>
      refine .inr (.inr (mk _ fun H1 k1 R1 v rv => ?_))
      obtain ⟨_, hf, q⟩ := Out.lift (hb H1 k1 R1) R1
      cases hf
      cases rv with
      | @dic a kvs _ hw hd l =>
        refine ⟨a, kvs, rfl, hd, fun o e => q H1 KeepO.refl R1 _ (src_keys hw e l), fun e o => ?_⟩
        obtain ⟨k2, R2⟩ := lock_keep (o := o) R1 hw e (fun _ _ z => nomatch z) (fun _ z => nomatch z)
        exact q _ k2 R2 _ (src_keys hw upd_same (RxK.go (fun a u e n => k2.rest a u e n) (fun _ _ _ z => z) es kvs l))
    | none =>
      refine .inl (.inl (mk _ fun H1 k1 R1 v rv => ?_))
      obtain ⟨_, hf, q⟩ := Out.lift (hb H1 k1 R1) R1
      cases hf
    | bool b =>
      refine .inl (.inl (mk _ fun H1 k1 R1 v rv => ?_))
      obtain ⟨_, hf, q⟩ := Out.lift (hb H1 k1 R1) R1
      cases hf
    | int b =>
      refine .inl (.inl (mk _ fun H1 k1 R1 v rv => ?_))
      obtain ⟨_, hf, q⟩ := Out.lift (hb H1 k1 R1) R1
      cases hf
section
variable {x : Str} {es : List Expr}
theorem iRange1 (hm : X.mg "range" = none) (ha : PE X e (tL X.K Ew ma)) (hg : Gl X "range" := by rfl) (hs : starEach [e] X.env = [(false, eval e X.env)] := by rfl) : PI X tg (.Call (.Name "range" p) [e] [] pos) (tI X.K Ew (mRng1 ma)) := by
  refine PI.imp (pi_range1 (ta := tCons (tL X.K Ew ma) tNil) hg hm (pa_cons ha pa_nil hs) hs) fun σ H R ⟨W, O, ρ, R0, h⟩ => ⟨W, O, ρ, R0, (Out.bind h).mono fun l ρ1 H1 k1 R1 h1 v rv => ?_⟩
  obtain ⟨d, tx, h2⟩ := Out.get h1 R1 rv
  obtain ⟨r, hf, q⟩ := Out.lift h2 R1
  cases d with
  | int j =>
    simp only [intOf, Option.bind_some] at hf
    split at hf
    · rename_i hz
      cases hf
      have hz := of_decide_eq_true hz
      exact ⟨j, by rw [tx.int], hz.1, hz.2, q H1 KeepO.refl R1 _ src_range⟩
    · cases hf
  | _ => cases hf
theorem iRange2 (hm : X.mg "range" = none) (ha : PE X e (tL X.K Ew ma)) (hb : PE X e2 (tL X.K Ew mb)) (hg : Gl X "range" := by rfl) (hs : starEach [e, e2] X.env = [(false, eval e X.env), (false, eval e2 X.env)] := by rfl) (hs2 : starEach [e2] X.env = [(false, eval e2 X.env)] := by rfl) :
    PI X tg (.Call (.Name "range" p) [e, e2] [] pos) (tI X.K Ew (mRng2 ma mb)) := by
  refine PI.imp (pi_range2 (ta := tCons (tL X.K Ew ma) (tCons (tL X.K Ew mb) tNil)) hg hm (pa_cons ha (pa_cons hb pa_nil hs2) (by rw [hs, hs2])) hs hs2) fun σ H R ⟨W, O, ρ, R0, h⟩ => ⟨W, O, ρ, R0, (Out.bind h).mono fun l ρ1 H1 k1 R1 h1 v rv => ⟨W, O, ρ1, R1, (Out.bind h1).mono fun l2 ρ2 H2 k2 R2 h2 v2 rv2 => ?_⟩⟩
  obtain ⟨d, tx, h3⟩ := Out.get h2 R2 (rv.keep R1 k2)
  obtain ⟨d2, tx2, h4⟩ := Out.get h3 R2 rv2
  obtain ⟨r, hf, q⟩ := Out.lift h4 R2
  cases d with
  | int i =>
    cases d2 with
    | int j =>
      simp only [intOf, Option.bind_some] at hf
      split at hf
      · rename_i hz
        cases hf
        rw [Bool.and_eq_true] at hz
        have h1 := of_decide_eq_true hz.1
        have h2 := of_decide_eq_true hz.2
        exact ⟨i, j, by rw [tx.int, tx2.int], ⟨h1.1, h1.2, h2.1, h2.2⟩, q H2 KeepO.refl R2 _ src_range⟩
      · cases hf
    | _ => cases hf
  | _ => cases hf
theorem iZip (hm : X.mg "zip" = none) (ha : PE X e (tD X.K Ew md)) (hb : PE X e2 (tD X.K Ew me)) (hg : Gl X "zip" := by rfl) (hs : starEach [e, e2] X.env = (false, eval e X.env) :: starEach [e2] X.env := by rfl) (hs2 : starEach [e2] X.env = (false, eval e2 X.env) :: starEach [] X.env := by rfl) (hpl : (backTo pos (starEach [e2] X.env)).any (·.1) = false := by rfl) :
    PI X (.Tuple elts kk tpos) (.Call (.Name "zip" p) [e, e2] [] pos) (tI X.K Ew (mZip md me)) := by
  refine PI.imp (RZ.pi_zipA (ta := tCons (tD X.K Ew md) (tCons (tD X.K Ew me) tNil)) hg hm (pa_cons ha (pa_cons hb pa_nil hs2) hs) hs hpl) fun σ H R ⟨W, O, ρ, R0, h⟩ => ⟨W, O, ρ, R0, (Out.bind h).mono fun d ρ1 H1 k1 R1 h1 v rv => ⟨W, O, ρ1, R1, (Out.bind h1).mono fun d2 ρ2 H2 k2 R2 h2 v2 rv2 => ?_⟩⟩
  obtain ⟨r, hf, q⟩ := Out.lift h2 R2
  have rv := rv.keepO R1 k2
  split at hf
  · cases hf
    cases rv with
    | lst n1 d1 l1 =>
      cases rv2 with
      | lst n2 d2 l2 => exact ⟨_, _, _, _, rfl, .inl ⟨.inl d1, .inl d2, q H2 KeepO.refl R2 _ (src_zip n1 d1 l1 n2 d2 l2)⟩⟩
  · cases hf
    obtain ⟨a, xs, rfl, hx, _⟩ := rv.tuple
    obtain ⟨b, ys, rfl, hy, _⟩ := rv2.tuple
    exact ⟨_, _, _, _, rfl, .inr ⟨hx, hy, q H2 KeepO.refl R2 _ (src_zipT rv rv2)⟩⟩
  · cases hf
theorem iEnum (hm : X.mg "enumerate" = none) (ha : PE X e (tD X.K Ew md)) (hg : Gl X "enumerate" := by rfl) (hs : starEach [e] X.env = [(false, eval e X.env)] := by rfl) :
    PI X (.Tuple elts kk tpos) (.Call (.Name "enumerate" p) [e] [] pos) (tI X.K Ew (mEnum md)) := by
  refine PI.imp (pi_enum (ta := tCons (tD X.K Ew md) tNil) hg hm (pa_cons ha pa_nil hs) hs) fun σ H R ⟨W, O, ρ, R0, h⟩ => ⟨W, O, ρ, R0, (Out.bind h).mono fun d ρ1 H1 k1 R1 h1 v rv => ?_⟩
  obtain ⟨r, hf, q⟩ := Out.lift h1 R1
  split at hf
  · cases hf
    cases rv with
    | lst n1 d1 l1 => exact ⟨_, _, rfl, .inl d1, q H1 KeepO.refl R1 _ (src_enum n1 d1 l1)⟩
  · cases hf
theorem iRev (hm : X.mg "reversed" = none) (ha : PE X e (tD X.K Ew md)) (hg : Gl X "reversed" := by rfl) (hs : starEach [e] X.env = (false, eval e X.env) :: starEach [] X.env := by rfl) :
    PI X tg (.Call (.Name "reversed" p) [e] [] pos) (tI X.K Ew (mRev md)) := by
  refine PI.imp (RT.pi_revA hg hm ha hs) fun σ H R ⟨W, O, ρ, R0, h⟩ => ⟨W, O, ρ, R0, (Out.bind h).mono fun d ρ1 H1 k1 R1 h1 v rv => ?_⟩
  obtain ⟨r, hf, q⟩ := Out.lift h1 R1
  split at hf
  · cases hf
    cases rv with
    | lst n1 d1 l1 => exact ⟨_, _, rfl, .inl ⟨.inl d1, q H1 KeepO.refl R1 _ (src_rev n1 d1 l1)⟩⟩
  · cases hf
    obtain ⟨a, xs, rfl, hx, l⟩ := rv.tuple
    refine ⟨a, xs, rfl, .inr ⟨hx, ?_⟩⟩
    rw [l.length]
    exact q H1 KeepO.refl R1 _ (src_revT rv)
  · cases hf
theorem iItems (he : PE X e (tD X.K Ew md)) (hbase : attributeBase e "items" X.env (eval e X.env) = eval e X.env := by rfl) (hline : (apos.endLine == pos.line) = true := by rfl) :
    PI X (.Tuple elts kk tpos) (.Call (.Attribute e "items" apos) [] [] pos) (tI X.K Ew (mItems md)) := by
  refine PI.imp (pi_items (pe_locked (J := Iti) he) hbase hline) fun σ H R h => ⟨R, t_lock (md := md) (g := fun es => es.map fun p => .tuple [p.1, p.2]) (f := fun d => match d with | .dict es => some (es.map fun p => .tuple [p.1, p.2]) | _ => none) (fun d r z => ?_) (fun W O H0 d o kvs es n h l => src_items n h l) h, fun d o kvs H1 hd r => ⟨d, o, kvs, rfl, hd, r⟩⟩
  split at z
  · cases z; exact ⟨_, rfl, rfl⟩
  · cases z
theorem iVals (he : PE X e (tD X.K Ew md)) (hbase : attributeBase e "values" X.env (eval e X.env) = eval e X.env := by rfl) (hline : (apos.endLine == pos.line) = true := by rfl) :
    PI X tg (.Call (.Attribute e "values" apos) [] [] pos) (tI X.K Ew (mVals md)) := by
  refine PI.imp (pi_values (pe_locked (J := Itd) he) hbase hline) fun σ H R h => ⟨R, t_lock (md := md) (g := fun es => es.map (·.2)) (f := fun d => match d with | .dict es => some (es.map (·.2)) | _ => none) (fun d r z => ?_) (fun W O H0 d o kvs es n h l => src_vals n h l) h, fun d o kvs H1 hd r => ⟨d, o, kvs, rfl, hd, r⟩⟩
  split at z
  · cases z; exact ⟨_, rfl, rfl⟩
  · cases z
end
end

/-! ### targets -/
def setS (i : Nat) (d : D) : M Unit := fun ρ => some (.ok () (ρ.set i (.dat d)))
def bind2 (is : List Nat) : List D → M Unit
  | ds => fun ρ => if ds.length = is.length then some (.ok () ((is.zip ds).foldl (fun ρ p => ρ.set p.1 (.dat p.2)) ρ)) else none
def bTup (is : List Nat) (d : D) : M Unit := match d with
  | .tuple ds => bind2 is ds
  | _ => fun _ => none
/-- a target that binds the slots is -/
def tB (K : PySem.W.Frag) (is : List Nat) (b : D → M Unit) : TG := fun v σ H Q => ∃ W O ρ d ρ', SRel K W O H σ ρ ∧ Rx K W H v d ∧ b d ρ = some (.ok () ρ') ∧
  ∀ σ' H', KeepO W O H H' → SRel K W O H' σ' ρ' → σ'.length = σ.length → (∀ j, j ∉ is → σ'[j]? = σ[j]?) → Q σ' H'
theorem SRel.set {K : PySem.W.Frag} {W O : Addr → Prop} {H : Hp} {σ : L2.St} {ρ : List Slot} (R : SRel K W O H σ ρ) (i : Nat) {v : V} {d : D} (r : Rx K W H v d) : SRel K W O H (σ.set i (some v)) (ρ.set i (.dat d)) := by
  have own : ∀ (j : Nat) (e : D), (ρ.set i (.dat d))[j]? = some (.own e) → j ≠ i ∧ ρ[j]? = some (.own e) := fun j e h => by
    by_cases q : j = i
    · subst q
      rw [List.getElem?_set] at h
      simp at h
    · rw [List.getElem?_set_ne (Ne.symm q)] at h
      exact ⟨q, h⟩
  refine ⟨by rw [List.length_set, List.length_set, R.len], R.ow, R.tr, fun j x s h1 h2 => ?_, fun j k a d1 d2 n e1 e2 f1 f2 => ?_⟩
  · by_cases q : j = i
    · subst q
      rw [List.getElem?_set] at h1 h2
      simp only [if_true] at h1 h2
      split at h1 <;> split at h2 <;> first | (cases h1; done) | (cases h2; done) | (cases h1; cases h2; exact ⟨v, rfl, r⟩)
    · rw [List.getElem?_set_ne (Ne.symm q)] at h1 h2
      exact R.sl j x s h1 h2
  · obtain ⟨n1, e1⟩ := own j d1 e1
    obtain ⟨n2, e2⟩ := own k d2 e2
    rw [List.getElem?_set_ne (Ne.symm n1)] at f1
    rw [List.getElem?_set_ne (Ne.symm n2)] at f2
    exact R.ne j k a d1 d2 n e1 e2 f1 f2
section
variable {X : Cx} {pos : Pos}
theorem gN (i : Nat) {x : Str} (hN : X.N.Nodup) (hi : X.N[i]? = some x := by rfl) (hx : Loc X.env.scope x := by first | exact Or.inl rfl | exact Or.inr rfl) (hf : X.fn x = true ∨ X.env.scope.names.lookup x = some .local := by first | exact .inl rfl | exact .inr rfl) : PG X (.Name x pos) (tB X.K [i] (setS i)) := by
  refine ⟨fun pins s σ H v u Q I r ⟨W, O, ρ, d, ρ', R, rx, hb, q⟩ => ?_⟩
  cases hb
  refine (pg_name hN hi hx hf).run pins s σ H v u Q I r ?_
  exact q _ _ KeepO.refl (R.set i rx) (by rw [List.length_set]) fun j hj => by
    rw [List.getElem?_set_ne]
    intro z
    exact hj (by simp [z])
/-- names in a row -/
def gsN : List Nat → TGs
  | [] => gNil
  | i :: is => gCons (gName i) (gsN is)
theorem gsN_ok {K : PySem.W.Frag} {W O : Addr → Prop} {H : Hp} : ∀ {is : List Nat} {vs : List V} {ds : List D} {σ : L2.St} {ρ : List Slot} {Q : L2.St → Hp → Prop}, ds.length = is.length → RxL K W H vs ds → SRel K W O H σ ρ →
    (∀ σ', SRel K W O H σ' ((is.zip ds).foldl (fun ρ p => ρ.set p.1 (.dat p.2)) ρ) → σ'.length = σ.length → (∀ j, j ∉ is → σ'[j]? = σ[j]?) → Q σ' H) → gsN is vs σ H Q
  | [], vs, ds, σ, ρ, Q, hl, r, R, q => by
    have e : ds = [] := List.eq_nil_of_length_eq_zero hl
    subst e
    cases r
    exact ⟨rfl, q σ R rfl fun _ _ => rfl⟩
  | i :: is, vs, [], σ, ρ, Q, hl, r, R, q => by simp at hl
  | i :: is, vs, d :: ds, σ, ρ, Q, hl, r, R, q => by
    cases r with
    | @cons v vs _ _ r1 r2 =>
      refine ⟨v, vs, rfl, ?_⟩
      refine gsN_ok (is := is) (by simpa using hl) r2 (R.set i r1) fun σ' R' l' h' => q σ' (by simpa using R') (by rw [l', List.length_set]) fun j hj => ?_
      rw [List.mem_cons, not_or] at hj
      rw [h' j hj.2, List.getElem?_set_ne (Ne.symm hj.1)]
theorem gT {es : List Expr} {k : Nat} {is : List Nat} (hc : X.calm = true) (h : PGs X es (gsN is)) (hn : (assignEach es X.env).length = is.length := by rfl) (hst : (assignEach es X.env).findIdx? (·.1) = none := by rfl) : PG X (.Tuple es k pos) (tB X.K is (bTup is)) := by
  refine ⟨fun pins s σ H v u Q I r ⟨W, O, ρ, d, ρ', R, rx, hb, q⟩ => ?_⟩
  cases d with
  | tuple ds =>
    simp only [bTup, bind2] at hb
    split at hb
    · rename_i hl
      cases hb
      obtain ⟨a, xs, rfl, hx, l⟩ := rx.tuple
      exact (pg_tup hc h hn hst).run pins s σ H _ u Q I r ⟨a, xs, rfl, hx, by rw [l.length, hl], gsN_ok hl l R fun σ' R' l' h' => q σ' H KeepO.refl R' l' h'⟩
    · cases hb
  | _ => cases hb
theorem gsNil : PGs X [] (gsN []) := pgs_nil
theorem gsCons (i : Nat) {x : Str} {es : List Expr} {is : List Nat} (hN : X.N.Nodup) (h2 : PGs X es (gsN is)) (hi : X.N[i]? = some x := by rfl) (hx : Loc X.env.scope x := by first | exact Or.inl rfl | exact Or.inr rfl) (hf : X.fn x = true ∨ X.env.scope.names.lookup x = some .local := by first | exact .inl rfl | exact .inr rfl)
    (hs : (assignEach (.Name x pos :: es) X.env).map (·.2) = assign (.Name x pos) X.env :: (assignEach es X.env).map (·.2) := by rfl) : PGs X (.Name x pos :: es) (gsN (i :: is)) := pgs_cons (pg_name hN hi hx hf) h2 hs
end
end CF
end
section
/-! CF, part l: comprehensions. -/
namespace CF
open PySem PySem.Spec PyProof.Rows L2

/-- no exception -/
abbrev WF : WX := fun _ _ _ _ => False
def wipeS (ρ : List Slot) : List Nat → List Slot
  | [] => ρ
  | v :: vs => (wipeS ρ vs).set v .un
def backS (ρ0 ρ : List Slot) : List Nat → List Slot
  | [] => ρ
  | v :: vs => (backS ρ0 ρ vs).set v (ρ0.getD v .un)
def isOwn : Slot → Bool
  | .own _ => true
  | _ => false
def lcGo (vs : List Nat) (b : D → M Unit) (t : M Bool) (elt : M D) : List D → List D → M (List D)
  | [], acc => pure acc
  | d :: ds, acc => do
    (fun ρ => some (.ok () (wipeS ρ vs)) : M Unit)
    b d
    let c ← t
    if c = true then do
      let y ← elt
      if acc.length < sizeLine then lcGo vs b t elt ds (acc ++ [y]) else fun _ => none
    else lcGo vs b t elt ds acc
def mLC (vs : List Nat) (src : M (List D)) (b : D → M Unit) (t : M Bool) (elt : M D) : M D := do
  let ds ← src
  fun ρ => if vs.all fun v => !isOwn (ρ.getD v .un) then
    match lcGo vs b t elt ds [] ρ with
    | some (.ok r ρ') => some (.ok (.list r) (backS ρ ρ' vs))
    | _ => none
    else none

theorem ok_bind {α β : Type} {m : M α} {f : α → M β} {ρ ρ' : List Slot} {b : β} (h : (m >>= f) ρ = some (.ok b ρ')) : ∃ a ρ1, m ρ = some (.ok a ρ1) ∧ f a ρ1 = some (.ok b ρ') := by
  have h : M.bind m f ρ = some (.ok b ρ') := h
  unfold M.bind at h
  cases e : m ρ with
  | none => rw [e] at h; cases h
  | some r =>
    rw [e] at h
    cases r with
    | ok a ρ1 => exact ⟨a, ρ1, rfl, h⟩
    | ex _ _ => cases h
section
variable {K : PySem.W.Frag} {W O : Addr → Prop} {H H' : Hp} {σ : L2.St} {ρ ρ0 : List Slot}
theorem wipe_at (σ : L2.St) : ∀ (vs : List Nat) (i : Nat), i ∉ vs → (wipe σ vs)[i]? = σ[i]?
  | [], _, _ => rfl
  | v :: vs, i, h => by
    rw [List.mem_cons, not_or] at h
    show ((wipe σ vs).set v none)[i]? = _
    rw [List.getElem?_set_ne (Ne.symm h.1)]
    exact wipe_at σ vs i h.2
theorem wipe_in (σ : L2.St) : ∀ (vs : List Nat) (i : Nat), i ∈ vs → ∀ x, (wipe σ vs)[i]? = some x → x = none
  | v :: vs, i, h, x, e => by
    have e : ((wipe σ vs).set v none)[i]? = some x := e
    by_cases q : i = v
    · subst q
      rw [List.getElem?_set] at e
      simp only [if_true] at e
      split at e
      · exact (Option.some.inj e).symm
      · cases e
    · rw [List.getElem?_set_ne (Ne.symm q)] at e
      exact wipe_in σ vs i ((List.mem_cons.mp h).resolve_left q) x e
theorem wipeS_len (ρ : List Slot) : ∀ vs : List Nat, (wipeS ρ vs).length = ρ.length
  | [] => rfl
  | v :: vs => by
    show ((wipeS ρ vs).set v .un).length = _
    rw [List.length_set, wipeS_len ρ vs]
theorem wipeS_at (ρ : List Slot) : ∀ (vs : List Nat) (i : Nat), i ∉ vs → (wipeS ρ vs)[i]? = ρ[i]?
  | [], _, _ => rfl
  | v :: vs, i, h => by
    rw [List.mem_cons, not_or] at h
    show ((wipeS ρ vs).set v .un)[i]? = _
    rw [List.getElem?_set_ne (Ne.symm h.1)]
    exact wipeS_at ρ vs i h.2
theorem wipeS_in (ρ : List Slot) : ∀ (vs : List Nat) (i : Nat), i ∈ vs → ∀ x, (wipeS ρ vs)[i]? = some x → x = .un
  | v :: vs, i, h, x, e => by
    have e : ((wipeS ρ vs).set v .un)[i]? = some x := e
    by_cases q : i = v
    · subst q
      rw [List.getElem?_set] at e
      simp only [if_true] at e
      split at e
      · exact (Option.some.inj e).symm
      · cases e
    · rw [List.getElem?_set_ne (Ne.symm q)] at e
      exact wipeS_in ρ vs i ((List.mem_cons.mp h).resolve_left q) x e
theorem backS_len (ρ0 ρ : List Slot) : ∀ vs : List Nat, (backS ρ0 ρ vs).length = ρ.length
  | [] => rfl
  | v :: vs => by
    show ((backS ρ0 ρ vs).set v _).length = _
    rw [List.length_set, backS_len ρ0 ρ vs]
theorem backS_at (ρ0 ρ : List Slot) : ∀ (vs : List Nat) (i : Nat), i ∉ vs → (backS ρ0 ρ vs)[i]? = ρ[i]?
  | [], _, _ => rfl
  | v :: vs, i, h => by
    rw [List.mem_cons, not_or] at h
    show ((backS ρ0 ρ vs).set v _)[i]? = _
    rw [List.getElem?_set_ne (Ne.symm h.1)]
    exact backS_at ρ0 ρ vs i h.2
theorem backS_in (ρ0 ρ : List Slot) : ∀ (vs : List Nat) (i : Nat), i ∈ vs → ∀ x, (backS ρ0 ρ vs)[i]? = some x → x = ρ0.getD i .un
  | v :: vs, i, h, x, e => by
    have e : ((backS ρ0 ρ vs).set v (ρ0.getD v .un))[i]? = some x := e
    by_cases q : i = v
    · subst q
      rw [List.getElem?_set] at e
      simp only [if_true] at e
      split at e
      · exact (Option.some.inj e).symm
      · cases e
    · rw [List.getElem?_set_ne (Ne.symm q)] at e
      exact backS_in ρ0 ρ vs i ((List.mem_cons.mp h).resolve_left q) x e
/-- forgetting some slots -/
theorem SRel.wipe (R : SRel K W O H σ ρ) (vs : List Nat) : SRel K W O H σ (wipeS ρ vs) := by
  have own : ∀ (j : Nat) (e : D), (wipeS ρ vs)[j]? = some (.own e) → ρ[j]? = some (.own e) := fun j e h => by
    by_cases q : j ∈ vs
    · exact nomatch wipeS_in ρ vs j q _ h
    · rw [wipeS_at ρ vs j q] at h; exact h
  refine ⟨by rw [wipeS_len, R.len], R.ow, R.tr, fun j x s h1 h2 => ?_, fun j k a d1 d2 n e1 e2 f1 f2 => R.ne j k a d1 d2 n (own _ _ e1) (own _ _ e2) f1 f2⟩
  by_cases q : j ∈ vs
  · rw [wipeS_in ρ vs j q _ h2]; trivial
  · rw [wipeS_at ρ vs j q] at h2; exact R.sl j x s h1 h2
/-- .. and the values -/
theorem SRel.wipe2 (R : SRel K W O H σ ρ) (vs : List Nat) : SRel K W O H (L2.wipe σ vs) (wipeS ρ vs) := by
  have own : ∀ (j : Nat) (e : D), (wipeS ρ vs)[j]? = some (.own e) → j ∉ vs ∧ ρ[j]? = some (.own e) := fun j e h => by
    by_cases q : j ∈ vs
    · exact nomatch wipeS_in ρ vs j q _ h
    · rw [wipeS_at ρ vs j q] at h; exact ⟨q, h⟩
  refine ⟨by rw [wipeS_len, wipe_length, R.len], R.ow, R.tr, fun j x s h1 h2 => ?_, fun j k a d1 d2 n e1 e2 f1 f2 => ?_⟩
  · by_cases q : j ∈ vs
    · rw [wipeS_in ρ vs j q _ h2]; trivial
    · rw [wipeS_at ρ vs j q] at h2
      rw [wipe_at σ vs j q] at h1
      exact R.sl j x s h1 h2
  · obtain ⟨q1, e1⟩ := own _ _ e1
    obtain ⟨q2, e2⟩ := own _ _ e2
    rw [wipe_at σ vs j q1] at f1
    rw [wipe_at σ vs k q2] at f2
    exact R.ne j k a d1 d2 n e1 e2 f1 f2
theorem SRel.moreO {O' : Addr → Prop} (R : SRel K W O H σ ρ) (h : ∀ a, O a → O' a) (h' : ∀ a, O' a → W a) : SRel K W O' H σ ρ := by
  refine ⟨R.len, h', R.tr, fun j x s h1 h2 => ?_, R.ne⟩
  have q := R.sl j x s h1 h2
  cases s with
  | un => trivial
  | dat d => exact q
  | own d => obtain ⟨a, e, o, z⟩ := q; exact ⟨a, e, h a o, z⟩
theorem SRel.updW {p : Addr} {o : HO} (R : SRel K W O H σ ρ) (w : W p) (n : ¬ O p) : SRel K W O (upd H p o) σ ρ := by
  have k : ∀ a u, L2.Rd H a u → ¬ W a → L2.Rd (upd H p o) a u := fun a u h na => by
    have q : a ≠ p := fun z => na (by rw [z]; exact w)
    rcases h with h | ⟨ob, h⟩
    · exact .inl (by rw [upd_ne q]; exact h)
    · exact .inr ⟨ob, by rw [upd_ne q]; exact h⟩
  refine ⟨R.len, R.ow, fun a wa => ?_, fun j x s h1 h2 => ?_, R.ne⟩
  · by_cases q : a = p
    · subst q; exact ⟨o, upd_same⟩
    · obtain ⟨ob, e⟩ := R.tr a wa
      exact ⟨ob, by rw [upd_ne q]; exact e⟩
  · have q := R.sl j x s h1 h2
    cases s with
    | un => trivial
    | dat d => obtain ⟨v, e, h⟩ := q; exact ⟨v, e, Rx.go k (fun _ _ _ z => z) d v h⟩
    | own d =>
      obtain ⟨a, e, oa, h⟩ := q
      exact ⟨a, e, oa, h.go k (fun _ _ _ z => z) fun ob eb => by rw [upd_ne (fun z => n (by rw [← z]; exact oa))]; exact eb⟩
theorem KeepO.moreO {O' : Addr → Prop} (k : KeepO W O H H') (h : ∀ a, O a → O' a) : KeepO W O' H H' := ⟨fun a o e w n => k.own a o e w fun z => n (h a z), k.rest, k.frz, k.lst⟩
/-- back from a block -/
theorem SRel.back {Wb : Addr → Prop} {Hb : Hp} {vs : List Nat} {ρe : List Slot} (R0 : SRel K Wb O Hb σ ρ0) (hv : (vs.all fun v => !isOwn (ρ0.getD v .un)) = true) (kd : ∀ (d : D) (v : V), Rx K Wb Hb v d → Rx K W H v d)
    (R : SRel K W O H (L2.wipe σ vs) (wipeS ρe vs)) : SRel K W O H σ (backS ρ0 ρe vs) := by
  have l1 := R.len
  rw [wipe_length, wipeS_len] at l1
  have own : ∀ (j : Nat) (e : D), (backS ρ0 ρe vs)[j]? = some (.own e) → j ∉ vs ∧ ρe[j]? = some (.own e) := fun j e h => by
    by_cases q : j ∈ vs
    · have z := backS_in ρ0 ρe vs j q _ h
      have y := List.all_eq_true.mp hv j q
      rw [← z] at y
      cases y
    · rw [backS_at ρ0 ρe vs j q] at h; exact ⟨q, h⟩
  refine ⟨by rw [backS_len, l1], R.ow, R.tr, fun j x s h1 h2 => ?_, fun j k a d1 d2 n e1 e2 f1 f2 => ?_⟩
  · by_cases q : j ∈ vs
    · have z := backS_in ρ0 ρe vs j q _ h2
      have y := List.all_eq_true.mp hv j q
      have hj : j < ρ0.length := by
        rw [← R0.len]
        exact (List.getElem?_eq_some_iff.mp h1).1
      have e0 : ρ0[j]? = some s := by
        rw [z, List.getD_eq_getElem?_getD, List.getElem?_eq_getElem hj]
        rfl
      have r := R0.sl j x s h1 e0
      rw [← z] at y
      cases s with
      | un => trivial
      | dat d => obtain ⟨v, e, h⟩ := r; exact ⟨v, e, kd d v h⟩
      | own d => cases y
    · rw [backS_at ρ0 ρe vs j q, ← wipeS_at ρe vs j q] at h2
      rw [← wipe_at σ vs j q] at h1
      exact R.sl j x s h1 h2
  · obtain ⟨q1, e1⟩ := own _ _ e1
    obtain ⟨q2, e2⟩ := own _ _ e2
    rw [← wipe_at σ vs j q1] at f1
    rw [← wipe_at σ vs k q2] at f2
    exact R.ne j k a d1 d2 n (by rw [wipeS_at ρe vs j q1]; exact e1) (by rw [wipeS_at ρe vs k q2]; exact e2) f1 f2
theorem keepW {p : Addr} {o : HO} (w : W p) (n : O p) : KeepO W O H (upd H p o) :=
  ⟨fun a _ e _ na => by rw [upd_ne (fun z => na (by rw [z]; exact n))]; exact e, fun a u e na => by
    have q : a ≠ p := fun z => na (by rw [z]; exact w)
    rcases e with e | ⟨ob, e⟩
    · exact .inl (by rw [upd_ne q]; exact e)
    · exact .inr ⟨ob, by rw [upd_ne q]; exact e⟩, fun a _ _ e na => by rw [upd_ne (fun z => na (by rw [z]; exact w))]; exact e, fun a _ e na => by rw [upd_ne (fun z => na (by rw [z]; exact w))]; exact e⟩
theorem wipe_same {σ' : L2.St} {vs is : List Nat} (hs : ∀ i ∈ is, i ∈ vs) (hl : σ'.length = (L2.wipe σ vs).length) (h : ∀ j, j ∉ is → σ'[j]? = (L2.wipe σ vs)[j]?) : L2.wipe σ' vs = L2.wipe σ vs := by
  apply List.ext_getElem?
  intro i
  by_cases q : i ∈ vs
  · have e1 : ∀ τ : L2.St, τ.length = σ.length → (L2.wipe τ vs)[i]? = if i < σ.length then some none else none := fun τ ht => by
      split
      · rename_i hi
        have e := List.getElem?_eq_getElem (l := L2.wipe τ vs) (i := i) (by rw [wipe_length, ht]; exact hi)
        rw [e, wipe_in τ vs i q _ e]
      · rename_i hi
        exact List.getElem?_eq_none (by rw [wipe_length, ht]; omega)
    rw [e1 σ' (by rw [hl, wipe_length]), e1 σ rfl]
  · rw [wipe_at _ _ _ q, wipe_at _ _ _ q, h i (fun z => q (hs i z)), wipe_at _ _ _ q]
end

section
variable {K : PySem.W.Frag} {Ew : WX} {σ : L2.St} {H : Hp} {Q : VK} {vs is : List Nat} {src : M (List D)} {b : D → M Unit} {t : M Bool} {elt : M D}
def lcTurn (K : PySem.W.Frag) (b : D → M Unit) (t : M Bool) (elt : M D) (vs is : List Nat) (σ : L2.St) (Q : VK) : It → Hp → Prop := fun J H1 => ∀ D, H1 D = none → ∃ W : Nat → Nat → Hp → Prop, (∃ m, W 0 m (upd H1 D (.lst []))) ∧ ∀ i m H, W i m H →
  (J.stop i H ∧ Q (.ref D) H) ∨ (J.go i H ∧ ∃ Nx : Hp → Prop, (∀ H', Nx H' → ∃ m', m' < m ∧ W (i + 1) m' H') ∧ ∀ x H', J.yld i H x H' → tB K is b x (L2.wipe σ vs) H' fun σ2 H2 => L2.wipe σ2 vs = L2.wipe σ vs ∧ tT K WF t σ2 H2 fun b H3 =>
    if b = true then tD K WF elt σ2 H3 fun y H4 => ∃ acc, H4 D = some (.lst acc) ∧ acc.length < sizeLine ∧ Nx (upd H4 D (.lst (acc ++ [y]))) else Nx H3)
/-- from the walk's start on -/
theorem lc_from {W O : Addr → Prop} {ρ1 ρe : List Slot} {H1 : Hp} {ds r : List D} {J : It} (hs : (is.all fun i => vs.contains i) = true) (R1 : SRel K W O H1 σ ρ1) (hJ : Src K J W O H1 ds) (hv : (vs.all fun v => !isOwn (ρ1.getD v .un)) = true) (hr : lcGo vs b t elt ds [] ρ1 = some (.ok r ρe))
    (q : ∀ H', KeepO W O H1 H' → SRel K W O H' σ (backS ρ1 ρe vs) → ∀ a, SRel K (plus W a) (plus O a) H' σ (backS ρ1 ρe vs) → H1 a = none → OwnAt K (plus W a) H' a (.list r) → Q (.ref a) H') : lcTurn K b t elt vs is σ Q J H1 := by
  have hs' : ∀ i ∈ is, i ∈ vs := fun i hi => by simpa using List.all_eq_true.mp hs i hi
  intro D nD
  have OD : ¬ O D := fun z => by
    obtain ⟨o, e⟩ := R1.tr D (R1.ow D z)
    rw [nD] at e
    cases e
  have s1 : Same H1 (upd H1 D (.lst [])) := Same.upd nD
  have RD : SRel K (plus W D) O (upd H1 D (.lst [])) σ ρ1 := by
    have z := R1.plus (H' := upd H1 D (.lst [])) nD upd_same s1
    refine ⟨z.len, fun a o => .inl (R1.ow a o), z.tr, fun i x s e1 e2 => ?_, z.ne⟩
    have y := z.sl i x s e1 e2
    have y0 := R1.sl i x s e1 e2
    cases s with
    | un => trivial
    | dat d => exact y
    | own d =>
      obtain ⟨a, e, o, _⟩ := y0
      obtain ⟨a', e', _, o'⟩ := y
      rw [e] at e'
      cases e'
      exact ⟨a, e, o, o'⟩
  -- from the walk's start to a later heap
  have back : ∀ {Hn : Hp}, KeepO (plus W D) (plus O D) (upd H1 D (.lst [])) Hn → KeepO W O H1 Hn := fun {Hn} k => by
    refine ⟨fun a o e w n => ?_, fun a u e n => ?_, fun a o u e n => ?_, fun a xs e n => ?_⟩
    · have na : a ≠ D := fun z => by rw [z, nD] at e; cases e
      exact k.own a o (s1 a o e) (.inl w) fun z => z.elim n na
    · obtain ⟨o, eo⟩ := rd_some e
      have na : a ≠ D := fun z => by rw [z, nD] at eo; cases eo
      exact k.rest a u (rd_same s1 e) fun z => z.elim n na
    · have na : a ≠ D := fun z => by rw [z, nD] at e; cases e
      exact k.frz a o u (s1 _ _ e) fun z => z.elim n na
    · have na : a ≠ D := fun z => by rw [z, nD] at e; cases e
      exact k.lst a xs (s1 _ _ e) fun z => z.elim n na
  refine ⟨fun i m Hi => m = ds.length - i ∧ i ≤ ds.length ∧ ∃ acc accV ρi, KeepO (plus W D) (plus O D) (upd H1 D (.lst [])) Hi ∧ SRel K (plus W D) O Hi (L2.wipe σ vs) (wipeS ρi vs) ∧ Hi D = some (.lst accV) ∧ RxL K (plus W D) Hi accV acc ∧
    lcGo vs b t elt (ds.drop i) acc ρi = some (.ok r ρe), ⟨ds.length, rfl, Nat.zero_le _, [], [], ρ1, KeepO.refl, RD.wipe2 vs, upd_same, .nil, hr⟩, ?_⟩
  rintro i m Hi ⟨rfl, hi, acc, accV, ρi, ki, Ri, eD, la, go⟩
  have kd : ∀ (d : PyData) (v : V), Rx K W H1 v d → Rx K (plus W D) Hi v d := fun d v h => Rx.go (W' := plus W D) (fun a u e n => ki.rest a u e n) (fun _ _ _ z => z) d v ((Rx.plus h nD).same s1)
  by_cases hlt : i < ds.length
  · refine .inr ⟨hJ.go i Hi (back ki) hlt, fun Hn => ∃ acc accV ρn, KeepO (plus W D) (plus O D) (upd H1 D (.lst [])) Hn ∧ SRel K (plus W D) O Hn (L2.wipe σ vs) (wipeS ρn vs) ∧ Hn D = some (.lst accV) ∧ RxL K (plus W D) Hn accV acc ∧
      lcGo vs b t elt (ds.drop (i + 1)) acc ρn = some (.ok r ρe), fun Hn ⟨a1, a2, a3, a4, a5, a6, a7, a8⟩ => ⟨ds.length - (i + 1), by omega, rfl, hlt, a1, a2, a3, a4, a5, a6, a7, a8⟩, fun x H' y => ?_⟩
    have ed : ds[i]? = some ds[i] := List.getElem?_eq_getElem hlt
    rw [List.drop_eq_getElem_cons hlt] at go
    generalize ds[i] = d at ed go
    obtain ⟨sy, ry⟩ := hJ.yld i Hi x H' d (back ki) ed y
    have RW : ∀ a, plus W D a → W a ∨ H1 a = none := fun a z => z.elim .inl fun q => .inr (by rw [q]; exact nD)
    have rx := ry (plus W D) RW Ri.tr
    obtain ⟨_, _, g1, go⟩ := ok_bind (m := (fun ρ => some (.ok () (wipeS ρ vs)) : M Unit)) go
    cases g1
    obtain ⟨_, ρb, g2, go⟩ := ok_bind go
    obtain ⟨c, ρc, g3, go⟩ := ok_bind go
    refine ⟨plus W D, O, wipeS ρi vs, d, ρb, Ri.same sy, rx, g2, fun σ2 H2 k2 R2 l2 o2 => ?_⟩
    have w2 := wipe_same hs' l2 o2
    refine ⟨w2, plus W D, O, ρb, R2, ?_⟩
    rw [g3]
    intro H3 k3 R3
    have OD' : ¬ O D := OD
    have ks : KeepO (plus W D) O Hi H3 := (KeepO.of sy).trans (k2.trans k3)
    have e3 : H3 D = some (.lst accV) := ks.own D _ eD (.inr rfl) OD
    have l3 := la.keepO Ri ks
    cases c with
    | false =>
      exact ⟨acc, accV, ρc, ki.trans (ks.moreO fun _ z => .inl z), by rw [← w2]; exact R3.wipe2 vs, e3, l3, go⟩
    | true =>
      simp only [if_true] at go ⊢
      obtain ⟨yd, ρd, g4, go⟩ := ok_bind go
      refine ⟨plus W D, O, ρc, R3, ?_⟩
      rw [g4]
      intro H4 k4 R4 yv ryv
      split at go
      case isFalse => cases go
      rename_i hz
      have e4 : H4 D = some (.lst accV) := k4.own D _ e3 (.inr rfl) OD
      have l4 := l3.keepO R3 k4
      refine ⟨accV, e4, by rw [l4.length]; exact hz, acc ++ [yd], accV ++ [yv], ρd, (ki.trans ((ks.trans k4).moreO fun _ z => .inl z)).trans (keepW (.inr rfl) (.inr rfl)), ?_, upd_same, ?_, go⟩
      · rw [← w2]
        exact (R4.updW (.inr rfl) OD).wipe2 vs
      · refine RxL.go (fun a u h na => ?_) (fun _ _ _ z => z) _ _ (l4.append (RxL.one ryv))
        exact (keepW (O := plus O D) (.inr rfl) (.inr rfl)).rest a u h na
  · have e : i = ds.length := by omega
    subst e
    rw [List.drop_length] at go
    cases go
    refine .inl ⟨hJ.stop Hi (back ki), ?_⟩
    have Rb := R1.back hv kd Ri
    exact q Hi (back ki) (Rb.less (fun _ z => .inl z) R1.ow fun i a d e1 e2 => by
      obtain ⟨a', e', o, _⟩ := Rb.own e1
      rw [e2] at e'
      cases e'
      exact o) D (Rb.moreO (fun _ z => .inl z) fun a z => z.elim (fun o => .inl (R1.ow a o)) .inr) nD ⟨accV, eD, la⟩
theorem t_lc (hs : (is.all fun i => vs.contains i) = true) (h : tF K Ew (mLC vs src b t elt) σ H Q) : tLc (tI K Ew src) (tB K is b) (tT K WF t) (tD K WF elt) vs σ H Q := by
  obtain ⟨W, O, ρ, R, h⟩ := h
  refine ⟨W, O, ρ, R, (Out.bind h).mono fun ds ρ1 H1 k1 R1 h1 J hJ => ?_⟩
  split at h1
  case isFalse => exact h1.elim
  rename_i hv
  generalize hr : lcGo vs b t elt ds [] ρ1 = r at h1
  match r, h1 with
  | some (.ok r ρe), q => exact lc_from hs R1 hJ hv hr fun H' k R' a Ra na oa => q H' k R' a Ra (R1.dom k1 na) oa
end
end CF
end
section
/-! CF, part h: statements. -/
namespace CF
open PySem PySem.Spec PyProof.Rows L2

structure Step (W O : Addr → Prop) (H : Hp) (W' O' : Addr → Prop) (H' : Hp) : Prop where
  keep : KeepO W O H H'
  dom : ∀ a o, H a = some o → ∃ o', H' a = some o'
  ow : ∀ a, O' a → O a ∨ H a = none
  wi : ∀ a o, H a = some o → W a → ¬ O a → W' a
  wo : ∀ a, W' a → W a ∨ H a = none
section
variable {K : PySem.W.Frag} {W O W1 O1 W2 O2 : Addr → Prop} {H H1 H2 : Hp} {σ σ' : L2.St} {ρ ρ' : List Slot}
theorem Step.refl : Step W O H W O H := ⟨KeepO.refl, fun _ o e => ⟨o, e⟩, fun _ => .inl, fun _ _ _ w _ => w, fun _ => .inl⟩
theorem Step.none (s : Step W O H W1 O1 H1) {a : Addr} (e : H1 a = Option.none) : H a = Option.none := by
  cases q : H a with
  | none => rfl
  | some o => obtain ⟨o', e'⟩ := s.dom a o q; rw [e] at e'; cases e'
theorem rd_ne {a : Addr} {u : HO} (h : L2.Rd H a u) (n : H a = Option.none) : False := by
  obtain ⟨o, e⟩ := rd_some h
  rw [n] at e
  cases e
theorem Step.trans (s : Step W O H W1 O1 H1) (t : Step W1 O1 H1 W2 O2 H2) : Step W O H W2 O2 H2 := by
  have nO : ∀ a o, H a = some o → ¬ O a → ¬ O1 a := fun a o e n z => by
    rcases s.ow a z with z | z
    · exact n z
    · rw [z] at e; cases e
  refine ⟨⟨fun a o e w n => ?_, fun a u e n => ?_, fun a o u e n => ?_, fun a xs e n => ?_⟩, fun a o e => ?_, fun a h => ?_, fun a o e w n => ?_, fun a h => ?_⟩
  · exact t.keep.own a o (s.keep.own a o e w n) (s.wi a o e w n) (nO a o e n)
  · refine t.keep.rest a u (s.keep.rest a u e n) fun z => ?_
    rcases s.wo a z with z | z
    · exact n z
    · exact rd_ne e z
  · refine t.keep.frz a o u (s.keep.frz a o u e n) fun z => ?_
    rcases s.wo a z with z | z
    · exact n z
    · rw [z] at e; cases e
  · refine t.keep.lst a xs (s.keep.lst a xs e n) fun z => ?_
    rcases s.wo a z with z | z
    · exact n z
    · rw [z] at e; cases e
  · obtain ⟨o', e'⟩ := s.dom a o e
    exact t.dom a o' e'
  · rcases t.ow a h with h | h
    · exact s.ow a h
    · exact .inr (s.none h)
  · exact t.wi a o (s.keep.own a o e w n) (s.wi a o e w n) (nO a o e n)
  · rcases t.wo a h with h | h
    · exact s.wo a h
    · exact .inr (s.none h)
theorem Step.of (k : KeepO W O H H1) (R : SRel K W O H1 σ ρ) : Step W O H W O H1 := by
  refine ⟨k, fun a o e => ?_, fun _ => .inl, fun _ _ _ w _ => w, fun _ => .inl⟩
  by_cases w : W a
  · exact R.tr a w
  · exact rd_some (k.rest a o (.inl e) w)
theorem Step.mk1 {p : Addr} (n : H p = Option.none) (d : Step W O H W O H1) : Step W O H (plus W p) (plus O p) H1 :=
  ⟨d.keep, d.dom, fun a z => z.elim .inl fun q => .inr (by rw [q]; exact n), fun a o e w n => .inl w, fun a z => z.elim .inl fun q => .inr (by rw [q]; exact n)⟩
end

inductive RS where
  | nx
  | bk
  | ct
  | rt (d : D)
abbrev MS := M RS
def RetRel (fr : Bool) (K : PySem.W.Frag) (W O : Addr → Prop) (H : Hp) (F : List Nat) (σ : L2.St) (v : V) (d : D) : Prop :=
  if fr = true then ∃ a, v = .ref a ∧ O a ∧ OwnAt K W H a d ∧ ∀ j ∈ F, σ[j]? ≠ some (some (.ref a)) else Rx K W H v d
def Fx (F : List Nat) (σ σ' : L2.St) : Prop := ∀ i ∈ F, σ'[i]? = σ[i]?
def EndS (fr : Bool) (F : List Nat) (K : PySem.W.Frag) (D : Ends) (W O : Addr → Prop) (σ : L2.St) (H : Hp) : RS → Prop
  | .nx => D.nx σ H
  | .bk => D.bk σ H
  | .ct => D.ct σ H
  | .rt d => ∀ v, RetRel fr K W O H F σ v d → D.rt v H
def OutS (fr : Bool) (F : List Nat) (K : PySem.W.Frag) (Ew : WX) (W O : Addr → Prop) (σ : L2.St) (H : Hp) (D : Ends) : Option (R RS) → Prop
  | some (.ok f ρ') => ∀ W' O' σ' H', Step W O H W' O' H' → SRel K W' O' H' σ' ρ' → Fx F σ σ' → EndS fr F K D W' O' σ' H' f
  | some (.ex e ρ') => ∀ c dx W' O' σ' H', Step W O H W' O' H' → SRel K W' O' H' σ' ρ' → Fx F σ σ' → ExcRel K W' H' c dx e → Ew c dx σ' H'
  | none => False
/-- a statement's reading -/
def tS (fr : Bool) (F : List Nat) (K : PySem.W.Frag) (Ew : WX) (m : MS) : TS := fun D σ H => ∃ W O ρ, SRel K W O H σ ρ ∧ OutS fr F K Ew W O σ H D (m ρ)

section
variable {fr : Bool} {F : List Nat} {K : PySem.W.Frag} {Ew : WX} {W O W1 O1 : Addr → Prop} {H H1 : Hp} {σ σ1 : L2.St} {ρ ρ1 : List Slot} {D : Ends} {r : Option (R RS)} {α : Type}
theorem Fx.refl : Fx F σ σ := fun _ _ => rfl
theorem Fx.trans {σ2 : L2.St} (a : Fx F σ σ1) (b : Fx F σ1 σ2) : Fx F σ σ2 := fun i h => (b i h).trans (a i h)
theorem Fx.set {i : Nat} {x : Option V} (h : F.contains i = false) : Fx F σ (σ.set i x) := fun j hj => by
  rw [List.getElem?_set_ne]
  intro z
  rw [z] at h
  simp [List.contains_iff_mem, hj] at h
theorem OutS.shift (h : OutS fr F K Ew W O σ H D r) (s : Step W O H W1 O1 H1) (f : Fx F σ σ1) : OutS fr F K Ew W1 O1 σ1 H1 D r := by
  match r, h with
  | some (.ok a ρ'), h => exact fun W' O' σ' H' s' R f' => h W' O' σ' H' (s.trans s') R (f.trans f')
  | some (.ex e ρ'), h => exact fun c dx W' O' σ' H' s' R f' => h c dx W' O' σ' H' (s.trans s') R (f.trans f')
theorem OutS.here {f : RS} (h : OutS fr F K Ew W O σ H D (some (.ok f ρ1))) (R : SRel K W O H σ ρ1) : EndS fr F K D W O σ H f := h W O σ H Step.refl R Fx.refl
theorem OutS.bind {m : M α} {g : α → MS} (h : OutS fr F K Ew W O σ H D ((m >>= g) ρ)) : Out K Ew W O σ H (fun a ρ1 H1 => OutS fr F K Ew W O σ H1 D (g a ρ1)) (m ρ) := by
  have h : OutS fr F K Ew W O σ H D (M.bind m g ρ) := h
  unfold M.bind at h
  generalize m ρ = r at h
  match r, h with
  | some (.ok a ρ'), h => exact fun H' k' R => OutS.shift h (Step.of k' R) Fx.refl
  | some (.ex e ρ'), h => exact fun c dx H' k' R x => h c dx W O σ H' (Step.of k' R) R Fx.refl x
/-- a part of a body: what is behind it -/
theorem OutS.seq {m : MS} {g : RS → MS} (h : OutS fr F K Ew W O σ H D ((m >>= g) ρ)) {D' : Ends} (hd : ∀ f ρ1 W1 O1 σ1 H1, Step W O H W1 O1 H1 → Fx F σ σ1 → SRel K W1 O1 H1 σ1 ρ1 → OutS fr F K Ew W1 O1 σ1 H1 D (g f ρ1) → EndS fr F K D' W1 O1 σ1 H1 f) : OutS fr F K Ew W O σ H D' (m ρ) := by
  have h : OutS fr F K Ew W O σ H D (M.bind m g ρ) := h
  unfold M.bind at h
  generalize m ρ = r at h
  match r, h with
  | some (.ok a ρ'), h => exact fun W' O' σ' H' s R f => hd a ρ' W' O' σ' H' s f R (OutS.shift h s f)
  | some (.ex e ρ'), h => exact h
end

theorem PS.imp {X : Cx} {st : Stmt} {t t' : TS} (h : PS X st t) (i : ∀ D σ H, t' D σ H → t D σ H) : PS X st t' := ⟨fun pins s σ H D I hw => h.run pins s σ H D I (i D σ H hw)⟩
theorem PSs.imp {X : Cx} {st : List Stmt} {t t' : TS} (h : PSs X st t) (i : ∀ D σ H, t' D σ H → t D σ H) : PSs X st t' := ⟨fun pins s σ H D I hw => h.run pins s σ H D I (i D σ H hw)⟩

/-! ### the mirror's statements -/
def mNx : MS := pure .nx
def mBk : MS := pure .bk
def mCt : MS := pure .ct
def mSq (a b : MS) : MS := do
  match ← a with
  | .nx => b
  | f => pure f
def mDrop (m : M D) : MS := do
  let _ ← m
  pure .nx
def mRet (m : M D) : MS := do
  let d ← m
  pure (.rt d)
/-- return e, e an object of its own that is made there -/
def mRetF (F : List Nat) (m : M D) : MS := do
  let d ← m
  fun ρ => if F.all fun j => isOwn (ρ.getD j .un) then some (.ok (.rt d) ρ) else none
/-- return x, x an object of its own -/
def mRetOw (F : List Nat) (i : Nat) : MS := fun ρ => match ρ[i]? with
  | some (.own d) => if F.all fun j => isOwn (ρ.getD j .un) then some (.ok (.rt d) ρ) else none
  | _ => none
/-- the object in the slot is from here on a tree -/
def mRel (i : Nat) : MS := fun ρ => match ρ[i]? with
  | some (.own d) => some (.ok .nx (ρ.set i (.dat d)))
  | _ => some (.ok .nx ρ)
def mSet (i : Nat) (m : M D) : MS := do
  let d ← m
  fun ρ => some (.ok .nx (ρ.set i (.dat d)))
def mSetO (i : Nat) (m : M D) : MS := do
  let d ← m
  fun ρ => some (.ok .nx (ρ.set i (.own d)))
/-- a binding: it raises nothing -/
def mB (m : M Unit) : M Unit := fun ρ => match m ρ with
  | some (.ok u ρ') => some (.ok u ρ')
  | _ => none
def mSetB (b : D → M Unit) (m : M D) : MS := do
  let d ← m
  mB (b d)
  pure .nx
def mPar (i j : Nat) (a b : M D) : MS := do
  let d ← a
  let e ← b
  fun ρ => some (.ok .nx ((ρ.set i (.dat d)).set j (.dat e)))
def mIfS (t : M Bool) (a b : MS) : MS := do
  let c ← t
  if c = true then a else b
def forGo (b : D → M Unit) (body : MS) : List D → MS
  | [] => mNx
  | d :: ds => do
    mB (b d)
    match ← body with
    | .nx => forGo b body ds
    | .ct => forGo b body ds
    | .bk => mNx
    | .rt r => pure (.rt r)
def mFor (src : M (List D)) (b : D → M Unit) (body : MS) : MS := do
  let ds ← src
  forGo b body ds
/-- at most n rounds -/
def whGo (t : M Bool) (body : MS) : Nat → MS
  | 0 => fun _ => none
  | n + 1 => do
    let c ← t
    if c = true then do
      match ← body with
      | .nx => whGo t body n
      | .ct => whGo t body n
      | .bk => mNx
      | .rt r => pure (.rt r)
    else mNx

section
variable {X : Cx} {fr : Bool} {F : List Nat} {Ew : WX} {e c : Expr} {st : Stmt} {sts a b : List Stmt} {pos : Pos} {m ma mb : MS} {md me : M D} {mt : M Bool}
theorem sNx : PSs X [] (tS fr F X.K Ew mNx) := PSs.imp pss_nil fun D σ H ⟨W, O, ρ, R, h⟩ => h.here R
theorem sPass : PS X (.Pass pos) (tS fr F X.K Ew mNx) := PS.imp ps_pass fun D σ H ⟨W, O, ρ, R, h⟩ => h.here R
theorem sBk : PS X (.Break pos) (tS fr F X.K Ew mBk) := PS.imp ps_break fun D σ H ⟨W, O, ρ, R, h⟩ => h.here R
theorem sCt : PS X (.Continue pos) (tS fr F X.K Ew mCt) := PS.imp ps_continue fun D σ H ⟨W, O, ρ, R, h⟩ => h.here R
theorem sSq (h1 : PS X st (tS fr F X.K Ew ma)) (h2 : PSs X sts (tS fr F X.K Ew mb)) : PSs X (st :: sts) (tS fr F X.K Ew (mSq ma mb)) :=
  PSs.imp (pss_cons h1 h2) fun D σ H ⟨W, O, ρ, R, h⟩ => ⟨W, O, ρ, R, OutS.seq h fun f ρ1 W1 O1 σ1 H1 _ _ R1 q => by
    cases f with
    | nx => exact ⟨W1, O1, ρ1, R1, q⟩
    | bk => exact q.here R1
    | ct => exact q.here R1
    | rt d => exact q.here R1⟩
theorem sOne (h1 : PS X st (tS fr F X.K Ew ma)) : PSs X [st] (tS fr F X.K Ew ma) := pss_one h1
theorem sDrop (he : PE X e (tD X.K Ew md)) (hs : swapsWith e none pos.line X.env = pure false := by rfl) : PS X (.Expr e pos) (tS fr F X.K Ew (mDrop md)) :=
  PS.imp (ps_expr he hs) fun D σ H ⟨W, O, ρ, R, h⟩ => ⟨W, O, ρ, R, (OutS.bind h).mono fun d ρ1 H1 k1 R1 h1 v rv => h1.here R1⟩
theorem sDoc {x j pos pos'} : PS X (.Expr (.Constant (.str x) j pos) pos') (tS fr F X.K Ew mNx) := PS.imp ps_doc fun D σ H ⟨W, O, ρ, R, h⟩ => h.here R
theorem sRet (he : PE X e (tD X.K Ew md)) : PS X (.Return (some e) pos) (tS false F X.K Ew (mRet md)) :=
  PS.imp (ps_ret he) fun D σ H ⟨W, O, ρ, R, h⟩ => ⟨W, O, ρ, R, (OutS.bind h).mono fun d ρ1 H1 k1 R1 h1 v rv => h1.here R1 v rv⟩
theorem sRetN : PS X (.Return none pos) (tS false F X.K Ew (mRet (mC .none))) :=
  PS.imp ps_retN fun D σ H ⟨W, O, ρ, R, h⟩ => OutS.here (ρ1 := ρ) h R .non .non
/-- the fresh object of a run -/
theorem fresh_step {K : PySem.W.Frag} {W O : Addr → Prop} {H H1 : Hp} {σ : L2.St} {ρ ρ1 : List Slot} {a : Addr} (R : SRel K W O H σ ρ) (k1 : KeepO W O H H1) (R1 : SRel K W O H1 σ ρ1) (n : H a = none) : Step W O H (plus W a) (plus O a) H1 := (Step.of k1 R1).mk1 n
theorem own_of {j : Nat} {ρ : List Slot} (h : isOwn (ρ.getD j .un) = true) : ∃ d, ρ[j]? = some (.own d) := by
  rw [List.getD_eq_getElem?_getD] at h
  cases e : ρ[j]? with
  | none => rw [e] at h; cases h
  | some s =>
    rw [e] at h
    cases s with
    | own d => exact ⟨d, rfl⟩
    | un => cases h
    | dat d => cases h
theorem sRetF (he : PE X e (tF X.K Ew md)) : PS X (.Return (some e) pos) (tS true F X.K Ew (mRetF F md)) := by
  refine PS.imp (ps_ret he) fun D σ H ⟨W, O, ρ, R, h⟩ => ⟨W, O, ρ, R, ?_⟩
  have h : OutS true F X.K Ew W O σ H D (M.bind md (fun d ρ => if F.all fun j => isOwn (ρ.getD j .un) then some (.ok (.rt d) ρ) else none) ρ) := h
  unfold M.bind at h
  generalize md ρ = r at h
  match r, h with
  | some (.ok d ρ1), h =>
    simp only at h
    split at h
    case isFalse => exact h.elim
    rename_i hF
    intro H1 k1 R1 a R2 n o
    refine h _ _ σ H1 (fresh_step R k1 R1 n) R2 Fx.refl (.ref a) ?_
    show RetRel true _ _ _ _ _ _ _ _
    exact ⟨a, rfl, .inr rfl, o, fun j hj z => by
      obtain ⟨d', ed⟩ := own_of (List.all_eq_true.mp hF j hj)
      obtain ⟨a', e1, oa, _⟩ := R1.own ed
      rw [z] at e1
      cases e1
      obtain ⟨o', e'⟩ := R.tr a (R.ow a oa)
      rw [n] at e'
      cases e'⟩
  | some (.ex e ρ'), h => exact fun c dx H' k' R x => h c dx W O σ H' (Step.of k' R) R Fx.refl x
theorem sRetO (i : Nat) {x : Str} {p : Pos} (hF : F.contains i = false) (hN : X.N[i]? = some x := by rfl) (hv : Vis X.env.scope x := by first | exact Or.inl rfl | exact Or.inr (Or.inl rfl) | exact Or.inr (Or.inr rfl)) (hd : (x == ("__debug__" : Str)) = false := by decide)
    (hcd : (x == ("__classdict__" : Str)) = false := by decide) : PS X (.Return (some (.Name x p)) pos) (tS true F X.K Ew (mRetOw F i)) := by
  refine PS.imp (ps_ret (pe_var hN hv hd hcd)) fun D σ H ⟨W, O, ρ, R, h⟩ => ?_
  unfold mRetOw at h
  split at h
  · rename_i d ed
    split at h
    case isFalse => exact h.elim
    rename_i hA
    obtain ⟨a, e1, oa, ob⟩ := R.own ed
    refine ⟨.ref a, e1, ?_⟩
    refine h.here R (.ref a) ?_
    show RetRel true _ _ _ _ _ _ _ _
    refine ⟨a, rfl, oa, ob, fun j hj z => ?_⟩
    obtain ⟨d', ed'⟩ := own_of (List.all_eq_true.mp hA j hj)
    refine R.ne j i a _ _ (fun q => ?_) ed' ed z e1
    rw [q] at hj
    simp [List.contains_iff_mem, hj] at hF
  · exact h.elim
/-- from here on a tree -/
theorem rel_ok {K : PySem.W.Frag} {W O : Addr → Prop} {H : Hp} {σ : L2.St} {ρ ρ' : List Slot} {i : Nat} (R : SRel K W O H σ ρ) (h : mRel i ρ = some (.ok .nx ρ')) : ∃ W' O', Step W O H W' O' H ∧ SRel K W' O' H σ ρ' := by
  unfold mRel at h
  split at h
  · rename_i d ed
    cases h
    obtain ⟨a, e1, oa, ob⟩ := R.own ed
    refine ⟨fun b => W b ∧ b ≠ a, fun b => O b ∧ b ≠ a, ⟨KeepO.refl, fun _ o e => ⟨o, e⟩, fun b z => .inl z.1, fun b o e w n => ⟨w, fun z => n (by rw [z]; exact oa)⟩, fun b z => .inl z.1⟩, ?_⟩
    have R' := R.less (W := fun b => W b ∧ b ≠ a) (O := fun b => O b) (fun b z => z.1)
    have own : ∀ (j : Nat) (e : PyData), (ρ.set i (.dat d))[j]? = some (.own e) → j ≠ i ∧ ρ[j]? = some (.own e) := fun j e h => by
      by_cases q : j = i
      · subst q
        rw [List.getElem?_set] at h
        simp at h
      · rw [List.getElem?_set_ne (Ne.symm q)] at h
        exact ⟨q, h⟩
    refine ⟨by rw [List.length_set, R.len], fun b z => ⟨R.ow b z.1, z.2⟩, fun b z => R.tr b z.1, fun j x s h1 h2 => ?_, fun j k b d1 d2 n q1 q2 f1 f2 => R.ne j k b d1 d2 n (own j d1 q1).2 (own k d2 q2).2 f1 f2⟩
    by_cases q : j = i
    · subst q
      rw [List.getElem?_set] at h2
      simp only [if_true] at h2
      split at h2
      · cases h2
        rw [e1] at h1
        cases h1
        exact ⟨_, rfl, (ob.less fun b z => z.1).rx fun z => z.2 rfl⟩
      · cases h2
    · rw [List.getElem?_set_ne (Ne.symm q)] at h2
      have r := R.sl j x s h1 h2
      cases s with
      | un => trivial
      | dat e => obtain ⟨v, ev, hv⟩ := r; exact ⟨v, ev, hv.less fun b z => z.1⟩
      | own e =>
        obtain ⟨b, ev, ob', hv⟩ := r
        refine ⟨b, ev, ⟨ob', fun z => ?_⟩, hv.less fun b z => z.1⟩
        subst ev
        subst z
        exact R.ne j i b _ _ q h2 ed h1 e1
  · cases h
    exact ⟨W, O, Step.refl, R⟩
theorem rel_nx (i : Nat) (ρ : List Slot) : ∃ ρ', mRel i ρ = some (.ok .nx ρ') := by
  unfold mRel
  split
  · exact ⟨_, rfl⟩
  · exact ⟨_, rfl⟩
theorem t_rel {fr : Bool} {K : PySem.W.Frag} {i : Nat} {D : Ends} {σ : L2.St} {H : Hp} (h : tS fr F K Ew (mSq (mRel i) ma) D σ H) : tS fr F K Ew ma D σ H := by
  obtain ⟨W, O, ρ, R, h⟩ := h
  have h : OutS fr F K Ew W O σ H D (M.bind (mRel i) _ ρ) := h
  obtain ⟨ρ', e⟩ := rel_nx i ρ
  unfold M.bind at h
  rw [e] at h
  obtain ⟨W', O', s, R'⟩ := rel_ok R e
  exact ⟨W', O', ρ', R', OutS.shift h s Fx.refl⟩
theorem sRel (i : Nat) (h : PS X st (tS fr F X.K Ew ma)) : PS X st (tS fr F X.K Ew (mSq (mRel i) ma)) := PS.imp h fun _ _ _ z => t_rel z
theorem sRels (i : Nat) (h : PSs X sts (tS fr F X.K Ew ma)) : PSs X sts (tS fr F X.K Ew (mSq (mRel i) ma)) := PSs.imp h fun _ _ _ z => t_rel z
end
end CF
end
section
/-! CF, part i: assignments, branches, loops. -/
namespace CF
open PySem PySem.Spec PyProof.Rows L2

section
variable {K : PySem.W.Frag} {W O : Addr → Prop} {H H' : Hp} {σ : L2.St} {ρ : List Slot}
theorem own_set {ρ : List Slot} {i : Nat} {s : Slot} (n : isOwn s = false) {j : Nat} {e : D} (h : (ρ.set i s)[j]? = some (.own e)) : j ≠ i ∧ ρ[j]? = some (.own e) := by
  by_cases q : j = i
  · subst q
    rw [List.getElem?_set] at h
    simp only [if_true] at h
    split at h
    · cases h; cases n
    · cases h
  · rw [List.getElem?_set_ne (Ne.symm q)] at h
    exact ⟨q, h⟩
/-- an own object, new to all slots, is put in one -/
theorem SRel.setO (R : SRel K W O H σ ρ) (i : Nat) {a : Addr} {d : D} (o : O a) (h : OwnAt K W H a d) (nw : ∀ (j : Nat) (e : D), ρ[j]? = some (.own e) → σ[j]? ≠ some (some (.ref a))) : SRel K W O H (σ.set i (some (.ref a))) (ρ.set i (.own d)) := by
  have cs : ∀ (j : Nat) (b : Addr) (e : D), (ρ.set i (.own d))[j]? = some (.own e) → (σ.set i (some (.ref a)))[j]? = some (some (.ref b)) → (j = i ∧ b = a) ∨ (j ≠ i ∧ ρ[j]? = some (.own e) ∧ σ[j]? = some (some (.ref b))) := fun j b e h1 h2 => by
    by_cases q : j = i
    · subst q
      refine .inl ⟨rfl, ?_⟩
      rw [List.getElem?_set] at h2
      simp only [if_true] at h2
      split at h2
      · cases h2; rfl
      · cases h2
    · rw [List.getElem?_set_ne (Ne.symm q)] at h1 h2
      exact .inr ⟨q, h1, h2⟩
  refine ⟨by rw [List.length_set, List.length_set, R.len], R.ow, R.tr, fun j x s h1 h2 => ?_, fun j k b d1 d2 n e1 e2 f1 f2 => ?_⟩
  · by_cases q : j = i
    · subst q
      rw [List.getElem?_set] at h1 h2
      simp only [if_true] at h1 h2
      split at h1 <;> split at h2 <;> first | (cases h1; done) | (cases h2; done) | (cases h1; cases h2; exact ⟨a, rfl, o, h⟩)
    · rw [List.getElem?_set_ne (Ne.symm q)] at h1 h2
      exact R.sl j x s h1 h2
  · rcases cs j b d1 e1 f1 with ⟨q1, z1⟩ | ⟨q1, g1, g2⟩ <;> rcases cs k b d2 e2 f2 with ⟨q2, z2⟩ | ⟨q2, g3, g4⟩
    · exact n (q1.trans q2.symm)
    · subst z1
      exact nw k d2 g3 g4
    · subst z2
      exact nw j d1 g1 g2
    · exact R.ne j k b d1 d2 n g1 g3 g2 g4
/-- what stands in an own object is changed -/
theorem SRel.updO {a : Addr} {o : HO} {i : Nat} {d d' : D} (R : SRel K W O H σ ρ) (h : ρ[i]? = some (.own d)) (e : σ[i]? = some (some (.ref a))) (oa : O a) (n : OwnAt K W (upd H a o) a d') : SRel K W O (upd H a o) σ (ρ.set i (.own d')) := by
  have k : KeepO W O H (upd H a o) := keepW (R.ow a oa) oa
  refine ⟨by rw [List.length_set, R.len], R.ow, fun b wb => ?_, fun j x s h1 h2 => ?_, fun j k b d1 d2 n e1 e2 f1 f2 => ?_⟩
  · by_cases q : b = a
    · subst q; exact ⟨o, upd_same⟩
    · obtain ⟨ob, e⟩ := R.tr b wb
      exact ⟨ob, by rw [upd_ne q]; exact e⟩
  · by_cases q : j = i
    · subst q
      rw [List.getElem?_set] at h2
      simp only [if_true] at h2
      split at h2
      · cases h2
        rw [e] at h1
        cases h1
        exact ⟨a, rfl, oa, n⟩
      · cases h2
    · rw [List.getElem?_set_ne (Ne.symm q)] at h2
      have r := R.sl j x s h1 h2
      cases s with
      | un => trivial
      | dat dd => obtain ⟨v, e, hr⟩ := r; exact ⟨v, e, hr.keepO R k⟩
      | own dd =>
        obtain ⟨b, eb, ob, hr⟩ := r
        subst eb
        refine ⟨b, rfl, ob, hr.go (fun a u e n => k.rest a u e n) (fun _ _ _ z => z) fun oo eo => ?_⟩
        rw [upd_ne (fun z => ?_)]
        · exact eo
        · subst z
          exact R.ne j i b _ _ q h2 h h1 e
  · have own : ∀ (j : Nat) (b : Addr) (e : D), (ρ.set i (.own d'))[j]? = some (.own e) → ∃ e', ρ[j]? = some (.own e') := fun j b e h1 => by
      by_cases q : j = i
      · subst q; exact ⟨d, h⟩
      · rw [List.getElem?_set_ne (Ne.symm q)] at h1
        exact ⟨e, h1⟩
    obtain ⟨x1, y1⟩ := own j b d1 e1
    obtain ⟨x2, y2⟩ := own k b d2 e2
    exact R.ne j k b _ _ n y1 y2 f1 f2
end

section
variable {X : Cx} {fr : Bool} {F : List Nat} {Ew : WX} {e e2 c : Expr} {st : Stmt} {sts a b : List Stmt} {pos : Pos} {m ma mb : MS} {md me : M D} {mt : M Bool}
theorem t_set {i : Nat} {D : Ends} {σ : L2.St} {H : Hp} (hF : F.contains i = false) (h : tS fr F X.K Ew (mSet i md) D σ H) : tAsg (tD X.K Ew md) (gName i) D σ H := by
  obtain ⟨W, O, ρ, R, h⟩ := h
  exact ⟨W, O, ρ, R, (OutS.bind h).mono fun d ρ1 H1 k1 R1 h1 v rv => h1 W O _ H1 Step.refl (R1.set i rv) (Fx.set hF)⟩
theorem t_setO {i : Nat} {D : Ends} {σ : L2.St} {H : Hp} (hF : F.contains i = false) (h : tS fr F X.K Ew (mSetO i md) D σ H) : tAsg (tF X.K Ew md) (gName i) D σ H := by
  obtain ⟨W, O, ρ, R, h⟩ := h
  refine ⟨W, O, ρ, R, ?_⟩
  have h : OutS fr F X.K Ew W O σ H D (M.bind md (fun d ρ => some (.ok .nx (ρ.set i (.own d)))) ρ) := h
  unfold M.bind at h
  generalize md ρ = r at h
  match r, h with
  | some (.ok d ρ1), h =>
    intro H1 k1 R1 a R2 n o
    refine h _ _ _ H1 (fresh_step R k1 R1 n) (R2.setO i (.inr rfl) o fun j e' h1 h2 => ?_) (Fx.set hF)
    obtain ⟨a', e1, oa, _⟩ := R1.own h1
    rw [h2] at e1
    cases e1
    obtain ⟨o', e'⟩ := R.tr a (R.ow a oa)
    rw [n] at e'
    cases e'
  | some (.ex e ρ'), h => exact fun c dx H' k' R x => h c dx W O σ H' (Step.of k' R) R Fx.refl x
/-- x = e -/
theorem sSet (i : Nat) {x : Str} {p : Pos} (hF : F.contains i = false) (hN : X.N.Nodup) (he : PE X e (tD X.K Ew md)) (hi : X.N[i]? = some x := by rfl) (hx : Loc X.env.scope x := by first | exact Or.inl rfl | exact Or.inr rfl) (hs : swapsWith e (some (.Name x p)) pos.line X.env = pure false := by rfl)
    (hf : X.fn x = true ∨ X.env.scope.names.lookup x = some .local := by first | exact .inl rfl | exact .inr rfl) : PS X (.Assign [.Name x p] e pos) (tS fr F X.K Ew (mSet i md)) :=
  PS.imp (ps_set hN hi hx he hs hf) fun _ _ _ h => t_set hF h
/-- x = e, e an object of its own -/
theorem sSetO (i : Nat) {x : Str} {p : Pos} (hF : F.contains i = false) (hN : X.N.Nodup) (he : PE X e (tF X.K Ew md)) (hi : X.N[i]? = some x := by rfl) (hx : Loc X.env.scope x := by first | exact Or.inl rfl | exact Or.inr rfl) (hs : swapsWith e (some (.Name x p)) pos.line X.env = pure false := by rfl)
    (hf : X.fn x = true ∨ X.env.scope.names.lookup x = some .local := by first | exact .inl rfl | exact .inr rfl) : PS X (.Assign [.Name x p] e pos) (tS fr F X.K Ew (mSetO i md)) :=
  PS.imp (ps_set hN hi hx he hs hf) fun _ _ _ h => t_setO hF h
/-- a binding, and what is behind it -/
theorem OutS.bnd {fr : Bool} {F : List Nat} {K : PySem.W.Frag} {W O : Addr → Prop} {σ : L2.St} {H : Hp} {D : Ends} {bb : M Unit} {g : Unit → MS} {ρ : List Slot} (h : OutS fr F K Ew W O σ H D ((mB bb >>= g) ρ)) : ∃ ρ', bb ρ = some (.ok () ρ') ∧ OutS fr F K Ew W O σ H D (g () ρ') := by
  have h : OutS fr F K Ew W O σ H D (M.bind (mB bb) g ρ) := h
  unfold M.bind mB at h
  cases eb : bb ρ with
  | none => rw [eb] at h; exact h.elim
  | some r =>
    cases r with
    | ex _ _ => rw [eb] at h; exact h.elim
    | ok u ρ2 => rw [eb] at h; exact ⟨ρ2, rfl, h⟩
theorem bnd_step {K : PySem.W.Frag} {W O : Addr → Prop} {H H' : Hp} {σ' : L2.St} {ρ' : List Slot} (k' : KeepO W O H H') (R' : SRel K W O H' σ' ρ') : Step W O H W O H' := Step.of k' R'
theorem bnd_fx {is : List Nat} {σ σ' : L2.St} (hF : (is.all fun i => !F.contains i) = true) (o' : ∀ j, j ∉ is → σ'[j]? = σ[j]?) : Fx F σ σ' := fun i hi => o' i fun z => by
  have := List.all_eq_true.mp hF i z
  simp [List.contains_iff_mem, hi] at this
/-- a, b = e -/
theorem sSetB {is : List Nat} {bb : D → M Unit} {tg : Expr} (hF : (is.all fun i => !F.contains i) = true) (he : PE X e (tD X.K Ew md)) (hg : PG X tg (tB X.K is bb)) (hs : swapsWithSole [tg] e pos.line X.env = pure false := by rfl) (hw : swappedStores [tg] e X.env = pure none := by rfl)
    (h1 : (assignEach [tg] X.env).map (·.2) = [assign tg X.env] := by rfl) : PS X (.Assign [tg] e pos) (tS fr F X.K Ew (mSetB bb md)) := by
  refine PS.imp (ps_asg he hg hs hw h1) fun D σ H ⟨W, O, ρ, R, h⟩ => ⟨W, O, ρ, R, (OutS.bind h).mono fun d ρ1 H1 k1 R1 h1 v rv => ?_⟩
  obtain ⟨ρ2, eb, h2⟩ := OutS.bnd h1
  exact ⟨W, O, ρ1, d, ρ2, R1, rv, eb, fun σ' H' k' R' l' o' => h2 W O σ' H' (Step.of k' R') R' (bnd_fx hF o')⟩
/-- a, b = e1, e2: plain names -/
theorem sPar (i j : Nat) {x y : Str} {px py pt : Pos} {kt k2 pt2} (hF : (F.contains i || F.contains j) = false) (hc : X.calm = true) (hN : X.N.Nodup) (hij : i ≠ j) (ha : PE X e (tD X.K Ew md)) (hb : PE X e2 (tD X.K Ew me))
    (hi : X.N[i]? = some x := by rfl) (hj : X.N[j]? = some y := by rfl) (hx : X.env.scope.names.lookup x = some .local := by rfl) (hy : X.env.scope.names.lookup y = some .local := by rfl)
    (hw : swappedStores [.Tuple [.Name x px, .Name y py] kt pt] (.Tuple [e, e2] k2 pt2) X.env = pure (some [x, y]))
    (hs : swapsWithSole [.Tuple [.Name x px, .Name y py] kt pt] (.Tuple [e, e2] k2 pt2) pos.line X.env = pure false := by rfl)
    (s1 : starEach [e, e2] X.env = (false, eval e X.env) :: starEach [e2] X.env := by rfl) (s2 : starEach [e2] X.env = (false, eval e2 X.env) :: starEach [] X.env := by rfl) :
    PS X (.Assign [.Tuple [.Name x px, .Name y py] kt pt] (.Tuple [e, e2] k2 pt2) pos) (tS fr F X.K Ew (mPar i j md me)) := by
  rw [Bool.or_eq_false_iff] at hF
  refine PS.imp (ps_par (ta := tCons (tD X.K Ew md) (tCons (tD X.K Ew me) tNil)) hc hN hi hj hij hx hy (pa_cons ha (pa_cons hb pa_nil s2) s1) hw hs) fun D σ H ⟨W, O, ρ, R, h⟩ => ⟨W, O, ρ, R, (OutS.bind h).mono fun d ρ1 H1 k1 R1 h1 v rv =>
    ⟨W, O, ρ1, R1, (OutS.bind h1).mono fun d2 ρ2 H2 k2 R2 h2 v2 rv2 => ?_⟩⟩
  exact ⟨v, v2, rfl, h2 W O _ H2 Step.refl ((R2.set i (rv.keepO R1 k2)).set j rv2) ((Fx.set hF.1).trans (Fx.set hF.2))⟩
theorem sIf (hc : PT X c (tT X.K Ew mt)) (ha : PSs X a (tS fr F X.K Ew ma)) (hb : PSs X b (tS fr F X.K Ew mb)) : PS X (.If c a b pos) (tS fr F X.K Ew (mIfS mt ma mb)) :=
  PS.imp (ps_if hc ha hb) fun D σ H ⟨W, O, ρ, R, h⟩ => ⟨W, O, ρ, R, (OutS.bind h).mono fun x ρ1 H1 k1 R1 h1 => by
    cases x with
    | true => exact ⟨W, O, ρ1, R1, h1⟩
    | false => exact ⟨W, O, ρ1, R1, h1⟩⟩
/-- for .. in e -/
theorem sFor {is : List Nat} {bb : D → M Unit} {tg : Expr} {ms : M (List D)} (hF : (is.all fun i => !F.contains i) = true) (hp : PassesOwn (model X.prog X.w) X.A X.env X.xe) (hc : X.calm = true) (hi : PI X tg e (tI X.K Ew ms)) (hg : PG X tg (tB X.K is bb)) (hb : PSs X a (tS fr F X.K Ew ma))
    (hs : ∀ x, foldedSetIterable e X.env x = pure x := by intro _; rfl) : PS X (.For tg e a [] pos) (tS fr F X.K Ew (mFor ms bb ma)) := by
  refine PS.imp (ps_for hp hc hi hg hb hs) fun D σ H ⟨W, O, ρ, R, h⟩ => ⟨W, O, ρ, R, (OutS.bind h).mono fun ds ρ1 H1 k1 R1 h1 J hJ => ?_⟩
  refine ⟨fun i m σ' H' => m = ds.length - i ∧ i ≤ ds.length ∧ ∃ Wi Oi ρi, Step W O H1 Wi Oi H' ∧ Fx F σ σ' ∧ SRel X.K Wi Oi H' σ' ρi ∧ OutS fr F X.K Ew Wi Oi σ' H' D (forGo bb ma (ds.drop i) ρi), ⟨_, rfl, Nat.zero_le _, W, O, ρ1, Step.refl, Fx.refl, R1, h1⟩, ?_⟩
  rintro i m σ' H' ⟨rfl, hi', Wi, Oi, ρi, si, fi, Ri, hgo⟩
  by_cases hlt : i < ds.length
  · refine .inr ⟨hJ.go i H' si.keep hlt, fun σn Hn => ∃ Wi Oi ρi, Step W O H1 Wi Oi Hn ∧ Fx F σ σn ∧ SRel X.K Wi Oi Hn σn ρi ∧ OutS fr F X.K Ew Wi Oi σn Hn D (forGo bb ma (ds.drop (i + 1)) ρi),
      fun σn Hn z => ⟨ds.length - (i + 1), by omega, rfl, hlt, z⟩, fun x H2 y => ?_⟩
    have ed : ds[i]? = some ds[i] := List.getElem?_eq_getElem hlt
    rw [List.drop_eq_getElem_cons hlt] at hgo
    generalize ds[i] = d at ed hgo
    obtain ⟨sy, ry⟩ := hJ.yld i H' x H2 d si.keep ed y
    have rx := ry Wi si.wo Ri.tr
    have R2 := Ri.same sy
    have s2 : Step Wi Oi H' Wi Oi H2 := Step.of (KeepO.of sy) R2
    obtain ⟨ρb, eb, hgo⟩ := OutS.bnd (OutS.shift hgo s2 Fx.refl)
    refine ⟨Wi, Oi, ρi, d, ρb, R2, rx, eb, fun σ3 H3 k3 R3 l3 o3 => ?_⟩
    have s3 : Step Wi Oi H2 Wi Oi H3 := Step.of k3 R3
    have f3 := bnd_fx hF o3
    refine ⟨Wi, Oi, ρb, R3, OutS.seq (hgo.shift s3 f3) fun f ρ4 W4 O4 σ4 H4 s4 f4 R4 q => ?_⟩
    have st := ((si.trans s2).trans s3).trans s4
    cases f with
    | nx => exact ⟨W4, O4, ρ4, st, (fi.trans f3).trans f4, R4, q⟩
    | ct => exact ⟨W4, O4, ρ4, st, (fi.trans f3).trans f4, R4, q⟩
    | bk => exact q.here R4
    | rt r => exact q.here R4
  · have ei : i = ds.length := by omega
    subst ei
    rw [List.drop_length] at hgo
    exact .inl ⟨hJ.stop H' si.keep, hgo.here Ri⟩
end
end CF
end
section
/-! CF, part j: what changes an object of one's own. -/
namespace CF
open PySem PySem.Spec PyProof.Rows L2

def putL (es : List (D × D)) (k d : D) : List (D × D) := if (es.any fun p => keyEq p.1 k) = true then es.map (fun p => if keyEq p.1 k = true then (p.1, d) else p) else es ++ [(k, d)]
def putD : D → D → D → Option D
  | .list xs, .int k, d => (ixN xs.length k).map fun j => .list (xs.set j d)
  | .dict es, k, d => if isKey k && decide (es.length < sizeLine) then some (.dict (putL es k d)) else none
  | _, _, _ => none
section
variable {K : PySem.W.Frag} {W : Addr → Prop} {H : Hp}
theorem rxk_any : ∀ {kvs : List (Key × V)} {es : List (D × D)} (k : Key), RxK K W H kvs es → (es.any fun p => keyEq p.1 (keyD k)) = kvs.any fun p => decide (p.1 = k)
  | _, [], _, h => by cases h; rfl
  | _, (_, _) :: es, k, h => by
    cases h with
    | cons r t => rw [List.any_cons, List.any_cons, rxk_any k t, keyEq_iff]
theorem rxk_map : ∀ {kvs : List (Key × V)} {es : List (D × D)} {k : Key} {v : V} {d : D}, RxK K W H kvs es → Rx K W H v d → RxK K W H (kvs.map fun kv => if kv.1 = k then (kv.1, v) else kv) (es.map (fun p => if keyEq p.1 (keyD k) = true then (p.1, d) else p))
  | _, [], _, _, _, h, _ => by cases h; exact .nil
  | _, (_, _) :: es, k, v, d, h, r => by
    cases h with
    | @cons l w kvs _ _ r1 t =>
      rw [List.map_cons, List.map_cons, keyEq_iff]
      by_cases q : l = k
      · rw [decide_eq_true q, if_pos rfl, if_pos q]
        exact .cons r (rxk_map t r)
      · rw [decide_eq_false q, if_neg Bool.false_ne_true, if_neg q]
        exact .cons r1 (rxk_map t r)
theorem rxk_snoc : ∀ {kvs : List (Key × V)} {es : List (D × D)} {k : Key} {v : V} {d : D}, RxK K W H kvs es → Rx K W H v d → RxK K W H (kvs ++ [(k, v)]) (es ++ [(keyD k, d)])
  | _, [], _, _, _, h, r => by cases h; exact .cons r .nil
  | _, (_, _) :: es, k, v, d, h, r => by
    cases h with
    | cons r1 t => exact .cons r1 (rxk_snoc t r)
theorem RxK.put {kvs : List (Key × V)} {es : List (D × D)} {k : Key} {v : V} {d : D} (h : RxK K W H kvs es) (r : Rx K W H v d) : RxK K W H (putK kvs k v) (putL es (keyD k) d) := by
  unfold putK putL
  rw [rxk_any k h]
  split
  · exact rxk_map h r
  · exact rxk_snoc h r
theorem rxk_len : ∀ {kvs : List (Key × V)} {es : List (D × D)}, RxK K W H kvs es → kvs.length = es.length
  | _, [], h => by cases h; rfl
  | _, (_, _) :: es, h => by
    cases h with
    | cons r t => simp [rxk_len t]
theorem RxK.keepO {O : Addr → Prop} {H' : Hp} {kvs : List (Key × V)} {es : List (D × D)} (h : RxK K W H kvs es) (k : KeepO W O H H') : RxK K W H' kvs es :=
  RxK.go (fun a u e n => k.rest a u e n) (fun _ _ _ z => z) es kvs h
end
section
variable {X : Cx}
theorem set_D (hu : X.A.units + 1 < cLine) : PSet X (fun o i v H Q => rSetL o i v H Q ∨ ∃ a H4, o = .ref a ∧ DPut H a i v H4 ∧ Q H4) := by
  intro pins s σ H o i v ov iv u Q I ro ri rv h
  rcases h with h | ⟨a, H4, rfl, g, q⟩
  · exact set_list pins s σ H o i v ov iv u Q I ro ri rv h
  · obtain rfl : ov = Value.ref a := ro
    exact d_setItem hu I g ri rv fun s4 I4 => ⟨H4, I4, q⟩
/-- what stands in an own object -/
def ixO : D → D → Option D
  | .list xs, k => ixD (.list xs) k
  | .dict es, k => ixD (.dict es) k
  | _, _ => none
theorem get_D (hu : X.A.units + 1 < cLine) : PGet X (rD X.K ixO) := by
  intro pins s σ H o i ov iv Q I ro ri ⟨W, d, e, r, tr, hx, hy, hf, q⟩
  cases d with
  | list xs =>
    cases e with
    | int i =>
      obtain ⟨a, vs, rfl, sa, la⟩ := hx.list
      obtain ⟨w, hw, rw'⟩ := la.atI hf
      obtain rfl := hy.int
      obtain rfl : ov = Value.ref a := ro
      obtain ⟨t, rfl⟩ := ri
      obtain ⟨its, rr, pl, hz⟩ := I.list (.inl sa)
      obtain ⟨j, h1, h2, h3, h4, h5⟩ := atI_get hw
      obtain ⟨u, eu, ru⟩ := rr.get h2
      have hl := rr.length
      have hn := line63
      have fin : EP X pins σ Q u s := ⟨w, H, I, ru, q _ _ (Same.refl H) rw'⟩
      by_cases h0 : 0 ≤ i
      · have hj : i.toNat = j := by
          rw [seqIndex_of h0 h5] at h1
          exact Option.some.inj h1
        exact wpAny_getItem_list pl.isList h0 (by omega) (by rw [hj]; simpa using eu) fin
      · have hj : (i + (its.toArray.size : Int)).toNat = j := by
          rw [seqIndex_neg (by omega) h4] at h1
          rw [List.size_toArray, ← hl]
          exact Option.some.inj h1
        exact wpAny_getItem_list_neg pl.isList (by omega) (by rw [List.size_toArray] <;> omega) (by omega) (by rw [hj]; simpa using eu) fin
    | _ => cases hf
  | dict es =>
    simp only [ixO, ixD] at hf
    split at hf
    · rename_i hk
      obtain ⟨k, rfl⟩ := isKey_of hk
      obtain ⟨a, kvs, rfl, sa, la⟩ := hx.dict
      obtain ⟨w, hw, rw'⟩ := look_val la hf
      have ey : i = kV k := Rx.key hy
      have g : DGet H a i (some w) := .inl ⟨kvs, k, sa, ey, hw.symm⟩
      obtain rfl : ov = Value.ref a := ro
      exact d_getItem hu I g ri fun w' s3 I3 rw2 => ⟨w, H, I3, rw2, q _ _ (Same.refl H) rw'⟩
    · cases hf
  | _ => cases hf
end
/-- op=, on numbers -/
structure IpR (X : Cx) (op : Operator) (f : D → D → Option D) : Prop where
  ip : PIp X op (fun x y H Q => ∃ i j k, x = .int i ∧ y = .int j ∧ f (.int i) (.int j) = some (.int k) ∧ Q (.int k) H)
  onI : ∀ d e r, f d e = some r → ∃ i j k, d = .int i ∧ e = .int j ∧ r = .int k
def addI : D → D → Option D
  | .int i, .int j => some (.int (i + j))
  | _, _ => none
section
variable {X : Cx}
theorem ipAdd : IpR X .Add addI := by
  refine ⟨fun pins s σ H x y v u Q I r1 r2 ⟨i, j, k, e1, e2, hf, q⟩ => ?_, fun d e r h => ?_⟩
  · cases hf
    exact ip_add pins s σ H x y v u Q I r1 r2 ⟨i, j, e1, e2, q⟩
  · unfold addI at h
    split at h
    · cases h; exact ⟨_, _, _, rfl, rfl, rfl⟩
    · cases h
theorem ipSub : IpR X .Sub subD := by
  refine ⟨fun pins s σ H x y v u Q I r1 r2 ⟨i, j, k, e1, e2, hf, q⟩ => ?_, fun d e r h => ?_⟩
  · cases hf
    exact ip_sub pins s σ H x y v u Q I r1 r2 ⟨i, j, e1, e2, q⟩
  · unfold subD at h
    split at h
    · cases h; exact ⟨_, _, _, rfl, rfl, rfl⟩
    · cases h
theorem ipMul : IpR X .Mult mulI := by
  refine ⟨fun pins s σ H x y v u Q I r1 r2 ⟨i, j, k, e1, e2, hf, q⟩ => ?_, fun d e r h => ?_⟩
  · subst e1; subst e2
    obtain ⟨t, rfl⟩ := r1
    obtain ⟨t', rfl⟩ := r2
    simp only [mulI] at hf
    split at hf
    · rename_i hz
      cases hf
      have hc : CMul i j := by
        rw [Bool.or_eq_true] at hz
        exact hz.imp of_decide_eq_true of_decide_eq_true
      exact imul_int ⟨.int _, H, I.tok _, ⟨_, rfl⟩, q⟩ hc.ok
    · cases hf
  · unfold mulI at h
    split at h
    · split at h
      · cases h; exact ⟨_, _, _, rfl, rfl, rfl⟩
      · cases h
    · cases h
end

/-! ### the mirror -/
def mOwn (i : Nat) : M Unit := fun ρ => match ρ[i]? with
  | some (.own _) => some (.ok () ρ)
  | _ => none
def mGetI (i : Nat) (k : D) : M D := fun ρ => match ρ[i]? with
  | some (.own c) => (ixO c k).map fun d => .ok d ρ
  | _ => none
def mPutI (i : Nat) (k d : D) : MS := fun ρ => match ρ[i]? with
  | some (.own c) => (putD c k d).map fun c' => .ok .nx (ρ.set i (.own c'))
  | _ => none
/-- x[k] = e -/
def mSub (i : Nat) (mk mv : M D) : MS := do
  let d ← mv
  mOwn i
  let k ← mk
  mPutI i k d
/-- x[k] op= e -/
def mAugS (i : Nat) (f : D → D → Option D) (mk me : M D) : MS := do
  mOwn i
  let k ← mk
  let x ← mGetI i k
  let y ← me
  let z ← CF.lift (f x y)
  mPutI i k z
/-- x op= e -/
def mAug (i : Nat) (f : D → D → Option D) (me : M D) : MS := do
  let x ← mVar i
  let y ← me
  let z ← CF.lift (f x y)
  fun ρ => some (.ok .nx (ρ.set i (.dat z)))
section
variable {fr : Bool} {F : List Nat} {K : PySem.W.Frag} {Ew : WX} {W O : Addr → Prop} {σ : L2.St} {H : Hp} {D : Ends} {ρ ρ' : List Slot} {i : Nat} {α : Type}
theorem OutS.own {g : Unit → MS} (h : OutS fr F K Ew W O σ H D ((mOwn i >>= g) ρ)) (R : SRel K W O H σ ρ) : (∃ a, σ[i]? = some (some (.ref a)) ∧ O a) ∧ OutS fr F K Ew W O σ H D (g () ρ) := by
  have h : OutS fr F K Ew W O σ H D (M.bind (mOwn i) g ρ) := h
  unfold M.bind mOwn at h
  cases e : ρ[i]? with
  | none => simp only [e] at h; exact h.elim
  | some s =>
    cases s with
    | un => simp only [e] at h; exact h.elim
    | dat d => simp only [e] at h; exact h.elim
    | own d =>
      simp only [e] at h
      obtain ⟨a, e1, oa, _⟩ := R.own e
      exact ⟨⟨a, e1, oa⟩, h⟩
theorem OutS.opt {o : Option α} {g : α → MS} (h : OutS fr F K Ew W O σ H D ((CF.lift o >>= g) ρ)) : ∃ a, o = some a ∧ OutS fr F K Ew W O σ H D (g a ρ) := by
  have h : OutS fr F K Ew W O σ H D (M.bind (CF.lift o) g ρ) := h
  unfold M.bind CF.lift at h
  cases o with
  | none => exact h.elim
  | some a => exact ⟨a, rfl, h⟩
theorem OutS.getI {k : PyData} {g : PyData → MS} (h : OutS fr F K Ew W O σ H D ((mGetI i k >>= g) ρ)) (R : SRel K W O H σ ρ) : ∃ c x, ρ[i]? = some (.own c) ∧ ixO c k = some x ∧ OutS fr F K Ew W O σ H D (g x ρ) := by
  have h : OutS fr F K Ew W O σ H D (M.bind (mGetI i k) g ρ) := h
  unfold M.bind mGetI at h
  cases e : ρ[i]? with
  | none => simp only [e] at h; exact h.elim
  | some s =>
    cases s with
    | un => simp only [e] at h; exact h.elim
    | dat d => simp only [e] at h; exact h.elim
    | own c =>
      simp only [e] at h
      cases q : ixO c k with
      | none => rw [q] at h; exact h.elim
      | some x => rw [q] at h; exact ⟨c, x, rfl, q, h⟩
theorem upd_keep {a : Addr} {o : HO} (R : SRel K W O H σ ρ) (oa : O a) : KeepO W O H (upd H a o) := keepW (R.ow a oa) oa
theorem put_ok {a : Addr} {y v : V} {k d : PyData} (h : OutS fr F K Ew W O σ H D (mPutI i k d ρ)) (R : SRel K W O H σ ρ) (ea : σ[i]? = some (some (.ref a))) (ry : Rx K W H y k) (rv : Rx K W H v d) :
    rSetL (.ref a) y v H (D.nx σ) ∨ ∃ a' H4, V.ref a = .ref a' ∧ DPut H a' y v H4 ∧ D.nx σ H4 := by
  unfold mPutI at h
  cases e : ρ[i]? with
  | none => simp only [e] at h; exact h.elim
  | some s =>
    cases s with
    | un => simp only [e] at h; exact h.elim
    | dat d => simp only [e] at h; exact h.elim
    | own c =>
      simp only [e] at h
      cases q : putD c k d with
      | none => rw [q] at h; exact h.elim
      | some c' =>
        rw [q] at h
        obtain ⟨a', e1, oa, ob⟩ := R.own e
        rw [ea] at e1
        cases e1
        cases c with
        | list xs =>
          cases k with
          | int k =>
            simp only [putD, Option.map_eq_some_iff] at q
            obtain ⟨j, hj, rfl⟩ := q
            obtain ⟨vs, eh, l⟩ := ob
            cases ry
            refine .inl ⟨a, vs, k, j, rfl, rfl, eh, by rw [l.length]; exact hj, ?_⟩
            have k1 : KeepO W O H (upd H a (.lst (vs.set j v))) := upd_keep R oa
            have R1 := R.updO (d' := .list (xs.set j d)) e ea oa (n := ⟨_, upd_same, RxL.keepO (l.set j rv) R k1⟩)
            exact h _ _ _ _ (Step.of k1 R1) R1 Fx.refl
          | _ => cases q
        | dict es =>
          simp only [putD] at q
          split at q
          · rename_i hz
            cases q
            rw [Bool.and_eq_true] at hz
            obtain ⟨kk, rfl⟩ := isKey_of hz.1
            obtain ⟨kvs, eh, l⟩ := ob
            have ey : y = kV kk := Rx.key (.inl ry)
            have k1 : KeepO W O H (upd H a (.dK (putK kvs kk v))) := upd_keep R oa
            have R1 := R.updO (d' := .dict (putL es (keyD kk) d)) e ea oa (n := ⟨_, upd_same, RxK.keepO (l.put rv) k1⟩)
            exact .inr ⟨a, _, rfl, .inl ⟨kvs, kk, eh, ey, by rw [rxk_len l]; exact of_decide_eq_true hz.2, rfl⟩, h _ _ _ _ (Step.of k1 R1) R1 Fx.refl⟩
          · cases q
        | _ => exact ob.elim
end
section
variable {X : Cx} {fr : Bool} {F : List Nat} {Ew : WX} {e k : Expr} {pos : Pos} {md mk : M D}
theorem sSub (i : Nat) {x : Str} {p tpos : Pos} (hu : X.A.units + 1 < cLine) (hk : PE X k (tD X.K Ew mk)) (he : PE X e (tD X.K Ew md)) (hi : X.N[i]? = some x := by rfl) (hv : Vis X.env.scope x := by first | exact Or.inl rfl | exact Or.inr (Or.inl rfl) | exact Or.inr (Or.inr rfl))
    (hd : (x == ("__debug__" : Str)) = false := by decide) (hcd : (x == ("__classdict__" : Str)) = false := by decide)
    (ha : ∀ v, assign (.Subscript (.Name x p) k tpos) X.env v = (do
      let ov ← holding [v] (eval (.Name x p) X.env)
      let iv ← holding [v, ov] (eval k X.env)
      standAt tpos
      holding [v, ov, iv] (setItem ov iv v)
      release [v, ov, iv] []) := by intro _; rfl)
    (hs : swapsWithSole [.Subscript (.Name x p) k tpos] e pos.line X.env = pure false := by rfl) (hw : swappedStores [.Subscript (.Name x p) k tpos] e X.env = pure none := by rfl)
    (h1 : (assignEach [.Subscript (.Name x p) k tpos] X.env).map (·.2) = [assign (.Subscript (.Name x p) k tpos) X.env] := by rfl) :
    PS X (.Assign [.Subscript (.Name x p) k tpos] e pos) (tS fr F X.K Ew (mSub i mk md)) := by
  refine PS.imp (ps_asg he (pg_sub (pe_var hi hv hd hcd) hk (set_D hu) ha) hs hw h1) fun D σ H ⟨W, O, ρ, R, h⟩ => ⟨W, O, ρ, R, (OutS.bind h).mono fun d ρ1 H1 k1 R1 h1 v rv => ?_⟩
  obtain ⟨⟨a, ea, oa⟩, h2⟩ := OutS.own h1 R1
  refine ⟨.ref a, ea, W, O, ρ1, R1, (OutS.bind h2).mono fun kd ρ2 H2 k2 R2 h3 y ry => ?_⟩
  exact put_ok h3 R2 ea ry (rv.keepO R1 k2)
theorem sAugS (i : Nat) {x : Str} {p tpos : Pos} {op : Operator} {f : D → D → Option D} (hu : X.A.units + 1 < cLine) (ho : IpR X op f) (hk : PE X k (tD X.K Ew mk)) (he : PE X e (tD X.K Ew md)) (hi : X.N[i]? = some x := by rfl) (hv : Vis X.env.scope x := by first | exact Or.inl rfl | exact Or.inr (Or.inl rfl) | exact Or.inr (Or.inr rfl))
    (hd : (x == ("__debug__" : Str)) = false := by decide) (hcd : (x == ("__classdict__" : Str)) = false := by decide)
    (ha : ∀ ov iv new, augStore k ov iv new = (do holding [new, ov, iv] (setItem ov iv new); release [new, ov, iv] []; pure .next) := by intros; rfl) :
    PS X (.AugAssign (.Subscript (.Name x p) k tpos) op e pos) (tS fr F X.K Ew (mAugS i f mk md)) := by
  refine PS.imp (ps_augS (pe_var hi hv hd hcd) hk (get_D hu) he ho.ip (set_D hu) ha) fun D σ H ⟨W, O, ρ, R, h⟩ => ?_
  obtain ⟨⟨a, ea, oa⟩, h2⟩ := OutS.own h R
  refine ⟨.ref a, ea, W, O, ρ, R, (OutS.bind h2).mono fun kd ρ1 H1 k1 R1 h3 y ry => ?_⟩
  obtain ⟨c, xd, ec, hx, h4⟩ := OutS.getI h3 R1
  refine ⟨W, c, kd, xd, R1.tr, R1.look ea (.inr ec), .inl ry, hx, fun xv Hx sx rx => ?_⟩
  have Rx1 := R1.same sx
  have st : Step W O H1 W O Hx := Step.of (KeepO.of sx) Rx1
  refine ⟨W, O, ρ1, Rx1, (OutS.bind (h4.shift st Fx.refl)).mono fun yd ρ2 H2 k2 R2 h5 yv ryv => ?_⟩
  obtain ⟨z, hz, h6⟩ := OutS.opt h5
  obtain ⟨i1, j1, k1', rfl, rfl, rfl⟩ := ho.onI _ _ _ hz
  cases rx
  cases ryv
  exact ⟨i1, j1, k1', rfl, rfl, hz, put_ok h6 R2 ea ((ry.same sx).keepO Rx1 k2) (.int _)⟩
theorem sAug (i : Nat) {x : Str} {p : Pos} {op : Operator} {f : D → D → Option D} (hF : F.contains i = false) (hN : X.N.Nodup) (ho : IpR X op f) (he : PE X e (tD X.K Ew md)) (hi : X.N[i]? = some x := by rfl) (hx : Loc X.env.scope x := by first | exact Or.inl rfl | exact Or.inr rfl)
    (hf : X.fn x = true ∨ X.env.scope.names.lookup x = some .local := by first | exact .inl rfl | exact .inr rfl) : PS X (.AugAssign (.Name x p) op e pos) (tS fr F X.K Ew (mAug i f md)) := by
  refine PS.imp (ps_aug hN hi hx he ho.ip hf) fun D σ H ⟨W, O, ρ, R, h⟩ => ?_
  have h' : OutS fr F X.K Ew W O σ H D (M.bind (mVar i) _ ρ) := h
  unfold M.bind mVar at h'
  cases ec : ρ[i]? with
  | none => simp only [ec] at h'; exact h'.elim
  | some s =>
    cases s with
    | un => simp only [ec] at h'; exact h'.elim
    | own d => simp only [ec] at h'; exact h'.elim
    | dat d =>
      simp only [ec] at h'
      obtain ⟨v, ev, rv⟩ := R.dat ec
      refine ⟨v, ev, W, O, ρ, R, (OutS.bind h').mono fun yd ρ1 H1 k1 R1 h1 yv ry => ?_⟩
      obtain ⟨z, hz, h2⟩ := OutS.opt h1
      obtain ⟨i1, j1, k1', rfl, rfl, rfl⟩ := ho.onI _ _ _ hz
      cases rv
      cases ry
      exact ⟨i1, j1, k1', rfl, rfl, hz, h2 W O _ H1 Step.refl (R1.set i (.int _)) (Fx.set hF)⟩
end
end CF
end
section
namespace CF
open PySem PySem.AutoSeq1
set_option maxHeartbeats 4000000 in
theorem ext_tup (l : Addr) (items : Array Value) (n : Nat) (b : Addr) (items2 : Array Value) (n2 : Nat) (di : Option Addr) (sl : Array (Option Value)) (hs0 : ¬(!items.isEmpty && Builtin.List.listTooLong (items.size + items2.size)) = true) (hs1 : items.size ≤ sizeLine) (hs2 : items.size + items2.size ≤ sizeLine + 1) :
    Meets (Builtin.«list.extend» ⟨[.ref l, .ref b], []⟩) (fun _ R s => s.heap.get? l = some { cls := .type "list", dict := none, data := .seq items n, slots := #[] } ∧ s.heap.get? b = some { cls := .type "tuple", dict := di, data := .seq items2 n2, slots := sl } ∧ R (.ok (.ret Value.none)) { s with heap := s.heap.update l (Obj.mapSeq fun x => x ++ items2), toks := s.toks }) :=
  .of_wp fun prog w A R s h => by
    obtain ⟨hp, g, d, tk, os⟩ := s; obtain ⟨hl, hb, h⟩ := h; have f1 := idx_int; have f2 := sub_tuple_tuple; have f3 := sub_list_list; have f4 := sub_tuple_list; have f5 := sub_list_tuple;
    have hz' : (items ++ items2).size ≤ sizeLine + 1 := by rw [Array.size_append]; exact hs2
    wp_walk using (wpAny_updateSeq hl rfl (hz := hs1) (_hz' := hz')), wpAny_loadPart' hl, wpAny_loadPart' hb; exact ⟨_, rfl, h⟩
end CF
end
section
/-! CF, part k: methods that change a list of one's own. -/
namespace CF
open PySem PySem.Spec PyProof.Rows L2

/-- what a method gives, and the list behind it -/
abbrev MutF := List D → List D → Option (D × List D)
def rM (K : PySem.W.Frag) (g : MutF) : V → List V → Hp → VK → Prop := fun x vs H Q => ∃ (W : Addr → Prop) (l : Addr) (xs : List V) (ys ds : List D) (r : D) (zs : List D), x = .ref l ∧ H l = some (.lst xs) ∧ RxL K W H xs ys ∧ RxL K W H vs ds ∧ g ys ds = some (r, zs) ∧
  ∀ u us, Rx K W H u r → RxL K W H us zs → Q u (upd H l (.lst us))
def appG : MutF
  | xs, [d] => if xs.length < sizeLine then some (.none, xs ++ [d]) else none
  | _, _ => none
def insG : MutF
  | xs, [.int i, d] => if xs.length < sizeLine ∧ 0 ≤ i ∧ i < 2 ^ 63 then some (.none, xs.take i.toNat ++ [d] ++ xs.drop i.toNat) else none
  | _, _ => none
def extG : MutF
  | xs, [.list ys] => if xs.length + ys.length ≤ sizeLine then some (.none, xs ++ ys) else none
  | xs, [.tuple ys] => if xs.length + ys.length ≤ sizeLine then some (.none, xs ++ ys) else none
  | _, _ => none
def popG : MutF
  | xs, [] => xs.getLast?.map fun d => (d, xs.dropLast)
  | _, _ => none
section
variable {X : Cx} {K : PySem.W.Frag} {W : Addr → Prop} {H : Hp}
theorem RxL.n1 {vs : List V} {d : D} (h : RxL K W H vs [d]) : ∃ v, vs = [v] ∧ Rx K W H v d := by
  cases h with
  | cons r t => cases t; exact ⟨_, rfl, r⟩
theorem RxL.n2 {vs : List V} {d e : D} (h : RxL K W H vs [d, e]) : ∃ v w, vs = [v, w] ∧ Rx K W H v d ∧ Rx K W H w e := by
  cases h with
  | cons r t =>
    obtain ⟨w, rfl, q⟩ := t.n1
    exact ⟨_, _, rfl, r, q⟩
theorem mt_app : MtR X "list.append" (rM X.K appG) := by
  intro pins s σ H x vs v us Q I rx rv h
  obtain ⟨W, l, xs, ys, ds, r, zs, rfl, hl, h1, h2, hg, q⟩ := h
  unfold appG at hg
  split at hg
  · split at hg
    · rename_i d hz
      cases hg
      obtain ⟨w, rfl, rw'⟩ := h2.n1
      exact mt_append pins s σ H _ _ v us Q I rx rv ⟨l, xs, w, rfl, rfl, hl, by rw [h1.length]; exact hz, q _ _ .non (h1.append (RxL.one rw'))⟩
    · cases hg
  · cases hg
theorem mt_ins : MtR X "list.insert" (rM X.K insG) := by
  intro pins s σ H x vs v us Q I rx rv h
  obtain ⟨W, l, xs, ys, ds, r, zs, rfl, hl, h1, h2, hg, q⟩ := h
  unfold insG at hg
  split at hg
  · split at hg
    · rename_i i d hz
      cases hg
      obtain ⟨w, w2, rfl, r1, r2⟩ := h2.n2
      cases r1
      exact mt_insert pins s σ H _ _ v us Q I rx rv ⟨l, xs, i, w2, rfl, rfl, hl, by rw [h1.length]; exact hz.1, hz.2.1, hz.2.2, q _ _ .non (((RxL.take _ h1).append (RxL.one r2)).append (RxL.drop _ h1))⟩
    · cases hg
  · cases hg
theorem mt_ext : MtR X "list.extend" (rM X.K extG) := by
  intro pins s σ H x vs v us Q I rx rv h
  obtain ⟨W, l, xs, ys, ds, r, zs, rfl, hl, h1, h2, hg, q⟩ := h
  unfold extG at hg
  cases rx
  obtain ⟨z, its, n, rr, hn, e⟩ := I.lstM hl
  have key : ∀ (cs : List D), ys.length + cs.length ≤ sizeLine → ∀ (bs : List V) (its2 : List Value), RxL X.K W H bs cs → Vals bs its2 → (¬ (!its.toArray.isEmpty && Builtin.List.listTooLong (its.toArray.size + its2.toArray.size)) = true) ∧ its.toArray.size ≤ sizeLine ∧ its.toArray.size + its2.toArray.size ≤ sizeLine + 1 ∧ xs.length + bs.length ≤ sizeLine :=
    fun cs hz bs its2 l2 r2 => by
      have e1 := l2.length
      have e2 := r2.length
      have e3 := h1.length
      have hsz : its.toArray.size + its2.toArray.size ≤ sizeLine := by rw [List.size_toArray, List.size_toArray]; omega
      refine ⟨by rw [notLongL hsz, Bool.and_false]; exact Bool.false_ne_true, by rw [List.size_toArray]; omega, by omega, by omega⟩
  have fin : ∀ (cs : List D) (bs : List V) (its2 : List Value), zs = ys ++ cs → r = .none → xs.length + bs.length ≤ sizeLine → RxL X.K W H bs cs → Vals bs its2 →
      EP X pins σ Q .none { s with heap := s.heap.update l (Obj.mapSeq fun x => x ++ its2.toArray), toks := s.toks } := fun cs bs its2 ez er hz lb r2 => by
    subst ez
    subst er
    refine ⟨.non, _, I.lset (its' := its ++ its2) hl e (by simp) (rr.append r2) ?_, rfl, q _ _ .non (h1.append lb)⟩
    rw [List.length_append]
    exact hz
  split at hg
  · split at hg
    · rename_i cs hz
      cases hg
      obtain ⟨w, rfl, rw'⟩ := h2.n1
      obtain ⟨u, rfl, ru⟩ := rv.one
      cases rw' with
      | @lst b bs _ nb hb lb =>
        cases ru
        obtain ⟨its2, r2, ⟨o, n2, ho, hc, hs, hd⟩, hz2⟩ := I.list (.inl hb)
        obtain ⟨z2, its3, n3, r3, e3⟩ := hb.ok I.hok
        obtain ⟨c1, c2, c3, c4⟩ := key cs hz bs its3 lb r3
        exact call_meets F.slot_list_extend ⟨_, e, rfl⟩ F.entry_list_extend (F.args_list_extend_2 _ _) (AutoSeq1.list_extend_list_list_0 l its.toArray n b its3.toArray n3 c1 c2 c3) ⟨e, e3, fin cs bs its3 rfl rfl c4 lb r3⟩
    · cases hg
  · split at hg
    · rename_i cs hz
      cases hg
      obtain ⟨w, rfl, rw'⟩ := h2.n1
      obtain ⟨u, rfl, ru⟩ := rv.one
      obtain ⟨b, bs, rfl, sb, lb⟩ := rw'.tuple
      cases ru
      obtain ⟨its3, r3, ⟨o, ho, hc, n3, hd⟩, hz2⟩ := I.tuple sb
      obtain ⟨cc, di, da, sl⟩ := o
      cases hc
      cases hd
      obtain ⟨c1, c2, c3, c4⟩ := key cs hz bs its3 lb r3
      exact call_meets F.slot_list_extend ⟨_, e, rfl⟩ F.entry_list_extend (F.args_list_extend_2 _ _) (ext_tup l its.toArray n b its3.toArray n3 di sl c1 c2 c3) ⟨e, ho, fin cs bs its3 rfl rfl c4 lb r3⟩
    · cases hg
  · cases hg
end
/-- x.f(e, ..), x a list of one's own -/
def mOwnL (i : Nat) : M Unit := fun ρ => match ρ[i]? with
  | some (.own (.list _)) => some (.ok () ρ)
  | _ => none
def mMutGo (i : Nat) (g : MutF) (ds : List D) : M D := fun ρ => match ρ[i]? with
  | some (.own (.list xs)) => (g xs ds).map fun p => .ok p.1 (ρ.set i (.own (.list p.2)))
  | _ => none
def mMut (i : Nat) (g : MutF) (as : M (List D)) : M D := do
  mOwnL i
  let ds ← as
  mMutGo i g ds
section
variable {X : Cx} {Ew : WX} {e : Expr} {es : List Expr} {ma : M (List D)}
theorem t_mut {g : MutF} {i : Nat} {σ : L2.St} {H : Hp} {Q : VK} (h : tD X.K Ew (mMut i g ma) σ H Q) : tBM X.K "list" (rM X.K g) (L2.tVar i) (tDs X.K Ew ma) σ H Q := by
  obtain ⟨W, O, ρ, R, h⟩ := h
  have h' : Out X.K Ew W O σ H (fun d _ H' => ∀ v, Rx X.K W H' v d → Q v H') (M.bind (mOwnL i) (fun _ => ma >>= fun ds => mMutGo i g ds) ρ) := h
  unfold M.bind mOwnL at h'
  split at h'
  · rename_i hm
    split at hm
    · rename_i xs ec
      cases hm
      obtain ⟨a, ea, oa, vs, eh, l⟩ := R.own ec
      refine ⟨.ref a, ea, .inl ⟨rfl, vs, .inl (.inl eh)⟩, W, O, ρ, R, (Out.bind h').mono fun ds ρ1 H1 k1 R1 h1 us ru => ?_⟩
      unfold mMutGo at h1
      split at h1
      · rename_i ys ec1
        obtain ⟨a', ea', oa', ws, eh', l'⟩ := R1.own ec1
        rw [ea] at ea'
        cases ea'
        cases hg : g ys ds with
        | none => rw [hg] at h1; exact h1.elim
        | some p =>
          rw [hg] at h1
          obtain ⟨r, zs⟩ := p
          refine ⟨W, a, ws, ys, ds, r, zs, rfl, eh', l', ru, hg, fun u us' ru' lus => ?_⟩
          have k2 : KeepO W O H1 (upd H1 a (.lst us')) := upd_keep R1 oa
          have R2 := R1.updO (d' := .list zs) ec1 ea oa (n := ⟨_, upd_same, RxL.keepO lus R1 k2⟩)
          exact h1 _ k2 R2 u (ru'.keepO R1 k2)
      · exact h1.elim
    · cases hm
  · rename_i hm
    split at hm
    · cases hm
    · cases hm
  · exact h'.elim
theorem dMut (i : Nat) {x name : Str} {p apos cpos : Pos} {id : String} {g : MutF} (slot : PySem.Slot "list" name id) (hty : typeOf (.builtin id) = pure (.type "method_descriptor")) (hm : MtR X id (rM X.K g)) (ha : PA X (e :: es) (tDs X.K Ew ma))
    (hi : X.N[i]? = some x := by rfl) (hv : Vis X.env.scope x := by first | exact Or.inl rfl | exact Or.inr (Or.inl rfl) | exact Or.inr (Or.inr rfl))
    (hd : (x == ("__debug__" : Str)) = false := by decide) (hcd : (x == ("__classdict__" : Str)) = false := by decide)
    (hbase : attributeBase (.Name x p) name X.env (eval (.Name x p) X.env) = eval (.Name x p) X.env := by rfl)
    (hfew : ((backTo cpos (starEach (e :: es) X.env)).all (fun x => !x.1) && (backToKw cpos (keywordEach [] X.env)).all (fun x => x.1.isSome)
      && decide ((e :: es).length + ([] : List Keyword).length + (if ([] : List Keyword).isEmpty then 0 else 1) < 30)) = true := by rfl)
    (hline : (apos.endLine == cpos.line) = true := by rfl) (hs : starEach (e :: es) X.env = (false, eval e X.env) :: starEach es X.env := by rfl) (hplain : (backTo cpos (starEach es X.env)).any (·.1) = false := by rfl) :
    PE X (.Call (.Attribute (.Name x p) name apos) (e :: es) [] cpos) (tD X.K Ew (mMut i g ma)) :=
  PE.imp (pe_bm PySem.F.plainAttrs_list slot hty hm (pe_var hi hv hd hcd) ha hbase hfew hline hs hplain) fun _ _ _ h => t_mut h
end
end CF
end
section
/-! CF, part m: comprehensions as expressions, slices, sorted with a reverse, sorted(set(..)). -/
namespace CF
open PySem PySem.Spec PyProof.Rows L2

/-! ### comprehensions -/
def mYes : M Bool := pure true
section
variable {X : Cx} {Ew : WX} {e elt tg : Expr} {ifs : List Expr} {scope : Scope} {pos : Pos} {src : M (List D)} {b : D → M Unit} {t : M Bool} {me md : M D}
theorem tNil (K : PySem.W.Frag) : PTs X [] (tT K WF mYes) := ⟨fun pins s σ H Q I ⟨W, O, ρ, R, h⟩ => pts_nil.run pins s σ H Q I (h H KeepO.refl R)⟩
theorem fLC {vs is : List Nat} {own : List (Str × Nat)} (hc : X.calm = true) (hN : X.N.Nodup) (hs : (is.all fun i => vs.contains i) = true) (ho : own.map (·.2) = vs) (hi : PI X tg e (tI X.K Ew src)) (ok : BlkOk X.N X.env.scope scope own)
    (hg : ∀ (s : Shared) (H : Hp) (C : Addr) (cl : List (Str × Addr)) (fp : List Addr), PG (X.blk s H scope (compEnvC scope cl C X.env) fp) tg (tB X.K is b)) (ht : ∀ (s : Shared) (H : Hp) (C : Addr) (cl : List (Str × Addr)) (fp : List Addr), PTs (X.blk s H scope (compEnvC scope cl C X.env) fp) ifs (tT X.K WF t))
    (he : ∀ (s : Shared) (H : Hp) (C : Addr) (cl : List (Str × Addr)) (fp : List Addr), PE (X.blk s H scope (compEnvC scope cl C X.env) fp) elt (tD X.K WF me)) (hf : ∀ x, foldedSetIterable e X.env x = pure x := by intro _; rfl) :
    PE X (.ListComp elt [⟨tg, e, ifs, 0⟩] scope pos) (tF X.K Ew (mLC vs src b t me)) := by
  subst ho
  exact PE.imp (pe_lc hc hN hi ok hg ht he hf) fun _ _ _ h => t_lc hs h
/-- x = [..] on one line -/
theorem sSetLc (i : Nat) {fr : Bool} {F : List Nat} {x : Str} {py spos : Pos} {vs is : List Nat} {own : List (Str × Nat)} (hF : F.contains i = false) (hc : X.calm = true) (hN : X.N.Nodup) (hs : (is.all fun i => vs.contains i) = true) (ho : own.map (·.2) = vs) (hi : PI X tg e (tI X.K Ew src)) (ok : BlkOk X.N X.env.scope scope own)
    (hg : ∀ (s : Shared) (H : Hp) (C : Addr) (cl : List (Str × Addr)) (fp : List Addr), PG (X.blk s H scope (compEnvC scope cl C X.env) fp) tg (tB X.K is b)) (ht : ∀ (s : Shared) (H : Hp) (C : Addr) (cl : List (Str × Addr)) (fp : List Addr), PTs (X.blk s H scope (compEnvC scope cl C X.env) fp) ifs (tT X.K WF t))
    (he : ∀ (s : Shared) (H : Hp) (C : Addr) (cl : List (Str × Addr)) (fp : List Addr), PE (X.blk s H scope (compEnvC scope cl C X.env) fp) elt (tD X.K WF me)) (hy : X.N[i]? = some x := by rfl) (hyl : X.env.scope.names.lookup x = some .local := by rfl)
    (hk : X.env.scope.kind = .function := by rfl) (hl : (py.line == pos.line) = true := by rfl) (ha : (scope.names.any fun (n, k) => n == x && (k == .local || k == .cell)) = false := by rfl)
    (hf : ∀ x, foldedSetIterable e X.env x = pure x := by intro _; rfl) : PS X (.Assign [.Name x py] (.ListComp elt [⟨tg, e, ifs, 0⟩] scope pos) spos) (tS fr F X.K Ew (mSet i (mLC vs src b t me))) := by
  subst ho
  refine PS.imp (ps_setLc hc hN hy hyl (sw_true hk hyl hl ha) hi ok hg ht he hf) fun D σ H h => t_lc hs ?_
  obtain ⟨W, O, ρ, R, h⟩ := t_set hF h
  refine ⟨W, O, ρ, R, h.mono fun d ρ' H' k R' q a R2 n o => q (.ref a) ((o.less fun _ z => .inl z).rx fun z => ?_)⟩
  obtain ⟨o', e'⟩ := R.tr a z
  rw [n] at e'
  cases e'
theorem sSetOLc (i : Nat) {fr : Bool} {F : List Nat} {x : Str} {py spos : Pos} {vs is : List Nat} {own : List (Str × Nat)} (hF : F.contains i = false) (hc : X.calm = true) (hN : X.N.Nodup) (hs : (is.all fun i => vs.contains i) = true) (ho : own.map (·.2) = vs) (hi : PI X tg e (tI X.K Ew src)) (ok : BlkOk X.N X.env.scope scope own)
    (hg : ∀ (s : Shared) (H : Hp) (C : Addr) (cl : List (Str × Addr)) (fp : List Addr), PG (X.blk s H scope (compEnvC scope cl C X.env) fp) tg (tB X.K is b)) (ht : ∀ (s : Shared) (H : Hp) (C : Addr) (cl : List (Str × Addr)) (fp : List Addr), PTs (X.blk s H scope (compEnvC scope cl C X.env) fp) ifs (tT X.K WF t))
    (he : ∀ (s : Shared) (H : Hp) (C : Addr) (cl : List (Str × Addr)) (fp : List Addr), PE (X.blk s H scope (compEnvC scope cl C X.env) fp) elt (tD X.K WF me)) (hy : X.N[i]? = some x := by rfl) (hyl : X.env.scope.names.lookup x = some .local := by rfl)
    (hk : X.env.scope.kind = .function := by rfl) (hl : (py.line == pos.line) = true := by rfl) (ha : (scope.names.any fun (n, k) => n == x && (k == .local || k == .cell)) = false := by rfl)
    (hf : ∀ x, foldedSetIterable e X.env x = pure x := by intro _; rfl) : PS X (.Assign [.Name x py] (.ListComp elt [⟨tg, e, ifs, 0⟩] scope pos) spos) (tS fr F X.K Ew (mSetO i (mLC vs src b t me))) := by
  subst ho
  exact PS.imp (ps_setLc hc hN hy hyl (sw_true hk hyl hl ha) hi ok hg ht he hf) fun D σ H h => t_lc hs (t_setO hF h)
end

/-! ### slices -/
def noneP : M (Option Int) := pure none
def someP (m : M D) : M (Option Int) := do
  let d ← m
  lift (match d with
    | .int i => some (some i)
    | _ => none)
def mSl (f : D → Option Int → Option Int → Option D) (ma : M LV) (lo hi : M (Option Int)) : M D := do
  let x ← ma
  let l ← lo
  let h ← hi
  let d ← x.get
  lift (f d l h)
def tP (K : PySem.W.Frag) (Ew : WX) (m : M (Option Int)) : TO := fun σ H Q => ∃ W O ρ, SRel K W O H σ ρ ∧ Out K Ew W O σ H (fun i _ H' => Q i H') (m ρ)
section
variable {X : Cx} {Ew : WX} {e : Expr} {ma : M LV} {md : M D} {lo hi : Option Expr} {ml mh : M (Option Int)} {pos p2 : Pos}
theorem PO.imp {e : Option Expr} {t t' : TO} (h : PO X e t) (i : ∀ σ H Q, t' σ H Q → t σ H Q) : PO X e t' := ⟨fun pins s σ H Q I hw => h.run pins s σ H Q I (i σ H Q hw)⟩
theorem pNone : PO X none (tP X.K Ew noneP) := PO.imp po_none fun σ H Q ⟨W, O, ρ, R, h⟩ => h H KeepO.refl R
theorem pSome (h : PE X e (tD X.K Ew md)) : PO X (some e) (tP X.K Ew (someP md)) :=
  PO.imp (po_some h) fun σ H Q ⟨W, O, ρ, R, h⟩ => ⟨W, O, ρ, R, (Out.bind h).mono fun d ρ1 H1 k1 R1 h1 v rv => by
    obtain ⟨r, hr, q⟩ := Out.lift h1 R1
    cases d with
    | int i => cases hr; cases rv; exact ⟨i, rfl, q H1 KeepO.refl R1⟩
    | _ => cases hr⟩
theorem dSl (he : PE X e (tL X.K Ew ma)) (hl : PO X lo (tP X.K Ew ml)) (hh : PO X hi (tP X.K Ew mh)) : PE X (.Subscript e (.Slice lo hi none p2) pos) (tD X.K Ew (mSl slD ma ml mh)) :=
  PE.imp (pe_slice sl_D he hl hh) fun σ H Q ⟨W, O, ρ, R, h⟩ => ⟨W, O, ρ, R, (Out.bind h).mono fun x ρ1 H1 k1 R1 h1 v rv => ⟨W, O, ρ1, R1, (Out.bind h1).mono fun l ρ2 H2 k2 R2 h2 => ⟨W, O, ρ2, R2, (Out.bind h2).mono fun u ρ3 H3 k3 R3 h3 => by
    obtain ⟨d, tx, h4⟩ := Out.get h3 R3 (rv.keep R1 (k2.trans k3))
    obtain ⟨r, hf, q⟩ := Out.lift h4 R3
    exact ⟨W, d, r, R3.tr, tx, hf, fun w H' s rw => q H' (KeepO.of s) (R3.same s) w rw⟩⟩⟩⟩
theorem fSl (he : PE X e (tL X.K Ew ma)) (hl : PO X lo (tP X.K Ew ml)) (hh : PO X hi (tP X.K Ew mh)) : PE X (.Subscript e (.Slice lo hi none p2) pos) (tF X.K Ew (mSl slL ma ml mh)) :=
  PE.imp (pe_slice sl_F he hl hh) fun σ H Q ⟨W, O, ρ, R, h⟩ => ⟨W, O, ρ, R, (Out.bind h).mono fun x ρ1 H1 k1 R1 h1 v rv => ⟨W, O, ρ1, R1, (Out.bind h1).mono fun l ρ2 H2 k2 R2 h2 => ⟨W, O, ρ2, R2, (Out.bind h2).mono fun u ρ3 H3 k3 R3 h3 => by
    obtain ⟨d, tx, h4⟩ := Out.get h3 R3 (rv.keep R1 (k2.trans k3))
    obtain ⟨r, hf, q⟩ := Out.lift h4 R3
    refine ⟨W, d, r, R3.tr, tx, hf, fun p H' s n o => ?_⟩
    obtain ⟨g1, g2, g3, g4⟩ := fresh_end ((k1.trans k2).trans k3) R3 s n o
    exact q H' g3 g4 p g1 g2 o⟩⟩⟩
end

/-! ### sorted(e, reverse=True) -/
def mCallR (g : List D → Option D) (as : List (M LV)) : M D := mCall g as
section
variable {X : Cx} {Ew : WX} {e : Expr} {ma : M LV} {p pos kpos : Pos} {b : Bool} {j : Nat} {cpos : Pos}
theorem fSortR (hu : X.A.units + 64 < cLine) (hm : X.mg "sorted" = none) (ha : PE X e (tL X.K Ew ma)) (hg : Gl X "sorted" := by rfl)
    (he : backTo pos (starEach [e] X.env) = (false, eval e X.env) :: backTo pos (starEach [] X.env) := by rfl) (hs : starEach [e] X.env = (false, eval e X.env) :: starEach [] X.env := by rfl) (hpl : (backTo pos (starEach [e] X.env)).any (·.1) = false := by rfl)
    (hall : (backToKw pos (keywordEach [⟨some (Str.ofString "reverse"), .Constant (.bool b) j cpos, kpos⟩] X.env)).all (·.1.isSome) = true := by rfl) (hnone : (backToKw pos (keywordEach [⟨some (Str.ofString "reverse"), .Constant (.bool b) j cpos, kpos⟩] X.env)).any (·.1.isNone) = false := by rfl)
    (hks : (backToKw pos (keywordEach [⟨some (Str.ofString "reverse"), .Constant (.bool b) j cpos, kpos⟩] X.env)).filterMap (·.1) = [Str.ofString "reverse"] := by rfl) :
    PE X (.Call (.Name "sorted" p) [e] [⟨some (Str.ofString "reverse"), .Constant (.bool b) j cpos, kpos⟩] pos) (tF X.K Ew (mCall (sortedRC b) [ma])) := by
  refine PE.imp (pe_callBK (cr_sortedR hu b) hg hm (by decide +kernel) (aCons ha aNil hs) (pk_cons pe_bl pk_nil) (by decide) (by decide) he hpl hall hnone hks) fun σ H Q h => ?_
  obtain ⟨W, O, ρ, R, h⟩ := h
  refine ⟨W, O, ρ, R, (Out.bind h).mono fun xs ρ1 H1 k1 R1 h1 vs rvs => ?_⟩
  obtain ⟨ds, tx, h2⟩ := Out.getAll h1 R1 rvs
  obtain ⟨r, hf, q⟩ := Out.lift h2 R1
  refine ⟨rfl, W, ds, r, R1.tr, tx, hf, fun p H' s n o => ?_⟩
  obtain ⟨g1, g2, g3, g4⟩ := fresh_end k1 R1 s n o
  exact q H' g3 g4 p g1 g2 o
end
end CF
end
section
/-! CF, part o: sorted(set(..)) of ints. -/
namespace CF
open PySem PySem.Spec PyProof.Rows L2

def intsD : List D → Option (List Int)
  | [] => some []
  | .int i :: ds => (intsD ds).map (i :: ·)
  | _ :: _ => none
theorem intsD_of : ∀ {ds : List D} {ns : List Int}, intsD ds = some ns → ds = ns.map PyData.int
  | [], ns, h => by cases h; rfl
  | d :: ds, ns, h => by
    cases d with
    | int i =>
      simp only [intsD, Option.map_eq_some_iff] at h
      obtain ⟨ms, h1, rfl⟩ := h
      rw [intsD_of h1]; rfl
    | _ => cases h
def insS (x : Int) : List Int → List Int
  | [] => [x]
  | y :: ys => if x < y then x :: y :: ys else if x = y then y :: ys else y :: insS x ys
def sset (ns : List Int) : List Int := ns.foldr insS []
theorem mem_insS {x k : Int} : ∀ {ys : List Int}, k ∈ insS x ys ↔ k = x ∨ k ∈ ys
  | [] => by simp [insS]
  | y :: ys => by
    unfold insS
    split
    · simp
    · split
      · rename_i h
        subst h
        simp
      · rw [List.mem_cons, mem_insS, List.mem_cons]
        constructor
        · rintro (h | h | h)
          · exact .inr (.inl h)
          · exact .inl h
          · exact .inr (.inr h)
        · rintro (h | h | h)
          · exact .inr (.inl h)
          · exact .inl h
          · exact .inr (.inr h)
theorem pw_insS {x : Int} : ∀ {ys : List Int}, ys.Pairwise (· < ·) → (insS x ys).Pairwise (· < ·)
  | [], _ => by simp [insS]
  | y :: ys, h => by
    obtain ⟨h1, h2⟩ := List.pairwise_cons.mp h
    unfold insS
    split
    · rename_i hx
      refine List.pairwise_cons.mpr ⟨fun z hz => ?_, h⟩
      rcases List.mem_cons.mp hz with e | hz
      · rw [e]; exact hx
      · have := h1 z hz; omega
    · split
      · exact h
      · refine List.pairwise_cons.mpr ⟨fun z hz => ?_, pw_insS h2⟩
        rcases mem_insS.mp hz with e | hz
        · rw [e]; omega
        · exact h1 z hz
theorem mem_sset {k : Int} : ∀ {ns : List Int}, k ∈ sset ns ↔ k ∈ ns
  | [] => by simp [sset]
  | n :: ns => by
    show k ∈ insS n (sset ns) ↔ _
    rw [mem_insS, mem_sset, List.mem_cons]
theorem pw_sset : ∀ (ns : List Int), (sset ns).Pairwise (· < ·)
  | [] => List.Pairwise.nil
  | n :: ns => pw_insS (pw_sset ns)
theorem pw_unique : ∀ {as bs : List Int}, as.Pairwise (· < ·) → bs.Pairwise (· < ·) → (∀ k, k ∈ as ↔ k ∈ bs) → as = bs
  | [], [], _, _, _ => rfl
  | [], b :: bs, _, _, h => nomatch (h b).mpr (List.mem_cons_self ..)
  | a :: as, [], _, _, h => nomatch (h a).mp (List.mem_cons_self ..)
  | a :: as, b :: bs, ha, hb, h => by
    obtain ⟨a1, a2⟩ := List.pairwise_cons.mp ha
    obtain ⟨b1, b2⟩ := List.pairwise_cons.mp hb
    have e : a = b := by
      have x := (h a).mp (List.mem_cons_self ..)
      have y := (h b).mpr (List.mem_cons_self ..)
      rcases List.mem_cons.mp x with x | x
      · exact x
      · rcases List.mem_cons.mp y with y | y
        · exact y.symm
        · have := b1 a x
          have := a1 b y
          omega
    subst e
    rw [pw_unique a2 b2 fun k => ?_]
    constructor
    · intro hk
      rcases List.mem_cons.mp ((h k).mp (List.mem_cons_of_mem _ hk)) with q | q
      · have := a1 k hk; omega
      · exact q
    · intro hk
      rcases List.mem_cons.mp ((h k).mpr (List.mem_cons_of_mem _ hk)) with q | q
      · have := b1 k hk; omega
      · exact q
theorem pw_nodup {as : List Int} (h : as.Pairwise (· < ·)) : as.Nodup := h.imp fun {a b} z => by omega

def SetI (w : World) (a : Addr) (S : Int → Bool) (n : Nat) : HO := .ext fun h => SetR w h a S n
def rSet (w : World) (K : PySem.W.Frag) : List V → Hp → VK → Prop := fun vs H Q => ∃ (W : Addr → Prop) (v : V) (ns : List Int), vs = [v] ∧ Tx K W H v (.list (ns.map PyData.int)) ∧ ns.length + 1 < scanBound ∧
  ∀ p, H p = none → Q (.ref p) (upd H p (SetI w p (fun j => decide (j ∈ ns)) (sset ns).length))
def rSortSet (w : World) : List V → Hp → VK → Prop := fun vs H Q => ∃ (a : Addr) (ns : List Int), vs = [.ref a] ∧ H a = some (SetI w a (fun j => decide (j ∈ ns)) (sset ns).length) ∧ (sset ns).length < 64 ∧
  ∀ p, H p = none → Q (.ref p) (upd H p (.lst ((sset ns).map V.int)))
theorem rxl_ints {K : PySem.W.Frag} {W : Addr → Prop} {H : Hp} : ∀ {vs : List V} {ns : List Int}, RxL K W H vs (ns.map PyData.int) → vs = ns.map V.int
  | _, [], h => by cases h; rfl
  | _, n :: ns, h => by
    cases h with
    | cons r t => cases r; rw [rxl_ints t]; rfl
theorem ints_rxl {K : PySem.W.Frag} {W : Addr → Prop} {H : Hp} : ∀ (ns : List Int), RxL K W H (ns.map V.int) (ns.map PyData.int)
  | [] => .nil
  | n :: ns => .cons (.int n) (ints_rxl ns)
section
variable {X : Cx}
theorem setR_count {w : World} {h : Heap} {a : Addr} {ns : List Int} {n : Nat} (R : SetR w h a (fun j => decide (j ∈ ns)) n) : n = (sset ns).length := by
  obtain ⟨o, es, ep, t, ho, hx, hd, g, nd, hm, hb, hf, hn, _⟩ := R
  rw [← hn, ← Array.length_toList, ← List.length_map (f := L2.keyOf)]
  refine ((List.perm_ext_iff_of_nodup nd (pw_nodup (pw_sset ns))).mpr fun k => ?_).length_eq
  rw [mem_sset, ← hm k, decide_eq_true_iff]
theorem cr_set (hc : X.calm = true) : CallR X (.type "set") (rSet X.w X.K) := by
  intro pins s σ H xs us Q I rx h
  obtain ⟨W, v, ns, rfl, hx, hb, q⟩ := h
  obtain ⟨a, vs, rfl, sa, la⟩ := hx.list
  obtain ⟨u, rfl, ru⟩ := vals1 rx
  cases ru
  obtain ⟨its, rr, pl, hz⟩ := I.list (.inl sa)
  rw [rxl_ints la] at rr
  refine set_of_list ns (I.ok.hd hc) pl.isList (by simpa using intsAre_of rr) hb fun h' tk c R hcn k => ?_
  have ec := setR_count R
  subst ec
  have n0 : H s.heap.objs.size = none := I.fresh
  refine ⟨.ref _, _, I.laid (a := s.heap.objs.size) (o := SetI X.w s.heap.objs.size (fun j => decide (j ∈ ns)) (sset ns).length) (t' := tk) k (Nat.le_refl _) ⟨R, ?_, fun h1 h2 r1 kk => r1.at kk⟩, rfl, q _ n0⟩
  obtain ⟨o, _, _, _, ho, _⟩ := R
  exact ⟨o, ho⟩
theorem vals_ints : ∀ {us : List Value} {ns : List Int}, IntsAre us ns → Vals (ns.map V.int) us
  | _, _, .nil => .nil
  | _, _, .cons n t r => .cons ⟨t, rfl⟩ (vals_ints r)
theorem cr_sortSet (hc : X.calm = true) : CallR X (.builtin "sorted") (rSortSet X.w) := by
  intro pins s σ H xs us Q I rx h
  obtain ⟨a, ns, rfl, ha, h64, q⟩ := h
  obtain ⟨u, rfl, ru⟩ := vals1 rx
  cases ru
  obtain ⟨R, _, _⟩ := I.hok a _ ha
  refine sorted_set R (I.ok.hd hc) h64 fun s' p out c ks k eg eo hp hg hi pw hm hl => ?_
  have e : ks = sset ns := pw_unique pw (pw_sset ns) fun k => by rw [hm, decide_eq_true_iff, mem_sset]
  subst e
  have ok : ObjOk X.prog X.w (upd H p (.lst ((sset ns).map V.int))) s'.heap p (.lst ((sset ns).map V.int)) :=
    ⟨by rw [List.length_map, sizeLine_eq]; omega, out.toList, c, vals_ints hi, by simpa [seqObj] using hg⟩
  have n0 : H p = none := I.hok.fresh hp
  exact ⟨.ref p, _, I.call' (s' := s') (ch := []) eo (Un.laid k hp n0) (I.hok.laid k hp ok) (by rw [eg]; exact I.bare) (fun _ z => nomatch z), rfl, q p n0⟩
end
def sortSetC : List D → Option D
  | [.list xs] => match intsD xs with
    | some ns => if ns.length + 1 < scanBound ∧ (sset ns).length < 64 then some (.list ((sset ns).map PyData.int)) else none
    | none => none
  | _ => none
section
variable {X : Cx} {Ew : WX} {e : Expr} {ma : M LV} {p p2 pos pos2 : Pos}
/-- sorted(set(e)) -/
theorem fSortSet (hc : X.calm = true) (hm : X.mg "sorted" = none) (hm2 : X.mg "set" = none) (ha : PE X e (tL X.K Ew ma)) (hg : Gl X "sorted" := by rfl) (hg2 : Gl X "set" := by rfl)
    (h1 : starEach [.Call (.Name "set" p2) [e] [] pos2] X.env = (false, eval (.Call (.Name "set" p2) [e] [] pos2) X.env) :: starEach [] X.env := by rfl) (h2 : starEach [e] X.env = (false, eval e X.env) :: starEach [] X.env := by rfl)
    (h3 : (backTo pos (starEach [] X.env)).any (·.1) = false := by rfl) (h4 : (backTo pos2 (starEach [] X.env)).any (·.1) = false := by rfl) :
    PE X (.Call (.Name "sorted" p) [.Call (.Name "set" p2) [e] [] pos2] [] pos) (tF X.K Ew (mCall sortSetC [ma])) := by
  refine PE.imp (pe_callB (cr_sortSet hc) hg hm (by decide +kernel) (pa_cons (pe_callTy (cr_set hc) hg2 hm2 (by decide +kernel) (aCons ha aNil h2) (by decide) (by decide) h2 h4) pa_nil h1) (by decide) (by decide) h1 h3) fun σ H Q h => ?_
  obtain ⟨W, O, ρ, R, h⟩ := h
  refine ⟨W, O, ρ, R, (Out.bind h).mono fun xs ρ1 H1 k1 R1 h1 vs rvs => ?_⟩
  obtain ⟨ds, tx, h2⟩ := Out.getAll h1 R1 rvs
  obtain ⟨r, hf, q⟩ := Out.lift h2 R1
  unfold sortSetC at hf
  split at hf
  · split at hf
    · rename_i ns en
      split at hf
      · rename_i hz
        cases hf
        rw [intsD_of en] at tx
        obtain ⟨v, rfl, tv⟩ := tx.one
        refine ⟨W, v, ns, rfl, tv, hz.1, fun a na => ?_⟩
        refine ⟨a, ns, rfl, upd_same, hz.2, fun p np => ?_⟩
        have na' : p ≠ a := fun z => by rw [z, upd_same] at np; cases np
        have s1 : Same H1 (upd H1 a (SetI X.w a (fun j => decide (j ∈ ns)) (sset ns).length)) := Same.upd na
        have s2 := s1.trans (Same.upd (o := .lst ((sset ns).map V.int)) np)
        have np1 : H1 p = none := by rw [upd_ne na'] at np; exact np
        obtain ⟨g1, g2, g3, g4⟩ := fresh_end k1 R1 s2 np1 (r := .list ((sset ns).map PyData.int)) ⟨_, upd_same, ints_rxl _⟩
        exact q _ g3 g4 p g1 g2 ⟨_, upd_same, ints_rxl _⟩
      · cases hf
    · cases hf
  · cases hf
end
end CF
end
section
/-! CF, part n: defs. A def's promise is made where no repr is under way (A.guards = some []). -/
namespace CF
open PySem PySem.Spec PyProof.Rows L2

/-! ### promises -/
structure FnG (P : Program) (w : World) (K : PySem.W.Frag) (mg : Str → Option Value) (base : Heap) (CX : CXT) (k : Nat) (f : Addr) (fd : FuncData) (ps : List Str) (sp : Sp) : Prop where
  ln : ∀ vs H Q E, sp vs H Q E → vs.length = ps.length
  go : ∀ {A : Around} {outer : List Env} {s : Shared} {H : Hp} {args : Args} {us : List Value} {vs : List V} {Q : VK} {E : XK}, Room k A → A.guards = some [] → Env0 P w K mg base A outer s H →
    BindsTo s fd args (ps.zip us) → Vals vs us → sp vs H Q E → codeAny (model P w) A (.call (.ref f) args) (CR CX outer P w H s Q E) s
section
variable {P : Program} {w : World} {K : PySem.W.Frag} {mg : Str → Option Value} {base : Heap} {CX : CXT} {j k : Nat} {f : Addr} {fd : FuncData} {ps : List Str} {sp : Sp}
theorem FnG.up (F : FnG P w K mg base CX j f fd ps sp) (h : j ≤ k) : FnG P w K mg base CX k f fd ps sp := ⟨F.ln, fun r g e b v q => F.go (r.mono h) g e b v q⟩
/-- a def by its body -/
theorem FnG.of {x qual : Str} {st : Stmt} {N : List Str} (F : Fun K x qual st f fd) (S : FnScope N ps (defScope st)) (ln : ∀ vs H Q E, sp vs H Q E → vs.length = ps.length)
    (hb : ∀ (cdv : Value) (A : Around) (outer : List Env) (s : Shared) (H : Hp) (vs : List V) (Q : VK) (E : XK), Room k (A.deeper (envOfC qual (defScope st) s.heap.objs.size f cdv)) → A.guards = some [] → sp vs H Q E →
      ∃ t, PSs (cxOf CX P w K mg base N qual (defScope st) f cdv A outer s H E) (defBody st) t ∧ t { nx := fun _ H' => Q .non H', rt := Q } (start N vs) H) : FnG P w K mg base CX (k + 1) f fd ps sp := by
  obtain ⟨oc, od, kV, doc, pm, an, cdv, ct, osl, hfd, lk, hcd⟩ := F.ex
  refine ⟨ln, ?_⟩
  intro A outer s H args us vs Q E hr hgd e0 hbn rv hsp
  subst hfd
  have hn := ln _ _ _ _ hsp
  have old : ∀ b o, base.get? b = some o → s.heap.get? b = some o := fun b o e => (e0.bs b o e).1
  have hin : K.In s.heap := e0.mod.kin.keeps old
  have hlim : s.heap.NoLimit := e0.mod.nolimit.keeps old
  have slots : ∀ y ∈ ps.zip us, (defScope st).names.lookup y.1 = some .local ∨ ((defScope st).names.lookup y.1 = some .cell ∧ ((cellsFrom (s.heap.objs.size + 1) (defScope st).names []).lookup y.1).isSome = true) := by
    rintro ⟨z, v⟩ hz
    exact (S.par z (List.of_mem_zip hz).1).imp id fun c => ⟨c, PySem.W.cellsFrom_some _ _ _ (.inl c)⟩
  refine codeAny_call_function hr.depth (hin _ _ lk) rfl S.co S.gen rfl (PySem.W.codeRec_of hin hcd) (hbn _ _ _ _ ?_)
  refine wpAny_newFunctionEnv_cells S.kind slots ?_
  rintro env rfl s1 x
  refine ⟨hlim.keeps x.toInCall.keep, codeAny_func ?_⟩
  obtain ⟨t, run, q⟩ := hb cdv A outer s H vs Q E (hr.deeper _) hgd hsp
  have at0 := inv_start (CX := CX) (E := E) (N := N) S hr.hd e0 hn rv x
  refine wpAny_mono (run.run [] s1 (start N vs) H _ at0 q) ?_ fun _ _ z => z
  intro fl s' z
  cases fl with
  | brk => obtain ⟨_, _, _, z⟩ := z; cases z
  | cont => obtain ⟨_, _, _, z⟩ := z; cases z
  | next =>
    obtain ⟨_, H1, J, z⟩ := z
    exact ⟨.non, H1, J.os, J.bare, J.base, J.hok, rfl, z⟩
  | ret u =>
    obtain ⟨v, _, H1, J, r1, z⟩ := z
    exact ⟨v, H1, J.os, J.bare, J.base, J.hok, r1, z⟩
end
section
variable {X : Cx} {CX : CXT} {k : Nat} {f : Addr} {fd : FuncData} {ps : List Str} {sp : Sp} {E : XK} {x : Str} {p pos : Pos} {e : Expr} {es : List Expr} {t : TA}
theorem FnG.run {pins : List (Addr × Obj)} {σ : L2.St} {H : Hp} {s : Shared} {Q : VK} {us : List Value} {vs : List V} (F : FnG X.prog X.w X.K X.mg X.base CX k f fd ps sp) (hr : Room k X.A) (hg : X.A.guards = some []) (hb : Binds X.K fd ps []) (hx : Passes CX X E)
    (I : Inv X pins σ H s) (r : Vals vs us) (h : sp vs H Q E) : wpAny (model X.prog X.w) X.A (call (.ref f) us) (EP X pins σ Q) X.xe s := by
  have hl : (us ++ []).length = ps.length := by rw [List.append_nil, ← r.length]; exact F.ln _ _ _ _ h
  have bb := hb s us I.kIn hl
  rw [List.append_nil] at bb
  refine wpAny_call (codeAny_mono (F.go hr hg I.env0 bb r h) ?_)
  intro z s' q
  match z, q with
  | .error ev, q => exact hx pins σ H s ev s' I q
  | .ok (.ret u), q => exact I.after q
/-- f(e, ..), f a def of the text -/
theorem FnG.pe (F : FnG X.prog X.w X.K X.mg X.base CX k f fd ps sp) (hr : Room k X.A) (hgd : X.A.guards = some []) (hm : X.mg x = some (.ref f)) (hk : PySem.W.keepIn X.K (.ref f) = true) (hb : Binds X.K fd ps []) (hx : Passes CX X E)
    (ha : PA X (e :: es) t) (hg : Gl X x) (hdb : (x == ("__debug__" : Str)) = false) (he : starEach (e :: es) X.env = (false, eval e X.env) :: starEach es X.env) (hpl : (backTo pos (starEach es X.env)).any (·.1) = false) :
    PE X (.Call (.Name x p) (e :: es) [] pos) (fun σ H Q => t σ H fun vs H1 => sp vs H1 Q E) := by
  constructor
  intro pins s σ H Q I h
  refine wpAny_Call_Name_kw (ld_glob I hg hm ?_ hdb)
  refine PySem.W.callWith_K (h₀ := X.base) I.ok.mod.kin hk ?_ he hpl
  refine thn (ha.run pos pins s σ H _ I h) ?_
  rintro us s1 ⟨vs, H1, I1, r, q⟩
  exact ⟨I1.kIn, F.run hr hgd hb hx I1 r q⟩
end
end CF
end
section
/-! CF, part q: a def's mirror, its promise, its call. -/
namespace CF
open PySem PySem.Spec PyProof.Rows L2

/-- the parameters' slots at the entry; the result and the parameters' slots at the end -/
abbrev FM := List Slot → Option (R D)
def allOwn (F : List Nat) (ρ : List Slot) : Bool := F.all fun j => isOwn (ρ.getD j .un)
def runF (fr : Bool) (np nl : Nat) (F : List Nat) (body : MS) : FM := fun ps => if ps.length = np then
    match body (ps ++ List.replicate nl .un) with
    | some (.ok (.rt d) ρ) => if allOwn F ρ then some (.ok d (ρ.take np)) else none
    | some (.ok .nx ρ) => if !fr && allOwn F ρ then some (.ok .none (ρ.take np)) else none
    | some (.ex e ρ) => if allOwn F ρ then some (.ex e (ρ.take np)) else none
    | _ => none
  else none
/-- the objects that the caller lent, behind the call -/
structure IOk (K : PySem.W.Frag) (W' O' : Addr → Prop) (H' : Hp) (F : List Nat) (vs : List V) (ps' : List Slot) : Prop where
  ow : ∀ a, O' a → W' a
  io : ∀ i ∈ F, ∃ a c, vs[i]? = some (.ref a) ∧ ps'[i]? = some (.own c) ∧ O' a ∧ OwnAt K W' H' a c
def RetF (fr : Bool) (K : PySem.W.Frag) (W' O' : Addr → Prop) (H' : Hp) (F : List Nat) (vs : List V) (v : V) (d : D) : Prop :=
  if fr = true then ∃ a, v = .ref a ∧ O' a ∧ OwnAt K W' H' a d ∧ ∀ j ∈ F, vs[j]? ≠ some (.ref a) else Rx K W' H' v d
def OutF (fr : Bool) (F : List Nat) (K : PySem.W.Frag) (E : XK) (W O : Addr → Prop) (vs : List V) (H : Hp) (Q : VK) : Option (R D) → Prop
  | some (.ok d ps') => ∀ v W' O' H', Step W O H W' O' H' → IOk K W' O' H' F vs ps' → RetF fr K W' O' H' F vs v d → Q v H'
  | some (.ex e ps') => ∀ c dx W' O' H', Step W O H W' O' H' → IOk K W' O' H' F vs ps' → ExcRel K W' H' c dx e → E c dx H'
  | none => False
def spF (fr : Bool) (F : List Nat) (K : PySem.W.Frag) (f : FM) : Sp := fun vs H Q E => ∃ W O ps, SRel K W O H (vs.map some) ps ∧ OutF fr F K E W O vs H Q (f ps)
section
variable {K : PySem.W.Frag} {W O : Addr → Prop} {H : Hp} {vs : List V} {ps : List Slot}
theorem SRel.start (R : SRel K W O H (vs.map some) ps) (n : Nat) : SRel K W O H (vs.map some ++ List.replicate n none) (ps ++ List.replicate n .un) := by
  have hl := R.len
  have own : ∀ (j : Nat) (e : D), (ps ++ List.replicate n Slot.un)[j]? = some (.own e) → j < ps.length ∧ ps[j]? = some (.own e) := fun j e h => by
    by_cases q : j < ps.length
    · rw [List.getElem?_append_left q] at h
      exact ⟨q, h⟩
    · rw [List.getElem?_append_right (by omega), List.getElem?_replicate] at h
      split at h <;> cases h
  refine ⟨by simp [hl] <;> simpa using hl, R.ow, R.tr, fun i x s h1 h2 => ?_, fun i j a d e ne e1 e2 f1 f2 => ?_⟩
  · by_cases q : i < ps.length
    · rw [List.getElem?_append_left (by rw [hl]; exact q)] at h1
      rw [List.getElem?_append_left q] at h2
      exact R.sl i x s h1 h2
    · rw [List.getElem?_append_right (by omega), List.getElem?_replicate] at h2
      split at h2
      · cases h2; trivial
      · cases h2
  · obtain ⟨q1, e1⟩ := own i d e1
    obtain ⟨q2, e2⟩ := own j e e2
    rw [List.getElem?_append_left (by rw [hl]; exact q1)] at f1
    rw [List.getElem?_append_left (by rw [hl]; exact q2)] at f2
    exact R.ne i j a d e ne e1 e2 f1 f2
end
section
variable {fr : Bool} {F : List Nat} {K : PySem.W.Frag} {W O : Addr → Prop} {H : Hp} {vs : List V} {ps : List Slot} {np nl : Nat} {Q : VK} {E : XK} {m : MS}
theorem io_end {W' O' : Addr → Prop} {H' : Hp} {σ' : L2.St} {ρ' : List Slot} (hl : vs.length = np) (hF : (F.all fun i => decide (i < np)) = true) (R' : SRel K W' O' H' σ' ρ') (f : Fx F (vs.map some ++ List.replicate nl none) σ') (ho : allOwn F ρ' = true) :
    IOk K W' O' H' F vs (ρ'.take np) ∧ ∀ j ∈ F, σ'[j]? = (vs[j]?).map some := by
  have at' : ∀ j ∈ F, j < np ∧ σ'[j]? = (vs[j]?).map some := fun j hj => by
    have hn : j < np := of_decide_eq_true (List.all_eq_true.mp hF j hj)
    refine ⟨hn, ?_⟩
    rw [f j hj, List.getElem?_append_left (by rw [List.length_map, hl]; exact hn), List.getElem?_map]
  refine ⟨⟨R'.ow, fun i hi => ?_⟩, fun j hj => (at' j hj).2⟩
  obtain ⟨hn, ev⟩ := at' i hi
  obtain ⟨c, ec⟩ := own_of (List.all_eq_true.mp ho i hi)
  obtain ⟨a, ea, oa, ob⟩ := R'.own ec
  refine ⟨a, c, ?_, by rw [List.getElem?_take_of_lt hn]; exact ec, oa, ob⟩
  rw [ea] at ev
  cases h : vs[i]? with
  | none => rw [h] at ev; cases ev
  | some v => rw [h] at ev; cases ev; rfl
theorem run_start (hF : (F.all fun i => decide (i < np)) = true) (R : SRel K W O H (vs.map some) ps) (h : OutF fr F K E W O vs H Q (runF fr np nl F m ps)) :
    tS fr F K (fun c dx _ H' => E c dx H') m { nx := fun _ H' => Q .non H', rt := Q } (vs.map some ++ List.replicate nl none) H := by
  refine ⟨W, O, _, R.start nl, ?_⟩
  have hl : vs.length = ps.length := by simpa using R.len
  unfold runF at h
  split at h
  case isFalse => exact h.elim
  rename_i hp
  have hv : vs.length = np := hl.trans hp
  generalize hr : m (ps ++ List.replicate nl .un) = r at h
  match r, h with
  | some (.ok (.rt d) ρ), h =>
    simp only at h
    split at h
    case isFalse => exact h.elim
    rename_i ho
    intro W' O' σ' H' s R' f v rv
    obtain ⟨io, at'⟩ := io_end (nl := nl) hv hF R' f ho
    refine h v W' O' H' s io ?_
    cases fr with
    | false => exact rv
    | true =>
      have rv : ∃ a, v = .ref a ∧ O' a ∧ OwnAt K W' H' a d ∧ ∀ j ∈ F, σ'[j]? ≠ some (some (.ref a)) := rv
      obtain ⟨a, e, oa, ob, nn⟩ := rv
      refine show ∃ a, _ from ⟨a, e, oa, ob, fun j hj z => nn j hj ?_⟩
      rw [at' j hj, z]; rfl
  | some (.ok .nx ρ), h =>
    simp only at h
    split at h
    case isFalse => exact h.elim
    rename_i ho
    intro W' O' σ' H' s R' f
    rw [Bool.and_eq_true] at ho
    obtain ⟨io, at'⟩ := io_end (nl := nl) hv hF R' f ho.2
    cases fr with
    | false => exact h .non W' O' H' s io .non
    | true => exact nomatch ho.1
  | some (.ok .bk ρ), h => exact h.elim
  | some (.ok .ct ρ), h => exact h.elim
  | some (.ex e ρ), h =>
    simp only at h
    split at h
    case isFalse => exact h.elim
    rename_i ho
    intro c dx W' O' σ' H' s R' f x
    obtain ⟨io, at'⟩ := io_end (nl := nl) hv hF R' f ho
    exact h c dx W' O' H' s io x
theorem spF_len (h : spF fr F K (runF fr np nl F m) vs H Q E) : vs.length = np := by
  obtain ⟨W, O, ps, R, h⟩ := h
  unfold runF at h
  split at h
  case isFalse => exact h.elim
  rename_i hp
  have hl := R.len
  rw [List.length_map] at hl
  exact hl.trans hp
end
/-- .. of a def that raises nothing -/
def sp0 (fr : Bool) (F : List Nat) (K : PySem.W.Frag) (f : FM) : Sp := fun vs H Q _ => spF fr F K f vs H Q E0
section
variable {P : Program} {w : World} {K : PySem.W.Frag} {mg : Str → Option Value} {base : Heap} {k np nl : Nat} {f : Addr} {fd : FuncData} {N ps : List Str} {x : Str} {st : Stmt} {fr : Bool} {F : List Nat} {m : MS}
theorem gDef (nl : Nat) (Fn : Fun K x x st f fd) (S : FnScope N ps (defScope st)) (hF : (F.all fun i => decide (i < ps.length)) = true) (hN : N.length = ps.length + nl)
    (hb : ∀ (cdv : Value) (A : Around) (outer : List Env) (s : Shared) (H : Hp) (E : XK), Room k (A.deeper (envOfC x (defScope st) s.heap.objs.size f cdv)) → A.guards = some [] →
      PSs (cxOf CX0 P w K mg base N x (defScope st) f cdv A outer s H E).nox (defBody st) (tS fr F K WF m)) : FnG P w K mg base CX0 (k + 1) f fd ps (sp0 fr F K (runF fr ps.length nl F m)) := by
  refine FnG.of Fn S (fun vs H Q E h => spF_len h) fun cdv A outer s H vs Q E hr hg h => ?_
  have hv := spF_len h
  obtain ⟨W, O, qs, R, h⟩ := h
  refine ⟨_, (hb cdv A outer s H E hr hg).nox, ?_⟩
  have e : N.length - vs.length = nl := by rw [hN, hv]; omega
  unfold L2.start
  rw [e]
  exact run_start hF R h
end

/-! ### a call -/
def argS (F : List Nat) (ρ : List Slot) : Nat → List LV → Option (List Slot)
  | _, [] => some []
  | j, .dat d :: xs => if F.contains j then none else (argS F ρ (j + 1) xs).map (.dat d :: ·)
  | j, .slot i :: xs => match ρ[i]? with
    | some (.own c) => if F.contains j then (argS F ρ (j + 1) xs).map (.own c :: ·) else none
    | some (.dat d) => if F.contains j then none else (argS F ρ (j + 1) xs).map (.dat d :: ·)
    | _ => none
/-- which slots are lent: the parameter, the slot -/
def ioIx (F : List Nat) : Nat → List LV → List (Nat × Nat)
  | _, [] => []
  | j, .slot i :: xs => if F.contains j then (j, i) :: ioIx F (j + 1) xs else ioIx F (j + 1) xs
  | j, .dat _ :: xs => ioIx F (j + 1) xs
def backF (ix : List (Nat × Nat)) (ps' : List Slot) (ρ : List Slot) : List Slot := ρ.mapIdx fun i s => match ix.find? fun p => p.2 == i with
  | some p => ps'.getD p.1 .un
  | none => s
def mFn (F : List Nat) (f : FM) (as : List (M LV)) : M D := do
  let xs ← mLs as
  fun ρ => if decide ((ioIx F 0 xs).map (·.2)).Nodup then match argS F ρ 0 xs with
    | some ps => match f ps with
      | some (.ok d ps') => some (.ok d (backF (ioIx F 0 xs) ps' ρ))
      | some (.ex e ps') => some (.ex e (backF (ioIx F 0 xs) ps' ρ))
      | none => none
    | none => none
  else none
section
variable {F : List Nat} {K : PySem.W.Frag} {W O : Addr → Prop} {σ : L2.St} {H : Hp} {ρ : List Slot}
theorem ioIx_ge : ∀ {xs : List LV} {j : Nat} {p : Nat × Nat}, p ∈ ioIx F j xs → j ≤ p.1 ∧ F.contains p.1 = true ∧ xs[p.1 - j]? = some (.slot p.2)
  | [], j, p, h => nomatch h
  | .dat d :: xs, j, p, h => by
    obtain ⟨h1, h2, h3⟩ := ioIx_ge (xs := xs) (j := j + 1) h
    refine ⟨by omega, h2, ?_⟩
    rw [show p.1 - j = (p.1 - (j + 1)) + 1 by omega, List.getElem?_cons_succ]
    exact h3
  | .slot i :: xs, j, p, h => by
    have rest : p ∈ ioIx F (j + 1) xs → j ≤ p.1 ∧ F.contains p.1 = true ∧ (LV.slot i :: xs)[p.1 - j]? = some (.slot p.2) := fun h => by
      obtain ⟨h1, h2, h3⟩ := ioIx_ge (xs := xs) (j := j + 1) h
      refine ⟨by omega, h2, ?_⟩
      rw [show p.1 - j = (p.1 - (j + 1)) + 1 by omega, List.getElem?_cons_succ]
      exact h3
    unfold ioIx at h
    split at h
    · rename_i hc
      rcases List.mem_cons.mp h with e | h
      · subst e
        exact ⟨Nat.le_refl _, hc, by simp⟩
      · exact rest h
    · exact rest h
theorem ioIx_mem : ∀ {xs : List LV} {j n i : Nat}, xs[n]? = some (.slot i) → F.contains (j + n) = true → (j + n, i) ∈ ioIx F j xs
  | [], j, n, i, h, _ => by simp at h
  | x :: xs, j, 0, i, h, c => by
    simp at h
    subst h
    unfold ioIx
    rw [if_pos (by simpa using c)]
    exact List.mem_cons_self ..
  | x :: xs, j, n + 1, i, h, c => by
    have q := ioIx_mem (xs := xs) (j := j + 1) (n := n) (by simpa using h) (by rw [show j + 1 + n = j + (n + 1) by omega]; exact c)
    rw [show j + 1 + n = j + (n + 1) by omega] at q
    cases x with
    | dat d => exact q
    | slot l =>
      unfold ioIx
      split
      · exact List.mem_cons_of_mem _ q
      · exact q
theorem argS_len : ∀ {xs : List LV} {j : Nat} {ps : List Slot}, argS F ρ j xs = some ps → ps.length = xs.length
  | [], j, ps, h => by cases h; rfl
  | .dat d :: xs, j, ps, h => by
    unfold argS at h
    split at h
    · cases h
    · obtain ⟨r, h1, rfl⟩ := Option.map_eq_some_iff.mp h
      simp [argS_len h1]
  | .slot i :: xs, j, ps, h => by
    unfold argS at h
    split at h
    · split at h
      · obtain ⟨r, h1, rfl⟩ := Option.map_eq_some_iff.mp h
        simp [argS_len h1]
      · cases h
    · split at h
      · cases h
      · obtain ⟨r, h1, rfl⟩ := Option.map_eq_some_iff.mp h
        simp [argS_len h1]
    · cases h
/-- an argument's slot -/
theorem argS_at : ∀ {xs : List LV} {j n : Nat} {ps : List Slot} {s : Slot}, argS F ρ j xs = some ps → ps[n]? = some s →
    (∃ d, s = .dat d ∧ F.contains (j + n) = false ∧ (xs[n]? = some (.dat d) ∨ ∃ i, xs[n]? = some (.slot i) ∧ ρ[i]? = some (.dat d))) ∨ ∃ c i, s = .own c ∧ F.contains (j + n) = true ∧ xs[n]? = some (.slot i) ∧ ρ[i]? = some (.own c)
  | [], j, n, ps, s, h, e => by cases h; simp at e
  | x :: xs, j, n, ps, s, h, e => by
    have step : ∀ {t : Slot}, (argS F ρ (j + 1) xs).map (t :: ·) = some ps → ∃ r, argS F ρ (j + 1) xs = some r ∧ ps = t :: r := fun {t} h => by
      obtain ⟨r, h1, h2⟩ := Option.map_eq_some_iff.mp h
      exact ⟨r, h1, h2.symm⟩
    have later : ∀ {t : Slot} {r : List Slot} {n' : Nat}, n = n' + 1 → argS F ρ (j + 1) xs = some r → ps = t :: r →
        (∃ d, s = .dat d ∧ F.contains (j + n) = false ∧ ((x :: xs)[n]? = some (.dat d) ∨ ∃ i, (x :: xs)[n]? = some (.slot i) ∧ ρ[i]? = some (.dat d))) ∨ ∃ c i, s = .own c ∧ F.contains (j + n) = true ∧ (x :: xs)[n]? = some (.slot i) ∧ ρ[i]? = some (.own c) := by
      intro t r n' hn h1 h2
      subst hn
      subst h2
      rw [List.getElem?_cons_succ] at e
      have q := argS_at h1 e
      rw [show j + 1 + n' = j + (n' + 1) by omega] at q
      simpa only [List.getElem?_cons_succ] using q
    cases x with
    | dat d =>
      unfold argS at h
      split at h
      · cases h
      · rename_i hc
        obtain ⟨r, h1, h2⟩ := step h
        cases n with
        | succ n' => exact later rfl h1 h2
        | zero =>
          subst h2
          simp at e
          subst e
          exact .inl ⟨d, rfl, by simpa using hc, .inl (by simp)⟩
    | slot i =>
      unfold argS at h
      split at h
      · rename_i c ec
        split at h
        · rename_i hc
          obtain ⟨r, h1, h2⟩ := step h
          cases n with
          | succ n' => exact later rfl h1 h2
          | zero =>
            subst h2
            simp at e
            subst e
            exact .inr ⟨c, i, rfl, by simpa using hc, by simp, ec⟩
        · cases h
      · rename_i d ed
        split at h
        · cases h
        · rename_i hc
          obtain ⟨r, h1, h2⟩ := step h
          cases n with
          | succ n' => exact later rfl h1 h2
          | zero =>
            subst h2
            simp at e
            subst e
            exact .inl ⟨d, rfl, by simpa using hc, .inr ⟨i, by simp, ed⟩⟩
      · cases h
theorem lrels_at : ∀ {vs : List V} {xs : List LV} {n : Nat} {v : V}, LRels K W H σ vs xs → vs[n]? = some v → ∃ x, xs[n]? = some x ∧ LRel K W H σ v x
  | _, _, n, v, .nil, e => by simp at e
  | _, _, 0, v, .cons r t, e => by simp at e; subst e; exact ⟨_, by simp, r⟩
  | _, _, n + 1, v, .cons r t, e => by
    obtain ⟨x, h1, h2⟩ := lrels_at t (by simpa using e)
    exact ⟨x, by simpa using h1, h2⟩
theorem lrels_len : ∀ {vs : List V} {xs : List LV}, LRels K W H σ vs xs → vs.length = xs.length
  | _, _, .nil => rfl
  | _, _, .cons r t => by simp [lrels_len t]
theorem nd_snd : ∀ {ix : List (Nat × Nat)} {p q : Nat × Nat}, (ix.map (·.2)).Nodup → p ∈ ix → q ∈ ix → p.2 = q.2 → p = q
  | [], _, _, _, h, _, _ => nomatch h
  | r :: ix, p, q, nd, hp, hq, e => by
    rw [List.map_cons, List.nodup_cons] at nd
    rcases List.mem_cons.mp hp with h1 | h1 <;> rcases List.mem_cons.mp hq with h2 | h2
    · rw [h1, h2]
    · exact absurd (by rw [← h1, e]; exact List.mem_map_of_mem h2) nd.1
    · exact absurd (by rw [← h2, ← e]; exact List.mem_map_of_mem h1) nd.1
    · exact nd_snd nd.2 h1 h2 e
def Lent (σ : L2.St) (ix : List (Nat × Nat)) : Addr → Prop := fun a => ∃ p ∈ ix, σ[p.2]? = some (some (.ref a))
theorem lent_own {xs : List LV} {ps : List Slot} (ha : argS F ρ 0 xs = some ps) {p : Nat × Nat} (hp : p ∈ ioIx F 0 xs) : ∃ c, ρ[p.2]? = some (.own c) ∧ ps[p.1]? = some (.own c) := by
  obtain ⟨_, hc, hx⟩ := ioIx_ge hp
  rw [Nat.sub_zero] at hx
  obtain ⟨hn, _⟩ := List.getElem?_eq_some_iff.mp hx
  have e : ps[p.1]? = some (ps[p.1]'(by rw [argS_len ha]; exact hn)) := List.getElem?_eq_getElem _
  rcases argS_at ha e with ⟨d, _, h2, _⟩ | ⟨c, i, h1, h2, h3, h4⟩
  · rw [Nat.zero_add, hc] at h2; cases h2
  · rw [hx] at h3
    cases h3
    exact ⟨c, h4, by rw [e, h1]⟩
theorem call_in {xs : List LV} {ps : List Slot} {vs : List V} (R : SRel K W O H σ ρ) (r : LRels K W H σ vs xs) (ha : argS F ρ 0 xs = some ps) (nd : ((ioIx F 0 xs).map (·.2)).Nodup) : SRel K W (Lent σ (ioIx F 0 xs)) H (vs.map some) ps := by
  have lo : ∀ a, Lent σ (ioIx F 0 xs) a → O a := fun a ⟨p, hp, e⟩ => by
    obtain ⟨c, h1, _⟩ := lent_own ha hp
    obtain ⟨a', e', oa, _⟩ := R.own h1
    rw [e] at e'
    cases e'
    exact oa
  have val : ∀ {n : Nat} {x : Option V}, (vs.map some)[n]? = some x → ∃ v, x = some v ∧ vs[n]? = some v := fun {n x} e => by
    rw [List.getElem?_map] at e
    obtain ⟨v, h1, h2⟩ := Option.map_eq_some_iff.mp e
    exact ⟨v, h2.symm, h1⟩
  refine ⟨by rw [List.length_map, argS_len ha, lrels_len r], fun a z => R.ow a (lo a z), R.tr, fun n x s h1 h2 => ?_, fun n m a d e ne e1 e2 f1 f2 => ?_⟩
  · obtain ⟨v, rfl, hv⟩ := val h1
    obtain ⟨lx, hx, rv⟩ := lrels_at r hv
    rcases argS_at ha h2 with ⟨d, rfl, hc, q⟩ | ⟨c, i, rfl, hc, hi, hr⟩
    · refine ⟨v, rfl, ?_⟩
      rcases q with q | ⟨i, q, hr⟩
      · rw [q] at hx; cases hx; exact rv
      · rw [q] at hx; cases hx
        obtain ⟨w, e1, e2⟩ := R.dat hr
        have rv : σ[i]? = some (some v) := rv
        rw [rv] at e1; cases e1
        exact e2
    · rw [hi] at hx; cases hx
      obtain ⟨a, e1, oa, ob⟩ := R.own hr
      have rv : σ[i]? = some (some v) := rv
      rw [rv] at e1; cases e1
      rw [Nat.zero_add] at hc
      exact ⟨a, rfl, ⟨(n, i), by simpa using ioIx_mem (j := 0) hi (by simpa using hc), rv⟩, ob⟩
  · obtain ⟨v, ev, hv⟩ := val f1
    obtain ⟨w, ew, hw⟩ := val f2
    cases ev; cases ew
    obtain ⟨x1, hx1, rv1⟩ := lrels_at r hv
    obtain ⟨x2, hx2, rv2⟩ := lrels_at r hw
    rcases argS_at ha e1 with ⟨_, z, _⟩ | ⟨c1, i1, _, hc1, hi1, hr1⟩
    · cases z
    rcases argS_at ha e2 with ⟨_, z, _⟩ | ⟨c2, i2, _, hc2, hi2, hr2⟩
    · cases z
    rw [hi1] at hx1; cases hx1
    rw [hi2] at hx2; cases hx2
    refine R.ne i1 i2 a c1 c2 (fun q => ?_) hr1 hr2 rv1 rv2
    subst q
    rw [Nat.zero_add] at hc1 hc2
    have m1 : (n, i1) ∈ ioIx F 0 xs := by simpa using ioIx_mem (j := 0) hi1 (by simpa using hc1)
    have m2 : (m, i1) ∈ ioIx F 0 xs := by simpa using ioIx_mem (j := 0) hi2 (by simpa using hc2)
    exact ne (congrArg Prod.fst (nd_snd nd m1 m2 rfl))
theorem backF_at (ix : List (Nat × Nat)) (ps' : List Slot) (ρ : List Slot) (i : Nat) : (backF ix ps' ρ)[i]? = (ρ[i]?).map fun s => match ix.find? fun p => p.2 == i with
    | some p => ps'.getD p.1 .un
    | none => s := by
  unfold backF
  rw [List.getElem?_mapIdx]
theorem call_out {xs : List LV} {ps ps' : List Slot} {vs : List V} {W' O' : Addr → Prop} {H' : Hp} (R : SRel K W O H σ ρ) (r : LRels K W H σ vs xs) (ha : argS F ρ 0 xs = some ps) (s : Step W (Lent σ (ioIx F 0 xs)) H W' O' H') (io : IOk K W' O' H' F vs ps') :
    KeepO W O H H' ∧ (∀ a, W a → W' a) ∧ ∀ W2 O2 : Addr → Prop, (∀ b, W2 b → W' b) → (∀ b, O b → O2 b) → (∀ b, O2 b → W2 b) → (∀ b, W2 b → W b ∨ H b = none) → (∀ b, W2 b → ∃ o, H' b = some o) → SRel K W2 O2 H' σ (backF (ioIx F 0 xs) ps' ρ) := by
  have lo : ∀ a, Lent σ (ioIx F 0 xs) a → O a := fun a ⟨p, hp, e⟩ => by
    obtain ⟨c, h1, _⟩ := lent_own ha hp
    obtain ⟨a', e', oa, _⟩ := R.own h1
    rw [e] at e'
    cases e'
    exact oa
  have arg : ∀ p ∈ ioIx F 0 xs, ∃ a c, σ[p.2]? = some (some (.ref a)) ∧ ps'.getD p.1 .un = .own c ∧ O' a ∧ OwnAt K W' H' a c := fun p hp => by
    obtain ⟨_, hc, hx⟩ := ioIx_ge hp
    rw [Nat.sub_zero] at hx
    obtain ⟨a, c, h1, h2, h3, h4⟩ := io.io p.1 (by simpa [List.contains_iff_mem] using hc)
    obtain ⟨x, hx', rx⟩ := lrels_at r h1
    rw [hx] at hx'
    cases hx'
    exact ⟨a, c, rx, by rw [List.getD_eq_getElem?_getD, h2]; rfl, h3, h4⟩
  have ww : ∀ a, W a → W' a := fun a w => by
    by_cases l : Lent σ (ioIx F 0 xs) a
    · obtain ⟨p, hp, e⟩ := l
      obtain ⟨a', c, e1, _, oa, _⟩ := arg p hp
      rw [e] at e1
      cases e1
      exact io.ow a oa
    · obtain ⟨o, e⟩ := R.tr a w
      exact s.wi a o e w l
  have kp := s.keep.moreO lo
  have at' : ∀ (i : Nat) (t : Slot), (backF (ioIx F 0 xs) ps' ρ)[i]? = some t → (∃ p c a, p ∈ ioIx F 0 xs ∧ p.2 = i ∧ t = .own c ∧ σ[i]? = some (some (.ref a)) ∧ O' a ∧ OwnAt K W' H' a c) ∨ ((∀ p ∈ ioIx F 0 xs, p.2 ≠ i) ∧ ρ[i]? = some t) := fun i t e => by
    rw [backF_at] at e
    obtain ⟨u, hu, e⟩ := Option.map_eq_some_iff.mp e
    split at e
    · rename_i p hf
      have hm := List.mem_of_find?_eq_some hf
      have hp := List.find?_some hf
      have e2 : p.2 = i := by simpa using hp
      obtain ⟨a, c, h1, h2, h3, h4⟩ := arg p hm
      rw [e2] at h1
      exact .inl ⟨p, c, a, hm, e2, by rw [← e, h2], h1, h3, h4⟩
    · rename_i hf
      refine .inr ⟨fun p hp z => ?_, by rw [hu, e]⟩
      have := List.find?_eq_none.mp hf p hp
      simp [z] at this
  have lent_at : ∀ p ∈ ioIx F 0 xs, ∃ c, ρ[p.2]? = some (.own c) := fun p hp => by
    obtain ⟨c, h, _⟩ := lent_own ha hp
    exact ⟨c, h⟩
  have wasOwn : ∀ (i : Nat) (c : PyData), (backF (ioIx F 0 xs) ps' ρ)[i]? = some (.own c) → ∃ c', ρ[i]? = some (.own c') := fun i c e => by
    rcases at' i _ e with ⟨p, _, _, hp, e2, _⟩ | ⟨_, h⟩
    · obtain ⟨c', h⟩ := lent_at p hp
      rw [e2] at h
      exact ⟨c', h⟩
    · exact ⟨c, h⟩
  refine ⟨kp, ww, fun W2 O2 w2 o2 ow2 wn2 tr2 => ⟨?_, ow2, tr2, fun i x t h1 h2 => ?_, fun i j a d e n e1 e2 f1 f2 => ?_⟩⟩
  · unfold backF
    rw [List.length_mapIdx]
    exact R.len
  · rcases at' i t h2 with ⟨p, c, a, hp, e2, rfl, h3, h4, h5⟩ | ⟨hn, h⟩
    · rw [h3] at h1
      cases h1
      obtain ⟨c', h⟩ := lent_at p hp
      rw [e2] at h
      obtain ⟨a', e', oa, _⟩ := R.own h
      rw [h3] at e'
      cases e'
      exact ⟨a, rfl, o2 a oa, h5.less w2⟩
    · have q := R.sl i x t h1 h
      have wg : ∀ a o, H a = some o → W2 a → W a := fun a o e z => (wn2 a z).elim id fun n => by rw [n] at e; cases e
      cases t with
      | un => trivial
      | dat d => obtain ⟨v, ev, rv⟩ := q; exact ⟨v, ev, Rx.go (fun a u e n => kp.rest a u e n) wg d v rv⟩
      | own d =>
        obtain ⟨a, ev, oa, ob⟩ := q
        subst ev
        refine ⟨a, rfl, o2 a oa, ob.go (fun a u e n => kp.rest a u e n) wg fun o e => s.keep.own a o e (R.ow a oa) fun l => ?_⟩
        obtain ⟨p, hp, ep⟩ := l
        obtain ⟨c', h'⟩ := lent_at p hp
        exact R.ne p.2 i a c' d (hn p hp) h' h ep h1
  · obtain ⟨d', e1'⟩ := wasOwn i d e1
    obtain ⟨e', e2'⟩ := wasOwn j e e2
    exact R.ne i j a d' e' n e1' e2' f1 f2
end
section
variable {X : Cx} {CX : CXT} {k : Nat} {f : Addr} {fd : FuncData} {ps : List Str} {x : Str} {p pos : Pos} {e : Expr} {es : List Expr} {F : List Nat} {g : FM} {as : List (M LV)}
theorem t_fn {K : PySem.W.Frag} {σ : L2.St} {H : Hp} {Q : VK} (h : tD K WF (mFn F g as) σ H Q) : tLs K WF (mLs as) σ H fun vs H1 => sp0 false F K g vs H1 Q E0 := by
  obtain ⟨W, O, ρ, R, h⟩ := h
  refine ⟨W, O, ρ, R, (Out.bind h).mono fun xs ρ1 H1 k1 R1 h1 vs rvs => ?_⟩
  split at h1
  case isFalse => exact h1.elim
  rename_i nd
  have nd := of_decide_eq_true nd
  cases ha : argS F ρ1 0 xs with
  | none => simp only [ha] at h1; exact h1.elim
  | some qs =>
    simp only [ha] at h1
    refine ⟨W, _, qs, call_in R1 rvs ha nd, ?_⟩
    have same : ∀ {W' O' : Addr → Prop} {H' : Hp} {ps' : List Slot}, (∀ W2 O2 : Addr → Prop, (∀ b, W2 b → W' b) → (∀ b, O b → O2 b) → (∀ b, O2 b → W2 b) → (∀ b, W2 b → W b ∨ H1 b = none) → (∀ b, W2 b → ∃ o, H' b = some o) → SRel K W2 O2 H' σ (backF (ioIx F 0 xs) ps' ρ1)) →
        (∀ a, W a → W' a) → Step W (Lent σ (ioIx F 0 xs)) H1 W' O' H' → SRel K W O H' σ (backF (ioIx F 0 xs) ps' ρ1) := fun {W' O' H' ps'} z ww s => z W O ww (fun _ => id) R1.ow (fun _ => .inl) fun b w => let ⟨o, e⟩ := R1.tr b w; s.dom b o e
    generalize hr : g qs = r at h1
    match r, h1 with
    | some (.ok d ps'), h1 =>
      intro v W' O' H' s io rv
      obtain ⟨kp, ww, R2⟩ := call_out R1 rvs ha s io
      exact h1 H' kp (same R2 ww s) v (Rx.less rv ww)
    | some (.ex e ps'), h1 =>
      intro c dx W' O' H' s io ex
      obtain ⟨kp, ww, R2⟩ := call_out R1 rvs ha s io
      obtain ⟨a, h1', h2, h3⟩ := ex
      refine h1 c dx H' kp (same R2 ww s) ⟨a, h1', h2, h3.imp id ?_⟩
      rintro ⟨d, fs, z1, z2, z3⟩
      exact ⟨d, fs, z1, z2, z3.less ww⟩
theorem t_fnF {K : PySem.W.Frag} {σ : L2.St} {H : Hp} {Q : VK} (h : tF K WF (mFn F g as) σ H Q) : tLs K WF (mLs as) σ H fun vs H1 => sp0 true F K g vs H1 Q E0 := by
  obtain ⟨W, O, ρ, R, h⟩ := h
  refine ⟨W, O, ρ, R, (Out.bind h).mono fun xs ρ1 H1 k1 R1 h1 vs rvs => ?_⟩
  split at h1
  case isFalse => exact h1.elim
  rename_i nd
  have nd := of_decide_eq_true nd
  cases ha : argS F ρ1 0 xs with
  | none => simp only [ha] at h1; exact h1.elim
  | some qs =>
    simp only [ha] at h1
    refine ⟨W, _, qs, call_in R1 rvs ha nd, ?_⟩
    have same : ∀ {W' O' : Addr → Prop} {H' : Hp} {ps' : List Slot}, (∀ W2 O2 : Addr → Prop, (∀ b, W2 b → W' b) → (∀ b, O b → O2 b) → (∀ b, O2 b → W2 b) → (∀ b, W2 b → W b ∨ H1 b = none) → (∀ b, W2 b → ∃ o, H' b = some o) → SRel K W2 O2 H' σ (backF (ioIx F 0 xs) ps' ρ1)) →
        (∀ a, W a → W' a) → Step W (Lent σ (ioIx F 0 xs)) H1 W' O' H' → SRel K W O H' σ (backF (ioIx F 0 xs) ps' ρ1) := fun {W' O' H' ps'} z ww s => z W O ww (fun _ => id) R1.ow (fun _ => .inl) fun b w => let ⟨o, e⟩ := R1.tr b w; s.dom b o e
    generalize hr : g qs = r at h1
    match r, h1 with
    | some (.ok d ps'), h1 =>
      intro v W' O' H' s io rv
      obtain ⟨kp, ww, R2⟩ := call_out R1 rvs ha s io
      have rv : ∃ a, v = .ref a ∧ O' a ∧ OwnAt K W' H' a d ∧ ∀ j ∈ F, vs[j]? ≠ some (.ref a) := rv
      obtain ⟨a, rfl, oa, ob, nn⟩ := rv
      have na : H1 a = none := by
        rcases s.ow a oa with l | l
        · exfalso
          obtain ⟨q, hq, eq⟩ := l
          obtain ⟨_, hc, hx⟩ := ioIx_ge hq
          rw [Nat.sub_zero] at hx
          have hj : q.1 ∈ F := by simpa [List.contains_iff_mem] using hc
          obtain ⟨a', c, h1', _⟩ := io.io q.1 hj
          obtain ⟨y, hy, ry⟩ := lrels_at rvs h1'
          rw [hx] at hy
          cases hy
          have ry : σ[q.2]? = some (some (.ref a')) := ry
          rw [eq] at ry
          cases ry
          exact nn q.1 hj h1'
        · exact l
      obtain ⟨o, eo⟩ := ob.some
      have wp : ∀ b, plus W a b → W' b := fun b z => z.elim (ww b) fun q => by rw [q]; exact io.ow a oa
      refine h1 H' kp (same R2 ww s) a ?_ (R1.dom k1 na) (ob.less wp)
      exact R2 _ _ wp (fun b => .inl) (fun b z => z.elim (fun q => .inl (R1.ow b q)) .inr) (fun b z => z.elim .inl fun q => .inr (by rw [q]; exact na)) fun b z => z.elim (fun w => let ⟨o', e'⟩ := R1.tr b w; s.dom b o' e') fun q => by rw [q]; exact ⟨o, eo⟩
    | some (.ex e ps'), h1 =>
      intro c dx W' O' H' s io ex
      obtain ⟨kp, ww, R2⟩ := call_out R1 rvs ha s io
      obtain ⟨a, h1', h2, h3⟩ := ex
      refine h1 c dx H' kp (same R2 ww s) ⟨a, h1', h2, h3.imp id ?_⟩
      rintro ⟨d, fs, z1, z2, z3⟩
      exact ⟨d, fs, z1, z2, z3.less ww⟩
end
/-- a def of the text that may be called by its name -/
structure CalG (P : Program) (w : World) (K : PySem.W.Frag) (mg : Str → Option Value) (base : Heap) (k : Nat) (x : Str) (fr : Bool) (F : List Nat) (g : FM) : Prop where
  ex : ∃ (f : Addr) (fd : FuncData) (ps : List Str), FnG P w K mg base CX0 k f fd ps (sp0 fr F K g) ∧ mg x = some (.ref f) ∧ PySem.W.keepIn K (.ref f) = true ∧ Binds K fd ps []
section
variable {X : Cx} {j k : Nat} {x : Str} {p pos : Pos} {e : Expr} {es : List Expr} {F : List Nat} {g : FM} {as : List (M LV)}
theorem dFn (C : CalG X.prog X.w X.K X.mg X.base j x false F g) (hr : Room k X.A) (hj : j ≤ k) (hgd : X.A.guards = some []) (ha : PA X (e :: es) (tLs X.K WF (mLs as))) (hg : Gl X x := by rfl) (hdb : (x == ("__debug__" : Str)) = false := by decide)
    (he : starEach (e :: es) X.env = (false, eval e X.env) :: starEach es X.env := by rfl) (hpl : (backTo pos (starEach es X.env)).any (·.1) = false := by rfl) : PE X (.Call (.Name x p) (e :: es) [] pos) (tD X.K WF (mFn F g as)) := by
  obtain ⟨f, fd, ps, Fn, hm, hk, hb⟩ := C.ex
  exact PE.imp ((Fn.up hj).pe (E := E0) hr hgd hm hk hb pass0 ha hg hdb he hpl) fun _ _ _ h => t_fn h
theorem fFn (C : CalG X.prog X.w X.K X.mg X.base j x true F g) (hr : Room k X.A) (hj : j ≤ k) (hgd : X.A.guards = some []) (ha : PA X (e :: es) (tLs X.K WF (mLs as))) (hg : Gl X x := by rfl) (hdb : (x == ("__debug__" : Str)) = false := by decide)
    (he : starEach (e :: es) X.env = (false, eval e X.env) :: starEach es X.env := by rfl) (hpl : (backTo pos (starEach es X.env)).any (·.1) = false := by rfl) : PE X (.Call (.Name x p) (e :: es) [] pos) (tF X.K WF (mFn F g as)) := by
  obtain ⟨f, fd, ps, Fn, hm, hk, hb⟩ := C.ex
  exact PE.imp ((Fn.up hj).pe (E := E0) hr hgd hm hk hb pass0 ha hg hdb he hpl) fun _ _ _ h => t_fnF h
end

/-! ### a call whose last argument is made there and lent -/
def tLsT (K : PySem.W.Frag) (Ew : WX) (m : M (List LV)) (md : M D) : TA := fun σ H Q => ∃ W O ρ, SRel K W O H σ ρ ∧ Out K Ew W O σ H (fun xs ρ1 H1 =>
  Out K Ew W O σ H1 (fun d ρ2 H2 => ∀ vs a, LRels K (plus W a) H2 σ vs xs → SRel K (plus W a) (plus O a) H2 σ ρ2 → H1 a = none → OwnAt K (plus W a) H2 a d → Q (vs ++ [.ref a]) H2) (md ρ1)) (m ρ)
def mFnT (F : List Nat) (f : FM) (as : List (M LV)) (md : M D) : M D := do
  let xs ← mLs as
  let d ← md
  fun ρ => if decide ((ioIx F 0 (xs ++ [.slot ρ.length])).map (·.2)).Nodup && F.contains xs.length then match argS F (ρ ++ [.own d]) 0 (xs ++ [.slot ρ.length]) with
    | some ps => match f ps with
      | some (.ok r ps') => some (.ok r ((backF (ioIx F 0 (xs ++ [.slot ρ.length])) ps' (ρ ++ [.own d])).take ρ.length))
      | _ => none
    | none => none
  else none
section
variable {K : PySem.W.Frag} {W O : Addr → Prop} {σ : L2.St} {H : Hp} {ρ : List Slot} {F : List Nat}
theorem lrels_snoc {v : V} {x : LV} : ∀ {vs : List V} {xs : List LV}, LRels K W H σ vs xs → LRel K W H σ v x → LRels K W H σ (vs ++ [v]) (xs ++ [x])
  | _, _, .nil, r => .cons r .nil
  | _, _, .cons r1 t, r => .cons r1 (lrels_snoc t r)
theorem SRel.snoc {a : Addr} {d : D} (R : SRel K W O H σ ρ) (oa : O a) (ob : OwnAt K W H a d) (nw : ∀ (j : Nat) (e : D), ρ[j]? = some (.own e) → σ[j]? ≠ some (some (.ref a))) : SRel K W O H (σ ++ [some (.ref a)]) (ρ ++ [.own d]) := by
  have hl := R.len
  have cs : ∀ (i : Nat) (x : Option V) (s : Slot), (σ ++ [some (.ref a)])[i]? = some x → (ρ ++ [Slot.own d])[i]? = some s → (σ[i]? = some x ∧ ρ[i]? = some s) ∨ (i = σ.length ∧ x = some (.ref a) ∧ s = .own d) := fun i x s h1 h2 => by
    by_cases q : i < σ.length
    · rw [List.getElem?_append_left q] at h1
      rw [List.getElem?_append_left (by omega)] at h2
      exact .inl ⟨h1, h2⟩
    · rw [List.getElem?_append_right (by omega)] at h1 h2
      have z : i - σ.length = 0 := by
        obtain ⟨hi, _⟩ := List.getElem?_eq_some_iff.mp h1
        simp at hi
        omega
      rw [← hl] at h2
      rw [z] at h1 h2
      simp at h1 h2
      exact .inr ⟨by omega, h1.symm, h2.symm⟩
  refine ⟨by simp [hl], R.ow, R.tr, fun i x s h1 h2 => ?_, fun i j b d1 d2 n e1 e2 f1 f2 => ?_⟩
  · rcases cs i x s h1 h2 with ⟨q1, q2⟩ | ⟨_, rfl, rfl⟩
    · exact R.sl i x s q1 q2
    · exact ⟨a, rfl, oa, ob⟩
  · rcases cs i _ _ f1 e1 with ⟨q1, q2⟩ | ⟨z1, y1, _⟩ <;> rcases cs j _ _ f2 e2 with ⟨q3, q4⟩ | ⟨z2, y2, _⟩
    · exact R.ne i j b d1 d2 n q2 q4 q1 q3
    · cases y2
      exact nw i d1 q2 q1
    · cases y1
      exact nw j d2 q4 q3
    · exact n (z1.trans z2.symm)
theorem lrel_snoc {v w : V} {x : LV} (h : LRel K W H σ v x) : LRel K W H (σ ++ [some w]) v x := by
  cases x with
  | dat d => exact h
  | slot i =>
    have h : σ[i]? = some (some v) := h
    show (σ ++ [some w])[i]? = _
    rw [List.getElem?_append_left (List.getElem?_eq_some_iff.mp h).1]
    exact h
theorem lrels_snocS {w : V} : ∀ {vs : List V} {xs : List LV}, LRels K W H σ vs xs → LRels K W H (σ ++ [some w]) vs xs
  | _, _, .nil => .nil
  | _, _, .cons r t => .cons (lrel_snoc r) (lrels_snocS t)
theorem LRel.fresh {H' : Hp} {a : Addr} {v : V} {x : LV} (h : LRel K W H σ v x) (n : H a = none) (k : KeepO W O H H') : LRel K (plus W a) H' σ v x := by
  cases x with
  | dat d =>
    refine Rx.go (W := W) (W' := CF.plus W a) (fun b u e nb => k.rest b u e nb) (fun b o e z => ?_) d v h
    rcases z with z | z
    · exact z
    · rw [z, n] at e; cases e
  | slot i => exact h
theorem SRel.unsnoc {a : Addr} {ρa : List Slot} {c : D} (R : SRel K (CF.plus W a) (CF.plus O a) H (σ ++ [some (.ref a)]) ρa) (ow : ∀ b, O b → W b) (hc : ρa[σ.length]? = some (.own c)) : SRel K W O H σ (ρa.take σ.length) := by
  have hl := R.len
  rw [List.length_append, List.length_singleton] at hl
  have up : ∀ (i : Nat) (s : Slot), (ρa.take σ.length)[i]? = some s → i < σ.length ∧ ρa[i]? = some s := fun i s h => by
    have hi : i < σ.length := by
      have := (List.getElem?_eq_some_iff.mp h).1
      rw [List.length_take] at this
      omega
    rw [List.getElem?_take_of_lt hi] at h
    exact ⟨hi, h⟩
  have us : ∀ (i : Nat), i < σ.length → (σ ++ [some (V.ref a)])[i]? = σ[i]? := fun i h => List.getElem?_append_left h
  have ul : (σ ++ [some (V.ref a)])[σ.length]? = some (some (.ref a)) := by
    rw [List.getElem?_append_right (Nat.le_refl _), Nat.sub_self]
    rfl
  refine ⟨by rw [List.length_take]; omega, ow, fun b w => R.tr b (.inl w), fun i x s h1 h2 => ?_, fun i j b d1 d2 n e1 e2 f1 f2 => ?_⟩
  · obtain ⟨hi, h2⟩ := up i s h2
    have q := R.sl i x s (by rw [us i hi]; exact h1) h2
    cases s with
    | un => trivial
    | dat d => obtain ⟨v, ev, rv⟩ := q; exact ⟨v, ev, rv.less fun b z => .inl z⟩
    | own d =>
      obtain ⟨b, ev, ob, rb⟩ := q
      refine ⟨b, ev, ob.elim id fun z => ?_, rb.less fun b z => .inl z⟩
      subst ev
      subst z
      exact (R.ne i σ.length b d c (Nat.ne_of_lt hi) h2 hc (by rw [us i hi]; exact h1) ul).elim
  · obtain ⟨q1, e1⟩ := up i _ e1
    obtain ⟨q2, e2⟩ := up j _ e2
    exact R.ne i j b d1 d2 n e1 e2 (by rw [us i q1]; exact f1) (by rw [us j q2]; exact f2)
end
section
variable {X : Cx} {j k : Nat} {x : Str} {p pos : Pos} {e : Expr} {es : List Expr} {F : List Nat} {g : FM} {as : List (M LV)} {ma : M LV} {md : M D}
theorem aT1 (he : PE X e (tF X.K WF md)) (hs : starEach [e] X.env = (false, eval e X.env) :: starEach [] X.env := by rfl) : PA X [e] (tLsT X.K WF (mLs []) md) :=
  PA.imp (pa_cons he pa_nil hs) fun σ H Q ⟨W, O, ρ, R, h⟩ => ⟨W, O, ρ, R, (h H KeepO.refl R).mono fun d ρ2 H2 k2 R2 q a Rp n o => q [] a .nil Rp n o⟩
theorem aTc (he : PE X e (tL X.K WF ma)) (hr : PA X es (tLsT X.K WF (mLs as) md)) (hs : starEach (e :: es) X.env = (false, eval e X.env) :: starEach es X.env := by rfl) : PA X (e :: es) (tLsT X.K WF (mLs (ma :: as)) md) :=
  PA.imp (pa_cons he hr hs) fun σ H Q ⟨W, O, ρ, R, h⟩ => ⟨W, O, ρ, R, (Out.bind h).mono fun x ρ1 H1 k1 R1 h1 v rv => ⟨W, O, ρ1, R1, (Out.bind h1).mono fun xs ρ2 H2 k2 R2 h2 =>
    (h2 H2 KeepO.refl R2).mono fun d ρ3 H3 k3 R3 q vs a rvs Rp n o => q (v :: vs) a (.cons ((rv.keep R1 k2).fresh n k3) rvs) Rp n o⟩⟩
theorem t_fnT {K : PySem.W.Frag} {σ : L2.St} {H : Hp} {Q : VK} (h : tD K WF (mFnT F g as md) σ H Q) : tLsT K WF (mLs as) md σ H fun vs H1 => sp0 false F K g vs H1 Q E0 := by
  obtain ⟨W, O, ρ, R, h⟩ := h
  refine ⟨W, O, ρ, R, (Out.bind h).mono fun xs ρ1 H1 k1 R1 h1 => ?_⟩
  have h1 : Out K WF W O σ H1 (fun d _ H' => ∀ v, Rx K W H' v d → Q v H') (M.bind md _ ρ1) := h1
  unfold M.bind at h1
  generalize md ρ1 = r0 at h1
  match r0, h1 with
  | some (.ex e ρ'), h1 => exact h1
  | some (.ok d ρ2), h1 =>
    simp only at h1
    intro H2 k2 R2 vs a rvs Rp na oa
    split at h1
    case isFalse => exact h1.elim
    rename_i nd
    rw [Bool.and_eq_true] at nd
    obtain ⟨nd, hlast⟩ := nd
    have nd := of_decide_eq_true nd
    have nWa : ¬ W a := fun w => by
      obtain ⟨o, e⟩ := R1.tr a w
      rw [na] at e
      cases e
    have Ra := Rp.snoc (.inr rfl) oa fun i c e1 e2 => by
      obtain ⟨b, e3, ob, _⟩ := R2.own e1
      rw [e2] at e3
      cases e3
      exact nWa (R2.ow _ ob)
    have rva : LRels K (plus W a) H2 (σ ++ [some (.ref a)]) (vs ++ [.ref a]) (xs ++ [.slot ρ2.length]) := by
      refine lrels_snoc (lrels_snocS rvs) ?_
      show (σ ++ [some (V.ref a)])[ρ2.length]? = _
      rw [← R2.len, List.getElem?_append_right (Nat.le_refl _), Nat.sub_self]
      rfl
    cases ha : argS F (ρ2 ++ [.own d]) 0 (xs ++ [.slot ρ2.length]) with
    | none => simp only [ha] at h1; exact h1.elim
    | some qs =>
      simp only [ha] at h1
      refine ⟨plus W a, _, qs, call_in Ra rva ha nd, ?_⟩
      generalize hr : g qs = r at h1
      match r, h1 with
      | some (.ok z ps'), h1 =>
        intro v W' O' H' s io rv
        obtain ⟨kp, ww, R3⟩ := call_out Ra rva ha s io
        have R4 := R3 _ _ ww (fun _ => id) Ra.ow (fun _ => .inl) fun b w => let ⟨o, e⟩ := Ra.tr b w; s.dom b o e
        have na' : ∀ b o, H1 b = some o → b ≠ a := fun b o e z => by rw [z, na] at e; cases e
        have kp' : KeepO W O H1 H' := by
          constructor
          · intro b o e w n
            exact kp.own b o (k2.own b o e w n) (.inl w) fun z => z.elim n (na' b o e)
          · intro b u e n
            obtain ⟨o, eo⟩ := rd_some e
            exact kp.rest b u (k2.rest b u e n) fun z => z.elim n (na' b o eo)
          · intro b o u e n
            exact kp.frz b o u (k2.frz b o u e n) fun z => z.elim n (na' b _ e)
          · intro b xs e n
            exact kp.lst b xs (k2.lst b xs e n) fun z => z.elim n (na' b _ e)
        have last : ∃ c, (backF (ioIx F 0 (xs ++ [.slot ρ2.length])) ps' (ρ2 ++ [.own d]))[σ.length]? = some (.own c) := by
          rw [backF_at, R2.len, List.getElem?_append_right (Nat.le_refl _), Nat.sub_self]
          have mem : (xs.length, ρ2.length) ∈ ioIx F 0 (xs ++ [.slot ρ2.length]) := by
            have := ioIx_mem (F := F) (xs := xs ++ [.slot ρ2.length]) (j := 0) (n := xs.length) (i := ρ2.length) (by rw [List.getElem?_append_right (Nat.le_refl _), Nat.sub_self]; rfl) (by rw [Nat.zero_add]; exact hlast)
            rw [Nat.zero_add] at this
            exact this
          cases hf : (ioIx F 0 (xs ++ [.slot ρ2.length])).find? fun p => p.2 == ρ2.length with
          | none =>
            have := List.find?_eq_none.mp hf _ mem
            simp at this
          | some p =>
            have hm := List.mem_of_find?_eq_some hf
            obtain ⟨_, hc, _⟩ := ioIx_ge hm
            obtain ⟨_, c, _, h2, _⟩ := io.io p.1 (by simpa [List.contains_iff_mem] using hc)
            refine ⟨c, ?_⟩
            simp [List.getD_eq_getElem?_getD, h2]
        obtain ⟨c, hcl⟩ := last
        have R5 := R4.unsnoc R2.ow hcl
        rw [R2.len] at R5
        exact h1 H' kp' R5 v (Rx.less rv fun b w => ww b (.inl w))
      | some (.ex _ _), h1 => exact h1.elim
      | none, h1 => exact h1.elim
theorem dFnT (C : CalG X.prog X.w X.K X.mg X.base j x false F g) (hr : Room k X.A) (hj : j ≤ k) (hgd : X.A.guards = some []) (ha : PA X (e :: es) (tLsT X.K WF (mLs as) md)) (hg : Gl X x := by rfl) (hdb : (x == ("__debug__" : Str)) = false := by decide)
    (he : starEach (e :: es) X.env = (false, eval e X.env) :: starEach es X.env := by rfl) (hpl : (backTo pos (starEach es X.env)).any (·.1) = false := by rfl) : PE X (.Call (.Name x p) (e :: es) [] pos) (tD X.K WF (mFnT F g as md)) := by
  obtain ⟨f, fd, ps, Fn, hm, hk, hb⟩ := C.ex
  exact PE.imp ((Fn.up hj).pe (E := E0) hr hgd hm hk hb pass0 ha hg hdb he hpl) fun _ _ _ h => t_fnT h
end
end CF
end
section
/-! CF, part t: the top: the law is called. -/
namespace CF
open PySem PySem.Spec PyProof.Rows L2
section
variable {P : Program} {w : World} {K : PySem.W.Frag} {mg mb : Str → Option Value} {k : Nat} {fa a : Addr} {fd : FuncData} {x : Str} {sp : Sp} {s1 : Shared} {vs : List Value} {ns : List Int}
def wants (s1 : Shared) (r : Result) (s' : Shared) : Prop := r = .ok (.ret (.bool true)) ∧ OldK s1.heap s'.heap ∧ s'.os = s1.os ∧ AllBare s'.gens
theorem law_at {H : Hp} (KX : K.In s1.heap) (hns : s1.heap.Ns mainGlobals mg) (hb : s1.heap.Ns builtinsNs mb) (hbb : ∀ y : Str, y ≠ "__name__" → mb y = bootBuiltins y) (hlim : s1.heap.NoLimit) (hg : s1.gens = #[])
    (ha : s1.heap.get? a = some { cls := .type "list", data := .seq vs.toArray }) (hr : Room k callerA) (F : ∀ base : Heap, K.In base → base.Ns mainGlobals mg → FnG P w K mg base CX0 k fa fd [x] sp)
    (hbind : ∀ (s : Shared) (u : Value), BindsTo s fd ⟨[u], []⟩ [(x, u)]) (hsp : sp [.ref a] H (fun v _ => v = .bl true) E0) (hO : Only H) (hok : HOk P w H s1.heap) (hA : ∀ b, H b ≠ none → b = a) (hK : H a ≠ none → K.lookup a = none) :
    codeAny (model P w) callerA (.call (.ref fa) ⟨[.ref a], []⟩) (wants s1) s1 := by
  have plainNs : ∀ {b : Addr} {m : Str → Option Value}, s1.heap.Ns b m → (hidT s1.heap H).Ns b m := by
    rintro b m ⟨o, es, ep, e, d, r⟩
    refine ⟨o, es, ep, hidT_get e ?_, d, r⟩
    cases q : H b with
    | none => rfl
    | some u =>
      cases hA b (by rw [q]; simp)
      rw [ha] at e
      cases e
      exact nomatch (show Data.seq vs.toArray _ = Data.dict es ep from d)
  have kin : K.In (hidT s1.heap H) := by
    intro b o e
    refine hidT_get (KX b o e) ?_
    cases q : H b with
    | none => rfl
    | some u =>
      cases hA b (by rw [q]; simp)
      rw [hK (by rw [q]; simp)] at e
      cases e
  obtain ⟨mc, l1, l2⟩ := hlim
  have md : Mod K mg (hidT s1.heap H) := ⟨kin, plainNs hns, ⟨mb, plainNs hb, hbb⟩, ⟨mc, plainNs l1, l2⟩⟩
  have nf : ∀ b ∈ frs [], H b = none := fun b z => absurd (show b ∈ ([] : List Addr) from z) (by simp)
  have e0 : Env0 P w K mg (hidT s1.heap H) callerA [] s1 H := ⟨rfl, md, fun _ _ e => of_hidT e, Nat.le_of_eq (hidT_size _ _), trivial, nf, hok, .of_eq hg⟩
  refine codeAny_mono ((F _ kin (plainNs hns)).go (us := [.ref a]) (vs := [.ref a]) hr rfl e0 (hbind s1 (.ref a)) (.cons rfl .nil) hsp) ?_
  intro r s' h
  match r, h with
  | .error e, h => exact h.elim
  | .ok (.ret u), h =>
    obtain ⟨v, H', os, bare, un, hok', rv, rfl⟩ := h
    cases (show u = Value.bool true from rv)
    refine ⟨rfl, OldK.of_keep ?_, os, bare⟩
    intro b o e
    rcases hO b with z | ⟨ob, xs, z⟩
    · exact un.keep b o e z (fun q => absurd (show b ∈ ([] : List Addr) from q) (by simp)) (by simp)
    · have e1 := (hok b _ z).1
      rw [e] at e1
      cases e1
      exact (hok' b _ (un.frzs b _ _ z)).1
/-- THE HEAD -/
theorem law_top (KX : K.In s1.heap) (hns : s1.heap.Ns mainGlobals mg) (hb : s1.heap.Ns builtinsNs mb) (hbb : ∀ y : Str, y ≠ "__name__" → mb y = bootBuiltins y) (hlim : s1.heap.NoLimit) (hg : s1.gens = #[])
    (ha : s1.heap.get? a = some { cls := .type "list", data := .seq vs.toArray }) (hi : IntsAre vs ns) (hl : ns.length ≤ sizeLine) (hr : Room k callerA) (F : ∀ base : Heap, K.In base → base.Ns mainGlobals mg → FnG P w K mg base CX0 k fa fd [x] sp)
    (hbind : ∀ (s : Shared) (u : Value), BindsTo s fd ⟨[u], []⟩ [(x, u)]) (hsp : ∀ H : Hp, Only H → SqL K H a (ns.map V.int) → sp [.ref a] H (fun v _ => v = .bl true) E0) :
    codeAny (model P w) callerA (.call (.ref fa) ⟨[.ref a], []⟩) (wants s1) s1 := by
  have rv := CF.vals_ints hi
  have lv := hi.length
  cases hk : K.lookup a with
  | some o =>
    have e := KX a o hk
    rw [ha] at e
    cases e
    have hS : SqL K (fun _ => none) a (ns.map V.int) := .inr ⟨_, vs.toArray, _, hk, rfl, rfl, rfl, by rw [List.size_toArray, lv]; exact hl, by simpa using rv⟩
    have hO : Only (fun _ => none) := fun _ => .inl rfl
    exact law_at KX hns hb hbb hlim hg ha hr F hbind (hsp _ hO hS) hO (fun b u z => nomatch (show (none : Option HO) = some u from z)) (fun b z => absurd rfl z) fun z => absurd rfl z
  | none =>
    let ob : Obj := { cls := .type "list", data := .seq vs.toArray }
    let H : Hp := fun b => if b = a then some (.frz ob (.lst (ns.map V.int))) else none
    have at_a : H a = some (.frz ob (.lst (ns.map V.int))) := if_pos rfl
    have off : ∀ b, b ≠ a → H b = none := fun b h => if_neg h
    have hO : Only H := fun b => if h : b = a then .inr ⟨ob, ns.map V.int, by rw [h]; exact at_a⟩ else .inl (off b h)
    refine law_at (H := H) KX hns hb hbb hlim hg ha hr F hbind (hsp H hO (.inl (.inr ⟨ob, at_a⟩))) hO ?_ ?_ fun _ => hk
    · intro b u z
      by_cases h : b = a
      · subst h
        rw [at_a] at z
        cases z
        exact ⟨ha, by rw [List.length_map]; exact hl, vs, _, rv, ha⟩
      · rw [off b h] at z
        cases z
    · intro b z
      by_cases h : b = a
      · exact h
      · exact absurd (off b h) z
end
theorem walkG {l : PySem.W.OpenLaw} {n k : Nat} {q : Program} {loose : List Str} {XP : (Str → Option Value) → Heap → Prop} {YP : World → Heap → Prop} {d : DefRec} {K : Params → PySem.W.Frag} {sp : World → Sp} {x : Str}
    (hn : l.most = some n) (hn2 : n ≤ sizeLine) (hdf : d.params.defaults = []) (hr : Room k callerA) (hY : ∀ (w : World) (h : Heap), YP w h → (K w.params).In h)
    (F : ∀ (w : World) (mg : Str → Option Value) (fa : Addr) (h : Heap), (K w.params).In h → h.Ns mainGlobals mg → mg d.name = some (.ref fa) →
      ∃ fd : FuncData, (∀ (s : Shared) (u : Value), BindsTo s fd ⟨[u], []⟩ [(x, u)]) ∧ ∀ base : Heap, (K w.params).In base → base.Ns mainGlobals mg → FnG l.prog w (K w.params) mg base CX0 k fa fd [x] (sp w))
    (hsp : ∀ (w : World) (H : Hp) (a : Addr) (ns : List Int), ns.length ≤ n → Only H → SqL (K w.params) H a (ns.map V.int) → sp w [.ref a] H (fun v _ => v = .bl true) E0) :
    PySem.W.WalkO q loose XP YP l.row.toRowW d [] (fun f vs => PySem.call f vs) := by
  refine Att.attach_call hn hdf ?_
  intro w s0 s1 mg mb fa o pm cd doc a vs ns G Y ho hd hcd hmg hobj hints hlen hg
  obtain ⟨fd, hbd, hF⟩ := F w mg fa _ (hY w _ Y) G.T.g hmg
  exact law_top (hY w _ Y) G.T.g G.T.b G.T.builtins G.T.nolimit hg hobj hints (Nat.le_trans hlen hn2) hr hF hbd fun H hO hS => hsp w H a ns hlen hO hS
end CF
end
section
/-! CF, part u: the bag of the script, the law's own def. -/
namespace CF
open PySem PySem.Spec PyProof.Rows L2

def absI (i : Int) : Int := if i < 0 then -i else i
def absN (ns : List Int) : List D := ns.map fun i => .int (absI i)
def bagT (ns : List Int) : D := .list [.int 0, .int 1234567891, .int 0, .list (absN ns)]
def spBag (K : PySem.W.Frag) : Sp := fun vs H Q _ => ∃ a ns, vs = [.ref a] ∧ SqL K H a (ns.map V.int) ∧ ns.length ≤ 63 ∧ ∀ H' p, OwnAt K (fun b => b = p) H' p (bagT ns) → Q (.ref p) H'
abbrev tBagSrc (K : PySem.W.Frag) : TI := iList K (tSl (rSlL K) (L2.tVar 0) tNoPart (tPart (tC (.int 63))))
abbrev tBag (K : PySem.W.Frag) : TS := tRet (tLst (tCons (tC (.int 0)) (tCons (tC (.int 1234567891)) (tCons (tC (.int 0)) (tCons (tLc (tBagSrc K) (tB K [1] (setS 1)) (tT K WF mYes) (tD K WF (mCall absC [mPk 1])) [1]) L2.tNil)))))
theorem bag_go : ∀ (ns : List Int) (acc : List D) (s : Slot), acc.length + ns.length < sizeLine → ∃ ρe, lcGo [1] (setS 1) mYes (mCall absC [mPk 1]) (ns.map PyData.int) acc [.un, s] = some (.ok (acc ++ absN ns) ρe)
  | [], acc, s, _ => ⟨_, by simp [absN]; rfl⟩
  | n :: ns, acc, s, h => by
    rw [List.length_cons] at h
    have h2 : acc.length < sizeLine := by omega
    obtain ⟨ρe, ih⟩ := bag_go ns (acc ++ [.int (absI n)]) (.dat (.int n)) (by rw [List.length_append, List.length_singleton]; omega)
    refine ⟨ρe, ?_⟩
    rw [List.append_assoc] at ih
    rw [show absN (n :: ns) = [.int (absI n)] ++ absN ns from rfl]
    have e : lcGo [1] (setS 1) mYes (mCall absC [mPk 1]) ((n :: ns).map PyData.int) acc [.un, s] = (if acc.length < sizeLine then lcGo [1] (setS 1) mYes (mCall absC [mPk 1]) (ns.map PyData.int) (acc ++ [.int (absI n)]) else fun _ => none) [.un, .dat (.int n)] := rfl
    rw [e, if_pos h2]
    exact ih
section
variable {K : PySem.W.Frag} {H : Hp} {vs : List V} {Q : VK} {E : XK} {N : List Str}
theorem cut63 {ns : List Int} (h : ns.length ≤ 63) : cutV (ns.map V.int) none (some 63) = ns.map V.int := by
  unfold cutV
  rw [HT.sIx_none, show HT.sIx (ns.map V.int).length (ns.map V.int).length (some 63) = min 63 (ns.map V.int).length from HT.sIx_nat _ _ 63, List.length_map, List.drop_zero]
  exact List.take_of_length_le (by rw [List.length_map]; omega)
theorem bag_read (hN : N.length = 2) (h : spBag K vs H Q E) : tBag K { nx := fun _ H' => Q .non H', rt := Q } (L2.start N vs) H := by
  obtain ⟨a, ns, rfl, hS, hl, q⟩ := h
  have es : L2.start N [V.ref a] = [some (.ref a), none] := by
    unfold L2.start
    rw [hN]
    rfl
  rw [es]
  refine ⟨.ref a, rfl, 63, rfl, a, ns.map V.int, rfl, hS, fun c nc => ⟨c, rfl, ⟨_, .inl (.inl upd_same)⟩, ?_⟩⟩
  have e63 := cut63 hl
  obtain ⟨ρe, go⟩ := bag_go ns [] .un (by rw [List.length_nil, sizeLine_eq]; omega)
  rw [List.nil_append] at go
  let H1 := upd H c (.lst (cutV (ns.map V.int) none (some 63)))
  have R1 : SRel K (fun _ => False) (fun _ => False) H1 [some (.ref a), none] [.un, .un] := by
    refine ⟨rfl, fun _ z => z, fun _ z => z.elim, fun i x s h1 h2 => ?_, fun i j b d e n e1 _ _ _ => ?_⟩
    · match i, h2 with
      | 0, h2 => cases h2; trivial
      | 1, h2 => cases h2; trivial
    · match i, e1 with
      | 0, e1 => cases e1
      | 1, e1 => cases e1
  have J : Src K (Itl K c) (fun _ => False) (fun _ => False) H1 (ns.map PyData.int) := src_list (fun z => z) (.inl upd_same) (by rw [e63]; exact ints_rxl ns)
  let Qn : VK := fun x H2 => [V.int 0, .int 1234567891, .int 0, x].length ≤ sizeLine ∧ ∀ p2, H2 p2 = none → Q (.ref p2) (upd H2 p2 (.lst [.int 0, .int 1234567891, .int 0, x]))
  show lcTurn K (setS 1) mYes (mCall absC [mPk 1]) [1] [1] [some (.ref a), none] Qn (Itl K c) H1
  refine lc_from (vs := [1]) (is := [1]) (hs := rfl) R1 J rfl go fun H' k R' p Rp np op => ?_
  -- the row itself
  refine ⟨show 4 ≤ sizeLine by decide, fun p2 n2 => q _ p2 ⟨_, upd_same, ?_⟩⟩
  have old : Rx K (fun b => b = p2) H' (.ref p) (.list (absN ns)) := by
    obtain ⟨xs, ex, lx⟩ := op
    have np2 : p ≠ p2 := fun z => by rw [← z, ex] at n2; cases n2
    refine .lst np2 (.inl ex) ?_
    exact RxL.go (fun _ _ e _ => e) (fun b o e z => by subst z; rw [n2] at e; cases e) _ _ lx
  exact .cons (.int _) (.cons (.int _) (.cons (.int _) (.cons (old.same (Same.upd n2)) .nil)))

/-! ### the law -/
def spTop (K : PySem.W.Frag) (n : Nat) (m : MS) : Sp := fun vs H Q _ => ∃ a ns, vs = [.ref a] ∧ SqL K H a (ns.map V.int) ∧ ns.length ≤ 63 ∧ (∃ ρ', m (.un :: .own (bagT ns) :: List.replicate n .un) = some (.ok (.rt (.bool true)) ρ')) ∧ ∀ H', Q (.bl true) H'
abbrev tTop (K : PySem.W.Frag) (m : MS) : TS := tSeq (tAsg (fun σ H Q => tCons (L2.tVar 0) L2.tNil σ H fun vs H1 => spBag K vs H1 Q E0) (gName 1)) (tS false [] K WF m)
theorem top_read {n : Nat} {m : MS} (hN : N.length = n + 2) (h : spTop K n m vs H Q E) : tTop K m { nx := fun _ H' => Q .non H', rt := Q } (L2.start N vs) H := by
  obtain ⟨a, ns, rfl, hS, hl, ⟨ρ', hm⟩, q⟩ := h
  have es : L2.start N [V.ref a] = some (.ref a) :: none :: List.replicate n none := by
    unfold L2.start
    rw [hN]
    rfl
  rw [es]
  refine ⟨.ref a, rfl, a, ns, rfl, hS, hl, fun H' p o => ?_⟩
  refine ⟨fun b => b = p, fun b => b = p, .un :: .own (bagT ns) :: List.replicate n .un, ?_, ?_⟩
  · have own : ∀ (i : Nat) (d : D), (Slot.un :: .own (bagT ns) :: List.replicate n .un)[i]? = some (.own d) → i = 1 := fun i d e => by
      match i, e with
      | 0, e => cases e
      | 1, e => rfl
      | i + 2, e =>
        rw [List.getElem?_cons_succ, List.getElem?_cons_succ, List.getElem?_replicate] at e
        split at e <;> cases e
    obtain ⟨ob, eo⟩ := o.some
    refine ⟨by simp, fun _ z => z, fun b z => ⟨ob, by rw [z]; exact eo⟩, fun i x s h1 h2 => ?_, fun i j b d e n e1 e2 _ _ => absurd ((own i d e1).trans (own j e e2).symm) n⟩
    match i, h1, h2 with
    | 0, h1, h2 => cases h2; trivial
    | 1, h1, h2 =>
      cases h2
      cases h1
      exact ⟨p, rfl, rfl, o⟩
    | i + 2, h1, h2 =>
      rw [List.getElem?_cons_succ, List.getElem?_cons_succ, List.getElem?_replicate] at h2
      split at h2
      · cases h2; trivial
      · cases h2
  · rw [hm]
    intro W' O' σ' H2 s R' f v rv
    cases (show Rx K W' H2 v (.bool true) from rv)
    exact q H2
end
end CF
end
section
/-! CF, part v: displays of dicts; the text's defs. -/
namespace CF
open PySem PySem.Spec PyProof.Rows L2
section
variable {X : Cx} {Ew : WX} {pos : Pos}
theorem fDct0 : PE X (.Dict [] [] pos) (tF X.K Ew (mC (.dict []))) :=
  PE.imp pe_dnewK fun σ H Q ⟨W, O, ρ, R, h⟩ p n => by
    have s : Same H (upd H p (.dK [])) := Same.upd n
    obtain ⟨g1, g2, g3, g4⟩ := fresh_end KeepO.refl R s n (r := .dict []) ⟨_, upd_same, .nil⟩
    exact h _ g3 g4 p g1 g2 ⟨_, upd_same, .nil⟩
end
/-- a def of the text under its name -/
structure DefG (K : PySem.W.Frag) (mg : Str → Option Value) (x : Str) (st : Stmt) (ps : List Str) : Prop where
  ex : ∃ (f : Addr) (fd : FuncData), Fun K x x st f fd ∧ mg x = some (.ref f) ∧ Binds K fd ps []
section
variable {P : Program} {w : World} {K : PySem.W.Frag} {mg : Str → Option Value} {base : Heap} {k nl : Nat} {x : Str} {st : Stmt} {ps N : List Str} {fr : Bool} {F : List Nat} {m : MS}
theorem DefG.cal (nl : Nat) (D : DefG K mg x st ps) (S : FnScope N ps (defScope st)) (hF : (F.all fun i => decide (i < ps.length)) = true) (hN : N.length = ps.length + nl)
    (hb : ∀ (f : Addr) (cdv : Value) (A : Around) (outer : List Env) (s : Shared) (H : Hp) (E : XK), Room k (A.deeper (envOfC x (defScope st) s.heap.objs.size f cdv)) → A.guards = some [] →
      PSs (cxOf CX0 P w K mg base N x (defScope st) f cdv A outer s H E).nox (defBody st) (tS fr F K WF m)) : CalG P w K mg base (k + 1) x fr F (runF fr ps.length nl F m) := by
  obtain ⟨f, fd, Fn, hm, hb'⟩ := D.ex
  exact ⟨f, fd, ps, gDef nl Fn S hF hN (hb f), hm, Fn.kp, hb'⟩
theorem CalG.up {j k : Nat} {g : FM} (C : CalG P w K mg base j x fr F g) (h : j ≤ k) : CalG P w K mg base k x fr F g := by
  obtain ⟨f, fd, ps, Fn, a, b, c⟩ := C.ex
  exact ⟨f, fd, ps, Fn.up h, a, b, c⟩
/-- a run that is never come to -/
def fm0 : FM := fun _ => none
theorem DefG.cal0 (D : DefG K mg x st ps) : CalG P w K mg base k x fr F fm0 := by
  obtain ⟨f, fd, Fn, hm, hb'⟩ := D.ex
  exact ⟨f, fd, ps, ⟨fun vs H Q E ⟨W, O, qs, R, h⟩ => h.elim, fun _ _ _ _ _ ⟨W, O, qs, R, h⟩ => h.elim⟩, hm, Fn.kp, hb'⟩
theorem defG_mk {h : Heap} {f : Addr} {oc : Value} {od an : Option Addr} {osl : Array (Option Value)} {kV doc pm cdv ct : Value} (X : K.In h) (G : h.Ns mainGlobals mg) (a : PySem.W.nsIn K mainGlobals x = some (some (.ref f)))
    (l : K.lookup f = some ⟨oc, od, .func (PySem.W.fnOf x x (defArgs st) (defBody st) (defScope st) .none kV doc pm an cdv ct), osl⟩) (c : PySem.W.codeIn K cdv x = true) (k : PySem.W.keepIn K (.ref f) = true)
    (b : ∀ (kV doc pm : Value) (an : Option Addr) (cdv ct : Value) (us : List Value), us.length = ps.length → bindArgs (PySem.W.fnOf x x (defArgs st) (defBody st) (defScope st) .none kV doc pm an cdv ct) ⟨us, []⟩ = pure (ps.zip us)) : DefG K mg x st ps :=
  ⟨f, _, fun_mk l c k, PySem.W.mg_of X G a, (fun_mk l c k).binds b⟩
/-- the bag's def -/
structure BagG (P : Program) (w : World) (K : PySem.W.Frag) (mg : Str → Option Value) (base : Heap) (k : Nat) (x : Str) : Prop where
  ex : ∃ (f : Addr) (fd : FuncData) (ps : List Str), FnG P w K mg base CX0 k f fd ps (spBag K) ∧ mg x = some (.ref f) ∧ PySem.W.keepIn K (.ref f) = true ∧ Binds K fd ps []
theorem DefG.bag (D : DefG K mg x st ps) (S : FnScope N ps (defScope st)) (hp : ps.length = 1) (hN : N.length = 2)
    (hb : ∀ (f : Addr) (cdv : Value) (A : Around) (outer : List Env) (s : Shared) (H : Hp) (E : XK), PSs (cxOf CX0 P w K mg base N x (defScope st) f cdv A outer s H E).nox (defBody st) (tBag K)) : BagG P w K mg base (k + 1) x := by
  obtain ⟨f, fd, Fn, hm, hb'⟩ := D.ex
  refine ⟨f, fd, ps, FnG.of Fn S (fun vs H Q E h => ?_) fun cdv A outer s H vs Q E hr hg h => ⟨_, (hb f cdv A outer s H E).nox, bag_read hN h⟩, hm, Fn.kp, hb'⟩
  obtain ⟨a, ns, rfl, _⟩ := h
  rw [hp]; rfl
/-- the law's def -/
theorem DefG.law {n : Nat} (D : DefG K mg x st ps) (S : FnScope N ps (defScope st)) (hp : ps.length = 1) (hN : N.length = n + 2)
    (hb : ∀ (f : Addr) (cdv : Value) (A : Around) (outer : List Env) (s : Shared) (H : Hp) (E : XK), Room k (A.deeper (envOfC x (defScope st) s.heap.objs.size f cdv)) → A.guards = some [] →
      PSs (cxOf CX0 P w K mg base N x (defScope st) f cdv A outer s H E).nox (defBody st) (tTop K m)) : ∃ f fd, mg x = some (.ref f) ∧ Fun K x x st f fd ∧ FnG P w K mg base CX0 (k + 1) f fd ps (spTop K n m) := by
  obtain ⟨f, fd, Fn, hm, hb'⟩ := D.ex
  refine ⟨f, fd, hm, Fn, FnG.of Fn S (fun vs H Q E h => ?_) fun cdv A outer s H vs Q E hr hg h => ⟨_, (hb f cdv A outer s H E hr hg).nox, top_read hN h⟩⟩
  obtain ⟨a, ns, rfl, _⟩ := h
  rw [hp]; rfl
end
section
variable {X : Cx} {k j : Nat} {x y : Str} {p p2 p3 pos : Pos} {m : MS} {rest : List Stmt} {e : Expr}
/-- bag = _law_bag(script) -/
theorem sTop (C : BagG X.prog X.w X.K X.mg X.base j x) (hr : Room k X.A) (hj : j ≤ k) (hgd : X.A.guards = some []) (hN : X.N.Nodup) (he : PE X e (L2.tVar 0)) (hs : PSs X rest (tS false [] X.K WF m)) (hi : X.N[1]? = some y := by rfl) (hx : Loc X.env.scope y := by first | exact Or.inl rfl | exact Or.inr rfl)
    (hw : swapsWith (.Call (.Name x p2) [e] [] p3) (some (.Name y p)) pos.line X.env = pure false := by rfl) (hf : X.fn y = true ∨ X.env.scope.names.lookup y = some .local := by first | exact .inl rfl | exact .inr rfl) (hg : Gl X x := by rfl) (hdb : (x == ("__debug__" : Str)) = false := by decide)
    (h1 : starEach [e] X.env = (false, eval e X.env) :: starEach [] X.env := by rfl) (hpl : (backTo p3 (starEach [] X.env)).any (·.1) = false := by rfl) :
    PSs X (.Assign [.Name y p] (.Call (.Name x p2) [e] [] p3) pos :: rest) (tTop X.K m) := by
  obtain ⟨f, fd, ps, Fn, hm, hk, hb⟩ := C.ex
  exact pss_cons (ps_set hN hi hx ((Fn.up hj).pe (E := E0) hr hgd hm hk hb pass0 (pa_cons he pa_nil h1) hg hdb h1 hpl) hw hf) hs
end
end CF
end
section
/-! CF, part v2: an own list or dict that is looked at as a tree for one test's time. -/
namespace CF
open PySem PySem.Spec PyProof.Rows L2
def tmpS (i : Nat) (ds : List D) (ρ : List Slot) : List Slot := (ρ.map fun s => if isOwn s = true then .un else s).set i (.dat (.list ds))
def tmpE (i : Nat) (es : List (D × D)) (ρ : List Slot) : List Slot := (ρ.map fun s => if isOwn s = true then .un else s).set i (.dat (.dict es))
def mTmp (i : Nat) (t : M Bool) : M Bool := fun ρ => match ρ[i]? with
  | some (.own (.list ds)) => match t (tmpS i ds ρ) with
    | some (.ok c _) => some (.ok c ρ)
    | _ => none
  | some (.own (.dict es)) => match t (tmpE i es ρ) with
    | some (.ok c _) => some (.ok c ρ)
    | _ => none
  | _ => none
section
variable {K : PySem.W.Frag} {W O : Addr → Prop} {H : Hp} {σ : L2.St} {ρ : List Slot} {i : Nat} {ds : List D}
theorem tmp_at {j : Nat} {s : Slot} (h : (tmpS i ds ρ)[j]? = some s) : (j = i ∧ s = .dat (.list ds)) ∨ (j ≠ i ∧ ∃ t, ρ[j]? = some t ∧ s = if isOwn t = true then .un else t) := by
  unfold tmpS at h
  by_cases q : j = i
  · subst q
    rw [List.getElem?_set] at h
    simp only [if_true] at h
    split at h
    · cases h; exact .inl ⟨rfl, rfl⟩
    · cases h
  · rw [List.getElem?_set_ne (Ne.symm q), List.getElem?_map] at h
    obtain ⟨t, h1, h2⟩ := Option.map_eq_some_iff.mp h
    exact .inr ⟨q, t, h1, h2.symm⟩
theorem tmp_in {a : Addr} {xs : List V} (R : SRel K W O H σ ρ) (ei : ρ[i]? = some (.own (.list ds))) (ea : σ[i]? = some (some (.ref a))) (eh : H a = some (.lst xs)) (l : RxL K W H xs ds) : SRel K (fun b => W b ∧ b ≠ a) (fun _ => False) H σ (tmpS i ds ρ) := by
  have no : ∀ (j : Nat) (c : D), (tmpS i ds ρ)[j]? ≠ some (.own c) := fun j c h => by
    rcases tmp_at h with ⟨_, z⟩ | ⟨_, t, _, z⟩
    · cases z
    · split at z
      · cases z
      · rename_i hn
        rw [← z] at hn
        exact hn rfl
  refine ⟨by unfold tmpS; rw [List.length_set, List.length_map, R.len], fun _ z => z.elim, fun b z => R.tr b z.1, fun j x s h1 h2 => ?_, fun j k b d e n e1 _ _ _ => absurd e1 (no j d)⟩
  rcases tmp_at h2 with ⟨rfl, rfl⟩ | ⟨q, t, ht, rfl⟩
  · rw [ea] at h1
    cases h1
    exact ⟨_, rfl, .lst (fun z => z.2 rfl) (.inl eh) (RxL.go (fun _ _ e _ => e) (fun b o e z => z.1) _ _ l)⟩
  · have r := R.sl j x t h1 ht
    cases t with
    | un => trivial
    | own d => trivial
    | dat d => obtain ⟨v, ev, rv⟩ := r; exact ⟨v, ev, rv.less fun b z => z.1⟩
theorem tmp_out {a : Addr} {xs : List V} {H' : Hp} (R : SRel K W O H σ ρ) (oa : O a) (eh : H a = some (.lst xs)) (k : KeepO (fun b => W b ∧ b ≠ a) (fun _ => False) H H') : KeepO W O H H' ∧ SRel K W O H' σ ρ := by
  have same : ∀ b o, W b → H b = some o → H' b = some o := fun b o w e => by
    by_cases q : b = a
    · subst q
      rw [eh] at e
      cases e
      exact k.lst b xs eh fun z => z.2 rfl
    · exact k.own b o e ⟨w, q⟩ fun z => z
  refine ⟨⟨fun b o e w n => same b o w e, fun b u e n => k.rest b u e fun z => n z.1, fun b o u e n => k.frz b o u e fun z => n z.1, fun b xs e n => k.lst b xs e fun z => n z.1⟩, R.len, R.ow, fun b w => ?_, fun j x s h1 h2 => ?_, R.ne⟩
  · obtain ⟨o, e⟩ := R.tr b w
    exact ⟨o, same b o w e⟩
  · have r := R.sl j x s h1 h2
    cases s with
    | un => trivial
    | dat d => obtain ⟨v, ev, rv⟩ := r; exact ⟨v, ev, Rx.go (fun b u e n => k.rest b u e fun z => n z.1) (fun _ _ _ z => z) d v rv⟩
    | own d =>
      obtain ⟨b, ev, ob, rb⟩ := r
      exact ⟨b, ev, ob, rb.go (fun b u e n => k.rest b u e fun z => n z.1) (fun _ _ _ z => z) fun o e => same b o (R.ow b ob) e⟩
end
/-- the test runs while the thing at d is locked -/
def tLockT (t : TT) : TT := fun σ H Q => ∃ d u, H d = some u ∧ Mut (some u) ∧ ∀ od, t σ (upd H d (.frz od u)) fun v H' => H' d = some (.frz od u) ∧ Q v (upd H' d u)
theorem pt_lock {X : Cx} {e : Expr} {t : TT} (h : PT X e t) : PT X e (tLockT t) := by
  refine ⟨fun pins s σ H Q I hw => ?_⟩
  obtain ⟨d, u, hd, mu, hw⟩ := hw
  obtain ⟨od, I1⟩ := I.lock hd mu
  refine thn (h.run pins s σ _ _ I1 (hw od)) fun v s1 ⟨H1, I2, e2, q⟩ => ?_
  exact ⟨_, I2.unlock e2 (I.nofrz hd mu), q⟩
section
variable {K : PySem.W.Frag} {W O : Addr → Prop} {H : Hp} {σ : L2.St} {ρ : List Slot} {i : Nat} {es : List (D × D)}
theorem tmpE_at {j : Nat} {s : Slot} (h : (tmpE i es ρ)[j]? = some s) : (j = i ∧ s = .dat (.dict es)) ∨ (j ≠ i ∧ ∃ t, ρ[j]? = some t ∧ s = if isOwn t = true then .un else t) := by
  unfold tmpE at h
  by_cases q : j = i
  · subst q
    rw [List.getElem?_set] at h
    simp only [if_true] at h
    split at h
    · cases h; exact .inl ⟨rfl, rfl⟩
    · cases h
  · rw [List.getElem?_set_ne (Ne.symm q), List.getElem?_map] at h
    obtain ⟨t, h1, h2⟩ := Option.map_eq_some_iff.mp h
    exact .inr ⟨q, t, h1, h2.symm⟩
theorem rd_ups {H : Hp} {a b : Addr} {o u : HO} (n : b ≠ a) (h : L2.Rd H b u) : L2.Rd (upd H a o) b u := by
  rcases h with h | ⟨o', h⟩
  · exact .inl (by rw [upd_ne n]; exact h)
  · exact .inr ⟨o', by rw [upd_ne n]; exact h⟩
theorem tmpE_in {a : Addr} {od : Obj} {kvs : List (Key × V)} (R : SRel K W O H σ ρ) (oa : O a) (ea : σ[i]? = some (some (.ref a))) (l : RxK K W H kvs es) :
    SRel K (fun b => W b ∧ b ≠ a) (fun _ => False) (upd H a (.frz od (.dK kvs))) σ (tmpE i es ρ) := by
  have wa : W a := R.ow a oa
  have ne : ∀ b, ¬ W b → b ≠ a := fun b n z => n (z ▸ wa)
  have no : ∀ (j : Nat) (c : D), (tmpE i es ρ)[j]? ≠ some (.own c) := fun j c h => by
    rcases tmpE_at h with ⟨_, z⟩ | ⟨_, t, _, z⟩
    · cases z
    · split at z
      · cases z
      · rename_i hn
        rw [← z] at hn
        exact hn rfl
  refine ⟨by unfold tmpE; rw [List.length_set, List.length_map, R.len], fun _ z => z.elim, fun b z => ?_, fun j x s h1 h2 => ?_, fun j k b d e n e1 _ _ _ => absurd e1 (no j d)⟩
  · obtain ⟨o, e⟩ := R.tr b z.1
    exact ⟨o, by rw [upd_ne z.2]; exact e⟩
  · rcases tmpE_at h2 with ⟨rfl, rfl⟩ | ⟨q, t, ht, rfl⟩
    · rw [ea] at h1
      cases h1
      exact ⟨_, rfl, .dic (fun z => z.2 rfl) (.inr ⟨od, upd_same⟩) (RxK.go (fun b u e n => rd_ups (ne b n) e) (fun b o e z => z.1) _ _ l)⟩
    · have r := R.sl j x t h1 ht
      cases t with
      | un => trivial
      | own d => trivial
      | dat d => obtain ⟨v, ev, rv⟩ := r; exact ⟨v, ev, Rx.go (fun b u e n => rd_ups (ne b n) e) (fun b o e z => z.1) _ _ rv⟩
theorem tmpE_out {a : Addr} {od : Obj} {kvs : List (Key × V)} {H2 : Hp} (R : SRel K W O H σ ρ) (oa : O a) (eh : H a = some (.dK kvs)) (k : KeepO (fun b => W b ∧ b ≠ a) (fun _ => False) (upd H a (.frz od (.dK kvs))) H2) :
    H2 a = some (.frz od (.dK kvs)) ∧ KeepO W O H (upd H2 a (.dK kvs)) ∧ SRel K W O (upd H2 a (.dK kvs)) σ ρ := by
  have wa : W a := R.ow a oa
  have ne : ∀ b, ¬ W b → b ≠ a := fun b n z => n (z ▸ wa)
  have same : ∀ b o, W b → H b = some o → upd H2 a (.dK kvs) b = some o := fun b o w e => by
    by_cases q : b = a
    · subst q
      rw [eh] at e
      cases e
      exact upd_same
    · rw [upd_ne q]
      exact k.own b o (by rw [upd_ne q]; exact e) ⟨w, q⟩ fun z => z
  have rest : ∀ b u, L2.Rd H b u → ¬ W b → L2.Rd (upd H2 a (.dK kvs)) b u := fun b u e n => rd_ups (ne b n) (k.rest b u (rd_ups (ne b n) e) fun z => n z.1)
  refine ⟨k.frz a _ _ upd_same fun z => z.2 rfl, ⟨fun b o e w n => same b o w e, rest, fun b o u e n => ?_, fun b xs e n => ?_⟩, R.len, R.ow, fun b w => ?_, fun j x s h1 h2 => ?_, R.ne⟩
  · rw [upd_ne (ne b n)]
    exact k.frz b o u (by rw [upd_ne (ne b n)]; exact e) fun z => n z.1
  · rw [upd_ne (ne b n)]
    exact k.lst b xs (by rw [upd_ne (ne b n)]; exact e) fun z => n z.1
  · obtain ⟨o, e⟩ := R.tr b w
    exact ⟨o, same b o w e⟩
  · have r := R.sl j x s h1 h2
    cases s with
    | un => trivial
    | dat d => obtain ⟨v, ev, rv⟩ := r; exact ⟨v, ev, Rx.go rest (fun _ _ _ z => z) d v rv⟩
    | own d =>
      obtain ⟨b, ev, ob, rb⟩ := r
      exact ⟨b, ev, ob, rb.go rest (fun _ _ _ z => z) fun o e => same b o (R.ow b ob) e⟩
end
/-- either of two roads -/
theorem pt_or {X : Cx} {e : Expr} {t t' : TT} (h : PT X e t) (h' : PT X e t') : PT X e (fun σ H Q => t σ H Q ∨ t' σ H Q) :=
  ⟨fun pins s σ H Q I hw => hw.elim (h.run pins s σ H Q I) (h'.run pins s σ H Q I)⟩
theorem qTmp (i : Nat) {X : Cx} {e : Expr} {mt : M Bool} (h : PT X e (tT X.K WF mt)) : PT X e (tT X.K WF (mTmp i mt)) := by
  refine PT.imp (pt_or h (pt_lock h)) fun σ H Q ⟨W, O, ρ, R, h⟩ => ?_
  unfold mTmp at h
  split at h
  · rename_i ds ei
    refine .inl ?_
    obtain ⟨a, ea, oa, xs, eh, l⟩ := R.own ei
    refine ⟨_, _, _, tmp_in R ei ea eh l, ?_⟩
    generalize hr : mt (tmpS i ds ρ) = r at h
    match r, h with
    | some (.ok c ρ'), h =>
      intro H' k _
      obtain ⟨k2, R2⟩ := tmp_out R oa eh k
      exact h H' k2 R2
    | some (.ex _ _), h => exact h.elim
    | none, h => exact h.elim
  · rename_i es ei
    refine .inr ?_
    obtain ⟨a, ea, oa, kvs, eh, l⟩ := R.own ei
    refine ⟨a, _, eh, trivial, fun od => ⟨_, _, _, tmpE_in R oa ea l, ?_⟩⟩
    generalize hr : mt (tmpE i es ρ) = r at h
    match r, h with
    | some (.ok c ρ'), h =>
      intro H' k _
      obtain ⟨k1, k2, R2⟩ := tmpE_out R oa eh k
      exact ⟨k1, h _ k2 R2⟩
    | some (.ex _ _), h => exact h.elim
    | none, h => exact h.elim
  · exact h.elim
end CF
end
section
/-! CF, part w: plain laws of the mirrors. wp m ρ Q: m runs from ρ to a value, and Q holds there. -/
namespace CF
open PySem

def wp {α : Type} (m : M α) (ρ : List Slot) (Q : α → List Slot → Prop) : Prop := ∃ a ρ', m ρ = some (.ok a ρ') ∧ Q a ρ'
def lv : LV → List Slot → Option D
  | .dat d, _ => some d
  | .slot i, ρ => match ρ[i]? with
    | some (.dat d) => some d
    | some (.own d) => some d
    | _ => none
/-- the slot's content -/
def sv : Option Slot → Option D
  | some (.dat d) => some d
  | some (.own d) => some d
  | _ => none
section
variable {α β : Type} {m : M α} {ρ : List Slot} {Q Q' : α → List Slot → Prop}
theorem wp.mono (h : wp m ρ Q) (f : ∀ a ρ', Q a ρ' → Q' a ρ') : wp m ρ Q' := let ⟨a, ρ', e, q⟩ := h; ⟨a, ρ', e, f a ρ' q⟩
theorem wp.run (h : wp m ρ Q) : ∃ a ρ', m ρ = some (.ok a ρ') ∧ Q a ρ' := h
theorem wp_iff (f : List Slot → Option (R α)) {a : α} {ρ' : List Slot} (e : f ρ = some (.ok a ρ')) : wp f ρ Q ↔ Q a ρ' :=
  ⟨fun ⟨b, ρ2, e2, q⟩ => by rw [e] at e2; cases e2; exact q, fun q => ⟨a, ρ', e, q⟩⟩
@[simp] theorem wp_pure {a : α} : wp (pure a) ρ Q ↔ Q a ρ := wp_iff _ rfl
@[simp] theorem wp_some {f : List Slot → List Slot} {a : α} : wp (fun ρ => some (.ok a (f ρ))) ρ Q ↔ Q a (f ρ) := wp_iff _ rfl
@[simp] theorem wp_bind {f : α → M β} {Q : β → List Slot → Prop} : wp (m >>= f) ρ Q ↔ wp m ρ fun a ρ1 => wp (f a) ρ1 Q := by
  constructor
  · rintro ⟨b, ρ2, e, q⟩
    obtain ⟨a, ρ1, e1, e2⟩ := ok_bind e
    exact ⟨a, ρ1, e1, b, ρ2, e2, q⟩
  · rintro ⟨a, ρ1, e1, b, ρ2, e2, q⟩
    refine ⟨b, ρ2, ?_, q⟩
    show M.bind m f ρ = _
    unfold M.bind
    rw [e1]
    exact e2
@[simp] theorem wp_lift {o : Option α} : wp (lift o) ρ Q ↔ ∃ a, o = some a ∧ Q a ρ := by
  constructor
  · rintro ⟨b, ρ2, e, q⟩
    cases o with
    | none => cases e
    | some a => cases e; exact ⟨_, rfl, q⟩
  · rintro ⟨a, rfl, q⟩
    exact ⟨a, ρ, rfl, q⟩
end
section
variable {ρ : List Slot} {Q : D → List Slot → Prop} {QL : LV → List Slot → Prop} {QT : Bool → List Slot → Prop}
@[simp] theorem lv_dat {d : D} : lv (.dat d) ρ = some d := rfl
@[simp] theorem lv_slot {i : Nat} : lv (.slot i) ρ = sv ρ[i]? := by unfold lv sv; rfl
@[simp] theorem sv_dat {d : D} : sv (some (.dat d)) = some d := rfl
@[simp] theorem sv_own {d : D} : sv (some (.own d)) = some d := rfl
@[simp] theorem wp_var {i : Nat} : wp (mVar i) ρ Q ↔ ∃ d, ρ[i]? = some (.dat d) ∧ Q d ρ := by
  constructor
  · rintro ⟨a, ρ', e, q⟩
    unfold mVar at e
    split at e
    · rename_i d h
      cases e
      exact ⟨_, h, q⟩
    · cases e
  · rintro ⟨d, h, q⟩
    exact ⟨d, ρ, by unfold mVar; rw [h], q⟩
@[simp] theorem wp_pk {i : Nat} : wp (mPk i) ρ QL ↔ (sv ρ[i]?).isSome = true ∧ QL (.slot i) ρ := by
  constructor
  · rintro ⟨a, ρ', e, q⟩
    unfold mPk at e
    split at e
    · rename_i d h
      cases e
      rw [h]
      exact ⟨rfl, q⟩
    · rename_i d h
      cases e
      rw [h]
      exact ⟨rfl, q⟩
    · cases e
  · rintro ⟨h, q⟩
    refine ⟨.slot i, ρ, ?_, q⟩
    unfold mPk
    cases e : ρ[i]? with
    | none => rw [e] at h; cases h
    | some s =>
      cases s with
      | un => rw [e] at h; cases h
      | dat d => rfl
      | own d => rfl
@[simp] theorem wp_get {x : LV} : wp x.get ρ Q ↔ ∃ d, lv x ρ = some d ∧ Q d ρ := by
  cases x with
  | dat d =>
    show wp (pure d) ρ Q ↔ _
    simp
  | slot i =>
    constructor
    · rintro ⟨a, ρ', e, q⟩
      unfold LV.get at e
      simp only at e
      split at e
      · rename_i d h
        cases e
        exact ⟨_, by rw [lv_slot, h]; rfl, q⟩
      · rename_i d h
        cases e
        exact ⟨_, by rw [lv_slot, h]; rfl, q⟩
      · cases e
    · rintro ⟨d, h, q⟩
      refine ⟨d, ρ, ?_, q⟩
      rw [lv_slot] at h
      unfold LV.get
      cases e : ρ[i]? with
      | none => rw [e] at h; cases h
      | some s =>
        rw [e] at h
        cases s with
        | un => cases h
        | dat d' => cases h; simp only [e]
        | own d' => cases h; simp only [e]
@[simp] theorem mLs_nil : mLs [] = pure [] := rfl
@[simp] theorem mLs_cons {a : M LV} {as : List (M LV)} : mLs (a :: as) = (do let x ← a; let xs ← mLs as; pure (x :: xs)) := rfl
@[simp] theorem getAll_nil : getAll [] = pure [] := rfl
@[simp] theorem getAll_cons {a : LV} {as : List LV} : getAll (a :: as) = (do let x ← a.get; let xs ← getAll as; pure (x :: xs)) := rfl
@[simp] theorem mDs_nil : mDs [] = pure [] := rfl
@[simp] theorem mDs_cons {a : M D} {as : List (M D)} : mDs (a :: as) = (do let x ← a; let xs ← mDs as; pure (x :: xs)) := rfl
@[simp] theorem wp_if {α : Type} {c : Bool} {a b : M α} {Q : α → List Slot → Prop} : wp (if c = true then a else b) ρ Q ↔ if c = true then wp a ρ Q else wp b ρ Q := by cases c <;> simp
@[simp] theorem wp_mIf {t : M Bool} {a b : M D} : wp (mIf t a b) ρ Q ↔ wp t ρ fun c ρ1 => if c = true then wp a ρ1 Q else wp b ρ1 Q := by
  unfold mIf
  rw [wp_bind]
  constructor
  · exact fun h => h.mono fun c ρ1 q => by simpa using q
  · exact fun h => h.mono fun c ρ1 q => by simpa using q
end
section
variable {ρ : List Slot} {Q : RS → List Slot → Prop} {m : M D} {a b : MS} {i : Nat}
theorem wp_put {s : Slot} : wp (fun ρ => some (.ok .nx (ρ.set i s))) ρ Q ↔ Q .nx (ρ.set i s) := wp_iff _ rfl
@[simp] theorem wp_nx : wp mNx ρ Q ↔ Q .nx ρ := wp_iff _ rfl
@[simp] theorem wp_bk : wp mBk ρ Q ↔ Q .bk ρ := wp_iff _ rfl
@[simp] theorem wp_ct : wp mCt ρ Q ↔ Q .ct ρ := wp_iff _ rfl
/-- behind a statement -/
def thnS (b : MS) (Q : RS → List Slot → Prop) : RS → List Slot → Prop
  | .nx, ρ => wp b ρ Q
  | .bk, ρ => Q .bk ρ
  | .ct, ρ => Q .ct ρ
  | .rt d, ρ => Q (.rt d) ρ
@[simp] theorem thnS_nx : thnS b Q .nx ρ = wp b ρ Q := rfl
@[simp] theorem thnS_bk : thnS b Q .bk ρ = Q .bk ρ := rfl
@[simp] theorem thnS_ct : thnS b Q .ct ρ = Q .ct ρ := rfl
@[simp] theorem thnS_rt {d : D} : thnS b Q (.rt d) ρ = Q (.rt d) ρ := rfl
@[simp] theorem wp_sq : wp (mSq a b) ρ Q ↔ wp a ρ (thnS b Q) := by
  unfold mSq
  rw [wp_bind]
  constructor
  · exact fun h => h.mono fun f ρ1 q => by cases f <;> simpa using q
  · exact fun h => h.mono fun f ρ1 q => by cases f <;> simpa using q
@[simp] theorem wp_drop : wp (mDrop m) ρ Q ↔ wp m ρ fun _ ρ1 => Q .nx ρ1 := by unfold mDrop; simp
@[simp] theorem wp_ret : wp (mRet m) ρ Q ↔ wp m ρ fun d ρ1 => Q (.rt d) ρ1 := by unfold mRet; simp
@[simp] theorem wp_set : wp (mSet i m) ρ Q ↔ wp m ρ fun d ρ1 => Q .nx (ρ1.set i (.dat d)) := by unfold mSet; rw [wp_bind]; simp only [wp_put]
@[simp] theorem wp_setO : wp (mSetO i m) ρ Q ↔ wp m ρ fun d ρ1 => Q .nx (ρ1.set i (.own d)) := by unfold mSetO; rw [wp_bind]; simp only [wp_put]
@[simp] theorem wp_par {j : Nat} {m2 : M D} : wp (mPar i j m m2) ρ Q ↔ wp m ρ fun d ρ1 => wp m2 ρ1 fun e ρ2 => Q .nx ((ρ2.set i (.dat d)).set j (.dat e)) := by unfold mPar; rw [wp_bind]; simp only [wp_bind]; simp only [wp_some (f := fun ρ => (ρ.set i _).set j _)]
@[simp] theorem wp_ifS {t : M Bool} : wp (mIfS t a b) ρ Q ↔ wp t ρ fun c ρ1 => if c = true then wp a ρ1 Q else wp b ρ1 Q := by unfold mIfS; rw [wp_bind]; simp only [wp_if]
end
section
variable {ρ : List Slot} {i : Nat}
@[simp] theorem wp_own {Q : Unit → List Slot → Prop} : wp (mOwn i) ρ Q ↔ (∃ c, ρ[i]? = some (.own c)) ∧ Q () ρ := by
  constructor
  · rintro ⟨a, ρ', e, q⟩
    unfold mOwn at e
    split at e
    · rename_i c h
      cases e
      exact ⟨⟨_, h⟩, q⟩
    · cases e
  · rintro ⟨⟨c, h⟩, q⟩
    exact ⟨(), ρ, by unfold mOwn; rw [h], q⟩
@[simp] theorem wp_getI {k : D} {Q : D → List Slot → Prop} : wp (mGetI i k) ρ Q ↔ ∃ c, ρ[i]? = some (.own c) ∧ ∃ d, ixO c k = some d ∧ Q d ρ := by
  constructor
  · rintro ⟨a, ρ', e, q⟩
    unfold mGetI at e
    split at e
    · rename_i c h
      obtain ⟨d, h1, h2⟩ := Option.map_eq_some_iff.mp e
      cases h2
      exact ⟨c, h, _, h1, q⟩
    · cases e
  · rintro ⟨c, h, d, h1, q⟩
    exact ⟨d, ρ, by unfold mGetI; rw [h]; simp [h1], q⟩
@[simp] theorem wp_putI {k d : D} {Q : RS → List Slot → Prop} : wp (mPutI i k d) ρ Q ↔ ∃ c, ρ[i]? = some (.own c) ∧ ∃ c', putD c k d = some c' ∧ Q .nx (ρ.set i (.own c')) := by
  constructor
  · rintro ⟨a, ρ', e, q⟩
    unfold mPutI at e
    split at e
    · rename_i c h
      obtain ⟨d, h1, h2⟩ := Option.map_eq_some_iff.mp e
      cases h2
      exact ⟨c, h, _, h1, q⟩
    · cases e
  · rintro ⟨c, h, d, h1, q⟩
    exact ⟨.nx, _, by unfold mPutI; rw [h]; simp [h1], q⟩
@[simp] theorem wp_aug {f : D → D → Option D} {m : M D} {Q : RS → List Slot → Prop} : wp (mAug i f m) ρ Q ↔ ∃ x, ρ[i]? = some (.dat x) ∧ wp m ρ fun y ρ1 => ∃ z, f x y = some z ∧ Q .nx (ρ1.set i (.dat z)) := by
  unfold mAug
  simp [wp_put]
/-- the slot's object is a tree from here on -/
def relA (ρ : List Slot) (i : Nat) : Option Slot → List Slot
  | some (.own d) => ρ.set i (.dat d)
  | _ => ρ
@[simp] theorem relA_own {d : D} : relA ρ i (some (.own d)) = ρ.set i (.dat d) := rfl
@[simp] theorem relA_dat {d : D} : relA ρ i (some (.dat d)) = ρ := rfl
@[simp] theorem relA_un : relA ρ i (some .un) = ρ := rfl
@[simp] theorem wp_rel {Q : RS → List Slot → Prop} : wp (mRel i) ρ Q ↔ Q .nx (relA ρ i ρ[i]?) := by
  refine wp_iff _ ?_
  unfold mRel
  cases e : ρ[i]? with
  | none => rfl
  | some s => cases s <;> rfl
@[simp] theorem isOwn_own {d : D} : isOwn (.own d) = true := rfl
@[simp] theorem isOwn_dat {d : D} : isOwn (.dat d) = false := rfl
@[simp] theorem isOwn_un : isOwn .un = false := rfl
@[simp] theorem wp_retOw {F : List Nat} {Q : RS → List Slot → Prop} : wp (mRetOw F i) ρ Q ↔ allOwn F ρ = true ∧ ∃ d, ρ[i]? = some (.own d) ∧ Q (.rt d) ρ := by
  constructor
  · rintro ⟨a, ρ', e, q⟩
    unfold mRetOw at e
    split at e
    · rename_i d h
      split at e
      · rename_i ha
        cases e
        exact ⟨ha, _, h, q⟩
      · cases e
    · cases e
  · rintro ⟨ha, d, h, q⟩
    exact ⟨_, ρ, by unfold mRetOw; rw [h]; exact if_pos ha, q⟩
@[simp] theorem wp_retF {F : List Nat} {m : M D} {Q : RS → List Slot → Prop} : wp (mRetF F m) ρ Q ↔ wp m ρ fun d ρ1 => allOwn F ρ1 = true ∧ Q (.rt d) ρ1 := by
  unfold mRetF
  rw [wp_bind]
  constructor
  · refine fun h => h.mono fun d ρ1 q => ?_
    obtain ⟨a, ρ2, e, q⟩ := q
    have e : (if allOwn F ρ1 then some (.ok (.rt d) ρ1) else none) = some (CF.R.ok a ρ2) := e
    split at e
    · rename_i ha
      cases e
      exact ⟨ha, q⟩
    · cases e
  · exact fun h => h.mono fun d ρ1 q => ⟨_, ρ1, if_pos q.1, q.2⟩
@[simp] theorem wp_mut {g : MutF} {as : M (List D)} {Q : D → List Slot → Prop} : wp (mMut i g as) ρ Q ↔ (∃ xs, ρ[i]? = some (.own (.list xs))) ∧ wp as ρ fun ds ρ1 => ∃ xs, ρ1[i]? = some (.own (.list xs)) ∧ ∃ p, g xs ds = some p ∧ Q p.1 (ρ1.set i (.own (.list p.2))) := by
  unfold mMut
  rw [wp_bind]
  have h1 : ∀ {Q : Unit → List Slot → Prop}, wp (mOwnL i) ρ Q ↔ (∃ xs, ρ[i]? = some (.own (.list xs))) ∧ Q () ρ := by
    intro Q
    constructor
    · rintro ⟨a, ρ', e, q⟩
      unfold mOwnL at e
      split at e
      · rename_i c h
        cases e
        exact ⟨⟨_, h⟩, q⟩
      · cases e
    · rintro ⟨⟨c, h⟩, q⟩
      exact ⟨(), ρ, by unfold mOwnL; rw [h], q⟩
  have h2 : ∀ {ds : List D} {ρ : List Slot} {Q : D → List Slot → Prop}, wp (mMutGo i g ds) ρ Q ↔ ∃ xs, ρ[i]? = some (.own (.list xs)) ∧ ∃ p, g xs ds = some p ∧ Q p.1 (ρ.set i (.own (.list p.2))) := by
    intro ds ρ Q
    constructor
    · rintro ⟨a, ρ', e, q⟩
      unfold mMutGo at e
      split at e
      · rename_i c h
        obtain ⟨d, h1, h2⟩ := Option.map_eq_some_iff.mp e
        cases h2
        exact ⟨c, h, _, h1, q⟩
      · cases e
    · rintro ⟨c, h, p, h1, q⟩
      exact ⟨p.1, _, by unfold mMutGo; rw [h]; simp [h1], q⟩
  rw [h1]
  simp only [wp_bind, h2]
/-- what a run of a def gives -/
def gives (g : FM) (ps : List Slot) (P : D → List Slot → Prop) : Prop := ∃ d ps', g ps = some (.ok d ps') ∧ P d ps'
def retv (fr : Bool) : RS → Option D
  | .rt d => some d
  | .nx => if fr then none else some .none
  | _ => none
@[simp] theorem retv_rt {fr : Bool} {d : D} : retv fr (.rt d) = some d := rfl
@[simp] theorem retv_nx : retv false .nx = some .none := rfl
theorem run_gives {fr : Bool} {np nl : Nat} {F : List Nat} {body : MS} {ps : List Slot} {P : D → List Slot → Prop} (hp : ps.length = np) (h : wp body (ps ++ List.replicate nl .un) fun f ρ' => ∃ d, retv fr f = some d ∧ allOwn F ρ' = true ∧ P d (ρ'.take np)) : gives (runF fr np nl F body) ps P := by
  obtain ⟨f, ρ', e, d, hd, ho, q⟩ := h
  refine ⟨d, ρ'.take np, ?_, q⟩
  unfold runF
  rw [if_pos hp, e]
  cases f with
  | rt r => cases hd; simp only; rw [if_pos ho]
  | nx =>
    cases fr with
    | true => cases hd
    | false =>
      cases hd
      simp [ho]
  | bk => cases hd
  | ct => cases hd
end
/-! ### calls -/
section
variable {ρ : List Slot}
theorem backF_nil {ps' : List Slot} : backF [] ps' ρ = ρ := by
  apply List.ext_getElem?
  intro i
  rw [backF_at]
  simp
theorem backF_one {ps' : List Slot} {j i : Nat} : backF [(j, i)] ps' ρ = ρ.set i (ps'.getD j .un) := by
  apply List.ext_getElem?
  intro l
  rw [backF_at, List.getElem?_set]
  by_cases h : i = l
  · subst h
    by_cases hl : i < ρ.length
    · rw [List.getElem?_eq_getElem hl]
      simp [hl]
    · rw [List.getElem?_eq_none (by omega)]
      simp [hl]
  · simp [h]
theorem backF_two {ps' : List Slot} {j i j2 i2 : Nat} (n : i ≠ i2) : backF [(j, i), (j2, i2)] ps' ρ = (ρ.set i (ps'.getD j .un)).set i2 (ps'.getD j2 .un) := by
  apply List.ext_getElem?
  intro l
  rw [backF_at, List.getElem?_set, List.getElem?_set]
  by_cases h : i = l
  · subst h
    simp only [if_neg (Ne.symm n)]
    by_cases hl : i < ρ.length
    · rw [List.getElem?_eq_getElem hl]
      simp [hl]
    · rw [List.getElem?_eq_none (by omega)]
      simp [hl]
  · by_cases h2 : i2 = l
    · subst h2
      by_cases hl : i2 < ρ.length
      · rw [List.getElem?_eq_getElem hl]
        simp [hl, h]
      · rw [List.getElem?_eq_none (by omega)]
        simp [hl]
    · simp [h, h2]
/-- the trees among the arguments -/
def argD (ρ : List Slot) : List LV → Option (List D)
  | [] => some []
  | .dat d :: xs => (argD ρ xs).map (d :: ·)
  | .slot i :: xs => match ρ[i]? with
    | some (.dat d) => (argD ρ xs).map (d :: ·)
    | _ => none
@[simp] theorem argD_nil : argD ρ [] = some [] := rfl
@[simp] theorem argD_dat {d : D} {xs : List LV} : argD ρ (.dat d :: xs) = (argD ρ xs).map (d :: ·) := rfl
def argD1 (s : Option Slot) (r : Option (List D)) : Option (List D) := match s with
  | some (.dat d) => r.map (d :: ·)
  | _ => none
@[simp] theorem argD_slot {i : Nat} {xs : List LV} : argD ρ (.slot i :: xs) = argD1 ρ[i]? (argD ρ xs) := rfl
@[simp] theorem argD1_dat {d : D} {r : Option (List D)} : argD1 (some (.dat d)) r = r.map (d :: ·) := rfl
theorem argS_D {F : List Nat} : ∀ {xs : List LV} {j : Nat} {ds : List D}, (∀ n ∈ F, n < j) → argD ρ xs = some ds → argS F ρ j xs = some (ds.map .dat) ∧ ioIx F j xs = []
  | [], j, ds, _, h => by cases h; exact ⟨rfl, rfl⟩
  | .dat d :: xs, j, ds, hF, h => by
    obtain ⟨r, h1, rfl⟩ := Option.map_eq_some_iff.mp h
    obtain ⟨h2, h3⟩ := argS_D (j := j + 1) (fun n hn => Nat.lt_succ_of_lt (hF n hn)) h1
    have nc : F.contains j = false := by
      cases e : F.contains j with
      | false => rfl
      | true => have := hF j (by simpa [List.contains_iff_mem] using e); omega
    exact ⟨by unfold argS; rw [nc, h2]; rfl, h3⟩
  | .slot i :: xs, j, ds, hF, h => by
    unfold argD at h
    have nc : F.contains j = false := by
      cases e : F.contains j with
      | false => rfl
      | true => have := hF j (by simpa [List.contains_iff_mem] using e); omega
    split at h
    · rename_i d hd
      obtain ⟨r, h1, rfl⟩ := Option.map_eq_some_iff.mp h
      obtain ⟨h2, h3⟩ := argS_D (j := j + 1) (fun n hn => Nat.lt_succ_of_lt (hF n hn)) h1
      refine ⟨?_, ?_⟩
      · unfold argS
        rw [hd]
        simp only [nc]
        rw [h2]
        rfl
      · unfold ioIx
        rw [nc]
        exact h3
    · cases h
/-- a call of a def that is lent nothing -/
theorem wp_fn {g : FM} {as : List (M LV)} {Q : D → List Slot → Prop} (h : wp (mLs as) ρ fun xs ρ1 => ∃ ds, argD ρ1 xs = some ds ∧ gives g (ds.map .dat) fun d _ => Q d ρ1) : wp (mFn [] g as) ρ Q := by
  unfold mFn
  rw [wp_bind]
  refine h.mono fun xs ρ1 q => ?_
  obtain ⟨ds, h1, d, ps', h2, q⟩ := q
  obtain ⟨h3, h4⟩ := argS_D (F := []) (j := 0) (fun n hn => nomatch hn) h1
  refine ⟨d, ρ1, ?_, q⟩
  rw [h4]
  simp only [List.map_nil, List.nodup_nil, decide_true, if_true]
  rw [h3]
  simp only
  rw [h2]
  simp only
  rw [backF_nil]
/-- .. that is lent its first argument -/
theorem wp_fn0 {g : FM} {as : List (M LV)} {b : Nat} {Q : D → List Slot → Prop} (hb : (sv ρ[b]?).isSome = true) (h : wp (mLs as) ρ fun xs ρ1 => ∃ ds, argD ρ1 xs = some ds ∧ ∃ c, ρ1[b]? = some (.own c) ∧ gives g (.own c :: ds.map .dat) fun d ps' => Q d (ρ1.set b (ps'.getD 0 .un))) : wp (mFn [0] g (mPk b :: as)) ρ Q := by
  unfold mFn
  rw [wp_bind, mLs_cons, wp_bind, wp_pk]
  refine ⟨hb, ?_⟩
  rw [wp_bind]
  refine h.mono fun xs ρ1 q => ?_
  rw [wp_pure]
  obtain ⟨ds, h1, c, hc, d, ps', h2, q⟩ := q
  obtain ⟨h3, h4⟩ := argS_D (F := [0]) (j := 1) (fun n hn => by simp at hn; omega) h1
  refine ⟨d, _, ?_, q⟩
  have e1 : ioIx [0] 0 (.slot b :: xs) = [(0, b)] := by
    unfold ioIx
    rw [h4]
    rfl
  have e2 : argS [0] ρ1 0 (.slot b :: xs) = some (.own c :: ds.map .dat) := by
    unfold argS
    rw [hc]
    simp only
    rw [h3]
    rfl
  simp only
  rw [e1, e2]
  simp only [List.map_cons, List.map_nil]
  rw [if_pos (by simp), h2]
  simp only
  rw [backF_one]
end
end CF
end
section
/-! CF, part x: the same, step by step. -/
namespace CF
open PySem
section
variable {ρ ρ' : List Slot} {Q : D → List Slot → Prop} {QL : LV → List Slot → Prop} {QT : Bool → List Slot → Prop} {i j : Nat} {d e r : D} {m ma : M D} {a b : M LV} {x y : LV} {f : D → D → Option D}
theorem iVar (h : ρ[i]? = some (.dat d)) (q : Q d ρ) : wp (mVar i) ρ Q := wp_var.mpr ⟨d, h, q⟩
theorem iPk (h : (sv ρ[i]?).isSome = true) (q : QL (.slot i) ρ) : wp (mPk i) ρ QL := wp_pk.mpr ⟨h, q⟩
theorem iV (h : wp m ρ fun d ρ1 => QL (.dat d) ρ1) : wp (mV m) ρ QL := by unfold mV; rw [wp_bind]; exact h.mono fun _ _ q => wp_pure.mpr q
theorem iC (q : Q d ρ) : wp (mC d) ρ Q := wp_pure.mpr q
def op2E (f : D → D → Option D) (x y : LV) (Q : D → List Slot → Prop) (ρ : List Slot) : Prop := ∃ d e r, lv x ρ = some d ∧ lv y ρ = some e ∧ f d e = some r ∧ Q r ρ
theorem iOp2E (hx : lv x ρ = some d) (hy : lv y ρ = some e) (hf : f d e = some r) (q : Q r ρ) : op2E f x y Q ρ := ⟨d, e, r, hx, hy, hf, q⟩
theorem iOp2 (h : wp a ρ fun x ρ1 => wp b ρ1 fun y ρ2 => op2E f x y Q ρ2) : wp (mOp2 f a b) ρ Q := by
  unfold mOp2
  simp only [wp_bind, wp_get, wp_lift]
  exact h.mono fun x ρ1 q => q.mono fun y ρ2 ⟨d, e, r, h1, h2, h3, h4⟩ => ⟨d, h1, e, h2, r, h3, h4⟩
theorem iOp1 {g : D → Option D} (h : wp a ρ fun x ρ1 => ∃ d r, lv x ρ1 = some d ∧ g d = some r ∧ Q r ρ1) : wp (mOp1 g a) ρ Q := by
  unfold mOp1
  simp only [wp_bind, wp_get, wp_lift]
  exact h.mono fun x ρ1 ⟨d, r, h1, h2, h3⟩ => ⟨d, h1, r, h2, h3⟩
def lvs : List LV → List Slot → Option (List D)
  | [], _ => some []
  | x :: xs, ρ => match lv x ρ, lvs xs ρ with
    | some d, some ds => some (d :: ds)
    | _, _ => none
theorem wp_getAll {α : Type} {g : List D → M α} {Q : α → List Slot → Prop} : ∀ {xs : List LV} {ds : List D}, lvs xs ρ = some ds → wp (g ds) ρ Q → wp (getAll xs >>= g) ρ Q
  | [], ds, h, q => by cases h; rw [wp_bind]; exact wp_pure.mpr q
  | x :: xs, ds, h, q => by
    unfold lvs at h
    split at h
    · rename_i d es h1 h2
      cases h
      rw [getAll_cons, wp_bind, wp_bind, wp_get]
      refine ⟨d, h1, ?_⟩
      rw [← wp_bind]
      have : wp (getAll xs >>= fun ds => g (d :: ds)) ρ Q := wp_getAll h2 q
      rw [wp_bind] at this
      rw [wp_bind, wp_bind]
      exact this.mono fun es ρ1 z => wp_pure.mpr z
    · cases h
def callE (g : List D → Option D) (xs : List LV) (Q : D → List Slot → Prop) (ρ : List Slot) : Prop := ∃ ds r, lvs xs ρ = some ds ∧ g ds = some r ∧ Q r ρ
theorem iCallE {g : List D → Option D} {xs : List LV} {ds : List D} (hx : lvs xs ρ = some ds) (hf : g ds = some r) (q : Q r ρ) : callE g xs Q ρ := ⟨ds, r, hx, hf, q⟩
theorem iCall {g : List D → Option D} {as : List (M LV)} (h : wp (mLs as) ρ fun xs ρ1 => callE g xs Q ρ1) : wp (mCall g as) ρ Q := by
  unfold mCall
  rw [wp_bind]
  exact h.mono fun xs ρ1 ⟨ds, r, h1, h2, h3⟩ => wp_getAll h1 (wp_lift.mpr ⟨r, h2, h3⟩)
theorem iLs0 {Q : List LV → List Slot → Prop} (q : Q [] ρ) : wp (mLs []) ρ Q := wp_pure.mpr q
theorem iLs {as : List (M LV)} {Q : List LV → List Slot → Prop} (h : wp a ρ fun x ρ1 => wp (mLs as) ρ1 fun xs ρ2 => Q (x :: xs) ρ2) : wp (mLs (a :: as)) ρ Q := by
  rw [mLs_cons, wp_bind]
  refine h.mono fun x ρ1 q => ?_
  rw [wp_bind]
  exact q.mono fun xs ρ2 q => wp_pure.mpr q
theorem iDs0 {Q : List D → List Slot → Prop} (q : Q [] ρ) : wp (mDs []) ρ Q := wp_pure.mpr q
theorem iDs {as : List (M D)} {Q : List D → List Slot → Prop} (h : wp m ρ fun x ρ1 => wp (mDs as) ρ1 fun xs ρ2 => Q (x :: xs) ρ2) : wp (mDs (m :: as)) ρ Q := by
  rw [mDs_cons, wp_bind]
  refine h.mono fun x ρ1 q => ?_
  rw [wp_bind]
  exact q.mono fun xs ρ2 q => wp_pure.mpr q
theorem iTup {as : List (M D)} (h : wp (mDs as) ρ fun ds ρ1 => ds.length ≤ sizeLine ∧ Q (.tuple ds) ρ1) : wp (mTup as) ρ Q := by
  unfold mTup
  rw [wp_bind]
  exact h.mono fun ds ρ1 q => wp_lift.mpr ⟨_, if_pos q.1, q.2⟩
theorem iLst {as : List (M D)} (h : wp (mDs as) ρ fun ds ρ1 => ds.length ≤ sizeLine ∧ Q (.list ds) ρ1) : wp (mLst as) ρ Q := by
  unfold mLst
  rw [wp_bind]
  exact h.mono fun ds ρ1 q => wp_lift.mpr ⟨_, if_pos q.1, q.2⟩
theorem iTest (h : wp m ρ fun d ρ1 => ∃ c, d = .bool c ∧ QT c ρ1) : wp (mTest m) ρ QT := by
  unfold mTest
  rw [wp_bind]
  exact h.mono fun d ρ1 ⟨c, e, q⟩ => wp_lift.mpr ⟨c, by subst e; rfl, q⟩
theorem iAnd {t u : M Bool} (h : wp t ρ fun c ρ1 => if c = true then wp u ρ1 QT else QT false ρ1) : wp (mAnd t u) ρ QT := by
  unfold mAnd
  rw [wp_bind]
  exact h.mono fun c ρ1 q => by cases c <;> simpa using q
theorem iOr {t u : M Bool} (h : wp t ρ fun c ρ1 => if c = true then QT true ρ1 else wp u ρ1 QT) : wp (mOr t u) ρ QT := by
  unfold mOr
  rw [wp_bind]
  exact h.mono fun c ρ1 q => by cases c <;> simpa using q
theorem iNot {t : M Bool} (h : wp t ρ fun c ρ1 => QT (!c) ρ1) : wp (mNot t) ρ QT := by
  unfold mNot
  rw [wp_bind]
  exact h.mono fun c ρ1 q => wp_pure.mpr q
theorem iBl {t : M Bool} (h : wp t ρ fun c ρ1 => Q (.bool c) ρ1) : wp (mBl t) ρ Q := by
  unfold mBl
  rw [wp_bind]
  exact h.mono fun c ρ1 q => wp_pure.mpr q
theorem iYes (q : QT true ρ) : wp mYes ρ QT := wp_pure.mpr q
theorem iIf {t : M Bool} (h : wp t ρ fun c ρ1 => if c = true then wp m ρ1 Q else wp ma ρ1 Q) : wp (mIf t m ma) ρ Q := wp_mIf.mpr h
theorem iNone {Q : Option Int → List Slot → Prop} (q : Q none ρ) : wp noneP ρ Q := wp_pure.mpr q
theorem iSome {Q : Option Int → List Slot → Prop} (h : wp m ρ fun d ρ1 => ∃ n, d = .int n ∧ Q (some n) ρ1) : wp (someP m) ρ Q := by
  unfold someP
  rw [wp_bind]
  exact h.mono fun d ρ1 ⟨c, e, q⟩ => wp_lift.mpr ⟨some c, by subst e; rfl, q⟩
theorem iSl {g : D → Option Int → Option Int → Option D} {lo hi : M (Option Int)} (h : wp a ρ fun x ρ1 => wp lo ρ1 fun l ρ2 => wp hi ρ2 fun u ρ3 => ∃ d r, lv x ρ3 = some d ∧ g d l u = some r ∧ Q r ρ3) : wp (mSl g a lo hi) ρ Q := by
  unfold mSl
  simp only [wp_bind, wp_get, wp_lift]
  exact h.mono fun x ρ1 q => q.mono fun l ρ2 q => q.mono fun u ρ3 ⟨d, r, h1, h2, h3⟩ => ⟨d, h1, r, h2, h3⟩
end
section
variable {ρ : List Slot} {Q : RS → List Slot → Prop} {m m2 mk : M D} {a b : MS} {i j : Nat} {t : M Bool} {f : D → D → Option D}
theorem iNx (q : Q .nx ρ) : wp mNx ρ Q := wp_nx.mpr q
theorem iSq (h : wp a ρ (thnS b Q)) : wp (mSq a b) ρ Q := wp_sq.mpr h
theorem iThn (h : wp b ρ Q) : thnS b Q .nx ρ := h
theorem iThnR {d : D} (h : Q (.rt d) ρ) : thnS b Q (.rt d) ρ := h
theorem iDrop (h : wp m ρ fun _ ρ1 => Q .nx ρ1) : wp (mDrop m) ρ Q := wp_drop.mpr h
theorem iRet (h : wp m ρ fun d ρ1 => Q (.rt d) ρ1) : wp (mRet m) ρ Q := wp_ret.mpr h
theorem iSet (h : wp m ρ fun d ρ1 => Q .nx (ρ1.set i (.dat d))) : wp (mSet i m) ρ Q := wp_set.mpr h
theorem iSetO (h : wp m ρ fun d ρ1 => Q .nx (ρ1.set i (.own d))) : wp (mSetO i m) ρ Q := wp_setO.mpr h
theorem iPar (h : wp m ρ fun d ρ1 => wp m2 ρ1 fun e ρ2 => Q .nx ((ρ2.set i (.dat d)).set j (.dat e))) : wp (mPar i j m m2) ρ Q := wp_par.mpr h
theorem iIfS (h : wp t ρ fun c ρ1 => if c = true then wp a ρ1 Q else wp b ρ1 Q) : wp (mIfS t a b) ρ Q := wp_ifS.mpr h
theorem iRel {ρ' : List Slot} (e : relA ρ i ρ[i]? = ρ') (q : Q .nx ρ') : wp (mRel i) ρ Q := wp_rel.mpr (by rw [e]; exact q)
theorem iRetOw {F : List Nat} {d : D} (ha : allOwn F ρ = true) (h : ρ[i]? = some (.own d)) (q : Q (.rt d) ρ) : wp (mRetOw F i) ρ Q := wp_retOw.mpr ⟨ha, d, h, q⟩
theorem iRetF {F : List Nat} (h : wp m ρ fun d ρ1 => allOwn F ρ1 = true ∧ Q (.rt d) ρ1) : wp (mRetF F m) ρ Q := wp_retF.mpr h
theorem iAug {x : D} (hx : ρ[i]? = some (.dat x)) (h : wp m ρ fun y ρ1 => ∃ z, f x y = some z ∧ Q .nx (ρ1.set i (.dat z))) : wp (mAug i f m) ρ Q := wp_aug.mpr ⟨x, hx, h⟩
def putE (i : Nat) (k d : D) (Q : RS → List Slot → Prop) (ρ : List Slot) : Prop := ∃ c c', ρ[i]? = some (.own c) ∧ putD c k d = some c' ∧ Q .nx (ρ.set i (.own c'))
theorem iPutE {k d c c' : D} (h1 : ρ[i]? = some (.own c)) (h2 : putD c k d = some c') (q : Q .nx (ρ.set i (.own c'))) : putE i k d Q ρ := ⟨c, c', h1, h2, q⟩
theorem iSub (h : wp m ρ fun d ρ1 => (∃ c, ρ1[i]? = some (.own c)) ∧ wp mk ρ1 fun k ρ2 => putE i k d Q ρ2) : wp (mSub i mk m) ρ Q := by
  unfold mSub
  simp only [wp_bind, wp_own, wp_putI]
  exact h.mono fun d ρ1 ⟨h1, q⟩ => ⟨h1, q.mono fun k ρ2 ⟨c, c', e1, e2, q⟩ => ⟨c, e1, c', e2, q⟩⟩
theorem iAugS (h0 : ∃ c, ρ[i]? = some (.own c)) (h : wp mk ρ fun k ρ1 => ∃ c x, ρ1[i]? = some (.own c) ∧ ixO c k = some x ∧ wp m ρ1 fun y ρ2 => ∃ z, f x y = some z ∧ putE i k z Q ρ2) : wp (mAugS i f mk m) ρ Q := by
  unfold mAugS
  simp only [wp_bind, wp_own, wp_putI, wp_getI, wp_lift]
  exact ⟨h0, h.mono fun k ρ1 ⟨c, x, h1, h2, q⟩ => ⟨c, h1, x, h2, q.mono fun y ρ2 ⟨z, h3, c, c', e1, e2, q⟩ => ⟨z, h3, c, e1, c', e2, q⟩⟩⟩
end
section
variable {ρ : List Slot} {Q : D → List Slot → Prop} {i : Nat}
def mutE (i : Nat) (g : MutF) (ds : List D) (Q : D → List Slot → Prop) (ρ : List Slot) : Prop := ∃ xs r zs, ρ[i]? = some (.own (.list xs)) ∧ g xs ds = some (r, zs) ∧ Q r (ρ.set i (.own (.list zs)))
theorem iMutE {g : MutF} {xs zs ds : List D} {r : D} (h1 : ρ[i]? = some (.own (.list xs))) (h2 : g xs ds = some (r, zs)) (q : Q r (ρ.set i (.own (.list zs)))) : mutE i g ds Q ρ := ⟨xs, r, zs, h1, h2, q⟩
theorem iMut {g : MutF} {as : M (List D)} {xs : List D} (h0 : ρ[i]? = some (.own (.list xs))) (h : wp as ρ fun ds ρ1 => mutE i g ds Q ρ1) : wp (mMut i g as) ρ Q :=
  wp_mut.mpr ⟨⟨xs, h0⟩, h.mono fun ds ρ1 ⟨xs, r, zs, h1, h2, q⟩ => ⟨xs, h1, (r, zs), h2, q⟩⟩

/-! ### walks -/
/-- a for loop: an invariant over what is behind and what is ahead -/
theorem iFor {src : M (List D)} {b : D → M Unit} {body : MS} {QS : RS → List Slot → Prop} (h : wp src ρ fun ds ρ1 => ∃ I : List D → List Slot → Prop, I ds ρ1 ∧ (∀ ρ2, I [] ρ2 → QS .nx ρ2) ∧ ∀ d ds ρ2, I (d :: ds) ρ2 → ∃ ρ3, b d ρ2 = some (.ok () ρ3) ∧
    wp body ρ3 fun f ρ4 => match f with
      | .nx => I ds ρ4
      | .ct => I ds ρ4
      | .bk => QS .nx ρ4
      | .rt r => QS (.rt r) ρ4) : wp (mFor src b body) ρ QS := by
  unfold mFor
  rw [wp_bind]
  refine h.mono fun ds ρ1 ⟨I, i0, ie, it⟩ => ?_
  have go : ∀ (ds : List D) (ρ2 : List Slot), I ds ρ2 → wp (forGo b body ds) ρ2 QS := by
    intro ds
    induction ds with
    | nil => exact fun ρ2 i => wp_nx.mpr (ie ρ2 i)
    | cons d ds ih =>
      intro ρ2 i
      obtain ⟨ρ3, e, hb⟩ := it d ds ρ2 i
      show wp (mB (b d) >>= _) ρ2 QS
      refine wp_bind.mpr ?_
      refine ⟨(), ρ3, by unfold mB; rw [e], ?_⟩
      refine wp_bind.mpr ?_
      refine hb.mono fun f ρ4 q => ?_
      cases f with
      | nx => exact ih ρ4 q
      | ct => exact ih ρ4 q
      | bk => exact wp_nx.mpr q
      | rt r => exact wp_pure.mpr q
  exact go ds ρ1 i0
/-- a comprehension without a test: each item's image as P says -/
theorem iLC {vs : List Nat} {src : M (List D)} {b : D → M Unit} {elt : M D} (h : wp src ρ fun ds ρ1 => ds.length ≤ sizeLine ∧ (vs.all fun v => !isOwn (ρ1.getD v .un)) = true ∧ ∃ (I : List Slot → Prop) (P : D → D → Prop), I ρ1 ∧
    (∀ d ∈ ds, ∀ ρ2, I ρ2 → ∃ ρ3, b d (wipeS ρ2 vs) = some (.ok () ρ3) ∧ wp elt ρ3 fun y ρ4 => P d y ∧ I ρ4) ∧ ∀ rs ρ2, rs.length = ds.length → (∀ (j : Nat) (d r : D), ds[j]? = some d → rs[j]? = some r → P d r) → I ρ2 → Q (.list rs) (backS ρ1 ρ2 vs)) : wp (mLC vs src b mYes elt) ρ Q := by
  unfold mLC
  rw [wp_bind]
  refine h.mono fun ds ρ1 ⟨hl, hv, I, P, i0, it, ie⟩ => ?_
  have go : ∀ (ds' acc : List D) (ρ2 : List Slot), (∀ d ∈ ds', d ∈ ds) → acc.length + ds'.length ≤ sizeLine → I ρ2 → ∃ rs ρ3, lcGo vs b mYes elt ds' acc ρ2 = some (.ok (acc ++ rs) ρ3) ∧ rs.length = ds'.length ∧ (∀ (j : Nat) (d r : D), ds'[j]? = some d → rs[j]? = some r → P d r) ∧ I ρ3 := by
    intro ds'
    induction ds' with
    | nil => exact fun acc ρ2 _ _ i => ⟨[], ρ2, by rw [List.append_nil]; rfl, rfl, fun j d r h => by simp at h, i⟩
    | cons d ds' ih =>
      intro acc ρ2 hm hz i
      rw [List.length_cons] at hz
      obtain ⟨ρ3, e3, y, ρ4, e4, py, i4⟩ := it d (hm d (List.mem_cons_self ..)) ρ2 i
      obtain ⟨rs, ρ5, e5, l5, p5, i5⟩ := ih (acc ++ [y]) ρ4 (fun d' h => hm d' (List.mem_cons_of_mem _ h)) (by rw [List.length_append, List.length_singleton]; omega) i4
      refine ⟨y :: rs, ρ5, ?_, by simp [l5], ?_, i5⟩
      · have hw : wp (lcGo vs b mYes elt (d :: ds') acc) ρ2 (fun r ρ' => r = acc ++ y :: rs ∧ ρ' = ρ5) := by
          show wp ((fun ρ => some (.ok () (wipeS ρ vs)) : M Unit) >>= _) ρ2 _
          refine wp_bind.mpr ?_
          refine ⟨(), _, rfl, ?_⟩
          refine wp_bind.mpr ?_
          refine ⟨(), ρ3, e3, ?_⟩
          refine wp_bind.mpr ?_
          refine ⟨true, ρ3, rfl, ?_⟩
          show wp (elt >>= _) ρ3 _
          refine wp_bind.mpr ?_
          refine ⟨y, ρ4, e4, ?_⟩
          have e6 : (if acc.length < sizeLine then lcGo vs b mYes elt ds' (acc ++ [y]) else fun _ => none) ρ4 = some (.ok ((acc ++ [y]) ++ rs) ρ5) := by rw [if_pos (by omega)]; exact e5
          refine ⟨_, _, e6, ?_, rfl⟩
          rw [List.append_assoc]
          rfl
        obtain ⟨r, ρ', e, rfl, rfl⟩ := hw
        exact e
      · intro j d' r h1 h2
        cases j with
        | zero => simp at h1 h2; subst h1; subst h2; exact py
        | succ j => exact p5 j d' r (by simpa using h1) (by simpa using h2)
  obtain ⟨rs, ρ3, e, l, p, i3⟩ := go ds [] ρ1 (fun _ h => h) (by simpa using hl) i0
  rw [List.nil_append] at e
  refine ⟨.list rs, backS ρ1 ρ3 vs, ?_, ie rs ρ3 l p i3⟩
  simp only
  rw [if_pos hv, e]
end
end CF
end
section
/-! CF, part y: what the operators give. -/
namespace CF
open PySem
theorem eqB_int {i j : Int} : eqB (.int i) (.int j) = some (decide (i = j)) := by
  show (if (SeqAt.shaped (PyData.int i) && SeqAt.shaped (PyData.int j)) = true then some (PyData.eqv (.int i) (.int j)) else none) = _
  rw [if_pos (by rfl)]
  rfl
theorem eqD_int {i j : Int} : eqD (.int i) (.int j) = some (.bool (decide (i = j))) := by unfold eqD; rw [eqB_int]; rfl
theorem neD_int {i j : Int} : neD (.int i) (.int j) = some (.bool (!decide (i = j))) := by unfold neD; rw [eqB_int]; rfl
theorem eqD_str {x y : Str} : eqD (.str x) (.str y) = some (.bool (decide (x = y))) := rfl
theorem neD_str {x y : Str} : neD (.str x) (.str y) = some (.bool (!decide (x = y))) := rfl
theorem eqD_self {d : D} (h : d.canLay0 = true) (hd : d.depth ≤ 64) : eqD d d = some (.bool true) := by
  have hs : SeqAt.shaped d = true := by unfold SeqAt.shaped; rw [h, decide_eq_true hd]; rfl
  unfold eqD eqB
  cases e : stxD d d with
  | some b =>
    obtain ⟨x, y, e1, e2, e3⟩ := stxD_some e
    rw [e1] at e2
    cases e2
    rw [e3, decide_eq_true rfl]
    rfl
  | none =>
    simp only
    rw [if_pos (by rw [hs]; rfl), SeqAt.eqv_refl d h]
    rfl
theorem small_of {i : Int} (h1 : -(2 ^ 64) < i) (h2 : i < 2 ^ 64) : small i = true := decide_eq_true ⟨h1, h2⟩
theorem mulD_r {i j : Int} (h : small j = true) : mulD (.int i) (.int j) = some (.int (i * j)) := by
  show (if (small i || small j) = true then _ else _) = _
  rw [if_pos (by rw [h, Bool.or_true])]
theorem mulD_l {i j : Int} (h : small i = true) : mulD (.int i) (.int j) = some (.int (i * j)) := by
  show (if (small i || small j) = true then _ else _) = _
  rw [if_pos (by rw [h, Bool.true_or])]
theorem addD_int {i j : Int} : addD (.int i) (.int j) = some (.int (i + j)) := rfl
theorem addI_int {i j : Int} : addI (.int i) (.int j) = some (.int (i + j)) := rfl
theorem subD_int {i j : Int} : subD (.int i) (.int j) = some (.int (i - j)) := rfl
theorem ltD_int {i j : Int} : ltD (.int i) (.int j) = some (.bool (decide (i < j))) := rfl
theorem leD_int {i j : Int} : leD (.int i) (.int j) = some (.bool (decide (i ≤ j))) := rfl
theorem gtD_int {i j : Int} : gtD (.int i) (.int j) = some (.bool (decide (j < i))) := rfl
theorem geD_int {i j : Int} : geD (.int i) (.int j) = some (.bool (decide (j ≤ i))) := rfl
theorem intC_int {i : Int} : intC [.int i] = some (.int i) := rfl
theorem lenC_list {xs : List D} : lenC [.list xs] = some (.int xs.length) := rfl
theorem lenC_tuple {xs : List D} : lenC [.tuple xs] = some (.int xs.length) := rfl
theorem tupleC_list {xs : List D} : tupleC [.list xs] = some (.tuple xs) := rfl
theorem listC_tuple {xs : List D} : listC [.tuple xs] = some (.list xs) := rfl
theorem listC_dict {es : List (D × D)} : listC [.dict es] = some (.list (es.map (·.1))) := rfl
theorem ix_list {xs : List D} {i : Int} : ixD (.list xs) (.int i) = L2.atI xs i := rfl
theorem ix_tuple {xs : List D} {i : Int} : ixD (.tuple xs) (.int i) = L2.atI xs i := rfl
theorem addL_list {xs ys : List D} (h : xs.length + ys.length ≤ sizeLine) : addL (.list xs) (.list ys) = some (.list (xs ++ ys)) := if_pos h
theorem modD_of {i j : Int} (h : 0 < j) : modD (.int i) (.int j) = some (.int (i % j)) := if_pos h
theorem fdivD_of {i j : Int} (h : 0 < j) (h2 : j < 1073741824) : fdivD (.int i) (.int j) = some (.int (i / j)) := if_pos ⟨h, h2⟩
theorem powD_of {i j : Int} (h : 0 ≤ j ∧ j ≤ 1000000 ∧ i.natAbs < 2 ^ 64) : powD (.int i) (.int j) = some (.int (i ^ j.toNat)) := if_pos h
theorem slD_list {xs : List D} {lo hi : Option Int} : slD (.list xs) lo hi = some (.list (cutL xs lo hi)) := rfl
theorem slD_tuple {xs : List D} {lo hi : Option Int} : slD (.tuple xs) lo hi = some (.tuple (cutL xs lo hi)) := rfl
/-- the bag -/
def bagD (a b c : Int) (ns : List Int) : D := .list [.int a, .int b, .int c, .list (ns.map PyData.int)]
theorem ix0 {x : D} {xs : List D} : ixD (.list (x :: xs)) (.int 0) = some x := L2.atI_nat (j := 0) rfl
theorem ixO0 {x : D} {xs : List D} : ixO (.list (x :: xs)) (.int 0) = some x := L2.atI_nat (j := 0) rfl
theorem cut_from {xs : List D} {i : Int} : ∃ k, cutL xs (some i) none = xs.drop k := by
  refine ⟨HT.sIx xs.length 0 (some i), ?_⟩
  unfold cutL
  rw [HT.sIx_none]
  exact List.take_of_length_le (by rw [List.length_drop]; exact Nat.le_refl _)
/-- the number that is taken next -/
theorem next_int (ns : List Int) (k : Nat) : ∃ n, ixD (.list ((ns.map PyData.int).drop k ++ [.int 0])) (.int 0) = some (.int n) := by
  rw [← List.map_drop]
  cases ns.drop k with
  | nil => exact ⟨0, ix0⟩
  | cons n r => exact ⟨n, ix0⟩
end CF
namespace CF
theorem iSqM {ρ : List Slot} {Q : RS → List Slot → Prop} {a b : MS} (Mid : List Slot → Prop) (h : wp a ρ fun f ρ' => f = .nx ∧ Mid ρ') (h2 : ∀ ρ', Mid ρ' → wp b ρ' Q) : wp (mSq a b) ρ Q :=
  wp_sq.mpr (h.mono fun f ρ' ⟨e, m⟩ => by subst e; exact h2 ρ' m)
theorem iteD {c : Prop} [Decidable c] {A B : Prop} (h1 : c → A) (h2 : ¬ c → B) : if decide c = true then A else B := by
  by_cases h : c
  · rw [if_pos (decide_eq_true h)]; exact h1 h
  · rw [if_neg (by simpa using h)]; exact h2 h
theorem iteT {A B : Prop} (h : A) : if true = true then A else B := h
theorem iteF {A B : Prop} (h : B) : if false = true then A else B := h
end CF
namespace CF
open PySem
theorem isN_none : isND .none .none = some (.bool true) := rfl
theorem isN_int {i : Int} : isND (.int i) .none = some (.bool false) := rfl
theorem notN_none : notND .none .none = some (.bool false) := rfl
theorem notN_int {i : Int} : notND (.int i) .none = some (.bool true) := rfl
theorem min2_int {i j : Int} : min2C [.int i, .int j] = some (.int (if j < i then j else i)) := rfl
theorem max2_int {i j : Int} : max2C [.int i, .int j] = some (.int (if j > i then j else i)) := rfl
theorem iSetB {ρ : List Slot} {Q : RS → List Slot → Prop} {b : D → M Unit} {m : M D} (h : wp m ρ fun d ρ1 => ∃ ρ2, b d ρ1 = some (.ok () ρ2) ∧ Q .nx ρ2) : wp (mSetB b m) ρ Q := by
  unfold mSetB
  refine wp_bind.mpr (h.mono fun d ρ1 ⟨ρ2, e, q⟩ => wp_bind.mpr ⟨(), ρ2, by unfold mB; rw [e], wp_pure.mpr q⟩)
theorem iRng1 {ρ : List Slot} {Q : List D → List Slot → Prop} {a : M LV} (h : wp a ρ fun x ρ1 => ∃ j, lv x ρ1 = some (.int j) ∧ okR j = true ∧ Q (rangeD 0 j.toNat) ρ1) : wp (mRng1 a) ρ Q := by
  unfold mRng1
  refine wp_bind.mpr (h.mono fun x ρ1 ⟨j, h1, h2, q⟩ => wp_bind.mpr (wp_get.mpr ⟨_, h1, wp_lift.mpr ⟨_, ?_, q⟩⟩))
  simp [intOf, h2]
theorem iRng2 {ρ : List Slot} {Q : List D → List Slot → Prop} {a b : M LV} (h : wp a ρ fun x ρ1 => wp b ρ1 fun y ρ2 => ∃ i j, lv x ρ2 = some (.int i) ∧ lv y ρ2 = some (.int j) ∧ okR i = true ∧ okR j = true ∧ Q (rangeD i (j - i).toNat) ρ2) : wp (mRng2 a b) ρ Q := by
  unfold mRng2
  refine wp_bind.mpr (h.mono fun x ρ1 q => wp_bind.mpr (q.mono fun y ρ2 ⟨i, j, h1, h2, h3, h4, q⟩ => wp_bind.mpr (wp_get.mpr ⟨_, h1, wp_bind.mpr (wp_get.mpr ⟨_, h2, wp_lift.mpr ⟨_, ?_, q⟩⟩)⟩)))
  simp [intOf, h3, h4]
theorem okR_of {j : Int} (h0 : 0 ≤ j) (h : j < 1000000) : okR j = true := decide_eq_true ⟨by omega, by omega⟩
theorem range_mem {i : Int} {n : Nat} {d : D} (h : d ∈ rangeD i n) : ∃ j : Int, d = .int j ∧ i ≤ j ∧ j < i + n := by
  unfold rangeD at h
  obtain ⟨k, hk, e⟩ := List.mem_map.mp h
  exact ⟨_, e.symm, by have := List.mem_range.mp hk; omega, by have := List.mem_range.mp hk; omega⟩
theorem range_len {i : Int} {n : Nat} : (rangeD i n).length = n := by unfold rangeD; simp
theorem ints_of {rs : List D} {p : Int → Prop} (h : ∀ r ∈ rs, ∃ n, r = .int n ∧ p n) : ∃ ns : List Int, rs = ns.map PyData.int ∧ ∀ n ∈ ns, p n := by
  induction rs with
  | nil => exact ⟨[], rfl, fun _ h => nomatch h⟩
  | cons r rs ih =>
    obtain ⟨n, e, pn⟩ := h r (List.mem_cons_self ..)
    obtain ⟨ns, e2, p2⟩ := ih fun x hx => h x (List.mem_cons_of_mem _ hx)
    refine ⟨n :: ns, by rw [e, e2]; rfl, fun m hm => ?_⟩
    rcases List.mem_cons.mp hm with q | q
    · rw [q]; exact pn
    · exact p2 m q
end CF
end
section
/-! CF, part z: the laws' own helpers: the bag. -/
namespace CF
open PySem
local macro_rules | `(tactic| walk_at "hf") => `(tactic| (first
  | with_reducible exact eqD_int | with_reducible exact neD_int | with_reducible exact addD_int | with_reducible exact addI_int | with_reducible exact subD_int | with_reducible exact geD_int | with_reducible exact gtD_int | with_reducible exact leD_int | with_reducible exact ltD_int | with_reducible exact modD_of (by decide) | with_reducible exact mulD_r (by decide) | with_reducible exact mulD_l (by decide) | with_reducible exact powD_of (by decide) | with_reducible exact ix0 | ((with_reducible show ixD (.list _) (.int _) = _); rfl) | ((with_reducible show ixD (.tuple _) (.int _) = _); rfl)
  | with_reducible exact intC_int | with_reducible exact lenC_list | with_reducible exact lenC_tuple | with_reducible exact tupleC_list | with_reducible exact listC_tuple | with_reducible exact listC_dict | with_reducible exact slD_list | with_reducible exact slD_tuple))
local macro_rules | `(tactic| walk_at "m1") => `(tactic| (first
  | with_reducible refine iSq ?_ | with_reducible refine iThn ?_ | with_reducible refine iIfS ?_ | with_reducible refine iSet ?_ | with_reducible refine iSetO ?_ | with_reducible refine iRet ?_ | with_reducible refine iNx ?_ | with_reducible refine iThnR ?_
  | with_reducible refine iTest ?_ | with_reducible refine iOp2 ?_ | ((with_reducible refine' iPk ?h1 ?h2); (case h1 => rfl)) | with_reducible refine iV ?_ | with_reducible refine iC ?_ | ((with_reducible refine' iVar ?h1 ?h2); (case h1 => rfl))
  | with_reducible refine iCall ?_ | with_reducible refine iLs0 ?_ | with_reducible refine iLs ?_ | with_reducible refine iSub ?_ | with_reducible refine iSl ?_ | with_reducible refine iSome ?_ | with_reducible refine iNone ?_ | with_reducible refine iLst ?_ | with_reducible refine iTup ?_ | with_reducible refine iDs0 ?_ | with_reducible refine iDs ?_
  | with_reducible refine iAnd ?_ | with_reducible refine iOr ?_ | with_reducible refine iNot ?_ | with_reducible refine iBl ?_ | with_reducible refine iIf ?_ | with_reducible refine iDrop ?_ | with_reducible refine iYes ?_ | with_reducible refine iPar ?_
  | ((with_reducible refine' iAugS ?h1 ?h2); (case h1 => exact ⟨_, rfl⟩))
  | ((with_reducible refine' iPutE ?h1 ?h2 ?h3); (case h1 => rfl); (case h2 => rfl))
  | ((with_reducible refine' iOp2E ?h1 ?h2 ?h3 ?h4); (case h1 => rfl); (case h2 => rfl); (case h3 => walk_at "hf"))
  | ((with_reducible refine' iCallE ?h1 ?h2 ?h3); (case h1 => rfl); (case h2 => walk_at "hf"))
  | (with_reducible refine ⟨_, rfl, ?_⟩)
  | ((with_reducible refine' ⟨_, ?h1, ?h2⟩); (case h1 => walk_at "hf"))
  | ((with_reducible refine' ⟨⟨_, ?h1⟩, ?h2⟩); (case h1 => rfl))
  | ((with_reducible refine' ⟨_, _, ?h1, ?h2, ?h3⟩); (case h1 => rfl); (case h2 => walk_at "hf"))
  | ((with_reducible refine' ⟨_, _, ?h1, ?h2, ?h3⟩); (case h1 => rfl); (case h2 => rfl))))
def BagOk (d : D) : Prop := ∃ a b c ns, d = bagD a b c ns ∧ ns.length ≤ 63
/-- a def that draws from the bag -/
def bagFn (g : FM) (args : List D) (P : D → Prop) : Prop := ∀ bag, BagOk bag → gives g (.own bag :: args.map .dat) fun d ps' => P d ∧ ∃ bag', BagOk bag' ∧ ps'.getD 0 .un = .own bag'
def bagE (g : FM) (b : Nat) (xs : List LV) (Q : D → List Slot → Prop) (ρ : List Slot) : Prop := ∃ ds bag1 P, argD ρ xs = some ds ∧ ρ[b]? = some (.own bag1) ∧ BagOk bag1 ∧ bagFn g ds P ∧ ∀ d bag2, P d → BagOk bag2 → Q d (ρ.set b (.own bag2))
theorem iBagE {ρ : List Slot} {g : FM} {b : Nat} {xs : List LV} {Q : D → List Slot → Prop} {ds : List D} {bag1 : D} {P : D → Prop} (h1 : argD ρ xs = some ds) (h2 : ρ[b]? = some (.own bag1)) (ok : BagOk bag1) (hP : bagFn g ds P) (k : ∀ d bag2, P d → BagOk bag2 → Q d (ρ.set b (.own bag2))) : bagE g b xs Q ρ := ⟨ds, bag1, P, h1, h2, ok, hP, k⟩
theorem iBag {ρ : List Slot} {g : FM} {as : List (M LV)} {b : Nat} {Q : D → List Slot → Prop} (hb : (sv ρ[b]?).isSome = true) (h : wp (mLs as) ρ fun xs ρ1 => bagE g b xs Q ρ1) : wp (mFn [0] g (mPk b :: as)) ρ Q := by
  refine wp_fn0 hb (h.mono fun xs ρ1 ⟨ds, bag1, P, h1, h2, h3, h4, h5⟩ => ⟨ds, h1, bag1, h2, ?_⟩)
  obtain ⟨d, ps', e, p, bag', ok, eb⟩ := h4 bag1 h3
  refine ⟨d, ps', e, ?_⟩
  show Q d (ρ1.set b (ps'.getD 0 .un))
  rw [eb]
  exact h5 d bag' p ok
def fnE (g : FM) (xs : List LV) (Q : D → List Slot → Prop) (ρ : List Slot) : Prop := ∃ ds, argD ρ xs = some ds ∧ gives g (ds.map .dat) fun d _ => Q d ρ
theorem iFnE {ρ : List Slot} {g : FM} {xs : List LV} {Q : D → List Slot → Prop} {ds : List D} (h1 : argD ρ xs = some ds) (h2 : gives g (ds.map .dat) fun d _ => Q d ρ) : fnE g xs Q ρ := ⟨ds, h1, h2⟩
theorem iFn {ρ : List Slot} {g : FM} {as : List (M LV)} {Q : D → List Slot → Prop} (h : wp (mLs as) ρ fun xs ρ1 => fnE g xs Q ρ1) : wp (mFn [] g as) ρ Q := wp_fn h
/-- a def without a bag -/
def pureFn (g : FM) (args : List D) (P : D → Prop) : Prop := gives g (args.map .dat) fun d _ => P d
theorem gives.mono {g : FM} {ps : List Slot} {P P' : D → List Slot → Prop} (h : gives g ps P) (f : ∀ d ps', P d ps' → P' d ps') : gives g ps P' := let ⟨d, ps', e, p⟩ := h; ⟨d, ps', e, f d ps' p⟩
theorem iFnP {ρ : List Slot} {g : FM} {xs : List LV} {Q : D → List Slot → Prop} {ds : List D} {P : D → Prop} (h1 : argD ρ xs = some ds) (h2 : pureFn g ds P) (k : ∀ d, P d → Q d ρ) : fnE g xs Q ρ := ⟨ds, h1, h2.mono fun d _ p => k d p⟩
theorem bagFn.mono {g : FM} {args : List D} {P P' : D → Prop} (h : bagFn g args P) (f : ∀ d, P d → P' d) : bagFn g args P' := fun bag ok => let ⟨d, ps', e, p, q⟩ := h bag ok; ⟨d, ps', e, f d p, q⟩
def b_take : MS :=
  (mSq (mIfS (mTest (mOp2 eqD (mV (mOp2 ixD (mPk 0) (mV (mC (.int 0))))) (mV (mC (.int 0)))))
    (mSq (mSet 2 (mOp2 ixD (mV (mOp2 addL (mV (mSl slD (mV (mOp2 ixD (mPk 0) (mV (mC (.int 3))))) (someP (mOp2 ixD (mPk 0) (mV (mC (.int 2))))) noneP)) (mV (mLst [(mC (.int 0))])))) (mV (mC (.int 0)))))
  (mSq (mAugS 0 addI (mC (.int 2)) (mC (.int 1)))
  (mSq (mIfS (mTest (mOp2 geD (mPk 2) (mV (mOp2 powD (mV (mC (.int 10))) (mV (mC (.int 18)))))))
    (mSub 0 (mC (.int 0)) (mVar 2))
    mNx)
  (mSq (mSet 3 (mOp2 addD (mV (mOp2 addD (mV (mOp2 mulD (mV (mOp2 ixD (mPk 0) (mV (mC (.int 1))))) (mV (mC (.int 48271))))) (mV (mOp2 modD (mV (mCall intC [(mPk 2)])) (mV (mC (.int 2147483647))))))) (mV (mOp2 mulD (mV (mC (.int 7919))) (mV (mOp2 ixD (mPk 0) (mV (mC (.int 2)))))))))
  (mSub 0 (mC (.int 1)) (mOp2 modD (mV (mCall intC [(mPk 3)])) (mV (mC (.int 2147483647)))))))))
    mNx)
  (mSq (mIfS (mTest (mOp2 gtD (mV (mOp2 ixD (mPk 0) (mV (mC (.int 0))))) (mV (mC (.int 0)))))
    (mSq (mSet 4 (mOp2 modD (mV (mCall intC [(mV (mOp2 ixD (mPk 0) (mV (mC (.int 0)))))])) (mPk 1)))
  (mSq (mSub 0 (mC (.int 0)) (mOp2 fdivD (mV (mCall intC [(mV (mOp2 ixD (mPk 0) (mV (mC (.int 0)))))])) (mPk 1)))
  (mRet (mVar 4))))
    mNx)
  (mSq (mSet 5 (mOp2 modD (mV (mCall intC [(mV (mOp2 mulD (mV (mOp2 addD (mV (mOp2 ixD (mPk 0) (mV (mC (.int 1))))) (mV (mC (.int 1))))) (mV (mC (.int 39373)))))])) (mV (mC (.int 1000000007)))))
  (mSq (mSet 6 (mOp2 modD (mV (mCall intC [(mV (mOp2 mulD (mV (mOp2 modD (mV (mCall intC [(mV (mOp2 mulD (mPk 5) (mPk 5)))])) (mV (mC (.int 998244353))))) (mV (mC (.int 30011)))))])) (mV (mC (.int 998244353)))))
  (mRet (mOp2 modD (mV (mCall intC [(mV (mOp2 fdivD (mPk 6) (mV (mC (.int 7)))))])) (mPk 1)))))))
def g_take : FM := runF false 2 5 [0] b_take
theorem take_ok (a b c many : Int) (ns : List Int) (hm : 0 < many) (h2 : many < 1073741824) (hl : ns.length ≤ 63) : gives g_take [.own (bagD a b c ns), .dat (.int many)] fun d ps' => ∃ v a' b' c', d = .int v ∧ 0 ≤ v ∧ v < many ∧ ps'.getD 0 .un = .own (bagD a' b' c' ns) := by
  have hz : ∀ k, ((ns.map PyData.int).drop k).length + [PyData.int 0].length ≤ sizeLine := fun k => by
    rw [List.length_drop, List.length_map, sizeLine_eq, List.length_singleton]; omega
  have emod : ∀ x : Int, 0 ≤ x % many ∧ x % many < many := fun x => ⟨Int.emod_nonneg _ (by omega), Int.emod_lt_of_pos _ hm⟩
  unfold g_take
  refine run_gives rfl ?_
  unfold b_take bagD
  refine iSqM (fun ρ => ∃ a b c s2 s3, ρ = [.own (bagD a b c ns), .dat (.int many), s2, s3, .un, .un, .un]) ?_ ?_
  · repeat walk_at "m1"
    refine iteD (fun h0 => ?_) (fun h0 => ?_)
    · repeat walk_at "m1"
      obtain ⟨k, ek⟩ := cut_from (xs := ns.map PyData.int) (i := c)
      refine ⟨by decide, ?_⟩
      refine iOp2E rfl rfl (by rw [ek]; exact addL_list (hz k)) ?_
      repeat walk_at "m1"
      obtain ⟨n, en⟩ := next_int ns k
      refine iOp2E rfl rfl en ?_
      repeat walk_at "m1"
      refine iteD (fun h1 => ?_) (fun h1 => ?_) <;>
      · repeat walk_at "m1"
        exact ⟨rfl, _, _, _, _, _, rfl⟩
    · repeat walk_at "m1"
      exact ⟨rfl, a, b, c, .un, .un, rfl⟩
  · rintro ρ ⟨a, b, c, s2, s3, rfl⟩
    unfold bagD
    repeat walk_at "m1"
    refine iteD (fun h0 => ?_) (fun h0 => ?_)
    · repeat walk_at "m1"
      refine iOp2E rfl rfl (modD_of hm) ?_
      repeat walk_at "m1"
      refine iOp2E rfl rfl (fdivD_of hm h2) ?_
      repeat walk_at "m1"
      exact ⟨rfl, _, _, _, _, rfl, (emod _).1, (emod _).2, rfl⟩
    · repeat walk_at "m1"
      have small9 : small ((b + 1) * 39373 % 1000000007) = true := small_of (by omega) (by omega)
      refine iOp2E rfl rfl (mulD_l small9) ?_
      repeat walk_at "m1"
      refine iOp2E rfl rfl (fdivD_of (by decide) (by decide)) ?_
      repeat walk_at "m1"
      refine iOp2E rfl rfl (modD_of hm) ?_
      repeat walk_at "m1"
      exact ⟨rfl, _, _, _, _, rfl, (emod _).1, (emod _).2, rfl⟩

theorem take_fn {many : Int} (hm : 0 < many) (h2 : many < 1073741824) : bagFn g_take [.int many] fun d => ∃ v, d = .int v ∧ 0 ≤ v ∧ v < many := fun bag ⟨a, b, c, ns, e, hl⟩ => by
  subst e
  obtain ⟨d, ps', e, v, a', b', c', h⟩ := take_ok a b c many ns hm h2 hl
  exact ⟨d, ps', e, ⟨v, h.1, h.2.1, h.2.2.1⟩, _, ⟨a', b', c', ns, rfl, hl⟩, h.2.2.2⟩
def b_one : MS :=
  (mRet (mOp2 ixD (mPk 1) (mV (mFn [0] g_take [(mPk 0), (mV (mCall lenC [(mPk 1)]))]))))
def g_one : FM := runF false 2 0 [0] b_one
theorem at_int {xs : List D} {v : Int} (h0 : 0 ≤ v) (h1 : v < xs.length) : ∃ x, x ∈ xs ∧ L2.atI xs v = some x := by
  obtain ⟨n, rfl⟩ := Int.eq_ofNat_of_zero_le h0
  have hn : n < xs.length := by omega
  exact ⟨xs[n], List.getElem_mem hn, L2.atI_nat (List.getElem?_eq_getElem hn)⟩
theorem one_fn {t : D} {xs : List D} (ht : t = .list xs ∨ t = .tuple xs) (h0 : 0 < xs.length) (h1 : xs.length < 1073741824) : bagFn g_one [t] fun d => d ∈ xs := fun bag ok => by
  unfold g_one
  refine run_gives rfl ?_
  unfold b_one
  have hl : lenC [t] = some (.int xs.length) := by rcases ht with rfl | rfl <;> rfl
  have hx : ∀ v, ixD t (.int v) = L2.atI xs v := fun v => by rcases ht with rfl | rfl <;> rfl
  repeat walk_at "m1"
  refine iBag rfl ?_
  repeat walk_at "m1"
  refine iCallE rfl hl ?_
  repeat walk_at "m1"
  refine iBagE rfl rfl ok (take_fn (by omega) (by omega)) ?_
  rintro d bag2 ⟨v, rfl, v0, v1⟩ ok2
  obtain ⟨x, hm, hx'⟩ := at_int v0 v1
  refine iOp2E rfl rfl ((hx v).trans hx') ?_
  exact ⟨x, rfl, rfl, hm, bag2, ok2, rfl⟩
def b_mixed : MS :=
  (mSq (mSetO 2 (mLst []))
  (mSq (mFor (mIt (mVar 1)) (setS 3)
    (mDrop (mMut 2 insG (mDs [(mFn [0] g_take [(mPk 0), (mV (mOp2 addD (mV (mCall lenC [(mPk 2)])) (mV (mC (.int 1)))))]), (mVar 3)]))))
  (mSq (mRel 2) (mRet (mVar 2)))))
def g_mixed : FM := runF false 2 2 [0] b_mixed
theorem wIt {ρ : List Slot} {m : M D} {Q : List D → List Slot → Prop} (h : wp m ρ fun d ρ1 => ∃ ds, iterD d = some ds ∧ Q ds ρ1) : wp (mIt m) ρ Q := by
  unfold mIt
  exact wp_bind.mpr (h.mono fun d ρ1 q => wp_lift.mpr q)
theorem perm_ins {xs ys : List D} (x : D) (k : Nat) (h : ys.Perm xs) : (ys.take k ++ [x] ++ ys.drop k).Perm (xs ++ [x]) := by
  have e : (ys.take k ++ [x] ++ ys.drop k).Perm (ys.take k ++ ys.drop k ++ [x]) := by
    rw [List.append_assoc, List.append_assoc]
    exact List.Perm.append_left _ List.perm_append_comm
  rw [List.take_append_drop] at e
  exact e.trans (h.append_right [x])
theorem mixed_fn {t : D} {xs : List D} (ht : t = .list xs ∨ t = .tuple xs) (h1 : xs.length < 1048576) : bagFn g_mixed [t] fun d => ∃ ys, d = .list ys ∧ ys.Perm xs := fun bag ok => by
  unfold g_mixed
  refine run_gives rfl ?_
  unfold b_mixed
  have hi : iterD t = some xs := by rcases ht with rfl | rfl <;> rfl
  have hz := L2.line63
  repeat walk_at "m1"
  refine ⟨Nat.zero_le _, ?_⟩
  repeat walk_at "m1"
  refine iFor (wIt ?_)
  repeat walk_at "m1"
  refine ⟨_, hi, ?_⟩
  refine ⟨fun rest ρ => ∃ done ys bag s, xs = done ++ rest ∧ ys.Perm done ∧ BagOk bag ∧ ρ = [.own bag, .dat t, .own (.list ys), s], ⟨[], [], bag, .un, rfl, .refl _, ok, rfl⟩, ?_, ?_⟩
  · rintro ρ ⟨done, ys, bag, s, e, hp, ok2, rfl⟩
    rw [List.append_nil] at e
    subst e
    repeat walk_at "m1"
    refine iRel rfl ?_
    repeat walk_at "m1"
    exact ⟨rfl, ⟨ys, rfl, hp⟩, bag, ok2, rfl⟩
  · rintro d ds ρ ⟨done, ys, bag, s, e, hp, ok2, rfl⟩
    refine ⟨_, rfl, ?_⟩
    have hlen : ys.length < 1048576 := by
      have := congrArg List.length e
      rw [List.length_append, List.length_cons] at this
      have := hp.length_eq
      omega
    repeat walk_at "m1"
    refine iMut rfl ?_
    repeat walk_at "m1"
    refine iBag rfl ?_
    repeat walk_at "m1"
    refine iBagE rfl rfl ok2 (take_fn (by omega) (by omega)) ?_
    rintro v bag3 ⟨v, rfl, v0, v1⟩ ok3
    repeat walk_at "m1"
    refine iMutE rfl (if_pos ⟨by rw [sizeLine_eq]; omega, v0, by omega⟩) ?_
    exact ⟨done ++ [d], _, bag3, _, by rw [e, List.append_assoc]; rfl, perm_ins d v.toNat hp, ok3, rfl⟩
end CF
end
section
/-! CF, part z1: what may be shown and compared; alike, flat. -/
namespace CF
open PySem
local macro_rules | `(tactic| walk_at "hf") => `(tactic| (first
  | with_reducible exact eqD_int | with_reducible exact eqD_str | with_reducible exact neD_int | with_reducible exact addD_int | with_reducible exact addI_int | with_reducible exact subD_int | with_reducible exact geD_int | with_reducible exact gtD_int | with_reducible exact leD_int | with_reducible exact ltD_int | with_reducible exact modD_of (by decide) | with_reducible exact mulD_r (by decide) | with_reducible exact mulD_l (by decide) | with_reducible exact powD_of (by decide) | with_reducible exact ix0 | ((with_reducible show ixD (.list _) (.int _) = _); rfl) | ((with_reducible show ixD (.tuple _) (.int _) = _); rfl)
  | with_reducible exact intC_int | with_reducible exact lenC_list | with_reducible exact lenC_tuple | with_reducible exact tupleC_list | with_reducible exact listC_tuple | with_reducible exact listC_dict | with_reducible exact slD_list | with_reducible exact slD_tuple))
local macro_rules | `(tactic| walk_at "m1") => `(tactic| (first
  | with_reducible refine iSq ?_ | with_reducible refine iThn ?_ | with_reducible refine iIfS ?_ | with_reducible refine iSet ?_ | with_reducible refine iSetO ?_ | with_reducible refine iRet ?_ | with_reducible refine iNx ?_ | with_reducible refine iThnR ?_
  | with_reducible refine iTest ?_ | with_reducible refine iOp2 ?_ | ((with_reducible refine' iPk ?h1 ?h2); (case h1 => rfl)) | with_reducible refine iV ?_ | with_reducible refine iC ?_ | ((with_reducible refine' iVar ?h1 ?h2); (case h1 => rfl))
  | with_reducible refine iCall ?_ | with_reducible refine iLs0 ?_ | with_reducible refine iLs ?_ | with_reducible refine iSub ?_ | with_reducible refine iSl ?_ | with_reducible refine iSome ?_ | with_reducible refine iNone ?_ | with_reducible refine iLst ?_ | with_reducible refine iTup ?_ | with_reducible refine iDs0 ?_ | with_reducible refine iDs ?_
  | with_reducible refine iAnd ?_ | with_reducible refine iOr ?_ | with_reducible refine iNot ?_ | with_reducible refine iBl ?_ | with_reducible refine iIf ?_ | with_reducible refine iDrop ?_ | with_reducible refine iYes ?_ | with_reducible refine iPar ?_
  | ((with_reducible refine' iAugS ?h1 ?h2); (case h1 => exact ⟨_, rfl⟩))
  | ((with_reducible refine' iPutE ?h1 ?h2 ?h3); (case h1 => rfl); (case h2 => rfl))
  | ((with_reducible refine' iOp2E ?h1 ?h2 ?h3 ?h4); (case h1 => rfl); (case h2 => rfl); (case h3 => walk_at "hf"))
  | ((with_reducible refine' iCallE ?h1 ?h2 ?h3); (case h1 => rfl); (case h2 => walk_at "hf"))
  | (with_reducible refine ⟨_, rfl, ?_⟩)
  | ((with_reducible refine' ⟨_, ?h1, ?h2⟩); (case h1 => walk_at "hf"))
  | ((with_reducible refine' ⟨⟨_, ?h1⟩, ?h2⟩); (case h1 => rfl))
  | ((with_reducible refine' ⟨_, _, ?h1, ?h2, ?h3⟩); (case h1 => rfl); (case h2 => walk_at "hf"))
  | ((with_reducible refine' ⟨_, _, ?h1, ?h2, ?h3⟩); (case h1 => rfl); (case h2 => rfl))))
structure Fine (n k : Nat) (d : D) : Prop where
  sh : d.showable = true
  ln : d.shown.length ≤ n
  dp : d.depth ≤ k
theorem Fine.mono {n k n' k' : Nat} {d : D} (h : Fine n k d) (hn : n ≤ n') (hk : k ≤ k') : Fine n' k' d := ⟨h.sh, Nat.le_trans h.ln hn, Nat.le_trans h.dp hk⟩
theorem Fine.can {n k : Nat} {d : D} (h : Fine n k d) (hn : n ≤ sizeLine) (hk : k ≤ 60) : canShow d = true := by
  unfold canShow
  rw [h.sh, decide_eq_true (Nat.le_trans h.dp hk), decide_eq_true (Nat.le_trans h.ln hn)]
  rfl
theorem fine_none {k : Nat} : Fine 4 k .none := ⟨rfl, by decide, Nat.zero_le _⟩
theorem fine_bool {k : Nat} {b : Bool} : Fine 5 k (.bool b) := by cases b <;> exact ⟨rfl, by decide, Nat.zero_le _⟩
theorem fine_int {k : Nat} {i : Int} (h : i.natAbs < 10 ^ 40) : Fine 41 k (.int i) := by
  refine ⟨?_, ?_, Nat.zero_le _⟩
  · show decide (i.natAbs.log2 < 1920) = true
    refine decide_eq_true ?_
    by_cases h0 : i.natAbs = 0
    · rw [h0]; decide
    · exact (Nat.log2_lt h0).mpr (Nat.lt_trans h (by decide))
  · have h1 := int_text_length_le10 (a := i) (k := 40) (by decide) h
    show (Str.ofString (toString i)).length ≤ 41
    rw [ofString_length]
    exact h1
theorem textFrom_le : ∀ (ts : List Str) (n k : Nat) (acc : Str), (∀ t ∈ ts, t.length ≤ n) → (textFrom k acc ts).length ≤ acc.length + ts.length * (n + 2)
  | [], n, k, acc, _ => by show acc.length ≤ _; omega
  | t :: r, n, k, acc, h => by
    have h1 := h t (List.mem_cons_self ..)
    have ih := textFrom_le r n (k + 1) (acc ++ (if k > 0 then ", " else "" : String) ++ t) fun x hx => h x (List.mem_cons_of_mem _ hx)
    have e : (acc ++ (if k > 0 then ", " else "" : String) ++ t).length = acc.length + (if k > 0 then 2 else 0) + t.length := by
      rw [strLen_append, strLen_append]
      split <;> rfl
    show (textFrom (k + 1) (acc ++ (if k > 0 then ", " else "" : String) ++ t) r).length ≤ _
    have h2 : (if k > 0 then 2 else 0) ≤ 2 := by split <;> omega
    rw [e] at ih
    rw [List.length_cons, Nat.succ_mul]
    omega
theorem piled_le : ∀ (ts : List Str) (n : Nat), (∀ t ∈ ts, t.length ≤ n) → piled ts ≤ ts.length * (n + 2)
  | [], n, _ => by simp [piled]
  | t :: r, n, h => by
    have h1 := h t (List.mem_cons_self ..)
    have ih := piled_le r n fun x hx => h x (List.mem_cons_of_mem _ hx)
    rw [List.length_cons, Nat.succ_mul]
    simp [piled] at ih ⊢
    omega
theorem shownAll_map : ∀ ds : List D, PyData.shownAll ds = ds.map PyData.shown
  | [] => rfl
  | d :: ds => by rw [PyData.shownAll, shownAll_map ds]; rfl
theorem showableAll_of : ∀ {ds : List D}, (∀ d ∈ ds, d.showable = true) → PyData.showableAll ds = true
  | [], _ => by rw [PyData.showableAll]
  | d :: ds, h => by rw [PyData.showableAll, h d (List.mem_cons_self ..), showableAll_of fun x hx => h x (List.mem_cons_of_mem _ hx)]; rfl
theorem depthAll_le : ∀ {ds : List D} {k : Nat}, (∀ d ∈ ds, d.depth ≤ k) → PyData.depthAll ds ≤ k
  | [], k, _ => by rw [PyData.depthAll]; exact Nat.zero_le _
  | d :: ds, k, h => by rw [PyData.depthAll]; exact Nat.max_le.mpr ⟨h d (List.mem_cons_self ..), depthAll_le fun x hx => h x (List.mem_cons_of_mem _ hx)⟩
theorem fine_list {n k m : Nat} {ds : List D} (h : ∀ d ∈ ds, Fine n k d) (hm : ds.length ≤ m) : Fine (m * (n + 2) + 4) (k + 1) (.list ds) := by
  refine ⟨by rw [PyData.showable]; exact showableAll_of fun d hd => (h d hd).sh, ?_, by rw [PyData.depth]; exact Nat.succ_le_succ (depthAll_le fun d hd => (h d hd).dp)⟩
  rw [PyData.shown, shownAll_map]
  unfold listText
  rw [strLen_append]
  have q := textFrom_le (ds.map PyData.shown) n 0 "[" (fun t ht => by obtain ⟨d, hd, rfl⟩ := List.mem_map.mp ht; exact (h d hd).ln)
  rw [List.length_map] at q
  have q2 : ds.length * (n + 2) ≤ m * (n + 2) := Nat.mul_le_mul_right _ hm
  have e1 : (("[" : String) : Str).length = 1 := rfl
  have e2 : (("]" : String) : Str).length = 1 := rfl
  omega
theorem join_le {ts : List Str} {n : Nat} (h : ∀ t ∈ ts, t.length ≤ n) : (Str.join ", " ts).length ≤ ts.length * (n + 2) := by
  cases ts with
  | nil => exact Nat.zero_le _
  | cons t r =>
    have e := join_length_add (t :: r) (by simp)
    have q := piled_le (t :: r) n h
    omega
theorem fine_tuple {n k m : Nat} {ds : List D} (h : ∀ d ∈ ds, Fine n k d) (hm : ds.length ≤ m) : Fine (m * (n + 2) + 4) (k + 1) (.tuple ds) := by
  refine ⟨by rw [PyData.showable]; exact showableAll_of fun d hd => (h d hd).sh, ?_, by rw [PyData.depth]; exact Nat.succ_le_succ (depthAll_le fun d hd => (h d hd).dp)⟩
  rw [PyData.shown, shownAll_map]
  unfold tupleText
  rw [strLen_append, strLen_append]
  have q := join_le (ts := ds.map PyData.shown) (n := n) (fun t ht => by obtain ⟨d, hd, rfl⟩ := List.mem_map.mp ht; exact (h d hd).ln)
  rw [List.length_map] at q
  have q2 : ds.length * (n + 2) ≤ m * (n + 2) := Nat.mul_le_mul_right _ hm
  have e1 : (("(" : String) : Str).length = 1 := rfl
  have e2 : ∀ b : Bool, ((if b then ",)" else ")" : String) : Str).length ≤ 2 := fun b => by cases b <;> decide
  have := e2 ((ds.map PyData.shown).length == 1)
  omega
theorem showableKv_of : ∀ {es : List (D × D)}, (∀ p ∈ es, p.1.showable = true ∧ p.2.showable = true) → PyData.showableKv es = true
  | [], _ => by rw [PyData.showableKv]
  | (a, b) :: ds, h => by rw [PyData.showableKv, (h (a, b) (List.mem_cons_self ..)).1, (h (a, b) (List.mem_cons_self ..)).2, showableKv_of fun x hx => h x (List.mem_cons_of_mem _ hx)]; rfl
theorem depthKv_le : ∀ {es : List (D × D)} {k : Nat}, (∀ p ∈ es, p.1.depth ≤ k ∧ p.2.depth ≤ k) → PyData.depthKv es ≤ k
  | [], k, _ => by rw [PyData.depthKv]; exact Nat.zero_le _
  | (a, b) :: ds, k, h => by rw [PyData.depthKv]; exact Nat.max_le.mpr ⟨Nat.max_le.mpr (h (a, b) (List.mem_cons_self ..)), depthKv_le fun x hx => h x (List.mem_cons_of_mem _ hx)⟩
theorem shownKv_map : ∀ es : List (D × D), PyData.shownKv es = es.map fun p => p.1.shown ++ Str.ofString ": " ++ p.2.shown
  | [] => rfl
  | (a, b) :: es => by rw [PyData.shownKv, shownKv_map es]; rfl
theorem fine_dict {n1 n2 k m : Nat} {es : List (D × D)} (h : ∀ p ∈ es, Fine n1 k p.1 ∧ Fine n2 k p.2) (hm : es.length ≤ m) : Fine (m * (n1 + n2 + 4) + 4) (k + 1) (.dict es) := by
  refine ⟨by rw [PyData.showable]; exact showableKv_of fun p hp => ⟨(h p hp).1.sh, (h p hp).2.sh⟩, ?_, by rw [PyData.depth]; exact Nat.succ_le_succ (depthKv_le fun p hp => ⟨(h p hp).1.dp, (h p hp).2.dp⟩)⟩
  rw [PyData.shown, shownKv_map]
  unfold dictText
  rw [strLen_append, strLen_append]
  have q := join_le (ts := es.map fun p => p.1.shown ++ Str.ofString ": " ++ p.2.shown) (n := n1 + n2 + 2) (fun t ht => by
    obtain ⟨p, hp, rfl⟩ := List.mem_map.mp ht
    rw [strLen_append, strLen_append]
    have a := (h p hp).1.ln
    have b := (h p hp).2.ln
    have e : (Str.ofString ": ").length = 2 := rfl
    omega)
  rw [List.length_map] at q
  have q2 : es.length * (n1 + n2 + 2 + 2) ≤ m * (n1 + n2 + 4) := Nat.mul_le_mul_right _ hm
  have e1 : (("{" : String) : Str).length = 1 := rfl
  have e2 : (("}" : String) : Str).length = 1 := rfl
  omega
def b_alike : MS :=
  (mRet (mBl (mAnd (mTest (mOp2 eqD (mPk 0) (mPk 1))) (mTest (mOp2 eqD (mV (mCall reprC [(mPk 0)])) (mV (mCall reprC [(mPk 1)])))))))
def g_alike : FM := runF false 2 0 [] b_alike
/-- what may be compared and shown -/
structure Nice (d : D) : Prop where
  cl : d.canLay0 = true
  dp : d.depth ≤ 60
  sh : canShow d = true
theorem repr_of {d : D} (h : canShow d = true) : reprC [d] = some (.str d.shown) := if_pos h
theorem alike_fn {d : D} (h : Nice d) : pureFn g_alike [d, d] (· = .bool true) := by
  unfold g_alike pureFn
  refine run_gives rfl ?_
  unfold b_alike
  repeat walk_at "m1"
  refine iOp2E rfl rfl (eqD_self h.cl (by have := h.dp; omega)) ?_
  repeat walk_at "m1"
  refine iteT ?_
  repeat walk_at "m1"
  refine iCallE rfl (repr_of h.sh) ?_
  repeat walk_at "m1"
  refine iCallE rfl (repr_of h.sh) ?_
  repeat walk_at "m1"
  exact ⟨rfl, by rw [decide_eq_true rfl]⟩
def b_flat : MS :=
  (mSq (mSetO 1 (mLst []))
  (mSq (mFor (mIt (mVar 0)) (setS 2)
    (mDrop (mMut 1 extG (mDs [(mVar 2)]))))
  (mSq (mRel 1) (mRet (mVar 1)))))
def g_flat : FM := runF false 1 2 [] b_flat
/-- a row of a list or a tuple -/
def rowOf : D → Option (List D)
  | .list xs => some xs
  | .tuple xs => some xs
  | _ => none
theorem rowOf_ext {d : D} {xs ys : List D} (h : rowOf d = some xs) (hz : ys.length + xs.length ≤ sizeLine) : extG ys [d] = some (.none, ys ++ xs) := by
  unfold rowOf at h
  split at h
  · cases h; exact if_pos hz
  · cases h; exact if_pos hz
  · cases h
theorem flat_fn {t : D} {rows : List D} {xss : List (List D)} (ht : rowOf t = some rows) (hr : rows.map rowOf = xss.map some) (hz : xss.flatten.length ≤ sizeLine) : pureFn g_flat [t] (· = .list xss.flatten) := by
  unfold g_flat pureFn
  refine run_gives rfl ?_
  unfold b_flat
  have hi : iterD t = some rows := by
    unfold rowOf at ht
    split at ht
    · cases ht; rfl
    · cases ht; rfl
    · cases ht
  repeat walk_at "m1"
  refine ⟨Nat.zero_le _, ?_⟩
  repeat walk_at "m1"
  refine iFor (wIt ?_)
  repeat walk_at "m1"
  refine ⟨_, hi, ?_⟩
  refine ⟨fun rest ρ => ∃ done xs s, xss.flatten = done ++ xs.flatten ∧ rest.map rowOf = xs.map some ∧ ρ = [.dat t, .own (.list done), s], ⟨[], xss, .un, rfl, hr, rfl⟩, ?_, ?_⟩
  · rintro ρ ⟨done, xs, s, e, hx, rfl⟩
    have : xs = [] := by
      cases xs with
      | nil => rfl
      | cons x r => simp at hx
    subst this
    rw [List.flatten_nil, List.append_nil] at e
    repeat walk_at "m1"
    refine iRel rfl ?_
    repeat walk_at "m1"
    exact ⟨rfl, by rw [e]⟩
  · rintro d ds ρ ⟨done, xs, s, e, hx, rfl⟩
    refine ⟨_, rfl, ?_⟩
    cases xs with
    | nil => simp at hx
    | cons x r =>
      rw [List.map_cons, List.map_cons, List.cons.injEq] at hx
      have hl := congrArg List.length e
      rw [List.flatten_cons, List.length_append, List.length_append] at hl
      repeat walk_at "m1"
      refine iMut rfl ?_
      repeat walk_at "m1"
      refine iMutE rfl (rowOf_ext hx.1 (by omega)) ?_
      exact ⟨done ++ x, r, _, by rw [e, List.flatten_cons, List.append_assoc], hx.2, rfl⟩
end CF
end
section
/-! CF, part z2: the laws' own helpers: houses, tables, lots. -/
namespace CF
open PySem
theorem sz0 : ([] : List D).length ≤ sizeLine := Nat.zero_le _
theorem sz1 {a : D} : [a].length ≤ sizeLine := show 1 ≤ sizeLine by decide
theorem sz2 {a b : D} : [a, b].length ≤ sizeLine := show 2 ≤ sizeLine by decide
theorem sz3 {a b c : D} : [a, b, c].length ≤ sizeLine := show 3 ≤ sizeLine by decide
theorem sz4 {a b c d : D} : [a, b, c, d].length ≤ sizeLine := show 4 ≤ sizeLine by decide
theorem sz5 {a b c d e : D} : [a, b, c, d, e].length ≤ sizeLine := show 5 ≤ sizeLine by decide
local macro_rules | `(tactic| walk_at "hf") => `(tactic| (first
  | with_reducible exact eqD_int | with_reducible exact eqD_str | with_reducible exact neD_int | with_reducible exact addD_int | with_reducible exact addI_int | with_reducible exact subD_int | with_reducible exact geD_int | with_reducible exact gtD_int | with_reducible exact leD_int | with_reducible exact ltD_int | with_reducible exact modD_of (by decide) | with_reducible exact mulD_r (by decide) | with_reducible exact mulD_l (by decide) | with_reducible exact powD_of (by decide) | with_reducible exact ix0 | ((with_reducible show ixD (.list _) (.int _) = _); rfl) | ((with_reducible show ixD (.tuple _) (.int _) = _); rfl)
  | with_reducible exact intC_int | with_reducible exact lenC_list | with_reducible exact lenC_tuple | with_reducible exact tupleC_list | with_reducible exact listC_tuple | with_reducible exact listC_dict | with_reducible exact isN_none | with_reducible exact isN_int | with_reducible exact notN_none | with_reducible exact notN_int | with_reducible exact min2_int | with_reducible exact max2_int | with_reducible exact slD_list | with_reducible exact slD_tuple))
local macro_rules | `(tactic| walk_at "m1") => `(tactic| (first
  | with_reducible refine iSq ?_ | with_reducible refine iThn ?_ | with_reducible refine iIfS ?_ | with_reducible refine iSet ?_ | with_reducible refine iSetB ?_ | with_reducible refine iSetO ?_ | with_reducible refine iRet ?_ | with_reducible refine iNx ?_ | with_reducible refine iThnR ?_
  | with_reducible refine iTest ?_ | with_reducible refine iOp2 ?_ | ((with_reducible refine' iPk ?h1 ?h2); (case h1 => rfl)) | with_reducible refine iV ?_ | with_reducible refine iC ?_ | ((with_reducible refine' iVar ?h1 ?h2); (case h1 => rfl))
  | with_reducible refine iCall ?_ | with_reducible refine iLs0 ?_ | with_reducible refine iLs ?_ | with_reducible refine iSub ?_ | with_reducible refine iSl ?_ | with_reducible refine iSome ?_ | with_reducible refine iNone ?_ | with_reducible refine iLst ?_ | with_reducible refine iTup ?_ | with_reducible refine iDs0 ?_ | with_reducible refine iDs ?_
  | with_reducible refine iAnd ?_ | with_reducible refine iOr ?_ | with_reducible refine iNot ?_ | with_reducible refine iBl ?_ | with_reducible refine iIf ?_ | with_reducible refine iDrop ?_ | with_reducible refine iYes ?_ | with_reducible refine iPar ?_
  | ((with_reducible refine' iAugS ?h1 ?h2); (case h1 => exact ⟨_, rfl⟩))
  | ((with_reducible refine' iPutE ?h1 ?h2 ?h3); (case h1 => rfl); (case h2 => rfl))
  | ((with_reducible refine' iOp2E ?h1 ?h2 ?h3 ?h4); (case h1 => rfl); (case h2 => rfl); (case h3 => walk_at "hf"))
  | ((with_reducible refine' iCallE ?h1 ?h2 ?h3); (case h1 => rfl); (case h2 => walk_at "hf"))
  | with_reducible refine ⟨sz0, ?_⟩ | with_reducible refine ⟨sz1, ?_⟩ | with_reducible refine ⟨sz2, ?_⟩ | with_reducible refine ⟨sz3, ?_⟩ | with_reducible refine ⟨sz4, ?_⟩ | with_reducible refine ⟨sz5, ?_⟩
  | (with_reducible refine ⟨_, rfl, ?_⟩)
  | ((with_reducible refine' ⟨_, ?h1, ?h2⟩); (case h1 => walk_at "hf"))
  | ((with_reducible refine' ⟨⟨_, ?h1⟩, ?h2⟩); (case h1 => rfl))
  | ((with_reducible refine' ⟨_, _, ?h1, ?h2, ?h3⟩); (case h1 => rfl); (case h2 => walk_at "hf"))
  | ((with_reducible refine' ⟨_, _, ?h1, ?h2, ?h3⟩); (case h1 => rfl); (case h2 => rfl))))

/-! ### sorting -/
theorem sortL_perm (b : Bool) (ds : List D) : (sortL b ds).Perm ds := List.mergeSort_perm _ _
def isS : D → Bool
  | .str _ => true
  | _ => false
def isI : D → Bool
  | .int _ => true
  | _ => false
theorem canSort_strs {ds : List D} (h : ∀ d ∈ ds, isS d = true) : canSort ds = true := by
  have k : ∀ d ∈ ds, ∃ x, d = .str x := fun d hd => by
    have := h d hd
    cases d <;> first | exact ⟨_, rfl⟩ | cases this
  unfold canSort
  rw [Bool.and_eq_true, Bool.and_eq_true, Bool.or_eq_true]
  refine ⟨⟨?_, .inr ?_⟩, ?_⟩ <;> rw [List.all_eq_true]
  · intro d hd
    rw [List.all_eq_true]
    intro e he
    obtain ⟨x, rfl⟩ := k d hd
    obtain ⟨y, rfl⟩ := k e he
    rfl
  · intro d hd
    obtain ⟨x, rfl⟩ := k d hd
    rfl
  · intro d hd
    obtain ⟨x, rfl⟩ := k d hd
    rfl
theorem canSort_ints {ds : List D} (h : ∀ d ∈ ds, isI d = true) : canSort ds = true := by
  have k : ∀ d ∈ ds, ∃ x, d = .int x := fun d hd => by
    have := h d hd
    cases d <;> first | exact ⟨_, rfl⟩ | cases this
  unfold canSort
  rw [Bool.and_eq_true, Bool.and_eq_true, Bool.or_eq_true]
  refine ⟨⟨?_, .inr ?_⟩, ?_⟩ <;> rw [List.all_eq_true]
  · intro d hd
    rw [List.all_eq_true]
    intro e he
    obtain ⟨x, rfl⟩ := k d hd
    obtain ⟨y, rfl⟩ := k e he
    rfl
  · intro d hd
    obtain ⟨x, rfl⟩ := k d hd
    rfl
  · intro d hd
    obtain ⟨x, rfl⟩ := k d hd
    rfl
theorem sortedC_of {ds : List D} (h : canSort ds = true) : sortedC [.list ds] = some (.list (sortL false ds)) := if_pos h
theorem cut_to {xs : List D} (k : Nat) : cutL xs none (some (k : Int)) = xs.take k := by
  unfold cutL
  rw [HT.sIx_none, HT.sIx_nat, List.drop_zero, Nat.sub_zero]
  by_cases h : k ≤ xs.length
  · rw [Nat.min_eq_left h]
  · rw [Nat.min_eq_right (by omega), List.take_length, List.take_of_length_le (by omega)]
/-! ### names -/
def b_names : MS :=
  (mSq (mSet 2 (mLst [(mC (.str (Str.ofString "a"))), (mC (.str (Str.ofString "b"))), (mC (.str (Str.ofString "c"))), (mC (.str (Str.ofString "ab"))), (mC (.str (Str.ofString "rank"))), (mC (.str (Str.ofString "kth"))), (mC (.str (Str.ofString "open"))), (mC (.str (Str.ofString "sort"))), (mC (.str (Str.ofString "rows"))), (mC (.str (Str.ofString "is"))), (mC (.str (Str.ofString "at"))), (mC (.str (Str.ofString "count"))), (mC (.str (Str.ofString "fact")))]))
  (mSq (mSet 2 (mOp2 addL (mPk 2) (mV (mLst [(mC (.str (Str.ofString "zzzzzz"))), (mC (.str (Str.ofString "x"))), (mC (.str (Str.ofString "gym"))), (mC (.str (Str.ofString "jvl")))]))))
  (mRet (mCall tupleC [(mV (mCall sortedC [(mV (mSl slD (mV (mFn [0] g_mixed [(mPk 0), (mPk 2)])) noneP (someP (mVar 1))))]))]))))
def g_names : FM := runF false 2 1 [0] b_names

def menuD : List D := [.str (Str.ofString "a"), .str (Str.ofString "b"), .str (Str.ofString "c"), .str (Str.ofString "ab"), .str (Str.ofString "rank"), .str (Str.ofString "kth"), .str (Str.ofString "open"), .str (Str.ofString "sort"), .str (Str.ofString "rows"), .str (Str.ofString "is"), .str (Str.ofString "at"), .str (Str.ofString "count"), .str (Str.ofString "fact"), .str (Str.ofString "zzzzzz"), .str (Str.ofString "x"), .str (Str.ofString "gym"), .str (Str.ofString "jvl")]
theorem menu_S : ∀ d ∈ menuD, isS d = true := fun d h => by
  have : menuD.all isS = true := rfl
  exact List.all_eq_true.mp this d h
theorem names_fn {many : Int} (h0 : 1 ≤ many) : bagFn g_names [.int many] fun d => ∃ ys, d = .tuple ys ∧ (∀ y ∈ ys, y ∈ menuD) ∧ 1 ≤ ys.length ∧ (ys.length : Int) ≤ many := fun bag ok => by
  unfold g_names
  refine run_gives rfl ?_
  unfold b_names
  repeat walk_at "m1"
  refine ⟨by decide, ?_⟩
  repeat walk_at "m1"
  refine iOp2E rfl rfl (addL_list (by decide)) ?_
  repeat walk_at "m1"
  refine iBag rfl ?_
  repeat walk_at "m1"
  refine iBagE rfl rfl ok (mixed_fn (xs := menuD) (.inl rfl) (by decide)) ?_
  rintro d bag2 ⟨ys, rfl, hp⟩ ok2
  obtain ⟨k, hk⟩ := Int.eq_ofNat_of_zero_le (by omega : 0 ≤ many)
  subst hk
  repeat walk_at "m1"
  rw [cut_to]
  have hm : ∀ y ∈ sortL false (ys.take k), y ∈ menuD := fun y hy => hp.mem_iff.mp (List.mem_of_mem_take ((sortL_perm false _).mem_iff.mp hy))
  refine iCallE rfl (sortedC_of (canSort_strs fun d hd => menu_S d (hp.mem_iff.mp (List.mem_of_mem_take hd)))) ?_
  repeat walk_at "m1"
  have hl := (sortL_perm false (ys.take k)).length_eq
  rw [List.length_take, hp.length_eq] at hl
  have h17 : menuD.length = 17 := rfl
  exact ⟨rfl, ⟨_, rfl, hm, by omega, by omega⟩, bag2, ok2, rfl⟩
/-! ### a house -/
def b_sort : MS :=
  (mSq (mPar 2 3 (mFn [0] g_take [(mPk 0), (mV (mC (.int 7)))]) (mFn [0] g_one [(mPk 0), (mV (mLst [(mC (.int 0)), (mC (.int 1)), (mC (.int 2)), (mC (.int 1)), (mC (.int 3))]))]))
  (mSq (mIfS (mTest (mOp2 ltD (mPk 2) (mV (mC (.int 3)))))
    (mRet (mTup [(mVar 1), (mC (.int 1)), (mC (.int 1))]))
    mNx)
  (mSq (mIfS (mTest (mOp2 eqD (mPk 2) (mV (mC (.int 3)))))
    (mRet (mTup [(mVar 1), (mVar 3), (mVar 3)]))
    mNx)
  (mSq (mIfS (mTest (mOp2 eqD (mPk 2) (mV (mC (.int 4)))))
    (mRet (mTup [(mVar 1), (mC (.int 0)), (mOp2 addD (mV (mC (.int 1))) (mV (mFn [0] g_take [(mPk 0), (mV (mC (.int 3)))])))]))
    mNx)
  (mSq (mIfS (mTest (mOp2 eqD (mPk 2) (mV (mC (.int 5)))))
    (mRet (mTup [(mVar 1), (mVar 3), (mOp2 addD (mPk 3) (mV (mFn [0] g_one [(mPk 0), (mV (mLst [(mC (.int 1)), (mC (.int 2)), (mC (.int 0)), (mC (.int 6))]))])))]))
    mNx)
  (mRet (mTup [(mVar 1), (mVar 3), (mC .none)])))))))
def g_sort : FM := runF false 2 2 [0] b_sort

def SortOk (d : D) : Prop := ∃ nm lo hi, d = .tuple [nm, .int lo, hi] ∧ nm ∈ menuD ∧ 0 ≤ lo ∧ lo ≤ 3 ∧ (hi = .none ∨ ∃ h, hi = .int h ∧ lo ≤ h ∧ h ≤ 9)
theorem int_mem {xs : List D} {lo hi : Int} (h : xs.all (fun d => match d with | .int n => decide (lo ≤ n ∧ n ≤ hi) | _ => false) = true) {d : D} (hd : d ∈ xs) : ∃ n, d = .int n ∧ lo ≤ n ∧ n ≤ hi := by
  have := List.all_eq_true.mp h d hd
  cases d with
  | int n => exact ⟨n, rfl, of_decide_eq_true this⟩
  | _ => cases this
theorem sort_fn {nm : D} (hn : nm ∈ menuD) : bagFn g_sort [nm] SortOk := fun bag ok => by
  unfold g_sort
  refine run_gives rfl ?_
  unfold b_sort
  repeat walk_at "m1"
  refine iBag rfl ?_
  repeat walk_at "m1"
  refine iBagE rfl rfl ok (take_fn (by decide) (by decide)) ?_
  rintro way bag2 ⟨w, rfl, w0, w1⟩ ok2
  repeat walk_at "m1"
  refine iBag rfl ?_
  repeat walk_at "m1"
  refine iBagE rfl rfl ok2 (one_fn (xs := [.int 0, .int 1, .int 2, .int 1, .int 3]) (.inl rfl) (by decide) (by decide)) ?_
  intro few bag3 hf ok3
  obtain ⟨n, rfl, n0, n1⟩ := int_mem (lo := 0) (hi := 3) rfl hf
  repeat walk_at "m1"
  refine iteD (fun h => ?_) (fun h => ?_)
  · repeat walk_at "m1"
    exact ⟨rfl, ⟨nm, 1, .int 1, rfl, hn, by decide, by decide, .inr ⟨1, rfl, by decide, by decide⟩⟩, bag3, ok3, rfl⟩
  repeat walk_at "m1"
  refine iteD (fun h => ?_) (fun h => ?_)
  · repeat walk_at "m1"
    exact ⟨rfl, ⟨nm, n, .int n, rfl, hn, n0, n1, .inr ⟨n, rfl, by omega, by omega⟩⟩, bag3, ok3, rfl⟩
  repeat walk_at "m1"
  refine iteD (fun h => ?_) (fun h => ?_)
  · repeat walk_at "m1"
    refine iBag rfl ?_
    repeat walk_at "m1"
    refine iBagE rfl rfl ok3 (take_fn (by decide) (by decide)) ?_
    rintro z bag4 ⟨v, rfl, v0, v1⟩ ok4
    repeat walk_at "m1"
    exact ⟨rfl, ⟨nm, 0, .int (1 + v), rfl, hn, by decide, by decide, .inr ⟨_, rfl, by omega, by omega⟩⟩, bag4, ok4, rfl⟩
  repeat walk_at "m1"
  refine iteD (fun h => ?_) (fun h => ?_)
  · repeat walk_at "m1"
    refine iBag rfl ?_
    repeat walk_at "m1"
    refine iBagE rfl rfl ok3 (one_fn (xs := [.int 1, .int 2, .int 0, .int 6]) (.inl rfl) (by decide) (by decide)) ?_
    intro z bag4 hz ok4
    obtain ⟨v, rfl, v0, v1⟩ := int_mem (lo := 0) (hi := 6) rfl hz
    repeat walk_at "m1"
    exact ⟨rfl, ⟨nm, n, .int (n + v), rfl, hn, n0, n1, .inr ⟨_, rfl, by omega, by omega⟩⟩, bag4, ok4, rfl⟩
  repeat walk_at "m1"
  exact ⟨rfl, ⟨nm, n, .none, rfl, hn, n0, n1, .inl rfl⟩, bag3, ok3, rfl⟩
def b_house : MS :=
  (mRet (mCall tupleC [(mV (mLC [2] (mIt (mFn [0] g_names [(mPk 0), (mV (mOp2 addD (mV (mC (.int 1))) (mV (mFn [0] g_take [(mPk 0), (mPk 1)]))))])) (setS 2) mYes (mFn [0] g_sort [(mPk 0), (mPk 2)])))]))
def g_house : FM := runF false 2 1 [0] b_house

def HouseOk (most : Int) (d : D) : Prop := ∃ ss, d = .tuple ss ∧ (∀ s ∈ ss, SortOk s) ∧ 1 ≤ ss.length ∧ (ss.length : Int) ≤ most
theorem all_get {xs ys : List D} {P : D → D → Prop} {R : D → Prop} (hl : ys.length = xs.length) (h : ∀ (j : Nat) (d r : D), xs[j]? = some d → ys[j]? = some r → P d r) (hp : ∀ d r, d ∈ xs → P d r → R r) : ∀ r ∈ ys, R r := fun r hr => by
  obtain ⟨j, hj, e⟩ := List.getElem_of_mem hr
  have hx : j < xs.length := by omega
  exact hp xs[j] r (List.getElem_mem hx) (h j _ _ (List.getElem?_eq_getElem hx) (by rw [List.getElem?_eq_getElem hj, e]))
theorem house_fn {most : Int} (h0 : 0 < most) (h1 : most ≤ 1000) : bagFn g_house [.int most] (HouseOk most) := fun bag ok => by
  unfold g_house
  refine run_gives rfl ?_
  unfold b_house
  repeat walk_at "m1"
  refine iLC (wIt ?_)
  refine iBag rfl ?_
  repeat walk_at "m1"
  refine iBag rfl ?_
  repeat walk_at "m1"
  refine iBagE rfl rfl ok (take_fn h0 (by omega)) ?_
  rintro z bag2 ⟨v, rfl, v0, v1⟩ ok2
  repeat walk_at "m1"
  refine iBagE rfl rfl ok2 (names_fn (by omega)) ?_
  rintro z bag3 ⟨ys, rfl, hm, l1, l2⟩ ok3
  refine ⟨ys, rfl, by rw [sizeLine_eq]; omega, rfl, fun ρ => ∃ bag s, BagOk bag ∧ ρ = [.own bag, .dat (.int most), s], fun _ r => SortOk r, ⟨_, _, ok3, rfl⟩, ?_, ?_⟩
  · rintro d hd ρ ⟨bag4, s, ok4, rfl⟩
    refine ⟨_, rfl, ?_⟩
    refine iBag rfl ?_
    repeat walk_at "m1"
    refine iBagE rfl rfl ok4 (sort_fn (hm d hd)) ?_
    intro r bag5 hr ok5
    exact ⟨hr, bag5, _, ok5, rfl⟩
  · rintro rs ρ hl hp ⟨bag4, s, ok4, rfl⟩
    repeat walk_at "m1"
    refine ⟨rfl, ⟨rs, rfl, all_get (xs := ys) hl hp fun _ _ _ z => z, by omega, by omega⟩, bag4, ok4, rfl⟩
/-! ### numbers, sizes -/
def b_numbers : MS :=
  (mSq (mSetB (bTup [1, 2]) (mTup [(mFn [0] g_one [(mPk 0), (mV (mLst [(mC (.int 0)), (mOp1 negD (mV (mC (.int 2)))), (mC (.int 5)), (mC (.int 0)), (mOp2 subD (mV (mC (.int 1))) (mV (mOp2 powD (mV (mC (.int 10))) (mV (mC (.int 30))))))]))]), (mFn [0] g_one [(mPk 0), (mV (mLst [(mC (.int 1)), (mC (.int 2)), (mC (.int 1)), (mC (.int 3)), (mOp2 powD (mV (mC (.int 10))) (mV (mC (.int 29))))]))])]))
  (mRet (mLC [3] (mRng1 (mV (mOp2 addD (mV (mC (.int 1))) (mV (mFn [0] g_take [(mPk 0), (mV (mC (.int 7)))]))))) (setS 3) mYes (mOp2 addD (mPk 1) (mV (mOp2 mulD (mPk 2) (mPk 3)))))))
def g_numbers : FM := runF false 1 3 [0] b_numbers

def NumsOk (d : D) : Prop := ∃ ns : List Int, d = .list (ns.map PyData.int) ∧ 1 ≤ ns.length ∧ ns.length ≤ 7 ∧ ∀ n ∈ ns, n.natAbs < 10 ^ 39
theorem numbers_fn : bagFn g_numbers [] NumsOk := fun bag ok => by
  unfold g_numbers
  refine run_gives rfl ?_
  unfold b_numbers
  repeat walk_at "m1"
  refine iBag rfl ?_
  repeat walk_at "m1"
  refine iOp1 ?_
  repeat walk_at "m1"
  refine iBagE rfl rfl ok (one_fn (xs := [.int 0, .int (-2), .int 5, .int 0, .int (1 - 10 ^ 30)]) (.inl rfl) (by decide) (by decide)) ?_
  intro low bag2 hlow ok2
  obtain ⟨lo, rfl, lo0, lo1⟩ := int_mem (lo := 1 - 10 ^ 30) (hi := 5) (by decide) hlow
  repeat walk_at "m1"
  refine iBag rfl ?_
  repeat walk_at "m1"
  refine iBagE rfl rfl ok2 (one_fn (xs := [.int 1, .int 2, .int 1, .int 3, .int (10 ^ 29)]) (.inl rfl) (by decide) (by decide)) ?_
  intro step bag3 hstep ok3
  obtain ⟨st, rfl, st0, st1⟩ := int_mem (lo := 1) (hi := 10 ^ 29) (by decide) hstep
  repeat walk_at "m1"
  refine iLC (iRng1 ?_)
  repeat walk_at "m1"
  refine iBag rfl ?_
  repeat walk_at "m1"
  refine iBagE rfl rfl ok3 (take_fn (by decide) (by decide)) ?_
  rintro z bag4 ⟨v, rfl, v0, v1⟩ ok4
  repeat walk_at "m1"
  refine ⟨okR_of (by omega) (by omega), by rw [range_len, sizeLine_eq]; omega, rfl, fun ρ => ∃ s, ρ = [.own bag4, .dat (.int lo), .dat (.int st), s], fun _ r => ∃ n : Int, r = .int n ∧ n.natAbs < 10 ^ 39, ⟨_, rfl⟩, ?_, ?_⟩
  · rintro d hd ρ ⟨s, rfl⟩
    obtain ⟨j, rfl, j0, j1⟩ := range_mem hd
    refine ⟨_, rfl, ?_⟩
    repeat walk_at "m1"
    refine iOp2E rfl rfl (mulD_r (small_of (by omega) (by omega))) ?_
    repeat walk_at "m1"
    have j7 : j ≤ 7 := by omega
    have b1 : st * j ≤ 10 ^ 29 * 7 := Int.mul_le_mul st1 j7 (by omega) (by omega)
    have b0 : 0 ≤ st * j := Int.mul_nonneg (by omega) (by omega)
    exact ⟨⟨_, rfl, by omega⟩, _, rfl⟩
  · rintro rs ρ hl hp ⟨s, rfl⟩
    obtain ⟨ns, rfl, hns⟩ := ints_of (all_get (R := fun r => ∃ n : Int, r = .int n ∧ n.natAbs < 10 ^ 39) hl hp fun _ _ _ z => z)
    rw [List.length_map, range_len] at hl
    repeat walk_at "m1"
    refine ⟨rfl, ⟨ns, rfl, by omega, by omega, hns⟩, bag4, ok4, rfl⟩
def b_size : MS :=
  (mSq (mSet 3 (mIf (mTest (mOp2 isND (mV (mOp2 ixD (mPk 1) (mV (mC (.int 2))))) (mV (mC .none)))) (mOp2 addD (mV (mOp2 ixD (mPk 1) (mV (mC (.int 1))))) (mPk 2)) (mCall min2C [(mV (mOp2 ixD (mPk 1) (mV (mC (.int 2))))), (mV (mOp2 addD (mV (mOp2 ixD (mPk 1) (mV (mC (.int 1))))) (mPk 2)))])))
  (mRet (mOp2 addD (mV (mOp2 ixD (mPk 1) (mV (mC (.int 1))))) (mV (mFn [0] g_take [(mPk 0), (mV (mOp2 addD (mV (mOp2 subD (mPk 3) (mV (mOp2 ixD (mPk 1) (mV (mC (.int 1))))))) (mV (mC (.int 1)))))])))))
def g_size : FM := runF false 3 1 [0] b_size

theorem size_fn {s : D} {more : Int} (hs : SortOk s) (m0 : 0 ≤ more) (m1 : more ≤ 6) : bagFn g_size [s, .int more] fun d => ∃ v, d = .int v ∧ 0 ≤ v ∧ v ≤ 9 := fun bag ok => by
  obtain ⟨nm, lo, hi, rfl, hn, l0, l3, hh⟩ := hs
  unfold g_size
  refine run_gives rfl ?_
  unfold b_size
  refine iSqM (fun ρ => ∃ top : Int, lo ≤ top ∧ top ≤ 9 ∧ ρ = [.own bag, .dat (.tuple [nm, .int lo, hi]), .dat (.int more), .dat (.int top)]) ?_ ?_
  · rcases hh with rfl | ⟨h, rfl, h0, h1⟩
    · repeat walk_at "m1"
      refine iteT ?_
      repeat walk_at "m1"
      exact ⟨rfl, _, (by omega : lo ≤ lo + more), by omega, rfl⟩
    · repeat walk_at "m1"
      refine iteF ?_
      repeat walk_at "m1"
      refine ⟨rfl, _, ?_, ?_, rfl⟩
      · show lo ≤ if lo + more < h then lo + more else h
        split <;> omega
      · show (if lo + more < h then lo + more else h) ≤ 9
        split <;> omega
  · rintro ρ ⟨top, t0, t1, rfl⟩
    repeat walk_at "m1"
    refine iBag rfl ?_
    repeat walk_at "m1"
    refine iBagE rfl rfl ok (take_fn (by omega) (by omega)) ?_
    rintro z bag4 ⟨v, rfl, v0, v1⟩ ok4
    repeat walk_at "m1"
    exact ⟨rfl, ⟨_, rfl, by omega, by omega⟩, bag4, ok4, rfl⟩
/-! ### tables -/
theorem look_map (k d x : D) : ∀ {es : List (D × D)} {v : D}, lookD es x = some v → ∃ v', lookD (es.map fun p => if keyEq p.1 k = true then (p.1, d) else p) x = some v'
  | [], _, h => by cases h
  | (l, e) :: es, v, h => by
    unfold lookD at h
    have hk : (if keyEq l k = true then (l, d) else (l, e)).1 = l := by split <;> rfl
    rw [List.map_cons]
    unfold lookD
    split at h
    · rename_i hx
      rw [hk, if_pos hx]
      exact ⟨_, rfl⟩
    · rename_i hx
      rw [hk, if_neg hx]
      exact look_map k d x h
theorem look_app {k d x v : D} : ∀ {es : List (D × D)}, lookD es x = some v → lookD (es ++ [(k, d)]) x = some v
  | [], h => by cases h
  | (l, e) :: es, h => by
    unfold lookD at h
    rw [List.cons_append]
    unfold lookD
    split at h
    · rename_i hx; rw [if_pos hx]; exact h
    · rename_i hx; rw [if_neg hx]; exact look_app h
theorem look_put {k d x v : D} {es : List (D × D)} (h : lookD es x = some v) : ∃ v', lookD (putL es k d) x = some v' := by
  unfold putL
  split
  · exact look_map k d x h
  · exact ⟨v, look_app h⟩
theorem look_new {k d : D} (hk : keyEq k k = true) : ∀ {es : List (D × D)}, (es.any fun p => keyEq p.1 k) = false → lookD (es ++ [(k, d)]) k = some d
  | [], _ => by rw [List.nil_append]; unfold lookD; rw [if_pos hk]
  | (l, e) :: es, h => by
    rw [List.any_cons, Bool.or_eq_false_iff] at h
    rw [List.cons_append]
    unfold lookD
    rw [if_neg (by rw [h.1]; exact Bool.false_ne_true)]
    exact look_new hk h.2
theorem look_old {k d : D} : ∀ {es : List (D × D)}, (es.any fun p => keyEq p.1 k) = true → lookD (es.map fun p => if keyEq p.1 k = true then (p.1, d) else p) k = some d
  | [], h => by cases h
  | (l, e) :: es, h => by
    rw [List.map_cons]
    unfold lookD
    by_cases hl : keyEq l k = true
    · rw [if_pos hl]
      show (if keyEq l k = true then some d else _) = _
      rw [if_pos hl]
    · rw [if_neg hl]
      show (if keyEq l k = true then some e else _) = _
      rw [if_neg hl]
      rw [List.any_cons, Bool.or_eq_true] at h
      exact look_old (h.resolve_left hl)
theorem look_self {k d : D} {es : List (D × D)} (hk : keyEq k k = true) : lookD (putL es k d) k = some d := by
  unfold putL
  split
  · rename_i h; exact look_old h
  · rename_i h; exact look_new hk (by simpa using h)
theorem put_mem {k d : D} {es : List (D × D)} {p : D × D} (h : p ∈ putL es k d) : p ∈ es ∨ p = (k, d) ∨ ∃ q ∈ es, p = (q.1, d) := by
  unfold putL at h
  split at h
  · obtain ⟨q, hq, e⟩ := List.mem_map.mp h
    split at e
    · exact .inr (.inr ⟨q, hq, e.symm⟩)
    · rw [← e]; exact .inl hq
  · rcases List.mem_append.mp h with h | h
    · exact .inl h
    · exact .inr (.inl (List.mem_singleton.mp h))
theorem put_len {k d : D} {es : List (D × D)} : (putL es k d).length ≤ es.length + 1 := by
  unfold putL
  split
  · rw [List.length_map]; omega
  · rw [List.length_append, List.length_singleton]; omega
theorem menu_key : ∀ d ∈ menuD, isKey d = true ∧ keyEq d d = true := fun d h => by
  have := menu_S d h
  cases d with
  | str x => exact ⟨rfl, by simp [keyEq]⟩
  | _ => cases this
theorem put_some {k d : D} {es : List (D × D)} (h : k ∈ menuD) (hl : es.length < 1000000) : putD (.dict es) k d = some (.dict (putL es k d)) := by
  show (if (isKey k && decide (es.length < sizeLine)) = true then _ else _) = _
  rw [if_pos]
  rw [(menu_key k h).1, decide_eq_true (by rw [sizeLine_eq]; omega)]
  rfl
def b_table : MS :=
  (mSq (mSetO 4 (mC (.dict [])))
  (mSq (mFor (mIt (mFn [0] g_mixed [(mPk 0), (mPk 1)])) (setS 5)
    (mSub 4 (mOp2 ixD (mPk 5) (mV (mC (.int 0)))) (mCall tupleC [(mV (mCall sortedC [(mV (mLC [6] (mRng1 (mV (mFn [0] g_size [(mPk 0), (mPk 5), (mPk 3)]))) (setS 6) mYes (mFn [0] g_one [(mPk 0), (mPk 2)])))]))])))
  (mSq (mRel 4) (mRet (mVar 4)))))
def g_table : FM := runF false 4 3 [0] b_table

def RowOk (pool : List Int) (p : D × D) : Prop := p.1 ∈ menuD ∧ ∃ ns : List Int, p.2 = .tuple (ns.map PyData.int) ∧ ns.length ≤ 9 ∧ ∀ n ∈ ns, n ∈ pool
def TblOk (ss : List D) (pool : List Int) (d : D) : Prop := ∃ es, d = .dict es ∧ (∀ p ∈ es, RowOk pool p) ∧ (∀ nm lo hi, PyData.tuple [nm, lo, hi] ∈ ss → ∃ v, lookD es nm = some v) ∧ es.length ≤ ss.length
theorem table_fn {ss : List D} {pool : List Int} {more : Int} (hs : ∀ s ∈ ss, SortOk s) (hl : ss.length ≤ 1000) (hp : 1 ≤ pool.length) (hp2 : pool.length ≤ 1000) (m0 : 0 ≤ more) (m1 : more ≤ 6) : bagFn g_table [.tuple ss, .list (pool.map PyData.int), .int more] (TblOk ss pool) := fun bag ok => by
  unfold g_table
  refine run_gives rfl ?_
  unfold b_table
  repeat walk_at "m1"
  refine iFor (wIt ?_)
  refine iBag rfl ?_
  repeat walk_at "m1"
  refine iBagE rfl rfl ok (mixed_fn (.inr rfl) (by omega)) ?_
  rintro d bag2 ⟨ys, rfl, hperm⟩ ok2
  refine ⟨ys, rfl, fun rest ρ => ∃ done es bag s5 s6, ys = done ++ rest ∧ (∀ p ∈ es, RowOk pool p) ∧ (∀ nm lo hi, PyData.tuple [nm, lo, hi] ∈ done → ∃ v, lookD es nm = some v) ∧ es.length ≤ done.length ∧ BagOk bag ∧ (∀ c : D, s6 ≠ Slot.own c) ∧ ρ = [.own bag, .dat (.tuple ss), .dat (.list (pool.map PyData.int)), .dat (.int more), .own (.dict es), s5, s6],
    ⟨[], [], bag2, .un, .un, rfl, (fun _ h => absurd h (by simp)), (fun _ _ _ h => absurd h (by simp)), Nat.le_refl _, ok2, (fun c h => by cases h), rfl⟩, ?_, ?_⟩
  · rintro ρ ⟨done, es, bag3, s5, s6, e, h1, h2, h3, ok3, n6, rfl⟩
    rw [List.append_nil] at e
    subst e
    repeat walk_at "m1"
    refine iRel rfl ?_
    repeat walk_at "m1"
    have hlen := hperm.length_eq
    exact ⟨rfl, ⟨es, rfl, h1, fun nm lo hi h => h2 nm lo hi (hperm.mem_iff.mpr h), by omega⟩, bag3, ok3, rfl⟩
  · rintro d ds ρ ⟨done, es, bag3, s5, s6, e, h1, h2, h3, ok3, n6, rfl⟩
    have hd : SortOk d := hs d (hperm.mem_iff.mp (by rw [e]; exact List.mem_append_right _ (List.mem_cons_self ..)))
    have hdone : done.length ≤ 1000 := by
      have a := congrArg List.length e
      rw [List.length_append] at a
      have b := hperm.length_eq
      omega
    refine ⟨_, rfl, ?_⟩
    have hd' := hd
    obtain ⟨nm, lo, hi, rfl, hn, _⟩ := hd'
    repeat walk_at "m1"
    refine iLC (iRng1 ?_)
    repeat walk_at "m1"
    refine iBag rfl ?_
    repeat walk_at "m1"
    refine iBagE rfl rfl ok3 (size_fn hd m0 m1) ?_
    rintro z bag4 ⟨v, rfl, v0, v1⟩ ok4
    have hv : (([6].all fun v => !isOwn (([.own bag4, .dat (.tuple ss), .dat (.list (pool.map PyData.int)), .dat (.int more), .own (.dict es), .dat (.tuple [nm, .int lo, hi]), s6] : List Slot).getD v .un)) = true) := by
      cases s6 with
      | un => rfl
      | dat _ => rfl
      | own d => exact absurd rfl (n6 d)
    refine ⟨v, rfl, okR_of (by omega) (by omega), by rw [range_len, sizeLine_eq]; omega, hv, fun ρ => ∃ bag s, BagOk bag ∧ ρ = [.own bag, .dat (.tuple ss), .dat (.list (pool.map PyData.int)), .dat (.int more), .own (.dict es), .dat (.tuple [nm, .int lo, hi]), s], fun _ r => ∃ n : Int, r = .int n ∧ n ∈ pool, ⟨_, _, ok4, rfl⟩, ?_, ?_⟩
    · rintro d hd ρ ⟨bag5, s, ok5, rfl⟩
      refine ⟨_, rfl, ?_⟩
      refine iBag rfl ?_
      repeat walk_at "m1"
      refine iBagE rfl rfl ok5 (one_fn (.inl rfl) (by rw [List.length_map]; omega) (by rw [List.length_map]; omega)) ?_
      intro r bag6 hr ok6
      obtain ⟨n, hn, e⟩ := List.mem_map.mp hr
      exact ⟨⟨n, e.symm, hn⟩, bag6, _, ok6, rfl⟩
    · rintro rs ρ hlr hpr ⟨bag5, s, ok5, rfl⟩
      obtain ⟨ns, rfl, hns⟩ := ints_of (all_get (R := fun r => ∃ n : Int, r = .int n ∧ n ∈ pool) hlr hpr fun _ _ _ z => z)
      rw [List.length_map, range_len] at hlr
      have hI : ∀ d ∈ ns.map PyData.int, isI d = true := fun d hd => by obtain ⟨n, _, rfl⟩ := List.mem_map.mp hd; rfl
      have hsp := sortL_perm false (ns.map PyData.int)
      obtain ⟨ms, ems, hms⟩ := ints_of (rs := sortL false (ns.map PyData.int)) (p := fun n => n ∈ pool) fun r hr => by
        obtain ⟨n, hn, rfl⟩ := List.mem_map.mp (hsp.mem_iff.mp hr)
        exact ⟨n, rfl, hns n hn⟩
      have hml : ms.length ≤ 9 := by
        have a := hsp.length_eq
        rw [ems, List.length_map, List.length_map] at a
        omega
      repeat walk_at "m1"
      refine iCallE rfl (sortedC_of (canSort_ints hI)) ?_
      rw [ems]
      repeat walk_at "m1"
      refine iPutE rfl (put_some hn (by omega)) ?_
      refine ⟨done ++ [.tuple [nm, .int lo, hi]], putL es nm (.tuple (ms.map PyData.int)), bag5, _, _, by rw [e, List.append_assoc]; rfl, ?_, ?_, ?_, ok5, ?_, rfl⟩
      · intro p hp
        rcases put_mem hp with h | rfl | ⟨q, hq, rfl⟩
        · exact h1 p h
        · exact ⟨hn, ms, rfl, hml, hms⟩
        · exact ⟨(h1 q hq).1, ms, rfl, hml, hms⟩
      · intro nm2 lo2 hi2 h
        rcases List.mem_append.mp h with h | h
        · obtain ⟨v, hv⟩ := h2 nm2 lo2 hi2 h
          exact look_put hv
        · have := List.mem_singleton.mp h
          cases this
          exact ⟨_, look_self (menu_key _ hn).2⟩
      · have := put_len (k := nm) (d := .tuple (ms.map PyData.int)) (es := es)
        rw [List.length_append, List.length_singleton]
        omega
      · exact n6
/-! ### lots, ranks -/
def b_lot : MS :=
  (mSq (mSet 2 (mLC [3] (mIt (mVar 1)) (setS 3) mYes (mOp2 ixD (mPk 3) (mV (mC (.int 0))))))
  (mRet (mCall tupleC [(mV (mCall sortedC [(mV (mSl slD (mV (mFn [0] g_mixed [(mPk 0), (mPk 2)])) noneP (someP (mOp2 addD (mV (mC (.int 1))) (mV (mFn [0] g_take [(mPk 0), (mV (mCall lenC [(mPk 2)]))]))))))]))])))
def g_lot : FM := runF false 2 2 [0] b_lot

def NameIn (ss : List D) (l : D) : Prop := l ∈ menuD ∧ ∃ lo hi, PyData.tuple [l, lo, hi] ∈ ss
def LotOk (ss : List D) (d : D) : Prop := ∃ ls, d = .tuple ls ∧ ls.length ≤ ss.length ∧ ∀ l ∈ ls, NameIn ss l
theorem lot_fn {ss : List D} (hs : ∀ s ∈ ss, SortOk s) (h1 : 1 ≤ ss.length) (h2 : ss.length ≤ 1000) : bagFn g_lot [.tuple ss] (LotOk ss) := fun bag ok => by
  unfold g_lot
  refine run_gives rfl ?_
  unfold b_lot
  repeat walk_at "m1"
  refine iLC (wIt ?_)
  repeat walk_at "m1"
  refine ⟨by rw [sizeLine_eq]; omega, rfl, fun ρ => ∃ s, ρ = [.own bag, .dat (.tuple ss), .un, s], fun _ r => NameIn ss r, ⟨_, rfl⟩, ?_, ?_⟩
  · rintro d hd ρ ⟨s, rfl⟩
    refine ⟨_, rfl, ?_⟩
    obtain ⟨nm, lo, hi, rfl, hn, _⟩ := hs d hd
    repeat walk_at "m1"
    exact ⟨⟨hn, _, _, hd⟩, _, rfl⟩
  · rintro rs ρ hl hp ⟨s, rfl⟩
    have hrs : ∀ r ∈ rs, NameIn ss r := all_get (R := NameIn ss) hl hp fun _ _ _ z => z
    repeat walk_at "m1"
    refine iBag rfl ?_
    repeat walk_at "m1"
    refine iBagE rfl rfl ok (mixed_fn (.inl rfl) (by omega)) ?_
    rintro d bag2 ⟨ys, rfl, hperm⟩ ok2
    repeat walk_at "m1"
    refine iBag rfl ?_
    repeat walk_at "m1"
    refine iBagE rfl rfl ok2 (take_fn (by omega) (by omega)) ?_
    rintro z bag3 ⟨v, rfl, v0, v1⟩ ok3
    obtain ⟨k, hk⟩ := Int.eq_ofNat_of_zero_le (by omega : 0 ≤ 1 + v)
    repeat walk_at "m1"
    rw [hk, cut_to]
    have hin : ∀ y ∈ ys.take k, NameIn ss y := fun y hy => hrs y (hperm.mem_iff.mp (List.mem_of_mem_take hy))
    refine iCallE rfl (sortedC_of (canSort_strs fun d hd => menu_S d (hin d hd).1)) ?_
    repeat walk_at "m1"
    have hlen := (sortL_perm false (ys.take k)).length_eq
    rw [List.length_take, hperm.length_eq] at hlen
    exact ⟨rfl, ⟨_, rfl, by omega, fun l h => hin l ((sortL_perm false _).mem_iff.mp h)⟩, bag3, ok3, rfl⟩
def b_rank : MS :=
  (mRet (mTup [(mC (.str (Str.ofString "rank"))), (mFn [0] g_lot [(mPk 0), (mPk 1)]), (mOp2 addD (mV (mC (.int 1))) (mV (mFn [0] g_one [(mPk 0), (mV (mLst [(mC (.int 0)), (mC (.int 0)), (mFn [0] g_take [(mPk 0), (mPk 2)])]))])))]))
def g_rank : FM := runF false 3 0 [0] b_rank

def RankOk (ss : List D) (d : D) : Prop := ∃ ls k, d = .tuple [.str (Str.ofString "rank"), .tuple ls, .int k] ∧ ls.length ≤ ss.length ∧ (∀ l ∈ ls, NameIn ss l) ∧ 1 ≤ k ∧ k ≤ 100
theorem rank_fn {ss : List D} {most : Int} (hs : ∀ s ∈ ss, SortOk s) (h1 : 1 ≤ ss.length) (h2 : ss.length ≤ 1000) (m0 : 0 < most) (m1 : most ≤ 99) : bagFn g_rank [.tuple ss, .int most] (RankOk ss) := fun bag ok => by
  unfold g_rank
  refine run_gives rfl ?_
  unfold b_rank
  repeat walk_at "m1"
  refine iBag rfl ?_
  repeat walk_at "m1"
  refine iBagE rfl rfl ok (lot_fn hs h1 h2) ?_
  rintro z bag2 ⟨ls, rfl, hl, hn⟩ ok2
  repeat walk_at "m1"
  refine iBag rfl ?_
  repeat walk_at "m1"
  refine iBag rfl ?_
  repeat walk_at "m1"
  refine iBagE rfl rfl ok2 (take_fn m0 (by omega)) ?_
  rintro z bag3 ⟨v, rfl, v0, v1⟩ ok3
  repeat walk_at "m1"
  refine iBagE rfl rfl ok3 (one_fn (xs := [.int 0, .int 0, .int v]) (.inl rfl) (by show 0 < 3; decide) (by show 3 < 1073741824; decide)) ?_
  intro r bag4 hr ok4
  obtain ⟨k, rfl, k0, k1⟩ : ∃ k : Int, r = .int k ∧ 0 ≤ k ∧ k < most := by
    rcases List.mem_cons.mp hr with h | hr
    · exact ⟨0, h, by omega, m0⟩
    rcases List.mem_cons.mp hr with h | hr
    · exact ⟨0, h, by omega, m0⟩
    · exact ⟨v, List.mem_singleton.mp hr, v0, v1⟩
  repeat walk_at "m1"
  exact ⟨rfl, ⟨ls, 1 + k, rfl, hl, hn, by omega, by omega⟩, bag4, ok4, rfl⟩
end CF
end
section
/-! CF, part z3: the laws' own helpers: formulas. -/
namespace CF
open PySem
local macro_rules | `(tactic| walk_at "hf") => `(tactic| (first
  | with_reducible exact eqD_int | with_reducible exact eqD_str | with_reducible exact neD_int | with_reducible exact addD_int | with_reducible exact addI_int | with_reducible exact subD_int | with_reducible exact geD_int | with_reducible exact gtD_int | with_reducible exact leD_int | with_reducible exact ltD_int | with_reducible exact modD_of (by decide) | with_reducible exact mulD_r (by decide) | with_reducible exact mulD_l (by decide) | with_reducible exact powD_of (by decide) | with_reducible exact ix0 | ((with_reducible show ixD (.list _) (.int _) = _); rfl) | ((with_reducible show ixD (.tuple _) (.int _) = _); rfl)
  | with_reducible exact intC_int | with_reducible exact lenC_list | with_reducible exact lenC_tuple | with_reducible exact tupleC_list | with_reducible exact listC_tuple | with_reducible exact listC_dict | with_reducible exact isN_none | with_reducible exact isN_int | with_reducible exact notN_none | with_reducible exact notN_int | with_reducible exact min2_int | with_reducible exact max2_int | with_reducible exact slD_list | with_reducible exact slD_tuple))
local macro_rules | `(tactic| walk_at "m1") => `(tactic| (first
  | with_reducible refine iSq ?_ | with_reducible refine iThn ?_ | with_reducible refine iIfS ?_ | with_reducible refine iSet ?_ | with_reducible refine iSetB ?_ | with_reducible refine iSetO ?_ | with_reducible refine iRet ?_ | with_reducible refine iNx ?_ | with_reducible refine iThnR ?_
  | with_reducible refine iTest ?_ | with_reducible refine iOp2 ?_ | ((with_reducible refine' iPk ?h1 ?h2); (case h1 => rfl)) | with_reducible refine iV ?_ | with_reducible refine iC ?_ | ((with_reducible refine' iVar ?h1 ?h2); (case h1 => rfl))
  | with_reducible refine iCall ?_ | with_reducible refine iLs0 ?_ | with_reducible refine iLs ?_ | with_reducible refine iSub ?_ | with_reducible refine iSl ?_ | with_reducible refine iSome ?_ | with_reducible refine iNone ?_ | with_reducible refine iLst ?_ | with_reducible refine iTup ?_ | with_reducible refine iDs0 ?_ | with_reducible refine iDs ?_
  | with_reducible refine iAnd ?_ | with_reducible refine iOr ?_ | with_reducible refine iNot ?_ | with_reducible refine iBl ?_ | with_reducible refine iIf ?_ | with_reducible refine iDrop ?_ | with_reducible refine iYes ?_ | with_reducible refine iPar ?_
  | ((with_reducible refine' iAugS ?h1 ?h2); (case h1 => exact ⟨_, rfl⟩))
  | ((with_reducible refine' iPutE ?h1 ?h2 ?h3); (case h1 => rfl); (case h2 => rfl))
  | ((with_reducible refine' iOp2E ?h1 ?h2 ?h3 ?h4); (case h1 => rfl); (case h2 => rfl); (case h3 => walk_at "hf"))
  | ((with_reducible refine' iCallE ?h1 ?h2 ?h3); (case h1 => rfl); (case h2 => walk_at "hf"))
  | with_reducible refine ⟨sz0, ?_⟩ | with_reducible refine ⟨sz1, ?_⟩ | with_reducible refine ⟨sz2, ?_⟩ | with_reducible refine ⟨sz3, ?_⟩ | with_reducible refine ⟨sz4, ?_⟩ | with_reducible refine ⟨sz5, ?_⟩
  | (with_reducible refine ⟨_, rfl, ?_⟩)
  | ((with_reducible refine' ⟨_, ?h1, ?h2⟩); (case h1 => walk_at "hf"))
  | ((with_reducible refine' ⟨⟨_, ?h1⟩, ?h2⟩); (case h1 => rfl))
  | ((with_reducible refine' ⟨_, _, ?h1, ?h2, ?h3⟩); (case h1 => rfl); (case h2 => walk_at "hf"))
  | ((with_reducible refine' ⟨_, _, ?h1, ?h2, ?h3⟩); (case h1 => rfl); (case h2 => rfl))))

/-! ### calls that are lent two objects -/
def fn2E (g : FM) (b l : Nat) (xs : List LV) (Q : D → List Slot → Prop) (ρ : List Slot) : Prop := ∃ d1 d2 d3 c e, argD ρ xs = some [d1, d2, d3] ∧ ρ[b]? = some (.own c) ∧ ρ[l]? = some (.own e) ∧ gives g [.own c, .dat d1, .dat d2, .dat d3, .own e] fun d ps' => Q d ((ρ.set b (ps'.getD 0 .un)).set l (ps'.getD 4 .un))
theorem argD_len {ρ : List Slot} : ∀ {xs : List LV} {ds : List D}, argD ρ xs = some ds → xs.length = ds.length
  | [], ds, h => by cases h; rfl
  | .dat d :: xs, ds, h => by
    obtain ⟨r, h1, rfl⟩ := Option.map_eq_some_iff.mp h
    simp [argD_len h1]
  | .slot i :: xs, ds, h => by
    unfold argD at h
    split at h
    · obtain ⟨r, h1, rfl⟩ := Option.map_eq_some_iff.mp h
      simp [argD_len h1]
    · cases h
theorem fn2_go {g : FM} {b l : Nat} {xs : List LV} {Q : D → List Slot → Prop} {ρ : List Slot} (n : b ≠ l) (h : fn2E g b l xs Q ρ) : ∃ ps d ps', argS [0, 4] ρ 0 (.slot b :: (xs ++ [.slot l])) = some ps ∧ ioIx [0, 4] 0 (.slot b :: (xs ++ [.slot l])) = [(0, b), (4, l)] ∧ g ps = some (.ok d ps') ∧ Q d (backF [(0, b), (4, l)] ps' ρ) := by
  obtain ⟨d1, d2, d3, c, e, ha, hb, hl, d, ps', hg, q⟩ := h
  have h3 := argD_len ha
  match xs, h3, ha with
  | [x1, x2, x3], _, ha =>
    refine ⟨[.own c, .dat d1, .dat d2, .dat d3, .own e], d, ps', ?_, ?_, hg, by rw [backF_two n]; exact q⟩
    · have step : ∀ {j : Nat} {x : LV} {rest : List LV} {ds : List D} {d : D}, [0, 4].contains j = false → argD ρ [x] = some [d] → argS [0, 4] ρ j (x :: rest) = (argS [0, 4] ρ (j + 1) rest).map (.dat d :: ·) := by
        intro j x rest ds d hc hx
        cases x with
        | dat z =>
          cases hx
          conv => lhs; unfold argS
          rw [hc]; rfl
        | slot i =>
          unfold argD at hx
          split at hx
          · rename_i z hz
            cases hx
            conv => lhs; unfold argS
            rw [hz]
            simp only [hc]
            rfl
          · cases hx
      have one : ∀ {x : LV} {rest : List LV} {d : D} {ds : List D}, argD ρ (x :: rest) = some (d :: ds) → argD ρ [x] = some [d] ∧ argD ρ rest = some ds := by
        intro x rest d ds h
        cases x with
        | dat z =>
          obtain ⟨r, h1, h2⟩ := Option.map_eq_some_iff.mp h
          cases h2
          exact ⟨rfl, h1⟩
        | slot i =>
          unfold argD at h
          split at h
          · rename_i z hz
            obtain ⟨r, h1, h2⟩ := Option.map_eq_some_iff.mp h
            cases h2
            refine ⟨?_, h1⟩
            unfold argD
            rw [hz]
            rfl
          · cases h
      obtain ⟨a1, r1⟩ := one ha
      obtain ⟨a2, r2⟩ := one r1
      obtain ⟨a3, _⟩ := one r2
      show argS [0, 4] ρ 0 [.slot b, x1, x2, x3, .slot l] = _
      have e4 : argS [0, 4] ρ 4 [.slot l] = some [.own e] := by
        unfold argS
        rw [hl]
        rfl
      have e0 : argS [0, 4] ρ 0 [.slot b, x1, x2, x3, .slot l] = (argS [0, 4] ρ 1 [x1, x2, x3, .slot l]).map (.own c :: ·) := by
        conv => lhs; unfold argS
        rw [hb]
        rfl
      rw [e0, step (ds := []) rfl a1, step (ds := []) rfl a2, step (ds := []) rfl a3, e4]
      rfl
    · have io : ∀ {j : Nat} {x : LV} {rest : List LV}, [0, 4].contains j = false → ioIx [0, 4] j (x :: rest) = ioIx [0, 4] (j + 1) rest := by
        intro j x rest hc
        cases x with
        | dat z => rfl
        | slot i =>
          conv => lhs; unfold ioIx
          rw [hc]; rfl
      show ioIx [0, 4] 0 [.slot b, x1, x2, x3, .slot l] = _
      have e0 : ioIx [0, 4] 0 [.slot b, x1, x2, x3, .slot l] = (0, b) :: ioIx [0, 4] 1 [x1, x2, x3, .slot l] := rfl
      rw [e0, io rfl, io rfl, io rfl]
      rfl
theorem iFn2 {ρ : List Slot} {g : FM} {a1 a2 a3 : M LV} {b l : Nat} {Q : D → List Slot → Prop} (n : b ≠ l) (hb : (sv ρ[b]?).isSome = true) (h : wp (mLs [a1, a2, a3]) ρ fun xs ρ1 => (sv ρ1[l]?).isSome = true ∧ fn2E g b l xs Q ρ1) : wp (mFn [0, 4] g [mPk b, a1, a2, a3, mPk l]) ρ Q := by
  unfold mFn
  refine wp_bind.mpr ?_
  refine iLs (iPk hb ?_)
  have h' : wp (mLs [a1, a2, a3, mPk l]) ρ fun xs ρ1 => ∃ ys, xs = ys ++ [.slot l] ∧ fn2E g b l ys Q ρ1 := by
    refine iLs ?_
    simp only [mLs_cons, mLs_nil, wp_bind, wp_pure] at h ⊢
    refine h.mono fun x1 ρ1 h => h.mono fun x2 ρ2 h => h.mono fun x3 ρ3 h => ?_
    exact wp_pk.mpr ⟨h.1, [x1, x2, x3], rfl, h.2⟩
  refine h'.mono fun xs ρ1 q => ?_
  obtain ⟨ys, rfl, q⟩ := q
  obtain ⟨ps, d, ps', e1, e2, e3, q⟩ := fn2_go n q
  refine ⟨d, _, ?_, q⟩
  simp only
  rw [e2, e1]
  simp only [List.map_cons, List.map_nil]
  rw [if_pos (by simpa using n), e3]
/-! ### formulas -/
def b_formula (r_formula : FM) : MS :=
  (mSq (mAugS 4 subD (mC (.int 0)) (mC (.int 1)))
  (mSq (mIfS (mOr (mTest (mOp2 ltD (mPk 2) (mV (mC (.int 2))))) (mOr (mTest (mOp2 ltD (mV (mOp2 ixD (mPk 4) (mV (mC (.int 0))))) (mV (mC (.int 2))))) (mTest (mOp2 ltD (mV (mFn [0] g_take [(mPk 0), (mV (mC (.int 5)))])) (mV (mC (.int 2)))))))
    (mRet (mFn [0] g_rank [(mPk 0), (mPk 1), (mPk 3)]))
    mNx)
  (mSq (mSetO 5 (mLst []))
  (mSq (mFor (mRng1 (mV (mOp2 addD (mV (mC (.int 1))) (mV (mFn [0] g_one [(mPk 0), (mV (mLst [(mC (.int 1)), (mC (.int 1)), (mC (.int 0)), (mC (.int 2))]))]))))) (setS 6)
    (mIfS (mTest (mOp2 gtD (mV (mOp2 ixD (mPk 4) (mV (mC (.int 0))))) (mV (mC (.int 0)))))
    (mDrop (mMut 5 appG (mDs [(mFn [0, 4] r_formula [(mPk 0), (mPk 1), (mV (mOp2 subD (mPk 2) (mV (mC (.int 1))))), (mPk 3), (mPk 4)])])))
    mNx))
  (mRet (mTup [(mC (.str (Str.ofString "kth"))), (mFn [0] g_one [(mPk 0), (mV (mLst [(mC (.int 1)), (mCall lenC [(mPk 5)]), (mOp2 addD (mV (mC (.int 1))) (mV (mFn [0] g_take [(mPk 0), (mV (mCall lenC [(mPk 5)]))])))]))]), (mCall tupleC [(mPk 5)])]))))))
def g_formula : Nat → FM
  | 0 => fm0
  | n + 1 => runF false 5 2 [0, 4] (b_formula (g_formula n))
inductive FormOk (ss : List D) (w : Nat) : Nat → D → Prop
  | rank {k : Nat} {d : D} : RankOk ss d → FormOk ss w k d
  | kth {k : Nat} {q : Int} {ps : List D} : 1 ≤ q → q ≤ ps.length → ps.length ≤ w → (∀ p ∈ ps, FormOk ss w k p) → FormOk ss w (k + 1) (.tuple [.str (Str.ofString "kth"), .int q, .tuple ps])
def formFn (g : FM) (ss : List D) (deep most : Int) (P : D → Prop) : Prop := ∀ bag n, BagOk bag → gives g [.own bag, .dat (.tuple ss), .dat (.int deep), .dat (.int most), .own (.list [.int n])] fun d ps' => P d ∧ ∃ bag' n', BagOk bag' ∧ ps'.getD 0 .un = .own bag' ∧ ps'.getD 4 .un = .own (.list [.int n'])
theorem app_ok {xs : List D} {d : D} (h : xs.length < 1000000) : appG xs [d] = some (.none, xs ++ [d]) := if_pos (by rw [sizeLine_eq]; omega)
theorem formula_fn {ss : List D} {most : Int} (hs : ∀ s ∈ ss, SortOk s) (h1 : 1 ≤ ss.length) (h2 : ss.length ≤ 1000) (m0 : 0 < most) (m1 : most ≤ 99) : ∀ (n k : Nat) (deep : Int), deep ≤ (n : Int) + 1 → deep ≤ (k : Int) + 1 → formFn (g_formula (n + 1)) ss deep most (FormOk ss 3 k) := by
  have ret : ∀ (k : Nat) (rest : MS) (bag : D) (left deep : Int), BagOk bag → wp (mRet (mFn [0] g_rank [(mPk 0), (mPk 1), (mPk 3)])) [.own bag, .dat (.tuple ss), .dat (.int deep), .dat (.int most), .own (.list [.int left]), .un, .un] (thnS rest fun f ρ' => ∃ d, retv false f = some d ∧ allOwn [0, 4] ρ' = true ∧ FormOk ss 3 k d ∧ ∃ bag' n', BagOk bag' ∧ (ρ'.take 5).getD 0 .un = .own bag' ∧ (ρ'.take 5).getD 4 .un = .own (.list [.int n'])) := by
    intro k rest bag left deep ok
    repeat walk_at "m1"
    refine iBag rfl ?_
    repeat walk_at "m1"
    refine iBagE rfl rfl ok (rank_fn hs h1 h2 m0 m1) ?_
    intro d bag2 hd ok2
    repeat walk_at "m1"
    exact ⟨rfl, .rank hd, bag2, left, ok2, rfl, rfl⟩
  intro n
  induction n with
  | zero =>
    intro k deep hdeep hk bag left ok
    show gives (runF false 5 2 [0, 4] _) _ _
    refine run_gives rfl ?_
    unfold b_formula
    repeat walk_at "m1"
    refine iteD (fun h => ?_) (fun h => by omega)
    refine iteT ?_
    exact ret k _ bag (left - 1) deep ok
  | succ n ih =>
    intro k deep hdeep hk bag left ok
    show gives (runF false 5 2 [0, 4] _) _ _
    refine run_gives rfl ?_
    unfold b_formula
    repeat walk_at "m1"
    refine iteD (fun h => ?_) (fun h => ?_)
    · refine iteT ?_
      exact ret k _ bag (left - 1) deep ok
    repeat walk_at "m1"
    refine iteD (fun h' => ?_) (fun h' => ?_)
    · refine iteT ?_
      exact ret k _ bag (left - 1) deep ok
    repeat walk_at "m1"
    refine iBag rfl ?_
    repeat walk_at "m1"
    refine iBagE rfl rfl ok (take_fn (by decide) (by decide)) ?_
    rintro z bag2 ⟨v, rfl, v0, v1⟩ ok2
    repeat walk_at "m1"
    refine iteD (fun h5 => ?_) (fun h5 => ?_)
    · exact ret k _ bag2 (left - 1) deep ok2
    repeat walk_at "m1"
    obtain ⟨k, rfl⟩ : ∃ j, k = j + 1 := ⟨k - 1, by omega⟩
    refine iFor (iRng1 ?_)
    repeat walk_at "m1"
    refine iBag rfl ?_
    repeat walk_at "m1"
    refine iBagE rfl rfl ok2 (one_fn (xs := [.int 1, .int 1, .int 0, .int 2]) (.inl rfl) (by decide) (by decide)) ?_
    intro z bag3 hz ok3
    obtain ⟨w, rfl, w0, w1⟩ := int_mem (lo := 0) (hi := 2) rfl hz
    repeat walk_at "m1"
    refine ⟨okR_of (by omega) (by omega), fun rest ρ => ∃ bag lf parts s6, BagOk bag ∧ (parts = [] → 2 ≤ lf ∧ 1 ≤ rest.length) ∧ parts.length + rest.length ≤ 3 ∧ (∀ p ∈ parts, FormOk ss 3 k p) ∧ ρ = [.own bag, .dat (.tuple ss), .dat (.int deep), .dat (.int most), .own (.list [.int lf]), .own (.list parts), s6],
      ⟨bag3, left - 1, [], .un, ok3, fun _ => ⟨by omega, by rw [range_len]; omega⟩, by rw [range_len, List.length_nil]; omega, (fun _ h => absurd h (by simp)), rfl⟩, ?_, ?_⟩
    · rintro ρ ⟨bag4, lf, parts, s6, ok4, hne, hl, hp, rfl⟩
      have hpl : 1 ≤ parts.length := by
        cases parts with
        | nil => have := (hne rfl).2; simp at this
        | cons _ _ => simp
      rw [List.length_nil] at hl
      repeat walk_at "m1"
      refine iBag rfl ?_
      repeat walk_at "m1"
      refine iBag rfl ?_
      repeat walk_at "m1"
      refine iBagE rfl rfl ok4 (take_fn (by omega) (by omega)) ?_
      rintro z bag5 ⟨v, rfl, v0, v1⟩ ok5
      repeat walk_at "m1"
      refine iBagE rfl rfl ok5 (one_fn (xs := [.int 1, .int (parts.length : Int), .int (1 + v)]) (.inl rfl) (by show 0 < 3; decide) (by show 3 < 1073741824; decide)) ?_
      intro r bag6 hr ok6
      obtain ⟨q, rfl, q0, q1⟩ : ∃ q : Int, r = .int q ∧ 1 ≤ q ∧ q ≤ parts.length := by
        rcases List.mem_cons.mp hr with h | hr
        · exact ⟨1, h, by omega, by omega⟩
        rcases List.mem_cons.mp hr with h | hr
        · exact ⟨_, h, by omega, by omega⟩
        · exact ⟨1 + v, List.mem_singleton.mp hr, by omega, by omega⟩
      repeat walk_at "m1"
      exact ⟨rfl, .kth q0 q1 (by omega) hp, bag6, lf, ok6, rfl, rfl⟩
    · rintro d ds ρ ⟨bag4, lf, parts, s6, ok4, hne, hl, hp, rfl⟩
      refine ⟨_, rfl, ?_⟩
      rw [List.length_cons] at hl
      repeat walk_at "m1"
      refine iteD (fun hlf => ?_) (fun hlf => ?_)
      · repeat walk_at "m1"
        refine iMut rfl ?_
        repeat walk_at "m1"
        refine iFn2 (by decide) rfl ?_
        repeat walk_at "m1"
        refine ⟨rfl, _, _, _, _, _, rfl, rfl, rfl, ?_⟩
        obtain ⟨r, ps', e, hf, bag5, n5, ok5, g0, g4⟩ := ih k (deep - 1) (by omega) (by omega) bag4 lf ok4
        refine ⟨r, ps', e, ?_⟩
        simp only [g0, g4]
        repeat walk_at "m1"
        refine iMutE rfl (app_ok (by omega)) ?_
        refine ⟨bag5, n5, parts ++ [r], _, ok5, fun h => absurd h (by simp), by rw [List.length_append, List.length_singleton]; omega, ?_, rfl⟩
        intro p hp'
        rcases List.mem_append.mp hp' with h | h
        · exact hp p h
        · rw [List.mem_singleton.mp h]; exact hf
      · repeat walk_at "m1"
        refine ⟨bag4, lf, parts, _, ok4, fun h => ?_, by omega, hp, rfl⟩
        have := (hne h).1
        omega
theorem iFnT2 {ρ : List Slot} {g : FM} {a1 a2 a3 : M LV} {md : M D} {b : Nat} {Q : D → List Slot → Prop} (hb : (sv ρ[b]?).isSome = true) (h : wp (mLs [a1, a2, a3]) ρ fun xs ρ1 => wp md ρ1 fun d ρ2 => b ≠ ρ2.length ∧ fn2E g b ρ2.length xs (fun r ρ3 => Q r (ρ3.take ρ2.length)) (ρ2 ++ [.own d])) : wp (mFnT [0, 4] g [mPk b, a1, a2, a3] md) ρ Q := by
  unfold mFnT
  refine wp_bind.mpr ?_
  refine iLs (iPk hb ?_)
  refine h.mono fun ys ρ1 h => ?_
  refine wp_bind.mpr ?_
  refine h.mono fun d ρ2 ⟨n, q⟩ => ?_
  have hl : ys.length = 3 := by
    obtain ⟨d1, d2, d3, c, e, ha, _⟩ := q
    exact argD_len ha
  obtain ⟨ps, r, ps', e1, e2, e3, q⟩ := fn2_go n q
  refine ⟨r, _, ?_, q⟩
  simp only
  rw [show LV.slot b :: ys ++ [LV.slot ρ2.length] = .slot b :: (ys ++ [.slot ρ2.length]) from rfl, e2, e1]
  simp only [List.map_cons, List.map_nil]
  rw [if_pos, e3]
  rw [List.length_cons, hl]
  simpa using n
def b_any_formula : MS :=
  (mRet (mFnT [0, 4] (g_formula 20) [(mPk 0), (mPk 1), (mV (mFn [0] g_one [(mPk 0), (mV (mLst [(mC (.int 1)), (mC (.int 2)), (mC (.int 2)), (mC (.int 3)), (mC (.int 4))]))])), (mV (mFn [0] g_one [(mPk 0), (mV (mLst [(mC (.int 2)), (mC (.int 3)), (mC (.int 2)), (mC (.int 9))]))]))] (mLst [(mC (.int 12))])))
def g_any_formula : FM := runF false 2 0 [0] b_any_formula

theorem any_fn {ss : List D} (hs : ∀ s ∈ ss, SortOk s) (h1 : 1 ≤ ss.length) (h2 : ss.length ≤ 1000) : bagFn g_any_formula [.tuple ss] (FormOk ss 3 3) := fun bag ok => by
  unfold g_any_formula
  refine run_gives rfl ?_
  unfold b_any_formula
  repeat walk_at "m1"
  refine iFnT2 rfl ?_
  repeat walk_at "m1"
  refine iBag rfl ?_
  repeat walk_at "m1"
  refine iBagE rfl rfl ok (one_fn (xs := [.int 1, .int 2, .int 2, .int 3, .int 4]) (.inl rfl) (by decide) (by decide)) ?_
  intro z bag2 hz ok2
  obtain ⟨deep, rfl, d0, d1⟩ := int_mem (lo := 1) (hi := 4) rfl hz
  repeat walk_at "m1"
  refine iBag rfl ?_
  repeat walk_at "m1"
  refine iBagE rfl rfl ok2 (one_fn (xs := [.int 2, .int 3, .int 2, .int 9]) (.inl rfl) (by decide) (by decide)) ?_
  intro z bag3 hz ok3
  obtain ⟨most, rfl, m0, m1⟩ := int_mem (lo := 2) (hi := 9) rfl hz
  repeat walk_at "m1"
  refine ⟨show (0 : Nat) ≠ 2 by decide, _, _, _, _, _, rfl, rfl, rfl, ?_⟩
  obtain ⟨r, ps', e, hf, bag5, n5, ok5, g0, g4⟩ := formula_fn (most := most) hs h1 h2 (by omega) (by omega) 19 3 deep (by omega) (by omega) bag3 12 ok3
  refine ⟨r, ps', e, ?_⟩
  simp only [g0, g4]
  exact ⟨r, rfl, rfl, hf, bag5, ok5, rfl⟩
end CF
end
section
/-! CF, part z4: values of formulas. -/
namespace CF
open PySem
local macro_rules | `(tactic| walk_at "hf") => `(tactic| (first
  | with_reducible exact eqD_int | with_reducible exact eqD_str | with_reducible exact neD_int | with_reducible exact addD_int | with_reducible exact addI_int | with_reducible exact subD_int | with_reducible exact geD_int | with_reducible exact gtD_int | with_reducible exact leD_int | with_reducible exact ltD_int | with_reducible exact modD_of (by decide) | with_reducible exact mulD_r (by decide) | with_reducible exact mulD_l (by decide) | with_reducible exact powD_of (by decide) | with_reducible exact ix0 | ((with_reducible show ixD (.list _) (.int _) = _); rfl) | ((with_reducible show ixD (.tuple _) (.int _) = _); rfl)
  | with_reducible exact intC_int | with_reducible exact lenC_list | with_reducible exact lenC_tuple | with_reducible exact tupleC_list | with_reducible exact listC_tuple | with_reducible exact listC_dict | with_reducible exact isN_none | with_reducible exact isN_int | with_reducible exact notN_none | with_reducible exact notN_int | with_reducible exact min2_int | with_reducible exact max2_int | with_reducible exact slD_list | with_reducible exact slD_tuple))
local macro_rules | `(tactic| walk_at "m1") => `(tactic| (first
  | with_reducible refine iSq ?_ | with_reducible refine iThn ?_ | with_reducible refine iIfS ?_ | with_reducible refine iSet ?_ | with_reducible refine iSetB ?_ | with_reducible refine iSetO ?_ | with_reducible refine iRet ?_ | with_reducible refine iNx ?_ | with_reducible refine iThnR ?_
  | with_reducible refine iTest ?_ | with_reducible refine iOp2 ?_ | ((with_reducible refine' iPk ?h1 ?h2); (case h1 => rfl)) | with_reducible refine iV ?_ | with_reducible refine iC ?_ | ((with_reducible refine' iVar ?h1 ?h2); (case h1 => rfl))
  | with_reducible refine iCall ?_ | with_reducible refine iLs0 ?_ | with_reducible refine iLs ?_ | with_reducible refine iSub ?_ | with_reducible refine iSl ?_ | with_reducible refine iSome ?_ | with_reducible refine iNone ?_ | with_reducible refine iLst ?_ | with_reducible refine iTup ?_ | with_reducible refine iDs0 ?_ | with_reducible refine iDs ?_
  | with_reducible refine iAnd ?_ | with_reducible refine iOr ?_ | with_reducible refine iNot ?_ | with_reducible refine iBl ?_ | with_reducible refine iIf ?_ | with_reducible refine iDrop ?_ | with_reducible refine iYes ?_ | with_reducible refine iPar ?_
  | ((with_reducible refine' iAugS ?h1 ?h2); (case h1 => exact ⟨_, rfl⟩))
  | ((with_reducible refine' iPutE ?h1 ?h2 ?h3); (case h1 => rfl); (case h2 => rfl))
  | ((with_reducible refine' iOp2E ?h1 ?h2 ?h3 ?h4); (case h1 => rfl); (case h2 => rfl); (case h3 => walk_at "hf"))
  | ((with_reducible refine' iCallE ?h1 ?h2 ?h3); (case h1 => rfl); (case h2 => walk_at "hf"))
  | with_reducible refine ⟨sz0, ?_⟩ | with_reducible refine ⟨sz1, ?_⟩ | with_reducible refine ⟨sz2, ?_⟩ | with_reducible refine ⟨sz3, ?_⟩ | with_reducible refine ⟨sz4, ?_⟩ | with_reducible refine ⟨sz5, ?_⟩
  | (with_reducible refine ⟨_, rfl, ?_⟩)
  | ((with_reducible refine' ⟨_, ?h1, ?h2⟩); (case h1 => walk_at "hf"))
  | ((with_reducible refine' ⟨⟨_, ?h1⟩, ?h2⟩); (case h1 => rfl))
  | ((with_reducible refine' ⟨_, _, ?h1, ?h2, ?h3⟩); (case h1 => rfl); (case h2 => walk_at "hf"))
  | ((with_reducible refine' ⟨_, _, ?h1, ?h2, ?h3⟩); (case h1 => rfl); (case h2 => rfl))))

/-- a comprehension with a test: both are told -/
theorem iLCF {ρ : List Slot} {Q : D → List Slot → Prop} {vs : List Nat} {src : M (List D)} {b : D → M Unit} {t : M Bool} {elt : M D} (h : wp src ρ fun ds ρ1 => ds.length ≤ sizeLine ∧ (vs.all fun v => !isOwn (ρ1.getD v .un)) = true ∧ ∃ (I : List Slot → Prop) (p : D → Bool) (f : D → D), I ρ1 ∧
    (∀ d ∈ ds, ∀ ρ2, I ρ2 → ∃ ρ3, b d (wipeS ρ2 vs) = some (.ok () ρ3) ∧ wp t ρ3 fun c ρ4 => c = p d ∧ if p d = true then wp elt ρ4 fun y ρ5 => y = f d ∧ I ρ5 else I ρ4) ∧ ∀ ρ2, I ρ2 → Q (.list ((ds.filter p).map f)) (backS ρ1 ρ2 vs)) : wp (mLC vs src b t elt) ρ Q := by
  unfold mLC
  refine wp_bind.mpr (h.mono fun ds ρ1 ⟨hl, hv, I, p, f, i0, it, ie⟩ => ?_)
  have go : ∀ (ds' acc : List D) (ρ2 : List Slot), (∀ d ∈ ds', d ∈ ds) → acc.length + ds'.length ≤ sizeLine → I ρ2 → ∃ ρ3, lcGo vs b t elt ds' acc ρ2 = some (.ok (acc ++ (ds'.filter p).map f) ρ3) ∧ I ρ3 := by
    intro ds'
    induction ds' with
    | nil => exact fun acc ρ2 _ _ i => ⟨ρ2, by simp; rfl, i⟩
    | cons d ds' ih =>
      intro acc ρ2 hm hz i
      rw [List.length_cons] at hz
      obtain ⟨ρ3, e3, c, ρ4, e4, ec, q4⟩ := it d (hm d (List.mem_cons_self ..)) ρ2 i
      have body : ∀ {acc2 : List D} {ρ5 : List Slot}, (∀ R : D → Prop, True) → (if c = true then (do let y ← elt; if acc.length < sizeLine then lcGo vs b t elt ds' (acc ++ [y]) else fun _ => none : M (List D)) else lcGo vs b t elt ds' acc) ρ4 = some (.ok acc2 ρ5) → lcGo vs b t elt (d :: ds') acc ρ2 = some (.ok acc2 ρ5) := by
        intro acc2 ρ5 _ hb
        have hw : wp (lcGo vs b t elt (d :: ds') acc) ρ2 (fun r ρ' => r = acc2 ∧ ρ' = ρ5) := by
          show wp ((fun ρ => some (.ok () (wipeS ρ vs)) : M Unit) >>= _) ρ2 _
          refine wp_bind.mpr ⟨(), _, rfl, ?_⟩
          refine wp_bind.mpr ⟨(), ρ3, e3, ?_⟩
          refine wp_bind.mpr ⟨c, ρ4, e4, ?_⟩
          exact ⟨_, _, hb, rfl, rfl⟩
        obtain ⟨r, ρ', e, rfl, rfl⟩ := hw
        exact e
      cases hp : p d with
      | true =>
        rw [hp] at ec q4
        rw [if_pos rfl] at q4
        obtain ⟨y, ρ5, e5, ey, i5⟩ := q4
        obtain ⟨ρ6, e6, i6⟩ := ih (acc ++ [y]) ρ5 (fun d' h => hm d' (List.mem_cons_of_mem _ h)) (by rw [List.length_append, List.length_singleton]; omega) i5
        refine ⟨ρ6, body (fun _ => trivial) ?_, i6⟩
        rw [if_pos ec]
        have hw : wp (do let y ← elt; if acc.length < sizeLine then lcGo vs b t elt ds' (acc ++ [y]) else fun _ => none : M (List D)) ρ4 (fun r ρ' => r = acc ++ ((d :: ds').filter p).map f ∧ ρ' = ρ6) := by
          refine wp_bind.mpr ⟨y, ρ5, e5, ?_⟩
          have e7 : (if acc.length < sizeLine then lcGo vs b t elt ds' (acc ++ [y]) else fun _ => none) ρ5 = some (.ok ((acc ++ [y]) ++ (ds'.filter p).map f) ρ6) := by rw [if_pos (by omega)]; exact e6
          refine ⟨_, _, e7, ?_, rfl⟩
          rw [List.filter_cons, if_pos hp, List.map_cons, ← ey, List.append_assoc]
          rfl
        obtain ⟨r, ρ', e, rfl, rfl⟩ := hw
        exact e
      | false =>
        rw [hp] at ec q4
        rw [if_neg Bool.false_ne_true] at q4
        obtain ⟨ρ6, e6, i6⟩ := ih acc ρ4 (fun d' h => hm d' (List.mem_cons_of_mem _ h)) (by omega) q4
        refine ⟨ρ6, body (fun _ => trivial) ?_, i6⟩
        rw [if_neg (by rw [ec]; exact Bool.false_ne_true), e6, List.filter_cons, if_neg (by rw [hp]; exact Bool.false_ne_true)]
  obtain ⟨ρ3, e, i3⟩ := go ds [] ρ1 (fun _ h => h) (by simpa using hl) i0
  rw [List.nil_append] at e
  refine ⟨_, backS ρ1 ρ3 vs, ?_, ie ρ3 i3⟩
  simp only
  rw [if_pos hv, e]
/-! ### whole numbers in order -/
def ascI (ns : List Int) : List Int := ns.mergeSort fun a b => decide (a ≤ b)
def descI (ns : List Int) : List Int := ns.mergeSort fun a b => decide (b ≤ a)
theorem sort_asc (ns : List Int) : sortL false (ns.map PyData.int) = (ascI ns).map PyData.int :=
  (PySem.W.sort_maps (s := PySem.W.dataLe false id) PyData.int fun a _ b _ => (congrFun (congrFun (PySem.W.dataLe_int (β := Int) id) a) b).symm).symm
theorem sort_desc (ns : List Int) : sortL true (ns.map PyData.int) = (descI ns).map PyData.int :=
  (PySem.W.sort_maps (s := PySem.W.dataLe true id) PyData.int fun a _ b _ => (congrFun (congrFun (PySem.W.dataGe_int (β := Int) id) a) b).symm).symm
theorem asc_perm (ns : List Int) : (ascI ns).Perm ns := List.mergeSort_perm _ _
theorem desc_perm (ns : List Int) : (descI ns).Perm ns := List.mergeSort_perm _ _
theorem asc_pw (ns : List Int) : (ascI ns).Pairwise (· ≤ ·) := by
  have h := List.pairwise_mergeSort (le := fun a b : Int => decide (a ≤ b)) (fun a b c h1 h2 => by simp at *; omega) (fun a b => by simp; omega) ns
  exact h.imp fun {a b} z => by simpa using z
theorem desc_pw (ns : List Int) : (descI ns).Pairwise (fun a b => b ≤ a) := by
  have h := List.pairwise_mergeSort (le := fun a b : Int => decide (b ≤ a)) (fun a b c h1 h2 => by simp at *; omega) (fun a b => by simp; omega) ns
  exact h.imp fun {a b} z => by simpa using z
theorem asc_unique {as bs : List Int} (h : as.Perm bs) (ha : as.Pairwise (· ≤ ·)) (hb : bs.Pairwise (· ≤ ·)) : as = bs := h.eq_of_pairwise (fun a b _ _ h1 h2 => by omega) ha hb
theorem asc_of {as ns : List Int} (h : as.Perm ns) (ha : as.Pairwise (· ≤ ·)) : as = ascI ns := asc_unique (h.trans (asc_perm ns).symm) ha (asc_pw ns)
theorem desc_rev (ns : List Int) : descI ns = (ascI ns).reverse := by
  have : (descI ns).reverse = ascI ns := asc_of ((List.reverse_perm _).trans (desc_perm ns)) (by rw [List.pairwise_reverse]; exact desc_pw ns)
  rw [← this, List.reverse_reverse]
/-- the k-th from above -/
def kthI (ns : List Int) (k : Int) : Option Int := if k ≤ ns.length then (descI ns)[(k - 1).toNat]? else none
def optD : Option Int → D
  | none => .none
  | some i => .int i
/-! ### rows of a lot -/
theorem intsD_map : ∀ ns : List Int, intsD (ns.map PyData.int) = some ns
  | [] => rfl
  | n :: ns => by
    show (intsD (ns.map PyData.int)).map (n :: ·) = _
    rw [intsD_map ns]; rfl
def rowI (es : List (D × D)) (l : D) : List Int := match lookD es l with
  | some (.tuple xs) => (intsD xs).getD []
  | _ => []
def RowsOf (es : List (D × D)) (ls : List D) : Prop := ∀ l ∈ ls, isKey l = true ∧ ∃ ns : List Int, lookD es l = some (.tuple (ns.map PyData.int)) ∧ ns.length ≤ 9
theorem rowI_at {es : List (D × D)} {ls : List D} (h : RowsOf es ls) {l : D} (hl : l ∈ ls) : ixD (.dict es) l = some (.tuple ((rowI es l).map PyData.int)) ∧ (rowI es l).length ≤ 9 := by
  obtain ⟨hk, ns, e, hn⟩ := h l hl
  have er : rowI es l = ns := by unfold rowI; rw [e]; simp [intsD_map]
  rw [er]
  refine ⟨?_, hn⟩
  show (if isKey l = true then lookD es l else none) = _
  rw [if_pos hk, e]
def allR (es : List (D × D)) (ls : List D) : List Int := (ls.map (rowI es)).flatten
theorem allR_len {es : List (D × D)} : ∀ {ls : List D}, RowsOf es ls → (allR es ls).length ≤ 9 * ls.length
  | [], _ => by simp [allR]
  | l :: ls, h => by
    have a := (rowI_at h (List.mem_cons_self ..)).2
    have b := allR_len (ls := ls) fun x hx => h x (List.mem_cons_of_mem _ hx)
    unfold allR at b ⊢
    rw [List.map_cons, List.flatten_cons, List.length_append, List.length_cons]
    omega
theorem int_I {ns : List Int} : ∀ d ∈ ns.map PyData.int, isI d = true := fun d hd => by obtain ⟨n, _, rfl⟩ := List.mem_map.mp hd; rfl
def b_rows_in : MS :=
  (mSq (mSetO 2 (mLst []))
  (mSq (mFor (mIt (mVar 1)) (setS 3)
    (mDrop (mMut 2 extG (mDs [(mOp2 ixD (mPk 0) (mPk 3))]))))
  (mRet (mCall sortedC [(mPk 2)]))))
def g_rows_in : FM := runF false 2 2 [] b_rows_in

theorem rows_fn {es : List (D × D)} {t : D} {ls : List D} (ht : t = .list ls ∨ t = .tuple ls) (h : RowsOf es ls) (hl : ls.length ≤ 1000) : pureFn g_rows_in [.dict es, t] (· = .list ((ascI (allR es ls)).map PyData.int)) := by
  unfold g_rows_in pureFn
  refine run_gives rfl ?_
  unfold b_rows_in
  have hi : iterD t = some ls := by rcases ht with rfl | rfl <;> rfl
  have hlen := allR_len h
  refine iSq (iSetO ?_)
  repeat walk_at "m1"
  refine iFor (wIt ?_)
  repeat walk_at "m1"
  refine ⟨_, hi, fun rest ρ => ∃ done s, ls = done ++ rest ∧ ρ = [.dat (.dict es), .dat t, .own (.list ((allR es done).map PyData.int)), s], ⟨[], .un, rfl, rfl⟩, ?_, ?_⟩
  · rintro ρ ⟨done, s, e, rfl⟩
    rw [List.append_nil] at e
    subst e
    repeat walk_at "m1"
    refine iCallE rfl (sortedC_of (canSort_ints int_I)) ?_
    refine ⟨_, rfl, rfl, ?_⟩
    rw [sort_asc]
  · rintro d ds ρ ⟨done, s, e, rfl⟩
    refine ⟨_, rfl, ?_⟩
    have hd : d ∈ ls := by rw [e]; exact List.mem_append_right _ (List.mem_cons_self ..)
    obtain ⟨e1, e2⟩ := rowI_at h hd
    have hdone : (allR es done).length ≤ 9000 := by
      have a := allR_len (es := es) (ls := done) fun x hx => h x (by rw [e]; exact List.mem_append_left _ hx)
      have b := congrArg List.length e
      rw [List.length_append] at b
      omega
    refine iDrop (iMut rfl ?_)
    repeat walk_at "m1"
    refine iOp2E rfl rfl e1 ?_
    repeat walk_at "m1"
    refine iMutE rfl (rowOf_ext (d := .tuple ((rowI es d).map PyData.int)) rfl (by rw [List.length_map, List.length_map, sizeLine_eq]; omega)) ?_
    refine ⟨done ++ [d], .dat d, by rw [e, List.append_assoc]; rfl, ?_⟩
    have : allR es (done ++ [d]) = allR es done ++ rowI es d := by unfold allR; simp
    rw [this, List.map_append]
    rfl
/-! ### the k-th -/
theorem fil_opt : ∀ vs : List (Option Int), (((vs.map optD).filter fun d => !isNon d).map fun d => d) = (vs.filterMap id).map PyData.int
  | [] => rfl
  | none :: vs => fil_opt vs
  | some i :: vs => by
    show PyData.int i :: _ = _
    exact congrArg _ (fil_opt vs)
theorem desc_at {ns : List Int} {k : Int} (h0 : 1 ≤ k) (h1 : k ≤ ns.length) : ixD (.list ((descI ns).map PyData.int)) (.int (k - 1)) = some (optD (kthI ns k)) := by
  obtain ⟨j, hj⟩ := Int.eq_ofNat_of_zero_le (by omega : 0 ≤ k - 1)
  have hl : j < (descI ns).length := by rw [(desc_perm ns).length_eq]; omega
  rw [hj]
  have e : kthI ns k = some (descI ns)[j] := by
    unfold kthI
    rw [if_pos h1, hj, Int.toNat_natCast, List.getElem?_eq_getElem hl]
  rw [e]
  refine L2.atI_nat ?_
  rw [List.getElem?_map, List.getElem?_eq_getElem hl]
  rfl
def b_kth_of : MS :=
  (mSq (mSet 2 (mCall (sortedRC true) [(mV (mLC [3] (mIt (mVar 0)) (setS 3) (mTest (mOp2 notND (mPk 3) (mV (mC .none)))) (mVar 3)))]))
  (mRet (mIf (mTest (mOp2 leD (mPk 1) (mV (mCall lenC [(mPk 2)])))) (mOp2 ixD (mPk 2) (mV (mOp2 subD (mPk 1) (mV (mC (.int 1)))))) (mC .none))))
def g_kth_of : FM := runF false 2 2 [] b_kth_of

theorem kth_fn {vs : List (Option Int)} {k : Int} (hl : vs.length ≤ 100000) (h0 : 1 ≤ k) : pureFn g_kth_of [.list (vs.map optD), .int k] (· = optD (kthI (vs.filterMap id) k)) := by
  unfold g_kth_of pureFn
  refine run_gives rfl ?_
  unfold b_kth_of
  refine iSq (iSet (iCall (iLs (iV (iLCF (wIt (iVar rfl ?_)))))))
  refine ⟨_, rfl, by rw [List.length_map, sizeLine_eq]; omega, rfl, fun ρ => ∃ s, ρ = [.dat (.list (vs.map optD)), .dat (.int k), .un, s], fun d => !isNon d, fun d => d, ⟨_, rfl⟩, ?_, ?_⟩
  · rintro d hd ρ ⟨s, rfl⟩
    refine ⟨_, rfl, ?_⟩
    refine iTest (iOp2 ?_)
    repeat walk_at "m1"
    have e : notND d .none = some (.bool (!isNon d)) := rfl
    refine iOp2E rfl rfl e ?_
    refine ⟨_, rfl, rfl, ?_⟩
    split
    · repeat walk_at "m1"
      exact ⟨rfl, _, rfl⟩
    · exact ⟨_, rfl⟩
  · rintro ρ ⟨s, rfl⟩
    rw [fil_opt]
    repeat walk_at "m1"
    have es : sortedRC true [.list ((vs.filterMap id).map PyData.int)] = some (.list (sortL true ((vs.filterMap id).map PyData.int))) := if_pos (canSort_ints int_I)
    refine iCallE rfl es ?_
    rw [sort_desc]
    repeat walk_at "m1"
    rw [List.length_map, (desc_perm _).length_eq]
    refine iteD (fun h => ?_) (fun h => ?_)
    · repeat walk_at "m1"
      refine iOp2E rfl rfl (desc_at h0 h) ?_
      exact ⟨_, rfl, rfl, rfl⟩
    · repeat walk_at "m1"
      refine ⟨rfl, ?_⟩
      unfold kthI
      rw [if_neg h]
      rfl
/-! ### values -/
theorem map_of {xs ys : List D} {f : D → D} (hl : ys.length = xs.length) (h : ∀ (j : Nat) (d r : D), xs[j]? = some d → ys[j]? = some r → r = f d) : ys = xs.map f := by
  apply List.ext_getElem (by rw [List.length_map, hl])
  intro j h1 h2
  rw [List.length_map] at h2
  rw [List.getElem_map]
  exact h j _ _ (List.getElem?_eq_getElem h2) (List.getElem?_eq_getElem h1)
theorem desc_same {as bs : List Int} (h : as.Perm bs) : descI as = descI bs := by
  rw [desc_rev, desc_rev, asc_unique ((asc_perm as).trans (h.trans (asc_perm bs).symm)) (asc_pw as) (asc_pw bs)]
theorem kth_same {as bs : List Int} (h : as.Perm bs) (k : Int) : kthI as k = kthI bs k := by
  unfold kthI
  rw [desc_same h, h.length_eq]
theorem fil_some (ns : List Int) : (ns.map some).filterMap id = ns := by
  induction ns with
  | nil => rfl
  | cons n ns ih => simpa using ih
def sRank : Str := Str.ofString "rank"
def sKth : Str := Str.ofString "kth"
def evalN (es : List (D × D)) : Nat → D → Option Int
  | 0, _ => none
  | n + 1, .tuple [.str t, a, b] => if t = sRank then (match a, b with
      | .tuple ls, .int k => kthI (allR es ls) k
      | _, _ => none) else (match a, b with
      | .int q, .tuple ps => kthI ((ps.map (evalN es n)).filterMap id) q
      | _, _ => none)
  | _ + 1, _ => none
theorem eval_rank {es : List (D × D)} {n : Nat} {ls : List D} {k : Int} : evalN es (n + 1) (.tuple [.str sRank, .tuple ls, .int k]) = kthI (allR es ls) k := by
  unfold evalN
  rw [if_pos rfl]
theorem eval_kth {es : List (D × D)} {n : Nat} {ps : List D} {q : Int} : evalN es (n + 1) (.tuple [.str sKth, .int q, .tuple ps]) = kthI ((ps.map (evalN es n)).filterMap id) q := by
  conv => lhs; unfold evalN
  rw [if_neg (by decide)]
def TabFor (es : List (D × D)) (ss : List D) : Prop := ∀ l, NameIn ss l → isKey l = true ∧ ∃ ns : List Int, lookD es l = some (.tuple (ns.map PyData.int)) ∧ ns.length ≤ 9
theorem TabFor.rows {es : List (D × D)} {ss ls : List D} (h : TabFor es ss) (hl : ∀ l ∈ ls, NameIn ss l) : RowsOf es ls := fun l hm => h l (hl l hm)
def b_value_of (r_value_of : FM) : MS :=
  (mSq (mIfS (mTest (mOp2 eqD (mV (mOp2 ixD (mPk 2) (mV (mC (.int 0))))) (mV (mC (.str (Str.ofString "rank"))))))
    (mRet (mFn [] g_kth_of [(mV (mFn [] g_rows_in [(mPk 1), (mV (mOp2 ixD (mPk 2) (mV (mC (.int 1)))))])), (mV (mOp2 ixD (mPk 2) (mV (mC (.int 2)))))]))
    mNx)
  (mRet (mFn [] g_kth_of [(mV (mLC [3] (mIt (mOp2 ixD (mPk 2) (mV (mC (.int 2))))) (setS 3) mYes (mFn [] r_value_of [(mPk 0), (mPk 1), (mPk 3)]))), (mV (mOp2 ixD (mPk 2) (mV (mC (.int 1)))))])))
def g_value_of : Nat → FM
  | 0 => fm0
  | n + 1 => runF false 3 1 [] (b_value_of (g_value_of n))
theorem value_fn {es : List (D × D)} {ss : List D} {house : D} {w : Nat} (ht : TabFor es ss) (h2 : ss.length ≤ 1000) (hw : w ≤ 1000) : ∀ (n k : Nat) (d : D), FormOk ss w k d → k < n → pureFn (g_value_of n) [house, .dict es, d] (· = optD (evalN es n d)) := by
  intro n
  induction n with
  | zero => intro k d _ hk; omega
  | succ n ih =>
    intro k d hf hk
    show gives (runF false 3 1 [] _) _ _
    refine run_gives rfl ?_
    unfold b_value_of
    cases hf with
    | rank hr =>
      obtain ⟨ls, q, rfl, hl, hn, q1, q2⟩ := hr
      repeat walk_at "m1"
      refine iteD (fun _ => ?_) (fun h => absurd rfl h)
      refine iRet (iFn (iLs (iV (iFn ?_))))
      repeat walk_at "m1"
      refine iFnP rfl (rows_fn (.inr rfl) (ht.rows hn) (by omega)) ?_
      rintro _ rfl
      repeat walk_at "m1"
      have kf := kth_fn (vs := (ascI (allR es ls)).map some) (k := q) (by
        have := allR_len (ht.rows hn)
        rw [List.length_map, (asc_perm _).length_eq]; omega) q1
      rw [List.map_map, fil_some, kth_same (asc_perm _)] at kf
      refine iFnP rfl kf ?_
      rintro _ rfl
      refine ⟨_, rfl, rfl, ?_⟩
      show _ = optD (evalN es (n + 1) (.tuple [.str sRank, .tuple ls, .int q]))
      rw [eval_rank]
    | @kth k q ps q0 q1 hpl hp =>
      repeat walk_at "m1"
      refine iteD (fun h => absurd h (by decide)) (fun _ => ?_)
      repeat walk_at "m1"
      refine iFn (iLs (iV (iLC (wIt ?_))))
      repeat walk_at "m1"
      refine ⟨by rw [sizeLine_eq]; omega, rfl, fun ρ => ∃ s, ρ = [.dat house, .dat (.dict es), .dat (.tuple [.str (Str.ofString "kth"), .int q, .tuple ps]), s], fun d r => r = optD (evalN es n d), ⟨_, rfl⟩, ?_, ?_⟩
      · rintro d hd ρ ⟨s, rfl⟩
        refine ⟨_, rfl, ?_⟩
        refine iFn ?_
        repeat walk_at "m1"
        refine iFnP rfl (ih k d (hp d hd) (by omega)) ?_
        rintro _ rfl
        exact ⟨rfl, _, rfl⟩
      · rintro rs ρ hl hpr ⟨s, rfl⟩
        have er := map_of (f := fun d => optD (evalN es n d)) hl hpr
        subst er
        repeat walk_at "m1"
        have kf := kth_fn (vs := ps.map (evalN es n)) (k := q) (by rw [List.length_map]; omega) q0
        rw [List.map_map] at kf
        refine iFnP rfl kf ?_
        rintro _ rfl
        refine ⟨_, rfl, rfl, ?_⟩
        show _ = optD (evalN es (n + 1) (.tuple [.str sKth, .int q, .tuple ps]))
        rw [eval_kth]
end CF
end
section
/-! CF, part z5: the law's own values. -/
namespace CF
open PySem
local macro_rules | `(tactic| walk_at "hf") => `(tactic| (first
  | with_reducible exact eqD_int | with_reducible exact eqD_str | with_reducible exact neD_int | with_reducible exact addD_int | with_reducible exact addI_int | with_reducible exact subD_int | with_reducible exact geD_int | with_reducible exact gtD_int | with_reducible exact leD_int | with_reducible exact ltD_int | with_reducible exact modD_of (by decide) | with_reducible exact mulD_r (by decide) | with_reducible exact mulD_l (by decide) | with_reducible exact powD_of (by decide) | with_reducible exact ix0 | ((with_reducible show ixD (.list _) (.int _) = _); rfl) | ((with_reducible show ixD (.tuple _) (.int _) = _); rfl)
  | with_reducible exact intC_int | with_reducible exact lenC_list | with_reducible exact lenC_tuple | with_reducible exact tupleC_list | with_reducible exact listC_tuple | with_reducible exact listC_dict | with_reducible exact isN_none | with_reducible exact isN_int | with_reducible exact notN_none | with_reducible exact notN_int | with_reducible exact min2_int | with_reducible exact max2_int | with_reducible exact slD_list | with_reducible exact slD_tuple))
local macro_rules | `(tactic| walk_at "m1") => `(tactic| (first
  | with_reducible refine iSq ?_ | with_reducible refine iThn ?_ | with_reducible refine iIfS ?_ | with_reducible refine iSet ?_ | with_reducible refine iSetB ?_ | with_reducible refine iSetO ?_ | with_reducible refine iRet ?_ | with_reducible refine iNx ?_ | with_reducible refine iThnR ?_
  | with_reducible refine iTest ?_ | with_reducible refine iOp2 ?_ | ((with_reducible refine' iPk ?h1 ?h2); (case h1 => rfl)) | with_reducible refine iV ?_ | with_reducible refine iC ?_ | ((with_reducible refine' iVar ?h1 ?h2); (case h1 => rfl))
  | with_reducible refine iCall ?_ | with_reducible refine iLs0 ?_ | with_reducible refine iLs ?_ | with_reducible refine iSub ?_ | with_reducible refine iSl ?_ | with_reducible refine iSome ?_ | with_reducible refine iNone ?_ | with_reducible refine iLst ?_ | with_reducible refine iTup ?_ | with_reducible refine iDs0 ?_ | with_reducible refine iDs ?_
  | with_reducible refine iAnd ?_ | with_reducible refine iOr ?_ | with_reducible refine iNot ?_ | with_reducible refine iBl ?_ | with_reducible refine iIf ?_ | with_reducible refine iDrop ?_ | with_reducible refine iYes ?_ | with_reducible refine iPar ?_
  | ((with_reducible refine' iAugS ?h1 ?h2); (case h1 => exact ⟨_, rfl⟩))
  | ((with_reducible refine' iPutE ?h1 ?h2 ?h3); (case h1 => rfl); (case h2 => rfl))
  | ((with_reducible refine' iOp2E ?h1 ?h2 ?h3 ?h4); (case h1 => rfl); (case h2 => rfl); (case h3 => walk_at "hf"))
  | ((with_reducible refine' iCallE ?h1 ?h2 ?h3); (case h1 => rfl); (case h2 => walk_at "hf"))
  | with_reducible refine ⟨sz0, ?_⟩ | with_reducible refine ⟨sz1, ?_⟩ | with_reducible refine ⟨sz2, ?_⟩ | with_reducible refine ⟨sz3, ?_⟩ | with_reducible refine ⟨sz4, ?_⟩ | with_reducible refine ⟨sz5, ?_⟩
  | (with_reducible refine ⟨_, rfl, ?_⟩)
  | ((with_reducible refine' ⟨_, ?h1, ?h2⟩); (case h1 => walk_at "hf"))
  | ((with_reducible refine' ⟨⟨_, ?h1⟩, ?h2⟩); (case h1 => rfl))
  | ((with_reducible refine' ⟨_, _, ?h1, ?h2, ?h3⟩); (case h1 => rfl); (case h2 => walk_at "hf"))
  | ((with_reducible refine' ⟨_, _, ?h1, ?h2, ?h3⟩); (case h1 => rfl); (case h2 => rfl))))

def keyO : Option Int → D
  | none => .tuple [.int 0, .int 0]
  | some v => .tuple [.int 1, .int v]
def leO : Option Int → Option Int → Bool
  | none, _ => true
  | some _, none => false
  | some a, some b => decide (a ≤ b)
theorem leO_key (a b : Option Int) : leO a b = PySem.W.dataLe false id (keyO a) (keyO b) := by
  show _ = !PySem.W.dataLt (keyO b) (keyO a)
  cases a <;> cases b <;> simp only [keyO, leO, PySem.W.dataLt_ii] <;> rw [Bool.eq_iff_iff] <;> simp
theorem keys_sort (os : List (Option Int)) : sortL false (os.map keyO) = (os.mergeSort leO).map keyO :=
  (PySem.W.sort_maps (s := PySem.W.dataLe false id) keyO fun a _ b _ => leO_key a b).symm
def nons (os : List (Option Int)) : Nat := (os.filter (·.isNone)).length
theorem os_perm : ∀ os : List (Option Int), (List.replicate (nons os) none ++ (os.filterMap id).map some).Perm os
  | [] => by simp [nons]
  | none :: os => by
    have ih := os_perm os
    have e : nons (none :: os) = nons os + 1 := by simp [nons]
    rw [e, List.replicate_succ]
    exact ih.cons none
  | some v :: os => by
    have ih := os_perm os
    have e : nons (some v :: os) = nons os := by simp [nons]
    rw [e]
    have : (List.filterMap id (some v :: os)).map some = some v :: (os.filterMap id).map some := by simp
    rw [this]
    exact List.perm_middle.trans (ih.cons (some v))
theorem os_sort (os : List (Option Int)) : os.mergeSort leO = List.replicate (nons os) none ++ (ascI (os.filterMap id)).map some := by
  have tr : ∀ a b c : Option Int, leO a b = true → leO b c = true → leO a c = true := by
    intro a b c h1 h2
    cases a <;> cases b <;> cases c <;> simp [leO] at * <;> omega
  have tot : ∀ a b : Option Int, (leO a b || leO b a) = true := by
    intro a b
    cases a <;> cases b <;> simp [leO] <;> omega
  refine List.Perm.eq_of_pairwise (le := fun a b => leO a b = true) (fun a b _ _ h1 h2 => ?_) (List.pairwise_mergeSort tr tot os) ?_ ?_
  · cases a <;> cases b <;> simp [leO] at * <;> omega
  · rw [List.pairwise_append]
    refine ⟨?_, ?_, ?_⟩
    · rw [List.pairwise_replicate]
      exact .inr rfl
    · rw [List.pairwise_map]
      exact (asc_pw _).imp fun {a b} h => by simp [leO]; exact h
    · intro a ha b _
      rw [(List.mem_replicate.mp ha).2]
      rfl
  · exact (List.mergeSort_perm _ _).trans ((os_perm os).symm.trans (List.Perm.append_left _ ((asc_perm _).symm.map some)))
theorem os_len (os : List (Option Int)) : nons os + (os.filterMap id).length = os.length := by
  have := (os_perm os).length_eq
  rw [List.length_append, List.length_replicate, List.length_map] at this
  exact this
/-- the key that stands for the k-th from above -/
theorem os_at {os : List (Option Int)} {q : Int} (q0 : 1 ≤ q) (q1 : q ≤ os.length) : (os.mergeSort leO)[os.length - q.toNat]? = some (kthI (os.filterMap id) q) := by
  obtain ⟨j, hj⟩ := Int.eq_ofNat_of_zero_le (by omega : 0 ≤ q)
  subst hj
  rw [os_sort, Int.toNat_natCast]
  have hl := os_len os
  unfold kthI
  by_cases h : (j : Int) ≤ (os.filterMap id).length
  · rw [if_pos h, List.getElem?_append_right (by rw [List.length_replicate]; omega), List.length_replicate, List.getElem?_map]
    have hd : (descI (os.filterMap id))[((j : Int) - 1).toNat]? = (ascI (os.filterMap id))[(os.filterMap id).length - j]? := by
      rw [desc_rev, List.getElem?_reverse (by rw [(asc_perm _).length_eq]; omega), (asc_perm _).length_eq]
      congr 1
      omega
    rw [hd, show os.length - j - nons os = (os.filterMap id).length - j by omega]
    have hb : (os.filterMap id).length - j < (ascI (os.filterMap id)).length := by rw [(asc_perm _).length_eq]; omega
    rw [List.getElem?_eq_getElem hb]
    rfl
  · rw [if_neg h, List.getElem?_append_left (by rw [List.length_replicate]; omega), List.getElem?_replicate, if_pos (by omega)]
def b_key : MS :=
  (mRet (mIf (mTest (mOp2 isND (mPk 0) (mV (mC .none)))) (mTup [(mC (.int 0)), (mC (.int 0))]) (mTup [(mC (.int 1)), (mVar 0)])))
def g_key : FM := runF false 1 0 [] b_key

theorem key_fn (o : Option Int) : pureFn g_key [optD o] (· = keyO o) := by
  cases o with
  | none =>
    show gives (runF false 1 0 [] b_key) [.dat .none] _
    refine run_gives rfl ?_
    unfold b_key
    repeat walk_at "m1"
    refine iteT ?_
    repeat walk_at "m1"
    exact ⟨rfl, rfl⟩
  | some v =>
    show gives (runF false 1 0 [] b_key) [.dat (.int v)] _
    refine run_gives rfl ?_
    unfold b_key
    repeat walk_at "m1"
    refine iteF ?_
    repeat walk_at "m1"
    exact ⟨rfl, rfl⟩
theorem canSort_keys (os : List (Option Int)) : canSort (os.map keyO) = true := by
  have k : ∀ d ∈ os.map keyO, ∃ a b : Int, d = .tuple [.int a, .int b] := fun d hd => by
    obtain ⟨o, _, rfl⟩ := List.mem_map.mp hd
    cases o with
    | none => exact ⟨0, 0, rfl⟩
    | some v => exact ⟨1, v, rfl⟩
  unfold canSort
  rw [Bool.and_eq_true, Bool.and_eq_true, Bool.or_eq_true]
  refine ⟨⟨?_, .inl ?_⟩, ?_⟩ <;> rw [List.all_eq_true]
  · intro d hd
    rw [List.all_eq_true]
    intro e he
    obtain ⟨a, b, rfl⟩ := k d hd
    obtain ⟨a2, b2, rfl⟩ := k e he
    simp [PySem.W.alike, PySem.W.alikeAll]
  · intro d hd
    obtain ⟨a, b, rfl⟩ := k d hd
    rfl
  · intro d hd
    obtain ⟨a, b, rfl⟩ := k d hd
    rfl
theorem asc_at {ns : List Int} {k : Int} (h0 : 1 ≤ k) (h1 : k ≤ ns.length) : ixD (.list ((ascI ns).map PyData.int)) (.int ((ns.length : Int) - k)) = some (optD (kthI ns k)) := by
  obtain ⟨j, hj⟩ := Int.eq_ofNat_of_zero_le (by omega : 0 ≤ k)
  subst hj
  have hl : ns.length - j < (ascI ns).length := by rw [(asc_perm ns).length_eq]; omega
  rw [show ((ns.length : Int) - (j : Int)) = ((ns.length - j : Nat) : Int) by omega]
  have e : kthI ns j = some (ascI ns)[ns.length - j] := by
    unfold kthI
    rw [if_pos h1, desc_rev, List.getElem?_reverse (by rw [(asc_perm _).length_eq]; omega), (asc_perm _).length_eq, show ns.length - 1 - ((j : Int) - 1).toNat = ns.length - j by omega, List.getElem?_eq_getElem hl]
  rw [e]
  refine L2.atI_nat ?_
  rw [List.getElem?_map, List.getElem?_eq_getElem hl]
  rfl
theorem flat_rows {es : List (D × D)} : ∀ ls : List D, (ls.map fun l => (rowI es l).map PyData.int).flatten = (allR es ls).map PyData.int
  | [] => rfl
  | l :: ls => by
    rw [List.map_cons, List.flatten_cons, flat_rows ls]
    unfold allR
    rw [List.map_cons, List.flatten_cons, List.map_append]
theorem rows_of (es : List (D × D)) (ls : List D) : (ls.map fun l => PyData.list ((rowI es l).map PyData.int)).map rowOf = (ls.map fun l => (rowI es l).map PyData.int).map some := by
  rw [List.map_map, List.map_map]
  rfl
/-- the law's own flattening of a lot's rows -/
theorem flat_lot {es : List (D × D)} {ls : List D} (h : RowsOf es ls) (hl : ls.length ≤ 1000) : pureFn g_flat [.list (ls.map fun l => PyData.list ((rowI es l).map PyData.int))] (· = .list ((allR es ls).map PyData.int)) := by
  have hlen := allR_len h
  have f := flat_fn (t := .list (ls.map fun l => PyData.list ((rowI es l).map PyData.int))) rfl (rows_of es ls) (by rw [flat_rows, List.length_map, sizeLine_eq]; omega)
  rw [flat_rows] at f
  exact f
def b_lvalue (r_lvalue : FM) : MS :=
  (mSq (mIfS (mTest (mOp2 eqD (mV (mOp2 ixD (mPk 1) (mV (mC (.int 0))))) (mV (mC (.str (Str.ofString "rank"))))))
    (mSq (mSet 2 (mCall sortedC [(mV (mFn [] g_flat [(mV (mLC [3] (mIt (mOp2 ixD (mPk 1) (mV (mC (.int 1))))) (setS 3) mYes (mCall listC [(mV (mOp2 ixD (mPk 0) (mPk 3)))])))]))]))
  (mRet (mIf (mTest (mOp2 geD (mV (mCall lenC [(mPk 2)])) (mV (mOp2 ixD (mPk 1) (mV (mC (.int 2))))))) (mOp2 ixD (mPk 2) (mV (mOp2 subD (mV (mCall lenC [(mPk 2)])) (mV (mOp2 ixD (mPk 1) (mV (mC (.int 2)))))))) (mC .none))))
    mNx)
  (mSq (mSet 4 (mCall sortedC [(mV (mLC [5] (mIt (mOp2 ixD (mPk 1) (mV (mC (.int 2))))) (setS 5) mYes (mFn [] g_key [(mV (mFn [] r_lvalue [(mPk 0), (mPk 5)]))])))]))
  (mSq (mSet 6 (mOp2 ixD (mPk 4) (mV (mOp2 subD (mV (mCall lenC [(mPk 4)])) (mV (mOp2 ixD (mPk 1) (mV (mC (.int 1)))))))))
  (mRet (mIf (mTest (mOp2 eqD (mV (mOp2 ixD (mPk 6) (mV (mC (.int 0))))) (mV (mC (.int 0))))) (mC .none) (mOp2 ixD (mPk 6) (mV (mC (.int 1)))))))))
def g_lvalue : Nat → FM
  | 0 => fm0
  | n + 1 => runF false 2 5 [] (b_lvalue (g_lvalue n))
theorem lvalue_fn {es : List (D × D)} {ss : List D} {w : Nat} (ht : TabFor es ss) (h2 : ss.length ≤ 1000) (hw : w ≤ 1000) : ∀ (n k : Nat) (d : D), FormOk ss w k d → k < n → pureFn (g_lvalue n) [.dict es, d] (· = optD (evalN es n d)) := by
  intro n
  induction n with
  | zero => intro k d _ hk; omega
  | succ n ih =>
    intro k d hf hk
    show gives (runF false 2 5 [] _) _ _
    refine run_gives rfl ?_
    unfold b_lvalue
    cases hf with
    | rank hr =>
      obtain ⟨ls, q, rfl, hl, hn, q1, q2⟩ := hr
      have hro := ht.rows hn
      repeat walk_at "m1"
      refine iteD (fun _ => ?_) (fun h => absurd rfl h)
      refine iSq (iSet (iCall (iLs (iV (iFn (iLs (iV (iLC (wIt ?_)))))))))
      repeat walk_at "m1"
      refine ⟨by rw [sizeLine_eq]; omega, rfl, fun ρ => ∃ s, ρ = [.dat (.dict es), .dat (.tuple [.str (Str.ofString "rank"), .tuple ls, .int q]), .un, s, .un, .un, .un], fun d r => r = .list ((rowI es d).map PyData.int), ⟨_, rfl⟩, ?_, ?_⟩
      · rintro d hd ρ ⟨s, rfl⟩
        refine ⟨_, rfl, ?_⟩
        repeat walk_at "m1"
        refine iOp2E rfl rfl (rowI_at hro hd).1 ?_
        repeat walk_at "m1"
        exact ⟨rfl, _, rfl⟩
      · rintro rs ρ hlr hpr ⟨s, rfl⟩
        have er := map_of (f := fun d => PyData.list ((rowI es d).map PyData.int)) hlr hpr
        subst er
        repeat walk_at "m1"
        refine iFnP rfl (flat_lot hro (by omega)) ?_
        rintro _ rfl
        repeat walk_at "m1"
        refine iCallE rfl (sortedC_of (canSort_ints int_I)) ?_
        rw [sort_asc]
        repeat walk_at "m1"
        rw [List.length_map, (asc_perm _).length_eq]
        refine iteD (fun h => ?_) (fun h => ?_)
        · repeat walk_at "m1"
          rw [List.length_map, (asc_perm _).length_eq]
          refine iOp2E rfl rfl (asc_at q1 h) ?_
          refine ⟨_, rfl, rfl, ?_⟩
          show _ = optD (evalN es (n + 1) (.tuple [.str sRank, .tuple ls, .int q]))
          rw [eval_rank]
        · repeat walk_at "m1"
          refine ⟨rfl, ?_⟩
          show _ = optD (evalN es (n + 1) (.tuple [.str sRank, .tuple ls, .int q]))
          rw [eval_rank]
          unfold kthI
          rw [if_neg h]
          rfl
    | @kth k q ps q0 q1 hpl hp =>
      repeat walk_at "m1"
      refine iteD (fun h => absurd h (by decide)) (fun _ => ?_)
      repeat walk_at "m1"
      refine iLC (wIt ?_)
      repeat walk_at "m1"
      refine ⟨by rw [sizeLine_eq]; omega, rfl, fun ρ => ∃ s, ρ = [.dat (.dict es), .dat (.tuple [.str (Str.ofString "kth"), .int q, .tuple ps]), .un, .un, .un, s, .un], fun d r => r = keyO (evalN es n d), ⟨_, rfl⟩, ?_, ?_⟩
      · rintro d hd ρ ⟨s, rfl⟩
        refine ⟨_, rfl, ?_⟩
        refine iFn (iLs (iV (iFn ?_)))
        repeat walk_at "m1"
        refine iFnP rfl (ih k d (hp d hd) (by omega)) ?_
        rintro _ rfl
        repeat walk_at "m1"
        refine iFnP rfl (key_fn _) ?_
        rintro _ rfl
        exact ⟨rfl, _, rfl⟩
      · rintro rs ρ hl hpr ⟨s, rfl⟩
        have er : rs = (ps.map (evalN es n)).map keyO := by
          rw [List.map_map]
          exact map_of (f := fun d => keyO (evalN es n d)) hl hpr
        subst er
        repeat walk_at "m1"
        refine iCallE rfl (sortedC_of (canSort_keys _)) ?_
        rw [keys_sort]
        repeat walk_at "m1"
        rw [List.length_map, List.length_mergeSort, List.length_map]
        have hq : q ≤ ((ps.map (evalN es n)).length : Int) := by rw [List.length_map]; exact q1
        have hx : ixD (.list (((ps.map (evalN es n)).mergeSort leO).map keyO)) (.int ((ps.length : Int) - q)) = some (keyO (kthI ((ps.map (evalN es n)).filterMap id) q)) := by
          have e := os_at (os := ps.map (evalN es n)) q0 hq
          obtain ⟨j, hj⟩ := Int.eq_ofNat_of_zero_le (by omega : 0 ≤ q)
          subst hj
          rw [Int.toNat_natCast, List.length_map] at e
          rw [show ((ps.length : Int) - (j : Int)) = ((ps.length - j : Nat) : Int) by omega]
          refine L2.atI_nat ?_
          rw [List.getElem?_map, e]
          rfl
        refine iOp2E rfl rfl hx ?_
        have fin : optD (evalN es (n + 1) (.tuple [.str sKth, .int q, .tuple ps])) = optD (kthI ((ps.map (evalN es n)).filterMap id) q) := by rw [eval_kth]
        show wp _ _ _
        generalize kthI ((ps.map (evalN es n)).filterMap id) q = o at fin
        cases o with
        | none =>
          repeat walk_at "m1"
          refine iOp2E rfl rfl (show ixD (keyO none) (.int 0) = some (.int 0) from rfl) ?_
          repeat walk_at "m1"
          refine iteD (fun _ => ?_) (fun h => absurd rfl h)
          repeat walk_at "m1"
          exact ⟨rfl, fin.symm⟩
        | some v =>
          repeat walk_at "m1"
          refine iOp2E rfl rfl (show ixD (keyO (some v)) (.int 0) = some (.int 1) from rfl) ?_
          repeat walk_at "m1"
          refine iteD (fun h => absurd h (by decide)) (fun _ => ?_)
          repeat walk_at "m1"
          refine iOp2E rfl rfl (show ixD (keyO (some v)) (.int 1) = some (.int v) from rfl) ?_
          exact ⟨_, rfl, rfl, fin.symm⟩
end CF
end
section
/-! CF, part z6: counts, sizes, the numbers that occur. -/
namespace CF
open PySem
local macro_rules | `(tactic| walk_at "hf") => `(tactic| (first
  | with_reducible exact eqD_int | with_reducible exact eqD_str | with_reducible exact neD_int | with_reducible exact addD_int | with_reducible exact addI_int | with_reducible exact subD_int | with_reducible exact geD_int | with_reducible exact gtD_int | with_reducible exact leD_int | with_reducible exact ltD_int | with_reducible exact modD_of (by decide) | with_reducible exact mulD_r (by decide) | with_reducible exact mulD_l (by decide) | with_reducible exact powD_of (by decide) | with_reducible exact ix0 | ((with_reducible show ixD (.list _) (.int _) = _); rfl) | ((with_reducible show ixD (.tuple _) (.int _) = _); rfl)
  | with_reducible exact intC_int | with_reducible exact lenC_list | with_reducible exact lenC_tuple | with_reducible exact tupleC_list | with_reducible exact listC_tuple | with_reducible exact listC_dict | with_reducible exact isN_none | with_reducible exact isN_int | with_reducible exact notN_none | with_reducible exact notN_int | with_reducible exact min2_int | with_reducible exact max2_int | with_reducible exact slD_list | with_reducible exact slD_tuple))
local macro_rules | `(tactic| walk_at "m1") => `(tactic| (first
  | with_reducible refine iSq ?_ | with_reducible refine iThn ?_ | with_reducible refine iIfS ?_ | with_reducible refine iSet ?_ | with_reducible refine iSetB ?_ | with_reducible refine iSetO ?_ | with_reducible refine iRet ?_ | with_reducible refine iNx ?_ | with_reducible refine iThnR ?_
  | with_reducible refine iTest ?_ | with_reducible refine iOp2 ?_ | ((with_reducible refine' iPk ?h1 ?h2); (case h1 => rfl)) | with_reducible refine iV ?_ | with_reducible refine iC ?_ | ((with_reducible refine' iVar ?h1 ?h2); (case h1 => rfl))
  | with_reducible refine iCall ?_ | with_reducible refine iLs0 ?_ | with_reducible refine iLs ?_ | with_reducible refine iSub ?_ | with_reducible refine iSl ?_ | with_reducible refine iSome ?_ | with_reducible refine iNone ?_ | with_reducible refine iLst ?_ | with_reducible refine iTup ?_ | with_reducible refine iDs0 ?_ | with_reducible refine iDs ?_
  | with_reducible refine iAnd ?_ | with_reducible refine iOr ?_ | with_reducible refine iNot ?_ | with_reducible refine iBl ?_ | with_reducible refine iIf ?_ | with_reducible refine iDrop ?_ | with_reducible refine iYes ?_ | with_reducible refine iPar ?_
  | ((with_reducible refine' iAugS ?h1 ?h2); (case h1 => exact ⟨_, rfl⟩))
  | ((with_reducible refine' iPutE ?h1 ?h2 ?h3); (case h1 => rfl); (case h2 => rfl))
  | ((with_reducible refine' iOp2E ?h1 ?h2 ?h3 ?h4); (case h1 => rfl); (case h2 => rfl); (case h3 => walk_at "hf"))
  | ((with_reducible refine' iCallE ?h1 ?h2 ?h3); (case h1 => rfl); (case h2 => walk_at "hf"))
  | with_reducible refine ⟨sz0, ?_⟩ | with_reducible refine ⟨sz1, ?_⟩ | with_reducible refine ⟨sz2, ?_⟩ | with_reducible refine ⟨sz3, ?_⟩ | with_reducible refine ⟨sz4, ?_⟩ | with_reducible refine ⟨sz5, ?_⟩
  | (with_reducible refine ⟨_, rfl, ?_⟩)
  | ((with_reducible refine' ⟨_, ?h1, ?h2⟩); (case h1 => walk_at "hf"))
  | ((with_reducible refine' ⟨⟨_, ?h1⟩, ?h2⟩); (case h1 => rfl))
  | ((with_reducible refine' ⟨_, _, ?h1, ?h2, ?h3⟩); (case h1 => rfl); (case h2 => walk_at "hf"))
  | ((with_reducible refine' ⟨_, _, ?h1, ?h2, ?h3⟩); (case h1 => rfl); (case h2 => rfl))))

def isGe (n : Int) : D → Bool
  | .int x => decide (n ≤ x)
  | _ => false
theorem fil_ge (n : Int) : ∀ ns : List Int, (((ns.map PyData.int).filter (isGe n)).map fun d => d) = (ns.filter fun x => decide (n ≤ x)).map PyData.int
  | [] => rfl
  | x :: ns => by
    have ih := fil_ge n ns
    rw [List.map_cons, List.filter_cons, List.filter_cons]
    by_cases h : n ≤ x
    · rw [if_pos (show isGe n (.int x) = true from decide_eq_true h), if_pos (decide_eq_true h), List.map_cons, List.map_cons, ih]
    · rw [if_neg (by show ¬ decide (n ≤ x) = true; simpa using h), if_neg (by simpa using h), ih]
def cntI (ns : List Int) (n : Int) : Int := ((ns.filter fun x => decide (n ≤ x)).length : Int)
theorem cnt_asc (ns : List Int) (n : Int) : cntI (ascI ns) n = cntI ns n := by
  unfold cntI
  rw [((asc_perm ns).filter _).length_eq]
def b_count_at_least : MS :=
  (mRet (mCall lenC [(mV (mLC [4] (mIt (mFn [] g_rows_in [(mPk 1), (mPk 2)])) (setS 4) (mTest (mOp2 geD (mPk 4) (mPk 3))) (mVar 4)))]))
def g_count_at_least : FM := runF false 4 1 [] b_count_at_least

theorem count_fn {es : List (D × D)} {house : D} {ls : List D} {n : Int} (h : RowsOf es ls) (hl : ls.length ≤ 1000) : pureFn g_count_at_least [house, .dict es, .tuple ls, .int n] (· = .int (cntI (allR es ls) n)) := by
  unfold g_count_at_least pureFn
  refine run_gives rfl ?_
  unfold b_count_at_least
  have hlen := allR_len h
  refine iRet (iCall (iLs (iV (iLCF (wIt (iFn ?_))))))
  repeat walk_at "m1"
  refine iFnP rfl (rows_fn (.inr rfl) h hl) ?_
  rintro _ rfl
  refine ⟨_, rfl, by rw [List.length_map, (asc_perm _).length_eq, sizeLine_eq]; omega, rfl, fun ρ => ∃ s, ρ = [.dat house, .dat (.dict es), .dat (.tuple ls), .dat (.int n), s], isGe n, fun d => d, ⟨_, rfl⟩, ?_, ?_⟩
  · rintro d hd ρ ⟨s, rfl⟩
    obtain ⟨x, _, rfl⟩ := List.mem_map.mp hd
    refine ⟨_, rfl, ?_⟩
    repeat walk_at "m1"
    refine ⟨rfl, ?_⟩
    split
    · repeat walk_at "m1"
      exact ⟨rfl, _, rfl⟩
    · exact ⟨_, rfl⟩
  · rintro ρ ⟨s, rfl⟩
    rw [fil_ge]
    repeat walk_at "m1"
    refine ⟨rfl, ?_⟩
    rw [List.length_map, ← cnt_asc]
    rfl
def b_lcount : MS :=
  (mRet (mCall lenC [(mV (mLC [3] (mIt (mFn [] g_flat [(mV (mLC [4] (mIt (mVar 1)) (setS 4) mYes (mCall listC [(mV (mOp2 ixD (mPk 0) (mPk 4)))])))])) (setS 3) (mTest (mOp2 geD (mPk 3) (mPk 2))) (mVar 3)))]))
def g_lcount : FM := runF false 3 2 [] b_lcount

theorem lcount_fn {es : List (D × D)} {ls : List D} {n : Int} (h : RowsOf es ls) (hl : ls.length ≤ 1000) : pureFn g_lcount [.dict es, .tuple ls, .int n] (· = .int (cntI (allR es ls) n)) := by
  unfold g_lcount pureFn
  refine run_gives rfl ?_
  unfold b_lcount
  have hlen := allR_len h
  refine iRet (iCall (iLs (iV (iLCF (wIt (iFn (iLs (iV (iLC (wIt ?_)))))))))) 
  repeat walk_at "m1"
  refine ⟨by rw [sizeLine_eq]; omega, rfl, fun ρ => ∃ s, ρ = [.dat (.dict es), .dat (.tuple ls), .dat (.int n), .un, s], fun d r => r = .list ((rowI es d).map PyData.int), ⟨_, rfl⟩, ?_, ?_⟩
  · rintro d hd ρ ⟨s, rfl⟩
    refine ⟨_, rfl, ?_⟩
    repeat walk_at "m1"
    refine iOp2E rfl rfl (rowI_at h hd).1 ?_
    repeat walk_at "m1"
    exact ⟨rfl, _, rfl⟩
  · rintro rs ρ hlr hpr ⟨s, rfl⟩
    have er := map_of (f := fun d => PyData.list ((rowI es d).map PyData.int)) hlr hpr
    subst er
    repeat walk_at "m1"
    refine iFnP rfl (flat_lot h hl) ?_
    rintro _ rfl
    refine ⟨_, rfl, by rw [List.length_map, sizeLine_eq]; omega, rfl, fun ρ => ∃ s, ρ = [.dat (.dict es), .dat (.tuple ls), .dat (.int n), s, .un], isGe n, fun d => d, ⟨_, rfl⟩, ?_, ?_⟩
    · rintro d hd ρ ⟨s, rfl⟩
      obtain ⟨x, _, rfl⟩ := List.mem_map.mp hd
      refine ⟨_, rfl, ?_⟩
      repeat walk_at "m1"
      refine ⟨rfl, ?_⟩
      split
      · repeat walk_at "m1"
        exact ⟨rfl, _, rfl⟩
      · exact ⟨_, rfl⟩
    · rintro ρ ⟨s, rfl⟩
      rw [fil_ge]
      repeat walk_at "m1"
      refine ⟨rfl, ?_⟩
      rw [List.length_map]
      rfl
/-! ### the numbers that occur -/
theorem sset_same {as bs : List Int} (h : ∀ k, k ∈ as ↔ k ∈ bs) : sset as = sset bs := pw_unique (pw_sset _) (pw_sset _) fun k => by rw [mem_sset, mem_sset, h]
theorem sset_le {ns pool : List Int} (h : ∀ n ∈ ns, n ∈ pool) : (sset ns).length ≤ pool.length :=
  (pw_nodup (pw_sset ns)).length_le_of_subset fun k hk => h k (mem_sset.mp hk)
theorem sortSet_of {ns : List Int} (h1 : ns.length + 1 < scanBound) (h2 : (sset ns).length < 64) : sortSetC [.list (ns.map PyData.int)] = some (.list ((sset ns).map PyData.int)) := by
  show (match intsD (ns.map PyData.int) with
    | some ns => if ns.length + 1 < scanBound ∧ (sset ns).length < 64 then some (PyData.list ((sset ns).map PyData.int)) else none
    | none => none) = _
  rw [intsD_map]
  exact if_pos ⟨h1, h2⟩
def keysOf (es : List (D × D)) : List D := es.map (·.1)
def b_lknown : MS :=
  (mRet (mCall sortSetC [(mV (mFn [] g_flat [(mV (mLC [1] (mIt (mVar 0)) (setS 1) mYes (mCall listC [(mV (mOp2 ixD (mPk 0) (mPk 1)))])))]))]))
def g_lknown : FM := runF false 1 1 [] b_lknown

theorem lknown_fn {es : List (D × D)} {pool : List Int} (h : RowsOf es (keysOf es)) (hl : es.length ≤ 100) (hp : ∀ n ∈ allR es (keysOf es), n ∈ pool) (hz : pool.length < 64) : pureFn g_lknown [.dict es] (· = .list ((sset (allR es (keysOf es))).map PyData.int)) := by
  unfold g_lknown pureFn
  refine run_gives rfl ?_
  unfold b_lknown
  have hkl : (keysOf es).length ≤ 100 := by unfold keysOf; rw [List.length_map]; exact hl
  have hlen := allR_len h
  have hb : scanBound = 4096 := rfl
  refine iRet (iCall (iLs (iV (iFn (iLs (iV (iLC (wIt ?_))))))))
  repeat walk_at "m1"
  refine ⟨by show (keysOf es).length ≤ sizeLine; rw [sizeLine_eq]; omega, rfl, fun ρ => ∃ s, ρ = [.dat (.dict es), s], fun d r => r = .list ((rowI es d).map PyData.int), ⟨_, rfl⟩, ?_, ?_⟩
  · rintro d hd ρ ⟨s, rfl⟩
    refine ⟨_, rfl, ?_⟩
    repeat walk_at "m1"
    refine iOp2E rfl rfl (rowI_at h hd).1 ?_
    repeat walk_at "m1"
    exact ⟨rfl, _, rfl⟩
  · rintro rs ρ hlr hpr ⟨s, rfl⟩
    have er := map_of (f := fun d => PyData.list ((rowI es d).map PyData.int)) hlr hpr
    subst er
    repeat walk_at "m1"
    refine iFnP rfl (flat_lot (ls := keysOf es) h (by omega)) ?_
    rintro _ rfl
    repeat walk_at "m1"
    refine iCallE rfl (sortSet_of (ns := allR es (keysOf es)) (by omega) (Nat.lt_of_le_of_lt (sset_le hp) hz)) ?_
    exact ⟨_, rfl, rfl, rfl⟩
def b_all_numbers : MS :=
  (mRetF [] (mCall sortSetC [(mV (mFn [] g_rows_in [(mPk 0), (mV (mCall listC [(mPk 0)]))]))]))
def g_all_numbers : FM := runF true 1 0 [] b_all_numbers

theorem allnum_fn {es : List (D × D)} {pool : List Int} (h : RowsOf es (keysOf es)) (hl : es.length ≤ 100) (hp : ∀ n ∈ allR es (keysOf es), n ∈ pool) (hz : pool.length < 64) : pureFn g_all_numbers [.dict es] (· = .list ((sset (allR es (keysOf es))).map PyData.int)) := by
  unfold g_all_numbers pureFn
  refine run_gives rfl ?_
  unfold b_all_numbers
  have hkl : (keysOf es).length ≤ 100 := by unfold keysOf; rw [List.length_map]; exact hl
  have hlen := allR_len h
  have hb : scanBound = 4096 := rfl
  have hs : sset (ascI (allR es (keysOf es))) = sset (allR es (keysOf es)) := sset_same fun k => (asc_perm _).mem_iff
  refine iRetF (iCall (iLs (iV (iFn ?_))))
  repeat walk_at "m1"
  refine iFnP rfl (rows_fn (ls := keysOf es) (.inl rfl) h (by omega)) ?_
  rintro _ rfl
  repeat walk_at "m1"
  refine iCallE rfl (sortSet_of (by rw [(asc_perm _).length_eq]; omega) (by rw [hs]; exact Nat.lt_of_le_of_lt (sset_le hp) hz)) ?_
  rw [hs]
  exact ⟨rfl, _, rfl, rfl, rfl⟩
/-! ### sizes -/
def sizeD (es : List (D × D)) : D → D
  | .tuple (nm :: _) => .int (rowI es nm).length
  | _ => .none
def b_sizes_of : MS :=
  (mRet (mCall tupleC [(mV (mLC [2] (mIt (mVar 0)) (setS 2) mYes (mCall lenC [(mV (mOp2 ixD (mPk 1) (mV (mOp2 ixD (mPk 2) (mV (mC (.int 0)))))))])))]))
def g_sizes_of : FM := runF false 2 1 [] b_sizes_of
theorem sizes_fn {es : List (D × D)} {ss : List D} (hs : ∀ s ∈ ss, SortOk s) (ht : TabFor es ss) (hl : ss.length ≤ 1000) : pureFn g_sizes_of [.tuple ss, .dict es] (· = .tuple (ss.map (sizeD es))) := by
  unfold g_sizes_of pureFn
  refine run_gives rfl ?_
  unfold b_sizes_of
  refine iRet (iCall (iLs (iV (iLC (wIt ?_)))))
  repeat walk_at "m1"
  refine ⟨by rw [sizeLine_eq]; omega, rfl, fun ρ => ∃ s, ρ = [.dat (.tuple ss), .dat (.dict es), s], fun d r => r = sizeD es d, ⟨_, rfl⟩, ?_, ?_⟩
  · rintro d hd ρ ⟨s, rfl⟩
    refine ⟨_, rfl, ?_⟩
    obtain ⟨nm, lo, hi, rfl, hn, _⟩ := hs d hd
    have hr := rowI_at (ht.rows (ls := [nm]) fun l hl => by rw [List.mem_singleton.mp hl]; exact ⟨hn, _, _, hd⟩) (List.mem_cons_self ..)
    repeat walk_at "m1"
    refine iOp2E rfl rfl hr.1 ?_
    repeat walk_at "m1"
    refine ⟨?_, _, rfl⟩
    rw [List.length_map]
    rfl
  · rintro rs ρ hlr hpr ⟨s, rfl⟩
    have er := map_of (f := sizeD es) hlr hpr
    subst er
    repeat walk_at "m1"
    exact ⟨rfl, rfl⟩
def b_lsizes : MS :=
  (mRet (mCall tupleC [(mV (mLC [2] (mIt (mVar 0)) (setS 2) mYes (mCall lenC [(mV (mOp2 ixD (mPk 1) (mV (mOp2 ixD (mPk 2) (mV (mC (.int 0)))))))])))]))
def g_lsizes : FM := runF false 2 1 [] b_lsizes
theorem lsizes_fn {es : List (D × D)} {ss : List D} (hs : ∀ s ∈ ss, SortOk s) (ht : TabFor es ss) (hl : ss.length ≤ 1000) : pureFn g_lsizes [.tuple ss, .dict es] (· = .tuple (ss.map (sizeD es))) := by
  unfold g_lsizes pureFn
  refine run_gives rfl ?_
  unfold b_lsizes
  refine iRet (iCall (iLs (iV (iLC (wIt ?_)))))
  repeat walk_at "m1"
  refine ⟨by rw [sizeLine_eq]; omega, rfl, fun ρ => ∃ s, ρ = [.dat (.tuple ss), .dat (.dict es), s], fun d r => r = sizeD es d, ⟨_, rfl⟩, ?_, ?_⟩
  · rintro d hd ρ ⟨s, rfl⟩
    refine ⟨_, rfl, ?_⟩
    obtain ⟨nm, lo, hi, rfl, hn, _⟩ := hs d hd
    have hr := rowI_at (ht.rows (ls := [nm]) fun l hl => by rw [List.mem_singleton.mp hl]; exact ⟨hn, _, _, hd⟩) (List.mem_cons_self ..)
    repeat walk_at "m1"
    refine iOp2E rfl rfl hr.1 ?_
    repeat walk_at "m1"
    refine ⟨?_, _, rfl⟩
    rw [List.length_map]
    rfl
  · rintro rs ρ hlr hpr ⟨s, rfl⟩
    have er := map_of (f := sizeD es) hlr hpr
    subst er
    repeat walk_at "m1"
    exact ⟨rfl, rfl⟩
end CF
end
section
/-! CG, part 1: sum, all, any, max, min of a list; in. -/
namespace CF
open PySem PySem.Spec PyProof.Rows L2
/-! ### one list -/
def boolsD : List D → Option (List Bool)
  | [] => some []
  | .bool b :: ds => (boolsD ds).map (b :: ·)
  | _ :: _ => none
theorem boolsD_of : ∀ {ds : List D} {bs : List Bool}, boolsD ds = some bs → ds = bs.map PyData.bool
  | [], bs, h => by cases h; rfl
  | d :: ds, bs, h => by
    cases d with
    | bool b =>
      obtain ⟨r, h1, rfl⟩ := Option.map_eq_some_iff.mp h
      rw [List.map_cons, boolsD_of h1]
    | _ => cases h
theorem boolsD_map : ∀ bs : List Bool, boolsD (bs.map PyData.bool) = some bs
  | [] => rfl
  | b :: bs => by
    show (boolsD (bs.map PyData.bool)).map (b :: ·) = _
    rw [boolsD_map bs]; rfl
theorem rxl_bools {K : PySem.W.Frag} {W : Addr → Prop} {H : Hp} : ∀ {vs : List V} {bs : List Bool}, RxL K W H vs (bs.map PyData.bool) → vs = bs.map V.bl
  | _, [], h => by cases h; rfl
  | _, b :: bs, h => by
    cases h with
    | cons h1 h2 => cases h1; rw [List.map_cons, rxl_bools h2]
def sumC : List D → Option D
  | [.list ds] => (intsD ds).map fun ns => .int ns.sum
  | _ => none
def allC : List D → Option D
  | [.list ds] => (boolsD ds).map fun bs => .bool (bs.all id)
  | _ => none
def anyC : List D → Option D
  | [.list ds] => (boolsD ds).map fun bs => .bool (bs.any id)
  | _ => none
def maxI : List Int → Option Int
  | [] => none
  | n :: ns => some (ns.foldl (fun a b => if a < b then b else a) n)
def minI : List Int → Option Int
  | [] => none
  | n :: ns => some (ns.foldl (fun a b => if b < a then b else a) n)
theorem foldmax_spec : ∀ (ns : List Int) (n : Int), (ns.foldl (fun a b => if a < b then b else a) n ∈ n :: ns) ∧ ∀ y ∈ n :: ns, y ≤ ns.foldl (fun a b => if a < b then b else a) n
  | [], n => ⟨List.mem_cons_self .., fun y hy => by rw [List.mem_singleton.mp hy]; exact Int.le_refl _⟩
  | b :: ns, n => by
    have ih := foldmax_spec ns (if n < b then b else n)
    rw [List.foldl_cons]
    refine ⟨?_, fun y hy => ?_⟩
    · rcases List.mem_cons.mp ih.1 with h | h
      · rw [h]; split <;> simp
      · exact List.mem_cons_of_mem _ (List.mem_cons_of_mem _ h)
    · have h0 := ih.2 _ (List.mem_cons_self ..)
      have h1 := fun y hy => ih.2 y (List.mem_cons_of_mem _ hy)
      generalize List.foldl _ _ ns = m at h0 h1 ⊢
      rcases List.mem_cons.mp hy with e | hy
      · subst e; split at h0 <;> omega
      · rcases List.mem_cons.mp hy with e | hy
        · subst e; split at h0 <;> omega
        · exact h1 y hy
theorem foldmin_spec : ∀ (ns : List Int) (n : Int), (ns.foldl (fun a b => if b < a then b else a) n ∈ n :: ns) ∧ ∀ y ∈ n :: ns, ns.foldl (fun a b => if b < a then b else a) n ≤ y
  | [], n => ⟨List.mem_cons_self .., fun y hy => by rw [List.mem_singleton.mp hy]; exact Int.le_refl _⟩
  | b :: ns, n => by
    have ih := foldmin_spec ns (if b < n then b else n)
    rw [List.foldl_cons]
    refine ⟨?_, fun y hy => ?_⟩
    · rcases List.mem_cons.mp ih.1 with h | h
      · rw [h]; split <;> simp
      · exact List.mem_cons_of_mem _ (List.mem_cons_of_mem _ h)
    · have h0 := ih.2 _ (List.mem_cons_self ..)
      have h1 := fun y hy => ih.2 y (List.mem_cons_of_mem _ hy)
      generalize List.foldl _ _ ns = m at h0 h1 ⊢
      rcases List.mem_cons.mp hy with e | hy
      · subst e; split at h0 <;> omega
      · rcases List.mem_cons.mp hy with e | hy
        · subst e; split at h0 <;> omega
        · exact h1 y hy
theorem maxI_of {ns : List Int} {m : Int} (h1 : m ∈ ns) (h2 : ∀ y ∈ ns, y ≤ m) : maxI ns = some m := by
  cases ns with
  | nil => nomatch h1
  | cons n ns =>
    have s := foldmax_spec ns n
    show some _ = _
    congr 1
    have a := h2 _ s.1
    have b := s.2 m h1
    omega
theorem minI_of {ns : List Int} {m : Int} (h1 : m ∈ ns) (h2 : ∀ y ∈ ns, m ≤ y) : minI ns = some m := by
  cases ns with
  | nil => nomatch h1
  | cons n ns =>
    have s := foldmin_spec ns n
    show some _ = _
    congr 1
    have a := h2 _ s.1
    have b := s.2 m h1
    omega
def maxLC : List D → Option D
  | [.list ds] => (intsD ds).bind fun ns => (maxI ns).map PyData.int
  | _ => none
def minLC : List D → Option D
  | [.list ds] => (intsD ds).bind fun ns => (minI ns).map PyData.int
  | _ => none
section
variable {X : Cx}
theorem cr_sumD (hc : X.calm = true) : CallR X (.builtin "sum") (rC X.K sumC) := by
  intro pins s σ H xs us Q I rx ⟨W, ds, r, tr, hx, hf, q⟩
  unfold sumC at hf
  split at hf
  · rename_i ds
    obtain ⟨ns, h1, rfl⟩ := Option.map_eq_some_iff.mp hf
    obtain ⟨x, rfl, h⟩ := hx.one
    obtain ⟨a, vs, rfl, sa, la⟩ := h.list
    have := intsD_of h1
    subst this
    have := rxl_ints la
    subst this
    exact cr_sum hc pins s σ H _ us Q I rx ⟨a, ns, rfl, .inl sa, q _ _ (Same.refl H) (.int _)⟩
  · cases hf
theorem cr_allD (hc : X.calm = true) : CallR X (.builtin "all") (rC X.K allC) := by
  intro pins s σ H xs us Q I rx ⟨W, ds, r, tr, hx, hf, q⟩
  unfold allC at hf
  split at hf
  · rename_i ds
    obtain ⟨ns, h1, rfl⟩ := Option.map_eq_some_iff.mp hf
    obtain ⟨x, rfl, h⟩ := hx.one
    obtain ⟨a, vs, rfl, sa, la⟩ := h.list
    have := boolsD_of h1
    subst this
    have := rxl_bools la
    subst this
    exact cr_all hc pins s σ H _ us Q I rx ⟨a, ns, rfl, .inl sa, q _ _ (Same.refl H) (.bl _)⟩
  · cases hf
theorem cr_anyD (hc : X.calm = true) : CallR X (.builtin "any") (rC X.K anyC) := by
  intro pins s σ H xs us Q I rx ⟨W, ds, r, tr, hx, hf, q⟩
  unfold anyC at hf
  split at hf
  · rename_i ds
    obtain ⟨ns, h1, rfl⟩ := Option.map_eq_some_iff.mp hf
    obtain ⟨x, rfl, h⟩ := hx.one
    obtain ⟨a, vs, rfl, sa, la⟩ := h.list
    have := boolsD_of h1
    subst this
    have := rxl_bools la
    subst this
    exact cr_any hc pins s σ H _ us Q I rx ⟨a, ns, rfl, .inl sa, q _ _ (Same.refl H) (.bl _)⟩
  · cases hf
theorem cr_maxLD (hc : X.calm = true) : CallR X (.builtin "max") (rC X.K maxLC) := by
  intro pins s σ H xs us Q I rx ⟨W, ds, r, tr, hx, hf, q⟩
  unfold maxLC at hf
  split at hf
  · rename_i ds
    obtain ⟨ns, h1, h2⟩ := Option.bind_eq_some_iff.mp hf
    obtain ⟨m, h3, rfl⟩ := Option.map_eq_some_iff.mp h2
    obtain ⟨x, rfl, h⟩ := hx.one
    obtain ⟨a, vs, rfl, sa, la⟩ := h.list
    have := intsD_of h1
    subst this
    have := rxl_ints la
    subst this
    refine cr_max hc pins s σ H _ us Q I rx ⟨a, ns, rfl, .inl sa, ?_, fun m' a1 a2 => ?_⟩
    · cases ns with
      | nil => cases h3
      | cons _ _ => simp
    · rw [maxI_of a1 a2] at h3
      cases h3
      exact q _ _ (Same.refl H) (.int _)
  · cases hf
theorem cr_minLD (hc : X.calm = true) : CallR X (.builtin "min") (rC X.K minLC) := by
  intro pins s σ H xs us Q I rx ⟨W, ds, r, tr, hx, hf, q⟩
  unfold minLC at hf
  split at hf
  · rename_i ds
    obtain ⟨ns, h1, h2⟩ := Option.bind_eq_some_iff.mp hf
    obtain ⟨m, h3, rfl⟩ := Option.map_eq_some_iff.mp h2
    obtain ⟨x, rfl, h⟩ := hx.one
    obtain ⟨a, vs, rfl, sa, la⟩ := h.list
    have := intsD_of h1
    subst this
    have := rxl_ints la
    subst this
    refine cr_min hc pins s σ H _ us Q I rx ⟨a, ns, rfl, .inl sa, ?_, fun m' a1 a2 => ?_⟩
    · cases ns with
      | nil => cases h3
      | cons _ _ => simp
    · rw [minI_of a1 a2] at h3
      cases h3
      exact q _ _ (Same.refl H) (.int _)
  · cases hf
end
theorem hu65 {X : Cx} {k : Nat} (hr : Room k X.A) : X.A.units + 65 < cLine := by have := hr.un; omega
/-! ### in -/
def inB : D → D → Option Bool
  | x, .list ds => if SeqAt.shaped x && SeqAt.shaped (.list ds) then some (ds.any fun z => PyData.eqv z x) else none
  | x, .tuple ds => if SeqAt.shaped x && SeqAt.shaped (.tuple ds) then some (ds.any fun z => PyData.eqv z x) else none
  | x, .dict es => if isKey x then some (lookD es x).isSome else none
  | _, _ => none
def inD (x y : D) : Option D := (inB x y).map PyData.bool
def ninD (x y : D) : Option D := (inB x y).map fun b => .bool (!b)
section
variable {X : Cx}
theorem dict_g {K : PySem.W.Frag} {W : Addr → Prop} {H : Hp} {a : Addr} {kvs : List (Key × V)} {es : List (D × D)} {x : V} {k : Key} (sa : L2.Rd H a (.dK kvs)) (la : RxK K W H kvs es) (ey : x = kV k) : ∃ o, DGet H a x o ∧ o.isSome = (lookD es (keyD k)).isSome := by
  refine ⟨valV kvs k, .inl ⟨kvs, k, sa, ey, rfl⟩, ?_⟩
  cases h : lookD es (keyD k) with
  | none => rw [look_none la h]; rfl
  | some d =>
    obtain ⟨v, hv, _⟩ := look_val la h
    rw [hv]
    rfl
theorem op_inDD (hu : X.A.units + 65 < cLine) : OpR X (compareOp .In) (rD X.K inD) := by
  intro pins s σ H x y v u Q I rx ry ⟨W, d, e, r, tr, hx, hy, hf, q⟩
  obtain ⟨b, hb, rfl⟩ := Option.map_eq_some_iff.mp hf
  cases e with
  | list ds =>
    simp only [inB] at hb
    split at hb
    · rename_i hz
      rw [Bool.and_eq_true] at hz
      cases hb
      obtain ⟨as, r1⟩ := hx.reads I rx
      obtain ⟨bs, r2⟩ := hy.reads I ry
      exact SeqAt.in_list_reads r2 r1 (SeqAt.canLay_of_shaped hz.2) (SeqAt.canLay_of_shaped hz.1) (room_in_shaped hz.1 hu) ⟨.bl _, H, I, rfl, q _ _ (Same.refl H) (.bl _)⟩
    · cases hb
  | tuple ds =>
    simp only [inB] at hb
    split at hb
    · rename_i hz
      rw [Bool.and_eq_true] at hz
      cases hb
      obtain ⟨as, r1⟩ := hx.reads I rx
      obtain ⟨bs, r2⟩ := hy.reads I ry
      exact SeqAt.in_tuple_reads r2 r1 (SeqAt.canLay_of_shaped hz.2) (SeqAt.canLay_of_shaped hz.1) (room_in_shaped hz.1 hu) ⟨.bl _, H, I, rfl, q _ _ (Same.refl H) (.bl _)⟩
    · cases hb
  | dict es =>
    simp only [inB] at hb
    split at hb
    · rename_i hk
      cases hb
      obtain ⟨k, rfl⟩ := isKey_of hk
      obtain ⟨a, kvs, rfl, sa, la⟩ := hy.dict
      obtain ⟨o, g, eo⟩ := dict_g sa la (Rx.key hx)
      cases ry
      refine d_in (by omega) I g rx fun s3 I3 => ⟨.bl _, H, I3, rfl, ?_⟩
      rw [eo]
      exact q _ _ (Same.refl H) (.bl _)
    · cases hb
  | _ => cases hb
theorem op_ninDD (hu : X.A.units + 65 < cLine) : OpR X (compareOp .NotIn) (rD X.K ninD) := by
  intro pins s σ H x y v u Q I rx ry ⟨W, d, e, r, tr, hx, hy, hf, q⟩
  obtain ⟨b, hb, rfl⟩ := Option.map_eq_some_iff.mp hf
  cases e with
  | list ds =>
    simp only [inB] at hb
    split at hb
    · rename_i hz
      rw [Bool.and_eq_true] at hz
      cases hb
      obtain ⟨as, r1⟩ := hx.reads I rx
      obtain ⟨bs, r2⟩ := hy.reads I ry
      exact SeqAt.notIn_list_reads r2 r1 (SeqAt.canLay_of_shaped hz.2) (SeqAt.canLay_of_shaped hz.1) (room_in_shaped hz.1 hu) ⟨.bl _, H, I, rfl, q _ _ (Same.refl H) (.bl _)⟩
    · cases hb
  | tuple ds =>
    simp only [inB] at hb
    split at hb
    · rename_i hz
      rw [Bool.and_eq_true] at hz
      cases hb
      obtain ⟨as, r1⟩ := hx.reads I rx
      obtain ⟨bs, r2⟩ := hy.reads I ry
      exact SeqAt.notIn_tuple_reads r2 r1 (SeqAt.canLay_of_shaped hz.2) (SeqAt.canLay_of_shaped hz.1) (room_in_shaped hz.1 hu) ⟨.bl _, H, I, rfl, q _ _ (Same.refl H) (.bl _)⟩
    · cases hb
  | dict es =>
    simp only [inB] at hb
    split at hb
    · rename_i hk
      cases hb
      obtain ⟨k, rfl⟩ := isKey_of hk
      obtain ⟨a, kvs, rfl, sa, la⟩ := hy.dict
      obtain ⟨o, g, eo⟩ := dict_g sa la (Rx.key hx)
      cases ry
      refine d_notIn (by omega) I g rx fun s3 I3 => ⟨.bl _, H, I3, rfl, ?_⟩
      rw [eo]
      exact q _ _ (Same.refl H) (.bl _)
    · cases hb
  | _ => cases hb
end
end CF
end
section
/-! CG, part 2: zip of lists and tuples, mixed, two or three. -/
namespace CF
open PySem PySem.Spec PyProof.Rows L2
/-- what is walked: a list (true), a tuple (false) -/
def SqB (K : PySem.W.Frag) (H : Hp) (a : Addr) (xs : List V) : Bool → Prop
  | true => SqL K H a xs
  | false => SqT K H a xs
def atB (h : Heap) (a : Addr) (items : Array Value) : Bool → Prop
  | true => h.IsList a items
  | false => h.IsTuple a items
def itB (h : Heap) (it a : Addr) (i : Nat) : Bool → Prop
  | true => h.IsListIter it a i
  | false => h.IsTupleIter it a i
def oB (a : Addr) : Bool → Obj
  | true => { cls := .type "list_iterator", data := .fields #[.ref a, .int 0 0] }
  | false => { cls := .type "tuple_iterator", data := .fields #[.ref a, .int 0 0] }
theorem begB (a : Addr) (items : Array Value) (b : Bool) : Begins (.ref a) (oB a b) fun h => atB h a items b := by
  cases b
  · exact begins_tuple a items
  · exact begins_list a items
theorem drawB {prog : Program} {w : World} {A : Around} (hh : A.handled = none) (it a : Addr) (hne : a ≠ it) (items : Array Value) (b : Bool) :
    Draws prog w A it [it, a] items.size (fun i v => items[i]? = some v) (fun i h => itB h it a i b ∧ atB h a items b) := by
  cases b
  · exact .tuple hh it a hne items
  · exact .list hh it a hne items
theorem itB_at {h h' : Heap} {it a : Addr} {i : Nat} {b : Bool} (x : itB h it a i b) (e : ∀ o, h.get? it = some o → h'.get? it = some o) : itB h' it a i b := by
  cases b
  · exact Heap.IsTupleIter.at x e
  · exact Heap.IsListIter.at x e
theorem itB_obj {h : Heap} {it a : Addr} {i : Nat} {b : Bool} (x : itB h it a i b) : ∃ o, h.get? it = some o ∧ ∀ v, o.data ≠ .cell v := by
  cases b <;> (obtain ⟨o, e, _, d⟩ := x; exact ⟨o, e, fun v q => by rw [d] at q; cases q⟩)
theorem itB_new {h : Heap} {it a : Addr} {b : Bool} (e : h.get? it = some (oB a b)) : itB h it a 0 b := by
  cases b <;> exact ⟨_, e, rfl, rfl⟩
section
variable {X : Cx} {pins : List (Addr × Obj)} {σ : L2.St} {H : Hp} {s : Shared}
theorem sqB_rd (I : Inv X pins σ H s) {a : Addr} {xs : List V} {b : Bool} (h : SqB X.K H a xs b) : ∃ its : List Value, Vals xs its ∧ atB s.heap a its.toArray b ∧ a < s.heap.objs.size := by
  cases b
  · obtain ⟨its, rv, p, _⟩ := I.tuple h
    refine ⟨its, rv, p, ?_⟩
    obtain ⟨o, ho, _⟩ := id p
    exact Heap.lt_size ho
  · obtain ⟨its, rv, p, _⟩ := I.list h
    exact ⟨its, rv, p.isList, p.lt⟩
theorem sqB_inj (I : Inv X pins σ H s) {a : Addr} {xs ys : List V} {b : Bool} (h : SqB X.K H a xs b) (h' : SqB X.K H a ys b) : xs = ys := by
  cases b
  · exact I.tuple_inj h h'
  · exact I.list_inj h h'
end
/-- the sequences at a and b as they stand at each turn, the items in new pairs -/
def ItzG (K : PySem.W.Frag) (k1 k2 : Bool) (a b : Addr) : It :=
  ⟨fun i H => ∃ (xs ys : List V) (x y : V), SqB K H a xs k1 ∧ SqB K H b ys k2 ∧ xs[i]? = some x ∧ ys[i]? = some y,
    fun i H v H' => ∃ T x y, v = .ref T ∧ H T = none ∧ H' = upd H T (.tup [x, y]) ∧ (∀ xs, SqB K H a xs k1 → xs[i]? = some x) ∧ ∀ ys, SqB K H b ys k2 → ys[i]? = some y,
    fun i H => ∃ xs ys : List V, SqB K H a xs k1 ∧ SqB K H b ys k2 ∧ i ≤ xs.length ∧ i ≤ ys.length ∧ (i = xs.length ∨ i = ys.length)⟩
section
variable {P : Program} {w : World} {K : PySem.W.Frag} {elts : List Expr} {kk : Nat} {tpos : Pos} {k1 k2 : Bool} {a b z TI TO i1 i2 : Addr}
/-- the zip's own cells, two iterators at place i -/
def zst2 (k1 k2 : Bool) (a b z TI TO i1 i2 : Addr) (i : Nat) (h : Heap) : Prop := IsZip h z TI TO .none ∧ IsTupOf2 h TI (.ref i1) (.ref i2) ∧ (∃ x y, IsTupOf2 h TO x y) ∧ itB h i1 a i k1 ∧ itB h i2 b i k2
theorem turn_zipG (S : ZipSep2 z TI TO i1 i2 [i1, a] [i2, b]) (n1 : a ≠ i1) (n2 : b ≠ i2) : Turn P w K (.Tuple elts kk tpos) (ItzG K k1 k2 a b) [z, TI, TO, i1, i2] z (zst2 k1 k2 a b z TI TO i1 i2) := by
  have cs : ∀ {c : Addr}, c ∈ [z, TI, TO, i1, i2] → c = z ∨ c = TI ∨ c = TO ∨ c = i1 ∨ c = i2 := fun hc => by simpa using hc
  have inz : z ∈ [z, TI, TO, i1, i2] := by simp
  have inI : TI ∈ [z, TI, TO, i1, i2] := by simp
  have inO : TO ∈ [z, TI, TO, i1, i2] := by simp
  have in1 : i1 ∈ [z, TI, TO, i1, i2] := by simp
  have in2 : i2 ∈ [z, TI, TO, i1, i2] := by simp
  have oth : ∀ {c : Addr}, c ∉ [z, TI, TO, i1, i2] → c ≠ z ∧ c ≠ TO ∧ c ≠ i1 ∧ c ≠ i2 := fun hc => ⟨fun q => hc (q ▸ inz), fun q => hc (q ▸ inO), fun q => hc (q ▸ in1), fun q => hc (q ▸ in2)⟩
  refine ⟨inz, fun i h st c hc => ?_, fun i h h' st k => ?_, ?_, ?_, fun A i s Q E st h => wpAny_pyIter_zip st.1 h⟩
  · obtain ⟨hz, hTI, ⟨x, y, hTO⟩, h1, h2⟩ := st
    rcases cs hc with q | q | q | q | q <;> rw [q]
    · exact ⟨_, hz, fun v q => nomatch q⟩
    · exact ⟨_, hTI, fun v q => nomatch q⟩
    · exact ⟨_, hTO, fun v q => nomatch q⟩
    · exact itB_obj h1
    · exact itB_obj h2
  · obtain ⟨hz, hTI, ⟨x, y, hTO⟩, h1, h2⟩ := st
    exact ⟨k z inz _ hz, k TI inI _ hTI, ⟨x, y, k TO inO _ hTO⟩, itB_at h1 fun o q => k i1 in1 o q, itB_at h2 fun o q => k i2 in2 o q⟩
  · intro X hP hw hK hc i pins s σ H E I hf st hg
    subst hP hw hK
    obtain ⟨hz, hTI, ⟨x0, y0, hTO⟩, h1, h2⟩ := st
    obtain ⟨xs, ys, x, y, hqx, hqy, hx, hy⟩ := hg
    obtain ⟨its, rv, p, _⟩ := sqB_rd I hqx
    obtain ⟨its2, rv2, p2, _⟩ := sqB_rd I hqy
    obtain ⟨u, hu, ru⟩ := rv.get hx
    obtain ⟨u2, hu2, ru2⟩ := rv2.get hy
    have l1 : i < its.toArray.size := by
      obtain ⟨q, _⟩ := List.getElem?_eq_some_iff.mp hu
      simpa using q
    have l2 : i < its2.toArray.size := by
      obtain ⟨q, _⟩ := List.getElem?_eq_some_iff.mp hu2
      simpa using q
    have hzl : z < s.heap.objs.size := Heap.lt_size hz
    have hh : X.A.in1.handled = none := I.ok.hd hc
    refine wpAny_pyNext_zipD2_item S (drawB hh i1 a n1 its.toArray k1) (drawB hh i2 b n2 its2.toArray k2) hz hTI hTO ⟨h1, p⟩ ⟨h2, p2⟩ l1 l2 fun v1 v2 h' tk y1 y2 hz' hTO' st1 st2 hT hsz hk => ?_
    have e1 : v1 = u := by
      have y1 : its.toArray[i]? = some v1 := y1
      have : its.toArray[i]? = some u := by simpa using hu
      rw [y1] at this; exact Option.some.inj this
    have e2 : v2 = u2 := by
      have y2 : its2.toArray[i]? = some v2 := y2
      have : its2.toArray[i]? = some u2 := by simpa using hu2
      rw [y2] at this; exact Option.some.inj this
    subst e1 e2
    refine ⟨_, rfl, wpAny_letOwnedTupleGo_zip (s := { s with heap := h', toks := tk }) hz' fun h'' z'' sb => ?_⟩
    have hT2 : h''.get? s.heap.objs.size = some { cls := .type "tuple", data := .seq #[v1, v2] } := (sb.2 _ (Nat.ne_of_gt hzl)).trans hT
    have new : ObjOk X.prog X.w (upd H s.heap.objs.size (.tup [x, y])) h'' s.heap.objs.size (.tup [x, y]) := ⟨by show 2 ≤ sizeLine; decide, [v1, v2], .cons ru (.cons ru2 .nil), ⟨_, hT2, rfl, _, rfl⟩⟩
    have I1 : Inv X pins σ (upd H s.heap.objs.size (.tup [x, y])) { s with heap := h'', toks := tk } :=
      I.turnedNew (t' := tk) (ch := [z, TI, TO, i1, i2]) (fun c o hb q => (sb.2 c (oth hb).1).trans (hk c o (oth hb).1 (oth hb).2.1 (oth hb).2.2.1 (oth hb).2.2.2 q)) hf (Nat.le_refl _) new
    refine ⟨.ref s.heap.objs.size, _, I1, rfl, ⟨_, x, y, rfl, I.hok.fresh (Nat.le_refl _), rfl, fun l hl => by rw [sqB_inj I hl hqx]; exact hx, fun l hl => by rw [sqB_inj I hl hqy]; exact hy⟩, ⟨z'', ?_, ⟨v1, v2, ?_⟩, ?_, ?_⟩, fun c hcm => ?_⟩
    · exact (sb.2 _ S.TIz).trans (hk _ _ S.TIz S.TITO S.TIi1 S.TIi2 hTI)
    · exact (sb.2 _ S.TOz).trans hTO'
    · exact itB_at st1.1 fun o q => (sb.2 _ S.zi1.symm).trans q
    · exact itB_at st2.1 fun o q => (sb.2 _ S.zi2.symm).trans q
    · have hlt : c < s.heap.objs.size := by
        rcases cs hcm with q | q | q | q | q <;> rw [q]
        · exact hzl
        · exact Heap.lt_size hTI
        · exact Heap.lt_size hTO
        · obtain ⟨_, e1, _⟩ := itB_obj h1; exact Heap.lt_size e1
        · obtain ⟨_, e2, _⟩ := itB_obj h2; exact Heap.lt_size e2
      rw [upd_ne (Nat.ne_of_lt hlt)]
      exact (hf c hcm).1
  · intro X hP hw hK hc i pins s σ H E I hf st hg
    subst hP hw hK
    obtain ⟨hz, hTI, ⟨x0, y0, hTO⟩, h1, h2⟩ := st
    obtain ⟨xs, ys, hqx, hqy, le1, le2, hend⟩ := hg
    obtain ⟨its, rv, p, _⟩ := sqB_rd I hqx
    obtain ⟨its2, rv2, p2, _⟩ := sqB_rd I hqy
    have l1 := rv.length
    have l2 := rv2.length
    have hh : X.A.in1.handled = none := I.ok.hd hc
    have s1 : its.toArray.size = its.length := by simp
    have s2 : its2.toArray.size = its2.length := by simp
    exact wpAny_pyNext_zipD2_end S (drawB hh i1 a n1 its.toArray k1) (drawB hh i2 b n2 its2.toArray k2) hz hTI hTO ⟨h1, p⟩ ⟨h2, p2⟩ (by omega) (by omega) (by omega) fun h' tk hk => ⟨rfl, I.turnedL (t' := tk) (ch := [z, TI, TO, i1, i2]) (fun c o hb q =>
      hk c o (oth hb).1 (oth hb).2.1 (oth hb).2.2.1 (oth hb).2.2.2 q) hf⟩
end
def iZipB (K : PySem.W.Frag) (ta : TA) : TI := fun σ H R => ta σ H fun vs H1 => ∃ a b xs ys k1 k2, vs = [.ref a, .ref b] ∧ SqB K H1 a xs k1 ∧ SqB K H1 b ys k2 ∧ R (ItzG K k1 k2 a b) H1
theorem pi_zipB {X : Cx} {e e2 : Expr} {ta : TA} {p pos tpos : Pos} {elts : List Expr} {kk : Nat} (hg : Gl X "zip") (hm : X.mg "zip" = none) (ha : PA X [e, e2] ta)
    (hs : starEach [e, e2] X.env = (false, eval e X.env) :: starEach [e2] X.env := by rfl) (hpl : (backTo pos (starEach [e2] X.env)).any (·.1) = false := by rfl) :
    PI X (.Tuple elts kk tpos) (.Call (.Name "zip" p) [e, e2] [] pos) (iZipB X.K ta) := by
  refine ⟨fun pins s σ H R I h => ?_⟩
  refine Call_ (ld_blt I hg hm PyProof.Rows.boot_zip (PyProof.Rows.callWith_type1 (thn (ha.run pos pins s σ H _ I h) fun us s1 ⟨vs, H1, I1, r1, q1⟩ => ?_) hs hpl))
  obtain ⟨a, b, xs, ys, k1, k2, ex, hqx, hqy, q⟩ := q1
  subst ex
  cases r1 with
  | cons r rr =>
    cases rr with
    | cons r' rr =>
      cases rr
      cases r
      cases r'
      obtain ⟨its, rv, p1, la⟩ := sqB_rd I1 hqx
      obtain ⟨its2, rv2, p2, lb⟩ := sqB_rd I1 hqy
      refine zip_begins2 (begB a its.toArray k1) (begB b its2.toArray k2) p1 p2 fun h' hz hTI hTO g1 g2 hsz hk => wpAny_pyIter_zip hz ?_
      have I2 : Inv X pins σ H1 { s1 with heap := h' } := I1.kept (t' := s1.toks) hk
      have S : ZipSep2 (s1.heap.objs.size + 4) (s1.heap.objs.size + 2) (s1.heap.objs.size + 3) s1.heap.objs.size (s1.heap.objs.size + 1) [s1.heap.objs.size, a] [s1.heap.objs.size + 1, b] :=
        zip_sep2 (fun c hc => by rw [List.mem_singleton.mp hc]; exact la) (fun c hc => by rw [List.mem_singleton.mp hc]; exact lb)
      refine ⟨s1.heap.objs.size + 4, [s1.heap.objs.size + 4, s1.heap.objs.size + 2, s1.heap.objs.size + 3, s1.heap.objs.size, s1.heap.objs.size + 1], _, _, H1, rfl, I2, turn_zipG S (Nat.ne_of_lt la) (Nat.ne_of_lt (Nat.lt_succ_of_lt lb)), ⟨hz, hTI, ⟨_, _, hTO⟩, itB_new g1, itB_new g2⟩, fun c hcm => ?_, q⟩
      have hle : s1.heap.objs.size ≤ c := by
        have e' : c = s1.heap.objs.size + 4 ∨ c = s1.heap.objs.size + 2 ∨ c = s1.heap.objs.size + 3 ∨ c = s1.heap.objs.size ∨ c = s1.heap.objs.size + 1 := by simpa using hcm
        rcases e' with z | z | z | z | z <;> rw [z] <;> first | exact Nat.le_add_right _ _ | exact Nat.le_refl _
      exact I1.fpOk hle (I1.hok.fresh hle)
/-! ### over trees -/
def seqD : D → Option (Bool × List D)
  | .list xs => some (true, xs)
  | .tuple xs => some (false, xs)
  | _ => none
def mZp (m m2 : M D) : M (List D) := do
  let d ← m
  let e ← m2
  lift ((seqD d).bind fun x => (seqD e).map fun y => zipD x.2 y.2)
section
variable {K : PySem.W.Frag} {W O : Addr → Prop} {H0 : Hp}
theorem sq_rx {v : V} {d : D} {k : Bool} {ds : List D} (h : Rx K W H0 v d) (e : seqD d = some (k, ds)) : ∃ a xs, v = .ref a ∧ SqB K H0 a xs k ∧ RxL K W H0 xs ds ∧ ∀ H, KeepO W O H0 H → SqB K H a xs k := by
  unfold seqD at e
  split at e
  · cases e
    cases h with
    | lst n hr hl => exact ⟨_, _, rfl, .inl hr, hl, fun H k => sqL_keep k n hr⟩
  · cases e
    obtain ⟨a, xs, rfl, hx, _⟩ := h.tuple
    obtain ⟨ys, h1, l, k⟩ := sqT_rx (O := O) h hx
    exact ⟨a, ys, rfl, h1, l, k⟩
  · cases e
theorem src_zipB {a b : Addr} {k1 k2 : Bool} {xs ys : List V} {ds es : List D} (la : RxL K W H0 xs ds) (ka : ∀ H, KeepO W O H0 H → SqB K H a xs k1) (lb : RxL K W H0 ys es) (kb : ∀ H, KeepO W O H0 H → SqB K H b ys k2) : Src K (ItzG K k1 k2 a b) W O H0 (zipD ds es) := by
  have l1 := la.length
  have l2 := lb.length
  have lz : (zipD ds es).length = min ds.length es.length := by simp [zipD]
  refine ⟨fun i H k hi => ?_, fun i H v H' dd k e y => ?_, fun H k => ?_⟩
  · exact ⟨xs, ys, xs[i]'(by omega), ys[i]'(by omega), ka H k, kb H k, List.getElem?_eq_getElem _, List.getElem?_eq_getElem _⟩
  · obtain ⟨T, x, y, rfl, hT, rfl, y1, y2⟩ := y
    obtain ⟨d1, d2, e1, e2, rfl⟩ := zipD_at e
    have r1 := la.same_at (y1 xs (ka _ k)) e1
    have r2 := lb.same_at (y2 ys (kb _ k)) e2
    exact ⟨Same.upd hT, fun W' w1 w2 => tup_at hT w2 (.cons ((r1.later k w1).same (Same.upd hT)) (.cons ((r2.later k w1).same (Same.upd hT)) .nil))⟩
  · exact ⟨xs, ys, ka H k, kb H k, by omega, by omega, by omega⟩
end
section
variable {X : Cx} {Ew : WX} {e e2 : Expr} {md me : M D} {pos p tpos : Pos} {elts : List Expr} {kk : Nat}
theorem iZp (hm : X.mg "zip" = none) (ha : PE X e (tD X.K Ew md)) (hb : PE X e2 (tD X.K Ew me)) (hg : Gl X "zip" := by rfl) (hs : starEach [e, e2] X.env = (false, eval e X.env) :: starEach [e2] X.env := by rfl) (hs2 : starEach [e2] X.env = (false, eval e2 X.env) :: starEach [] X.env := by rfl) (hpl : (backTo pos (starEach [e2] X.env)).any (·.1) = false := by rfl) :
    PI X (.Tuple elts kk tpos) (.Call (.Name "zip" p) [e, e2] [] pos) (tI X.K Ew (mZp md me)) := by
  refine PI.imp (pi_zipB (ta := tCons (tD X.K Ew md) (tCons (tD X.K Ew me) L2.tNil)) hg hm (pa_cons ha (pa_cons hb pa_nil hs2) hs) hs hpl) fun σ H R ⟨W, O, ρ, R0, h⟩ => ⟨W, O, ρ, R0, (Out.bind h).mono fun d ρ1 H1 k1 R1 h1 v rv => ⟨W, O, ρ1, R1, (Out.bind h1).mono fun d2 ρ2 H2 k2 R2 h2 v2 rv2 => ?_⟩⟩
  obtain ⟨r, hf, q⟩ := Out.lift h2 R2
  have rv := rv.keepO R1 k2
  obtain ⟨⟨b1, ds⟩, e1, hf⟩ := Option.bind_eq_some_iff.mp hf
  obtain ⟨⟨b2, es⟩, e2, rfl⟩ := Option.map_eq_some_iff.mp hf
  obtain ⟨a, xs, rfl, hx, lx, kx⟩ := sq_rx (O := O) rv e1
  obtain ⟨b, ys, rfl, hy, ly, ky⟩ := sq_rx (O := O) rv2 e2
  exact ⟨_, _, _, _, _, _, rfl, hx, hy, q H2 KeepO.refl R2 _ (src_zipB lx kx ly ky)⟩
end
end CF
end
section
/-! CG3: dict comprehensions, dict(pairs), index, update, displays. -/
namespace CF
open PySem PySem.Spec PyProof.Rows L2

def dcGo (vs : List Nat) (b : D → M Unit) (t : M Bool) (ek ev : M D) : List D → List (D × D) → M (List (D × D))
  | [], acc => pure acc
  | d :: ds, acc => do
    (fun ρ => some (.ok () (wipeS ρ vs)) : M Unit)
    b d
    let c ← t
    if c = true then do
      let k ← ek
      let y ← ev
      if isKey k = true ∧ acc.length < sizeLine then dcGo vs b t ek ev ds (CF.putL acc k y) else fun _ => none
    else dcGo vs b t ek ev ds acc
def mDC (vs : List Nat) (src : M (List D)) (b : D → M Unit) (t : M Bool) (ek ev : M D) : M D := do
  let ds ← src
  fun ρ => if vs.all fun v => !isOwn (ρ.getD v .un) then
    match dcGo vs b t ek ev ds [] ρ with
    | some (.ok r ρ') => some (.ok (.dict r) (backS ρ ρ' vs))
    | _ => none
    else none
section
variable {K : PySem.W.Frag} {Ew : WX} {σ : L2.St} {H : Hp} {Q : VK} {vs is : List Nat} {src : M (List D)} {b : D → M Unit} {t : M Bool} {ek ev : M D}
def dcTurn (K : PySem.W.Frag) (b : D → M Unit) (t : M Bool) (ek ev : M D) (vs is : List Nat) (σ : L2.St) (Q : VK) : It → Hp → Prop := fun J H1 => ∀ D, H1 D = none → ∃ W : Nat → Nat → Hp → Prop, (∃ m, W 0 m (upd H1 D (.dK []))) ∧ ∀ i m H, W i m H →
  (J.stop i H ∧ Q (.ref D) H) ∨ (J.go i H ∧ ∃ Nx : Hp → Prop, (∀ H', Nx H' → ∃ m', m' < m ∧ W (i + 1) m' H') ∧ ∀ x H', J.yld i H x H' → tB K is b x (L2.wipe σ vs) H' fun σ2 H2 => L2.wipe σ2 vs = L2.wipe σ vs ∧ tT K WF t σ2 H2 fun b H3 =>
    if b = true then tD K WF ek σ2 H3 fun y H4 => tD K WF ev σ2 H4 fun z H5 => ∃ kvs k, y = kV k ∧ H5 D = some (.dK kvs) ∧ kvs.length < sizeLine ∧ Nx (upd H5 D (.dK (putK kvs k z))) else Nx H3)
/-- from the walk's start on -/
theorem dc_from {W O : Addr → Prop} {ρ1 ρe : List Slot} {H1 : Hp} {ds : List D} {r : List (D × D)} {J : It} (hs : (is.all fun i => vs.contains i) = true) (R1 : SRel K W O H1 σ ρ1) (hJ : Src K J W O H1 ds) (hv : (vs.all fun v => !isOwn (ρ1.getD v .un)) = true) (hr : dcGo vs b t ek ev ds [] ρ1 = some (.ok r ρe))
    (q : ∀ H', KeepO W O H1 H' → SRel K W O H' σ (backS ρ1 ρe vs) → ∀ a, SRel K (plus W a) (plus O a) H' σ (backS ρ1 ρe vs) → H1 a = none → OwnAt K (plus W a) H' a (.dict r) → Q (.ref a) H') : dcTurn K b t ek ev vs is σ Q J H1 := by
  have hs' : ∀ i ∈ is, i ∈ vs := fun i hi => by simpa using List.all_eq_true.mp hs i hi
  intro D nD
  have OD : ¬ O D := fun z => by
    obtain ⟨o, e⟩ := R1.tr D (R1.ow D z)
    rw [nD] at e
    cases e
  have s1 : Same H1 (upd H1 D (.dK [])) := Same.upd nD
  have RD : SRel K (plus W D) O (upd H1 D (.dK [])) σ ρ1 := by
    have z := R1.plus (H' := upd H1 D (.dK [])) nD upd_same s1
    refine ⟨z.len, fun a o => .inl (R1.ow a o), z.tr, fun i x s e1 e2 => ?_, z.ne⟩
    have y := z.sl i x s e1 e2
    have y0 := R1.sl i x s e1 e2
    cases s with
    | un => trivial
    | dat d => exact y
    | own d =>
      obtain ⟨a, e, o, _⟩ := y0
      obtain ⟨a', e', _, o'⟩ := y
      rw [e] at e'
      cases e'
      exact ⟨a, e, o, o'⟩
  -- from the walk's start to a later heap
  have back : ∀ {Hn : Hp}, KeepO (plus W D) (plus O D) (upd H1 D (.dK [])) Hn → KeepO W O H1 Hn := fun {Hn} k => by
    refine ⟨fun a o e w n => ?_, fun a u e n => ?_, fun a o u e n => ?_, fun a xs e n => ?_⟩
    · have na : a ≠ D := fun z => by rw [z, nD] at e; cases e
      exact k.own a o (s1 a o e) (.inl w) fun z => z.elim n na
    · obtain ⟨o, eo⟩ := rd_some e
      have na : a ≠ D := fun z => by rw [z, nD] at eo; cases eo
      exact k.rest a u (rd_same s1 e) fun z => z.elim n na
    · have na : a ≠ D := fun z => by rw [z, nD] at e; cases e
      exact k.frz a o u (s1 _ _ e) fun z => z.elim n na
    · have na : a ≠ D := fun z => by rw [z, nD] at e; cases e
      exact k.lst a xs (s1 _ _ e) fun z => z.elim n na
  refine ⟨fun i m Hi => m = ds.length - i ∧ i ≤ ds.length ∧ ∃ acc accV ρi, KeepO (plus W D) (plus O D) (upd H1 D (.dK [])) Hi ∧ SRel K (plus W D) O Hi (L2.wipe σ vs) (wipeS ρi vs) ∧ Hi D = some (.dK accV) ∧ RxK K (plus W D) Hi accV acc ∧
    dcGo vs b t ek ev (ds.drop i) acc ρi = some (.ok r ρe), ⟨ds.length, rfl, Nat.zero_le _, [], [], ρ1, KeepO.refl, RD.wipe2 vs, upd_same, .nil, hr⟩, ?_⟩
  rintro i m Hi ⟨rfl, hi, acc, accV, ρi, ki, Ri, eD, la, go⟩
  have kd : ∀ (d : PyData) (v : V), Rx K W H1 v d → Rx K (plus W D) Hi v d := fun d v h => Rx.go (W' := plus W D) (fun a u e n => ki.rest a u e n) (fun _ _ _ z => z) d v ((Rx.plus h nD).same s1)
  by_cases hlt : i < ds.length
  · refine .inr ⟨hJ.go i Hi (back ki) hlt, fun Hn => ∃ acc accV ρn, KeepO (plus W D) (plus O D) (upd H1 D (.dK [])) Hn ∧ SRel K (plus W D) O Hn (L2.wipe σ vs) (wipeS ρn vs) ∧ Hn D = some (.dK accV) ∧ RxK K (plus W D) Hn accV acc ∧
      dcGo vs b t ek ev (ds.drop (i + 1)) acc ρn = some (.ok r ρe), fun Hn ⟨a1, a2, a3, a4, a5, a6, a7, a8⟩ => ⟨ds.length - (i + 1), by omega, rfl, hlt, a1, a2, a3, a4, a5, a6, a7, a8⟩, fun x H' y => ?_⟩
    have ed : ds[i]? = some ds[i] := List.getElem?_eq_getElem hlt
    rw [List.drop_eq_getElem_cons hlt] at go
    generalize ds[i] = d at ed go
    obtain ⟨sy, ry⟩ := hJ.yld i Hi x H' d (back ki) ed y
    have RW : ∀ a, plus W D a → W a ∨ H1 a = none := fun a z => z.elim .inl fun q => .inr (by rw [q]; exact nD)
    have rx := ry (plus W D) RW Ri.tr
    obtain ⟨_, _, g1, go⟩ := ok_bind (m := (fun ρ => some (.ok () (wipeS ρ vs)) : M Unit)) go
    cases g1
    obtain ⟨_, ρb, g2, go⟩ := ok_bind go
    obtain ⟨c, ρc, g3, go⟩ := ok_bind go
    refine ⟨plus W D, O, wipeS ρi vs, d, ρb, Ri.same sy, rx, g2, fun σ2 H2 k2 R2 l2 o2 => ?_⟩
    have w2 := wipe_same hs' l2 o2
    refine ⟨w2, plus W D, O, ρb, R2, ?_⟩
    rw [g3]
    intro H3 k3 R3
    have ks : KeepO (plus W D) O Hi H3 := (KeepO.of sy).trans (k2.trans k3)
    have e3 : H3 D = some (.dK accV) := ks.own D _ eD (.inr rfl) OD
    have l3 := la.keepO ks
    cases c with
    | false =>
      exact ⟨acc, accV, ρc, ki.trans (ks.moreO fun _ z => .inl z), by rw [← w2]; exact R3.wipe2 vs, e3, l3, go⟩
    | true =>
      simp only [if_true] at go ⊢
      obtain ⟨kd', ρk, g4, go⟩ := ok_bind go
      obtain ⟨yd, ρd, g5, go⟩ := ok_bind go
      refine ⟨plus W D, O, ρc, R3, ?_⟩
      rw [g4]
      intro H4 k4 R4 yk ryk
      refine ⟨plus W D, O, ρk, R4, ?_⟩
      rw [g5]
      intro H5 k5 R5 yv ryv
      split at go
      case isFalse => cases go
      rename_i hz
      have e5 : H5 D = some (.dK accV) := (k4.trans k5).own D _ e3 (.inr rfl) OD
      have l5 := l3.keepO (k4.trans k5)
      obtain ⟨kk, rfl⟩ := isKey_of hz.1
      refine ⟨accV, kk, Rx.key (.inl ryk), e5, by rw [rxk_len l5]; exact hz.2, CF.putL acc (keyD kk) yd, putK accV kk yv, ρd, (ki.trans ((ks.trans (k4.trans k5)).moreO fun _ z => .inl z)).trans (keepW (.inr rfl) (.inr rfl)), ?_, upd_same, ?_, go⟩
      · rw [← w2]; exact (R5.updW (.inr rfl) OD).wipe2 vs
      · refine RxK.go (fun a u h na => ?_) (fun _ _ _ z => z) _ _ (l5.put ryv)
        exact (keepW (O := plus O D) (.inr rfl) (.inr rfl)).rest a u h na
  · have e : i = ds.length := by omega
    subst e
    rw [List.drop_length] at go
    cases go
    refine .inl ⟨hJ.stop Hi (back ki), ?_⟩
    have Rb := R1.back hv kd Ri
    exact q Hi (back ki) (Rb.less (fun _ z => .inl z) R1.ow fun i a d e1 e2 => by
      obtain ⟨a', e', o, _⟩ := Rb.own e1
      rw [e2] at e'
      cases e'
      exact o) D (Rb.moreO (fun _ z => .inl z) fun a z => z.elim (fun o => .inl (R1.ow a o)) .inr) nD ⟨accV, eD, la⟩
theorem t_dc (hs : (is.all fun i => vs.contains i) = true) (h : tF K Ew (mDC vs src b t ek ev) σ H Q) : tDc (tI K Ew src) (tB K is b) (tT K WF t) (tD K WF ek) (tD K WF ev) vs σ H Q := by
  obtain ⟨W, O, ρ, R, h⟩ := h
  refine ⟨W, O, ρ, R, (Out.bind h).mono fun ds ρ1 H1 k1 R1 h1 J hJ => ?_⟩
  split at h1
  case isFalse => exact h1.elim
  rename_i hv
  generalize hr : dcGo vs b t ek ev ds [] ρ1 = r at h1
  match r, h1 with
  | some (.ok r ρe), q => exact dc_from hs R1 hJ hv hr fun H' k R' a Ra na oa => q H' k R' a Ra (R1.dom k1 na) oa
end
section
variable {X : Cx} {Ew : WX} {e kx vx tg : Expr} {ifs : List Expr} {scope : Scope} {pos : Pos} {src : M (List D)} {b : D → M Unit} {t : M Bool} {mk mv : M D}
theorem fDC {vs is : List Nat} {own : List (Str × Nat)} (hc : X.calm = true) (hN : X.N.Nodup) (hs : (is.all fun i => vs.contains i) = true) (ho : own.map (·.2) = vs) (hi : PI X tg e (tI X.K Ew src)) (ok : BlkOk X.N X.env.scope scope own)
    (hg : ∀ (s : Shared) (H : Hp) (C : Addr) (cl : List (Str × Addr)) (fp : List Addr), PG (X.blk s H scope (compEnvC scope cl C X.env) fp) tg (tB X.K is b)) (ht : ∀ (s : Shared) (H : Hp) (C : Addr) (cl : List (Str × Addr)) (fp : List Addr), PTs (X.blk s H scope (compEnvC scope cl C X.env) fp) ifs (tT X.K WF t))
    (hk : ∀ (s : Shared) (H : Hp) (C : Addr) (cl : List (Str × Addr)) (fp : List Addr), PE (X.blk s H scope (compEnvC scope cl C X.env) fp) kx (tD X.K WF mk))
    (he : ∀ (s : Shared) (H : Hp) (C : Addr) (cl : List (Str × Addr)) (fp : List Addr), PE (X.blk s H scope (compEnvC scope cl C X.env) fp) vx (tD X.K WF mv)) (hf : ∀ x, foldedSetIterable e X.env x = pure x := by intro _; rfl) :
    PE X (.DictComp kx vx [⟨tg, e, ifs, 0⟩] scope pos) (tF X.K Ew (mDC vs src b t mk mv)) := by
  subst ho
  exact PE.imp (pe_dc hc hN hi ok hg ht hk he hf) fun _ _ _ h => t_dc hs h
end

/-! ### x = {..} on one line -/
section
variable {X : Cx} {pins : List (Addr × Obj)}
theorem sw_trueD {kx vx : Expr} {gs : List Comprehension} {scope : Scope} {pos py : Pos} {y : Str} {l : Nat} {env : Env} (hk : env.scope.kind = .function) (hy : env.scope.names.lookup y = some .local) (hl : (py.line == pos.line) = true)
    (ha : (scope.names.any fun (n, k) => n == y && (k == .local || k == .cell)) = false) : swapsWith (.DictComp kx vx gs scope pos) (some (.Name y py)) l env = pure true := by
  have ky : env.kindOf y = some .local := hy
  have hb : env.blockKind = .function := by unfold Env.blockKind; rw [hk]; rfl
  unfold swapsWith
  simp only [hb, ky, ha, Expr.pos, hl]
  rfl
theorem ps_setDc {i : Nat} {y : Str} {py : Pos} {kx vx tg iter : Expr} {ifs : List Expr} {scope : Scope} {own : List (Str × Nat)} {pos spos : Pos} {wi : TI} {g : TG} {tt : TT} {tk tv : TE} (hc : X.calm = true) (hN : X.N.Nodup) (hy : X.N[i]? = some y) (hyl : X.env.scope.names.lookup y = some .local)
    (hsw : swapsWith (.DictComp kx vx [⟨tg, iter, ifs, 0⟩] scope pos) (some (.Name y py)) spos.line X.env = pure true) (hi : PI X tg iter wi) (ok : BlkOk X.N X.env.scope scope own)
    (hg : ∀ (s : Shared) (H : Hp) (C : Addr) (cl : List (Str × Addr)) (fp : List Addr), PG (X.blk s H scope (compEnvC scope cl C X.env) fp) tg g) (ht : ∀ (s : Shared) (H : Hp) (C : Addr) (cl : List (Str × Addr)) (fp : List Addr), PTs (X.blk s H scope (compEnvC scope cl C X.env) fp) ifs tt)
    (hk : ∀ (s : Shared) (H : Hp) (C : Addr) (cl : List (Str × Addr)) (fp : List Addr), PE (X.blk s H scope (compEnvC scope cl C X.env) fp) kx tk)
    (he : ∀ (s : Shared) (H : Hp) (C : Addr) (cl : List (Str × Addr)) (fp : List Addr), PE (X.blk s H scope (compEnvC scope cl C X.env) fp) vx tv) (hs : ∀ x, foldedSetIterable iter X.env x = pure x := by intro _; rfl) :
    PS X (.Assign [.Name y py] (.DictComp kx vx [⟨tg, iter, ifs, 0⟩] scope pos) spos) (tAsg (tDc wi g tt tk tv (own.map (·.2))) (gName i)) := by
  refine ⟨fun pins s σ H D I h => ?_⟩
  rw [exec_Assign_Name_used _ _ _ _ hsw]
  refine wpAny_bind (wpAny_standAt (wpAny_bind ?_))
  show wpAny _ X.A (do let _ ← comprehension (.DictComp kx vx [⟨tg, iter, ifs, 0⟩] scope pos) scope X.env (firstIterPos [⟨tg, iter, ifs, 0⟩] pos) newDict false (eval iter X.env) (some (assign (.Name y py) X.env))) _ _ s
  have h : tDc wi g tt tk tv (own.map (·.2)) σ H (fun x H1 => gName i x σ H1 D.nx) := h
  refine wpAny_bind (thn (dc_core (Qf := fun _ s' => SP X pins D .next s') hc hN I hi ok hg ht hk he hs h fun L C s' m H' I' q hn f => ?_) fun _ s' hq => wpAny_pure (wpAny_pure hq))
  show wpAny _ _ (assign (.Name y py) X.env (.ref L)) _ _ _
  refine wpAny_assign_Name (store_ok2 (v := V.ref L) I' hN hy (.inl hyl) rfl (fun s2 I2 ⟨a, sb, ha⟩ => ?_) (.inr hyl))
  obtain ⟨f0, f1, f2, f3, f4, f5⟩ := f
  have haC : C ≠ a := by
    rcases ha with z | z
    · rw [z]; exact f1
    · exact fun e => f4 y a z e.symm
  refine ⟨m, hn.sameBut sb haC, fun h3 sb3 => ?_⟩
  exact ⟨_, H', I2.turned (t' := s2.toks) (fun b o hb e => (sb3.2 b hb).trans e) f0 f1 f3 f4 f5, q⟩
end
section
variable {X : Cx} {Ew : WX} {e kx vx tg : Expr} {ifs : List Expr} {scope : Scope} {pos : Pos} {src : M (List D)} {b : D → M Unit} {t : M Bool} {mk mv : M D}
theorem sSetDc (i : Nat) {fr : Bool} {F : List Nat} {x : Str} {py spos : Pos} {vs is : List Nat} {own : List (Str × Nat)} (hF : F.contains i = false) (hc : X.calm = true) (hN : X.N.Nodup) (hs : (is.all fun i => vs.contains i) = true) (ho : own.map (·.2) = vs) (hi : PI X tg e (tI X.K Ew src)) (ok : BlkOk X.N X.env.scope scope own)
    (hg : ∀ (s : Shared) (H : Hp) (C : Addr) (cl : List (Str × Addr)) (fp : List Addr), PG (X.blk s H scope (compEnvC scope cl C X.env) fp) tg (tB X.K is b)) (ht : ∀ (s : Shared) (H : Hp) (C : Addr) (cl : List (Str × Addr)) (fp : List Addr), PTs (X.blk s H scope (compEnvC scope cl C X.env) fp) ifs (tT X.K WF t))
    (hkx : ∀ (s : Shared) (H : Hp) (C : Addr) (cl : List (Str × Addr)) (fp : List Addr), PE (X.blk s H scope (compEnvC scope cl C X.env) fp) kx (tD X.K WF mk))
    (he : ∀ (s : Shared) (H : Hp) (C : Addr) (cl : List (Str × Addr)) (fp : List Addr), PE (X.blk s H scope (compEnvC scope cl C X.env) fp) vx (tD X.K WF mv)) (hy : X.N[i]? = some x := by rfl) (hyl : X.env.scope.names.lookup x = some .local := by rfl)
    (hk : X.env.scope.kind = .function := by rfl) (hl : (py.line == pos.line) = true := by rfl) (ha : (scope.names.any fun (n, k) => n == x && (k == .local || k == .cell)) = false := by rfl)
    (hf : ∀ x, foldedSetIterable e X.env x = pure x := by intro _; rfl) : PS X (.Assign [.Name x py] (.DictComp kx vx [⟨tg, e, ifs, 0⟩] scope pos) spos) (tS fr F X.K Ew (mSet i (mDC vs src b t mk mv))) := by
  subst ho
  refine PS.imp (ps_setDc hc hN hy hyl (sw_trueD hk hyl hl ha) hi ok hg ht hkx he hf) fun D σ H h => t_dc hs ?_
  obtain ⟨W, O, ρ, R, h⟩ := t_set hF h
  refine ⟨W, O, ρ, R, h.mono fun d ρ' H' k R' q a R2 n o => q (.ref a) ((o.less fun _ z => .inl z).rx fun z => ?_)⟩
  obtain ⟨o', e'⟩ := R.tr a z
  rw [n] at e'
  cases e'
theorem sSetODc (i : Nat) {fr : Bool} {F : List Nat} {x : Str} {py spos : Pos} {vs is : List Nat} {own : List (Str × Nat)} (hF : F.contains i = false) (hc : X.calm = true) (hN : X.N.Nodup) (hs : (is.all fun i => vs.contains i) = true) (ho : own.map (·.2) = vs) (hi : PI X tg e (tI X.K Ew src)) (ok : BlkOk X.N X.env.scope scope own)
    (hg : ∀ (s : Shared) (H : Hp) (C : Addr) (cl : List (Str × Addr)) (fp : List Addr), PG (X.blk s H scope (compEnvC scope cl C X.env) fp) tg (tB X.K is b)) (ht : ∀ (s : Shared) (H : Hp) (C : Addr) (cl : List (Str × Addr)) (fp : List Addr), PTs (X.blk s H scope (compEnvC scope cl C X.env) fp) ifs (tT X.K WF t))
    (hkx : ∀ (s : Shared) (H : Hp) (C : Addr) (cl : List (Str × Addr)) (fp : List Addr), PE (X.blk s H scope (compEnvC scope cl C X.env) fp) kx (tD X.K WF mk))
    (he : ∀ (s : Shared) (H : Hp) (C : Addr) (cl : List (Str × Addr)) (fp : List Addr), PE (X.blk s H scope (compEnvC scope cl C X.env) fp) vx (tD X.K WF mv)) (hy : X.N[i]? = some x := by rfl) (hyl : X.env.scope.names.lookup x = some .local := by rfl)
    (hk : X.env.scope.kind = .function := by rfl) (hl : (py.line == pos.line) = true := by rfl) (ha : (scope.names.any fun (n, k) => n == x && (k == .local || k == .cell)) = false := by rfl)
    (hf : ∀ x, foldedSetIterable e X.env x = pure x := by intro _; rfl) : PS X (.Assign [.Name x py] (.DictComp kx vx [⟨tg, e, ifs, 0⟩] scope pos) spos) (tS fr F X.K Ew (mSetO i (mDC vs src b t mk mv))) := by
  subst ho
  exact PS.imp (ps_setDc hc hN hy hyl (sw_trueD hk hyl hl ha) hi ok hg ht hkx he hf) fun D σ H h => t_dc hs (t_setO hF h)
end

/-! ### dict(pairs) -/
def pairsD : List D → Option (List (D × D))
  | [] => some []
  | .tuple [k, v] :: t => if isKey k then (pairsD t).map ((k, v) :: ·) else none
  | _ :: _ => none
def mergeE (es more : List (D × D)) : List (D × D) := more.foldl (fun acc p => CF.putL acc p.1 p.2) es
def dictPC : List D → Option D
  | [.list ds] => (pairsD ds).map fun es => .dict (mergeE [] es)
  | _ => none
section
variable {K : PySem.W.Frag} {W : Addr → Prop} {H : Hp}
theorem RxK.merge : ∀ {more : List (Key × V)} {es2 : List (D × D)} {kvs : List (Key × V)} {es : List (D × D)}, RxK K W H kvs es → RxK K W H more es2 → RxK K W H (mergeK kvs more) (mergeE es es2)
  | _, [], _, _, h, g => by cases g; exact h
  | _, (_, _) :: es2, _, _, h, g => by
    cases g with
    | @cons k v _ d _ r t =>
      have z := RxK.merge (RxK.put (k := k) h r) t
      exact z
theorem pairs_rx : ∀ {ds : List D} {es : List (D × D)} {vs : List V}, pairsD ds = some es → RxL K W H vs ds → ∃ (ps : List Addr) (kvs : List (Key × V)), vs = ps.map V.ref ∧ RxK K W H kvs es ∧ Paired (fun p kv => SqT K H p [kV kv.1, kv.2]) ps kvs
  | [], es, vs, h, l => by
    cases l
    cases h
    exact ⟨[], [], rfl, .nil, .nil⟩
  | d :: ds, es, vs, h, l => by
    cases l with
    | @cons x vs' _ _ r tl =>
      unfold pairsD at h
      split at h
      · rename_i e0
        cases e0
      · rename_i k v t' e1
        cases e1
        split at h
        · rename_i hk
          obtain ⟨es', e1, e2⟩ := Option.map_eq_some_iff.mp h
          obtain ⟨ps, kvs, e3, g, p⟩ := pairs_rx e1 tl
          obtain ⟨a, us, rfl, sa, la⟩ := r.tuple
          obtain ⟨x, y, rfl, rx, ry⟩ := la.n2
          obtain ⟨kk, rfl⟩ := isKey_of hk
          have ex := Rx.key (.inl rx)
          subst ex
          subst e2
          exact ⟨a :: ps, (kk, y) :: kvs, by rw [e3]; rfl, .cons ry g, .cons sa p⟩
        · cases h
      · cases h
end
theorem cr_dictP {X : Cx} (hc : X.calm = true) : CallR X (.type "dict") (rCF X.K dictPC) := by
  intro pins s σ H xs us Q I rx ⟨W, ds, r, tr, hx, hf, q⟩
  unfold dictPC at hf
  split at hf
  · obtain ⟨x, rfl, h⟩ := hx.one
    obtain ⟨es, e1, rfl⟩ := Option.map_eq_some_iff.mp hf
    obtain ⟨a, vs, rfl, sa, la⟩ := h.list
    obtain ⟨ps, kvs, rfl, rk, pr⟩ := pairs_rx e1 la
    exact call_dictP hc pins s σ H _ us Q I rx ⟨a, ps, kvs, rfl, .inl sa, pr, fun p n => q p _ (Same.upd n) n ⟨_, upd_same, ((RxK.merge .nil rk).plus n).same (Same.upd n)⟩⟩
  · cases hf

/-! ### index -/
def idxD : D → D → Option D
  | .list ds, d => if SeqAt.shaped (.list ds) && SeqAt.shaped d then (ds.findIdx? fun z => PyData.eqv z d).map fun j => .int (j : Nat) else none
  | _, _ => none
def chkL : D → Option Unit
  | .list _ => some ()
  | _ => none
def mMt (f : D → D → Option D) (a b : M LV) : M D := do
  let x ← a
  let d0 ← x.get
  lift (chkL d0)
  let y ← b
  let d ← x.get
  let e ← y.get
  lift (f d e)
theorem mt_idxD {X : Cx} (hu : X.A.units + 65 < cLine) : MtR X "list.index" (fun x xs H Q => ∃ y, xs = [y] ∧ rD X.K idxD x y H Q) := by
  intro pins s σ H x xs v us Q I rx rxs h
  obtain ⟨y, rfl, W, d0, d, r, tr, hx, hy, hf, q⟩ := h
  unfold idxD at hf
  split at hf
  case h_2 => cases hf
  rename_i ds
  split at hf
  case isFalse => cases hf
  rename_i hsh
  rw [Bool.and_eq_true] at hsh
  obtain ⟨j, hj0, rfl⟩ := Option.map_eq_some_iff.mp hf
  obtain ⟨hjd, hzj, hno⟩ := List.findIdx?_eq_some_iff_getElem.mp hj0
  obtain ⟨a, vs, rfl, sa, la⟩ := hx.list
  cases rx
  obtain ⟨uy, rfl, ry⟩ := rxs.one
  obtain ⟨bs, r1⟩ := hy.reads I ry
  have hxs : PyData.canLayAll0 ds = true := SeqAt.canLay_of_shaped hsh.1
  have hroom : X.A.units + 1 + min (PyData.depthAll ds) d.depth < cLine := room_in_shaped hsh.2 hu
  obtain ⟨its, rv, ⟨⟨cls, dd, data, sls⟩, n, ho, hc, hdn, hdt⟩, hlen⟩ := I.list (.inl sa)
  simp only at hc hdt
  subst hc hdt
  obtain ⟨as, h4⟩ := RxL.reads I ds _ its la rv
  have hn : its.length = ds.length := SeqAt.ReadsAll.length ds its as h4
  have hmap : its.map (SeqAt.readOf s.heap) = ds := SeqAt.readsAll_map ds its as hxs h4
  have hvl := rv.length
  have hsl := sizeLine_eq
  have hjl : j < its.length := by omega
  have hj : j < its.toArray.size := by simpa using hjl
  have at_ : ∀ (m : Nat) (hm : m < its.toArray.size) (hd : m < ds.length), SeqAt.readOf s.heap its.toArray[m] = ds[m] := by
    intro m hm hd
    have hml : m < its.length := by simpa using hm
    have hz' : ds[m]? = some ds[m] := List.getElem?_eq_getElem hd
    rw [show ds[m]? = (its.map (SeqAt.readOf s.heap))[m]? by rw [hmap], List.getElem?_map, List.getElem?_eq_getElem hml] at hz'
    have e1 : SeqAt.readOf s.heap its[m] = ds[m] := Option.some.inj (show some (SeqAt.readOf s.heap its[m]) = some ds[m] from hz')
    simpa using e1
  refine call_meets PySem.F.slot_list_index ⟨_, ho, rfl⟩ PySem.F.entry_list_index (PySem.F.args_list_index_2 _ _)
    (SeqAt.list_indexAt a its.toArray n dd sls uy (fun u => PyData.eqv (SeqAt.readOf s.heap u) d) j hj (by omega) ?_ ?_) ⟨ho, SeqAt.items_eqAt (vs := its.toArray) (show ReadsAll s.heap its.toArray.toList ds as from h4) r1 hxs (SeqAt.canLay_of_shaped hsh.2) hroom, ?_⟩
  · show PyData.eqv (SeqAt.readOf s.heap its.toArray[j]) d = true
    rw [at_ j hj hjd]
    exact hzj
  · intro m hm hmj
    have hmd : m < ds.length := by omega
    show PyData.eqv (SeqAt.readOf s.heap its.toArray[m]) d = false
    rw [at_ m hm hmd]
    simpa using hno m hmj
  · exact ⟨.int (j : Nat), H, I.tok _, ⟨_, rfl⟩, q _ _ (Same.refl H) (.int _)⟩
section
variable {X : Cx} {Ew : WX} {e o : Expr} {ma mb : M LV}
theorem t_mt {K : PySem.W.Frag} {f : D → D → Option D} {σ : L2.St} {H : Hp} {Q : VK} (h : tD K Ew (mMt f ma mb) σ H Q) : tBM K "list" (fun x xs H Q => ∃ y, xs = [y] ∧ rD K f x y H Q) (tL K Ew ma) (tCons (tL K Ew mb) L2.tNil) σ H Q := by
  obtain ⟨W, O, ρ, R, h⟩ := h
  refine ⟨W, O, ρ, R, (Out.bind h).mono fun x ρ1 H1 k1 R1 h1 v rv => ?_⟩
  obtain ⟨d0, tx0, h2⟩ := Out.get h1 R1 rv
  cases d0 with
  | list xs0 =>
    obtain ⟨a, xs, rfl, sa, la⟩ := tx0.list
    refine ⟨.inl ⟨rfl, xs, .inl sa⟩, W, O, ρ1, R1, (Out.bind (m := mb) (h2 : Out K Ew W O σ H1 _ ((mb >>= _) ρ1))).mono fun y ρ2 H2 k2 R2 h3 w rw' => ?_⟩
    obtain ⟨d, tx, h4⟩ := Out.get h3 R2 (rv.keep R1 k2)
    obtain ⟨e, ty, h5⟩ := Out.get h4 R2 rw'
    obtain ⟨r, hf, q⟩ := Out.lift h5 R2
    exact ⟨w, rfl, W, d, e, r, R2.tr, tx, ty, hf, fun u H' s ru => q H' (KeepO.of s) (R2.same s) u ru⟩
  | _ => exact h2.elim
theorem dMt {name : Str} {apos cpos : Pos} {id : String} {f : D → D → Option D} (slot : PySem.Slot "list" name id) (hty : typeOf (.builtin id) = pure (.type "method_descriptor")) (hm : MtR X id (fun x xs H Q => ∃ y, xs = [y] ∧ rD X.K f x y H Q)) (ho : PE X o (tL X.K Ew ma)) (ha : PE X e (tL X.K Ew mb))
    (hbase : attributeBase o name X.env (eval o X.env) = eval o X.env := by rfl)
    (hfew : ((backTo cpos (starEach (e :: []) X.env)).all (fun x => !x.1) && (backToKw cpos (keywordEach [] X.env)).all (fun x => x.1.isSome)
      && decide ((e :: ([] : List Expr)).length + ([] : List Keyword).length + (if ([] : List Keyword).isEmpty then 0 else 1) < 30)) = true := by rfl)
    (hline : (apos.endLine == cpos.line) = true := by rfl) (hs : starEach (e :: []) X.env = (false, eval e X.env) :: starEach [] X.env := by rfl) (hplain : (backTo cpos (starEach [] X.env)).any (·.1) = false := by rfl) :
    PE X (.Call (.Attribute o name apos) (e :: []) [] cpos) (tD X.K Ew (mMt f ma mb)) :=
  PE.imp (pe_bm PySem.F.plainAttrs_list slot hty hm ho (pa_cons ha pa_nil hs) hbase hfew hline hs hplain) fun _ _ _ h => t_mt h
end

/-! ### update -/
abbrev MutE := List (D × D) → List D → Option (D × List (D × D))
def rMd (K : PySem.W.Frag) (g : MutE) : V → List V → Hp → VK → Prop := fun x vs H Q => ∃ (W : Addr → Prop) (l : Addr) (kvs : List (Key × V)) (es : List (D × D)) (ds : List D) (r : D) (zs : List (D × D)), x = .ref l ∧ W l ∧ H l = some (.dK kvs) ∧ RxK K W H kvs es ∧ RxL K W H vs ds ∧ g es ds = some (r, zs) ∧
  ∀ u us, Rx K W H u r → RxK K W H us zs → Q u (upd H l (.dK us))
def updG : MutE
  | es, [.dict fs] => if es.length + fs.length ≤ sizeLine then some (.none, mergeE es fs) else none
  | _, _ => none
def mOwnE (i : Nat) : M Unit := fun ρ => match ρ[i]? with
  | some (.own (.dict _)) => some (.ok () ρ)
  | _ => none
def mMutEGo (i : Nat) (g : MutE) (ds : List D) : M D := fun ρ => match ρ[i]? with
  | some (.own (.dict xs)) => (g xs ds).map fun p => .ok p.1 (ρ.set i (.own (.dict p.2)))
  | _ => none
def mMutE (i : Nat) (g : MutE) (as : M (List D)) : M D := do
  mOwnE i
  let ds ← as
  mMutEGo i g ds
theorem mt_upd {X : Cx} : MtR X "dict.update" (rMd X.K updG) := by
  intro pins s σ H x vs v us Q I rx rv h
  obtain ⟨W, l, kvs, es, ds, r, zs, rfl, wl, hl, h1, h2, hg, q⟩ := h
  unfold updG at hg
  split at hg
  case h_2 => cases hg
  rename_i fs
  split at hg
  case isFalse => cases hg
  rename_i hz
  cases hg
  cases rx
  obtain ⟨w, rfl, rw'⟩ := h2.n1
  obtain ⟨u, rfl, ru⟩ := rv.one
  cases rw' with
  | @dic b bs _ nb hb lb =>
    cases ru
    have hne : l ≠ b := fun z => nb (by rw [← z]; exact wl)
    obtain ⟨y1, d1, va, ra, da⟩ := (show ObjOk X.prog X.w H s.heap l (.dK kvs) from I.hok l _ hl)
    obtain ⟨y2, d2, vb, rb, db⟩ := dk_rd I.hok hb
    have la := ra.length
    have lb' := rb.length
    have lc := rxk_len h1
    have ld := rxk_len lb
    refine call_meetsIn PySem.F.slot_dict_update da.typeIs PySem.F.entry_dict_update (PySem.F.args_dict_update_2 _ _) (PySem.meets_dict_update (mixKind X.prog X.w) l b hne d2) ⟨va, vb, da, db, by omega, fun h' e1 e2 hs => ?_⟩
    have hz2 : (mergeK kvs bs).length ≤ sizeLine := by
      have h1 := length_mergeK bs kvs
      omega
    have he : ∃ q, h'.get? l = some q := let ⟨q, _, _, hq, _⟩ := e1; ⟨q, hq⟩
    exact ⟨.non, _, d_write I (by rw [hl]; exact True.intro) hs he (dk_new hz2 d1 (KV.merge rb ra) e1), rfl, q _ _ .non (RxK.merge h1 lb)⟩
section
variable {X : Cx} {Ew : WX} {e : Expr} {es : List Expr} {ma : M (List D)}
theorem t_mutE {i : Nat} {g : MutE} {σ : L2.St} {H : Hp} {Q : VK} (h : tD X.K Ew (mMutE i g ma) σ H Q) : tBM X.K "dict" (rMd X.K g) (L2.tVar i) (tDs X.K Ew ma) σ H Q := by
  obtain ⟨W, O, ρ, R, h⟩ := h
  have h' : Out X.K Ew W O σ H (fun d _ H' => ∀ v, Rx X.K W H' v d → Q v H') (M.bind (mOwnE i) (fun _ => ma >>= fun ds => mMutEGo i g ds) ρ) := h
  unfold M.bind mOwnE at h'
  split at h'
  · rename_i hm
    split at hm
    · rename_i xs ec
      cases hm
      obtain ⟨a, ea, oa, vs, eh, l⟩ := R.own ec
      refine ⟨.ref a, ea, .inr (.inr (.inl ⟨rfl, .inl ⟨vs, eh⟩⟩)), W, O, ρ, R, (Out.bind h').mono fun ds ρ1 H1 k1 R1 h1 us ru => ?_⟩
      unfold mMutEGo at h1
      split at h1
      · rename_i ys ec1
        obtain ⟨a', ea', oa', ws, eh', l'⟩ := R1.own ec1
        rw [ea] at ea'
        cases ea'
        cases hg : g ys ds with
        | none => rw [hg] at h1; exact h1.elim
        | some p =>
          rw [hg] at h1
          obtain ⟨r, zs⟩ := p
          refine ⟨W, a, ws, ys, ds, r, zs, rfl, R1.ow a oa, eh', l', ru, hg, fun u us' ru' lus => ?_⟩
          have k2 : KeepO W O H1 (upd H1 a (.dK us')) := upd_keep R1 oa
          have R2 := R1.updO (d' := .dict zs) ec1 ea oa (n := ⟨_, upd_same, RxK.keepO lus k2⟩)
          exact h1 _ k2 R2 u (ru'.keepO R1 k2)
      · exact h1.elim
    · cases hm
  · rename_i hm
    split at hm
    · cases hm
    · cases hm
  · exact h'.elim
theorem dMutE (i : Nat) {x name : Str} {p apos cpos : Pos} {id : String} {g : MutE} (slot : PySem.Slot "dict" name id) (hty : typeOf (.builtin id) = pure (.type "method_descriptor")) (hm : MtR X id (rMd X.K g)) (ha : PA X (e :: es) (tDs X.K Ew ma))
    (hi : X.N[i]? = some x := by rfl) (hv : Vis X.env.scope x := by first | exact Or.inl rfl | exact Or.inr (Or.inl rfl) | exact Or.inr (Or.inr rfl))
    (hd : (x == ("__debug__" : Str)) = false := by decide) (hcd : (x == ("__classdict__" : Str)) = false := by decide)
    (hbase : attributeBase (.Name x p) name X.env (eval (.Name x p) X.env) = eval (.Name x p) X.env := by rfl)
    (hfew : ((backTo cpos (starEach (e :: es) X.env)).all (fun x => !x.1) && (backToKw cpos (keywordEach [] X.env)).all (fun x => x.1.isSome)
      && decide ((e :: es).length + ([] : List Keyword).length + (if ([] : List Keyword).isEmpty then 0 else 1) < 30)) = true := by rfl)
    (hline : (apos.endLine == cpos.line) = true := by rfl) (hs : starEach (e :: es) X.env = (false, eval e X.env) :: starEach es X.env := by rfl) (hplain : (backTo cpos (starEach es X.env)).any (·.1) = false := by rfl) :
    PE X (.Call (.Attribute (.Name x p) name apos) (e :: es) [] cpos) (tD X.K Ew (mMutE i g ma)) :=
  PE.imp (pe_bm PySem.F.plainAttrs_dict slot hty hm (pe_var hi hv hd hcd) ha hbase hfew hline hs hplain) fun _ _ _ h => t_mutE h
end

/-! ### displays -/
def mPairs : List (M D × M D) → M (List (D × D))
  | [] => pure []
  | (a, b) :: r => do
    let x ← a
    let y ← b
    let es ← mPairs r
    pure ((x, y) :: es)
def dispC (es : List (D × D)) : Option D := if (es.all fun p => isKey p.1) = true ∧ es.length ≤ 15 then some (.dict (mergeE [] es)) else none
def mDisp (ps : List (M D × M D)) : M D := fun ρ => match mPairs ps ρ with
  | some (.ok es ρ') => (dispC es).map fun d => .ok d ρ'
  | _ => none
abbrev PairRx (K : PySem.W.Frag) (W : Addr → Prop) (H : Hp) : List (V × V) → List (D × D) → Prop := Paired fun p q => Rx K W H p.1 q.1 ∧ Rx K W H p.2 q.2
section
variable {K : PySem.W.Frag} {W O : Addr → Prop} {H : Hp} {Ew : WX} {σ : L2.St}
theorem pairRx_kvs : ∀ {ps : List (V × V)} {es : List (D × D)}, PairRx K W H ps es → (es.all fun p => isKey p.1) = true → ∃ kvs : List (Key × V), ps = kvs.map (fun kv => (kV kv.1, kv.2)) ∧ RxK K W H kvs es
  | _, [], h, _ => by cases h; exact ⟨[], rfl, .nil⟩
  | _, (k, d) :: es, h, a => by
    cases h with
    | @cons p _ ps _ h t =>
      rw [List.all_cons, Bool.and_eq_true] at a
      obtain ⟨kvs, e, r⟩ := pairRx_kvs t a.2
      obtain ⟨kk, rfl⟩ := isKey_of a.1
      obtain ⟨x, y⟩ := p
      have ex := Rx.key (.inl h.1)
      have ex : x = kV kk := ex
      subst ex
      exact ⟨(kk, y) :: kvs, by rw [e]; rfl, .cons h.2 r⟩
theorem pairRx_keep {H' : Hp} {ρ : List Slot} (R : SRel K W O H σ ρ) (k : KeepO W O H H') : ∀ {ps : List (V × V)} {es : List (D × D)}, PairRx K W H ps es → PairRx K W H' ps es
  | _, [], h => by cases h; exact .nil
  | _, _ :: _, h => by
    cases h with
    | cons h t => exact .cons ⟨h.1.keepO R k, h.2.keepO R k⟩ (pairRx_keep R k t)
def trsOf (K : PySem.W.Frag) : List (M D × M D) → List (TE × TE)
  | [] => []
  | (a, b) :: r => (tD K WF a, tD K WF b) :: trsOf K r
theorem pairs_run : ∀ (ps : List (M D × M D)) {H : Hp} {ρ ρe : List Slot} {es : List (D × D)} {Q : List (V × V) → Hp → Prop}, SRel K W O H σ ρ → mPairs ps ρ = some (.ok es ρe) → (∀ H' vs, KeepO W O H H' → SRel K W O H' σ ρe → PairRx K W H' vs es → Q vs H') → tPairs (trsOf K ps) σ H Q
  | [], H, ρ, ρe, es, Q, R, hr, q => by
    cases hr
    exact q H [] KeepO.refl R .nil
  | (a, b) :: r, H, ρ, ρe, es, Q, R, hr, q => by
    obtain ⟨x, ρ1, g1, hr⟩ := ok_bind hr
    obtain ⟨y, ρ2, g2, hr⟩ := ok_bind hr
    obtain ⟨es', ρ3, g3, hr⟩ := ok_bind hr
    cases hr
    refine ⟨W, O, ρ, R, ?_⟩
    rw [g1]
    intro H1 k1 R1 vx rx
    refine ⟨W, O, ρ1, R1, ?_⟩
    rw [g2]
    intro H2 k2 R2 vy ry
    exact pairs_run r R2 g3 fun H3 vs k3 R3 pr => q H3 _ ((k1.trans k2).trans k3) R3 (.cons ⟨(rx.keepO R1 k2).keepO R2 k3, ry.keepO R2 k3⟩ pr)
theorem t_disp {ps : List (M D × M D)} {H : Hp} {Q : VK} (h : tF K Ew (mDisp ps) σ H Q) : tDisp (trsOf K ps) σ H Q := by
  obtain ⟨W, O, ρ, R, h⟩ := h
  intro p np
  unfold mDisp at h
  split at h
  case h_2 => exact h.elim
  rename_i es ρe hr
  unfold dispC at h
  split at h
  case isFalse => exact h.elim
  rename_i hz
  have Op : ¬ O p := fun z => by
    obtain ⟨o, e⟩ := R.tr p (R.ow p z)
    rw [np] at e
    cases e
  have s1 : Same H (upd H p (.dK [])) := Same.upd np
  have RD : SRel K (plus W p) O (upd H p (.dK [])) σ ρ := by
    have z := R.plus (H' := upd H p (.dK [])) np upd_same s1
    refine ⟨z.len, fun a o => .inl (R.ow a o), z.tr, fun i x s e1 e2 => ?_, z.ne⟩
    have y := z.sl i x s e1 e2
    have y0 := R.sl i x s e1 e2
    cases s with
    | un => trivial
    | dat d => exact y
    | own d =>
      obtain ⟨a, e, o, _⟩ := y0
      obtain ⟨a', e', _, o'⟩ := y
      rw [e] at e'
      cases e'
      exact ⟨a, e, o, o'⟩
  have back : ∀ {Hn : Hp}, KeepO (plus W p) (plus O p) (upd H p (.dK [])) Hn → KeepO W O H Hn := fun {Hn} k => by
    refine ⟨fun a o e w n => ?_, fun a u e n => ?_, fun a o u e n => ?_, fun a xs e n => ?_⟩
    · have na : a ≠ p := fun z => by rw [z, np] at e; cases e
      exact k.own a o (s1 a o e) (.inl w) fun z => z.elim n na
    · obtain ⟨o, eo⟩ := rd_some e
      have na : a ≠ p := fun z => by rw [z, np] at eo; cases eo
      exact k.rest a u (rd_same s1 e) fun z => z.elim n na
    · have na : a ≠ p := fun z => by rw [z, np] at e; cases e
      exact k.frz a o u (s1 _ _ e) fun z => z.elim n na
    · have na : a ≠ p := fun z => by rw [z, np] at e; cases e
      exact k.lst a xs (s1 _ _ e) fun z => z.elim n na
  refine pairs_run ps RD hr fun H2 vs k2 R2 pr => ?_
  have e2 : H2 p = some (.dK []) := k2.own p _ upd_same (.inr rfl) Op
  obtain ⟨kvs, rfl, rk⟩ := pairRx_kvs pr hz.1
  refine ⟨e2, kvs, rfl, by rw [rxk_len rk]; exact hz.2, ?_⟩
  have kp : KeepO (plus W p) (plus O p) H2 (upd H2 p (.dK (mergeK [] kvs))) := keepW (.inr rfl) (.inr rfl)
  have R3 : SRel K (plus W p) O (upd H2 p (.dK (mergeK [] kvs))) σ ρe := R2.updW (.inr rfl) Op
  have kk := back ((k2.moreO fun _ z => .inl z).trans kp)
  refine h _ kk ?_ p ?_ np ⟨_, upd_same, ?_⟩
  · refine R3.less (fun _ z => .inl z) R.ow fun i a d e1 e2 => ?_
    obtain ⟨a', e', o, _⟩ := R3.own e1
    rw [e2] at e'
    cases e'
    exact o
  · exact R3.moreO (fun _ z => .inl z) fun a z => z.elim (fun o => .inl (R.ow a o)) .inr
  · refine RxK.go (fun a u h na => kp.rest a u h na) (fun _ _ _ z => z) _ _ (RxK.merge .nil rk)
end
section
variable {X : Cx} {Ew : WX} {pos : Pos}
theorem ppsNil : PPs X pos [] [] (trsOf X.K []) := pps_nil
theorem ppsCons {k v : Expr} {ks : List (Option Expr)} {vs : List Expr} {mk mv : M D} {r : List (M D × M D)} (hk : PE X k (tD X.K WF mk)) (hv : PE X v (tD X.K WF mv)) (hr : PPs X pos ks vs (trsOf X.K r)) : PPs X pos (some k :: ks) (v :: vs) (trsOf X.K ((mk, mv) :: r)) := pps_cons hk hv hr
theorem fDisp {keys : List (Option Expr)} {values : List Expr} {ps : List (M D × M D)} (h : PPs X pos keys values (trsOf X.K ps)) (hall : keys.all (·.isSome) = true := by rfl) (hl : keys.length = values.length := by rfl) (h0 : keys ≠ [] := by exact List.cons_ne_nil _ _)
    (h15 : keys.length ≤ 15 := by first | decide | (simp [List.length])) : PE X (.Dict keys values pos) (tF X.K Ew (mDisp ps)) :=
  PE.imp (pe_disp h hall hl h0 h15) fun _ _ _ h => t_disp h
end
end CF
end
section
/-! CG4: a, b = e1, e2 where one of them is an object of its own. -/
namespace CF
open PySem PySem.Spec PyProof.Rows L2

def slotOf (o : Bool) (d : D) : Slot := if o = true then .own d else .dat d
def mPar2 (oi oj : Bool) (i j : Nat) (a b : M D) : MS := do
  let d ← a
  let e ← b
  fun ρ => some (.ok .nx ((ρ.set i (slotOf oi d)).set j (slotOf oj e)))
section
variable {K : PySem.W.Frag} {W O W1 O1 : Addr → Prop} {H H1 : Hp} {σ : L2.St} {ρ ρ1 : List Slot} {a : Addr}
theorem Step.more (s : Step W O H W1 O1 H1) (n : H a = Option.none) : Step W O H W1 (plus O1 a) H1 :=
  ⟨s.keep, s.dom, fun b z => z.elim (s.ow b) fun q => .inr (by rw [q]; exact n), s.wi, s.wo⟩
theorem Step.wide (k1 : KeepO W O H H1) (R1 : SRel K W O H1 σ ρ1) (n : H a = Option.none) : Step W O H (plus W a) O H1 :=
  let s := Step.of k1 R1
  ⟨s.keep, s.dom, fun _ => .inl, fun b o e w n => .inl w, fun b z => z.elim .inl fun q => .inr (by rw [q]; exact n)⟩
theorem SRel.hold (R1 : SRel K W O H1 σ ρ1) (R2 : SRel K (CF.plus W a) (CF.plus O a) H1 σ ρ1) : SRel K (CF.plus W a) O H1 σ ρ1 :=
  R2.less (fun _ z => z) (fun b o => .inl (R1.ow b o)) fun i b d e1 e2 => by
    obtain ⟨b', e', o, _⟩ := R1.own e1
    rw [e2] at e'
    cases e'
    exact o
theorem not_own (R : SRel K W O H σ ρ) (n : ¬ O a) : ∀ (j : Nat) (e : D), ρ[j]? = some (.own e) → σ[j]? ≠ some (some (.ref a)) := fun j e h1 h2 => by
  obtain ⟨b, e1, o, _⟩ := R.own h1
  rw [h2] at e1
  cases e1
  exact n o
theorem newO (R : SRel K W O H σ ρ) (n : H a = none) : ¬ O a := fun z => by
  obtain ⟨o, e⟩ := R.tr a (R.ow a z)
  rw [n] at e
  cases e
end
section
variable {X : Cx} {fr : Bool} {F : List Nat} {Ew : WX} {e e2 : Expr} {pos : Pos} {md me : M D}
theorem sParOD (i j : Nat) {x y : Str} {px py pt : Pos} {kt k2 pt2} (hF : (F.contains i || F.contains j) = false) (hc : X.calm = true) (hN : X.N.Nodup) (hij : i ≠ j) (ha : PE X e (tF X.K Ew md)) (hb : PE X e2 (tD X.K Ew me))
    (hi : X.N[i]? = some x := by rfl) (hj : X.N[j]? = some y := by rfl) (hx : X.env.scope.names.lookup x = some .local := by rfl) (hy : X.env.scope.names.lookup y = some .local := by rfl)
    (hw : swappedStores [.Tuple [.Name x px, .Name y py] kt pt] (.Tuple [e, e2] k2 pt2) X.env = pure (some [x, y]))
    (hs : swapsWithSole [.Tuple [.Name x px, .Name y py] kt pt] (.Tuple [e, e2] k2 pt2) pos.line X.env = pure false := by rfl)
    (s1 : starEach [e, e2] X.env = (false, eval e X.env) :: starEach [e2] X.env := by rfl) (s2 : starEach [e2] X.env = (false, eval e2 X.env) :: starEach [] X.env := by rfl) :
    PS X (.Assign [.Tuple [.Name x px, .Name y py] kt pt] (.Tuple [e, e2] k2 pt2) pos) (tS fr F X.K Ew (mPar2 true false i j md me)) := by
  rw [Bool.or_eq_false_iff] at hF
  refine PS.imp (ps_par (ta := tCons (tF X.K Ew md) (tCons (tD X.K Ew me) L2.tNil)) hc hN hi hj hij hx hy (pa_cons ha (pa_cons hb pa_nil s2) s1) hw hs) fun D σ H ⟨W, O, ρ, R, h⟩ => ⟨W, O, ρ, R, ?_⟩
  have h : OutS fr F X.K Ew W O σ H D (M.bind md (fun d => M.bind me (fun e => fun ρ => some (.ok .nx ((ρ.set i (slotOf true d)).set j (slotOf false e))))) ρ) := h
  unfold M.bind at h
  generalize md ρ = r at h
  match r, h with
  | some (.ok d ρ1), h =>
    intro H1 k1 R1 a R2 n o
    simp only at h
    have R3 := R1.hold R2
    refine ⟨plus W a, O, ρ1, R3, ?_⟩
    have na := newO R n
    have S1 : Step W O H (plus W a) O H1 := Step.wide k1 R1 n
    generalize me ρ1 = r2 at h
    match r2, h with
    | some (.ok d2 ρ2), h =>
      intro H2 k2 R4 w rw'
      refine ⟨.ref a, w, rfl, ?_⟩
      have S2 : Step W O H (plus W a) (plus O a) H2 := (S1.trans (Step.of k2 R4)).more n
      have R5 : SRel X.K (plus W a) (plus O a) H2 σ ρ2 := R4.moreO (fun _ z => .inl z) fun b z => z.elim (R4.ow b) .inr
      have o2 : OwnAt X.K (plus W a) H2 a d := o.go (fun b u rd nb => k2.rest b u rd nb) (fun _ _ _ z => z) fun ob eb => k2.own a ob eb (.inr rfl) na
      exact h _ _ _ H2 S2 ((R5.setO i (.inr rfl) o2 (not_own R4 na)).set j rw') ((Fx.set hF.1).trans (Fx.set hF.2))
    | some (.ex e ρ'), h => exact fun c dx H' k' R' x => h c dx (plus W a) O σ H' (S1.trans (Step.of k' R')) R' Fx.refl x
  | some (.ex e ρ'), h => exact fun c dx H' k' R x => h c dx W O σ H' (Step.of k' R) R Fx.refl x
theorem sParDO (i j : Nat) {x y : Str} {px py pt : Pos} {kt k2 pt2} (hF : (F.contains i || F.contains j) = false) (hc : X.calm = true) (hN : X.N.Nodup) (hij : i ≠ j) (ha : PE X e (tD X.K Ew md)) (hb : PE X e2 (tF X.K Ew me))
    (hi : X.N[i]? = some x := by rfl) (hj : X.N[j]? = some y := by rfl) (hx : X.env.scope.names.lookup x = some .local := by rfl) (hy : X.env.scope.names.lookup y = some .local := by rfl)
    (hw : swappedStores [.Tuple [.Name x px, .Name y py] kt pt] (.Tuple [e, e2] k2 pt2) X.env = pure (some [x, y]))
    (hs : swapsWithSole [.Tuple [.Name x px, .Name y py] kt pt] (.Tuple [e, e2] k2 pt2) pos.line X.env = pure false := by rfl)
    (s1 : starEach [e, e2] X.env = (false, eval e X.env) :: starEach [e2] X.env := by rfl) (s2 : starEach [e2] X.env = (false, eval e2 X.env) :: starEach [] X.env := by rfl) :
    PS X (.Assign [.Tuple [.Name x px, .Name y py] kt pt] (.Tuple [e, e2] k2 pt2) pos) (tS fr F X.K Ew (mPar2 false true i j md me)) := by
  rw [Bool.or_eq_false_iff] at hF
  refine PS.imp (ps_par (ta := tCons (tD X.K Ew md) (tCons (tF X.K Ew me) L2.tNil)) hc hN hi hj hij hx hy (pa_cons ha (pa_cons hb pa_nil s2) s1) hw hs) fun D σ H ⟨W, O, ρ, R, h⟩ => ⟨W, O, ρ, R, ?_⟩
  have h : OutS fr F X.K Ew W O σ H D (M.bind md (fun d => M.bind me (fun e => fun ρ => some (.ok .nx ((ρ.set i (slotOf false d)).set j (slotOf true e))))) ρ) := h
  unfold M.bind at h
  generalize md ρ = r at h
  match r, h with
  | some (.ok d ρ1), h =>
    intro H1 k1 R1 v rv
    simp only at h
    refine ⟨W, O, ρ1, R1, ?_⟩
    generalize me ρ1 = r2 at h
    match r2, h with
    | some (.ok d2 ρ2), h =>
      intro H2 k2 R4 a R5 n o
      refine ⟨v, .ref a, rfl, ?_⟩
      have n0 : H a = none := R1.dom k1 n
      have S2 : Step W O H (plus W a) (plus O a) H2 := fresh_step R (k1.trans k2) R4 n0
      have rv2 : Rx X.K (plus W a) H2 v d := Rx.go (fun b u e nb => k2.rest b u e nb) (fun b ob eb z => z.elim id fun q => by rw [q, n] at eb; cases eb) d v rv
      refine h _ _ _ H2 S2 ((R5.set i rv2).setO j (.inr rfl) o fun k e' h1 h2 => ?_) ((Fx.set hF.1).trans (Fx.set hF.2))
      obtain ⟨q1, q2⟩ := own_set rfl h1
      rw [List.getElem?_set_ne (Ne.symm q1)] at h2
      exact not_own R4 (newO R n0) k e' q2 h2
    | some (.ex e ρ'), h => exact fun c dx H' k' R' x => h c dx W O σ H' (Step.of (k1.trans k') R') R' Fx.refl x
  | some (.ex e ρ'), h => exact fun c dx H' k' R x => h c dx W O σ H' (Step.of k' R) R Fx.refl x
theorem sParOO (i j : Nat) {x y : Str} {px py pt : Pos} {kt k2 pt2} (hF : (F.contains i || F.contains j) = false) (hc : X.calm = true) (hN : X.N.Nodup) (hij : i ≠ j) (ha : PE X e (tF X.K Ew md)) (hb : PE X e2 (tF X.K Ew me))
    (hi : X.N[i]? = some x := by rfl) (hj : X.N[j]? = some y := by rfl) (hx : X.env.scope.names.lookup x = some .local := by rfl) (hy : X.env.scope.names.lookup y = some .local := by rfl)
    (hw : swappedStores [.Tuple [.Name x px, .Name y py] kt pt] (.Tuple [e, e2] k2 pt2) X.env = pure (some [x, y]))
    (hs : swapsWithSole [.Tuple [.Name x px, .Name y py] kt pt] (.Tuple [e, e2] k2 pt2) pos.line X.env = pure false := by rfl)
    (s1 : starEach [e, e2] X.env = (false, eval e X.env) :: starEach [e2] X.env := by rfl) (s2 : starEach [e2] X.env = (false, eval e2 X.env) :: starEach [] X.env := by rfl) :
    PS X (.Assign [.Tuple [.Name x px, .Name y py] kt pt] (.Tuple [e, e2] k2 pt2) pos) (tS fr F X.K Ew (mPar2 true true i j md me)) := by
  rw [Bool.or_eq_false_iff] at hF
  refine PS.imp (ps_par (ta := tCons (tF X.K Ew md) (tCons (tF X.K Ew me) L2.tNil)) hc hN hi hj hij hx hy (pa_cons ha (pa_cons hb pa_nil s2) s1) hw hs) fun D σ H ⟨W, O, ρ, R, h⟩ => ⟨W, O, ρ, R, ?_⟩
  have h : OutS fr F X.K Ew W O σ H D (M.bind md (fun d => M.bind me (fun e => fun ρ => some (.ok .nx ((ρ.set i (slotOf true d)).set j (slotOf true e))))) ρ) := h
  unfold M.bind at h
  generalize md ρ = r at h
  match r, h with
  | some (.ok d ρ1), h =>
    intro H1 k1 R1 a R2 n o
    simp only at h
    have R3 := R1.hold R2
    refine ⟨plus W a, O, ρ1, R3, ?_⟩
    have na := newO R n
    have S1 : Step W O H (plus W a) O H1 := Step.wide k1 R1 n
    generalize me ρ1 = r2 at h
    match r2, h with
    | some (.ok d2 ρ2), h =>
      intro H2 k2 R4 b R5 nb o5
      refine ⟨.ref a, .ref b, rfl, ?_⟩
      obtain ⟨oa, ea⟩ := o.some
      have hab : a ≠ b := fun z => by rw [← z, ea] at nb; cases nb
      have nb0 : H b = none := R1.dom k1 nb
      have S2 : Step W O H (plus (plus W a) b) (plus (plus O b) a) H2 := (S1.trans (fresh_step R3 k2 R4 nb)).more n
      have R6 : SRel X.K (plus (plus W a) b) (plus (plus O b) a) H2 σ ρ2 := R5.moreO (fun _ z => .inl z) fun c z => z.elim (R5.ow c) fun q => .inl (.inr q)
      have o2 : OwnAt X.K (plus (plus W a) b) H2 a d := o.go (fun c u rd nc => k2.rest c u rd nc) (fun c oc ec z => z.elim id fun q => by rw [q, nb] at ec; cases ec) fun ob eb => k2.own a ob eb (.inr rfl) na
      refine h _ _ _ H2 S2 ((R6.setO i (.inr rfl) o2 (not_own R4 na)).setO j (.inl (.inr rfl)) o5 fun k e' h1 h2 => ?_) ((Fx.set hF.1).trans (Fx.set hF.2))
      by_cases q : k = i
      · subst q
        rw [List.getElem?_set] at h2
        simp only [if_true] at h2
        split at h2
        · cases h2; exact hab rfl
        · cases h2
      · rw [List.getElem?_set_ne (Ne.symm q)] at h1 h2
        exact not_own R4 (newO R nb0) k e' h1 h2
    | some (.ex e ρ'), h => exact fun c dx H' k' R' x => h c dx (plus W a) O σ H' (S1.trans (Step.of k' R')) R' Fx.refl x
  | some (.ex e ρ'), h => exact fun c dx H' k' R x => h c dx W O σ H' (Step.of k' R) R Fx.refl x
end
end CF
end
section
/-! CG5: a, b = e1, e2 where one of them is an object of its own and a name is a cell's. -/
namespace CF
open PySem PySem.Spec PyProof.Rows L2
section
variable {X : Cx} {fr : Bool} {F : List Nat} {Ew : WX} {e e2 : Expr} {pos : Pos} {md me : M D}
theorem sParCOD (i j : Nat) {x y : Str} {px py pt : Pos} {kt k2 pt2} (hF : (F.contains i || F.contains j) = false) (hc : X.calm = true) (hN : X.N.Nodup) (hij : i ≠ j) (ha : PE X e (tF X.K Ew md)) (hb : PE X e2 (tD X.K Ew me))
    (hi : X.N[i]? = some x := by rfl) (hj : X.N[j]? = some y := by rfl) (hx : Loc X.env.scope x := by first | exact Or.inl rfl | exact Or.inr rfl) (hy : Loc X.env.scope y := by first | exact Or.inl rfl | exact Or.inr rfl)
    (hfx : X.fn x = true ∨ X.env.scope.names.lookup x = some .local := by first | exact .inl rfl | exact .inr rfl) (hfy : X.fn y = true ∨ X.env.scope.names.lookup y = some .local := by first | exact .inl rfl | exact .inr rfl)
    (hw : swappedStores [.Tuple [.Name x px, .Name y py] kt pt] (.Tuple [e, e2] k2 pt2) X.env = pure none := by rfl)
    (hs : swapsWithSole [.Tuple [.Name x px, .Name y py] kt pt] (.Tuple [e, e2] k2 pt2) pos.line X.env = pure false := by rfl)
    (h1 : (assignEach [.Tuple [.Name x px, .Name y py] kt pt] X.env).map (·.2) = [assign (.Tuple [.Name x px, .Name y py] kt pt) X.env] := by rfl)
    (hn : (assignEach [.Name x px, .Name y py] X.env).length = 2 := by rfl) (hst : (assignEach [.Name x px, .Name y py] X.env).findIdx? (·.1) = none := by rfl)
    (g1 : (assignEach (.Name x px :: [.Name y py]) X.env).map (·.2) = assign (.Name x px) X.env :: (assignEach [.Name y py] X.env).map (·.2) := by rfl)
    (g2 : (assignEach (.Name y py :: []) X.env).map (·.2) = assign (.Name y py) X.env :: (assignEach [] X.env).map (·.2) := by rfl)
    (s1 : starEach [e, e2] X.env = (false, eval e X.env) :: starEach [e2] X.env := by rfl) (s2 : starEach [e2] X.env = (false, eval e2 X.env) :: starEach [] X.env := by rfl) :
    PS X (.Assign [.Tuple [.Name x px, .Name y py] kt pt] (.Tuple [e, e2] k2 pt2) pos) (tS fr F X.K Ew (mPar2 true false i j md me)) := by
  rw [Bool.or_eq_false_iff] at hF
  have PEt : PE X (.Tuple [e, e2] k2 pt2) (tTup (tCons (tF X.K Ew md) (tCons (tD X.K Ew me) L2.tNil))) := pe_tup (pa_cons ha (pa_cons hb pa_nil s2) s1)
  have PGt : PG X (.Tuple [.Name x px, .Name y py] kt pt) (gTup X.K 2 (gsN [i, j])) := pg_tup hc (gsCons i hN (gsCons j hN gsNil hj hy hfy g2) hi hx hfx g1) hn hst
  refine PS.imp (ps_asg PEt PGt hs hw h1) fun D σ H ⟨W, O, ρ, R, h⟩ => ⟨W, O, ρ, R, ?_⟩
  have h : OutS fr F X.K Ew W O σ H D (M.bind md (fun d => M.bind me (fun e => fun ρ => some (.ok .nx ((ρ.set i (slotOf true d)).set j (slotOf false e))))) ρ) := h
  unfold M.bind at h
  generalize md ρ = r at h
  match r, h with
  | some (.ok d ρ1), h =>
    intro H1 k1 R1 a R2 n o
    simp only at h
    have R3 := R1.hold R2
    refine ⟨plus W a, O, ρ1, R3, ?_⟩
    have na := newO R n
    have S1 : Step W O H (plus W a) O H1 := Step.wide k1 R1 n
    generalize me ρ1 = r2 at h
    match r2, h with
    | some (.ok d2 ρ2), h =>
      intro H2 k2 R4 w rw'
      refine ⟨show 2 ≤ sizeLine by rw [sizeLine_eq]; decide, fun p np => ⟨p, _, rfl, .inl (.inl upd_same), rfl, _, _, rfl, _, _, rfl, rfl, ?_⟩⟩
      have s23 : Same H2 (upd H2 p (.tup [.ref a, w])) := Same.upd np
      have S2 : Step W O H (plus W a) (plus O a) H2 := (S1.trans (Step.of k2 R4)).more n
      have R5 : SRel X.K (plus W a) (plus O a) H2 σ ρ2 := R4.moreO (fun _ z => .inl z) fun b z => z.elim (R4.ow b) .inr
      have o2 : OwnAt X.K (plus W a) H2 a d := o.go (fun b u rd nb => k2.rest b u rd nb) (fun _ _ _ z => z) fun ob eb => k2.own a ob eb (.inr rfl) na
      have o3 : OwnAt X.K (plus W a) (upd H2 p (.tup [.ref a, w])) a d := o2.go (fun b u rd nb => rd_same s23 rd) (fun _ _ _ z => z) fun ob eb => s23 _ _ eb
      have rw3 : Rx X.K (plus W a) (upd H2 p (.tup [.ref a, w])) w d2 := Rx.go (fun b u rd nb => rd_same s23 rd) (fun _ _ _ z => z) _ _ rw'
      have R6 := R5.same s23
      have S3 : Step W O H (plus W a) (plus O a) (upd H2 p (.tup [.ref a, w])) := S2.trans (Step.of (KeepO.of s23) R6)
      exact h _ _ _ _ S3 ((R6.setO i (.inr rfl) o3 (not_own R4 na)).set j rw3) ((Fx.set hF.1).trans (Fx.set hF.2))
    | some (.ex e ρ'), h => exact fun c dx H' k' R' x => h c dx (plus W a) O σ H' (S1.trans (Step.of k' R')) R' Fx.refl x
  | some (.ex e ρ'), h => exact fun c dx H' k' R x => h c dx W O σ H' (Step.of k' R) R Fx.refl x
end
end CF
end
section
/-! CG6: zip of three; a target within a target. -/
namespace CF
open PySem PySem.Spec PyProof.Rows L2
/-- three sequences as they stand at each turn, the items in new tuples -/
def ItzH (K : PySem.W.Frag) (k1 k2 k3 : Bool) (a b c : Addr) : It :=
  ⟨fun i H => ∃ (xs ys zs : List V) (x y z : V), SqB K H a xs k1 ∧ SqB K H b ys k2 ∧ SqB K H c zs k3 ∧ xs[i]? = some x ∧ ys[i]? = some y ∧ zs[i]? = some z,
    fun i H v H' => ∃ T x y z, v = .ref T ∧ H T = none ∧ H' = upd H T (.tup [x, y, z]) ∧ (∀ xs, SqB K H a xs k1 → xs[i]? = some x) ∧ (∀ ys, SqB K H b ys k2 → ys[i]? = some y) ∧ ∀ zs, SqB K H c zs k3 → zs[i]? = some z,
    fun i H => ∃ xs ys zs : List V, SqB K H a xs k1 ∧ SqB K H b ys k2 ∧ SqB K H c zs k3 ∧ i ≤ xs.length ∧ i ≤ ys.length ∧ i ≤ zs.length ∧ (i = xs.length ∨ i = ys.length ∨ i = zs.length)⟩
section
variable {P : Program} {w : World} {K : PySem.W.Frag} {elts : List Expr} {kk : Nat} {tpos : Pos} {k1 k2 k3 : Bool} {a b c z TI TO i1 i2 i3 : Addr}
def zst3 (k1 k2 k3 : Bool) (a b c z TI TO i1 i2 i3 : Addr) (i : Nat) (h : Heap) : Prop := IsZip h z TI TO .none ∧ IsTupOf3 h TI (.ref i1) (.ref i2) (.ref i3) ∧ (∃ x y u, IsTupOf3 h TO x y u) ∧ itB h i1 a i k1 ∧ itB h i2 b i k2 ∧ itB h i3 c i k3
theorem turn_zipH (S : ZipSep3 z TI TO i1 i2 i3 [i1, a] [i2, b] [i3, c]) (n1 : a ≠ i1) (n2 : b ≠ i2) (n3 : c ≠ i3) : Turn P w K (.Tuple elts kk tpos) (ItzH K k1 k2 k3 a b c) [z, TI, TO, i1, i2, i3] z (zst3 k1 k2 k3 a b c z TI TO i1 i2 i3) := by
  have cs : ∀ {c : Addr}, c ∈ [z, TI, TO, i1, i2, i3] → c = z ∨ c = TI ∨ c = TO ∨ c = i1 ∨ c = i2 ∨ c = i3 := fun hc => by simpa using hc
  have inz : z ∈ [z, TI, TO, i1, i2, i3] := by simp
  have inI : TI ∈ [z, TI, TO, i1, i2, i3] := by simp
  have inO : TO ∈ [z, TI, TO, i1, i2, i3] := by simp
  have in1 : i1 ∈ [z, TI, TO, i1, i2, i3] := by simp
  have in2 : i2 ∈ [z, TI, TO, i1, i2, i3] := by simp
  have in3 : i3 ∈ [z, TI, TO, i1, i2, i3] := by simp
  have oth : ∀ {c : Addr}, c ∉ [z, TI, TO, i1, i2, i3] → c ≠ z ∧ c ≠ TO ∧ c ≠ i1 ∧ c ≠ i2 ∧ c ≠ i3 := fun hc => ⟨fun q => hc (q ▸ inz), fun q => hc (q ▸ inO), fun q => hc (q ▸ in1), fun q => hc (q ▸ in2), fun q => hc (q ▸ in3)⟩
  refine ⟨inz, fun i h st c hc => ?_, fun i h h' st k => ?_, ?_, ?_, fun A i s Q E st h => wpAny_pyIter_zip st.1 h⟩
  · obtain ⟨hz, hTI, ⟨x, y, u, hTO⟩, h1, h2, h3⟩ := st
    rcases cs hc with q | q | q | q | q | q <;> rw [q]
    · exact ⟨_, hz, fun v q => nomatch q⟩
    · exact ⟨_, hTI, fun v q => nomatch q⟩
    · exact ⟨_, hTO, fun v q => nomatch q⟩
    · exact itB_obj h1
    · exact itB_obj h2
    · exact itB_obj h3
  · obtain ⟨hz, hTI, ⟨x, y, u, hTO⟩, h1, h2, h3⟩ := st
    exact ⟨k z inz _ hz, k TI inI _ hTI, ⟨x, y, u, k TO inO _ hTO⟩, itB_at h1 fun o q => k i1 in1 o q, itB_at h2 fun o q => k i2 in2 o q, itB_at h3 fun o q => k i3 in3 o q⟩
  · intro X hP hw hK hc i pins s σ H E I hf st hg
    subst hP hw hK
    obtain ⟨hz, hTI, ⟨x0, y0, u0, hTO⟩, h1, h2, h3⟩ := st
    obtain ⟨xs, ys, zs, x, y, u, hqx, hqy, hqz, hx, hy, hzz⟩ := hg
    obtain ⟨its, rv, p, _⟩ := sqB_rd I hqx
    obtain ⟨its2, rv2, p2, _⟩ := sqB_rd I hqy
    obtain ⟨its3, rv3, p3, _⟩ := sqB_rd I hqz
    obtain ⟨w1, hu, ru⟩ := rv.get hx
    obtain ⟨w2, hu2, ru2⟩ := rv2.get hy
    obtain ⟨w3, hu3, ru3⟩ := rv3.get hzz
    have l1 : i < its.toArray.size := by
      obtain ⟨q, _⟩ := List.getElem?_eq_some_iff.mp hu
      simpa using q
    have l2 : i < its2.toArray.size := by
      obtain ⟨q, _⟩ := List.getElem?_eq_some_iff.mp hu2
      simpa using q
    have l3 : i < its3.toArray.size := by
      obtain ⟨q, _⟩ := List.getElem?_eq_some_iff.mp hu3
      simpa using q
    have hzl : z < s.heap.objs.size := Heap.lt_size hz
    have hh : X.A.in1.handled = none := I.ok.hd hc
    refine wpAny_pyNext_zipD3_item S (drawB hh i1 a n1 its.toArray k1) (drawB hh i2 b n2 its2.toArray k2) (drawB hh i3 c n3 its3.toArray k3) hz hTI hTO ⟨h1, p⟩ ⟨h2, p2⟩ ⟨h3, p3⟩ l1 l2 l3 fun v1 v2 v3 h' tk y1 y2 y3 hz' hTO' st1 st2 st3 hT hsz hk => ?_
    have e1 : v1 = w1 := by
      have y1 : its.toArray[i]? = some v1 := y1
      have : its.toArray[i]? = some w1 := by simpa using hu
      rw [y1] at this; exact Option.some.inj this
    have e2 : v2 = w2 := by
      have y2 : its2.toArray[i]? = some v2 := y2
      have : its2.toArray[i]? = some w2 := by simpa using hu2
      rw [y2] at this; exact Option.some.inj this
    have e3 : v3 = w3 := by
      have y3 : its3.toArray[i]? = some v3 := y3
      have : its3.toArray[i]? = some w3 := by simpa using hu3
      rw [y3] at this; exact Option.some.inj this
    subst e1 e2 e3
    refine ⟨_, rfl, wpAny_letOwnedTupleGo_zip (s := { s with heap := h', toks := tk }) hz' fun h'' z'' sb => ?_⟩
    have hT2 : h''.get? s.heap.objs.size = some { cls := .type "tuple", data := .seq #[v1, v2, v3] } := (sb.2 _ (Nat.ne_of_gt hzl)).trans hT
    have new : ObjOk X.prog X.w (upd H s.heap.objs.size (.tup [x, y, u])) h'' s.heap.objs.size (.tup [x, y, u]) := ⟨by show 3 ≤ sizeLine; decide, [v1, v2, v3], .cons ru (.cons ru2 (.cons ru3 .nil)), ⟨_, hT2, rfl, _, rfl⟩⟩
    have I1 : Inv X pins σ (upd H s.heap.objs.size (.tup [x, y, u])) { s with heap := h'', toks := tk } :=
      I.turnedNew (t' := tk) (ch := [z, TI, TO, i1, i2, i3]) (fun c o hb q => (sb.2 c (oth hb).1).trans (hk c o (oth hb).1 (oth hb).2.1 (oth hb).2.2.1 (oth hb).2.2.2.1 (oth hb).2.2.2.2 q)) hf (Nat.le_refl _) new
    refine ⟨.ref s.heap.objs.size, _, I1, rfl, ⟨_, x, y, u, rfl, I.hok.fresh (Nat.le_refl _), rfl, fun l hl => by rw [sqB_inj I hl hqx]; exact hx, fun l hl => by rw [sqB_inj I hl hqy]; exact hy, fun l hl => by rw [sqB_inj I hl hqz]; exact hzz⟩, ⟨z'', ?_, ⟨v1, v2, v3, ?_⟩, ?_, ?_, ?_⟩, fun c hcm => ?_⟩
    · exact (sb.2 _ S.TIz).trans (hk _ _ S.TIz S.TITO S.TIi1 S.TIi2 S.TIi3 hTI)
    · exact (sb.2 _ S.TOz).trans hTO'
    · exact itB_at st1.1 fun o q => (sb.2 _ S.zi1.symm).trans q
    · exact itB_at st2.1 fun o q => (sb.2 _ S.zi2.symm).trans q
    · exact itB_at st3.1 fun o q => (sb.2 _ S.zi3.symm).trans q
    · have hlt : c < s.heap.objs.size := by
        rcases cs hcm with q | q | q | q | q | q <;> rw [q]
        · exact hzl
        · exact Heap.lt_size hTI
        · exact Heap.lt_size hTO
        · obtain ⟨_, e1, _⟩ := itB_obj h1; exact Heap.lt_size e1
        · obtain ⟨_, e2, _⟩ := itB_obj h2; exact Heap.lt_size e2
        · obtain ⟨_, e3, _⟩ := itB_obj h3; exact Heap.lt_size e3
      rw [upd_ne (Nat.ne_of_lt hlt)]
      exact (hf c hcm).1
  · intro X hP hw hK hc i pins s σ H E I hf st hg
    subst hP hw hK
    obtain ⟨hz, hTI, ⟨x0, y0, u0, hTO⟩, h1, h2, h3⟩ := st
    obtain ⟨xs, ys, zs, hqx, hqy, hqz, le1, le2, le3, hend⟩ := hg
    obtain ⟨its, rv, p, _⟩ := sqB_rd I hqx
    obtain ⟨its2, rv2, p2, _⟩ := sqB_rd I hqy
    obtain ⟨its3, rv3, p3, _⟩ := sqB_rd I hqz
    have l1 := rv.length
    have l2 := rv2.length
    have l3 := rv3.length
    have hh : X.A.in1.handled = none := I.ok.hd hc
    have s1 : its.toArray.size = its.length := by simp
    have s2 : its2.toArray.size = its2.length := by simp
    have s3 : its3.toArray.size = its3.length := by simp
    exact wpAny_pyNext_zipD3_end S (drawB hh i1 a n1 its.toArray k1) (drawB hh i2 b n2 its2.toArray k2) (drawB hh i3 c n3 its3.toArray k3) hz hTI hTO ⟨h1, p⟩ ⟨h2, p2⟩ ⟨h3, p3⟩ (by omega) (by omega) (by omega) (by omega) fun h' tk hk => ⟨rfl, I.turnedL (t' := tk) (ch := [z, TI, TO, i1, i2, i3]) (fun c o hb q =>
      hk c o (oth hb).1 (oth hb).2.1 (oth hb).2.2.1 (oth hb).2.2.2.1 (oth hb).2.2.2.2 q) hf⟩
end
def iZipC (K : PySem.W.Frag) (ta : TA) : TI := fun σ H R => ta σ H fun vs H1 => ∃ a b c xs ys zs k1 k2 k3, vs = [.ref a, .ref b, .ref c] ∧ SqB K H1 a xs k1 ∧ SqB K H1 b ys k2 ∧ SqB K H1 c zs k3 ∧ R (ItzH K k1 k2 k3 a b c) H1
theorem pi_zipC {X : Cx} {e e2 e3 : Expr} {ta : TA} {p pos tpos : Pos} {elts : List Expr} {kk : Nat} (hg : Gl X "zip") (hm : X.mg "zip" = none) (ha : PA X [e, e2, e3] ta)
    (hs : starEach [e, e2, e3] X.env = (false, eval e X.env) :: starEach [e2, e3] X.env := by rfl) (hpl : (backTo pos (starEach [e2, e3] X.env)).any (·.1) = false := by rfl) :
    PI X (.Tuple elts kk tpos) (.Call (.Name "zip" p) [e, e2, e3] [] pos) (iZipC X.K ta) := by
  refine ⟨fun pins s σ H R I h => ?_⟩
  refine Call_ (ld_blt I hg hm PyProof.Rows.boot_zip (PyProof.Rows.callWith_type1 (thn (ha.run pos pins s σ H _ I h) fun us s1 ⟨vs, H1, I1, r1, q1⟩ => ?_) hs hpl))
  obtain ⟨a, b, c, xs, ys, zs, k1, k2, k3, ex, hqx, hqy, hqz, q⟩ := q1
  subst ex
  cases r1 with
  | cons r rr =>
    cases rr with
    | cons r' rr =>
      cases rr with
      | cons r'' rr =>
        cases rr
        cases r
        cases r'
        cases r''
        obtain ⟨its, rv, p1, la⟩ := sqB_rd I1 hqx
        obtain ⟨its2, rv2, p2, lb⟩ := sqB_rd I1 hqy
        obtain ⟨its3, rv3, p3, lc⟩ := sqB_rd I1 hqz
        refine zip_begins3 (begB a its.toArray k1) (begB b its2.toArray k2) (begB c its3.toArray k3) p1 p2 p3 fun h' hz hTI hTO g1 g2 g3 hsz hk => wpAny_pyIter_zip hz ?_
        have I2 : Inv X pins σ H1 { s1 with heap := h' } := I1.kept (t' := s1.toks) hk
        have S : ZipSep3 (s1.heap.objs.size + 5) (s1.heap.objs.size + 3) (s1.heap.objs.size + 4) s1.heap.objs.size (s1.heap.objs.size + 1) (s1.heap.objs.size + 2) [s1.heap.objs.size, a] [s1.heap.objs.size + 1, b] [s1.heap.objs.size + 2, c] :=
          zip_sep3 (fun c hc => by rw [List.mem_singleton.mp hc]; exact la) (fun c hc => by rw [List.mem_singleton.mp hc]; exact lb) (fun d hd => by rw [List.mem_singleton.mp hd]; exact lc)
        refine ⟨s1.heap.objs.size + 5, [s1.heap.objs.size + 5, s1.heap.objs.size + 3, s1.heap.objs.size + 4, s1.heap.objs.size, s1.heap.objs.size + 1, s1.heap.objs.size + 2], _, _, H1, rfl, I2, turn_zipH S (Nat.ne_of_lt la) (Nat.ne_of_lt (Nat.lt_succ_of_lt lb)) (Nat.ne_of_lt (Nat.lt_succ_of_lt (Nat.lt_succ_of_lt lc))), ⟨hz, hTI, ⟨_, _, _, hTO⟩, itB_new g1, itB_new g2, itB_new g3⟩, fun c hcm => ?_, q⟩
        have hle : s1.heap.objs.size ≤ c := by
          have e' : c = s1.heap.objs.size + 5 ∨ c = s1.heap.objs.size + 3 ∨ c = s1.heap.objs.size + 4 ∨ c = s1.heap.objs.size ∨ c = s1.heap.objs.size + 1 ∨ c = s1.heap.objs.size + 2 := by simpa using hcm
          rcases e' with z | z | z | z | z | z <;> rw [z] <;> first | exact Nat.le_add_right _ _ | exact Nat.le_refl _
        exact I1.fpOk hle (I1.hok.fresh hle)
/-! ### over trees -/
def zipD3 (xs ys zs : List D) : List D := ((xs.zip ys).zip zs).map fun p => .tuple [p.1.1, p.1.2, p.2]
theorem zipD3_at {xs ys zs : List D} {i : Nat} {d : D} (h : (zipD3 xs ys zs)[i]? = some d) : ∃ x y z, xs[i]? = some x ∧ ys[i]? = some y ∧ zs[i]? = some z ∧ d = .tuple [x, y, z] := by
  unfold zipD3 at h
  rw [List.getElem?_map] at h
  obtain ⟨p, hp, rfl⟩ := Option.map_eq_some_iff.mp h
  obtain ⟨⟨x, y⟩, z⟩ := p
  rw [List.getElem?_zip_eq_some, List.getElem?_zip_eq_some] at hp
  exact ⟨x, y, z, hp.1.1, hp.1.2, hp.2, rfl⟩
def mZp3 (m m2 m3 : M D) : M (List D) := do
  let d ← m
  let e ← m2
  let f ← m3
  lift ((seqD d).bind fun x => (seqD e).bind fun y => (seqD f).map fun z => zipD3 x.2 y.2 z.2)
section
variable {K : PySem.W.Frag} {W O : Addr → Prop} {H0 : Hp}
theorem src_zipC {a b c : Addr} {k1 k2 k3 : Bool} {xs ys zs : List V} {ds es fs : List D} (la : RxL K W H0 xs ds) (ka : ∀ H, KeepO W O H0 H → SqB K H a xs k1) (lb : RxL K W H0 ys es) (kb : ∀ H, KeepO W O H0 H → SqB K H b ys k2) (lc : RxL K W H0 zs fs) (kc : ∀ H, KeepO W O H0 H → SqB K H c zs k3) : Src K (ItzH K k1 k2 k3 a b c) W O H0 (zipD3 ds es fs) := by
  have l1 := la.length
  have l2 := lb.length
  have l3 := lc.length
  have lz : (zipD3 ds es fs).length = min (min ds.length es.length) fs.length := by simp [zipD3]
  refine ⟨fun i H k hi => ?_, fun i H v H' dd k e y => ?_, fun H k => ?_⟩
  · exact ⟨xs, ys, zs, xs[i]'(by omega), ys[i]'(by omega), zs[i]'(by omega), ka H k, kb H k, kc H k, List.getElem?_eq_getElem _, List.getElem?_eq_getElem _, List.getElem?_eq_getElem _⟩
  · obtain ⟨T, x, y, z, rfl, hT, rfl, y1, y2, y3⟩ := y
    obtain ⟨d1, d2, d3, e1, e2, e3, rfl⟩ := zipD3_at e
    have r1 := la.same_at (y1 xs (ka _ k)) e1
    have r2 := lb.same_at (y2 ys (kb _ k)) e2
    have r3 := lc.same_at (y3 zs (kc _ k)) e3
    exact ⟨Same.upd hT, fun W' w1 w2 => tup_at hT w2 (.cons ((r1.later k w1).same (Same.upd hT)) (.cons ((r2.later k w1).same (Same.upd hT)) (.cons ((r3.later k w1).same (Same.upd hT)) .nil)))⟩
  · exact ⟨xs, ys, zs, ka H k, kb H k, kc H k, by omega, by omega, by omega, by omega⟩
end
section
variable {X : Cx} {Ew : WX} {e e2 e3 : Expr} {md me mf : M D} {pos p tpos : Pos} {elts : List Expr} {kk : Nat}
theorem iZp3 (hm : X.mg "zip" = none) (ha : PE X e (tD X.K Ew md)) (hb : PE X e2 (tD X.K Ew me)) (hc : PE X e3 (tD X.K Ew mf)) (hg : Gl X "zip" := by rfl) (hs : starEach [e, e2, e3] X.env = (false, eval e X.env) :: starEach [e2, e3] X.env := by rfl) (hs2 : starEach [e2, e3] X.env = (false, eval e2 X.env) :: starEach [e3] X.env := by rfl) (hs3 : starEach [e3] X.env = (false, eval e3 X.env) :: starEach [] X.env := by rfl) (hpl : (backTo pos (starEach [e2, e3] X.env)).any (·.1) = false := by rfl) :
    PI X (.Tuple elts kk tpos) (.Call (.Name "zip" p) [e, e2, e3] [] pos) (tI X.K Ew (mZp3 md me mf)) := by
  refine PI.imp (pi_zipC (ta := tCons (tD X.K Ew md) (tCons (tD X.K Ew me) (tCons (tD X.K Ew mf) L2.tNil))) hg hm (pa_cons ha (pa_cons hb (pa_cons hc pa_nil hs3) hs2) hs) hs hpl) fun σ H R ⟨W, O, ρ, R0, h⟩ => ⟨W, O, ρ, R0, (Out.bind h).mono fun d ρ1 H1 k1 R1 h1 v rv => ⟨W, O, ρ1, R1, (Out.bind h1).mono fun d2 ρ2 H2 k2 R2 h2 v2 rv2 => ⟨W, O, ρ2, R2, (Out.bind h2).mono fun d3 ρ3 H3 k3 R3 h3 v3 rv3 => ?_⟩⟩⟩
  obtain ⟨r, hf, q⟩ := Out.lift h3 R3
  have rv := (rv.keepO R1 k2).keepO R2 k3
  have rv2 := rv2.keepO R2 k3
  obtain ⟨⟨b1, ds⟩, e1, hf⟩ := Option.bind_eq_some_iff.mp hf
  obtain ⟨⟨b2, es⟩, e2, hf⟩ := Option.bind_eq_some_iff.mp hf
  obtain ⟨⟨b3, fs⟩, e3, rfl⟩ := Option.map_eq_some_iff.mp hf
  obtain ⟨a, xs, rfl, hx, lx, kx⟩ := sq_rx (O := O) rv e1
  obtain ⟨b, ys, rfl, hy, ly, ky⟩ := sq_rx (O := O) rv2 e2
  obtain ⟨c, zs, rfl, hz, lz, kz⟩ := sq_rx (O := O) rv3 e3
  exact ⟨_, _, _, _, _, _, _, _, _, rfl, hx, hy, hz, q H3 KeepO.refl R3 _ (src_zipC lx kx ly ky lz kz)⟩
end
/-! ### a target within a target -/
def bPair (b1 b2 : D → M Unit) (d : D) : M Unit := match d with
  | .tuple [x, y] => fun ρ => match b1 x ρ with
    | some (.ok _ ρ1) => b2 y ρ1
    | _ => none
  | _ => fun _ => none
section
variable {X : Cx} {pos : Pos}
theorem gPair {t1 t2 : Expr} {k : Nat} {is js : List Nat} {b1 b2 : D → M Unit} (hc : X.calm = true) (h1 : PG X t1 (tB X.K is b1)) (h2 : PG X t2 (tB X.K js b2)) (hn : (assignEach [t1, t2] X.env).length = 2 := by rfl) (hst : (assignEach [t1, t2] X.env).findIdx? (·.1) = none := by rfl)
    (hs1 : (assignEach (t1 :: [t2]) X.env).map (·.2) = assign t1 X.env :: (assignEach [t2] X.env).map (·.2) := by rfl) (hs2 : (assignEach (t2 :: []) X.env).map (·.2) = assign t2 X.env :: (assignEach [] X.env).map (·.2) := by rfl) : PG X (.Tuple [t1, t2] k pos) (tB X.K (is ++ js) (bPair b1 b2)) := by
  refine ⟨fun pins s σ H v u Q I r ⟨W, O, ρ, d, ρ', R, rx, hb, q⟩ => ?_⟩
  unfold bPair at hb
  split at hb
  · rename_i x y
    obtain ⟨a, xs, rfl, hx, l⟩ := rx.tuple
    generalize e1 : b1 x ρ = r1 at hb
    match r1, hb with
    | some (.ok _ ρ1), hb =>
      cases l with
      | @cons v1 _ _ _ r1 l =>
        cases l with
        | @cons v2 _ _ _ r2 l =>
          cases l
          refine (pg_tup hc (pgs_cons h1 (pgs_cons h2 pgs_nil hs2) hs1) hn hst).run pins s σ H _ u Q I r ⟨a, _, rfl, hx, rfl, v1, [v2], rfl, W, O, ρ, x, ρ1, R, r1, e1, fun σ1 H1 k1 R1 l1 o1 => ⟨v2, [], rfl, W, O, ρ1, y, ρ', R1, r2.keepO R k1, hb, fun σ2 H2 k2 R2 l2 o2 => ⟨rfl, q σ2 H2 (k1.trans k2) R2 (l2.trans l1) fun j hj => ?_⟩⟩⟩
          rw [List.mem_append, not_or] at hj
          exact (o2 j hj.2).trans (o1 j hj.1)
  · cases hb
end
end CF
end
section
/-! CT, part 0: steps for typed promises. -/
namespace CF
open PySem
/-! ### lists side by side -/
inductive Zip2 {α β : Type} (R : α → β → Prop) : List α → List β → Prop
  | nil : Zip2 R [] []
  | cons {a : α} {b : β} {as : List α} {bs : List β} : R a b → Zip2 R as bs → Zip2 R (a :: as) (b :: bs)
section
variable {α β γ : Type} {R : α → β → Prop}
theorem Zip2.len : ∀ {as : List α} {bs : List β}, Zip2 R as bs → bs.length = as.length
  | _, _, .nil => rfl
  | _, _, .cons _ t => by rw [List.length_cons, List.length_cons, t.len]
theorem Zip2.mono {S : α → β → Prop} (f : ∀ a b, R a b → S a b) : ∀ {as : List α} {bs : List β}, Zip2 R as bs → Zip2 S as bs
  | _, _, .nil => .nil
  | _, _, .cons h t => .cons (f _ _ h) (t.mono f)
theorem Zip2.right {p : β → Prop} (f : ∀ a b, R a b → p b) : ∀ {as : List α} {bs : List β}, Zip2 R as bs → ∀ b ∈ bs, p b
  | _, _, .cons h t, b, hb => by
    rcases List.mem_cons.mp hb with q | q
    · rw [q]; exact f _ _ h
    · exact t.right f b q
theorem Zip2.rightM {p : β → Prop} : ∀ {as : List α} {bs : List β}, Zip2 R as bs → (∀ a ∈ as, ∀ b, R a b → p b) → ∀ b ∈ bs, p b
  | _, _, .nil, _, b, hb => nomatch hb
  | _, _, .cons h t, f, b, hb => by
    rcases List.mem_cons.mp hb with q | q
    · rw [q]; exact f _ (List.mem_cons_self ..) _ h
    · exact t.rightM (fun a ha => f a (List.mem_cons_of_mem _ ha)) b q
/-- the second ones are images -/
theorem Zip2.typed {e : γ → β} {S : α → γ → Prop} (f : ∀ a b, R a b → ∃ c, b = e c ∧ S a c) : ∀ {as : List α} {bs : List β}, Zip2 R as bs → ∃ cs : List γ, bs = cs.map e ∧ Zip2 S as cs
  | _, _, .nil => ⟨[], rfl, .nil⟩
  | _, _, .cons h t => by
    obtain ⟨c, rfl, s⟩ := f _ _ h
    obtain ⟨cs, rfl, z⟩ := t.typed f
    exact ⟨c :: cs, rfl, .cons s z⟩
theorem Zip2.eq_map {f : α → β} : ∀ {as : List α} {bs : List β}, Zip2 (fun a b => b = f a) as bs → bs = as.map f
  | _, _, .nil => rfl
  | _, _, .cons h t => by rw [List.map_cons, t.eq_map, h]
theorem Zip2.map_eq {f : β → γ} {g : α → γ} (h : ∀ a b, R a b → f b = g a) : ∀ {as : List α} {bs : List β}, Zip2 R as bs → bs.map f = as.map g
  | _, _, .nil => rfl
  | _, _, .cons x t => by rw [List.map_cons, List.map_cons, t.map_eq h, h _ _ x]
end
theorem all_typed {α : Type} {e : α → D} {p : α → Prop} {ds : List D} (h : ∀ d ∈ ds, ∃ a, d = e a ∧ p a) : ∃ as : List α, ds = as.map e ∧ ∀ a ∈ as, p a := by
  induction ds with
  | nil => exact ⟨[], rfl, fun _ h => nomatch h⟩
  | cons d ds ih =>
    obtain ⟨a, rfl, pa⟩ := h d (List.mem_cons_self ..)
    obtain ⟨as, rfl, ps⟩ := ih fun x hx => h x (List.mem_cons_of_mem _ hx)
    refine ⟨a :: as, rfl, fun x hx => ?_⟩
    rcases List.mem_cons.mp hx with q | q
    · rw [q]; exact pa
    · exact ps x q
/-! ### calls -/
theorem iFnQ {ρ : List Slot} {g : FM} {xs : List LV} {Q : D → List Slot → Prop} {ds : List D} {r : D} (h1 : argD ρ xs = some ds) (h2 : pureFn g ds (· = r)) (k : Q r ρ) : fnE g xs Q ρ := iFnP h1 h2 fun d e => by rw [e]; exact k
theorem pureQ {g : FM} {args : List D} {r r' : D} (h : pureFn g args (· = r)) (e : r = r') : pureFn g args (· = r') := e ▸ h
/-! ### comprehensions -/
theorem wipe_back {ρ ρ' : List Slot} {vs : List Nat} (h : wipeS ρ' vs = wipeS ρ vs) : backS ρ ρ' vs = ρ := by
  have hl : ρ'.length = ρ.length := by rw [← wipeS_len ρ' vs, h, wipeS_len]
  apply List.ext_getElem?
  intro i
  by_cases hi : i ∈ vs
  · by_cases hb : i < ρ.length
    · obtain ⟨x, hx⟩ : ∃ x, (backS ρ ρ' vs)[i]? = some x := ⟨_, List.getElem?_eq_getElem (by rw [backS_len, hl]; exact hb)⟩
      have := backS_in ρ ρ' vs i hi x hx
      rw [hx, this, List.getElem?_eq_getElem hb]
      simp [hb]
    · rw [List.getElem?_eq_none (by rw [backS_len, hl]; omega), List.getElem?_eq_none (by omega)]
  · rw [backS_at ρ ρ' vs i hi, ← wipeS_at ρ' vs i hi, h, wipeS_at ρ vs i hi]
section
variable {ρ : List Slot} {Q : D → List Slot → Prop} {vs : List Nat} {src : M (List D)} {b : D → M Unit} {elt : M D} {t : M Bool}
theorem lc_filter {ds : List D} {ρ1 : List Slot} (hl : ds.length ≤ sizeLine) (I : List Slot → Prop) (P : D → D → Prop) (p : D → Bool) (i0 : I ρ1)
    (it : ∀ d ∈ ds, ∀ ρ2, I ρ2 → ∃ ρ3, b d (wipeS ρ2 vs) = some (.ok () ρ3) ∧ wp t ρ3 fun c ρ4 => c = p d ∧ if p d = true then wp elt ρ4 fun y ρ5 => P d y ∧ I ρ5 else I ρ4) :
    ∃ rs ρ3, lcGo vs b t elt ds [] ρ1 = some (.ok rs ρ3) ∧ Zip2 P (ds.filter p) rs ∧ I ρ3 := by
  have go : ∀ (ds' acc : List D) (ρ2 : List Slot), (∀ d ∈ ds', d ∈ ds) → acc.length + ds'.length ≤ sizeLine → I ρ2 → ∃ rs ρ3, lcGo vs b t elt ds' acc ρ2 = some (.ok (acc ++ rs) ρ3) ∧ Zip2 P (ds'.filter p) rs ∧ I ρ3 := by
    intro ds'
    induction ds' with
    | nil => exact fun acc ρ2 _ _ i => ⟨[], ρ2, by rw [List.append_nil]; rfl, .nil, i⟩
    | cons d ds' ih =>
      intro acc ρ2 hm hz i
      rw [List.length_cons] at hz
      obtain ⟨ρ3, e3, c, ρ4, e4, ec, q4⟩ := it d (hm d (List.mem_cons_self ..)) ρ2 i
      have body : ∀ {rs : List D} {ρ6 : List Slot}, ((if c = true then (do
        let y ← elt
        if acc.length < sizeLine then lcGo vs b t elt ds' (acc ++ [y]) else fun _ => none : M (List D)) else lcGo vs b t elt ds' acc) ρ4 = some (.ok rs ρ6)) → lcGo vs b t elt (d :: ds') acc ρ2 = some (.ok rs ρ6) := by
        intro rs ρ6 hb
        have hw : wp (lcGo vs b t elt (d :: ds') acc) ρ2 (fun r ρ' => r = rs ∧ ρ' = ρ6) := by
          show wp ((fun ρ => some (.ok () (wipeS ρ vs)) : M Unit) >>= _) ρ2 _
          refine wp_bind.mpr ⟨(), _, rfl, ?_⟩
          refine wp_bind.mpr ⟨(), ρ3, e3, ?_⟩
          refine wp_bind.mpr ⟨c, ρ4, e4, ?_⟩
          exact ⟨_, _, hb, rfl, rfl⟩
        obtain ⟨r, ρ', e, rfl, rfl⟩ := hw
        exact e
      cases hp : p d with
      | true =>
        rw [hp] at ec q4
        rw [if_pos rfl] at q4
        obtain ⟨y, ρ5, e5, py, i5⟩ := q4
        obtain ⟨rs, ρ6, e6, z6, i6⟩ := ih (acc ++ [y]) ρ5 (fun d' h => hm d' (List.mem_cons_of_mem _ h)) (by rw [List.length_append, List.length_singleton]; omega) i5
        refine ⟨y :: rs, ρ6, body ?_, by rw [List.filter_cons, if_pos hp]; exact .cons py z6, i6⟩
        rw [if_pos ec]
        have hw : wp (do let y ← elt; if acc.length < sizeLine then lcGo vs b t elt ds' (acc ++ [y]) else fun _ => none : M (List D)) ρ4 (fun r ρ' => r = acc ++ y :: rs ∧ ρ' = ρ6) := by
          refine wp_bind.mpr ⟨y, ρ5, e5, ?_⟩
          have e7 : (if acc.length < sizeLine then lcGo vs b t elt ds' (acc ++ [y]) else fun _ => none) ρ5 = some (.ok ((acc ++ [y]) ++ rs) ρ6) := by rw [if_pos (by omega)]; exact e6
          refine ⟨_, _, e7, ?_, rfl⟩
          rw [List.append_assoc]
          rfl
        obtain ⟨r, ρ', e, rfl, rfl⟩ := hw
        exact e
      | false =>
        rw [hp] at ec q4
        rw [if_neg Bool.false_ne_true] at q4
        obtain ⟨rs, ρ6, e6, z6, i6⟩ := ih acc ρ4 (fun d' h => hm d' (List.mem_cons_of_mem _ h)) (by omega) q4
        refine ⟨rs, ρ6, body ?_, by rw [List.filter_cons, if_neg (by rw [hp]; exact Bool.false_ne_true)]; exact z6, i6⟩
        rw [if_neg (by rw [ec]; exact Bool.false_ne_true), e6]
  obtain ⟨rs, ρ3, e, z, i3⟩ := go ds [] ρ1 (fun _ h => h) (by simpa using hl) i0
  rw [List.nil_append] at e
  exact ⟨rs, ρ3, e, z, i3⟩
theorem Zip2.unmap {α β γ : Type} {R : β → γ → Prop} {e : α → β} : ∀ {as : List α} {cs : List γ}, Zip2 R (as.map e) cs → Zip2 (fun a c => R (e a) c) as cs
  | [], _, h => by cases h; exact .nil
  | a :: as, _, h => by
    cases h with
    | cons x t => exact .cons x t.unmap
theorem filter_map' {α β : Type} (e : α → β) (p : β → Bool) : ∀ xs : List α, (xs.map e).filter p = (xs.filter fun x => p (e x)).map e
  | [] => rfl
  | x :: xs => by
    rw [List.map_cons, List.filter_cons, List.filter_cons, filter_map' e p xs]
    split <;> rfl
/-- each item's image, nothing else is changed -/
theorem iLCm (h : wp src ρ fun ds ρ1 => ∃ (α : Type) (xs : List α) (e f : α → D), ds = xs.map e ∧ xs.length ≤ sizeLine ∧ (vs.all fun v => !isOwn (ρ1.getD v .un)) = true ∧
    (∀ x ∈ xs, ∃ ρ3, b (e x) (wipeS ρ1 vs) = some (.ok () ρ3) ∧ wp elt ρ3 fun y ρ4 => y = f x ∧ wipeS ρ4 vs = wipeS ρ1 vs) ∧ Q (.list (xs.map f)) ρ1) : wp (mLC vs src b mYes elt) ρ Q := by
  unfold mLC
  refine wp_bind.mpr (h.mono fun ds ρ1 ⟨α, xs, e, f, hd, hl, hv, it, q⟩ => ?_)
  subst hd
  obtain ⟨rs, ρ3, e3, z, i3⟩ := lc_filter (vs := vs) (b := b) (t := mYes) (elt := elt) (ds := xs.map e) (ρ1 := ρ1) (by rw [List.length_map]; exact hl) (fun ρ2 => wipeS ρ2 vs = wipeS ρ1 vs) (fun d y => ∀ x ∈ xs, d = e x → y = f x) (fun _ => true) rfl fun d hd ρ2 i2 => by
    obtain ⟨x, hx, rfl⟩ := List.mem_map.mp hd
    obtain ⟨ρ3, e3, q3⟩ := it x hx
    refine ⟨ρ3, by rw [i2]; exact e3, true, ρ3, rfl, rfl, ?_⟩
    rw [if_pos rfl]
    refine q3.mono fun y ρ4 ⟨h1, h2⟩ => ⟨fun x' hx' ex => ?_, h2⟩
    obtain ⟨ρ3', e3', q3'⟩ := it x' hx'
    rw [← ex, e3] at e3'
    cases e3'
    obtain ⟨y1, ρa, r1, s1⟩ := q3
    obtain ⟨y2, ρb, r2, s2⟩ := q3'
    rw [r1] at r2
    cases r2
    rw [h1, ← s1.1, s2.1]
  refine ⟨.list rs, backS ρ1 ρ3 vs, ?_, ?_⟩
  · simp only
    rw [if_pos hv, e3]
  · rw [wipe_back i3]
    have : rs = xs.map f := by
      rw [List.filter_eq_self.mpr fun _ _ => rfl] at z
      have z' := z.unmap
      have go : ∀ {as : List α} {rs : List D}, (∀ a ∈ as, a ∈ xs) → Zip2 (fun x y => ∀ x' ∈ xs, e x = e x' → y = f x') as rs → rs = as.map f := by
        intro as
        induction as with
        | nil => intro rs _ h; cases h; rfl
        | cons a as ih =>
          intro rs hm h
          cases h with
          | cons h t => rw [List.map_cons, ← ih (fun x hx => hm x (List.mem_cons_of_mem _ hx)) t, h a (hm a (List.mem_cons_self ..)) rfl]
      exact go (fun _ h => h) z'
    rw [this]
    exact q
/-- .. of those items that pass the test -/
theorem iLCf (h : wp src ρ fun ds ρ1 => ∃ (α : Type) (xs : List α) (e : α → D) (p : α → Bool) (f : α → D), ds = xs.map e ∧ xs.length ≤ sizeLine ∧ (vs.all fun v => !isOwn (ρ1.getD v .un)) = true ∧
    (∀ x ∈ xs, ∃ ρ3, b (e x) (wipeS ρ1 vs) = some (.ok () ρ3) ∧ wp t ρ3 fun c ρ4 => c = p x ∧ if p x = true then wp elt ρ4 fun y ρ5 => y = f x ∧ wipeS ρ5 vs = wipeS ρ1 vs else wipeS ρ4 vs = wipeS ρ1 vs) ∧ Q (.list ((xs.filter p).map f)) ρ1) : wp (mLC vs src b t elt) ρ Q := by
  unfold mLC
  refine wp_bind.mpr (h.mono fun ds ρ1 ⟨α, xs, e, p, f, hd, hl, hv, it, q⟩ => ?_)
  subst hd
  have go : ∀ (xs' : List α) (acc : List D) (ρ2 : List Slot), (∀ x ∈ xs', x ∈ xs) → acc.length + xs'.length ≤ sizeLine → wipeS ρ2 vs = wipeS ρ1 vs → ∃ ρ3, lcGo vs b t elt (xs'.map e) acc ρ2 = some (.ok (acc ++ (xs'.filter p).map f) ρ3) ∧ wipeS ρ3 vs = wipeS ρ1 vs := by
    intro xs'
    induction xs' with
    | nil => exact fun acc ρ2 _ _ i => ⟨ρ2, by simp; rfl, i⟩
    | cons d ds' ih =>
      intro acc ρ2 hm hz i
      rw [List.length_cons] at hz
      obtain ⟨ρ3, e3, c, ρ4, e4, ec, q4⟩ := it d (hm d (List.mem_cons_self ..))
      rw [← i] at e3
      have body : ∀ {rs : List D} {ρ6 : List Slot}, ((if c = true then (do
        let y ← elt
        if acc.length < sizeLine then lcGo vs b t elt (ds'.map e) (acc ++ [y]) else fun _ => none : M (List D)) else lcGo vs b t elt (ds'.map e) acc) ρ4 = some (.ok rs ρ6)) → lcGo vs b t elt (e d :: ds'.map e) acc ρ2 = some (.ok rs ρ6) := by
        intro rs ρ6 hb
        have hw : wp (lcGo vs b t elt (e d :: ds'.map e) acc) ρ2 (fun r ρ' => r = rs ∧ ρ' = ρ6) := by
          show wp ((fun ρ => some (.ok () (wipeS ρ vs)) : M Unit) >>= _) ρ2 _
          refine wp_bind.mpr ⟨(), _, rfl, ?_⟩
          refine wp_bind.mpr ⟨(), ρ3, e3, ?_⟩
          refine wp_bind.mpr ⟨c, ρ4, e4, ?_⟩
          exact ⟨_, _, hb, rfl, rfl⟩
        obtain ⟨r, ρ', e, rfl, rfl⟩ := hw
        exact e
      rw [List.map_cons]
      cases hp : p d with
      | true =>
        rw [hp] at ec q4
        rw [if_pos rfl] at q4
        obtain ⟨y, ρ5, e5, py, i5⟩ := q4
        obtain ⟨ρ6, e6, i6⟩ := ih (acc ++ [y]) ρ5 (fun d' h => hm d' (List.mem_cons_of_mem _ h)) (by rw [List.length_append, List.length_singleton]; omega) i5
        refine ⟨ρ6, body ?_, i6⟩
        rw [if_pos ec]
        have hw : wp (do let y ← elt; if acc.length < sizeLine then lcGo vs b t elt (ds'.map e) (acc ++ [y]) else fun _ => none : M (List D)) ρ4 (fun r ρ' => r = acc ++ ((d :: ds').filter p).map f ∧ ρ' = ρ6) := by
          refine wp_bind.mpr ⟨y, ρ5, e5, ?_⟩
          have e7 : (if acc.length < sizeLine then lcGo vs b t elt (ds'.map e) (acc ++ [y]) else fun _ => none) ρ5 = some (.ok ((acc ++ [y]) ++ (ds'.filter p).map f) ρ6) := by rw [if_pos (by omega)]; exact e6
          refine ⟨_, _, e7, ?_, rfl⟩
          rw [List.filter_cons, if_pos hp, List.map_cons, py, List.append_assoc]
          rfl
        obtain ⟨r, ρ', e, rfl, rfl⟩ := hw
        exact e
      | false =>
        rw [hp] at ec q4
        rw [if_neg Bool.false_ne_true] at q4
        obtain ⟨ρ6, e6, i6⟩ := ih acc ρ4 (fun d' h => hm d' (List.mem_cons_of_mem _ h)) (by omega) q4
        refine ⟨ρ6, body ?_, i6⟩
        rw [if_neg (by rw [ec]; exact Bool.false_ne_true), e6, List.filter_cons, if_neg (by rw [hp]; exact Bool.false_ne_true)]
  obtain ⟨ρ3, e3, i3⟩ := go xs [] ρ1 (fun _ h => h) (by simpa using hl) rfl
  rw [List.nil_append] at e3
  refine ⟨_, backS ρ1 ρ3 vs, ?_, by rw [wipe_back i3]; exact q⟩
  simp only
  rw [if_pos hv, e3]
/-- .. drawn from the bag in slot k -/
theorem iLCb (h : wp src ρ fun ds ρ1 => ∃ (k : Nat) (α : Type) (xs : List α) (e : α → D) (P : α → D → Prop), ds = xs.map e ∧ xs.length ≤ sizeLine ∧ (vs.all fun v => !isOwn (ρ1.getD v .un)) = true ∧ k ∉ vs ∧ (∃ bag, ρ1[k]? = some (.own bag) ∧ BagOk bag) ∧
    (∀ x ∈ xs, ∀ bag, BagOk bag → ∃ ρ3, b (e x) (wipeS (ρ1.set k (.own bag)) vs) = some (.ok () ρ3) ∧ wp elt ρ3 fun y ρ4 => P x y ∧ ∃ bag', BagOk bag' ∧ wipeS ρ4 vs = wipeS (ρ1.set k (.own bag')) vs) ∧
    ∀ ys bag, Zip2 P xs ys → BagOk bag → Q (.list ys) (ρ1.set k (.own bag))) : wp (mLC vs src b mYes elt) ρ Q := by
  unfold mLC
  refine wp_bind.mpr (h.mono fun ds ρ1 ⟨k, α, xs, e, P, hd, hl, hv, hk, ⟨bag0, h0, ok0⟩, it, q⟩ => ?_)
  subst hd
  have go : ∀ (xs' : List α) (acc : List D) (ρ2 : List Slot), (∀ x ∈ xs', x ∈ xs) → acc.length + xs'.length ≤ sizeLine → (∃ bag, BagOk bag ∧ wipeS ρ2 vs = wipeS (ρ1.set k (.own bag)) vs) → ∃ rs ρ3, lcGo vs b mYes elt (xs'.map e) acc ρ2 = some (.ok (acc ++ rs) ρ3) ∧ Zip2 P xs' rs ∧ ∃ bag, BagOk bag ∧ wipeS ρ3 vs = wipeS (ρ1.set k (.own bag)) vs := by
    intro xs'
    induction xs' with
    | nil => exact fun acc ρ2 _ _ i => ⟨[], ρ2, by simp; rfl, .nil, i⟩
    | cons d ds' ih =>
      intro acc ρ2 hm hz i
      rw [List.length_cons] at hz
      obtain ⟨bag, okb, eb⟩ := i
      obtain ⟨ρ3, e3, y, ρ4, e4, py, i4⟩ := it d (hm d (List.mem_cons_self ..)) bag okb
      rw [← eb] at e3
      obtain ⟨rs, ρ5, e5, z5, i5⟩ := ih (acc ++ [y]) ρ4 (fun d' h => hm d' (List.mem_cons_of_mem _ h)) (by rw [List.length_append, List.length_singleton]; omega) i4
      refine ⟨y :: rs, ρ5, ?_, .cons py z5, i5⟩
      have hw : wp (lcGo vs b mYes elt (e d :: ds'.map e) acc) ρ2 (fun r ρ' => r = acc ++ y :: rs ∧ ρ' = ρ5) := by
        show wp ((fun ρ => some (.ok () (wipeS ρ vs)) : M Unit) >>= _) ρ2 _
        refine wp_bind.mpr ⟨(), _, rfl, ?_⟩
        refine wp_bind.mpr ⟨(), ρ3, e3, ?_⟩
        refine wp_bind.mpr ⟨true, ρ3, rfl, ?_⟩
        show wp (elt >>= _) ρ3 _
        refine wp_bind.mpr ⟨y, ρ4, e4, ?_⟩
        have e6 : (if acc.length < sizeLine then lcGo vs b mYes elt (ds'.map e) (acc ++ [y]) else fun _ => none) ρ4 = some (.ok ((acc ++ [y]) ++ rs) ρ5) := by rw [if_pos (by omega)]; exact e5
        refine ⟨_, _, e6, ?_, rfl⟩
        rw [List.append_assoc]
        rfl
      obtain ⟨r, ρ', e, rfl, rfl⟩ := hw
      exact e
  have hs : ρ1.set k (.own bag0) = ρ1 := by
    apply List.ext_getElem?
    intro i
    rw [List.getElem?_set]
    split
    · rename_i h; subst h
      split
      · rw [h0]
      · rename_i hb; rw [List.getElem?_eq_none (by omega)]
    · rfl
  obtain ⟨rs, ρ3, e3, z, bag, okb, i3⟩ := go xs [] ρ1 (fun _ h => h) (by simpa using hl) ⟨bag0, ok0, by rw [hs]⟩
  rw [List.nil_append] at e3
  refine ⟨.list rs, backS ρ1 ρ3 vs, ?_, ?_⟩
  · simp only
    rw [if_pos hv, e3]
  · have : backS ρ1 ρ3 vs = backS (ρ1.set k (.own bag)) ρ3 vs := by
      have gen : ∀ us : List Nat, k ∉ us → backS ρ1 ρ3 us = backS (ρ1.set k (.own bag)) ρ3 us := by
        intro us
        induction us with
        | nil => exact fun _ => rfl
        | cons v us ih =>
          intro hn
          rw [List.mem_cons, not_or] at hn
          show (backS ρ1 ρ3 us).set v (ρ1.getD v .un) = (backS (ρ1.set k (.own bag)) ρ3 us).set v ((ρ1.set k (.own bag)).getD v .un)
          rw [ih hn.2]
          congr 1
          simp [List.getD, List.getElem?_set_ne hn.1]
      exact gen vs hk
    rw [this, wipe_back i3]
    exact q rs bag z okb
end
/-! ### loops -/
section
variable {ρ : List Slot} {src : M (List D)} {b : D → M Unit} {body : MS} {QS : RS → List Slot → Prop}
/-- a for loop over typed items -/
theorem iForT (h : wp src ρ fun ds ρ1 => ∃ (α : Type) (xs : List α) (e : α → D) (I : List α → List Slot → Prop), ds = xs.map e ∧ I xs ρ1 ∧ (∀ ρ2, I [] ρ2 → QS .nx ρ2) ∧ ∀ x rest ρ2, x ∈ xs → I (x :: rest) ρ2 → ∃ ρ3, b (e x) ρ2 = some (.ok () ρ3) ∧
    wp body ρ3 fun f ρ4 => match f with
      | .nx => I rest ρ4
      | .ct => I rest ρ4
      | .bk => QS .nx ρ4
      | .rt r => QS (.rt r) ρ4) : wp (mFor src b body) ρ QS := by
  refine iFor (h.mono fun ds ρ1 ⟨α, xs, e, I, hd, i0, ie, it⟩ => ?_)
  subst hd
  refine ⟨fun ds ρ2 => ∃ rest, ds = rest.map e ∧ (∀ x ∈ rest, x ∈ xs) ∧ I rest ρ2, ⟨xs, rfl, fun _ h => h, i0⟩, ?_, ?_⟩
  · rintro ρ2 ⟨rest, e1, _, i⟩
    cases rest with
    | nil => exact ie ρ2 i
    | cons x r => simp at e1
  · rintro d ds ρ2 ⟨rest, e1, hm, i⟩
    cases rest with
    | nil => simp at e1
    | cons x r =>
      rw [List.map_cons, List.cons.injEq] at e1
      obtain ⟨rfl, rfl⟩ := e1
      obtain ⟨ρ3, e3, q⟩ := it x r ρ2 (hm x (List.mem_cons_self ..)) i
      refine ⟨ρ3, e3, q.mono fun f ρ4 q => ?_⟩
      cases f with
      | nx => exact ⟨r, rfl, fun y hy => hm y (List.mem_cons_of_mem _ hy), q⟩
      | ct => exact ⟨r, rfl, fun y hy => hm y (List.mem_cons_of_mem _ hy), q⟩
      | bk => exact q
      | rt _ => exact q
end
theorem iTmp {i : Nat} {t : M Bool} {ρ : List Slot} {ds : List D} {Q : Bool → List Slot → Prop} (hi : ρ[i]? = some (.own (.list ds))) (h : wp t (tmpS i ds ρ) fun c _ => Q c ρ) : wp (mTmp i t) ρ Q := by
  obtain ⟨c, ρ', e, q⟩ := h
  refine ⟨c, ρ, ?_, q⟩
  unfold mTmp
  rw [hi]
  simp only [e]
end CF
namespace CF
open PySem
theorem iZpL {ρ : List Slot} {m m2 : M D} {Q : List D → List Slot → Prop} (h : wp m ρ fun d ρ1 => wp m2 ρ1 fun e ρ2 => ∃ b1 xs b2 ys, seqD d = some (b1, xs) ∧ seqD e = some (b2, ys) ∧ Q (zipD xs ys) ρ2) : wp (mZp m m2) ρ Q := by
  unfold mZp
  refine wp_bind.mpr (h.mono fun d ρ1 q => wp_bind.mpr (q.mono fun e ρ2 ⟨b1, xs, b2, ys, h1, h2, q⟩ => wp_lift.mpr ⟨_, ?_, q⟩))
  rw [h1, h2]
  rfl
theorem zipD_map {α β : Type} (e : α → D) (f : β → D) : ∀ (xs : List α) (ys : List β), zipD (xs.map e) (ys.map f) = (xs.zip ys).map fun p => .tuple [e p.1, f p.2]
  | [], _ => rfl
  | _ :: _, [] => rfl
  | x :: xs, y :: ys => by
    have ih := zipD_map e f xs ys
    unfold zipD at ih ⊢
    rw [List.map_cons, List.map_cons, List.zip_cons_cons, List.map_cons, ih, List.zip_cons_cons, List.map_cons]
theorem rangeD_map (lo : Int) (n : Nat) : rangeD lo n = (List.range n).map fun i => PyData.int (lo + (i : Nat)) := rfl
end CF
end
section
/-! CT, part 1: houses, tables, formulas as data of their own. -/
namespace CF
open PySem
/-! ### texts in order -/
def strLe (a b : Str) : Prop := a.cps.toList ≤ b.cps.toList
def strLt (a b : Str) : Prop := a.cps.toList < b.cps.toList
instance : DecidableRel strLe := fun a b => inferInstanceAs (Decidable (a.cps.toList ≤ b.cps.toList))
instance : DecidableRel strLt := fun a b => inferInstanceAs (Decidable (a.cps.toList < b.cps.toList))
theorem str_ext {a b : Str} (h : a.cps.toList = b.cps.toList) : a = b := by
  obtain ⟨x⟩ := a
  obtain ⟨y⟩ := b
  congr 1
  exact Array.toList_inj.mp h
theorem strLe_refl (a : Str) : strLe a a := List.le_refl _
theorem strLe_trans {a b c : Str} (h1 : strLe a b) (h2 : strLe b c) : strLe a c := List.le_trans h1 h2
theorem strLe_total (a b : Str) : strLe a b ∨ strLe b a := List.le_total _ _
theorem strLe_anti {a b : Str} (h1 : strLe a b) (h2 : strLe b a) : a = b := str_ext (List.le_antisymm h1 h2)
theorem strLt_of {a b : Str} (h : strLe a b) (n : a ≠ b) : strLt a b := by
  by_cases q : a.cps.toList < b.cps.toList
  · exact q
  · exact absurd (strLe_anti h (List.not_lt.mp q)) n
theorem strLt_le {a b : Str} (h : strLt a b) : strLe a b := List.le_of_lt h
theorem strLt_ne {a b : Str} (h : strLt a b) : a ≠ b := fun e => by subst e; exact List.lt_irrefl _ h
theorem strLt_trans {a b c : Str} (h1 : strLt a b) (h2 : strLt b c) : strLt a c := List.lt_trans h1 h2
def ascS (xs : List Str) : List Str := xs.mergeSort fun a b => decide (strLe a b)
theorem sort_strs (xs : List Str) : sortL false (xs.map PyData.str) = (ascS xs).map PyData.str :=
  (PySem.W.sort_maps (s := PySem.W.dataLe false id) PyData.str fun a _ b _ => (congrFun (congrFun (PySem.W.dataLe_str (β := Str) id) a) b).symm).symm
theorem ascS_perm (xs : List Str) : (ascS xs).Perm xs := List.mergeSort_perm _ _
theorem ascS_pw (xs : List Str) : (ascS xs).Pairwise strLe := by
  have h := List.pairwise_mergeSort (le := fun a b : Str => decide (strLe a b)) (fun a b c h1 h2 => decide_eq_true (strLe_trans (of_decide_eq_true h1) (of_decide_eq_true h2))) (fun a b => by
    rcases strLe_total a b with h | h
    · rw [decide_eq_true h]; rfl
    · rw [decide_eq_true h, Bool.or_true]) xs
  exact h.imp fun {a b} z => of_decide_eq_true z
theorem pw_strict {xs : List Str} (h : xs.Pairwise strLe) (n : xs.Nodup) : xs.Pairwise strLt := by
  have := h.and n
  exact this.imp fun {a b} z => strLt_of z.1 z.2
theorem ascS_strict {xs : List Str} (n : xs.Nodup) : (ascS xs).Pairwise strLt := pw_strict (ascS_pw xs) ((ascS_perm xs).nodup_iff.mpr n)
theorem pw_nodupS {xs : List Str} (h : xs.Pairwise strLt) : xs.Nodup := h.imp fun {a b} z => strLt_ne z
theorem canSort_str (xs : List Str) : canSort (xs.map PyData.str) = true := canSort_strs fun d hd => by obtain ⟨x, _, rfl⟩ := List.mem_map.mp hd; rfl
/-! ### data -/
structure Srt where
  nm : Str
  lo : Nat
  hi : Option Nat
def hiD : Option Nat → D
  | none => .none
  | some h => .int h
def Srt.d (s : Srt) : D := .tuple [.str s.nm, .int s.lo, hiD s.hi]
abbrev House := List Srt
def House.d (h : House) : D := .tuple (h.map Srt.d)
def House.nms (h : House) : List Str := h.map Srt.nm
def lotD (l : List Str) : D := .tuple (l.map PyData.str)
def rowD (ns : List Int) : D := .tuple (ns.map PyData.int)
def listD (ns : List Int) : D := .list (ns.map PyData.int)
def cntD (c : List Nat) : D := .tuple (c.map fun n => PyData.int (n : Nat))
abbrev Tbl := List (Str × List Int)
def entD (p : Str × List Int) : D × D := (.str p.1, rowD p.2)
def Tbl.d (t : Tbl) : D := .dict (t.map entD)
def Tbl.row (t : Tbl) (x : Str) : List Int := (t.lookup x).getD []
def Tbl.rows (t : Tbl) (l : List Str) : List Int := (l.map t.row).flatten
inductive Fm where
  | rank (l : List Str) (k : Nat)
  | kth (k : Nat) (ps : List Fm)
mutual
def Fm.d : Fm → D
  | .rank l k => .tuple [.str sRank, lotD l, .int k]
  | .kth k ps => .tuple [.str sKth, .int k, .tuple (Fm.dL ps)]
def Fm.dL : List Fm → List D
  | [] => []
  | p :: ps => Fm.d p :: Fm.dL ps
end
theorem Fm.dL_map : ∀ ps : List Fm, Fm.dL ps = ps.map Fm.d
  | [] => rfl
  | p :: ps => by rw [Fm.dL, Fm.dL_map ps]; rfl
mutual
def Fm.dep : Fm → Nat
  | .rank _ _ => 0
  | .kth _ ps => Fm.depL ps + 1
def Fm.depL : List Fm → Nat
  | [] => 0
  | p :: ps => max (Fm.dep p) (Fm.depL ps)
end
theorem Fm.dep_mem : ∀ {ps : List Fm} {p : Fm}, p ∈ ps → p.dep ≤ Fm.depL ps
  | q :: ps, p, h => by
    rw [Fm.depL]
    rcases List.mem_cons.mp h with e | e
    · rw [e]; exact Nat.le_max_left _ _
    · exact Nat.le_trans (Fm.dep_mem e) (Nat.le_max_right _ _)
mutual
def Fm.val (t : Tbl) : Fm → Option Int
  | .rank l k => kthI (t.rows l) k
  | .kth k ps => kthI ((Fm.valL t ps).filterMap id) k
def Fm.valL (t : Tbl) : List Fm → List (Option Int)
  | [] => []
  | p :: ps => Fm.val t p :: Fm.valL t ps
end
theorem Fm.valL_map (t : Tbl) : ∀ ps : List Fm, Fm.valL t ps = ps.map (Fm.val t)
  | [] => rfl
  | p :: ps => by rw [Fm.valL, Fm.valL_map t ps]; rfl
/-- induction over formulas -/
theorem Fm.ind {P : Fm → Prop} (hr : ∀ l k, P (.rank l k)) (hk : ∀ k ps, (∀ p ∈ ps, P p) → P (.kth k ps)) : ∀ f, P f := by
  have go : ∀ n f, Fm.dep f < n → P f := by
    intro n
    induction n with
    | zero => intro f h; omega
    | succ n ih =>
      intro f h
      cases f with
      | rank l k => exact hr l k
      | kth k ps =>
        refine hk k ps fun p hp => ih p ?_
        have := Fm.dep_mem hp
        rw [Fm.dep] at h
        omega
  exact fun f => go _ f (Nat.lt_succ_self _)
/-- the counts of a lot's sorts together -/
def House.sum (h : House) (c : List Nat) (l : List Str) : Nat := (((h.zip c).filter fun p => decide (p.1.nm ∈ l)).map (·.2)).sum
mutual
def Fm.hold (h : House) (c : List Nat) : Fm → Bool
  | .rank l k => decide (k ≤ h.sum c l)
  | .kth k ps => decide (k ≤ ((Fm.holdL h c ps).filter id).length)
def Fm.holdL (h : House) (c : List Nat) : List Fm → List Bool
  | [] => []
  | p :: ps => Fm.hold h c p :: Fm.holdL h c ps
end
theorem Fm.holdL_map (h : House) (c : List Nat) : ∀ ps : List Fm, Fm.holdL h c ps = ps.map (Fm.hold h c)
  | [] => rfl
  | p :: ps => by rw [Fm.holdL, Fm.holdL_map h c ps]; rfl
/-! ### what is as described -/
def menuS : List Str := [Str.ofString "a", Str.ofString "b", Str.ofString "c", Str.ofString "ab", Str.ofString "rank", Str.ofString "kth", Str.ofString "open", Str.ofString "sort", Str.ofString "rows", Str.ofString "is", Str.ofString "at", Str.ofString "count", Str.ofString "fact", Str.ofString "zzzzzz", Str.ofString "x", Str.ofString "gym", Str.ofString "jvl"]
theorem menu_nodup : menuS.Nodup := by decide +kernel
structure HOk (h : House) : Prop where
  asc : h.nms.Pairwise strLt
  nm : ∀ x ∈ h.nms, x ∈ menuS
  lo : ∀ s ∈ h, s.lo ≤ 3
  hi : ∀ s ∈ h, ∀ m, s.hi = some m → s.lo ≤ m ∧ m ≤ 9
  l1 : 1 ≤ h.length
  l5 : h.length ≤ 5
structure LOk (h : House) (l : List Str) : Prop where
  asc : l.Pairwise strLt
  ne : l ≠ []
  sub : ∀ x ∈ l, x ∈ h.nms
inductive FOk (h : House) (w : Nat) : Nat → Fm → Prop
  | rank {n : Nat} {l : List Str} {k : Nat} : LOk h l → 1 ≤ k → k ≤ 9 → FOk h w n (.rank l k)
  | kth {n k : Nat} {ps : List Fm} : 1 ≤ k → k ≤ ps.length → ps.length ≤ w → (∀ p ∈ ps, FOk h w n p) → FOk h w (n + 1) (.kth k ps)
structure TOk (h : House) (pool : List Int) (t : Tbl) : Prop where
  nms : (t.map (·.1)).Perm h.nms
  asc : ∀ p ∈ t, p.2.Pairwise (· ≤ ·)
  sz : ∀ s ∈ h, s.lo ≤ (t.row s.nm).length ∧ ∀ m, s.hi = some m → (t.row s.nm).length ≤ m
  l9 : ∀ p ∈ t, p.2.length ≤ 9
  num : ∀ p ∈ t, ∀ n ∈ p.2, n ∈ pool
theorem HOk.nodup {h : House} (o : HOk h) : h.nms.Nodup := pw_nodupS o.asc
theorem FOk.dep {h : House} {w n : Nat} {f : Fm} (o : FOk h w n f) : f.dep ≤ n := by
  induction o with
  | rank => rw [Fm.dep]; exact Nat.zero_le _
  | kth _ _ _ _ ih =>
    rename_i ps _ _ _ hps
    rw [Fm.dep]
    refine Nat.succ_le_succ ?_
    clear hps
    rename_i q1 q2 q3
    clear q1 q2 q3
    induction ps with
    | nil => rw [Fm.depL]; exact Nat.zero_le _
    | cons p ps ih2 =>
      rw [Fm.depL]
      exact Nat.max_le.mpr ⟨ih p (List.mem_cons_self ..), ih2 fun q hq => ih q (List.mem_cons_of_mem _ hq)⟩
theorem FOk.mono {h : House} {w w' n : Nat} {f : Fm} (hw : w ≤ w') (o : FOk h w n f) : ∀ {n' : Nat}, n ≤ n' → FOk h w' n' f := by
  induction o with
  | rank a b c => exact fun _ => .rank a b c
  | kth a b c _ ih =>
    intro n' hn
    obtain ⟨j, rfl⟩ : ∃ j, n' = j + 1 := ⟨n' - 1, by omega⟩
    exact .kth a b (by omega) fun p hp => ih p hp (by omega)
/-! ### tables looked up -/
theorem keyEq_str (a b : Str) : keyEq (.str a) (.str b) = decide (a = b) := by
  show (decide (a = b) : Bool) = _
  rfl
theorem look_t {t : Tbl} {x : Str} : lookD (t.map entD) (.str x) = (t.lookup x).map rowD := by
  induction t with
  | nil => rfl
  | cons p t ih =>
    obtain ⟨a, ns⟩ := p
    rw [List.map_cons]
    show (if keyEq (.str a) (.str x) = true then some (rowD ns) else lookD (t.map entD) (.str x)) = _
    rw [List.lookup_cons, ih, keyEq_str]
    by_cases h : a = x
    · subst h
      simp
    · have h2 : (x == a) = false := by simpa using fun e => h e.symm
      rw [h2]
      simp [h]
theorem look_some {t : Tbl} {x : Str} (h : x ∈ t.map (·.1)) : ∃ ns, t.lookup x = some ns ∧ (x, ns) ∈ t := by
  induction t with
  | nil => simp at h
  | cons p t ih =>
    obtain ⟨a, ns⟩ := p
    rw [List.lookup_cons]
    by_cases e : x = a
    · subst e
      exact ⟨ns, by simp, List.mem_cons_self ..⟩
    · have h2 : (x == a) = false := by simpa using e
      rw [h2]
      rw [List.map_cons, List.mem_cons] at h
      obtain ⟨ms, q1, q2⟩ := ih (h.resolve_left e)
      exact ⟨ms, q1, List.mem_cons_of_mem _ q2⟩
theorem look_of_mem {t : Tbl} {p : Str × List Int} (n : (t.map (·.1)).Nodup) (h : p ∈ t) : t.lookup p.1 = some p.2 := by
  induction t with
  | nil => nomatch h
  | cons q t ih =>
    obtain ⟨a, ns⟩ := q
    rw [List.lookup_cons]
    rw [List.map_cons, List.nodup_cons] at n
    rcases List.mem_cons.mp h with e | e
    · subst e; simp
    · have hx : p.1 ≠ a := fun q => n.1 (by rw [← q]; exact List.mem_map_of_mem (f := (·.1)) e)
      have h2 : (p.1 == a) = false := by simpa using hx
      rw [h2]
      exact ih n.2 e
theorem TOk.row_mem {h : House} {pool : List Int} {t : Tbl} (o : TOk h pool t) {x : Str} (hx : x ∈ h.nms) : t.lookup x = some (t.row x) ∧ (x, t.row x) ∈ t := by
  obtain ⟨ns, e, m⟩ := look_some (o.nms.mem_iff.mpr hx)
  have er : t.row x = ns := by unfold Tbl.row; rw [e]; rfl
  rw [er]
  exact ⟨e, m⟩
theorem TOk.ix {h : House} {pool : List Int} {t : Tbl} (o : TOk h pool t) {x : Str} (hx : x ∈ h.nms) : ixD t.d (.str x) = some (rowD (t.row x)) := by
  show (if isKey (.str x) = true then lookD (t.map entD) (.str x) else none) = _
  rw [if_pos (show isKey (.str x) = true from rfl), look_t, (o.row_mem hx).1]
  rfl
theorem TOk.len {h : House} {pool : List Int} {t : Tbl} (o : TOk h pool t) {x : Str} (hx : x ∈ h.nms) : (t.row x).length ≤ 9 := o.l9 _ (o.row_mem hx).2
theorem TOk.mem {h : House} {pool : List Int} {t : Tbl} (o : TOk h pool t) {x : Str} (hx : x ∈ h.nms) : ∀ n ∈ t.row x, n ∈ pool := o.num _ (o.row_mem hx).2
theorem TOk.nodup {h : House} {pool : List Int} {t : Tbl} (oh : HOk h) (o : TOk h pool t) : (t.map (·.1)).Nodup := o.nms.nodup_iff.mpr oh.nodup
theorem rows_le {h : House} {pool : List Int} {t : Tbl} (o : TOk h pool t) : ∀ {l : List Str}, (∀ x ∈ l, x ∈ h.nms) → (t.rows l).length ≤ 9 * l.length
  | [], _ => by simp [Tbl.rows]
  | x :: l, hl => by
    have a := o.len (hl x (List.mem_cons_self ..))
    have b := rows_le o (l := l) fun y hy => hl y (List.mem_cons_of_mem _ hy)
    unfold Tbl.rows at b ⊢
    rw [List.map_cons, List.flatten_cons, List.length_append, List.length_cons]
    omega
theorem rows_pool {h : House} {pool : List Int} {t : Tbl} (o : TOk h pool t) {l : List Str} (hl : ∀ x ∈ l, x ∈ h.nms) : ∀ n ∈ t.rows l, n ∈ pool := by
  intro n hn
  unfold Tbl.rows at hn
  obtain ⟨r, hr, hv⟩ := List.mem_flatten.mp hn
  obtain ⟨x, hx, rfl⟩ := List.mem_map.mp hr
  exact o.mem (hl x hx) n hv
end CF
end
section
/-! CT, part 2: what the laws' own defs draw: names, sorts, houses, numbers, tables. -/
namespace CF
open PySem
local macro_rules | `(tactic| walk_at "hf") => `(tactic| (first
  | with_reducible exact eqD_int | with_reducible exact eqD_str | with_reducible exact neD_int | with_reducible exact addD_int | with_reducible exact addI_int | with_reducible exact subD_int | with_reducible exact geD_int | with_reducible exact gtD_int | with_reducible exact leD_int | with_reducible exact ltD_int | with_reducible exact modD_of (by decide) | with_reducible exact mulD_r (by decide) | with_reducible exact mulD_l (by decide) | with_reducible exact powD_of (by decide) | with_reducible exact ix0 | ((with_reducible show ixD (.list _) (.int _) = _); rfl) | ((with_reducible show ixD (.tuple _) (.int _) = _); rfl)
  | with_reducible exact intC_int | with_reducible exact lenC_list | with_reducible exact lenC_tuple | with_reducible exact tupleC_list | with_reducible exact listC_tuple | with_reducible exact listC_dict | with_reducible exact isN_none | with_reducible exact isN_int | with_reducible exact notN_none | with_reducible exact notN_int | with_reducible exact min2_int | with_reducible exact max2_int | with_reducible exact slD_list | with_reducible exact slD_tuple | with_reducible exact neD_str | with_reducible exact max2_int))
local macro_rules | `(tactic| walk_at "m1") => `(tactic| (first
  | with_reducible refine iSq ?_ | with_reducible refine iThn ?_ | with_reducible refine iIfS ?_ | with_reducible refine iSet ?_ | with_reducible refine iSetB ?_ | with_reducible refine iSetO ?_ | with_reducible refine iRet ?_ | with_reducible refine iNx ?_ | with_reducible refine iThnR ?_
  | with_reducible refine iTest ?_ | with_reducible refine iOp2 ?_ | ((with_reducible refine' iPk ?h1 ?h2); (case h1 => rfl)) | with_reducible refine iV ?_ | with_reducible refine iC ?_ | ((with_reducible refine' iVar ?h1 ?h2); (case h1 => rfl))
  | with_reducible refine iCall ?_ | with_reducible refine iLs0 ?_ | with_reducible refine iLs ?_ | with_reducible refine iSub ?_ | with_reducible refine iSl ?_ | with_reducible refine iSome ?_ | with_reducible refine iNone ?_ | with_reducible refine iLst ?_ | with_reducible refine iTup ?_ | with_reducible refine iDs0 ?_ | with_reducible refine iDs ?_
  | with_reducible refine iAnd ?_ | with_reducible refine iOr ?_ | with_reducible refine iNot ?_ | with_reducible refine iBl ?_ | with_reducible refine iIf ?_ | with_reducible refine iDrop ?_ | with_reducible refine iYes ?_ | with_reducible refine iPar ?_
  | ((with_reducible refine' iAugS ?h1 ?h2); (case h1 => exact ⟨_, rfl⟩))
  | ((with_reducible refine' iPutE ?h1 ?h2 ?h3); (case h1 => rfl); (case h2 => rfl))
  | ((with_reducible refine' iOp2E ?h1 ?h2 ?h3 ?h4); (case h1 => rfl); (case h2 => rfl); (case h3 => walk_at "hf"))
  | ((with_reducible refine' iCallE ?h1 ?h2 ?h3); (case h1 => rfl); (case h2 => walk_at "hf"))
  | with_reducible refine ⟨sz0, ?_⟩ | with_reducible refine ⟨sz1, ?_⟩ | with_reducible refine ⟨sz2, ?_⟩ | with_reducible refine ⟨sz3, ?_⟩ | with_reducible refine ⟨sz4, ?_⟩ | with_reducible refine ⟨sz5, ?_⟩
  | (with_reducible refine ⟨_, rfl, ?_⟩)
  | ((with_reducible refine' ⟨_, ?h1, ?h2⟩); (case h1 => walk_at "hf"))
  | ((with_reducible refine' ⟨⟨_, ?h1⟩, ?h2⟩); (case h1 => rfl))
  | ((with_reducible refine' ⟨_, _, ?h1, ?h2, ?h3⟩); (case h1 => rfl); (case h2 => walk_at "hf"))
  | ((with_reducible refine' ⟨_, _, ?h1, ?h2, ?h3⟩); (case h1 => rfl); (case h2 => rfl))))
theorem perm_unmap {α β : Type} {e : α → β} {ys zs : List β} (h : ys.Perm zs) : ∀ as : List α, zs = as.map e → ∃ bs : List α, ys = bs.map e ∧ bs.Perm as := by
  induction h with
  | nil => exact fun as h => ⟨as, h, .refl _⟩
  | cons x _ ih =>
    intro as h
    cases as with
    | nil => cases h
    | cons a as =>
      rw [List.map_cons, List.cons.injEq] at h
      obtain ⟨bs, e1, p⟩ := ih as h.2
      exact ⟨a :: bs, by rw [List.map_cons, e1, h.1], p.cons a⟩
  | swap x y l =>
    intro as h
    match as, h with
    | a :: b :: as, h =>
      rw [List.map_cons, List.map_cons, List.cons.injEq, List.cons.injEq] at h
      exact ⟨b :: a :: as, by rw [List.map_cons, List.map_cons, h.1, h.2.1, h.2.2], .swap a b as⟩
  | trans _ _ ih1 ih2 =>
    intro as h
    obtain ⟨bs, e1, p1⟩ := ih2 as h
    obtain ⟨cs, e2, p2⟩ := ih1 bs e1
    exact ⟨cs, e2, p2.trans p1⟩
/-- a shuffled row -/
theorem mixed_t {α : Type} {t : D} {e : α → D} {as : List α} (ht : t = .list (as.map e) ∨ t = .tuple (as.map e)) (h1 : as.length < 1048576) : bagFn g_mixed [t] fun d => ∃ bs : List α, d = .list (bs.map e) ∧ bs.Perm as :=
  (mixed_fn ht (by rw [List.length_map]; exact h1)).mono fun d ⟨ys, e1, p⟩ => by
    obtain ⟨bs, rfl, q⟩ := perm_unmap p as rfl
    exact ⟨bs, e1, q⟩
theorem one_t {α : Type} {t : D} {e : α → D} {as : List α} (ht : t = .list (as.map e) ∨ t = .tuple (as.map e)) (h0 : 0 < as.length) (h1 : as.length < 1073741824) : bagFn g_one [t] fun d => ∃ a ∈ as, d = e a :=
  (one_fn ht (by rw [List.length_map]; exact h0) (by rw [List.length_map]; exact h1)).mono fun d h => by
    obtain ⟨a, ha, rfl⟩ := List.mem_map.mp h
    exact ⟨a, ha, rfl⟩
theorem one_i (xs : List Int) (h0 : 0 < xs.length) (h1 : xs.length < 1073741824) : bagFn g_one [.list (xs.map PyData.int)] fun d => ∃ v, d = .int v ∧ v ∈ xs :=
  (one_t (.inl rfl) h0 h1).mono fun d ⟨a, ha, e⟩ => ⟨a, e, ha⟩
/-! ### names -/
def NamesOk (many : Int) (d : D) : Prop := ∃ xs, d = lotD xs ∧ xs.Pairwise strLt ∧ (∀ x ∈ xs, x ∈ menuS) ∧ 1 ≤ xs.length ∧ (xs.length : Int) ≤ many
theorem names_end {many : Nat} {bs menu : List Str} (hm : ∀ x ∈ menu, x ∈ menuS) (hn : menu.Nodup) (h1 : 1 ≤ menu.length) (hp : bs.Perm menu) (m1 : 1 ≤ many) : NamesOk many (lotD (ascS (bs.take many))) := by
  have hl := (ascS_perm (bs.take many)).length_eq
  rw [List.length_take, hp.length_eq] at hl
  refine ⟨_, rfl, ascS_strict ((hp.nodup_iff.mpr hn).sublist (List.take_sublist _ _)), fun x hx => hm x (hp.mem_iff.mp (List.mem_of_mem_take ((ascS_perm _).mem_iff.mp hx))), ?_, ?_⟩
  · omega
  · omega
theorem sort_take (bs : List Str) (many : Int) (h0 : 0 ≤ many) : sortedC [.list (cutL (bs.map PyData.str) none (some many))] = some (.list ((ascS (bs.take many.toNat)).map PyData.str)) := by
  obtain ⟨k, rfl⟩ := Int.eq_ofNat_of_zero_le h0
  rw [cut_to, ← List.map_take, sortedC_of (canSort_str _), sort_strs, Int.toNat_natCast]
def menu15 : List Str := [Str.ofString "a", Str.ofString "b", Str.ofString "c", Str.ofString "ab", Str.ofString "rank", Str.ofString "kth", Str.ofString "open", Str.ofString "sort", Str.ofString "rows", Str.ofString "is", Str.ofString "at", Str.ofString "count", Str.ofString "fact", Str.ofString "zzzzzz", Str.ofString "x"]
theorem menu15_sub : ∀ x ∈ menu15, x ∈ menuS := by
  have h : menu15.all (fun x => decide (x ∈ menuS)) = true := by decide +kernel
  exact fun x hx => of_decide_eq_true (List.all_eq_true.mp h x hx)
theorem menu15_nodup : menu15.Nodup := by decide +kernel
theorem names_t {many : Int} (h0 : 1 ≤ many) : bagFn g_names [.int many] (NamesOk many) := fun bag ok => by
  unfold g_names
  refine run_gives rfl ?_
  unfold b_names
  repeat walk_at "m1"
  refine ⟨by decide, ?_⟩
  repeat walk_at "m1"
  refine iOp2E rfl rfl (addL_list (by decide)) ?_
  repeat walk_at "m1"
  refine iBag rfl ?_
  repeat walk_at "m1"
  refine iBagE rfl rfl ok (mixed_t (as := menuS) (e := PyData.str) (.inl rfl) (by decide)) ?_
  rintro d bag2 ⟨bs, rfl, hp⟩ ok2
  repeat walk_at "m1"
  refine iCallE rfl (sort_take bs many (by omega)) ?_
  repeat walk_at "m1"
  have := names_end (many := many.toNat) (fun _ h => h) menu_nodup (by decide) hp (by omega)
  rw [Int.toNat_of_nonneg (by omega)] at this
  exact ⟨rfl, this, bag2, ok2, rfl⟩
def b_names1 : MS :=
  (mSq (mSet 2 (mLst [(mC (.str (Str.ofString "a"))), (mC (.str (Str.ofString "b"))), (mC (.str (Str.ofString "c"))), (mC (.str (Str.ofString "ab"))), (mC (.str (Str.ofString "rank"))), (mC (.str (Str.ofString "kth"))), (mC (.str (Str.ofString "open"))), (mC (.str (Str.ofString "sort"))), (mC (.str (Str.ofString "rows"))), (mC (.str (Str.ofString "is"))), (mC (.str (Str.ofString "at"))), (mC (.str (Str.ofString "count"))), (mC (.str (Str.ofString "fact"))), (mC (.str (Str.ofString "zzzzzz"))), (mC (.str (Str.ofString "x")))]))
  (mRet (mCall tupleC [(mV (mCall sortedC [(mV (mSl slD (mV (mFn [0] g_mixed [(mPk 0), (mPk 2)])) noneP (someP (mVar 1))))]))])))
def g_names1 : FM := runF false 2 1 [0] b_names1
theorem names1_t {many : Int} (h0 : 1 ≤ many) : bagFn g_names1 [.int many] (NamesOk many) := fun bag ok => by
  unfold g_names1
  refine run_gives rfl ?_
  unfold b_names1
  repeat walk_at "m1"
  refine ⟨by decide, ?_⟩
  repeat walk_at "m1"
  refine iBag rfl ?_
  repeat walk_at "m1"
  refine iBagE rfl rfl ok (mixed_t (as := menu15) (e := PyData.str) (.inl rfl) (by decide)) ?_
  rintro d bag2 ⟨bs, rfl, hp⟩ ok2
  repeat walk_at "m1"
  refine iCallE rfl (sort_take bs many (by omega)) ?_
  repeat walk_at "m1"
  have := names_end (many := many.toNat) menu15_sub menu15_nodup (by decide) hp (by omega)
  rw [Int.toNat_of_nonneg (by omega)] at this
  exact ⟨rfl, this, bag2, ok2, rfl⟩
/-! ### a sort -/
structure SOk (s : Srt) : Prop where
  lo : s.lo ≤ 3
  hi : ∀ m, s.hi = some m → s.lo ≤ m ∧ m ≤ 9
theorem sort_t (x : Str) : bagFn g_sort [.str x] fun d => ∃ s : Srt, d = s.d ∧ s.nm = x ∧ SOk s := fun bag ok => by
  unfold g_sort
  refine run_gives rfl ?_
  unfold b_sort
  repeat walk_at "m1"
  refine iBag rfl ?_
  repeat walk_at "m1"
  refine iBagE rfl rfl ok (take_fn (by decide) (by decide)) ?_
  rintro way bag2 ⟨w, rfl, w0, w1⟩ ok2
  repeat walk_at "m1"
  refine iBag rfl ?_
  repeat walk_at "m1"
  refine iBagE rfl rfl ok2 (one_fn (xs := [.int 0, .int 1, .int 2, .int 1, .int 3]) (.inl rfl) (by decide) (by decide)) ?_
  intro few bag3 hf ok3
  obtain ⟨n, rfl, n0, n1⟩ := int_mem (lo := 0) (hi := 3) rfl hf
  obtain ⟨n, rfl⟩ := Int.eq_ofNat_of_zero_le n0
  have some_ok : ∀ {lo m : Nat}, lo ≤ 3 → lo ≤ m → m ≤ 9 → SOk ⟨x, lo, some m⟩ := fun a b c => ⟨a, fun k hk => by cases hk; exact ⟨b, c⟩⟩
  repeat walk_at "m1"
  refine iteD (fun h => ?_) (fun h => ?_)
  · repeat walk_at "m1"
    exact ⟨rfl, ⟨⟨x, 1, some 1⟩, rfl, rfl, some_ok (by decide) (by decide) (by decide)⟩, bag3, ok3, rfl⟩
  repeat walk_at "m1"
  refine iteD (fun h => ?_) (fun h => ?_)
  · repeat walk_at "m1"
    exact ⟨rfl, ⟨⟨x, n, some n⟩, rfl, rfl, some_ok (by omega) (by omega) (by omega)⟩, bag3, ok3, rfl⟩
  repeat walk_at "m1"
  refine iteD (fun h => ?_) (fun h => ?_)
  · repeat walk_at "m1"
    refine iBag rfl ?_
    repeat walk_at "m1"
    refine iBagE rfl rfl ok3 (take_fn (by decide) (by decide)) ?_
    rintro z bag4 ⟨v, rfl, v0, v1⟩ ok4
    obtain ⟨v, rfl⟩ := Int.eq_ofNat_of_zero_le v0
    repeat walk_at "m1"
    exact ⟨rfl, ⟨⟨x, 0, some (1 + v)⟩, rfl, rfl, some_ok (by omega) (by omega) (by omega)⟩, bag4, ok4, rfl⟩
  repeat walk_at "m1"
  refine iteD (fun h => ?_) (fun h => ?_)
  · repeat walk_at "m1"
    refine iBag rfl ?_
    repeat walk_at "m1"
    refine iBagE rfl rfl ok3 (one_fn (xs := [.int 1, .int 2, .int 0, .int 6]) (.inl rfl) (by decide) (by decide)) ?_
    intro z bag4 hz ok4
    obtain ⟨v, rfl, v0, v1⟩ := int_mem (lo := 0) (hi := 6) rfl hz
    obtain ⟨v, rfl⟩ := Int.eq_ofNat_of_zero_le v0
    repeat walk_at "m1"
    exact ⟨rfl, ⟨⟨x, n, some (n + v)⟩, rfl, rfl, some_ok (by omega) (by omega) (by omega)⟩, bag4, ok4, rfl⟩
  repeat walk_at "m1"
  exact ⟨rfl, ⟨⟨x, n, none⟩, rfl, rfl, ⟨by show n ≤ 3; omega, fun m h => by cases h⟩⟩, bag3, ok3, rfl⟩
/-! ### a house -/
def b_houseG (g : FM) : MS :=
  (mRet (mCall tupleC [(mV (mLC [2] (mIt (mFn [0] g [(mPk 0), (mV (mOp2 addD (mV (mC (.int 1))) (mV (mFn [0] g_take [(mPk 0), (mPk 1)]))))])) (setS 2) mYes (mFn [0] g_sort [(mPk 0), (mPk 2)])))]))
def HouseIs (most : Int) (d : D) : Prop := ∃ h : House, d = h.d ∧ HOk h ∧ (h.length : Int) ≤ most
theorem house_of {xs : List Str} {h : House} (z : Zip2 (fun x s => s.nm = x ∧ SOk s) xs h) (asc : xs.Pairwise strLt) (sub : ∀ x ∈ xs, x ∈ menuS) (l1 : 1 ≤ xs.length) (l5 : xs.length ≤ 5) : HOk h := by
  have e : h.nms = xs := by
    have := z.map_eq (f := Srt.nm) (g := id) fun a b q => q.1
    rw [List.map_id] at this
    exact this
  have o : ∀ s ∈ h, SOk s := z.right fun a b q => q.2
  exact ⟨by rw [e]; exact asc, by rw [e]; exact sub, fun s hs => (o s hs).lo, fun s hs => (o s hs).hi, by rw [z.len]; exact l1, by rw [z.len]; exact l5⟩
theorem house_t {g : FM} (hg : ∀ many : Int, 1 ≤ many → bagFn g [.int many] (NamesOk many)) {most : Int} (h0 : 0 < most) (h1 : most ≤ 5) : bagFn (runF false 2 1 [0] (b_houseG g)) [.int most] (HouseIs most) := fun bag ok => by
  refine run_gives rfl ?_
  unfold b_houseG
  refine iRet (iCall (iLs (iV (iLCb (wIt ?_)))))
  refine iBag rfl ?_
  repeat walk_at "m1"
  refine iBag rfl ?_
  repeat walk_at "m1"
  refine iBagE rfl rfl ok (take_fn h0 (by omega)) ?_
  rintro z bag2 ⟨v, rfl, v0, v1⟩ ok2
  repeat walk_at "m1"
  refine iBagE rfl rfl ok2 (hg _ (by omega)) ?_
  rintro z bag3 ⟨xs, rfl, asc, sub, l1, l2⟩ ok3
  refine ⟨_, rfl, 0, Str, xs, PyData.str, (fun x y => ∃ s : Srt, y = s.d ∧ s.nm = x ∧ SOk s), rfl, by rw [sizeLine_eq]; omega, rfl, by decide, ⟨bag3, rfl, ok3⟩, ?_, ?_⟩
  · intro x hx bag4 ok4
    refine ⟨_, rfl, ?_⟩
    refine iBag rfl ?_
    repeat walk_at "m1"
    refine iBagE rfl rfl ok4 (sort_t x) ?_
    intro r bag5 hr ok5
    exact ⟨hr, bag5, ok5, rfl⟩
  · intro ys bag4 z ok4
    obtain ⟨h, rfl, z2⟩ := z.typed (e := Srt.d) (S := fun x s => s.nm = x ∧ SOk s) fun a b q => q
    repeat walk_at "m1"
    refine ⟨rfl, ⟨h, rfl, house_of z2 asc sub l1 (by omega), by rw [z2.len]; omega⟩, bag4, ok4, rfl⟩
end CF
end
section
/-! CT, part 3: firm houses, cells, numbers, tables, lots, formulas drawn. -/
namespace CF
open PySem
local macro_rules | `(tactic| walk_at "hf") => `(tactic| (first
  | with_reducible exact eqD_int | with_reducible exact eqD_str | with_reducible exact neD_int | with_reducible exact addD_int | with_reducible exact addI_int | with_reducible exact subD_int | with_reducible exact geD_int | with_reducible exact gtD_int | with_reducible exact leD_int | with_reducible exact ltD_int | with_reducible exact modD_of (by decide) | with_reducible exact mulD_r (by decide) | with_reducible exact mulD_l (by decide) | with_reducible exact powD_of (by decide) | with_reducible exact ix0 | ((with_reducible show ixD (.list _) (.int _) = _); rfl) | ((with_reducible show ixD (.tuple _) (.int _) = _); rfl)
  | with_reducible exact intC_int | with_reducible exact lenC_list | with_reducible exact lenC_tuple | with_reducible exact tupleC_list | with_reducible exact listC_tuple | with_reducible exact listC_dict | with_reducible exact isN_none | with_reducible exact isN_int | with_reducible exact notN_none | with_reducible exact notN_int | with_reducible exact min2_int | with_reducible exact max2_int | with_reducible exact slD_list | with_reducible exact slD_tuple | with_reducible exact neD_str | with_reducible exact max2_int))
local macro_rules | `(tactic| walk_at "m1") => `(tactic| (first
  | with_reducible refine iSq ?_ | with_reducible refine iThn ?_ | with_reducible refine iIfS ?_ | with_reducible refine iSet ?_ | with_reducible refine iSetB ?_ | with_reducible refine iSetO ?_ | with_reducible refine iRet ?_ | with_reducible refine iNx ?_ | with_reducible refine iThnR ?_
  | with_reducible refine iTest ?_ | with_reducible refine iOp2 ?_ | ((with_reducible refine' iPk ?h1 ?h2); (case h1 => rfl)) | with_reducible refine iV ?_ | with_reducible refine iC ?_ | ((with_reducible refine' iVar ?h1 ?h2); (case h1 => rfl))
  | with_reducible refine iCall ?_ | with_reducible refine iLs0 ?_ | with_reducible refine iLs ?_ | with_reducible refine iSub ?_ | with_reducible refine iSl ?_ | with_reducible refine iSome ?_ | with_reducible refine iNone ?_ | with_reducible refine iLst ?_ | with_reducible refine iTup ?_ | with_reducible refine iDs0 ?_ | with_reducible refine iDs ?_
  | with_reducible refine iAnd ?_ | with_reducible refine iOr ?_ | with_reducible refine iNot ?_ | with_reducible refine iBl ?_ | with_reducible refine iIf ?_ | with_reducible refine iDrop ?_ | with_reducible refine iYes ?_ | with_reducible refine iPar ?_
  | ((with_reducible refine' iAugS ?h1 ?h2); (case h1 => exact ⟨_, rfl⟩))
  | ((with_reducible refine' iPutE ?h1 ?h2 ?h3); (case h1 => rfl); (case h2 => rfl))
  | ((with_reducible refine' iOp2E ?h1 ?h2 ?h3 ?h4); (case h1 => rfl); (case h2 => rfl); (case h3 => walk_at "hf"))
  | ((with_reducible refine' iCallE ?h1 ?h2 ?h3); (case h1 => rfl); (case h2 => walk_at "hf"))
  | with_reducible refine ⟨sz0, ?_⟩ | with_reducible refine ⟨sz1, ?_⟩ | with_reducible refine ⟨sz2, ?_⟩ | with_reducible refine ⟨sz3, ?_⟩ | with_reducible refine ⟨sz4, ?_⟩ | with_reducible refine ⟨sz5, ?_⟩
  | (with_reducible refine ⟨_, rfl, ?_⟩)
  | ((with_reducible refine' ⟨_, ?h1, ?h2⟩); (case h1 => walk_at "hf"))
  | ((with_reducible refine' ⟨⟨_, ?h1⟩, ?h2⟩); (case h1 => rfl))
  | ((with_reducible refine' ⟨_, _, ?h1, ?h2, ?h3⟩); (case h1 => rfl); (case h2 => walk_at "hf"))
  | ((with_reducible refine' ⟨_, _, ?h1, ?h2, ?h3⟩); (case h1 => rfl); (case h2 => rfl))))
theorem zip2_map {α β : Type} {f : α → β} {R : α → β → Prop} (h : ∀ a, R a (f a)) : ∀ {as : List α}, Zip2 R as (as.map f)
  | [] => .nil
  | a :: _ => .cons (h a) (zip2_map h)
def b_cellG (g : FM) : MS :=
  (mRet (mCall tupleC [(mV (mLC [2] (mIt (mFn [0] g [(mPk 0), (mV (mOp2 addD (mV (mC (.int 1))) (mV (mFn [0] g_take [(mPk 0), (mPk 1)]))))])) (setS 2) mYes (mTup [(mVar 2), (mC (.int 1)), (mC (.int 1))])))]))
theorem cell_t {g : FM} (hg : ∀ many : Int, 1 ≤ many → bagFn g [.int many] (NamesOk many)) {most : Int} (h0 : 0 < most) (h1 : most ≤ 5) : bagFn (runF false 2 1 [0] (b_cellG g)) [.int most] fun d => HouseIs most d ∧ ∃ h : House, d = h.d ∧ ∀ s ∈ h, s.lo = 1 ∧ s.hi = some 1 := fun bag ok => by
  refine run_gives rfl ?_
  unfold b_cellG
  refine iRet (iCall (iLs (iV (iLCm (wIt ?_)))))
  refine iBag rfl ?_
  repeat walk_at "m1"
  refine iBag rfl ?_
  repeat walk_at "m1"
  refine iBagE rfl rfl ok (take_fn h0 (by omega)) ?_
  rintro z bag2 ⟨v, rfl, v0, v1⟩ ok2
  repeat walk_at "m1"
  refine iBagE rfl rfl ok2 (hg _ (by omega)) ?_
  rintro z bag3 ⟨xs, rfl, asc, sub, l1, l2⟩ ok3
  refine ⟨_, rfl, Str, xs, PyData.str, fun x => (Srt.mk x 1 (some 1)).d, rfl, by rw [sizeLine_eq]; omega, rfl, ?_, ?_⟩
  · intro x hx
    refine ⟨_, rfl, ?_⟩
    repeat walk_at "m1"
    exact ⟨rfl, rfl⟩
  · repeat walk_at "m1"
    have z : Zip2 (fun x s => s.nm = x ∧ SOk s) xs (xs.map fun x => Srt.mk x 1 (some 1)) := by
      refine zip2_map fun x => ⟨rfl, ⟨by show 1 ≤ 3; decide, fun m h => by cases h; exact ⟨Nat.le_refl 1, by decide⟩⟩⟩
    have e : PyData.tuple (xs.map fun x => (Srt.mk x 1 (some 1)).d) = House.d (xs.map fun x => Srt.mk x 1 (some 1)) := by unfold House.d; rw [List.map_map]; rfl
    refine ⟨rfl, ⟨⟨_, e, house_of z asc sub l1 (by omega), by rw [List.length_map]; omega⟩, _, e, ?_⟩, bag3, ok3, rfl⟩
    intro s hs
    obtain ⟨x, _, rfl⟩ := List.mem_map.mp hs
    exact ⟨rfl, rfl⟩
def b_firmG (g : FM) : MS :=
  (mSq (mSet 3 (mFn [0] g [(mPk 0), (mV (mOp2 addD (mV (mC (.int 1))) (mV (mFn [0] g_take [(mPk 0), (mPk 1)]))))]))
  (mSq (mSet 4 (mLC [5] (mIt (mVar 3)) (setS 5) mYes (mFn [0] g_one [(mPk 0), (mV (mLst [(mC (.int 1)), (mC (.int 1)), (mVar 2), (mFn [0] g_take [(mPk 0), (mV (mOp2 addD (mPk 2) (mV (mC (.int 1)))))])]))])))
  (mRet (mCall tupleC [(mV (mLC [5, 6] (mZp (mVar 3) (mVar 4)) (bTup [5, 6]) mYes (mTup [(mVar 5), (mVar 6), (mVar 6)])))]))))
theorem firm_t {g : FM} (hg : ∀ many : Int, 1 ≤ many → bagFn g [.int many] (NamesOk many)) {most rows : Int} (h0 : 0 < most) (h1 : most ≤ 5) (r0 : 0 ≤ rows) (r3 : rows ≤ 3) : bagFn (runF false 3 4 [0] (b_firmG g)) [.int most, .int rows] fun d => HouseIs most d ∧ ∃ h : House, d = h.d ∧ ∀ s ∈ h, s.hi = some s.lo := fun bag ok => by
  refine run_gives rfl ?_
  unfold b_firmG
  refine iSq (iSet (iBag rfl ?_))
  repeat walk_at "m1"
  refine iBag rfl ?_
  repeat walk_at "m1"
  refine iBagE rfl rfl ok (take_fn h0 (by omega)) ?_
  rintro z bag2 ⟨v, rfl, v0, v1⟩ ok2
  repeat walk_at "m1"
  refine iBagE rfl rfl ok2 (hg _ (by omega)) ?_
  rintro z bag3 ⟨xs, rfl, asc, sub, l1, l2⟩ ok3
  refine iThn (iSq (iSet (iLCb (wIt (iVar rfl ?_)))))
  refine ⟨_, rfl, 0, Str, xs, PyData.str, (fun _ y => ∃ n : Nat, y = .int n ∧ n ≤ 3), rfl, by rw [sizeLine_eq]; omega, rfl, by decide, ⟨bag3, rfl, ok3⟩, ?_, ?_⟩
  · intro x hx bag4 ok4
    refine ⟨_, rfl, ?_⟩
    refine iBag rfl ?_
    repeat walk_at "m1"
    refine iBag rfl ?_
    repeat walk_at "m1"
    refine iBagE rfl rfl ok4 (take_fn (by omega) (by omega)) ?_
    rintro z bag5 ⟨v, rfl, v0, v1⟩ ok5
    repeat walk_at "m1"
    refine iBagE rfl rfl ok5 (one_i [1, 1, rows, v] (by show 0 < 4; decide) (by show 4 < 1073741824; decide)) ?_
    rintro r bag6 ⟨w, rfl, hw⟩ ok6
    have w2 : 0 ≤ w ∧ w ≤ 3 := by
      simp only [List.mem_cons, List.not_mem_nil, or_false] at hw
      omega
    obtain ⟨w, rfl⟩ := Int.eq_ofNat_of_zero_le w2.1
    exact ⟨⟨w, rfl, by omega⟩, bag6, ok6, rfl⟩
  intro ys bag4 z ok4
  obtain ⟨ns, rfl, z2⟩ := z.typed (e := fun n : Nat => PyData.int n) (S := fun _ n => n ≤ 3) fun a b q => q
  refine iThn (iRet (iCall (iLs (iV (iLCm (iZpL (iVar rfl (iVar rfl ?_))))))))
  refine ⟨_, _, _, _, rfl, rfl, Str × Nat, xs.zip ns, (fun p => .tuple [.str p.1, .int p.2]), (fun p => (Srt.mk p.1 p.2 (some p.2)).d), zipD_map _ _ xs ns, ?_, rfl, ?_, ?_⟩
  · rw [List.length_zip, sizeLine_eq]; omega
  · intro p hp
    refine ⟨_, rfl, ?_⟩
    repeat walk_at "m1"
    exact ⟨rfl, rfl⟩
  · repeat walk_at "m1"
    have z3 : Zip2 (fun x s => s.nm = x ∧ SOk s) xs ((xs.zip ns).map fun p => Srt.mk p.1 p.2 (some p.2)) := by
      have go : ∀ {xs : List Str} {ns : List Nat}, Zip2 (fun _ n => n ≤ 3) xs ns → Zip2 (fun x s => s.nm = x ∧ SOk s) xs ((xs.zip ns).map fun p => Srt.mk p.1 p.2 (some p.2)) := by
        intro xs ns h
        induction h with
        | nil => exact .nil
        | @cons a b _ _ h t ih =>
          rw [List.zip_cons_cons, List.map_cons]
          exact .cons ⟨rfl, ⟨h, fun m e => by cases e; exact ⟨Nat.le_refl _, by show b ≤ 9; omega⟩⟩⟩ ih
      exact go z2
    have e : PyData.tuple ((xs.zip ns).map fun p => (Srt.mk p.1 p.2 (some p.2)).d) = House.d ((xs.zip ns).map fun p => Srt.mk p.1 p.2 (some p.2)) := by unfold House.d; rw [List.map_map]; rfl
    refine ⟨rfl, ⟨⟨_, e, house_of z3 asc sub l1 (by omega), by rw [z3.len]; omega⟩, _, e, ?_⟩, bag4, ok4, rfl⟩
    intro s hs
    obtain ⟨x, _, rfl⟩ := List.mem_map.mp hs
    rfl
/-! ### a house of one of the kinds -/
def b_onehG (gh gf gc : FM) : MS :=
  (mSq (mSet 1 (mFn [0] g_take [(mPk 0), (mV (mC (.int 6)))]))
  (mSq (mIfS (mTest (mOp2 ltD (mPk 1) (mV (mC (.int 4)))))
    (mRet (mFn [0] gh [(mPk 0), (mV (mFn [0] g_one [(mPk 0), (mV (mLst [(mC (.int 4)), (mC (.int 3)), (mC (.int 5))]))]))]))
    mNx)
  (mRet (mIf (mTest (mOp2 eqD (mPk 1) (mV (mC (.int 4))))) (mFn [0] gf [(mPk 0), (mV (mC (.int 3))), (mV (mC (.int 3)))]) (mFn [0] gc [(mPk 0), (mV (mC (.int 4)))])))))
theorem oneh_t {gh gf gc : FM} (hh : ∀ most : Int, 0 < most → most ≤ 5 → bagFn gh [.int most] (HouseIs most)) (hf : bagFn gf [.int 3, .int 3] fun d => HouseIs 3 d) (hc : bagFn gc [.int 4] fun d => HouseIs 4 d) :
    bagFn (runF false 1 1 [0] (b_onehG gh gf gc)) [] fun d => HouseIs 5 d := fun bag ok => by
  refine run_gives rfl ?_
  unfold b_onehG
  have up : ∀ {m : Int} {d : D}, m ≤ 5 → HouseIs m d → HouseIs 5 d := fun h ⟨a, b, c, e⟩ => ⟨a, b, c, by omega⟩
  refine iSq (iSet (iBag rfl ?_))
  repeat walk_at "m1"
  refine iBagE rfl rfl ok (take_fn (by decide) (by decide)) ?_
  rintro z bag2 ⟨v, rfl, v0, v1⟩ ok2
  repeat walk_at "m1"
  refine iteD (fun h => ?_) (fun h => ?_)
  · refine iRet (iBag rfl ?_)
    repeat walk_at "m1"
    refine iBag rfl ?_
    repeat walk_at "m1"
    refine iBagE rfl rfl ok2 (one_i [4, 3, 5] (by decide) (by decide)) ?_
    rintro r bag3 ⟨w, rfl, hw⟩ ok3
    have w2 : 3 ≤ w ∧ w ≤ 5 := by
      simp only [List.mem_cons, List.not_mem_nil, or_false] at hw
      omega
    repeat walk_at "m1"
    refine iBagE rfl rfl ok3 (hh w (by omega) (by omega)) ?_
    intro d bag4 hd ok4
    exact ⟨d, rfl, rfl, up w2.2 hd, bag4, ok4, rfl⟩
  repeat walk_at "m1"
  refine iteD (fun h => ?_) (fun h => ?_)
  · refine iBag rfl ?_
    repeat walk_at "m1"
    refine iBagE rfl rfl ok2 hf ?_
    intro d bag4 hd ok4
    exact ⟨d, rfl, rfl, up (by decide) hd, bag4, ok4, rfl⟩
  · refine iBag rfl ?_
    repeat walk_at "m1"
    refine iBagE rfl rfl ok2 hc ?_
    intro d bag4 hd ok4
    exact ⟨d, rfl, rfl, up (by decide) hd, bag4, ok4, rfl⟩
end CF
end
section
/-! CT, part 4: numbers, tables, lots, formulas drawn. -/
namespace CF
open PySem
local macro_rules | `(tactic| walk_at "hf") => `(tactic| (first
  | with_reducible exact eqD_int | with_reducible exact eqD_str | with_reducible exact neD_int | with_reducible exact addD_int | with_reducible exact addI_int | with_reducible exact subD_int | with_reducible exact geD_int | with_reducible exact gtD_int | with_reducible exact leD_int | with_reducible exact ltD_int | with_reducible exact modD_of (by decide) | with_reducible exact mulD_r (by decide) | with_reducible exact mulD_l (by decide) | with_reducible exact powD_of (by decide) | with_reducible exact ix0 | ((with_reducible show ixD (.list _) (.int _) = _); rfl) | ((with_reducible show ixD (.tuple _) (.int _) = _); rfl)
  | with_reducible exact intC_int | with_reducible exact lenC_list | with_reducible exact lenC_tuple | with_reducible exact tupleC_list | with_reducible exact listC_tuple | with_reducible exact listC_dict | with_reducible exact isN_none | with_reducible exact isN_int | with_reducible exact notN_none | with_reducible exact notN_int | with_reducible exact min2_int | with_reducible exact max2_int | with_reducible exact slD_list | with_reducible exact slD_tuple | with_reducible exact neD_str | with_reducible exact max2_int))
local macro_rules | `(tactic| walk_at "m1") => `(tactic| (first
  | with_reducible refine iSq ?_ | with_reducible refine iThn ?_ | with_reducible refine iIfS ?_ | with_reducible refine iSet ?_ | with_reducible refine iSetB ?_ | with_reducible refine iSetO ?_ | with_reducible refine iRet ?_ | with_reducible refine iNx ?_ | with_reducible refine iThnR ?_
  | with_reducible refine iTest ?_ | with_reducible refine iOp2 ?_ | ((with_reducible refine' iPk ?h1 ?h2); (case h1 => rfl)) | with_reducible refine iV ?_ | with_reducible refine iC ?_ | ((with_reducible refine' iVar ?h1 ?h2); (case h1 => rfl))
  | with_reducible refine iCall ?_ | with_reducible refine iLs0 ?_ | with_reducible refine iLs ?_ | with_reducible refine iSub ?_ | with_reducible refine iSl ?_ | with_reducible refine iSome ?_ | with_reducible refine iNone ?_ | with_reducible refine iLst ?_ | with_reducible refine iTup ?_ | with_reducible refine iDs0 ?_ | with_reducible refine iDs ?_
  | with_reducible refine iAnd ?_ | with_reducible refine iOr ?_ | with_reducible refine iNot ?_ | with_reducible refine iBl ?_ | with_reducible refine iIf ?_ | with_reducible refine iDrop ?_ | with_reducible refine iYes ?_ | with_reducible refine iPar ?_
  | ((with_reducible refine' iAugS ?h1 ?h2); (case h1 => exact ⟨_, rfl⟩))
  | ((with_reducible refine' iPutE ?h1 ?h2 ?h3); (case h1 => rfl); (case h2 => rfl))
  | ((with_reducible refine' iOp2E ?h1 ?h2 ?h3 ?h4); (case h1 => rfl); (case h2 => rfl); (case h3 => walk_at "hf"))
  | ((with_reducible refine' iCallE ?h1 ?h2 ?h3); (case h1 => rfl); (case h2 => walk_at "hf"))
  | with_reducible refine ⟨sz0, ?_⟩ | with_reducible refine ⟨sz1, ?_⟩ | with_reducible refine ⟨sz2, ?_⟩ | with_reducible refine ⟨sz3, ?_⟩ | with_reducible refine ⟨sz4, ?_⟩ | with_reducible refine ⟨sz5, ?_⟩
  | (with_reducible refine ⟨_, rfl, ?_⟩)
  | ((with_reducible refine' ⟨_, ?h1, ?h2⟩); (case h1 => walk_at "hf"))
  | ((with_reducible refine' ⟨⟨_, ?h1⟩, ?h2⟩); (case h1 => rfl))
  | ((with_reducible refine' ⟨_, _, ?h1, ?h2, ?h3⟩); (case h1 => rfl); (case h2 => walk_at "hf"))
  | ((with_reducible refine' ⟨_, _, ?h1, ?h2, ?h3⟩); (case h1 => rfl); (case h2 => rfl))))
def PoolOk (ns : List Int) : Prop := 1 ≤ ns.length ∧ ns.length ≤ 7 ∧ (∀ n ∈ ns, n.natAbs ≤ 10 ^ 30) ∧ ns.Pairwise (· < ·)
theorem numbers_t : bagFn g_numbers [] fun d => ∃ ns, d = listD ns ∧ PoolOk ns := fun bag ok => by
  unfold g_numbers
  refine run_gives rfl ?_
  unfold b_numbers
  repeat walk_at "m1"
  refine iBag rfl ?_
  repeat walk_at "m1"
  refine iOp1 ?_
  repeat walk_at "m1"
  refine iBagE rfl rfl ok (one_i [0, -2, 5, 0, 1 - 10 ^ 30] (by decide) (by decide)) ?_
  rintro low bag2 ⟨lo, rfl, hlow⟩ ok2
  have lo01 : 1 - 10 ^ 30 ≤ lo ∧ lo ≤ 5 := by
    simp only [List.mem_cons, List.not_mem_nil, or_false] at hlow
    omega
  repeat walk_at "m1"
  refine iBag rfl ?_
  repeat walk_at "m1"
  refine iBagE rfl rfl ok2 (one_i [1, 2, 1, 3, 10 ^ 29] (by decide) (by decide)) ?_
  rintro step bag3 ⟨st, rfl, hstep⟩ ok3
  have st01 : 1 ≤ st ∧ st ≤ 10 ^ 29 := by
    simp only [List.mem_cons, List.not_mem_nil, or_false] at hstep
    omega
  repeat walk_at "m1"
  refine iLCm (iRng1 ?_)
  repeat walk_at "m1"
  refine iBag rfl ?_
  repeat walk_at "m1"
  refine iBagE rfl rfl ok3 (take_fn (by decide) (by decide)) ?_
  rintro z bag4 ⟨v, rfl, v0, v1⟩ ok4
  repeat walk_at "m1"
  have hv : (1 + v).toNat ≤ 7 := by omega
  refine ⟨okR_of (by omega) (by omega), Nat, List.range (1 + v).toNat, (fun i => .int (0 + (i : Nat))), (fun i => .int (lo + st * (0 + (i : Nat)))), rangeD_map _ _, by rw [List.length_range, sizeLine_eq]; omega, rfl, ?_, ?_⟩
  · intro j hj
    have hj := List.mem_range.mp hj
    refine ⟨_, rfl, ?_⟩
    repeat walk_at "m1"
    refine iOp2E rfl rfl (mulD_r (small_of (by omega) (by omega))) ?_
    repeat walk_at "m1"
    exact ⟨rfl, rfl⟩
  · have e : PyData.list ((List.range (1 + v).toNat).map fun i => PyData.int (lo + st * (0 + (i : Nat)))) = listD ((List.range (1 + v).toNat).map fun i : Nat => lo + st * (0 + (i : Int))) := by
      unfold listD
      rw [List.map_map]
      rfl
    refine ⟨_, rfl, rfl, ⟨_, e, ?_, ?_, ?_, ?_⟩, bag4, ok4, rfl⟩
    · rw [List.length_map, List.length_range]; omega
    · rw [List.length_map, List.length_range]; omega
    · intro n hn
      obtain ⟨i, hi, rfl⟩ := List.mem_map.mp hn
      have hi := List.mem_range.mp hi
      have b1 : st * (0 + (i : Int)) ≤ 10 ^ 29 * 6 := Int.mul_le_mul st01.2 (by omega) (by omega) (by decide)
      have b0 : 0 ≤ st * (0 + (i : Int)) := Int.mul_nonneg (by omega) (by omega)
      generalize st * (0 + (i : Int)) = q at b0 b1
      omega
    · rw [List.pairwise_map]
      refine (List.pairwise_lt_range (n := (1 + v).toNat)).imp fun {a b} h => ?_
      have : st * (0 + (a : Int)) < st * (0 + (b : Int)) := Int.mul_lt_mul_of_pos_left (by omega) (by omega)
      omega
/-! ### sizes -/
theorem size_t {s : Srt} {more : Int} (hs : SOk s) (m0 : 0 ≤ more) (m1 : more ≤ 6) : bagFn g_size [s.d, .int more] fun d => ∃ v : Nat, d = .int v ∧ s.lo ≤ v ∧ (∀ m, s.hi = some m → v ≤ m) ∧ v ≤ 9 ∧ (v : Int) ≤ s.lo + more := fun bag ok => by
  obtain ⟨nm, lo, hi⟩ := s
  have h3 : lo ≤ 3 := hs.lo
  unfold g_size
  refine run_gives rfl ?_
  unfold b_size
  refine iSqM (fun ρ => ∃ top : Int, lo ≤ top ∧ top ≤ lo + more ∧ (∀ m : Nat, hi = some m → top ≤ m) ∧ ρ = [.own bag, .dat (Srt.mk nm lo hi).d, .dat (.int more), .dat (.int top)]) ?_ ?_
  · cases hi with
    | none =>
      show wp _ [.own bag, .dat (.tuple [.str nm, .int lo, .none]), .dat (.int more), .un] _
      repeat walk_at "m1"
      refine iteT ?_
      repeat walk_at "m1"
      exact ⟨rfl, _, (by omega : (lo : Int) ≤ lo + more), by omega, (fun m h => by cases h), rfl⟩
    | some h =>
      have hh : lo ≤ h := (hs.hi h rfl).1
      show wp _ [.own bag, .dat (.tuple [.str nm, .int lo, .int h]), .dat (.int more), .un] _
      repeat walk_at "m1"
      refine iteF ?_
      repeat walk_at "m1"
      refine ⟨rfl, _, ?_, ?_, fun m e => ?_, rfl⟩
      · show (lo : Int) ≤ if lo + more < h then lo + more else h
        split <;> omega
      · show (if lo + more < h then lo + more else (h : Int)) ≤ lo + more
        split <;> omega
      · cases e
        show (if lo + more < h then lo + more else (h : Int)) ≤ h
        split <;> omega
  · rintro ρ ⟨top, t0, t1, t2, rfl⟩
    show wp _ [.own bag, .dat (.tuple [.str nm, .int lo, hiD hi]), .dat (.int more), .dat (.int top)] _
    repeat walk_at "m1"
    refine iBag rfl ?_
    repeat walk_at "m1"
    refine iBagE rfl rfl ok (take_fn (by omega) (by omega)) ?_
    rintro z bag4 ⟨v, rfl, v0, v1⟩ ok4
    repeat walk_at "m1"
    refine ⟨rfl, ⟨(lo + v).toNat, ?_, by show lo ≤ _; omega, fun m e => ?_, by omega, by show _ ≤ (lo : Int) + more; omega⟩, bag4, ok4, rfl⟩
    · rw [Int.toNat_of_nonneg (by omega)]
    · have := t2 m e
      omega
/-! ### tables -/
theorem menu_strD {x : Str} (h : x ∈ menuS) : PyData.str x ∈ menuD := by
  have e : menuD = menuS.map PyData.str := rfl
  rw [e]; exact List.mem_map_of_mem h
theorem any_keys (t : Tbl) (x : Str) : ((t.map entD).any fun p => keyEq p.1 (.str x)) = decide (x ∈ t.map (·.1)) := by
  induction t with
  | nil => rfl
  | cons p t ih =>
    rw [List.map_cons, List.any_cons, ih, List.map_cons]
    show (keyEq (.str p.1) (.str x) || _) = _
    rw [keyEq_str, Bool.eq_iff_iff]
    simp only [Bool.or_eq_true, decide_eq_true_eq, List.mem_cons]
    exact ⟨fun q => q.imp Eq.symm id, fun q => q.imp Eq.symm id⟩
theorem putL_new {t : Tbl} {x : Str} {ns : List Int} (h : x ∉ t.map (·.1)) : putL (t.map entD) (.str x) (rowD ns) = (t ++ [(x, ns)]).map entD := by
  unfold putL
  rw [any_keys, decide_eq_false h]
  simp [entD]
theorem ascI_pool {ns pool : List Int} (h : ∀ n ∈ ns, n ∈ pool) : ∀ n ∈ ascI ns, n ∈ pool := fun n hn => h n ((asc_perm ns).mem_iff.mp hn)
theorem sort_ints (ns : List Int) : sortedC [.list (ns.map PyData.int)] = some (.list ((ascI ns).map PyData.int)) := by rw [sortedC_of (canSort_ints int_I), sort_asc]
theorem table_t {h : House} {pool : List Int} {more : Int} (oh : HOk h) (hp : 1 ≤ pool.length) (hp2 : pool.length ≤ 1000) (m0 : 0 ≤ more) (m1 : more ≤ 6) : bagFn g_table [h.d, listD pool, .int more] fun d => ∃ t : Tbl, d = t.d ∧ TOk h pool t ∧ ∀ s ∈ h, ((t.row s.nm).length : Int) ≤ s.lo + more := fun bag ok => by
  have l5 := oh.l5
  unfold g_table
  refine run_gives rfl ?_
  unfold b_table
  refine iSq (iSetO (iC ?_))
  refine iThn (iSq (iForT (wIt (iBag rfl ?_))))
  repeat walk_at "m1"
  refine iBagE rfl rfl ok (mixed_t (as := h) (e := Srt.d) (.inr rfl) (by omega)) ?_
  rintro d bag2 ⟨ys, rfl, hperm⟩ ok2
  have hyn : (ys.map Srt.nm).Nodup := (hperm.map Srt.nm).nodup_iff.mpr oh.nodup
  refine ⟨_, rfl, Srt, ys, Srt.d, fun rest ρ => ∃ (done : List Srt) (t : Tbl) (bag : D) (s5 s6 : Slot), ys = done ++ rest ∧ t.map (·.1) = done.map Srt.nm ∧ (∀ p ∈ t, p.2.Pairwise (· ≤ ·)) ∧ (∀ p ∈ t, ∀ n ∈ p.2, n ∈ pool) ∧ (∀ p ∈ t, p.2.length ≤ 9) ∧
      (∀ s ∈ done, ∀ ns, (s.nm, ns) ∈ t → s.lo ≤ ns.length ∧ (∀ m, s.hi = some m → ns.length ≤ m) ∧ (ns.length : Int) ≤ s.lo + more) ∧ BagOk bag ∧ isOwn s6 = false ∧ ρ = [.own bag, .dat h.d, .dat (listD pool), .dat (.int more), .own t.d, s5, s6],
    rfl, ⟨[], [], bag2, .un, .un, rfl, rfl, (fun _ h => nomatch h), (fun _ h => nomatch h), (fun _ h => nomatch h), (fun _ h => nomatch h), ok2, rfl, rfl⟩, ?_, ?_⟩
  · rintro ρ ⟨done, t, bag3, s5, s6, e, t1, t2, t3, t4, t5, ok3, n6, rfl⟩
    rw [List.append_nil] at e
    subst e
    refine iThn (iSq (iRel rfl ?_))
    repeat walk_at "m1"
    have oT : TOk h pool t ∧ ∀ s ∈ h, ((t.row s.nm).length : Int) ≤ s.lo + more := by
      have nms : (t.map (·.1)).Perm h.nms := by rw [t1]; exact hperm.map Srt.nm
      have row : ∀ s ∈ h, (s.nm, t.row s.nm) ∈ t := fun s hs => by
        obtain ⟨ns, e, m⟩ := look_some (t := t) (x := s.nm) (nms.mem_iff.mpr (List.mem_map_of_mem hs))
        have er : t.row s.nm = ns := by unfold Tbl.row; rw [e]; rfl
        rw [er]; exact m
      have q := fun s (hs : s ∈ h) => t5 s (hperm.mem_iff.mpr hs) _ (row s hs)
      exact ⟨⟨nms, t2, fun s hs => ⟨(q s hs).1, (q s hs).2.1⟩, t4, t3⟩, fun s hs => (q s hs).2.2⟩
    exact ⟨rfl, ⟨t, rfl, oT.1, oT.2⟩, bag3, ok3, rfl⟩
  · rintro s rest ρ hsy ⟨done, t, bag3, s5, s6, e, t1, t2, t3, t4, t5, ok3, n6, rfl⟩
    have hs : s ∈ h := hperm.mem_iff.mp hsy
    have so : SOk s := ⟨oh.lo s hs, oh.hi s hs⟩
    have hdl : done.length ≤ 5 := by
      have a := congrArg List.length e
      have b := hperm.length_eq
      rw [List.length_append] at a
      omega
    have tl : t.length = done.length := by
      have := congrArg List.length t1
      rwa [List.length_map, List.length_map] at this
    have hnew : s.nm ∉ t.map (·.1) := by
      rw [t1]
      intro hm
      rw [e, List.map_append, List.nodup_append] at hyn
      exact hyn.2.2 _ hm _ (List.mem_map_of_mem (List.mem_cons_self ..)) rfl
    refine ⟨_, rfl, ?_⟩
    refine iSub (iCall (iLs (iV (iCall (iLs (iV (iLCb (iRng1 (iV (iBag rfl ?_)))))))))) 
    repeat walk_at "m1"
    refine iBagE rfl rfl ok3 (size_t so m0 m1) ?_
    rintro z bag4 ⟨v, rfl, v0, v1, v9, v2⟩ ok4
    refine ⟨v, rfl, okR_of (by omega) (by omega), 0, Nat, List.range v, (fun i => .int (0 + (i : Nat))), (fun _ y => ∃ n : Int, y = .int n ∧ n ∈ pool), rangeD_map _ _, by rw [List.length_range, sizeLine_eq]; omega, (by show (!isOwn s6 && true) = true; rw [n6]; rfl), by decide, ⟨bag4, rfl, ok4⟩, ?_, ?_⟩
    · intro j hj bag5 ok5
      refine ⟨_, rfl, ?_⟩
      refine iBag rfl ?_
      repeat walk_at "m1"
      refine iBagE rfl rfl ok5 (one_i pool (by omega) (by omega)) ?_
      rintro r bag6 ⟨n, rfl, hn⟩ ok6
      exact ⟨⟨n, rfl, hn⟩, bag6, ok6, rfl⟩
    · intro zs bag5 z ok5
      obtain ⟨ns, rfl, z2⟩ := z.typed (e := PyData.int) (S := fun _ n => n ∈ pool) fun a b q => q
      have nl : ns.length = v := by rw [z2.len, List.length_range]
      have np := z2.right (p := fun n => n ∈ pool) fun _ n q => q
      repeat walk_at "m1"
      refine iCallE rfl (sort_ints ns) ?_
      repeat walk_at "m1"
      refine iOp2E rfl rfl (show ixD s.d (.int 0) = some (.str s.nm) from rfl) ?_
      have al : (ascI ns).length = v := by rw [(asc_perm ns).length_eq, nl]
      refine iPutE rfl (put_some (menu_strD (oh.nm _ (List.mem_map_of_mem hs))) (by rw [List.length_map]; omega)) ?_
      have eput : putL (t.map entD) (.str s.nm) (.tuple ((ascI ns).map PyData.int)) = (t ++ [(s.nm, ascI ns)]).map entD := putL_new hnew
      rw [eput]
      refine ⟨done ++ [s], t ++ [(s.nm, ascI ns)], bag5, _, s6, by rw [e, List.append_assoc]; rfl, by rw [List.map_append, List.map_append, t1]; rfl, ?_, ?_, ?_, ?_, ok5, n6, rfl⟩
      · intro p hp
        rcases List.mem_append.mp hp with q | q
        · exact t2 p q
        · rw [List.mem_singleton.mp q]; exact asc_pw ns
      · intro p hp
        rcases List.mem_append.mp hp with q | q
        · exact t3 p q
        · rw [List.mem_singleton.mp q]; exact ascI_pool np
      · intro p hp
        rcases List.mem_append.mp hp with q | q
        · exact t4 p q
        · rw [List.mem_singleton.mp q]; show (ascI ns).length ≤ 9; omega
      · intro s' hs' ms hm
        rcases List.mem_append.mp hm with q | q
        · rcases List.mem_append.mp hs' with q' | q'
          · exact t5 s' q' ms q
          · rw [List.mem_singleton.mp q'] at q
            exact absurd (List.mem_map_of_mem (f := (·.1)) q) hnew
        · have q := List.mem_singleton.mp q
          have e1 : ms = ascI ns := (Prod.mk.inj q).2
          have e2 : s'.nm = s.nm := (Prod.mk.inj q).1
          have e3 : s' = s := by
            rcases List.mem_append.mp hs' with q' | q'
            · exfalso
              apply hnew
              rw [t1, ← e2]
              exact List.mem_map_of_mem q'
            · exact List.mem_singleton.mp q'
          subst e3
          rw [e1, al]
          exact ⟨v0, v1, v2⟩
end CF
end
section
/-! CT, part 5: lots, ranks, formulas drawn. -/
namespace CF
open PySem
local macro_rules | `(tactic| walk_at "hf") => `(tactic| (first
  | with_reducible exact eqD_int | with_reducible exact eqD_str | with_reducible exact neD_int | with_reducible exact addD_int | with_reducible exact addI_int | with_reducible exact subD_int | with_reducible exact geD_int | with_reducible exact gtD_int | with_reducible exact leD_int | with_reducible exact ltD_int | with_reducible exact modD_of (by decide) | with_reducible exact mulD_r (by decide) | with_reducible exact mulD_l (by decide) | with_reducible exact powD_of (by decide) | with_reducible exact ix0 | ((with_reducible show ixD (.list _) (.int _) = _); rfl) | ((with_reducible show ixD (.tuple _) (.int _) = _); rfl)
  | with_reducible exact intC_int | with_reducible exact lenC_list | with_reducible exact lenC_tuple | with_reducible exact tupleC_list | with_reducible exact listC_tuple | with_reducible exact listC_dict | with_reducible exact isN_none | with_reducible exact isN_int | with_reducible exact notN_none | with_reducible exact notN_int | with_reducible exact min2_int | with_reducible exact max2_int | with_reducible exact slD_list | with_reducible exact slD_tuple | with_reducible exact neD_str | with_reducible exact max2_int))
local macro_rules | `(tactic| walk_at "m1") => `(tactic| (first
  | with_reducible refine iSq ?_ | with_reducible refine iThn ?_ | with_reducible refine iIfS ?_ | with_reducible refine iSet ?_ | with_reducible refine iSetB ?_ | with_reducible refine iSetO ?_ | with_reducible refine iRet ?_ | with_reducible refine iNx ?_ | with_reducible refine iThnR ?_
  | with_reducible refine iTest ?_ | with_reducible refine iOp2 ?_ | ((with_reducible refine' iPk ?h1 ?h2); (case h1 => rfl)) | with_reducible refine iV ?_ | with_reducible refine iC ?_ | ((with_reducible refine' iVar ?h1 ?h2); (case h1 => rfl))
  | with_reducible refine iCall ?_ | with_reducible refine iLs0 ?_ | with_reducible refine iLs ?_ | with_reducible refine iSub ?_ | with_reducible refine iSl ?_ | with_reducible refine iSome ?_ | with_reducible refine iNone ?_ | with_reducible refine iLst ?_ | with_reducible refine iTup ?_ | with_reducible refine iDs0 ?_ | with_reducible refine iDs ?_
  | with_reducible refine iAnd ?_ | with_reducible refine iOr ?_ | with_reducible refine iNot ?_ | with_reducible refine iBl ?_ | with_reducible refine iIf ?_ | with_reducible refine iDrop ?_ | with_reducible refine iYes ?_ | with_reducible refine iPar ?_
  | ((with_reducible refine' iAugS ?h1 ?h2); (case h1 => exact ⟨_, rfl⟩))
  | ((with_reducible refine' iPutE ?h1 ?h2 ?h3); (case h1 => rfl); (case h2 => rfl))
  | ((with_reducible refine' iOp2E ?h1 ?h2 ?h3 ?h4); (case h1 => rfl); (case h2 => rfl); (case h3 => walk_at "hf"))
  | ((with_reducible refine' iCallE ?h1 ?h2 ?h3); (case h1 => rfl); (case h2 => walk_at "hf"))
  | with_reducible refine ⟨sz0, ?_⟩ | with_reducible refine ⟨sz1, ?_⟩ | with_reducible refine ⟨sz2, ?_⟩ | with_reducible refine ⟨sz3, ?_⟩ | with_reducible refine ⟨sz4, ?_⟩ | with_reducible refine ⟨sz5, ?_⟩
  | (with_reducible refine ⟨_, rfl, ?_⟩)
  | ((with_reducible refine' ⟨_, ?h1, ?h2⟩); (case h1 => walk_at "hf"))
  | ((with_reducible refine' ⟨⟨_, ?h1⟩, ?h2⟩); (case h1 => rfl))
  | ((with_reducible refine' ⟨_, _, ?h1, ?h2, ?h3⟩); (case h1 => rfl); (case h2 => walk_at "hf"))
  | ((with_reducible refine' ⟨_, _, ?h1, ?h2, ?h3⟩); (case h1 => rfl); (case h2 => rfl))))
theorem lot_t {h : House} (oh : HOk h) : bagFn g_lot [h.d] fun d => ∃ l, d = lotD l ∧ LOk h l := fun bag ok => by
  have l1 := oh.l1
  have l5 := oh.l5
  unfold g_lot
  refine run_gives rfl ?_
  unfold b_lot
  refine iSq (iSet (iLCm (wIt (iVar rfl ?_))))
  refine ⟨_, rfl, Srt, h, Srt.d, (fun s => .str s.nm), rfl, by rw [sizeLine_eq]; omega, rfl, ?_, ?_⟩
  · intro s hs
    refine ⟨_, rfl, ?_⟩
    repeat walk_at "m1"
    exact iOp2E rfl rfl (show ixD s.d (.int 0) = some (.str s.nm) from rfl) ⟨rfl, rfl⟩
  have en : (h.map fun s => PyData.str s.nm) = h.nms.map PyData.str := by unfold House.nms; rw [List.map_map]; rfl
  have nl : h.nms.length = h.length := by unfold House.nms; rw [List.length_map]
  rw [en]
  repeat walk_at "m1"
  refine iBag rfl ?_
  repeat walk_at "m1"
  refine iBagE rfl rfl ok (mixed_t (as := h.nms) (e := PyData.str) (.inl rfl) (by omega)) ?_
  rintro d bag2 ⟨bs, rfl, hp⟩ ok2
  repeat walk_at "m1"
  refine iBag rfl ?_
  repeat walk_at "m1"
  rw [List.length_map]
  refine iBagE rfl rfl ok2 (take_fn (by omega) (by omega)) ?_
  rintro z bag3 ⟨v, rfl, v0, v1⟩ ok3
  repeat walk_at "m1"
  refine iCallE rfl (sort_take bs (1 + v) (by omega)) ?_
  repeat walk_at "m1"
  have hl := (ascS_perm (bs.take (1 + v).toNat)).length_eq
  rw [List.length_take, hp.length_eq] at hl
  refine ⟨rfl, ⟨_, rfl, ascS_strict ((hp.nodup_iff.mpr oh.nodup).sublist (List.take_sublist _ _)), fun e => ?_, fun x hx => hp.mem_iff.mp (List.mem_of_mem_take ((ascS_perm _).mem_iff.mp hx))⟩, bag3, ok3, rfl⟩
  rw [e, List.length_nil] at hl
  omega
theorem rank_t {h : House} {most : Int} (oh : HOk h) (m0 : 0 < most) (m1 : most ≤ 9) : bagFn g_rank [h.d, .int most] fun d => ∃ l k, d = (Fm.rank l k).d ∧ LOk h l ∧ 1 ≤ k ∧ (k : Int) ≤ most := fun bag ok => by
  unfold g_rank
  refine run_gives rfl ?_
  unfold b_rank
  repeat walk_at "m1"
  refine iBag rfl ?_
  repeat walk_at "m1"
  refine iBagE rfl rfl ok (lot_t oh) ?_
  rintro z bag2 ⟨l, rfl, ol⟩ ok2
  repeat walk_at "m1"
  refine iBag rfl ?_
  repeat walk_at "m1"
  refine iBag rfl ?_
  repeat walk_at "m1"
  refine iBagE rfl rfl ok2 (take_fn m0 (by omega)) ?_
  rintro z bag3 ⟨v, rfl, v0, v1⟩ ok3
  repeat walk_at "m1"
  refine iBagE rfl rfl ok3 (one_i [0, 0, v] (by show 0 < 3; decide) (by show 3 < 1073741824; decide)) ?_
  rintro r bag4 ⟨k, rfl, hk⟩ ok4
  have k2 : 0 ≤ k ∧ k < most := by
    simp only [List.mem_cons, List.not_mem_nil, or_false] at hk
    omega
  repeat walk_at "m1"
  refine ⟨rfl, ⟨l, (1 + k).toNat, ?_, ol, by omega, by omega⟩, bag4, ok4, rfl⟩
  rw [Fm.d, Int.toNat_of_nonneg (by omega)]
  rfl
/-! ### formulas -/
theorem formula_t {h : House} {most : Int} (oh : HOk h) (m0 : 0 < most) (m1 : most ≤ 9) : ∀ (n k : Nat) (deep : Int), deep ≤ (n : Int) + 1 → deep ≤ (k : Int) + 1 → ∀ bag left, BagOk bag → gives (g_formula (n + 1)) [.own bag, .dat h.d, .dat (.int deep), .dat (.int most), .own (.list [.int left])]
    fun d ps' => (∃ f : Fm, d = f.d ∧ FOk h 3 k f) ∧ ∃ bag' n', BagOk bag' ∧ ps'.getD 0 .un = .own bag' ∧ ps'.getD 4 .un = .own (.list [.int n']) := by
  have ret : ∀ (k : Nat) (rest : MS) (bag : D) (left deep : Int), BagOk bag → wp (mRet (mFn [0] g_rank [(mPk 0), (mPk 1), (mPk 3)])) [.own bag, .dat h.d, .dat (.int deep), .dat (.int most), .own (.list [.int left]), .un, .un] (thnS rest fun f ρ' => ∃ d, retv false f = some d ∧ allOwn [0, 4] ρ' = true ∧ (∃ f : Fm, d = f.d ∧ FOk h 3 k f) ∧ ∃ bag' n', BagOk bag' ∧ (ρ'.take 5).getD 0 .un = .own bag' ∧ (ρ'.take 5).getD 4 .un = .own (.list [.int n'])) := by
    intro k rest bag left deep ok
    repeat walk_at "m1"
    refine iBag rfl ?_
    repeat walk_at "m1"
    refine iBagE rfl rfl ok (rank_t oh m0 m1) ?_
    rintro d bag2 ⟨l, k2, rfl, ol, k0, k1⟩ ok2
    repeat walk_at "m1"
    exact ⟨rfl, ⟨_, rfl, .rank ol k0 (by omega)⟩, bag2, left, ok2, rfl, rfl⟩
  intro n
  induction n with
  | zero =>
    intro k deep hdeep hk bag left ok
    show gives (runF false 5 2 [0, 4] _) _ _
    refine run_gives rfl ?_
    unfold b_formula
    repeat walk_at "m1"
    refine iteD (fun h => ?_) (fun h => by omega)
    refine iteT ?_
    exact ret k _ bag (left - 1) deep ok
  | succ n ih =>
    intro k deep hdeep hk bag left ok
    show gives (runF false 5 2 [0, 4] _) _ _
    refine run_gives rfl ?_
    unfold b_formula
    repeat walk_at "m1"
    refine iteD (fun hA => ?_) (fun hA => ?_)
    · refine iteT ?_
      exact ret k _ bag (left - 1) deep ok
    repeat walk_at "m1"
    refine iteD (fun h' => ?_) (fun h' => ?_)
    · refine iteT ?_
      exact ret k _ bag (left - 1) deep ok
    repeat walk_at "m1"
    refine iBag rfl ?_
    repeat walk_at "m1"
    refine iBagE rfl rfl ok (take_fn (by decide) (by decide)) ?_
    rintro z bag2 ⟨v, rfl, v0, v1⟩ ok2
    repeat walk_at "m1"
    refine iteD (fun h5 => ?_) (fun h5 => ?_)
    · exact ret k _ bag2 (left - 1) deep ok2
    repeat walk_at "m1"
    obtain ⟨k, rfl⟩ : ∃ j, k = j + 1 := ⟨k - 1, by omega⟩
    refine iFor (iRng1 ?_)
    repeat walk_at "m1"
    refine iBag rfl ?_
    repeat walk_at "m1"
    refine iBagE rfl rfl ok2 (one_fn (xs := [.int 1, .int 1, .int 0, .int 2]) (.inl rfl) (by decide) (by decide)) ?_
    intro z bag3 hz ok3
    obtain ⟨w, rfl, w0, w1⟩ := int_mem (lo := 0) (hi := 2) rfl hz
    repeat walk_at "m1"
    refine ⟨okR_of (by omega) (by omega), fun rest ρ => ∃ (bag : D) (lf : Int) (parts : List Fm) (s6 : Slot), BagOk bag ∧ (parts = [] → 2 ≤ lf ∧ 1 ≤ rest.length) ∧ parts.length + rest.length ≤ 3 ∧ (∀ p ∈ parts, FOk h 3 k p) ∧ ρ = [.own bag, .dat h.d, .dat (.int deep), .dat (.int most), .own (.list [.int lf]), .own (.list (parts.map Fm.d)), s6],
      ⟨bag3, left - 1, [], .un, ok3, fun _ => ⟨by omega, by rw [range_len]; omega⟩, by rw [range_len, List.length_nil]; omega, (fun _ h => absurd h (by simp)), rfl⟩, ?_, ?_⟩
    · rintro ρ ⟨bag4, lf, parts, s6, ok4, hne, hl, hp, rfl⟩
      have hpl : 1 ≤ parts.length := by
        cases parts with
        | nil => have := (hne rfl).2; simp at this
        | cons _ _ => simp
      rw [List.length_nil] at hl
      have el : lenC [.list (parts.map Fm.d)] = some (.int parts.length) := by rw [lenC_list, List.length_map]
      refine iThn (iRet (iTup ?_))
      repeat walk_at "m1"
      refine iBag rfl ?_
      repeat walk_at "m1"
      refine iBag rfl ?_
      repeat walk_at "m1"
      rw [List.length_map]
      refine iBagE rfl rfl ok4 (take_fn (by omega) (by omega)) ?_
      rintro z bag5 ⟨v, rfl, v0, v1⟩ ok5
      repeat walk_at "m1"
      refine iBagE rfl rfl ok5 (one_i [1, (parts.length : Int), 1 + v] (by show 0 < 3; decide) (by show 3 < 1073741824; decide)) ?_
      rintro r bag6 ⟨q, rfl, hq⟩ ok6
      have q2 : 1 ≤ q ∧ q ≤ parts.length := by
        simp only [List.mem_cons, List.not_mem_nil, or_false] at hq
        omega
      repeat walk_at "m1"
      refine ⟨rfl, ⟨.kth q.toNat parts, ?_, .kth (by omega) (by omega) (by omega) hp⟩, bag6, lf, ok6, rfl, rfl⟩
      rw [Fm.d, Fm.dL_map, Int.toNat_of_nonneg (by omega)]
      rfl
    · rintro d ds ρ ⟨bag4, lf, parts, s6, ok4, hne, hl, hp, rfl⟩
      refine ⟨_, rfl, ?_⟩
      rw [List.length_cons] at hl
      repeat walk_at "m1"
      refine iteD (fun hlf => ?_) (fun hlf => ?_)
      · repeat walk_at "m1"
        refine iMut rfl ?_
        repeat walk_at "m1"
        refine iFn2 (by decide) rfl ?_
        repeat walk_at "m1"
        refine ⟨rfl, _, _, _, _, _, rfl, rfl, rfl, ?_⟩
        obtain ⟨r, ps', e, ⟨f, rfl, hf⟩, bag5, n5, ok5, g0, g4⟩ := ih k (deep - 1) (by omega) (by omega) bag4 lf ok4
        refine ⟨_, ps', e, ?_⟩
        simp only [g0, g4]
        repeat walk_at "m1"
        refine iMutE rfl (app_ok (by rw [List.length_map]; omega)) ?_
        refine ⟨bag5, n5, parts ++ [f], .dat d, ok5, fun h => absurd h (by simp), by rw [List.length_append, List.length_singleton]; omega, ?_, ?_⟩
        · intro p hp'
          rcases List.mem_append.mp hp' with h | h
          · exact hp p h
          · rw [List.mem_singleton.mp h]; exact hf
        · rw [List.map_append]
          rfl
      · repeat walk_at "m1"
        refine ⟨bag4, lf, parts, _, ok4, fun h => ?_, by omega, hp, rfl⟩
        have := (hne h).1
        omega
theorem any_t {h : House} (oh : HOk h) : bagFn g_any_formula [h.d] fun d => ∃ f : Fm, d = f.d ∧ FOk h 3 3 f := fun bag ok => by
  unfold g_any_formula
  refine run_gives rfl ?_
  unfold b_any_formula
  repeat walk_at "m1"
  refine iFnT2 rfl ?_
  repeat walk_at "m1"
  refine iBag rfl ?_
  repeat walk_at "m1"
  refine iBagE rfl rfl ok (one_fn (xs := [.int 1, .int 2, .int 2, .int 3, .int 4]) (.inl rfl) (by decide) (by decide)) ?_
  intro z bag2 hz ok2
  obtain ⟨deep, rfl, d0, d1⟩ := int_mem (lo := 1) (hi := 4) rfl hz
  repeat walk_at "m1"
  refine iBag rfl ?_
  repeat walk_at "m1"
  refine iBagE rfl rfl ok2 (one_fn (xs := [.int 2, .int 3, .int 2, .int 9]) (.inl rfl) (by decide) (by decide)) ?_
  intro z bag3 hz ok3
  obtain ⟨most, rfl, m0, m1⟩ := int_mem (lo := 2) (hi := 9) rfl hz
  repeat walk_at "m1"
  refine ⟨show (0 : Nat) ≠ 2 by decide, _, _, _, _, _, rfl, rfl, rfl, ?_⟩
  obtain ⟨r, ps', e, hf, bag5, n5, ok5, g0, g4⟩ := formula_t (most := most) oh (by omega) (by omega) 19 3 deep (by omega) (by omega) bag3 12 ok3
  refine ⟨r, ps', e, ?_⟩
  simp only [g0, g4]
  exact ⟨r, rfl, rfl, hf, bag5, ok5, rfl⟩
end CF
end
section
/-! CT, part 6: values, counts, what holds. -/
namespace CF
open PySem
local macro_rules | `(tactic| walk_at "hf") => `(tactic| (first
  | with_reducible exact eqD_int | with_reducible exact eqD_str | with_reducible exact neD_int | with_reducible exact addD_int | with_reducible exact addI_int | with_reducible exact subD_int | with_reducible exact geD_int | with_reducible exact gtD_int | with_reducible exact leD_int | with_reducible exact ltD_int | with_reducible exact modD_of (by decide) | with_reducible exact mulD_r (by decide) | with_reducible exact mulD_l (by decide) | with_reducible exact powD_of (by decide) | with_reducible exact ix0 | ((with_reducible show ixD (.list _) (.int _) = _); rfl) | ((with_reducible show ixD (.tuple _) (.int _) = _); rfl)
  | with_reducible exact intC_int | with_reducible exact lenC_list | with_reducible exact lenC_tuple | with_reducible exact tupleC_list | with_reducible exact listC_tuple | with_reducible exact listC_dict | with_reducible exact isN_none | with_reducible exact isN_int | with_reducible exact notN_none | with_reducible exact notN_int | with_reducible exact min2_int | with_reducible exact max2_int | with_reducible exact slD_list | with_reducible exact slD_tuple | with_reducible exact neD_str | with_reducible exact max2_int))
local macro_rules | `(tactic| walk_at "m1") => `(tactic| (first
  | with_reducible refine iSq ?_ | with_reducible refine iThn ?_ | with_reducible refine iIfS ?_ | with_reducible refine iSet ?_ | with_reducible refine iSetB ?_ | with_reducible refine iSetO ?_ | with_reducible refine iRet ?_ | with_reducible refine iNx ?_ | with_reducible refine iThnR ?_
  | with_reducible refine iTest ?_ | with_reducible refine iOp2 ?_ | ((with_reducible refine' iPk ?h1 ?h2); (case h1 => rfl)) | with_reducible refine iV ?_ | with_reducible refine iC ?_ | ((with_reducible refine' iVar ?h1 ?h2); (case h1 => rfl))
  | with_reducible refine iCall ?_ | with_reducible refine iLs0 ?_ | with_reducible refine iLs ?_ | with_reducible refine iSub ?_ | with_reducible refine iSl ?_ | with_reducible refine iSome ?_ | with_reducible refine iNone ?_ | with_reducible refine iLst ?_ | with_reducible refine iTup ?_ | with_reducible refine iDs0 ?_ | with_reducible refine iDs ?_
  | with_reducible refine iAnd ?_ | with_reducible refine iOr ?_ | with_reducible refine iNot ?_ | with_reducible refine iBl ?_ | with_reducible refine iIf ?_ | with_reducible refine iDrop ?_ | with_reducible refine iYes ?_ | with_reducible refine iPar ?_
  | ((with_reducible refine' iAugS ?h1 ?h2); (case h1 => exact ⟨_, rfl⟩))
  | ((with_reducible refine' iPutE ?h1 ?h2 ?h3); (case h1 => rfl); (case h2 => rfl))
  | ((with_reducible refine' iOp2E ?h1 ?h2 ?h3 ?h4); (case h1 => rfl); (case h2 => rfl); (case h3 => walk_at "hf"))
  | ((with_reducible refine' iCallE ?h1 ?h2 ?h3); (case h1 => rfl); (case h2 => walk_at "hf"))
  | with_reducible refine ⟨sz0, ?_⟩ | with_reducible refine ⟨sz1, ?_⟩ | with_reducible refine ⟨sz2, ?_⟩ | with_reducible refine ⟨sz3, ?_⟩ | with_reducible refine ⟨sz4, ?_⟩ | with_reducible refine ⟨sz5, ?_⟩
  | (with_reducible refine ⟨_, rfl, ?_⟩)
  | ((with_reducible refine' ⟨_, ?h1, ?h2⟩); (case h1 => walk_at "hf"))
  | ((with_reducible refine' ⟨⟨_, ?h1⟩, ?h2⟩); (case h1 => rfl))
  | ((with_reducible refine' ⟨_, _, ?h1, ?h2, ?h3⟩); (case h1 => rfl); (case h2 => walk_at "hf"))
  | ((with_reducible refine' ⟨_, _, ?h1, ?h2, ?h3⟩); (case h1 => rfl); (case h2 => rfl))))
/-! ### houses of the menu of fifteen -/
def b_house1 : MS :=
  (mRet (mCall tupleC [(mV (mLC [2] (mIt (mFn [0] g_names1 [(mPk 0), (mV (mOp2 addD (mV (mC (.int 1))) (mV (mFn [0] g_take [(mPk 0), (mPk 1)]))))])) (setS 2) mYes (mFn [0] g_sort [(mPk 0), (mPk 2)])))]))
def g_house1 : FM := runF false 2 1 [0] b_house1
def b_cell1 : MS :=
  (mRet (mCall tupleC [(mV (mLC [2] (mIt (mFn [0] g_names1 [(mPk 0), (mV (mOp2 addD (mV (mC (.int 1))) (mV (mFn [0] g_take [(mPk 0), (mPk 1)]))))])) (setS 2) mYes (mTup [(mVar 2), (mC (.int 1)), (mC (.int 1))])))]))
def g_cell1 : FM := runF false 2 1 [0] b_cell1
def b_firm1 : MS :=
  (mSq (mSet 3 (mFn [0] g_names1 [(mPk 0), (mV (mOp2 addD (mV (mC (.int 1))) (mV (mFn [0] g_take [(mPk 0), (mPk 1)]))))]))
  (mSq (mSet 4 (mLC [5] (mIt (mVar 3)) (setS 5) mYes (mFn [0] g_one [(mPk 0), (mV (mLst [(mC (.int 1)), (mC (.int 1)), (mVar 2), (mFn [0] g_take [(mPk 0), (mV (mOp2 addD (mPk 2) (mV (mC (.int 1)))))])]))])))
  (mRet (mCall tupleC [(mV (mLC [5, 6] (mZp (mVar 3) (mVar 4)) (bTup [5, 6]) mYes (mTup [(mVar 5), (mVar 6), (mVar 6)])))]))))
def g_firm1 : FM := runF false 3 4 [0] b_firm1
def b_oneh1 : MS :=
  (mSq (mSet 1 (mFn [0] g_take [(mPk 0), (mV (mC (.int 6)))]))
  (mSq (mIfS (mTest (mOp2 ltD (mPk 1) (mV (mC (.int 4)))))
    (mRet (mFn [0] g_house1 [(mPk 0), (mV (mFn [0] g_one [(mPk 0), (mV (mLst [(mC (.int 4)), (mC (.int 3)), (mC (.int 5))]))]))]))
    mNx)
  (mRet (mIf (mTest (mOp2 eqD (mPk 1) (mV (mC (.int 4))))) (mFn [0] g_firm1 [(mPk 0), (mV (mC (.int 3))), (mV (mC (.int 3)))]) (mFn [0] g_cell1 [(mPk 0), (mV (mC (.int 4)))])))))
def g_oneh1 : FM := runF false 1 1 [0] b_oneh1

theorem house1_t {most : Int} (h0 : 0 < most) (h1 : most ≤ 5) : bagFn g_house1 [.int most] (HouseIs most) := house_t (fun _ h => names1_t h) h0 h1
theorem cell1_t {most : Int} (h0 : 0 < most) (h1 : most ≤ 5) : bagFn g_cell1 [.int most] fun d => HouseIs most d ∧ ∃ h : House, d = h.d ∧ ∀ s ∈ h, s.lo = 1 ∧ s.hi = some 1 := cell_t (fun _ h => names1_t h) h0 h1
theorem firm1_t {most rows : Int} (h0 : 0 < most) (h1 : most ≤ 5) (r0 : 0 ≤ rows) (r3 : rows ≤ 3) : bagFn g_firm1 [.int most, .int rows] fun d => HouseIs most d ∧ ∃ h : House, d = h.d ∧ ∀ s ∈ h, s.hi = some s.lo := firm_t (fun _ h => names1_t h) h0 h1 r0 r3
theorem oneh1_t : bagFn g_oneh1 [] fun d => HouseIs 5 d := oneh_t (fun _ h0 h1 => house1_t h0 h1) ((firm1_t (by decide) (by decide) (by decide) (by decide)).mono fun _ q => q.1) ((cell1_t (by decide) (by decide)).mono fun _ q => q.1)
theorem houseA_t {most : Int} (h0 : 0 < most) (h1 : most ≤ 5) : bagFn g_house [.int most] (HouseIs most) := house_t (fun _ h => names_t h) h0 h1
/-! ### the elder words -/
theorem nameIn_of {h : House} (oh : HOk h) {x : Str} (hx : x ∈ h.nms) : NameIn (h.map Srt.d) (.str x) := by
  refine ⟨menu_strD (oh.nm x hx), ?_⟩
  obtain ⟨s, hs, rfl⟩ := List.mem_map.mp hx
  exact ⟨.int s.lo, hiD s.hi, List.mem_map.mpr ⟨s, hs, rfl⟩⟩
theorem form_of {h : House} (oh : HOk h) {w n : Nat} {f : Fm} (o : FOk h w n f) : FormOk (h.map Srt.d) w n f.d := by
  induction o with
  | @rank n l k ol k0 k1 =>
    rw [Fm.d]
    refine .rank ⟨l.map PyData.str, k, rfl, ?_, ?_, by omega, by omega⟩
    · rw [List.length_map, List.length_map]
      have e : h.length = h.nms.length := by unfold House.nms; rw [List.length_map]
      rw [e]
      exact (pw_nodupS ol.asc).length_le_of_subset ol.sub
    · intro d hd
      obtain ⟨x, hx, rfl⟩ := List.mem_map.mp hd
      exact nameIn_of oh (ol.sub x hx)
  | @kth n k ps k0 k1 kw _ ih =>
    rw [Fm.d, Fm.dL_map]
    refine .kth (by omega) (by rw [List.length_map]; omega) (by rw [List.length_map]; exact kw) fun d hd => ?_
    obtain ⟨p, hp, rfl⟩ := List.mem_map.mp hd
    exact ih p hp
theorem tab_of {h : House} {pool : List Int} {t : Tbl} (o : TOk h pool t) : TabFor (t.map entD) (h.map Srt.d) := by
  rintro l ⟨_, lo, hi, hm⟩
  obtain ⟨s, hs, e⟩ := List.mem_map.mp hm
  unfold Srt.d at e
  cases e
  have q := o.row_mem (x := s.nm) (List.mem_map_of_mem hs)
  refine ⟨rfl, t.row s.nm, ?_, o.l9 _ q.2⟩
  rw [look_t, q.1]
  rfl
theorem rowI_t (t : Tbl) (x : Str) : rowI (t.map entD) (.str x) = t.row x := by
  unfold rowI Tbl.row
  rw [look_t]
  cases t.lookup x with
  | none => rfl
  | some ns => show (intsD (ns.map PyData.int)).getD [] = ns; rw [intsD_map]; rfl
theorem allR_t (t : Tbl) (l : List Str) : allR (t.map entD) (l.map PyData.str) = t.rows l := by
  unfold allR Tbl.rows
  rw [List.map_map]
  congr 1
  exact List.map_congr_left fun x _ => rowI_t t x
theorem evalN_t (t : Tbl) : ∀ (n : Nat) (f : Fm), f.dep < n → evalN (t.map entD) n f.d = f.val t := by
  intro n
  induction n with
  | zero => intro f h; omega
  | succ n ih =>
    intro f h
    cases f with
    | rank l k =>
      rw [Fm.d, Fm.val]
      exact eval_rank.trans (by rw [allR_t])
    | kth k ps =>
      rw [Fm.d, Fm.val, Fm.dL_map, Fm.valL_map]
      refine eval_kth.trans ?_
      rw [List.map_map]
      have e : ps.map (evalN (t.map entD) n ∘ Fm.d) = ps.map (Fm.val t) := List.map_congr_left fun p hp => ih p (by
        have := Fm.dep_mem hp
        rw [Fm.dep] at h
        omega)
      rw [e]
section
variable {h : House} {pool : List Int} {t : Tbl} {house : D}
theorem hlen (oh : HOk h) : (h.map Srt.d).length ≤ 1000 := by rw [List.length_map]; have := oh.l5; omega
theorem value_t (oh : HOk h) (o : TOk h pool t) {w n : Nat} {f : Fm} (of : FOk h w n f) (hw : w ≤ 1000) (hn : n < 20) : pureFn (g_value_of 20) [house, t.d, f.d] (· = optD (f.val t)) :=
  pureQ (value_fn (tab_of o) (hlen oh) hw 20 n f.d (form_of oh of) hn) (by rw [evalN_t t 20 f (by have := of.dep; omega)])
theorem lvalue_t (oh : HOk h) (o : TOk h pool t) {w n : Nat} {f : Fm} (of : FOk h w n f) (hw : w ≤ 1000) (hn : n < 20) : pureFn (g_lvalue 20) [t.d, f.d] (· = optD (f.val t)) :=
  pureQ (lvalue_fn (tab_of o) (hlen oh) hw 20 n f.d (form_of oh of) hn) (by rw [evalN_t t 20 f (by have := of.dep; omega)])
theorem rowsOf_t (o : TOk h pool t) {l : List Str} (hl : ∀ x ∈ l, x ∈ h.nms) : RowsOf (t.map entD) (l.map PyData.str) := by
  intro d hd
  obtain ⟨x, hx, rfl⟩ := List.mem_map.mp hd
  have q := o.row_mem (hl x hx)
  refine ⟨rfl, t.row x, ?_, o.l9 _ q.2⟩
  rw [look_t, q.1]
  rfl
/-- how many of some numbers are n or greater -/
def geN (ns : List Int) (n : Int) : Nat := (ns.filter fun x => decide (n ≤ x)).length
theorem count_t (o : TOk h pool t) {l : List Str} (hl : ∀ x ∈ l, x ∈ h.nms) (h5 : l.length ≤ 1000) (n : Int) : pureFn g_count_at_least [house, t.d, lotD l, .int n] (· = .int (geN (t.rows l) n)) :=
  pureQ (count_fn (rowsOf_t o hl) (by rw [List.length_map]; exact h5)) (by rw [allR_t]; rfl)
theorem lcount_t (o : TOk h pool t) {l : List Str} (hl : ∀ x ∈ l, x ∈ h.nms) (h5 : l.length ≤ 1000) (n : Int) : pureFn g_lcount [t.d, lotD l, .int n] (· = .int (geN (t.rows l) n)) :=
  pureQ (lcount_fn (rowsOf_t o hl) (by rw [List.length_map]; exact h5)) (by rw [allR_t]; rfl)
def Tbl.sizes (t : Tbl) (h : House) : List Nat := h.map fun s => (t.row s.nm).length
def Tbl.at (t : Tbl) (h : House) (n : Int) : List Nat := h.map fun s => geN (t.row s.nm) n
theorem sizes_t (oh : HOk h) (o : TOk h pool t) : pureFn g_sizes_of [h.d, t.d] (· = cntD (t.sizes h)) := by
  unfold g_sizes_of pureFn
  refine run_gives rfl ?_
  unfold b_sizes_of
  have l5 := oh.l5
  refine iRet (iCall (iLs (iV (iLCm (wIt (iVar rfl ?_))))))
  refine ⟨_, rfl, Srt, h, Srt.d, (fun s => .int (t.row s.nm).length), rfl, by rw [sizeLine_eq]; omega, rfl, ?_, ?_⟩
  · intro s hs
    refine ⟨_, rfl, ?_⟩
    repeat walk_at "m1"
    refine iOp2E rfl rfl (show ixD s.d (.int 0) = some (.str s.nm) from rfl) ?_
    refine iOp2E rfl rfl (o.ix (List.mem_map_of_mem hs)) ?_
    repeat walk_at "m1"
    refine iCallE rfl (show lenC [rowD (t.row s.nm)] = some (.int (t.row s.nm).length) by unfold rowD; rw [lenC_tuple, List.length_map]) ?_
    exact ⟨rfl, rfl⟩
  · repeat walk_at "m1"
    refine ⟨rfl, ?_⟩
    unfold cntD Tbl.sizes
    rw [List.map_map]
    rfl
end
end CF
end
section
/-! CT, part 7: counts at numbers, what holds. -/
namespace CF
open PySem
local macro_rules | `(tactic| walk_at "hf") => `(tactic| (first
  | with_reducible exact eqD_int | with_reducible exact eqD_str | with_reducible exact neD_int | with_reducible exact addD_int | with_reducible exact addI_int | with_reducible exact subD_int | with_reducible exact geD_int | with_reducible exact gtD_int | with_reducible exact leD_int | with_reducible exact ltD_int | with_reducible exact modD_of (by decide) | with_reducible exact mulD_r (by decide) | with_reducible exact mulD_l (by decide) | with_reducible exact powD_of (by decide) | with_reducible exact ix0 | ((with_reducible show ixD (.list _) (.int _) = _); rfl) | ((with_reducible show ixD (.tuple _) (.int _) = _); rfl)
  | with_reducible exact intC_int | with_reducible exact lenC_list | with_reducible exact lenC_tuple | with_reducible exact tupleC_list | with_reducible exact listC_tuple | with_reducible exact listC_dict | with_reducible exact isN_none | with_reducible exact isN_int | with_reducible exact notN_none | with_reducible exact notN_int | with_reducible exact min2_int | with_reducible exact max2_int | with_reducible exact slD_list | with_reducible exact slD_tuple | with_reducible exact neD_str | with_reducible exact max2_int))
local macro_rules | `(tactic| walk_at "m1") => `(tactic| (first
  | with_reducible refine iSq ?_ | with_reducible refine iThn ?_ | with_reducible refine iIfS ?_ | with_reducible refine iSet ?_ | with_reducible refine iSetB ?_ | with_reducible refine iSetO ?_ | with_reducible refine iRet ?_ | with_reducible refine iNx ?_ | with_reducible refine iThnR ?_
  | with_reducible refine iTest ?_ | with_reducible refine iOp2 ?_ | ((with_reducible refine' iPk ?h1 ?h2); (case h1 => rfl)) | with_reducible refine iV ?_ | with_reducible refine iC ?_ | ((with_reducible refine' iVar ?h1 ?h2); (case h1 => rfl))
  | with_reducible refine iCall ?_ | with_reducible refine iLs0 ?_ | with_reducible refine iLs ?_ | with_reducible refine iSub ?_ | with_reducible refine iSl ?_ | with_reducible refine iSome ?_ | with_reducible refine iNone ?_ | with_reducible refine iLst ?_ | with_reducible refine iTup ?_ | with_reducible refine iDs0 ?_ | with_reducible refine iDs ?_
  | with_reducible refine iAnd ?_ | with_reducible refine iOr ?_ | with_reducible refine iNot ?_ | with_reducible refine iBl ?_ | with_reducible refine iIf ?_ | with_reducible refine iDrop ?_ | with_reducible refine iYes ?_ | with_reducible refine iPar ?_
  | ((with_reducible refine' iAugS ?h1 ?h2); (case h1 => exact ⟨_, rfl⟩))
  | ((with_reducible refine' iPutE ?h1 ?h2 ?h3); (case h1 => rfl); (case h2 => rfl))
  | ((with_reducible refine' iOp2E ?h1 ?h2 ?h3 ?h4); (case h1 => rfl); (case h2 => rfl); (case h3 => walk_at "hf"))
  | ((with_reducible refine' iCallE ?h1 ?h2 ?h3); (case h1 => rfl); (case h2 => walk_at "hf"))
  | with_reducible refine ⟨sz0, ?_⟩ | with_reducible refine ⟨sz1, ?_⟩ | with_reducible refine ⟨sz2, ?_⟩ | with_reducible refine ⟨sz3, ?_⟩ | with_reducible refine ⟨sz4, ?_⟩ | with_reducible refine ⟨sz5, ?_⟩
  | (with_reducible refine ⟨_, rfl, ?_⟩)
  | ((with_reducible refine' ⟨_, ?h1, ?h2⟩); (case h1 => walk_at "hf"))
  | ((with_reducible refine' ⟨⟨_, ?h1⟩, ?h2⟩); (case h1 => rfl))
  | ((with_reducible refine' ⟨_, _, ?h1, ?h2, ?h3⟩); (case h1 => rfl); (case h2 => walk_at "hf"))
  | ((with_reducible refine' ⟨_, _, ?h1, ?h2, ?h3⟩); (case h1 => rfl); (case h2 => rfl))))
/-! ### in -/
theorem strOk_menu : ∀ x ∈ menuS, PyData.strOk x = true := by
  have q : menuS.all PyData.strOk = true := by decide +kernel
  exact fun x hx => List.all_eq_true.mp q x hx
theorem shaped_str {x : Str} (h : PyData.strOk x = true) : SeqAt.shaped (.str x) = true := by unfold SeqAt.shaped; simp [PyData.canLay0, PyData.depth, h]
theorem lay_strs : ∀ l : List Str, (∀ x ∈ l, PyData.strOk x = true) → PyData.canLayAll0 (l.map PyData.str) = true
  | [], _ => by simp [PyData.canLayAll0]
  | x :: l, h => by rw [List.map_cons, PyData.canLayAll0, lay_strs l fun y hy => h y (List.mem_cons_of_mem _ hy)]; simp [PyData.canLay0, h x (List.mem_cons_self ..)]
theorem dep_strs : ∀ l : List Str, PyData.depthAll (l.map PyData.str) ≤ 0
  | [] => by simp [PyData.depthAll]
  | x :: l => by rw [List.map_cons, PyData.depthAll]; exact Nat.max_le.mpr ⟨Nat.le_refl _, dep_strs l⟩
theorem shaped_lot {l : List Str} (h : ∀ x ∈ l, PyData.strOk x = true) : SeqAt.shaped (.tuple (l.map PyData.str)) = true := by
  unfold SeqAt.shaped
  rw [PyData.canLay0, lay_strs l h, PyData.depth, decide_eq_true (by have := dep_strs l; omega)]
  rfl
theorem shaped_strL {l : List Str} (h : ∀ x ∈ l, PyData.strOk x = true) : SeqAt.shaped (.list (l.map PyData.str)) = true := by
  unfold SeqAt.shaped
  rw [PyData.canLay0, lay_strs l h, PyData.depth, decide_eq_true (by have := dep_strs l; omega)]
  rfl
theorem any_str (x : Str) (l : List Str) : ((l.map PyData.str).any fun z => PyData.eqv z (.str x)) = decide (x ∈ l) := by
  induction l with
  | nil => rfl
  | cons y l ih =>
    rw [List.map_cons, List.any_cons, ih, Bool.eq_iff_iff]
    simp only [PyData.eqv, Bool.or_eq_true, decide_eq_true_eq, List.mem_cons, beq_iff_eq]
    exact ⟨fun q => q.imp Eq.symm id, fun q => q.imp Eq.symm id⟩
theorem inB_tuple {x : D} {ds : List D} (h1 : SeqAt.shaped x = true) (h2 : SeqAt.shaped (.tuple ds) = true) : inD x (.tuple ds) = some (.bool (ds.any fun z => PyData.eqv z x)) := by
  have e : inB x (.tuple ds) = some (ds.any fun z => PyData.eqv z x) := if_pos (by rw [h1, h2]; rfl)
  unfold inD
  rw [e]
  rfl
theorem inB_list {x : D} {ds : List D} (h1 : SeqAt.shaped x = true) (h2 : SeqAt.shaped (.list ds) = true) : inD x (.list ds) = some (.bool (ds.any fun z => PyData.eqv z x)) := by
  have e : inB x (.list ds) = some (ds.any fun z => PyData.eqv z x) := if_pos (by rw [h1, h2]; rfl)
  unfold inD
  rw [e]
  rfl
theorem in_lot {x : Str} {l : List Str} (hx : PyData.strOk x = true) (hl : ∀ x ∈ l, PyData.strOk x = true) : inD (.str x) (lotD l) = some (.bool (decide (x ∈ l))) :=
  (inB_tuple (shaped_str hx) (shaped_lot hl)).trans (by rw [any_str])
theorem in_strL {x : Str} {l : List Str} (hx : PyData.strOk x = true) (hl : ∀ x ∈ l, PyData.strOk x = true) : inD (.str x) (.list (l.map PyData.str)) = some (.bool (decide (x ∈ l))) :=
  (inB_list (shaped_str hx) (shaped_strL hl)).trans (by rw [any_str])
theorem HOk.strOk {h : House} (oh : HOk h) : ∀ x ∈ h.nms, PyData.strOk x = true := fun x hx => strOk_menu x (oh.nm x hx)
/-! ### sums -/
theorem sumC_nats (ns : List Nat) : sumC [.list (ns.map fun n => PyData.int (n : Nat))] = some (.int (ns.sum : Nat)) := by
  have e : ns.map (fun n => PyData.int (n : Nat)) = (ns.map fun n : Nat => (n : Int)).map PyData.int := by rw [List.map_map]; rfl
  show (intsD (ns.map fun n => PyData.int (n : Nat))).map (fun ns => PyData.int ns.sum) = _
  rw [e, intsD_map]
  show some (PyData.int (ns.map fun n : Nat => (n : Int)).sum) = _
  congr 2
  induction ns with
  | nil => rfl
  | cons n ns ih => rw [List.map_cons, List.sum_cons, List.sum_cons, ih (by rw [List.map_map]; rfl)]; omega
def b_holds (r_holds : FM) : MS :=
  (mSq (mIfS (mTest (mOp2 eqD (mV (mOp2 ixD (mPk 1) (mV (mC (.int 0))))) (mV (mC (.str (Str.ofString "rank"))))))
    (mRet (mOp2 geD (mV (mCall sumC [(mV (mLC [3, 4] (mZp (mVar 0) (mVar 2)) (bTup [3, 4]) (mTest (mOp2 inD (mV (mOp2 ixD (mPk 3) (mV (mC (.int 0))))) (mV (mOp2 ixD (mPk 1) (mV (mC (.int 1))))))) (mVar 4)))])) (mV (mOp2 ixD (mPk 1) (mV (mC (.int 2)))))))
    mNx)
  (mRet (mOp2 geD (mV (mCall lenC [(mV (mLC [5] (mIt (mOp2 ixD (mPk 1) (mV (mC (.int 2))))) (setS 5) (mTest (mFn [] r_holds [(mPk 0), (mPk 5), (mPk 2)])) (mVar 5)))])) (mV (mOp2 ixD (mPk 1) (mV (mC (.int 1))))))))
def g_holds : Nat → FM
  | 0 => fm0
  | n + 1 => runF false 3 3 [] (b_holds (g_holds n))
theorem holds_t {h : House} (oh : HOk h) {c : List Nat} (hc : c.length ≤ 1000) {w : Nat} (hw : w ≤ 1000) : ∀ (n k : Nat) (f : Fm), FOk h w k f → k < n → pureFn (g_holds n) [h.d, f.d, cntD c] (· = .bool (f.hold h c)) := by
  intro n
  have l5 := oh.l5
  induction n with
  | zero => intro k f _ hk; omega
  | succ n ih =>
    intro k f of hk
    show gives (runF false 3 3 [] _) _ _
    refine run_gives rfl ?_
    unfold b_holds
    cases of with
    | @rank _ l k ol k0 k1 =>
      rw [Fm.d]
      repeat walk_at "m1"
      refine iteD (fun _ => ?_) (fun h => absurd rfl h)
      refine iRet (iOp2 (iV (iCall (iLs (iV (iLCf (iZpL (iVar rfl (iVar rfl ?_)))))))))
      refine ⟨_, _, _, _, rfl, rfl, Srt × Nat, h.zip c, (fun p => .tuple [p.1.d, .int (p.2 : Nat)]), (fun p => decide (p.1.nm ∈ l)), (fun p => .int (p.2 : Nat)), zipD_map _ _ h c, ?_, rfl, ?_, ?_⟩
      · rw [List.length_zip, sizeLine_eq]; omega
      · intro p hp
        refine ⟨_, rfl, ?_⟩
        repeat walk_at "m1"
        refine iOp2E rfl rfl (show ixD p.1.d (.int 0) = some (.str p.1.nm) from rfl) ?_
        repeat walk_at "m1"
        refine iOp2E rfl rfl (in_lot (oh.strOk _ (List.mem_map_of_mem (List.of_mem_zip hp).1)) fun x hx => oh.strOk x (ol.sub x hx)) ?_
        refine ⟨_, rfl, rfl, ?_⟩
        by_cases q : p.1.nm ∈ l
        · rw [if_pos (decide_eq_true q)]
          repeat walk_at "m1"
          exact ⟨rfl, rfl⟩
        · rw [if_neg (by simpa using q)]
          rfl
      · have e : ((h.zip c).filter fun p => decide (p.1.nm ∈ l)).map (fun p => PyData.int (p.2 : Nat)) = (((h.zip c).filter fun p => decide (p.1.nm ∈ l)).map (·.2)).map fun n : Nat => PyData.int n := by rw [List.map_map]; rfl
        rw [e]
        repeat walk_at "m1"
        refine iCallE rfl (sumC_nats _) ?_
        repeat walk_at "m1"
        refine ⟨rfl, ?_⟩
        rw [Fm.hold]
        unfold House.sum
        congr 1
        rw [Bool.eq_iff_iff, decide_eq_true_eq, decide_eq_true_eq]
        omega
    | @kth k q ps q0 q1 hpw hp =>
      rw [Fm.d, Fm.dL_map]
      repeat walk_at "m1"
      refine iteD (fun h => absurd h (by decide)) (fun _ => ?_)
      refine iNx (iThn ?_)
      refine iRet (iOp2 (iV (iCall (iLs (iV (iLCf (wIt ?_)))))))
      repeat walk_at "m1"
      refine ⟨Fm, ps, Fm.d, Fm.hold h c, Fm.d, rfl, by rw [sizeLine_eq]; omega, rfl, ?_, ?_⟩
      · intro p hp'
        refine ⟨_, rfl, ?_⟩
        refine iTest (iFn ?_)
        repeat walk_at "m1"
        refine iFnQ rfl (ih k p (hp p hp') (by omega)) ?_
        refine ⟨_, rfl, rfl, ?_⟩
        split
        · repeat walk_at "m1"
          exact ⟨rfl, rfl⟩
        · rfl
      · repeat walk_at "m1"
        refine ⟨rfl, ?_⟩
        rw [Fm.hold, Fm.holdL_map, List.length_map, List.filter_map, List.length_map]
        congr 1
        rw [Bool.eq_iff_iff, decide_eq_true_eq, decide_eq_true_eq]
        show ((q : Int) ≤ ((ps.filter (Fm.hold h c)).length : Nat)) ↔ q ≤ (ps.filter (Fm.hold h c)).length
        omega
/-! ### counts -/
section
variable {h : House} {pool : List Int} {t : Tbl}
def b_counts_at : MS :=
  (mRet (mCall tupleC [(mV (mLC [3] (mIt (mVar 0)) (setS 3) mYes (mFn [] g_count_at_least [(mPk 0), (mPk 1), (mV (mTup [(mOp2 ixD (mPk 3) (mV (mC (.int 0))))])), (mPk 2)])))]))
def g_counts_at : FM := runF false 3 1 [] b_counts_at
theorem rows_one (t : Tbl) (x : Str) : t.rows [x] = t.row x := by unfold Tbl.rows; simp
theorem counts_at_t (oh : HOk h) (o : TOk h pool t) (n : Int) : pureFn g_counts_at [h.d, t.d, .int n] (· = cntD (t.at h n)) := by
  unfold g_counts_at pureFn
  refine run_gives rfl ?_
  unfold b_counts_at
  have l5 := oh.l5
  refine iRet (iCall (iLs (iV (iLCm (wIt (iVar rfl ?_))))))
  refine ⟨_, rfl, Srt, h, Srt.d, (fun s => .int (geN (t.row s.nm) n)), rfl, by rw [sizeLine_eq]; omega, rfl, ?_, ?_⟩
  · intro s hs
    refine ⟨_, rfl, ?_⟩
    refine iFn ?_
    repeat walk_at "m1"
    refine iOp2E rfl rfl (show ixD s.d (.int 0) = some (.str s.nm) from rfl) ?_
    repeat walk_at "m1"
    have q := count_t (house := h.d) o (l := [s.nm]) (fun x hx => by rw [List.mem_singleton.mp hx]; exact List.mem_map_of_mem hs) (by show 1 ≤ 1000; decide) n
    rw [rows_one] at q
    refine iFnQ rfl q ?_
    exact ⟨rfl, rfl⟩
  · repeat walk_at "m1"
    refine ⟨rfl, ?_⟩
    unfold cntD Tbl.at
    rw [List.map_map]
    rfl
def b_l_at : MS :=
  (mRet (mCall tupleC [(mV (mLC [4] (mIt (mVar 0)) (setS 4) mYes (mCall lenC [(mV (mLC [3] (mIt (mOp2 ixD (mPk 1) (mV (mOp2 ixD (mPk 4) (mV (mC (.int 0))))))) (setS 3) (mTest (mOp2 geD (mPk 3) (mPk 2))) (mVar 3)))])))]))
def g_l_at : FM := runF false 3 2 [] b_l_at
theorem at_t (oh : HOk h) (o : TOk h pool t) (n : Int) : pureFn g_l_at [h.d, t.d, .int n] (· = cntD (t.at h n)) := by
  unfold g_l_at pureFn
  refine run_gives rfl ?_
  unfold b_l_at
  have l5 := oh.l5
  refine iRet (iCall (iLs (iV (iLCm (wIt (iVar rfl ?_))))))
  refine ⟨_, rfl, Srt, h, Srt.d, (fun s => .int (geN (t.row s.nm) n)), rfl, by rw [sizeLine_eq]; omega, rfl, ?_, ?_⟩
  · intro s hs
    refine ⟨_, rfl, ?_⟩
    refine iCall (iLs (iV (iLCf (wIt ?_))))
    repeat walk_at "m1"
    refine iOp2E rfl rfl (show ixD s.d (.int 0) = some (.str s.nm) from rfl) ?_
    have hx : s.nm ∈ h.nms := List.mem_map_of_mem hs
    refine iOp2E rfl rfl (o.ix hx) ?_
    have l9 := o.len hx
    refine ⟨_, rfl, Int, t.row s.nm, PyData.int, (fun x => decide (n ≤ x)), PyData.int, rfl, by rw [sizeLine_eq]; omega, rfl, ?_, ?_⟩
    · intro x hx
      refine ⟨_, rfl, ?_⟩
      repeat walk_at "m1"
      refine ⟨rfl, ?_⟩
      split
      · repeat walk_at "m1"
        exact ⟨rfl, rfl⟩
      · rfl
    · repeat walk_at "m1"
      rw [List.length_map]
      exact ⟨rfl, rfl⟩
  · repeat walk_at "m1"
    refine ⟨rfl, ?_⟩
    unfold cntD Tbl.at
    rw [List.map_map]
    rfl
end
end CF
end
section
/-! CT, part 8: numbers that occur, drawn counts, numbers near; thresholds. -/
namespace CF
open PySem
local macro_rules | `(tactic| walk_at "hf") => `(tactic| (first
  | with_reducible exact eqD_int | with_reducible exact eqD_str | with_reducible exact neD_int | with_reducible exact addD_int | with_reducible exact addI_int | with_reducible exact subD_int | with_reducible exact geD_int | with_reducible exact gtD_int | with_reducible exact leD_int | with_reducible exact ltD_int | with_reducible exact modD_of (by decide) | with_reducible exact mulD_r (by decide) | with_reducible exact mulD_l (by decide) | with_reducible exact powD_of (by decide) | with_reducible exact ix0 | ((with_reducible show ixD (.list _) (.int _) = _); rfl) | ((with_reducible show ixD (.tuple _) (.int _) = _); rfl)
  | with_reducible exact intC_int | with_reducible exact lenC_list | with_reducible exact lenC_tuple | with_reducible exact tupleC_list | with_reducible exact listC_tuple | with_reducible exact listC_dict | with_reducible exact isN_none | with_reducible exact isN_int | with_reducible exact notN_none | with_reducible exact notN_int | with_reducible exact min2_int | with_reducible exact max2_int | with_reducible exact slD_list | with_reducible exact slD_tuple | with_reducible exact neD_str | with_reducible exact max2_int))
local macro_rules | `(tactic| walk_at "m1") => `(tactic| (first
  | with_reducible refine iSq ?_ | with_reducible refine iThn ?_ | with_reducible refine iIfS ?_ | with_reducible refine iSet ?_ | with_reducible refine iSetB ?_ | with_reducible refine iSetO ?_ | with_reducible refine iRet ?_ | with_reducible refine iNx ?_ | with_reducible refine iThnR ?_
  | with_reducible refine iTest ?_ | with_reducible refine iOp2 ?_ | ((with_reducible refine' iPk ?h1 ?h2); (case h1 => rfl)) | with_reducible refine iV ?_ | with_reducible refine iC ?_ | ((with_reducible refine' iVar ?h1 ?h2); (case h1 => rfl))
  | with_reducible refine iCall ?_ | with_reducible refine iLs0 ?_ | with_reducible refine iLs ?_ | with_reducible refine iSub ?_ | with_reducible refine iSl ?_ | with_reducible refine iSome ?_ | with_reducible refine iNone ?_ | with_reducible refine iLst ?_ | with_reducible refine iTup ?_ | with_reducible refine iDs0 ?_ | with_reducible refine iDs ?_
  | with_reducible refine iAnd ?_ | with_reducible refine iOr ?_ | with_reducible refine iNot ?_ | with_reducible refine iBl ?_ | with_reducible refine iIf ?_ | with_reducible refine iDrop ?_ | with_reducible refine iYes ?_ | with_reducible refine iPar ?_
  | ((with_reducible refine' iAugS ?h1 ?h2); (case h1 => exact ⟨_, rfl⟩))
  | ((with_reducible refine' iPutE ?h1 ?h2 ?h3); (case h1 => rfl); (case h2 => rfl))
  | ((with_reducible refine' iOp2E ?h1 ?h2 ?h3 ?h4); (case h1 => rfl); (case h2 => rfl); (case h3 => walk_at "hf"))
  | ((with_reducible refine' iCallE ?h1 ?h2 ?h3); (case h1 => rfl); (case h2 => walk_at "hf"))
  | with_reducible refine ⟨sz0, ?_⟩ | with_reducible refine ⟨sz1, ?_⟩ | with_reducible refine ⟨sz2, ?_⟩ | with_reducible refine ⟨sz3, ?_⟩ | with_reducible refine ⟨sz4, ?_⟩ | with_reducible refine ⟨sz5, ?_⟩
  | (with_reducible refine ⟨_, rfl, ?_⟩)
  | ((with_reducible refine' ⟨_, ?h1, ?h2⟩); (case h1 => walk_at "hf"))
  | ((with_reducible refine' ⟨⟨_, ?h1⟩, ?h2⟩); (case h1 => rfl))
  | ((with_reducible refine' ⟨_, _, ?h1, ?h2, ?h3⟩); (case h1 => rfl); (case h2 => walk_at "hf"))
  | ((with_reducible refine' ⟨_, _, ?h1, ?h2, ?h3⟩); (case h1 => rfl); (case h2 => rfl))))
theorem zip2_zip {α β : Type} {R : α → β → Prop} : ∀ {as : List α} {bs : List β}, Zip2 R as bs → ∀ p ∈ as.zip bs, R p.1 p.2
  | _, _, .nil, p, hp => nomatch hp
  | _, _, .cons h t, p, hp => by
    rw [List.zip_cons_cons, List.mem_cons] at hp
    rcases hp with rfl | hp
    · exact h
    · exact zip2_zip t p hp
section
variable {h : House} {pool : List Int} {t : Tbl}
/-- the numbers that occur, each once, ascending -/
def Tbl.known (t : Tbl) : List Int := sset (t.rows (t.map (·.1)))
theorem keys_t (t : Tbl) : keysOf (t.map entD) = (t.map (·.1)).map PyData.str := by
  unfold keysOf
  rw [List.map_map, List.map_map]
  rfl
theorem names_sub (o : TOk h pool t) : ∀ x ∈ t.map (·.1), x ∈ h.nms := fun x hx => o.nms.mem_iff.mp hx
theorem tlen (oh : HOk h) (o : TOk h pool t) : t.length ≤ 5 := by
  have a := o.nms.length_eq
  have e : h.nms.length = h.length := by unfold House.nms; rw [List.length_map]
  have := oh.l5
  rw [List.length_map] at a
  omega
theorem known_pool (o : TOk h pool t) : ∀ n ∈ t.known, n ∈ pool := fun n hn => rows_pool o (names_sub o) n (mem_sset.mp hn)
theorem known_len (o : TOk h pool t) : t.known.length ≤ pool.length := sset_le (rows_pool o (names_sub o))
theorem known_t (oh : HOk h) (o : TOk h pool t) (hp : pool.length < 64) : pureFn g_lknown [t.d] (· = listD t.known) := by
  have l := tlen oh o
  have e : allR (t.map entD) (keysOf (t.map entD)) = t.rows (t.map (·.1)) := by rw [keys_t, allR_t]
  refine pureQ (lknown_fn (es := t.map entD) (pool := pool) ?_ (by rw [List.length_map]; omega) ?_ hp) ?_
  · rw [keys_t]; exact rowsOf_t o (names_sub o)
  · rw [e]; exact rows_pool o (names_sub o)
  · rw [e]; rfl
theorem allnum_t (oh : HOk h) (o : TOk h pool t) (hp : pool.length < 64) : pureFn g_all_numbers [t.d] (· = listD t.known) := by
  have l := tlen oh o
  have e : allR (t.map entD) (keysOf (t.map entD)) = t.rows (t.map (·.1)) := by rw [keys_t, allR_t]
  refine pureQ (allnum_fn (es := t.map entD) (pool := pool) ?_ (by rw [List.length_map]; omega) ?_ hp) ?_
  · rw [keys_t]; exact rowsOf_t o (names_sub o)
  · rw [e]; exact rows_pool o (names_sub o)
  · rw [e]; rfl
def b_l_counts : MS :=
  (mRet (mCall tupleC [(mV (mLC [2] (mIt (mVar 1)) (setS 2) mYes (mFn [0] g_take [(mPk 0), (mV (mOp2 addD (mV (mC (.int 1))) (mV (mIf (mTest (mOp2 isND (mV (mOp2 ixD (mPk 2) (mV (mC (.int 2))))) (mV (mC .none)))) (mC (.int 9)) (mOp2 ixD (mPk 2) (mV (mC (.int 2))))))))])))]))
def g_l_counts : FM := runF false 2 1 [0] b_l_counts
/-- counts of the house -/
structure COk (h : House) (c : List Nat) : Prop where
  len : c.length = h.length
  most : ∀ p ∈ h.zip c, ∀ m, p.1.hi = some m → p.2 ≤ m
  nine : ∀ n ∈ c, n ≤ 9
theorem counts_t (oh : HOk h) : bagFn g_l_counts [h.d] fun d => ∃ c, d = cntD c ∧ COk h c := fun bag ok => by
  unfold g_l_counts
  refine run_gives rfl ?_
  unfold b_l_counts
  have l5 := oh.l5
  refine iRet (iCall (iLs (iV (iLCb (wIt (iVar rfl ?_))))))
  refine ⟨_, rfl, 0, Srt, h, Srt.d, (fun s y => ∃ n : Nat, y = .int n ∧ n ≤ 9 ∧ ∀ m, s.hi = some m → n ≤ m), rfl, by rw [sizeLine_eq]; omega, rfl, by decide, ⟨bag, rfl, ok⟩, ?_, ?_⟩
  · intro s hs bag2 ok2
    refine ⟨_, rfl, ?_⟩
    refine iBag rfl ?_
    have hi := oh.hi s hs
    obtain ⟨nm, lo, hi'⟩ := s
    cases hi' with
    | none =>
      repeat walk_at "m1"
      refine iOp2E rfl rfl (show ixD (Srt.mk nm lo none).d (.int 2) = some .none from rfl) ?_
      repeat walk_at "m1"
      refine iteT ?_
      repeat walk_at "m1"
      refine iBagE rfl rfl ok2 (take_fn (by decide) (by decide)) ?_
      rintro z bag3 ⟨v, rfl, v0, v1⟩ ok3
      obtain ⟨v, rfl⟩ := Int.eq_ofNat_of_zero_le v0
      exact ⟨⟨v, rfl, by omega, fun m e => by cases e⟩, bag3, ok3, rfl⟩
    | some k =>
      have hk := hi k rfl
      repeat walk_at "m1"
      refine iOp2E rfl rfl (show ixD (Srt.mk nm lo (some k)).d (.int 2) = some (.int k) from rfl) ?_
      repeat walk_at "m1"
      refine iteF ?_
      repeat walk_at "m1"
      refine iOp2E rfl rfl (show ixD (Srt.mk nm lo (some k)).d (.int 2) = some (.int k) from rfl) ?_
      repeat walk_at "m1"
      refine iBagE rfl rfl ok2 (take_fn (by omega) (by omega)) ?_
      rintro z bag3 ⟨v, rfl, v0, v1⟩ ok3
      obtain ⟨v, rfl⟩ := Int.eq_ofNat_of_zero_le v0
      exact ⟨⟨v, rfl, by omega, fun m e => by cases e; omega⟩, bag3, ok3, rfl⟩
  · intro ys bag2 z ok2
    obtain ⟨c, rfl, z2⟩ := z.typed (e := fun n : Nat => PyData.int n) (S := fun (s : Srt) n => n ≤ 9 ∧ ∀ m, s.hi = some m → n ≤ m) fun a b q => q
    repeat walk_at "m1"
    refine ⟨rfl, ⟨c, rfl, z2.len, ?_, z2.right (p := fun n => n ≤ 9) fun a b q => q.1⟩, bag2, ok2, rfl⟩
    exact fun p hp m e => (zip2_zip z2 p hp).2 m e
end
def b_l_near : MS :=
  (mSq (mSet 1 (mOp2 addL (mV (mOp2 addL (mV (mOp2 addL (mPk 0) (mV (mLC [2] (mIt (mVar 0)) (setS 2) mYes (mOp2 addD (mPk 2) (mV (mC (.int 1)))))))) (mV (mLC [2] (mIt (mVar 0)) (setS 2) mYes (mOp2 subD (mPk 2) (mV (mC (.int 1)))))))) (mV (mLst [(mC (.int 0))]))))
  (mRet (mLC [2] (mIt (mCall sortSetC [(mPk 1)])) (setS 2) (mTest (mOp2 leD (mV (mCall absC [(mPk 2)])) (mV (mOp2 powD (mV (mC (.int 10))) (mV (mC (.int 30))))))) (mVar 2))))
def g_l_near : FM := runF false 1 2 [] b_l_near
def nearL (ns : List Int) : List Int := sset (ns ++ ns.map (· + 1) ++ ns.map (· - 1) ++ [0])
def nearI (ns : List Int) : List Int := (nearL ns).filter fun n => decide ((n.natAbs : Int) ≤ 10 ^ 30)
theorem abs_eq (n : Int) : (if n < 0 then -n else n) = (n.natAbs : Int) := by split <;> omega
theorem near_t {ns : List Int} (hl : ns.length ≤ 20) : pureFn g_l_near [listD ns] (· = listD (nearI ns)) := by
  unfold g_l_near pureFn
  refine run_gives rfl ?_
  unfold b_l_near
  refine iSq (iSet (iOp2 (iV (iOp2 (iV (iOp2 (iPk rfl (iV (iLCm (wIt (iVar rfl ?_)))))))))))
  refine ⟨_, rfl, Int, ns, PyData.int, (fun n => .int (n + 1)), rfl, by rw [sizeLine_eq]; omega, rfl, ?_, ?_⟩
  · intro n hn
    refine ⟨_, rfl, ?_⟩
    repeat walk_at "m1"
    exact ⟨rfl, rfl⟩
  refine iOp2E rfl rfl (addL_list (by rw [List.length_map, List.length_map, sizeLine_eq]; omega)) ?_
  refine iV (iLCm (wIt (iVar rfl ?_)))
  refine ⟨_, rfl, Int, ns, PyData.int, (fun n => .int (n - 1)), rfl, by rw [sizeLine_eq]; omega, rfl, ?_, ?_⟩
  · intro n hn
    refine ⟨_, rfl, ?_⟩
    repeat walk_at "m1"
    exact ⟨rfl, rfl⟩
  refine iOp2E rfl rfl (addL_list (by rw [List.length_append, List.length_map, List.length_map, List.length_map, sizeLine_eq]; omega)) ?_
  repeat walk_at "m1"
  refine iOp2E rfl rfl (addL_list (by rw [List.length_append, List.length_append, List.length_map, List.length_map, List.length_map, sizeLine_eq]; simp only [List.length_cons, List.length_nil]; omega)) ?_
  have e : (ns.map PyData.int ++ ns.map fun n => PyData.int (n + 1)) ++ (ns.map fun n => PyData.int (n - 1)) ++ [PyData.int 0] = (ns ++ ns.map (· + 1) ++ ns.map (· - 1) ++ [0]).map PyData.int := by
    simp [List.map_append, List.map_map, Function.comp_def]
  have hlen : (ns ++ ns.map (· + 1) ++ ns.map (· - 1) ++ [0]).length ≤ 61 := by simp; omega
  have hs : (nearL ns).length ≤ 61 := Nat.le_trans (sset_le (pool := ns ++ ns.map (· + 1) ++ ns.map (· - 1) ++ [0]) fun n hn => hn) hlen
  rw [e]
  have hb : scanBound = 4096 := rfl
  refine iThn (iRet (iLCf (wIt (iCall ?_))))
  repeat walk_at "m1"
  refine iCallE rfl (sortSet_of (by omega) (show (nearL ns).length < 64 by omega)) ?_
  refine ⟨_, rfl, Int, nearL ns, PyData.int, (fun n => decide ((n.natAbs : Int) ≤ 10 ^ 30)), PyData.int, rfl, by rw [sizeLine_eq]; omega, rfl, ?_, ?_⟩
  · intro n hn
    refine ⟨_, rfl, ?_⟩
    repeat walk_at "m1"
    refine iCallE rfl (show absC [.int n] = some (.int (if n < 0 then -n else n)) from rfl) ?_
    rw [abs_eq]
    repeat walk_at "m1"
    refine ⟨rfl, ?_⟩
    split
    · repeat walk_at "m1"
      exact ⟨rfl, rfl⟩
    · rfl
  · exact ⟨_, rfl, rfl, rfl⟩
end CF
end
section
/-! CM, part 1: a formula's value and the counts at which it holds. -/
namespace CF
open PySem
/-! ### ascending rows of names -/
theorem asc_ext : ∀ {as bs : List Str}, as.Pairwise strLt → bs.Pairwise strLt → (∀ x, x ∈ as ↔ x ∈ bs) → as = bs
  | [], [], _, _, _ => rfl
  | [], b :: bs, _, _, h => absurd ((h b).mpr (List.mem_cons_self ..)) (by simp)
  | a :: as, [], _, _, h => absurd ((h a).mp (List.mem_cons_self ..)) (by simp)
  | a :: as, b :: bs, ha, hb, h => by
    rw [List.pairwise_cons] at ha hb
    have e : a = b := by
      rcases List.mem_cons.mp ((h a).mp (List.mem_cons_self ..)) with q | q
      · exact q
      · rcases List.mem_cons.mp ((h b).mpr (List.mem_cons_self ..)) with q2 | q2
        · exact q2.symm
        · exact absurd rfl (strLt_ne (strLt_trans (ha.1 b q2) (hb.1 a q)))
    subst e
    congr 1
    refine asc_ext ha.2 hb.2 fun x => ⟨fun q => ?_, fun q => ?_⟩
    · rcases List.mem_cons.mp ((h x).mp (List.mem_cons_of_mem _ q)) with e | e
      · subst e; exact absurd rfl (strLt_ne (ha.1 x q))
      · exact e
    · rcases List.mem_cons.mp ((h x).mpr (List.mem_cons_of_mem _ q)) with e | e
      · subst e; exact absurd rfl (strLt_ne (hb.1 x q))
      · exact e
theorem lot_filter {h : House} (oh : HOk h) {l : List Str} (ol : LOk h l) : l = h.nms.filter fun x => decide (x ∈ l) :=
  asc_ext ol.asc (oh.asc.sublist List.filter_sublist) fun x => by
    rw [List.mem_filter, decide_eq_true_eq]
    exact ⟨fun q => ⟨ol.sub x q, q⟩, fun q => q.2⟩
/-! ### thresholds -/
/-- as x rises, q once true stays true -/
def Up (q : Int → Bool) : Prop := ∀ a b : Int, a ≤ b → q a = true → q b = true
theorem up_ge (n : Int) : Up fun x => decide (n ≤ x) := fun a b h q => by simp only [decide_eq_true_eq] at *; omega
theorem up_all : Up fun _ => true := fun _ _ _ _ => rfl
theorem desc_thr {q : Int → Bool} (hq : Up q) : ∀ {xs : List Int}, xs.Pairwise (fun a b => b ≤ a) → ∀ i x, xs[i]? = some x → (q x = true ↔ i < xs.countP q)
  | [], _, i, x, h => by simp at h
  | y :: xs, hp, i, x, h => by
    rw [List.pairwise_cons] at hp
    rw [List.countP_cons]
    cases i with
    | zero =>
      simp at h
      subst h
      by_cases e : q y = true
      · rw [if_pos e]; exact ⟨fun _ => by omega, fun _ => e⟩
      · rw [if_neg e]
        refine ⟨fun z => absurd z e, fun z => ?_⟩
        obtain ⟨w, hw, qw⟩ := List.countP_pos_iff.mp (show 0 < xs.countP q by omega)
        exact hq w y (hp.1 w hw) qw
    | succ i =>
      have ih := desc_thr hq hp.2 i x (by simpa using h)
      have hx : x ∈ xs := List.mem_of_getElem? (by simpa using h)
      rw [ih]
      by_cases e : q y = true
      · rw [if_pos e]; omega
      · rw [if_neg e]
        have : xs.countP q = 0 := List.countP_eq_zero.mpr fun w hw qw => e (hq w y (hp.1 w hw) qw)
        omega
theorem kth_thr {q : Int → Bool} (hq : Up q) {ns : List Int} {k : Nat} (k1 : 1 ≤ k) : (kthI ns k).any q = decide (k ≤ ns.countP q) := by
  have le := List.countP_le_length (p := q) (l := ns)
  unfold kthI
  by_cases h : (k : Int) ≤ ns.length
  · rw [if_pos h]
    have hl : ((k : Int) - 1).toNat < (descI ns).length := by rw [(desc_perm ns).length_eq]; omega
    rw [List.getElem?_eq_getElem hl, Option.any_some, Bool.eq_iff_iff, decide_eq_true_eq, desc_thr hq (desc_pw ns) _ _ (List.getElem?_eq_getElem hl), (desc_perm ns).countP_eq]
    omega
  · rw [if_neg h, Option.any_none, Bool.eq_iff_iff, decide_eq_true_eq]
    exact ⟨fun z => (nomatch z), fun z => by omega⟩
theorem count_opt {q : Int → Bool} : ∀ vs : List (Option Int), (vs.filterMap id).countP q = vs.countP fun v => v.any q
  | [] => rfl
  | none :: vs => by rw [List.countP_cons, Option.any_none]; simpa using count_opt vs
  | some v :: vs => by
    rw [List.countP_cons, Option.any_some]
    have e : (some v :: vs).filterMap id = v :: vs.filterMap id := rfl
    rw [e, List.countP_cons, count_opt vs]
/-- how many rows of each sort are so -/
def Tbl.atP (t : Tbl) (h : House) (q : Int → Bool) : List Nat := h.map fun s => (t.row s.nm).countP q
theorem at_P (t : Tbl) (h : House) (n : Int) : t.at h n = t.atP h fun x => decide (n ≤ x) := by
  unfold Tbl.at Tbl.atP geN
  exact List.map_congr_left fun s _ => (List.countP_eq_length_filter ..).symm
theorem sizes_P (t : Tbl) (h : House) : t.sizes h = t.atP h fun _ => true := by
  unfold Tbl.sizes Tbl.atP
  exact List.map_congr_left fun s _ => by simp
theorem sum_P (t : Tbl) (q : Int → Bool) (l : List Str) : ∀ h : House, h.sum (t.atP h q) l = (t.rows (h.nms.filter fun x => decide (x ∈ l))).countP q
  | [] => rfl
  | s :: h => by
    have ih := sum_P t q l h
    unfold House.sum Tbl.atP House.nms at ih ⊢
    rw [List.map_cons, List.zip_cons_cons, List.filter_cons, List.map_cons, List.filter_cons]
    by_cases e : s.nm ∈ l
    · rw [if_pos (decide_eq_true e), if_pos (decide_eq_true e), List.map_cons, List.sum_cons, ih]
      unfold Tbl.rows
      rw [List.map_cons, List.flatten_cons, List.countP_append]
    · rw [if_neg (by simpa using e), if_neg (by simpa using e), ih]
/-- THRESHOLDS: the value is so exactly if the formula holds at how many rows are so -/
theorem val_thr {h : House} (oh : HOk h) {q : Int → Bool} (hq : Up q) (t : Tbl) {w n : Nat} {f : Fm} (o : FOk h w n f) : (f.val t).any q = f.hold h (t.atP h q) := by
  induction o with
  | @rank n l k ol k0 k1 =>
    rw [Fm.val, Fm.hold, kth_thr hq k0, sum_P, ← lot_filter oh ol]
  | @kth n k ps k0 k1 kw _ ih =>
    rw [Fm.val, Fm.hold, kth_thr hq k0, count_opt, Fm.valL_map, Fm.holdL_map]
    congr 2
    rw [List.countP_map, List.filter_map, List.length_map, ← List.countP_eq_length_filter]
    exact List.countP_congr fun p hp => by
      show (p.val t).any q = true ↔ id (p.hold h (t.atP h q)) = true
      rw [ih p hp]
      rfl
theorem val_ge {h : House} (oh : HOk h) (t : Tbl) {w n : Nat} {f : Fm} (o : FOk h w n f) (m : Int) : f.hold h (t.at h m) = (f.val t).any fun v => decide (m ≤ v) := by
  rw [at_P, val_thr oh (up_ge m) t o]
theorem val_some {h : House} (oh : HOk h) (t : Tbl) {w n : Nat} {f : Fm} (o : FOk h w n f) : f.hold h (t.sizes h) = (f.val t).isSome := by
  rw [sizes_P, ← val_thr oh up_all t o]
  cases f.val t <;> rfl
/-- values lie among the table's numbers -/
theorem val_mem {h : House} {pool : List Int} {t : Tbl} (o : TOk h pool t) {w n : Nat} {f : Fm} (of : FOk h w n f) : ∀ v, f.val t = some v → v ∈ pool := by
  induction of with
  | @rank n l k ol k0 k1 =>
    intro v hv
    rw [Fm.val] at hv
    unfold kthI at hv
    split at hv
    · exact rows_pool o ol.sub v ((desc_perm _).mem_iff.mp (List.mem_of_getElem? hv))
    · cases hv
  | @kth n k ps k0 k1 kw _ ih =>
    intro v hv
    rw [Fm.val, Fm.valL_map] at hv
    unfold kthI at hv
    split at hv
    · have := (desc_perm _).mem_iff.mp (List.mem_of_getElem? hv)
      obtain ⟨o, ho, e⟩ := List.mem_filterMap.mp this
      obtain ⟨p, hp, rfl⟩ := List.mem_map.mp ho
      exact ih p hp v e
    · cases hv
end CF
end
section
/-! CT, part 9: what may be shown and compared. -/
namespace CF
open PySem
local macro_rules | `(tactic| walk_at "hf") => `(tactic| (first
  | with_reducible exact eqD_int | with_reducible exact eqD_str | with_reducible exact neD_int | with_reducible exact addD_int | with_reducible exact addI_int | with_reducible exact subD_int | with_reducible exact geD_int | with_reducible exact gtD_int | with_reducible exact leD_int | with_reducible exact ltD_int | with_reducible exact modD_of (by decide) | with_reducible exact mulD_r (by decide) | with_reducible exact mulD_l (by decide) | with_reducible exact powD_of (by decide) | with_reducible exact ix0 | ((with_reducible show ixD (.list _) (.int _) = _); rfl) | ((with_reducible show ixD (.tuple _) (.int _) = _); rfl)
  | with_reducible exact intC_int | with_reducible exact lenC_list | with_reducible exact lenC_tuple | with_reducible exact tupleC_list | with_reducible exact listC_tuple | with_reducible exact listC_dict | with_reducible exact isN_none | with_reducible exact isN_int | with_reducible exact notN_none | with_reducible exact notN_int | with_reducible exact min2_int | with_reducible exact max2_int | with_reducible exact slD_list | with_reducible exact slD_tuple | with_reducible exact neD_str | with_reducible exact max2_int))
local macro_rules | `(tactic| walk_at "m1") => `(tactic| (first
  | with_reducible refine iSq ?_ | with_reducible refine iThn ?_ | with_reducible refine iIfS ?_ | with_reducible refine iSet ?_ | with_reducible refine iSetB ?_ | with_reducible refine iSetO ?_ | with_reducible refine iRet ?_ | with_reducible refine iNx ?_ | with_reducible refine iThnR ?_
  | with_reducible refine iTest ?_ | with_reducible refine iOp2 ?_ | ((with_reducible refine' iPk ?h1 ?h2); (case h1 => rfl)) | with_reducible refine iV ?_ | with_reducible refine iC ?_ | ((with_reducible refine' iVar ?h1 ?h2); (case h1 => rfl))
  | with_reducible refine iCall ?_ | with_reducible refine iLs0 ?_ | with_reducible refine iLs ?_ | with_reducible refine iSub ?_ | with_reducible refine iSl ?_ | with_reducible refine iSome ?_ | with_reducible refine iNone ?_ | with_reducible refine iLst ?_ | with_reducible refine iTup ?_ | with_reducible refine iDs0 ?_ | with_reducible refine iDs ?_
  | with_reducible refine iAnd ?_ | with_reducible refine iOr ?_ | with_reducible refine iNot ?_ | with_reducible refine iBl ?_ | with_reducible refine iIf ?_ | with_reducible refine iDrop ?_ | with_reducible refine iYes ?_ | with_reducible refine iPar ?_
  | ((with_reducible refine' iAugS ?h1 ?h2); (case h1 => exact ⟨_, rfl⟩))
  | ((with_reducible refine' iPutE ?h1 ?h2 ?h3); (case h1 => rfl); (case h2 => rfl))
  | ((with_reducible refine' iOp2E ?h1 ?h2 ?h3 ?h4); (case h1 => rfl); (case h2 => rfl); (case h3 => walk_at "hf"))
  | ((with_reducible refine' iCallE ?h1 ?h2 ?h3); (case h1 => rfl); (case h2 => walk_at "hf"))
  | with_reducible refine ⟨sz0, ?_⟩ | with_reducible refine ⟨sz1, ?_⟩ | with_reducible refine ⟨sz2, ?_⟩ | with_reducible refine ⟨sz3, ?_⟩ | with_reducible refine ⟨sz4, ?_⟩ | with_reducible refine ⟨sz5, ?_⟩
  | (with_reducible refine ⟨_, rfl, ?_⟩)
  | ((with_reducible refine' ⟨_, ?h1, ?h2⟩); (case h1 => walk_at "hf"))
  | ((with_reducible refine' ⟨⟨_, ?h1⟩, ?h2⟩); (case h1 => rfl))
  | ((with_reducible refine' ⟨_, _, ?h1, ?h2, ?h3⟩); (case h1 => rfl); (case h2 => walk_at "hf"))
  | ((with_reducible refine' ⟨_, _, ?h1, ?h2, ?h3⟩); (case h1 => rfl); (case h2 => rfl))))
theorem canLayAll_of {ds : List D} (h : ∀ d ∈ ds, d.canLay0 = true) : PyData.canLayAll0 ds = true := by
  induction ds with
  | nil => rw [PyData.canLayAll0]
  | cons d ds ih => rw [PyData.canLayAll0, h d (List.mem_cons_self ..), ih fun x hx => h x (List.mem_cons_of_mem _ hx)]; rfl
theorem nice_list {n k m : Nat} {ds : List D} (h : ∀ d ∈ ds, Fine n k d ∧ d.canLay0 = true) (hm : ds.length ≤ m) (hz : m * (n + 2) + 4 ≤ 16777216) (hk : k + 1 ≤ 60) : Nice (.list ds) := by
  have f := fine_list (fun d hd => (h d hd).1) hm
  exact ⟨by rw [PyData.canLay0]; exact canLayAll_of fun d hd => (h d hd).2, Nat.le_trans f.dp hk, f.can (by rw [sizeLine_eq]; exact hz) hk⟩
theorem fine_opt {o : Option Int} (h : ∀ v, o = some v → v.natAbs < 10 ^ 40) : Fine 41 0 (optD o) ∧ (optD o).canLay0 = true := by
  cases o with
  | none => exact ⟨fine_none.mono (by decide) (Nat.le_refl _), rfl⟩
  | some v => exact ⟨fine_int (h v rfl), rfl⟩
theorem nice_int {i : Int} (h : i.natAbs < 10 ^ 40) : Nice (.int i) := by
  have f := fine_int (k := 0) h
  exact ⟨rfl, Nat.le_trans f.dp (by decide), f.can (by rw [sizeLine_eq]; decide) (by decide)⟩
/-! ### what is shown -/
theorem fine_menu : ∀ d ∈ menuD, Fine 8 0 d := by
  intro d h
  have q : menuD.all (fun d => d.showable && decide (d.shown.length ≤ 8) && decide (d.depth ≤ 0)) = true := by decide +kernel
  have := List.all_eq_true.mp q d h
  simp only [Bool.and_eq_true, decide_eq_true_eq] at this
  exact ⟨this.1.1, this.1.2, this.2⟩
def pF : Nat → Nat
  | 0 => 172
  | k + 1 => 3 * (5 * (pF k + 2) + 4 + 2) + 4
theorem pF_ge : ∀ k, 172 ≤ pF k
  | 0 => Nat.le_refl _
  | k + 1 => by have := pF_ge k; show 172 ≤ 3 * (5 * (pF k + 2) + 4 + 2) + 4; omega
theorem fine_name {ss : List PyData} {l : PyData} (h : NameIn ss l) : Fine 8 0 l := fine_menu l h.1
theorem fine_str (x : Str) (h : (PyData.str x).shown.length ≤ 8) : Fine 8 0 (.str x) := ⟨rfl, h, Nat.le_refl _⟩
theorem fine_form {ss : List PyData} (h5 : ss.length ≤ 5) : ∀ (k : Nat) (d : PyData), FormOk ss 5 k d → Fine (pF k) (2 + 2 * k) d := by
  intro k
  have rk : ∀ (k : Nat) (d : PyData), RankOk ss d → Fine (pF k) (2 + 2 * k) d := by
    rintro k d ⟨ls, q, rfl, hl, hn, q1, q2⟩
    have lot : Fine 54 1 (.tuple ls) := fine_tuple (n := 8) (k := 0) (m := 5) (fun l h => fine_name (hn l h)) (by omega)
    have r : Fine 172 2 (.tuple [.str (Str.ofString "rank"), .tuple ls, .int q]) := fine_tuple (n := 54) (k := 1) (m := 3) (fun x hx => by
      rcases List.mem_cons.mp hx with rfl | hx
      · exact (fine_str _ (by decide +kernel)).mono (by decide) (by decide)
      rcases List.mem_cons.mp hx with rfl | hx
      · exact lot
      · rw [List.mem_singleton.mp hx]
        exact (fine_int (k := 1) (Nat.lt_of_le_of_lt (show q.natAbs ≤ 100 by omega) (by decide))).mono (by decide) (Nat.le_refl _)) (Nat.le_refl 3)
    exact r.mono (pF_ge k) (by omega)
  induction k with
  | zero =>
    intro d hf
    cases hf with
    | rank hr => exact rk 0 d hr
  | succ k ih =>
    intro d hf
    cases hf with
    | rank hr => exact rk (k + 1) d hr
    | @kth _ q ps q0 q1 hpl hps =>
      have parts : Fine (5 * (pF k + 2) + 4) (2 + 2 * k + 1) (.tuple ps) := fine_tuple (m := 5) (fun p hp => ih p (hps p hp)) hpl
      have g := pF_ge k
      have r : Fine (3 * (5 * (pF k + 2) + 4 + 2) + 4) (2 + 2 * k + 1 + 1) (.tuple [.str (Str.ofString "kth"), .int q, .tuple ps]) := fine_tuple (m := 3) (fun x hx => by
        rcases List.mem_cons.mp hx with rfl | hx
        · exact (fine_str _ (by decide +kernel)).mono (by omega) (by omega)
        rcases List.mem_cons.mp hx with rfl | hx
        · exact (fine_int (k := 1) (Nat.lt_of_le_of_lt (show q.natAbs ≤ 100 by omega) (by decide))).mono (by omega) (by omega)
        · rw [List.mem_singleton.mp hx]; exact parts) (Nat.le_refl 3)
      exact r.mono (Nat.le_refl _) (by omega)
theorem form_mono {ss : List PyData} {w w' k k' : Nat} (hw : w ≤ w') {d : PyData} (h : FormOk ss w k d) : ∀ k', k ≤ k' → FormOk ss w' k' d := by
  induction h with
  | rank hr => exact fun k' _ => .rank hr
  | kth q0 q1 hl _ ih =>
    intro k' hk
    obtain ⟨j, rfl⟩ : ∃ j, k' = j + 1 := ⟨k' - 1, by omega⟩
    exact .kth q0 q1 (by omega) fun p hp => ih p hp j (by omega)
theorem fine_house {ss : List PyData} (hs : ∀ s ∈ ss, SortOk s) (h5 : ss.length ≤ 5) : Fine 679 2 (.tuple ss) := fine_tuple (n := 133) (k := 1) (m := 5) (fun s hm => by
  obtain ⟨nm, lo, hi, rfl, hn, l0, l3, hh⟩ := hs s hm
  refine fine_tuple (n := 41) (k := 0) (m := 3) (fun x hx => ?_) (Nat.le_refl 3)
  rcases List.mem_cons.mp hx with rfl | hx
  · exact (fine_menu _ hn).mono (by decide) (Nat.le_refl _)
  rcases List.mem_cons.mp hx with rfl | hx
  · exact fine_int (Nat.lt_of_le_of_lt (show lo.natAbs ≤ 3 by omega) (by decide))
  · rw [List.mem_singleton.mp hx]
    rcases hh with rfl | ⟨h, rfl, h0, h1⟩
    · exact fine_none.mono (by decide) (Nat.le_refl _)
    · exact fine_int (Nat.lt_of_le_of_lt (show h.natAbs ≤ 9 by omega) (by decide))) h5
theorem lay_ints : ∀ ns : List Int, PyData.canLayAll0 (ns.map PyData.int) = true
  | [] => by simp [PyData.canLayAll0]
  | n :: ns => by
    rw [List.map_cons, PyData.canLayAll0, lay_ints ns]
    simp [PyData.canLay0]
theorem dep_ints : ∀ ns : List Int, PyData.depthAll (ns.map PyData.int) ≤ 0
  | [] => by simp [PyData.depthAll]
  | n :: ns => by
    rw [List.map_cons, PyData.depthAll]
    exact Nat.max_le.mpr ⟨Nat.le_refl _, dep_ints ns⟩
theorem shaped_ints (ns : List Int) : SeqAt.shaped (.list (ns.map PyData.int)) = true := by
  unfold SeqAt.shaped
  rw [PyData.canLay0, lay_ints, PyData.depth, decide_eq_true (by have := dep_ints ns; omega)]
  rfl
theorem ne_nil (ns : List Int) : neD (.list (ns.map PyData.int)) (.list []) = some (.bool (!ns.isEmpty)) := by
  have h0 := shaped_ints []
  unfold neD eqB
  have e : stxD (.list (ns.map PyData.int)) (.list []) = none := rfl
  rw [e]
  simp only
  rw [if_pos (by rw [shaped_ints, show SeqAt.shaped (.list []) = true from h0]; rfl)]
  cases ns with
  | nil => simp [PyData.eqv, PyData.eqvAll]
  | cons n ns => simp [PyData.eqv, PyData.eqvAll]

theorem fine_H {h : House} (oh : HOk h) : Fine 679 2 h.d := fine_tuple (n := 133) (k := 1) (m := 5) (fun d hd => by
  obtain ⟨s, hs, rfl⟩ := List.mem_map.mp hd
  refine fine_tuple (n := 41) (k := 0) (m := 3) (fun x hx => ?_) (Nat.le_refl 3)
  rcases List.mem_cons.mp hx with rfl | hx
  · exact (fine_menu _ (menu_strD (oh.nm _ (List.mem_map_of_mem hs)))).mono (by decide) (Nat.le_refl _)
  rcases List.mem_cons.mp hx with rfl | hx
  · have := oh.lo s hs
    exact fine_int (Nat.lt_of_le_of_lt (show _ ≤ 3 by omega) (by decide))
  · rw [List.mem_singleton.mp hx]
    have hi := oh.hi s hs
    generalize s.hi = o at hi
    cases o with
    | none => exact fine_none.mono (by decide) (Nat.le_refl _)
    | some m =>
      have := hi m rfl
      exact fine_int (Nat.lt_of_le_of_lt (show _ ≤ 9 by omega) (by decide))) (by rw [List.length_map]; exact oh.l5)
theorem fine_R {ns : List Int} {k : Nat} (hl : ns.length ≤ 9) (hb : ∀ n ∈ ns, n.natAbs < 10 ^ 40) : Fine 391 (k + 1) (rowD ns) := fine_tuple (n := 41) (k := k) (m := 9) (fun x hx => by
    obtain ⟨n, hn, rfl⟩ := List.mem_map.mp hx
    exact fine_int (hb n hn)) (by rw [List.length_map]; exact hl)
theorem fine_T {h : House} {pool : List Int} {t : Tbl} (oh : HOk h) (o : TOk h pool t) (hb : ∀ n ∈ pool, n.natAbs < 10 ^ 40) : Fine 2019 2 t.d := fine_dict (n1 := 8) (n2 := 391) (k := 1) (m := 5) (fun p hm => by
  obtain ⟨q, hq, rfl⟩ := List.mem_map.mp hm
  refine ⟨(fine_menu _ (menu_strD (oh.nm _ (names_sub o _ (List.mem_map_of_mem hq))))).mono (Nat.le_refl _) (by decide), ?_⟩
  exact fine_R (k := 0) (o.l9 q hq) fun n hn => hb n (o.num q hq n hn)) (by rw [List.length_map]; exact tlen oh o)
theorem fine_F {h : House} (oh : HOk h) {w n : Nat} {f : Fm} (hw : w ≤ 5) (o : FOk h w n f) : Fine (pF n) (2 + 2 * n) f.d :=
  fine_form (ss := h.map Srt.d) (by rw [List.length_map]; exact oh.l5) n f.d (form_of oh (o.mono hw (Nat.le_refl n)))
theorem fine_C {c : List Nat} {k m : Nat} (hl : c.length ≤ m) (hb : ∀ n ∈ c, n < 10 ^ 40) : Fine (m * (41 + 2) + 4) (k + 1) (cntD c) := fine_tuple (n := 41) (k := k) (m := m) (fun x hx => by
    obtain ⟨n, hn, rfl⟩ := List.mem_map.mp hx
    exact fine_int (by have := hb n hn; omega)) (by rw [List.length_map]; exact hl)
theorem lay_C (c : List Nat) : (cntD c).canLay0 = true := by
  unfold cntD
  rw [PyData.canLay0]
  exact canLayAll_of fun d hd => by obtain ⟨n, _, rfl⟩ := List.mem_map.mp hd; rfl
theorem nice_of {n k : Nat} {d : D} (f : Fine n k d) (l : d.canLay0 = true) (hn : n ≤ 16777216) (hk : k ≤ 60) : Nice d :=
  ⟨l, Nat.le_trans f.dp hk, f.can (by rw [sizeLine_eq]; exact hn) hk⟩
theorem nice_opt {o : Option Int} (h : ∀ v, o = some v → v.natAbs < 10 ^ 40) : Nice (optD o) := nice_of (fine_opt h).1 (fine_opt h).2 (by decide) (by decide)
theorem nice_bool (b : Bool) : Nice (.bool b) := nice_of (k := 0) fine_bool rfl (by decide) (by decide)
theorem notN_opt (o : Option Int) : notND (optD o) .none = some (.bool o.isSome) := by cases o <;> rfl
theorem isN_opt (o : Option Int) : isND (optD o) .none = some (.bool o.isNone) := by cases o <;> rfl
end CF
end
section
/-! CT, part 10: dicts. -/
namespace CF
open PySem
theorem putL_len (es : List (D × D)) (k d : D) : (CF.putL es k d).length ≤ es.length + 1 := by
  unfold CF.putL
  split
  · rw [List.length_map]; omega
  · rw [List.length_append, List.length_singleton]; omega
section
variable {ρ : List Slot} {Q : D → List Slot → Prop} {vs : List Nat} {src : M (List D)} {b : D → M Unit} {ek ev : M D} {t : M Bool}
/-- a dict of those items that pass the test -/
theorem iDCf (h : wp src ρ fun ds ρ1 => ∃ (α : Type) (xs : List α) (e : α → D) (p : α → Bool) (kf f : α → D), ds = xs.map e ∧ xs.length ≤ sizeLine ∧ (vs.all fun v => !isOwn (ρ1.getD v .un)) = true ∧
    (∀ x ∈ xs, isKey (kf x) = true ∧ ∃ ρ3, b (e x) (wipeS ρ1 vs) = some (.ok () ρ3) ∧ wp t ρ3 fun c ρ4 => c = p x ∧ if p x = true then wp ek ρ4 fun k ρ5 => k = kf x ∧ wp ev ρ5 fun y ρ6 => y = f x ∧ wipeS ρ6 vs = wipeS ρ1 vs else wipeS ρ4 vs = wipeS ρ1 vs) ∧
    Q (.dict (mergeE [] ((xs.filter p).map fun x => (kf x, f x)))) ρ1) : wp (mDC vs src b t ek ev) ρ Q := by
  unfold mDC
  refine wp_bind.mpr (h.mono fun ds ρ1 ⟨α, xs, e, p, kf, f, hd, hl, hv, it, q⟩ => ?_)
  subst hd
  have go : ∀ (xs' : List α) (acc : List (D × D)) (ρ2 : List Slot), (∀ x ∈ xs', x ∈ xs) → acc.length + xs'.length ≤ sizeLine → wipeS ρ2 vs = wipeS ρ1 vs → ∃ ρ3, dcGo vs b t ek ev (xs'.map e) acc ρ2 = some (.ok (mergeE acc ((xs'.filter p).map fun x => (kf x, f x))) ρ3) ∧ wipeS ρ3 vs = wipeS ρ1 vs := by
    intro xs'
    induction xs' with
    | nil => exact fun acc ρ2 _ _ i => ⟨ρ2, rfl, i⟩
    | cons d ds' ih =>
      intro acc ρ2 hm hz i
      rw [List.length_cons] at hz
      obtain ⟨hkey, ρ3, e3, c, ρ4, e4, ec, q4⟩ := it d (hm d (List.mem_cons_self ..))
      rw [← i] at e3
      have body : ∀ {rs : List (D × D)} {ρ6 : List Slot}, ((if c = true then (do
        let k ← ek
        let y ← ev
        if isKey k = true ∧ acc.length < sizeLine then dcGo vs b t ek ev (ds'.map e) (CF.putL acc k y) else fun _ => none : M (List (D × D))) else dcGo vs b t ek ev (ds'.map e) acc) ρ4 = some (.ok rs ρ6)) → dcGo vs b t ek ev (e d :: ds'.map e) acc ρ2 = some (.ok rs ρ6) := by
        intro rs ρ6 hb
        have hw : wp (dcGo vs b t ek ev (e d :: ds'.map e) acc) ρ2 (fun r ρ' => r = rs ∧ ρ' = ρ6) := by
          show wp ((fun ρ => some (.ok () (wipeS ρ vs)) : M Unit) >>= _) ρ2 _
          refine wp_bind.mpr ⟨(), _, rfl, ?_⟩
          refine wp_bind.mpr ⟨(), ρ3, e3, ?_⟩
          refine wp_bind.mpr ⟨c, ρ4, e4, ?_⟩
          exact ⟨_, _, hb, rfl, rfl⟩
        obtain ⟨r, ρ', e, rfl, rfl⟩ := hw
        exact e
      rw [List.map_cons]
      cases hp : p d with
      | true =>
        rw [hp] at ec q4
        rw [if_pos rfl] at q4
        obtain ⟨k, ρ5, e5, pk, y, ρ6, e6, py, i6⟩ := q4
        obtain ⟨ρ7, e7, i7⟩ := ih (CF.putL acc k y) ρ6 (fun d' h => hm d' (List.mem_cons_of_mem _ h)) (by have := putL_len acc k y; omega) i6
        refine ⟨ρ7, body ?_, i7⟩
        rw [if_pos ec]
        have hw : wp (do let k ← ek; let y ← ev; if isKey k = true ∧ acc.length < sizeLine then dcGo vs b t ek ev (ds'.map e) (CF.putL acc k y) else fun _ => none : M (List (D × D))) ρ4 (fun r ρ' => r = mergeE acc (((d :: ds').filter p).map fun x => (kf x, f x)) ∧ ρ' = ρ7) := by
          refine wp_bind.mpr ⟨k, ρ5, e5, ?_⟩
          refine wp_bind.mpr ⟨y, ρ6, e6, ?_⟩
          have e8 : (if isKey k = true ∧ acc.length < sizeLine then dcGo vs b t ek ev (ds'.map e) (CF.putL acc k y) else fun _ => none) ρ6 = some (.ok (mergeE (CF.putL acc k y) ((ds'.filter p).map fun x => (kf x, f x))) ρ7) := by rw [if_pos ⟨by rw [pk]; exact hkey, by omega⟩]; exact e7
          refine ⟨_, _, e8, ?_, rfl⟩
          rw [List.filter_cons, if_pos hp, List.map_cons, py, pk]
          rfl
        obtain ⟨r, ρ', e, rfl, rfl⟩ := hw
        exact e
      | false =>
        rw [hp] at ec q4
        rw [if_neg Bool.false_ne_true] at q4
        obtain ⟨ρ6, e6, i6⟩ := ih acc ρ4 (fun d' h => hm d' (List.mem_cons_of_mem _ h)) (by omega) q4
        refine ⟨ρ6, body ?_, i6⟩
        rw [if_neg (by rw [ec]; exact Bool.false_ne_true), e6, List.filter_cons, if_neg (by rw [hp]; exact Bool.false_ne_true)]
  obtain ⟨ρ3, e3, i3⟩ := go xs [] ρ1 (fun _ h => h) (by simpa using hl) rfl
  refine ⟨_, backS ρ1 ρ3 vs, ?_, by rw [wipe_back i3]; exact q⟩
  simp only
  rw [if_pos hv, e3]
/-- a dict of each item's pair -/
theorem iDCm (h : wp src ρ fun ds ρ1 => ∃ (α : Type) (xs : List α) (e kf f : α → D), ds = xs.map e ∧ xs.length ≤ sizeLine ∧ (vs.all fun v => !isOwn (ρ1.getD v .un)) = true ∧
    (∀ x ∈ xs, isKey (kf x) = true ∧ ∃ ρ3, b (e x) (wipeS ρ1 vs) = some (.ok () ρ3) ∧ wp ek ρ3 fun k ρ4 => k = kf x ∧ wp ev ρ4 fun y ρ5 => y = f x ∧ wipeS ρ5 vs = wipeS ρ1 vs) ∧ Q (.dict (mergeE [] (xs.map fun x => (kf x, f x)))) ρ1) : wp (mDC vs src b mYes ek ev) ρ Q := by
  refine iDCf (h.mono fun ds ρ1 ⟨α, xs, e, kf, f, hd, hl, hv, it, q⟩ => ⟨α, xs, e, fun _ => true, kf, f, hd, hl, hv, fun x hx => ?_, by rw [List.filter_eq_self.mpr fun _ _ => rfl]; exact q⟩)
  obtain ⟨h1, ρ3, e3, q3⟩ := it x hx
  exact ⟨h1, ρ3, e3, true, ρ3, rfl, rfl, by rw [if_pos rfl]; exact q3⟩
end
section
variable {ρ : List Slot} {Q : D → List Slot → Prop}
/-- x.index(y) and its like -/
theorem iMt {f : D → D → Option D} {a m : M LV} (h : wp a ρ fun x ρ1 => (∃ ds, lv x ρ1 = some (.list ds)) ∧ wp m ρ1 fun y ρ2 => op2E f x y Q ρ2) : wp (mMt f a m) ρ Q := by
  unfold mMt
  simp only [wp_bind, wp_get, wp_lift]
  exact h.mono fun x ρ1 ⟨⟨ds, hx⟩, q⟩ => ⟨_, hx, (), rfl, q.mono fun y ρ2 ⟨d, e, r, h1, h2, h3, h4⟩ => ⟨d, h1, e, h2, r, h3, h4⟩⟩
/-- x.update(e) and its like -/
theorem iUpd {i : Nat} {g : MutE} {as : M (List D)} {es : List (D × D)} (h0 : ρ[i]? = some (.own (.dict es))) (h : wp as ρ fun ds ρ1 => ∃ es1 r zs, ρ1[i]? = some (.own (.dict es1)) ∧ g es1 ds = some (r, zs) ∧ Q r (ρ1.set i (.own (.dict zs)))) : wp (mMutE i g as) ρ Q := by
  obtain ⟨ds, ρ1, e1, es1, r, zs, h1, h2, q⟩ := h
  unfold mMutE
  refine wp_bind.mpr ⟨(), ρ, by unfold mOwnE; rw [h0], ?_⟩
  refine wp_bind.mpr ⟨ds, ρ1, e1, ?_⟩
  exact ⟨r, _, by unfold mMutEGo; rw [h1]; simp only [h2]; rfl, q⟩
/-- {k: v, ..} -/
theorem iDisp {ps : List (M D × M D)} (h : wp (mPairs ps) ρ fun es ρ1 => (es.all fun p => isKey p.1) = true ∧ es.length ≤ 15 ∧ Q (.dict (mergeE [] es)) ρ1) : wp (mDisp ps) ρ Q := by
  obtain ⟨es, ρ1, e1, h1, h2, q⟩ := h
  refine ⟨_, ρ1, ?_, q⟩
  unfold mDisp
  rw [e1]
  simp only
  unfold dispC
  rw [if_pos ⟨h1, h2⟩]
  rfl
theorem iPairs0 {Q : List (D × D) → List Slot → Prop} (q : Q [] ρ) : wp (mPairs []) ρ Q := wp_pure.mpr q
theorem iPairs1 {Q : List (D × D) → List Slot → Prop} {mk mv : M D} {ps : List (M D × M D)} (h : wp mk ρ fun k ρ1 => wp mv ρ1 fun y ρ2 => wp (mPairs ps) ρ2 fun es ρ3 => Q ((k, y) :: es) ρ3) : wp (mPairs ((mk, mv) :: ps)) ρ Q := by
  show wp (mk >>= _) ρ Q
  refine wp_bind.mpr (h.mono fun k ρ1 h => wp_bind.mpr (h.mono fun y ρ2 h => wp_bind.mpr (h.mono fun es ρ3 q => wp_pure.mpr q)))
theorem iPar2 {QS : RS → List Slot → Prop} {oi oj : Bool} {i j : Nat} {a m : M D} (h : wp a ρ fun d ρ1 => wp m ρ1 fun e ρ2 => QS .nx ((ρ2.set i (slotOf oi d)).set j (slotOf oj e))) : wp (mPar2 oi oj i j a m) ρ QS := by
  unfold mPar2
  refine wp_bind.mpr (h.mono fun d ρ1 h => wp_bind.mpr (h.mono fun e ρ2 q => ⟨_, _, rfl, q⟩))
end
/-! ### merging dicts -/
def keysApart : List (D × D) → Prop
  | [] => True
  | p :: r => (∀ q ∈ r, keyEq p.1 q.1 = false) ∧ keysApart r
theorem putL_fresh {es : List (D × D)} {k d : D} (h : ∀ p ∈ es, keyEq p.1 k = false) : CF.putL es k d = es ++ [(k, d)] := by
  unfold CF.putL
  rw [if_neg]
  intro z
  obtain ⟨p, hp, e⟩ := List.any_eq_true.mp z
  rw [h p hp] at e
  cases e
theorem mergeE_apart : ∀ (es acc : List (D × D)), keysApart es → (∀ p ∈ acc, ∀ q ∈ es, keyEq p.1 q.1 = false) → mergeE acc es = acc ++ es
  | [], acc, _, _ => by rw [List.append_nil]; rfl
  | p :: r, acc, h, ha => by
    show mergeE (CF.putL acc p.1 p.2) r = _
    rw [putL_fresh fun q hq => ha q hq p (List.mem_cons_self ..), mergeE_apart r _ h.2, List.append_assoc]
    · rfl
    · intro q hq x hx
      rcases List.mem_append.mp hq with z | z
      · exact ha q z x (List.mem_cons_of_mem _ hx)
      · rw [List.mem_singleton.mp z]; exact h.1 x hx
theorem merge0 {es : List (D × D)} (h : keysApart es) : mergeE [] es = es := by
  have := mergeE_apart es [] h fun _ z => nomatch z
  simpa using this
theorem iTmpE {i : Nat} {t : M Bool} {ρ : List Slot} {es : List (D × D)} {Q : Bool → List Slot → Prop} (hi : ρ[i]? = some (.own (.dict es))) (h : wp t (tmpE i es ρ) fun c _ => Q c ρ) : wp (mTmp i t) ρ Q := by
  obtain ⟨c, ρ', e, q⟩ := h
  refine ⟨c, ρ, ?_, q⟩
  unfold mTmp
  rw [hi]
  simp only [e]
end CF
end
section
/-! CT, part 11: numbers replaced in tables. -/
namespace CF
open PySem
local macro_rules | `(tactic| walk_at "hf") => `(tactic| (first
  | with_reducible exact eqD_int | with_reducible exact eqD_str | with_reducible exact neD_int | with_reducible exact addD_int | with_reducible exact addI_int | with_reducible exact subD_int | with_reducible exact geD_int | with_reducible exact gtD_int | with_reducible exact leD_int | with_reducible exact ltD_int | with_reducible exact modD_of (by decide) | with_reducible exact mulD_r (by decide) | with_reducible exact mulD_l (by decide) | with_reducible exact powD_of (by decide) | with_reducible exact ix0 | ((with_reducible show ixD (.list _) (.int _) = _); rfl) | ((with_reducible show ixD (.tuple _) (.int _) = _); rfl)
  | with_reducible exact intC_int | with_reducible exact lenC_list | with_reducible exact lenC_tuple | with_reducible exact tupleC_list | with_reducible exact listC_tuple | with_reducible exact listC_dict | with_reducible exact isN_none | with_reducible exact isN_int | with_reducible exact notN_none | with_reducible exact notN_int | with_reducible exact min2_int | with_reducible exact max2_int | with_reducible exact slD_list | with_reducible exact slD_tuple | with_reducible exact neD_str | with_reducible exact max2_int))
local macro_rules | `(tactic| walk_at "m1") => `(tactic| (first
  | with_reducible refine iSq ?_ | with_reducible refine iThn ?_ | with_reducible refine iIfS ?_ | with_reducible refine iSet ?_ | with_reducible refine iSetB ?_ | with_reducible refine iSetO ?_ | with_reducible refine iRet ?_ | with_reducible refine iNx ?_ | with_reducible refine iThnR ?_
  | with_reducible refine iTest ?_ | with_reducible refine iOp2 ?_ | ((with_reducible refine' iPk ?h1 ?h2); (case h1 => rfl)) | with_reducible refine iV ?_ | with_reducible refine iC ?_ | ((with_reducible refine' iVar ?h1 ?h2); (case h1 => rfl))
  | with_reducible refine iCall ?_ | with_reducible refine iLs0 ?_ | with_reducible refine iLs ?_ | with_reducible refine iSub ?_ | with_reducible refine iSl ?_ | with_reducible refine iSome ?_ | with_reducible refine iNone ?_ | with_reducible refine iLst ?_ | with_reducible refine iTup ?_ | with_reducible refine iDs0 ?_ | with_reducible refine iDs ?_
  | with_reducible refine iAnd ?_ | with_reducible refine iOr ?_ | with_reducible refine iNot ?_ | with_reducible refine iBl ?_ | with_reducible refine iIf ?_ | with_reducible refine iDrop ?_ | with_reducible refine iYes ?_ | with_reducible refine iPar ?_
  | ((with_reducible refine' iAugS ?h1 ?h2); (case h1 => exact ⟨_, rfl⟩))
  | ((with_reducible refine' iPutE ?h1 ?h2 ?h3); (case h1 => rfl); (case h2 => rfl))
  | ((with_reducible refine' iOp2E ?h1 ?h2 ?h3 ?h4); (case h1 => rfl); (case h2 => rfl); (case h3 => walk_at "hf"))
  | ((with_reducible refine' iCallE ?h1 ?h2 ?h3); (case h1 => rfl); (case h2 => walk_at "hf"))
  | with_reducible refine ⟨sz0, ?_⟩ | with_reducible refine ⟨sz1, ?_⟩ | with_reducible refine ⟨sz2, ?_⟩ | with_reducible refine ⟨sz3, ?_⟩ | with_reducible refine ⟨sz4, ?_⟩ | with_reducible refine ⟨sz5, ?_⟩
  | (with_reducible refine ⟨_, rfl, ?_⟩)
  | ((with_reducible refine' ⟨_, ?h1, ?h2⟩); (case h1 => walk_at "hf"))
  | ((with_reducible refine' ⟨⟨_, ?h1⟩, ?h2⟩); (case h1 => rfl))
  | ((with_reducible refine' ⟨_, _, ?h1, ?h2, ?h3⟩); (case h1 => rfl); (case h2 => walk_at "hf"))
  | ((with_reducible refine' ⟨_, _, ?h1, ?h2, ?h3⟩); (case h1 => rfl); (case h2 => rfl))))
/-! ### keys apart -/
theorem keyEq_int (a b : Int) : keyEq (.int a) (.int b) = decide (a = b) := by
  show (decide (a = b) : Bool) = _
  rfl
theorem apart_str {α : Type} {k : α → Str} {f : α → D} : ∀ {xs : List α}, (xs.map k).Nodup → keysApart (xs.map fun x => (PyData.str (k x), f x))
  | [], _ => trivial
  | x :: xs, n => by
    rw [List.map_cons, List.nodup_cons] at n
    refine ⟨fun q hq => ?_, apart_str n.2⟩
    obtain ⟨y, hy, rfl⟩ := List.mem_map.mp hq
    rw [keyEq_str]
    exact decide_eq_false fun e => n.1 (e ▸ List.mem_map_of_mem (f := k) hy)
theorem apart_int {α : Type} {k : α → Int} {f : α → D} : ∀ {xs : List α}, (xs.map k).Nodup → keysApart (xs.map fun x => (PyData.int (k x), f x))
  | [], _ => trivial
  | x :: xs, n => by
    rw [List.map_cons, List.nodup_cons] at n
    refine ⟨fun q hq => ?_, apart_int n.2⟩
    obtain ⟨y, hy, rfl⟩ := List.mem_map.mp hq
    rw [keyEq_int]
    exact decide_eq_false fun e => n.1 (e ▸ List.mem_map_of_mem (f := k) hy)
theorem look_int {α : Type} {k : α → Int} {f : α → D} {x : α} : ∀ {xs : List α}, (xs.map k).Nodup → x ∈ xs → lookD (xs.map fun x => (PyData.int (k x), f x)) (.int (k x)) = some (f x)
  | y :: ys, n, h => by
    rw [List.map_cons, List.nodup_cons] at n
    rw [List.map_cons]
    show (if keyEq (.int (k y)) (.int (k x)) = true then some (f y) else lookD (ys.map _) _) = _
    rw [keyEq_int]
    rcases List.mem_cons.mp h with rfl | h
    · simp
    · have hn : ¬ k y = k x := fun e => n.1 (e ▸ List.mem_map_of_mem (f := k) h)
      rw [decide_eq_false hn, if_neg Bool.false_ne_true]
      exact look_int n.2 h
theorem pairs_map {α : Type} {kf f : α → D} : ∀ {xs : List α}, (∀ x ∈ xs, isKey (kf x) = true) → pairsD (xs.map fun x => .tuple [kf x, f x]) = some (xs.map fun x => (kf x, f x))
  | [], _ => rfl
  | x :: xs, h => by
    rw [List.map_cons, pairsD, if_pos (h x (List.mem_cons_self ..)), pairs_map fun y hy => h y (List.mem_cons_of_mem _ hy)]
    rfl
theorem dictP_of {α : Type} {kf f : α → D} {xs : List α} (h : ∀ x ∈ xs, isKey (kf x) = true) (ap : keysApart (xs.map fun x => (kf x, f x))) : dictPC [.list (xs.map fun x => .tuple [kf x, f x])] = some (.dict (xs.map fun x => (kf x, f x))) := by
  unfold dictPC
  simp only
  rw [pairs_map h, Option.map_some, merge0 ap]
/-! ### dicts compared -/
theorem dic_eqB {es fs : List (D × D)} (h1 : ∀ p ∈ es, valOk p.2 = true) (h2 : ∀ p ∈ fs, valOk p.2 = true) : eqB (.dict es) (.dict fs) = some (es.length == fs.length && eqKs es fs) := by
  unfold eqB
  have e : stxD (.dict es) (.dict fs) = none := rfl
  have s : SeqAt.shaped (.dict es) = false := by unfold SeqAt.shaped; rw [PyData.canLay0]; rfl
  rw [e]
  simp only
  rw [s, Bool.false_and, if_neg Bool.false_ne_true]
  unfold dicB
  simp only
  rw [if_pos]
  rw [Bool.and_eq_true, List.all_eq_true, List.all_eq_true]
  exact ⟨h1, h2⟩
theorem eqKs_of {es fs : List (D × D)} (h : ∀ p ∈ es, lookD fs p.1 = some p.2 ∧ valOk p.2 = true) : eqKs es fs = true := by
  unfold eqKs
  rw [List.all_eq_true]
  intro p hp
  obtain ⟨h1, h2⟩ := h p hp
  rw [h1]
  unfold valOk at h2
  rw [Bool.and_eq_true] at h2
  exact SeqAt.eqv_refl _ (SeqAt.canLay_of_shaped h2.1)
theorem look_apart : ∀ {es : List (D × D)}, keysApart es → (∀ p ∈ es, isKey p.1 = true) → ∀ p ∈ es, lookD es p.1 = some p.2
  | q :: es, ka, hk, p, hp => by
    obtain ⟨k, d⟩ := q
    unfold lookD
    rcases List.mem_cons.mp hp with rfl | hp
    · have : keyEq k k = true := by
        have := hk (k, d) (List.mem_cons_self ..)
        cases k <;> first | (cases this; done) | simp [keyEq]
      rw [if_pos this]
    · have h1 : keyEq k p.1 = false := ka.1 p hp
      rw [h1, if_neg Bool.false_ne_true]
      exact look_apart ka.2 (fun x hx => hk x (List.mem_cons_of_mem _ hx)) p hp
/-- a dict that may be compared and shown -/
structure NiceE (es : List (D × D)) : Prop where
  ap : keysApart es
  ke : ∀ p ∈ es, isKey p.1 = true
  va : ∀ p ∈ es, valOk p.2 = true
  sh : canShow (.dict es) = true
theorem NiceE.eq {es : List (D × D)} (h : NiceE es) : eqD (.dict es) (.dict es) = some (.bool true) := by
  unfold eqD
  rw [dic_eqB h.va h.va, eqKs_of fun p hp => ⟨look_apart h.ap h.ke p hp, h.va p hp⟩]
  simp
theorem alike_d {es : List (D × D)} (h : NiceE es) : pureFn g_alike [.dict es, .dict es] (· = .bool true) := by
  unfold g_alike pureFn
  refine run_gives rfl ?_
  unfold b_alike
  repeat walk_at "m1"
  refine iOp2E rfl rfl h.eq ?_
  repeat walk_at "m1"
  refine iteT ?_
  repeat walk_at "m1"
  refine iCallE rfl (repr_of h.sh) ?_
  repeat walk_at "m1"
  refine iCallE rfl (repr_of h.sh) ?_
  repeat walk_at "m1"
  exact ⟨rfl, by rw [decide_eq_true rfl]⟩
theorem valOk_row (ns : List Int) : valOk (rowD ns) = true := by
  have h : (rowD ns).depth ≤ 1 := by
    unfold rowD
    rw [PyData.depth]
    have := dep_ints ns
    omega
  unfold valOk SeqAt.shaped
  rw [decide_eq_true (show (rowD ns).depth ≤ 64 by omega), decide_eq_true (show (rowD ns).depth ≤ 60 by omega)]
  unfold rowD
  rw [PyData.canLay0, lay_ints]
  rfl
section
variable {h : House} {pool : List Int} {t : Tbl}
theorem nice_T (oh : HOk h) (o : TOk h pool t) (hb : ∀ n ∈ pool, n.natAbs < 10 ^ 40) : NiceE (t.map entD) := by
  refine ⟨apart_str (k := fun p : Str × List Int => p.1) (f := fun p => rowD p.2) (o.nodup oh), fun p hp => ?_, fun p hp => ?_, ?_⟩
  · obtain ⟨q, _, rfl⟩ := List.mem_map.mp hp; rfl
  · obtain ⟨q, _, rfl⟩ := List.mem_map.mp hp; exact valOk_row _
  · exact (fine_T oh o hb).can (by rw [sizeLine_eq]; decide) (by decide)
/-- .. two tables with the same rows -/
theorem same_T (oh : HOk h) (o : TOk h pool t) {pool' : List Int} {t' : Tbl} (o' : TOk h pool' t') (e : ∀ x ∈ h.nms, t'.row x = t.row x) : eqB t'.d t.d = some true := by
  unfold Tbl.d
  rw [dic_eqB (fun p hp => ?_) (fun p hp => ?_), eqKs_of fun p hp => ?_]
  · have l1 := o.nms.length_eq
    have l2 := o'.nms.length_eq
    rw [List.length_map] at l1 l2
    rw [List.length_map, List.length_map, Bool.and_true]
    simp
    omega
  · obtain ⟨q, hq, rfl⟩ := List.mem_map.mp hp
    refine ⟨?_, valOk_row _⟩
    have hx : q.1 ∈ h.nms := o'.nms.mem_iff.mp (List.mem_map_of_mem hq)
    have e1 : lookD (t.map entD) (entD q).1 = (t.lookup q.1).map rowD := look_t
    have e2 : t'.row q.1 = q.2 := by
      unfold Tbl.row
      rw [look_of_mem (o'.nodup oh) hq]
      rfl
    rw [e1, (o.row_mem hx).1, ← e q.1 hx, e2]
    rfl
  · obtain ⟨q, _, rfl⟩ := List.mem_map.mp hp; exact valOk_row _
  · obtain ⟨q, _, rfl⟩ := List.mem_map.mp hp; exact valOk_row _
/-! ### numbers replaced -/
def Tbl.led (h : House) (φ : Int → Int) (t : Tbl) : Tbl := h.map fun s => (s.nm, (t.row s.nm).map φ)
theorem led_nms {φ : Int → Int} : (t.led h φ).map (·.1) = h.nms := by
  unfold Tbl.led House.nms
  rw [List.map_map]
  rfl
theorem led_row (oh : HOk h) {φ : Int → Int} {x : Str} (hx : x ∈ h.nms) : (t.led h φ).row x = (t.row x).map φ := by
  obtain ⟨s, hs, rfl⟩ := List.mem_map.mp hx
  have n : ((t.led h φ).map (·.1)).Nodup := by rw [led_nms]; exact oh.nodup
  have m : (s.nm, (t.row s.nm).map φ) ∈ t.led h φ := List.mem_map_of_mem (f := fun s : Srt => (s.nm, (t.row s.nm).map φ)) hs
  have := look_of_mem n m
  show ((t.led h φ).lookup s.nm).getD [] = _
  rw [this]
  rfl
def MonoOn (φ : Int → Int) (pool : List Int) : Prop := ∀ a ∈ pool, ∀ b ∈ pool, a ≤ b → φ a ≤ φ b
theorem mono_map {φ : Int → Int} : ∀ {ns : List Int}, MonoOn φ ns → ns.Pairwise (· ≤ ·) → (ns.map φ).Pairwise (· ≤ ·)
  | [], _, _ => .nil
  | n :: ns, m, p => by
    rw [List.pairwise_cons] at p
    rw [List.map_cons, List.pairwise_cons]
    refine ⟨fun y hy => ?_, mono_map (fun a ha b hb => m a (List.mem_cons_of_mem _ ha) b (List.mem_cons_of_mem _ hb)) p.2⟩
    obtain ⟨z, hz, rfl⟩ := List.mem_map.mp hy
    exact m n (List.mem_cons_self ..) z (List.mem_cons_of_mem _ hz) (p.1 z hz)
theorem MonoOn.sub {φ : Int → Int} {ns : List Int} (m : MonoOn φ pool) (s : ∀ n ∈ ns, n ∈ pool) : MonoOn φ ns := fun a ha b hb => m a (s a ha) b (s b hb)
theorem led_ok (oh : HOk h) (o : TOk h pool t) {φ : Int → Int} (m : MonoOn φ pool) : TOk h (pool.map φ) (t.led h φ) := by
  refine ⟨by rw [led_nms], fun p hp => ?_, fun s hs => ?_, fun p hp => ?_, fun p hp n hn => ?_⟩
  · obtain ⟨s, hs, rfl⟩ := List.mem_map.mp hp
    have hx : s.nm ∈ h.nms := List.mem_map_of_mem hs
    exact mono_map (m.sub (o.mem hx)) (o.asc _ (o.row_mem hx).2)
  · have hx : s.nm ∈ h.nms := List.mem_map_of_mem hs
    rw [led_row oh hx, List.length_map]
    exact o.sz s hs
  · obtain ⟨s, hs, rfl⟩ := List.mem_map.mp hp
    have hx : s.nm ∈ h.nms := List.mem_map_of_mem hs
    show ((t.row s.nm).map φ).length ≤ 9
    rw [List.length_map]
    exact o.len hx
  · obtain ⟨s, hs, rfl⟩ := List.mem_map.mp hp
    have hx : s.nm ∈ h.nms := List.mem_map_of_mem hs
    obtain ⟨k, hk, rfl⟩ := List.mem_map.mp hn
    exact List.mem_map_of_mem (o.mem hx k hk)
theorem asc_nms (oh : HOk h) (o : TOk h pool t) : ascS (t.map (·.1)) = h.nms :=
  ((ascS_perm _).trans o.nms).eq_of_pairwise (le := strLe) (fun a b _ _ h1 h2 => strLe_anti h1 h2) (ascS_pw _) (oh.asc.imp fun {a b} z => strLt_le z)
def b_relabelled : MS :=
  (mRetF [] (mDC [3] (mIt (mCall sortedC [(mPk 0)])) (setS 3) mYes (mVar 3) (mCall tupleC [(mV (mLC [2] (mIt (mOp2 ixD (mPk 0) (mPk 3))) (setS 2) mYes (mOp2 ixD (mPk 1) (mPk 2))))])))
def g_relabelled : FM := runF true 2 2 [] b_relabelled
theorem relabelled_t (oh : HOk h) (o : TOk h pool t) {φ : Int → Int} {es : List (D × D)} (hes : ∀ n ∈ pool, lookD es (.int n) = some (.int (φ n))) : pureFn g_relabelled [t.d, .dict es] (· = (t.led h φ).d) := by
  unfold g_relabelled pureFn
  refine run_gives rfl ?_
  unfold b_relabelled
  have l5 := tlen oh o
  have hl : h.nms.length ≤ 5 := by unfold House.nms; rw [List.length_map]; exact oh.l5
  refine iRetF (iDCm (wIt (iCall (iLs (iPk rfl ?_)))))
  repeat walk_at "m1"
  refine iCallE rfl (show sortedC [t.d] = some (.list (h.nms.map PyData.str)) from ?_) ?_
  · show (if keysOk (t.map entD) = true then some (PyData.list (sortL false ((t.map entD).map (·.1)))) else none) = _
    rw [if_pos, show (t.map entD).map (·.1) = (t.map (·.1)).map PyData.str by rw [List.map_map, List.map_map]; rfl, sort_strs, asc_nms oh o]
    unfold keysOk
    rw [decide_eq_true (by rw [List.length_map]; omega), Bool.true_and, Bool.or_eq_true]
    refine .inl ?_
    rw [List.all_eq_true]
    intro p hp
    obtain ⟨q, _, rfl⟩ := List.mem_map.mp hp
    rfl
  refine ⟨_, rfl, Str, h.nms, PyData.str, PyData.str, (fun x => rowD ((t.row x).map φ)), rfl, by rw [sizeLine_eq]; omega, rfl, ?_, ?_⟩
  · intro x hx
    refine ⟨rfl, _, rfl, ?_⟩
    repeat walk_at "m1"
    refine ⟨rfl, ?_⟩
    refine iCall (iLs (iV (iLCm (wIt (iOp2 (iPk rfl (iPk rfl ?_)))))))
    refine iOp2E rfl rfl (o.ix hx) ?_
    have l9 := o.len hx
    refine ⟨_, rfl, Int, t.row x, PyData.int, (fun n => .int (φ n)), rfl, by rw [sizeLine_eq]; omega, rfl, ?_, ?_⟩
    · intro n hn
      refine ⟨_, rfl, ?_⟩
      repeat walk_at "m1"
      refine iOp2E rfl rfl (show ixD (.dict es) (.int n) = some (.int (φ n)) from ?_) ⟨rfl, rfl⟩
      show (if isKey (.int n) = true then lookD es (.int n) else none) = _
      rw [if_pos (show isKey (.int n) = true from rfl), hes n (o.mem hx n hn)]
    · repeat walk_at "m1"
      refine ⟨?_, rfl⟩
      show PyData.tuple ((t.row x).map fun n => PyData.int (φ n)) = PyData.tuple (((t.row x).map φ).map PyData.int)
      rw [List.map_map]
      rfl
  · refine ⟨rfl, _, rfl, rfl, ?_⟩
    show PyData.dict (mergeE [] (h.nms.map fun x => (PyData.str (id x), rowD ((t.row x).map φ)))) = _
    rw [merge0 (apart_str (k := id) (f := fun x => rowD ((t.row x).map φ)) (by rw [List.map_id]; exact oh.nodup))]
    unfold Tbl.d Tbl.led House.nms
    rw [List.map_map, List.map_map]
    rfl
theorem kth_map {φ : Int → Int} {ns : List Int} (m : MonoOn φ ns) (k : Int) : kthI (ns.map φ) k = (kthI ns k).map φ := by
  have e : descI (ns.map φ) = (descI ns).map φ := by
    rw [desc_rev, desc_rev, List.map_reverse]
    congr 1
    exact (asc_of ((asc_perm ns).map φ) (mono_map (m.sub fun n hn => (asc_perm ns).mem_iff.mp hn) (asc_pw ns))).symm
  unfold kthI
  rw [List.length_map, e, List.getElem?_map]
  split <;> rfl
theorem rows_map {t' : Tbl} {φ : Int → Int} (hr : ∀ x ∈ h.nms, t'.row x = (t.row x).map φ) : ∀ {l : List Str}, (∀ x ∈ l, x ∈ h.nms) → t'.rows l = (t.rows l).map φ
  | [], _ => rfl
  | x :: l, hl => by
    have ih := rows_map hr (l := l) fun y hy => hl y (List.mem_cons_of_mem _ hy)
    unfold Tbl.rows at ih ⊢
    rw [List.map_cons, List.flatten_cons, List.map_cons, List.flatten_cons, List.map_append, ih, hr x (hl x (List.mem_cons_self ..))]
theorem val_map (o : TOk h pool t) {t' : Tbl} {φ : Int → Int} (hr : ∀ x ∈ h.nms, t'.row x = (t.row x).map φ) (m : MonoOn φ pool) {w n : Nat} {f : Fm} (of : FOk h w n f) : f.val t' = (f.val t).map φ := by
  induction of with
  | rank ol k0 k1 =>
    rw [Fm.val, Fm.val, rows_map hr ol.sub, kth_map (m.sub (rows_pool o ol.sub))]
  | @kth n k ps k0 k1 k2 hp ih =>
    rw [Fm.val, Fm.val, Fm.valL_map, Fm.valL_map]
    have e : (ps.map (Fm.val t')).filterMap id = ((ps.map (Fm.val t)).filterMap id).map φ := by
      clear k1 k2
      induction ps with
      | nil => rfl
      | cons p ps ih2 =>
        have := ih2 (fun q hq => hp q (List.mem_cons_of_mem _ hq)) fun q hq => ih q (List.mem_cons_of_mem _ hq)
        rw [List.map_cons, List.map_cons, List.filterMap_cons, List.filterMap_cons, ih p (List.mem_cons_self ..), this]
        cases Fm.val t p <;> rfl
    rw [e, kth_map]
    refine m.sub fun v hv => ?_
    obtain ⟨ov, ho, e⟩ := List.mem_filterMap.mp hv
    obtain ⟨p, hpm, rfl⟩ := List.mem_map.mp ho
    exact val_mem o (hp p hpm) v e
theorem val_led (oh : HOk h) (o : TOk h pool t) {φ : Int → Int} (m : MonoOn φ pool) {w n : Nat} {f : Fm} (of : FOk h w n f) : f.val (t.led h φ) = (f.val t).map φ := val_map o (fun x hx => led_row oh hx) m of
end
end CF
end
section
/-! CM2: rows of patterns: mathematics. -/
namespace CF
open PySem
local macro_rules | `(tactic| walk_at "hf") => `(tactic| (first
  | with_reducible exact eqD_int | with_reducible exact eqD_str | with_reducible exact neD_int | with_reducible exact addD_int | with_reducible exact addI_int | with_reducible exact subD_int | with_reducible exact geD_int | with_reducible exact gtD_int | with_reducible exact leD_int | with_reducible exact ltD_int | with_reducible exact modD_of (by decide) | with_reducible exact mulD_r (by decide) | with_reducible exact mulD_l (by decide) | with_reducible exact powD_of (by decide) | with_reducible exact ix0 | ((with_reducible show ixD (.list _) (.int _) = _); rfl) | ((with_reducible show ixD (.tuple _) (.int _) = _); rfl)
  | with_reducible exact intC_int | with_reducible exact lenC_list | with_reducible exact lenC_tuple | with_reducible exact tupleC_list | with_reducible exact listC_tuple | with_reducible exact listC_dict | with_reducible exact isN_none | with_reducible exact isN_int | with_reducible exact notN_none | with_reducible exact notN_int | with_reducible exact min2_int | with_reducible exact max2_int | with_reducible exact slD_list | with_reducible exact slD_tuple | with_reducible exact neD_str | with_reducible exact max2_int))
local macro_rules | `(tactic| walk_at "m1") => `(tactic| (first
  | with_reducible refine iSq ?_ | with_reducible refine iThn ?_ | with_reducible refine iIfS ?_ | with_reducible refine iSet ?_ | with_reducible refine iSetB ?_ | with_reducible refine iSetO ?_ | with_reducible refine iRet ?_ | with_reducible refine iNx ?_ | with_reducible refine iThnR ?_
  | with_reducible refine iTest ?_ | with_reducible refine iOp2 ?_ | ((with_reducible refine' iPk ?h1 ?h2); (case h1 => rfl)) | with_reducible refine iV ?_ | with_reducible refine iC ?_ | ((with_reducible refine' iVar ?h1 ?h2); (case h1 => rfl))
  | with_reducible refine iCall ?_ | with_reducible refine iLs0 ?_ | with_reducible refine iLs ?_ | with_reducible refine iSub ?_ | with_reducible refine iSl ?_ | with_reducible refine iSome ?_ | with_reducible refine iNone ?_ | with_reducible refine iLst ?_ | with_reducible refine iTup ?_ | with_reducible refine iDs0 ?_ | with_reducible refine iDs ?_
  | with_reducible refine iAnd ?_ | with_reducible refine iOr ?_ | with_reducible refine iNot ?_ | with_reducible refine iBl ?_ | with_reducible refine iIf ?_ | with_reducible refine iDrop ?_ | with_reducible refine iYes ?_ | with_reducible refine iPar ?_
  | ((with_reducible refine' iAugS ?h1 ?h2); (case h1 => exact ⟨_, rfl⟩))
  | ((with_reducible refine' iPutE ?h1 ?h2 ?h3); (case h1 => rfl); (case h2 => rfl))
  | ((with_reducible refine' iOp2E ?h1 ?h2 ?h3 ?h4); (case h1 => rfl); (case h2 => rfl); (case h3 => walk_at "hf"))
  | ((with_reducible refine' iCallE ?h1 ?h2 ?h3); (case h1 => rfl); (case h2 => walk_at "hf"))
  | with_reducible refine ⟨sz0, ?_⟩ | with_reducible refine ⟨sz1, ?_⟩ | with_reducible refine ⟨sz2, ?_⟩ | with_reducible refine ⟨sz3, ?_⟩ | with_reducible refine ⟨sz4, ?_⟩ | with_reducible refine ⟨sz5, ?_⟩
  | (with_reducible refine ⟨_, rfl, ?_⟩)
  | ((with_reducible refine' ⟨_, ?h1, ?h2⟩); (case h1 => walk_at "hf"))
  | ((with_reducible refine' ⟨⟨_, ?h1⟩, ?h2⟩); (case h1 => rfl))
  | ((with_reducible refine' ⟨_, _, ?h1, ?h2, ?h3⟩); (case h1 => rfl); (case h2 => walk_at "hf"))
  | ((with_reducible refine' ⟨_, _, ?h1, ?h2, ?h3⟩); (case h1 => rfl); (case h2 => rfl))))
/-! ### pressed rows -/
def pressF {α : Type} [DecidableEq α] (p : α) : List α → List α
  | [] => []
  | x :: xs => if x = p then pressF p xs else x :: pressF x xs
def pressB {α : Type} [DecidableEq α] : List α → List α
  | [] => []
  | x :: xs => x :: pressF x xs
def Stair (m : Nat) : Nat → List Nat → Prop
  | j, [] => j = m
  | j, k :: ks => (k = j ∨ k = j + 1) ∧ Stair m k ks
theorem Stair.le {m : Nat} : ∀ {js : List Nat} {j : Nat}, Stair m j js → j ≤ m
  | [], _, h => Nat.le_of_eq h
  | k :: ks, j, h => by
    have := Stair.le h.2
    rcases h.1 with e | e <;> omega
theorem press_stair {α : Type} [DecidableEq α] {Q : Nat → α} {m : Nat} (hq : ∀ i, i < m → Q (i + 1) ≠ Q i) : ∀ {js : List Nat} {j : Nat}, Stair m j js → pressF (Q j) (js.map Q) = (List.range' (j + 1) (m - j)).map Q
  | [], j, h => by
    have h : j = m := h
    subst h
    simp [pressF]
  | k :: ks, j, h => by
    have ih := press_stair hq h.2
    have hk := Stair.le h.2
    rw [List.map_cons, pressF]
    rcases h.1 with rfl | rfl
    · rw [if_pos rfl, ih]
    · rw [if_neg (hq j (by omega)), ih, show m - j = (m - (j + 1)) + 1 by omega, List.range'_succ, List.map_cons]
/-! ### values in order -/
section
variable {A : Type} (as : List A) (v : A → Option Int)
def vals : List Int := sset ((as.map v).filterMap id)
theorem mem_vals {x : Int} : x ∈ vals as v ↔ ∃ a ∈ as, v a = some x := by
  unfold vals
  rw [mem_sset, List.mem_filterMap]
  constructor
  · rintro ⟨o, ho, e⟩
    obtain ⟨a, ha, rfl⟩ := List.mem_map.mp ho
    exact ⟨a, ha, e⟩
  · rintro ⟨a, ha, e⟩
    exact ⟨some x, List.mem_map.mpr ⟨a, ha, e⟩, rfl⟩
/-- how many values are less -/
def below (c : Int) : Nat := ((vals as v).filter fun x => decide (x < c)).length
def ordA (a : A) : Option Nat := (v a).map (below as v)
def patA (p : Int → Bool) : List Bool := as.map fun a => (v a).any p
def Qp (j : Nat) : List Bool := as.map fun a => (ordA as v a).any fun i => decide (j ≤ i)
variable {as v}
theorem below_mono {c d : Int} (h : c ≤ d) : below as v c ≤ below as v d := by
  unfold below
  refine List.Sublist.length_le ?_
  rw [show (vals as v).filter (fun x => decide (x < c)) = ((vals as v).filter fun x => decide (x < d)).filter fun x => decide (x < c) by
    rw [List.filter_filter]
    refine List.filter_congr fun x _ => ?_
    by_cases q : x < c
    · simp [q]; omega
    · simp [q]]
  exact List.filter_sublist
theorem below_lt {c x : Int} (hx : x ∈ vals as v) (h : x < c) : below as v x < below as v c := by
  have e : below as v (x + 1) = below as v x + 1 := by
    unfold below
    have nd : (vals as v).Nodup := (pw_sset _).imp fun {a b} z => by omega
    generalize vals as v = w at hx nd
    induction w with
    | nil => cases hx
    | cons y w ih =>
      rw [List.nodup_cons] at nd
      rw [List.filter_cons, List.filter_cons]
      rcases List.mem_cons.mp hx with rfl | hx
      · rw [if_pos (by simp; omega), if_neg (by simp), List.length_cons]
        congr 2
        refine List.filter_congr fun z hz => ?_
        have : z ≠ x := fun e => nd.1 (e ▸ hz)
        rw [Bool.eq_iff_iff]
        simp
        omega
      · have hy : y ≠ x := fun e => nd.1 (e ▸ hx)
        have ih := ih hx nd.2
        by_cases q : y < x
        · rw [if_pos (by simp; omega), if_pos (by simpa using q), List.length_cons, List.length_cons, ih]
        · rw [if_neg (by simp; omega), if_neg (by simpa using q), ih]
  have := below_mono (as := as) (v := v) (show x + 1 ≤ c by omega)
  omega
theorem below_len {x : Int} (hx : x ∈ vals as v) : below as v x < (vals as v).length := by
  have h : below as v x < below as v (x + 1) := below_lt hx (by omega)
  have : below as v (x + 1) ≤ (vals as v).length := List.length_filter_le ..
  omega
theorem pat_Q (c : Int) : patA as v (fun x => decide (c ≤ x)) = Qp as v (below as v c) := by
  unfold patA Qp
  refine List.map_congr_left fun a ha => ?_
  unfold ordA
  cases e : v a with
  | none => rfl
  | some x =>
    have hx : x ∈ vals as v := (mem_vals as v).mpr ⟨a, ha, e⟩
    show decide (c ≤ x) = decide (below as v c ≤ below as v x)
    rw [Bool.eq_iff_iff, decide_eq_true_iff, decide_eq_true_iff]
    constructor
    · exact below_mono
    · intro h
      by_cases q : c ≤ x
      · exact q
      · have := below_lt hx (show x < c by omega)
        omega
theorem pat_0 : patA as v (fun _ => true) = Qp as v 0 := by
  unfold patA Qp
  refine List.map_congr_left fun a ha => ?_
  unfold ordA
  cases v a <;> simp
theorem pat_m : as.map (fun _ => false) = Qp as v (vals as v).length := by
  unfold Qp
  refine List.map_congr_left fun a ha => ?_
  unfold ordA
  cases e : v a with
  | none => rfl
  | some x =>
    have := below_len ((mem_vals as v).mpr ⟨a, ha, e⟩)
    show false = decide ((vals as v).length ≤ below as v x)
    rw [decide_eq_false (by omega)]
/-- each place is some value's -/
theorem at_place {j : Nat} (h : j < (vals as v).length) : ∃ a ∈ as, ordA as v a = some j := by
  have pw : (vals as v).Pairwise (· < ·) := pw_sset _
  have key : ∀ (w : List Int) (j : Nat) (h : j < w.length), w.Pairwise (· < ·) → (w.filter fun x => decide (x < w[j])).length = j := by
    intro w
    induction w with
    | nil => intro j h; simp at h
    | cons y w ih =>
      intro j h pw
      rw [List.pairwise_cons] at pw
      cases j with
      | zero =>
        rw [List.filter_eq_nil_iff.mpr]
        · rfl
        · intro z hz
          simp only [List.getElem_cons_zero, decide_eq_true_eq]
          rcases List.mem_cons.mp hz with rfl | hz
          · omega
          · have := pw.1 z hz; omega
      | succ j =>
        have hj : j < w.length := by simpa using h
        have := pw.1 _ (List.getElem_mem hj)
        rw [List.getElem_cons_succ, List.filter_cons, if_pos (by simpa using this), List.length_cons, ih j hj pw.2]
  obtain ⟨a, ha, e⟩ := (mem_vals as v).mp (List.getElem_mem h)
  refine ⟨a, ha, ?_⟩
  unfold ordA
  rw [e]
  exact congrArg some (key _ j h pw)
theorem Q_ne {i : Nat} (h : i < (vals as v).length) : Qp as v (i + 1) ≠ Qp as v i := by
  intro e
  obtain ⟨a, ha, ea⟩ := at_place h
  unfold Qp at e
  have := List.map_eq_map_iff.mp e a ha
  rw [ea] at this
  simp at this
  omega
def remN (ks : List Int) : Nat := ((vals as v).filter fun x => decide (x ∉ ks)).length
theorem stair_known (as : List A) (v : A → Option Int) : ∀ (ks : List Int), ks.Pairwise (· < ·) → (∀ x ∈ vals as v, x ∈ ks ∨ ∀ c ∈ ks, x < c) → ∃ rest, ks.map (below as v) ++ [(vals as v).length] = remN (as := as) (v := v) ks :: rest ∧ Stair (vals as v).length (remN (as := as) (v := v) ks) rest
  | [], _, _ => by
    refine ⟨[], ?_, ?_⟩
    · have : remN (as := as) (v := v) [] = (vals as v).length := by
        unfold remN
        rw [List.filter_eq_self.mpr (fun _ _ => by simp)]
      rw [this]
      rfl
    · show remN (as := as) (v := v) [] = _
      unfold remN
      rw [List.filter_eq_self.mpr (fun _ _ => by simp)]
  | c :: ks, pw, h => by
    rw [List.pairwise_cons] at pw
    obtain ⟨rest, e, st⟩ := stair_known as v ks pw.2 fun x hx => by
      rcases h x hx with q | q
      · rcases List.mem_cons.mp q with rfl | q
        · exact .inr pw.1
        · exact .inl q
      · exact .inr fun d hd => q d (List.mem_cons_of_mem _ hd)
    have hc : below as v c = remN (as := as) (v := v) (c :: ks) := by
      unfold below remN
      congr 1
      refine List.filter_congr fun x hx => ?_
      rw [Bool.eq_iff_iff, decide_eq_true_iff, decide_eq_true_iff]
      constructor
      · intro q z
        rcases List.mem_cons.mp z with rfl | z
        · omega
        · have := pw.1 x z; omega
      · intro q
        rcases h x hx with z | z
        · exact absurd z q
        · exact z c (List.mem_cons_self ..)
    refine ⟨remN (as := as) (v := v) ks :: rest, by rw [List.map_cons, List.cons_append, e, hc], ?_, st⟩
    have nd : (vals as v).Nodup := (pw_sset _).imp fun {a b} z => by omega
    have cn : c ∉ ks := fun z => by have := pw.1 c z; omega
    unfold remN
    clear st e hc h
    generalize vals as v = w at nd
    have step : ∀ w : List Int, w.Nodup → (w.filter fun x => decide (x ∉ ks)).length = (w.filter fun x => decide (x ∉ c :: ks)).length + (if c ∈ w then 1 else 0) := by
      intro w
      induction w with
      | nil => intro _; rfl
      | cons y w ih =>
        intro nd
        rw [List.nodup_cons] at nd
        have ih := ih nd.2
        rw [List.filter_cons, List.filter_cons]
        by_cases q : y = c
        · subst q
          rw [if_pos (by simpa using cn), if_neg (by simp), List.length_cons, ih, if_neg nd.1, if_pos (List.mem_cons_self ..)]
        · have e1 : (if c ∈ y :: w then 1 else 0) = if c ∈ w then 1 else 0 := by
            congr 1
            simp [Ne.symm q]
          by_cases z : y ∈ ks
          · rw [if_neg (by simp [z]), if_neg (by simp [z]), ih, e1]
          · rw [if_pos (by simp [z]), if_pos (by simp [z, q]), List.length_cons, List.length_cons, ih, e1]
            omega
    have := step w nd
    split at this
    · exact .inr this
    · exact .inl (by simpa using this)
/-- the row, place by place -/
theorem row_places {known : List Int} (pw : known.Pairwise (· < ·)) (hk : ∀ x ∈ vals as v, x ∈ known) :
    pressB (patA as v (fun _ => true) :: (known.map fun c => patA as v fun x => decide (c ≤ x)) ++ [as.map fun _ => false]) = (List.range ((vals as v).length + 1)).map (Qp as v) := by
  obtain ⟨rest, e, st⟩ := stair_known as v known pw fun x hx => .inl (hk x hx)
  have r0 : remN (as := as) (v := v) known = 0 := by
    unfold remN
    rw [List.filter_eq_nil_iff.mpr]
    · rfl
    · intro x hx
      simp [hk x hx]
  have ee : (known.map fun c => patA as v fun x => decide (c ≤ x)) ++ [as.map fun _ => false] = (known.map (below as v) ++ [(vals as v).length]).map (Qp as v) := by
    rw [List.map_append, List.map_map, List.map_cons, List.map_nil, ← pat_m]
    congr 1
    exact List.map_congr_left fun c _ => pat_Q c
  rw [List.cons_append, ee, pat_0]
  unfold pressB
  rw [e]
  have st2 : Stair (vals as v).length 0 (remN (as := as) (v := v) known :: rest) := ⟨.inl r0, st⟩
  show Qp as v 0 :: pressF (Qp as v 0) ((remN (as := as) (v := v) known :: rest).map (Qp as v)) = _
  rw [press_stair (fun i h => Q_ne h) st2, List.range_eq_range', List.range'_succ, List.map_cons]
  rfl
end
section
variable {A : Type} {as : List A} {v v' : A → Option Int}
theorem ord_lt {a : A} {i : Nat} (ha : a ∈ as) (h : ordA as v a = some i) : i < (vals as v).length := by
  unfold ordA at h
  obtain ⟨x, e, rfl⟩ := Option.map_eq_some_iff.mp h
  exact below_len ((mem_vals as v).mpr ⟨a, ha, e⟩)
theorem rows_iff : (List.range ((vals as v).length + 1)).map (Qp as v) = (List.range ((vals as v').length + 1)).map (Qp as v') ↔ ∀ a ∈ as, ordA as v a = ordA as v' a := by
  constructor
  · intro e a ha
    have hl := congrArg List.length e
    simp only [List.length_map, List.length_range] at hl
    have hm : (vals as v).length = (vals as v').length := by omega
    rw [← hm] at e
    have q := List.map_eq_map_iff.mp e
    have at_ : ∀ j, j ≤ (vals as v).length → (ordA as v a).any (fun i => decide (j ≤ i)) = (ordA as v' a).any (fun i => decide (j ≤ i)) := fun j hj => by
      have := q j (List.mem_range.mpr (by omega))
      unfold Qp at this
      exact List.map_eq_map_iff.mp this a ha
    cases e1 : ordA as v a with
    | none =>
      cases e2 : ordA as v' a with
      | none => rfl
      | some i =>
        have := at_ 0 (Nat.zero_le _)
        rw [e1, e2] at this
        simp at this
    | some i =>
      cases e2 : ordA as v' a with
      | none =>
        have := at_ 0 (Nat.zero_le _)
        rw [e1, e2] at this
        simp at this
      | some k =>
        have l1 := ord_lt ha e1
        have l2 := ord_lt ha e2
        have h1 := at_ i (by omega)
        have h2 := at_ k (by omega)
        rw [e1, e2] at h1 h2
        simp at h1 h2
        congr 1
        omega
  · intro h
    have le : ∀ {v v' : A → Option Int}, (∀ a ∈ as, ordA as v a = ordA as v' a) → (vals as v).length ≤ (vals as v').length := fun {v v'} h => by
      by_cases q : (vals as v).length ≤ (vals as v').length
      · exact q
      · obtain ⟨a, ha, e⟩ := at_place (as := as) (v := v) (j := (vals as v').length) (by omega)
        rw [h a ha] at e
        have := ord_lt ha e
        omega
    have hm : (vals as v).length = (vals as v').length := Nat.le_antisymm (le h) (le fun a ha => (h a ha).symm)
    rw [hm]
    refine List.map_congr_left fun j _ => ?_
    unfold Qp
    exact List.map_congr_left fun a ha => by rw [h a ha]
/-- led strictly up -/
theorem ord_led {φ : Int → Int} (hφ : ∀ x ∈ vals as v, ∀ y ∈ vals as v, x < y → φ x < φ y) (hv : ∀ a ∈ as, v' a = (v a).map φ) : ∀ a ∈ as, ordA as v a = ordA as v' a := by
  have ev : vals as v' = (vals as v).map φ := by
    have pw : ((vals as v).map φ).Pairwise (· < ·) := by
      rw [List.pairwise_map]
      exact List.Pairwise.imp_of_mem (fun {a b} ha hb z => hφ a ha b hb z) (pw_sset _)
    refine List.Perm.eq_of_pairwise (le := (· < · : Int → Int → Prop)) (fun a b _ _ h1 h2 => by omega) (pw_sset _) pw ?_
    refine (List.perm_ext_iff_of_nodup ((pw_sset _).imp fun {a b} z => by omega) (pw.imp fun {a b} z => by omega)).mpr fun y => ?_
    rw [List.mem_map]
    constructor
    · intro hy
      obtain ⟨a, ha, e⟩ := (mem_vals as v').mp hy
      rw [hv a ha] at e
      obtain ⟨x, e1, rfl⟩ := Option.map_eq_some_iff.mp e
      exact ⟨x, (mem_vals as v).mpr ⟨a, ha, e1⟩, rfl⟩
    · rintro ⟨x, hx, rfl⟩
      obtain ⟨a, ha, e⟩ := (mem_vals as v).mp hx
      exact (mem_vals as v').mpr ⟨a, ha, by rw [hv a ha, e]; rfl⟩
  intro a ha
  unfold ordA
  rw [hv a ha]
  cases e : v a with
  | none => rfl
  | some x =>
    have hx : x ∈ vals as v := (mem_vals as v).mpr ⟨a, ha, e⟩
    show some (below as v x) = some (below as v' (φ x))
    congr 1
    unfold below
    rw [ev, filter_map', List.length_map]
    congr 1
    refine List.filter_congr fun y hy => ?_
    rw [Bool.eq_iff_iff, decide_eq_true_iff, decide_eq_true_iff]
    constructor
    · exact hφ y hy x hx
    · intro q
      by_cases z : y < x
      · exact z
      · by_cases z2 : y = x
        · subst z2; omega
        · have := hφ x hx y hy (by omega)
          omega
end
end CF
end
section
namespace Qk08
open PySem PySem.Spec PyProof.Rows L2 CF
def topS (i : Nat) : Stmt := PySem.Challenge.pw_countsfall_k08_whole_values_by_counts.main.body.getD i (.Pass ⟨0, 0, 0, 0⟩)
structure Facts (K : PySem.W.Frag) (mg : Str → Option Value) : Prop where
  d__law_rows_of : DefG K mg "_law_rows_of" (topS 26) ["_law_pool", "_law_many"]
  d__law_all_tables : DefG K mg "_law_all_tables" (topS 27) ["_law_house_here", "_law_pool", "_law_most"]
  d__law_take : DefG K mg "_law_take" (topS 15) ["_law_bag_here", "_law_many"]
  d__law_one : DefG K mg "_law_one" (topS 16) ["_law_bag_here", "_law_things"]
  d__law_mixed : DefG K mg "_law_mixed" (topS 17) ["_law_bag_here", "_law_things"]
  d__law_lot : DefG K mg "_law_lot" (topS 29) ["_law_bag_here", "_law_house_here"]
  d__law_rank : DefG K mg "_law_rank" (topS 30) ["_law_bag_here", "_law_house_here", "_law_most"]
  d__law_formula : DefG K mg "_law_formula" (topS 31) ["_law_bag_here", "_law_house_here", "_law_deep", "_law_most", "_law_left"]
  d__law_any_formula : DefG K mg "_law_any_formula" (topS 32) ["_law_bag_here", "_law_house_here"]
  d__law_bag : DefG K mg "_law_bag" (topS 14) ["_law_script"]
  d__law_names : DefG K mg "_law_names" (topS 20) ["_law_bag_here", "_law_many"]
  d__law_sort : DefG K mg "_law_sort" (topS 21) ["_law_bag_here", "_law_name"]
  d__law_house : DefG K mg "_law_house" (topS 22) ["_law_bag_here", "_law_most"]
  d__law_numbers : DefG K mg "_law_numbers" (topS 23) ["_law_bag_here"]
  d__law_size : DefG K mg "_law_size" (topS 24) ["_law_bag_here", "_law_sort_here", "_law_more"]
  d__law_table : DefG K mg "_law_table" (topS 25) ["_law_bag_here", "_law_house_here", "_law_pool", "_law_more"]
  d__law_alike : DefG K mg "_law_alike" (topS 18) ["_law_found", "_law_due"]
  d__law_flat : DefG K mg "_law_flat" (topS 19) ["_law_rows"]
  d__law_known : DefG K mg "_law_known" (topS 28) ["_law_table_here"]
  d__law_within : DefG K mg "_law_within" (topS 33) ["_law_one_here", "_law_other"]
  d_rows_in : DefG K mg "rows_in" (topS 3) ["table", "lot"]
  d_count_at_least : DefG K mg "count_at_least" (topS 6) ["house", "table", "lot", "number"]
  d_counts_at : DefG K mg "counts_at" (topS 10) ["house", "table", "number"]
  d_all_numbers : DefG K mg "all_numbers" (topS 8) ["table"]
  d_fall_of : DefG K mg "fall_of" (topS 11) ["house", "table"]
  d_holds : DefG K mg "holds" (topS 1) ["house", "formula", "counts"]
  d_sizes_of : DefG K mg "sizes_of" (topS 7) ["house", "table"]
  d_table_of : DefG K mg "table_of" (topS 12) ["house", "fall"]
  d_kth_of : DefG K mg "kth_of" (topS 4) ["values", "k"]
  d_value_of : DefG K mg "value_of" (topS 5) ["house", "table", "formula"]
  d__law_table_right : DefG K mg "_law_table_right" (topS 34) ["_law_house_here", "_law_table_here", "_law_formulas"]
  d_law : DefG K mg "law" (topS 35) ["_law_script"]
  z_abs : mg "abs" = none
  z_dict : mg "dict" = none
  z_int : mg "int" = none
  z_len : mg "len" = none
  z_list : mg "list" = none
  z_max : mg "max" = none
  z_min : mg "min" = none
  z_range : mg "range" = none
  z_repr : mg "repr" = none
  z_set : mg "set" = none
  z_sorted : mg "sorted" = none
  z_sum : mg "sum" = none
  z_tuple : mg "tuple" = none
  z_zip : mg "zip" = none
section
variable {P : Program} {w : World} {K : PySem.W.Frag} {mg : Str → Option Value} {base : Heap}
theorem sc__law_rows_of : FnScope ["_law_pool", "_law_many", "_law_found", "_law_turn", "_law_longer", "_law_row", "_law_number"] ["_law_pool", "_law_many"] (defScope (topS 26)) := ⟨rfl, rfl, rfl, by decide +kernel, rfl, by decide +kernel, by decide +kernel⟩
def b__law_rows_of : MS :=
  (mSq (mSet 2 (mLst [(mTup [])]))
  (mSq (mFor (mRng1 (mPk 1)) (setS 3)
    (mSq (mSetO 4 (mLst []))
  (mSq (mFor (mIt (mVar 2)) (setS 5)
    (mDrop (mMut 4 extG (mDs [(mLC [6] (mIt (mVar 0)) (setS 6) (mOr (mTest (mOp2 eqD (mPk 5) (mV (mTup [])))) (mTest (mOp2 geD (mPk 6) (mV (mOp2 ixD (mPk 5) (mV (mOp1 negD (mV (mC (.int 1)))))))))) (mOp2 addD (mPk 5) (mV (mTup [(mVar 6)]))))]))))
  (mSq (mRel 4) (mSet 2 (mVar 4))))))
  (mRet (mVar 2))))
def g__law_rows_of : FM := runF false 2 5 [] b__law_rows_of
theorem ok__law_rows_of (Z : Facts K mg)  : CalG P w K mg base 1 "_law_rows_of" false [] g__law_rows_of := by
  refine Z.d__law_rows_of.cal (m := b__law_rows_of) 5 sc__law_rows_of rfl rfl fun f cdv A outer s H E hr hg => ?_
  unfold b__law_rows_of
  exact (
  (sSq (sSet 2 rfl sc__law_rows_of.nd (df (fLst (bCons (dTup bNil) bNil))))
  (sSq (sFor rfl PassesOwn.never rfl (iRange1 Z.z_range (dk 1)) (gN 3 sc__law_rows_of.nd)
    (sSq (sSetO 4 rfl sc__law_rows_of.nd (fLst bNil))
  (sSq (sFor rfl PassesOwn.never rfl (iIt (dv 2)) (gN 5 sc__law_rows_of.nd)
    (sOne (sDrop (dMut 4 F.slot_list_extend F.type_list_extend mt_ext (bCons (df (fLC rfl sc__law_rows_of.nd (vs := [6]) (is := [6]) (own := [((Str.ofString "_law_number"), 6)]) rfl rfl (iIt (dv 0)) (blkOk_by (N := ["_law_pool", "_law_many", "_law_found", "_law_turn", "_law_longer", "_law_row", "_law_number"]) (sc := defScope (topS 26)) (by decide +kernel)) (fun _ _ _ _ _ => (gN 6 sc__law_rows_of.nd)) (fun _ _ _ _ _ => (pts_one (qW (wOr (qCmp (op_eqDD hr.units) (dk 5) (dl (dTup bNil))) (wOr1 (qCmp op_geD (dk 6) (dl (dIx (hu_of hr) (dk 5) (dl (dNeg (dl dInt))))))))))) (fun _ _ _ _ _ => (dOp op_addD (dk 5) (dl (dTup (bCons (dv 6) bNil))))))) bNil)))))
  (sOne (sRel 4 (sSet 2 rfl sc__law_rows_of.nd (dv 4)))))))
  (sOne (sRet (dv 2))))))
theorem sc__law_all_tables : FnScope ["_law_house_here", "_law_pool", "_law_most", "_law_found", "_law_name", "_law_least", "_law_top", "_law_rows", "_law_many", "_law_longer", "_law_pairs", "_law_row"] ["_law_house_here", "_law_pool", "_law_most"] (defScope (topS 27)) := ⟨rfl, rfl, rfl, by decide +kernel, rfl, by decide +kernel, by decide +kernel⟩
def b__law_all_tables : MS :=
  (mSq (mSet 3 (mLst [(mLst [])]))
  (mSq (mFor (mIt (mVar 0)) (bTup [4, 5, 6])
    (mSq (mSetO 7 (mLst []))
  (mSq (mFor (mRng2 (mPk 5) (mV (mOp2 addD (mV (mCall min2C [(mPk 2), (mV (mIf (mTest (mOp2 isND (mPk 6) (mV (mC .none)))) (mVar 2) (mVar 6)))])) (mV (mC (.int 1)))))) (setS 8)
    (mDrop (mMut 7 extG (mDs [(mFn [] g__law_rows_of [(mPk 1), (mPk 8)])]))))
  (mSq (mSetO 9 (mLst []))
  (mSq (mFor (mIt (mVar 3)) (setS 10)
    (mSq (mRel 7) (mDrop (mMut 9 extG (mDs [(mLC [11] (mIt (mVar 7)) (setS 11) mYes (mOp2 addL (mPk 10) (mV (mLst [(mTup [(mVar 4), (mVar 11)])]))))])))))
  (mSq (mRel 9) (mSet 3 (mVar 9))))))))
  (mRet (mLC [10] (mIt (mVar 3)) (setS 10) mYes (mCall dictPC [(mPk 10)])))))
def g__law_all_tables : FM := runF false 3 9 [] b__law_all_tables
theorem ok__law_all_tables (Z : Facts K mg) (C__law_rows_of : CalG P w K mg base 1 "_law_rows_of" false [] g__law_rows_of) : CalG P w K mg base 2 "_law_all_tables" false [] g__law_all_tables := by
  refine Z.d__law_all_tables.cal (m := b__law_all_tables) 9 sc__law_all_tables rfl rfl fun f cdv A outer s H E hr hg => ?_
  unfold b__law_all_tables
  exact (
  (sSq (sSet 3 rfl sc__law_all_tables.nd (df (fLst (bCons (df (fLst bNil)) bNil))))
  (sSq (sFor rfl PassesOwn.never rfl (iIt (dv 0)) (gT rfl (gsCons 4 sc__law_all_tables.nd (gsCons 5 sc__law_all_tables.nd (gsCons 6 sc__law_all_tables.nd gsNil))))
    (sSq (sSetO 7 rfl sc__law_all_tables.nd (fLst bNil))
  (sSq (sFor rfl PassesOwn.never rfl (iRange2 Z.z_range (dk 5) (dl (dOp op_addD (dl (dB (cr_min2 rfl) Z.z_min (aCons (dk 2) (aCons (dl (dIf (qCmp op_isND (dk 6) (dl dNon)) (dv 2) (dv 6))) aNil)))) (dl dInt)))) (gN 8 sc__law_all_tables.nd)
    (sOne (sDrop (dMut 7 F.slot_list_extend F.type_list_extend mt_ext (bCons (dFn C__law_rows_of hr (by omega) hg (aCons (dk 1) (aCons (dk 8) aNil))) bNil)))))
  (sSq (sSetO 9 rfl sc__law_all_tables.nd (fLst bNil))
  (sSq (sFor rfl PassesOwn.never rfl (iIt (dv 3)) (gN 10 sc__law_all_tables.nd)
    (sOne (sRel 7 (sDrop (dMut 9 F.slot_list_extend F.type_list_extend mt_ext (bCons (df (fLC rfl sc__law_all_tables.nd (vs := [11]) (is := [11]) (own := [((Str.ofString "_law_row"), 11)]) rfl rfl (iIt (dv 7)) (blkOk_by (N := ["_law_house_here", "_law_pool", "_law_most", "_law_found", "_law_name", "_law_least", "_law_top", "_law_rows", "_law_many", "_law_longer", "_law_pairs", "_law_row"]) (sc := defScope (topS 27)) (by decide +kernel)) (fun _ _ _ _ _ => (gN 11 sc__law_all_tables.nd)) (fun _ _ _ _ _ => (tNil _)) (fun _ _ _ _ _ => (df (fOp op_addL (dk 10) (dl (df (fLst (bCons (dTup (bCons (dv 4) (bCons (dv 11) bNil))) bNil))))))))) bNil))))))
  (sOne (sRel 9 (sSet 3 rfl sc__law_all_tables.nd (dv 9)))))))))
  (sOne (sRet (df (fLC rfl sc__law_all_tables.nd (vs := [10]) (is := [10]) (own := [((Str.ofString "_law_pairs"), 10)]) rfl rfl (iIt (dv 3)) (blkOk_by (N := ["_law_house_here", "_law_pool", "_law_most", "_law_found", "_law_name", "_law_least", "_law_top", "_law_rows", "_law_many", "_law_longer", "_law_pairs", "_law_row"]) (sc := defScope (topS 27)) (by decide +kernel)) (fun _ _ _ _ _ => (gN 10 sc__law_all_tables.nd)) (fun _ _ _ _ _ => (tNil _)) (fun _ _ _ _ _ => (df (fT (cr_dictP rfl) Z.z_dict (aCons (dk 10) aNil)))))))))))
theorem sc__law_take : FnScope ["_law_bag_here", "_law_many", "_law_cell", "_law_stirred", "_law_value", "_law_begin", "_law_second"] ["_law_bag_here", "_law_many"] (defScope (topS 15)) := ⟨rfl, rfl, rfl, by decide +kernel, rfl, by decide +kernel, by decide +kernel⟩
theorem ok__law_take (Z : Facts K mg)  : CalG P w K mg base 1 "_law_take" false [0] g_take := by
  refine Z.d__law_take.cal (m := b_take) 5 sc__law_take rfl rfl fun f cdv A outer s H E hr hg => ?_
  unfold b_take
  exact (
  (sSq (sIf (qCmp (op_eqDD hr.units) (dl (dIx (hu_of hr) (dk 0) (dl dInt))) (dl dInt))
    (sSq (sSet 2 rfl sc__law_take.nd (dIx (hu_of hr) (dl (df (fOp op_addL (dl (dSl (dl (dIx (hu_of hr) (dk 0) (dl dInt))) (pSome (dIx (hu_of hr) (dk 0) (dl dInt))) pNone)) (dl (df (fLst (bCons dInt bNil))))))) (dl dInt)))
  (sSq (sAugS 0 (hu_of hr) ipAdd dInt dInt)
  (sSq (sIf (qCmp op_geD (dk 2) (dl (dOp op_powD (dl dInt) (dl dInt))))
    (sOne (sSub 0 (hu_of hr) dInt (dv 2)))
    sNx)
  (sSq (sSet 3 rfl sc__law_take.nd (dOp op_addD (dl (dOp op_addD (dl (dOp op_mulD (dl (dIx (hu_of hr) (dk 0) (dl dInt))) (dl dInt))) (dl (dOp op_modD (dl (dT cr_int Z.z_int (aCons (dk 2) aNil))) (dl dInt))))) (dl (dOp op_mulD (dl dInt) (dl (dIx (hu_of hr) (dk 0) (dl dInt)))))))
  (sOne (sSub 0 (hu_of hr) dInt (dOp op_modD (dl (dT cr_int Z.z_int (aCons (dk 3) aNil))) (dl dInt))))))))
    sNx)
  (sSq (sIf (qCmp op_gtD (dl (dIx (hu_of hr) (dk 0) (dl dInt))) (dl dInt))
    (sSq (sSet 4 rfl sc__law_take.nd (dOp op_modD (dl (dT cr_int Z.z_int (aCons (dl (dIx (hu_of hr) (dk 0) (dl dInt))) aNil))) (dk 1)))
  (sSq (sSub 0 (hu_of hr) dInt (dOp op_fdivD (dl (dT cr_int Z.z_int (aCons (dl (dIx (hu_of hr) (dk 0) (dl dInt))) aNil))) (dk 1)))
  (sOne (sRet (dv 4)))))
    sNx)
  (sSq (sSet 5 rfl sc__law_take.nd (dOp op_modD (dl (dT cr_int Z.z_int (aCons (dl (dOp op_mulD (dl (dOp op_addD (dl (dIx (hu_of hr) (dk 0) (dl dInt))) (dl dInt))) (dl dInt))) aNil))) (dl dInt)))
  (sSq (sSet 6 rfl sc__law_take.nd (dOp op_modD (dl (dT cr_int Z.z_int (aCons (dl (dOp op_mulD (dl (dOp op_modD (dl (dT cr_int Z.z_int (aCons (dl (dOp op_mulD (dk 5) (dk 5))) aNil))) (dl dInt))) (dl dInt))) aNil))) (dl dInt)))
  (sOne (sRet (dOp op_modD (dl (dT cr_int Z.z_int (aCons (dl (dOp op_fdivD (dk 6) (dl dInt))) aNil))) (dk 1)))))))))
theorem sc__law_one : FnScope ["_law_bag_here", "_law_things"] ["_law_bag_here", "_law_things"] (defScope (topS 16)) := ⟨rfl, rfl, rfl, by decide +kernel, rfl, by decide +kernel, by decide +kernel⟩
theorem ok__law_one (Z : Facts K mg) (C__law_take : CalG P w K mg base 1 "_law_take" false [0] g_take) : CalG P w K mg base 2 "_law_one" false [0] g_one := by
  refine Z.d__law_one.cal (m := b_one) 0 sc__law_one rfl rfl fun f cdv A outer s H E hr hg => ?_
  unfold b_one
  exact (
  (sOne (sRet (dIx (hu_of hr) (dk 1) (dl (dFn C__law_take hr (by omega) hg (aCons (dk 0) (aCons (dl (dB cr_len Z.z_len (aCons (dk 1) aNil))) aNil))))))))
theorem sc__law_mixed : FnScope ["_law_bag_here", "_law_things", "_law_found", "_law_thing"] ["_law_bag_here", "_law_things"] (defScope (topS 17)) := ⟨rfl, rfl, rfl, by decide +kernel, rfl, by decide +kernel, by decide +kernel⟩
theorem ok__law_mixed (Z : Facts K mg) (C__law_take : CalG P w K mg base 1 "_law_take" false [0] g_take) : CalG P w K mg base 2 "_law_mixed" false [0] g_mixed := by
  refine Z.d__law_mixed.cal (m := b_mixed) 2 sc__law_mixed rfl rfl fun f cdv A outer s H E hr hg => ?_
  unfold b_mixed
  exact (
  (sSq (sSetO 2 rfl sc__law_mixed.nd (fLst bNil))
  (sSq (sFor rfl PassesOwn.never rfl (iIt (dv 1)) (gN 3 sc__law_mixed.nd)
    (sOne (sDrop (dMut 2 F.slot_list_insert F.type_list_insert mt_ins (bCons (dFn C__law_take hr (by omega) hg (aCons (dk 0) (aCons (dl (dOp op_addD (dl (dB cr_len Z.z_len (aCons (dk 2) aNil))) (dl dInt))) aNil))) (bCons (dv 3) bNil))))))
  (sOne (sRel 2 (sRet (dv 2)))))))
theorem sc__law_lot : FnScope ["_law_bag_here", "_law_house_here", "_law_names_here", "_law_sort_here"] ["_law_bag_here", "_law_house_here"] (defScope (topS 29)) := ⟨rfl, rfl, rfl, by decide +kernel, rfl, by decide +kernel, by decide +kernel⟩
theorem ok__law_lot (Z : Facts K mg) (C__law_mixed : CalG P w K mg base 2 "_law_mixed" false [0] g_mixed) (C__law_take : CalG P w K mg base 1 "_law_take" false [0] g_take) : CalG P w K mg base 3 "_law_lot" false [0] g_lot := by
  refine Z.d__law_lot.cal (m := b_lot) 2 sc__law_lot rfl rfl fun f cdv A outer s H E hr hg => ?_
  unfold b_lot
  exact (
  (sSq (sSetLc 2 rfl rfl sc__law_lot.nd (vs := [3]) (is := [3]) (own := [((Str.ofString "_law_sort_here"), 3)]) rfl rfl (iIt (dv 1)) (blkOk_by (N := ["_law_bag_here", "_law_house_here", "_law_names_here", "_law_sort_here"]) (sc := defScope (topS 29)) (by decide +kernel)) (fun _ _ _ _ _ => (gN 3 sc__law_lot.nd)) (fun _ _ _ _ _ => (tNil _)) (fun _ _ _ _ _ => (dIx (hu_of hr) (dk 3) (dl dInt))))
  (sOne (sRet (dT cr_tuple Z.z_tuple (aCons (dl (df (fB (cr_sorted' rfl hr.units) Z.z_sorted (aCons (dl (dSl (dl (dFn C__law_mixed hr (by omega) hg (aCons (dk 0) (aCons (dk 2) aNil)))) pNone (pSome (dOp op_addD (dl dInt) (dl (dFn C__law_take hr (by omega) hg (aCons (dk 0) (aCons (dl (dB cr_len Z.z_len (aCons (dk 2) aNil))) aNil)))))))) aNil)))) aNil))))))
theorem sc__law_rank : FnScope ["_law_bag_here", "_law_house_here", "_law_most"] ["_law_bag_here", "_law_house_here", "_law_most"] (defScope (topS 30)) := ⟨rfl, rfl, rfl, by decide +kernel, rfl, by decide +kernel, by decide +kernel⟩
theorem ok__law_rank (Z : Facts K mg) (C__law_lot : CalG P w K mg base 3 "_law_lot" false [0] g_lot) (C__law_one : CalG P w K mg base 2 "_law_one" false [0] g_one) (C__law_take : CalG P w K mg base 1 "_law_take" false [0] g_take) : CalG P w K mg base 4 "_law_rank" false [0] g_rank := by
  refine Z.d__law_rank.cal (m := b_rank) 0 sc__law_rank rfl rfl fun f cdv A outer s H E hr hg => ?_
  unfold b_rank
  exact (
  (sOne (sRet (dTup (bCons dStr (bCons (dFn C__law_lot hr (by omega) hg (aCons (dk 0) (aCons (dk 1) aNil))) (bCons (dOp op_addD (dl dInt) (dl (dFn C__law_one hr (by omega) hg (aCons (dk 0) (aCons (dl (df (fLst (bCons dInt (bCons dInt (bCons (dFn C__law_take hr (by omega) hg (aCons (dk 0) (aCons (dk 2) aNil))) bNil)))))) aNil))))) bNil)))))))
theorem sc__law_formula : FnScope ["_law_bag_here", "_law_house_here", "_law_deep", "_law_most", "_law_left", "_law_parts", "_law_turn"] ["_law_bag_here", "_law_house_here", "_law_deep", "_law_most", "_law_left"] (defScope (topS 31)) := ⟨rfl, rfl, rfl, by decide +kernel, rfl, by decide +kernel, by decide +kernel⟩
theorem ok__law_formula (Z : Facts K mg) (C__law_one : CalG P w K mg base 2 "_law_one" false [0] g_one) (C__law_rank : CalG P w K mg base 4 "_law_rank" false [0] g_rank) (C__law_take : CalG P w K mg base 1 "_law_take" false [0] g_take) : ∀ n : Nat, CalG P w K mg base (5 + n) "_law_formula" false [0, 4] (g_formula n)
  | 0 => Z.d__law_formula.cal0
  | n + 1 => by
    have C__law_formula := ok__law_formula Z C__law_one C__law_rank C__law_take n
    refine Z.d__law_formula.cal (k := 5 + n) (m := b_formula (g_formula n)) 2 sc__law_formula rfl rfl fun f cdv A outer s H E hr hg => ?_
    unfold b_formula
    exact (
  (sSq (sAugS 4 (hu_of hr) ipSub dInt dInt)
  (sSq (sIf (qW (wOr (qCmp op_ltD (dk 2) (dl dInt)) (wOr (qCmp op_ltD (dl (dIx (hu_of hr) (dk 4) (dl dInt))) (dl dInt)) (wOr1 (qCmp op_ltD (dl (dFn C__law_take hr (by omega) hg (aCons (dk 0) (aCons (dl dInt) aNil)))) (dl dInt))))))
    (sOne (sRet (dFn C__law_rank hr (by omega) hg (aCons (dk 0) (aCons (dk 1) (aCons (dk 3) aNil))))))
    sNx)
  (sSq (sSetO 5 rfl sc__law_formula.nd (fLst bNil))
  (sSq (sFor rfl PassesOwn.never rfl (iRange1 Z.z_range (dl (dOp op_addD (dl dInt) (dl (dFn C__law_one hr (by omega) hg (aCons (dk 0) (aCons (dl (df (fLst (bCons dInt (bCons dInt (bCons dInt (bCons dInt bNil))))))) aNil))))))) (gN 6 sc__law_formula.nd)
    (sOne (sIf (qCmp op_gtD (dl (dIx (hu_of hr) (dk 4) (dl dInt))) (dl dInt))
    (sOne (sDrop (dMut 5 F.slot_list_append F.type_list_append mt_app (bCons (dFn C__law_formula hr (by omega) hg (aCons (dk 0) (aCons (dk 1) (aCons (dl (dOp op_subD (dk 2) (dl dInt))) (aCons (dk 3) (aCons (dk 4) aNil)))))) bNil))))
    sNx)))
  (sOne (sRet (dTup (bCons dStr (bCons (dFn C__law_one hr (by omega) hg (aCons (dk 0) (aCons (dl (df (fLst (bCons dInt (bCons (dB cr_len Z.z_len (aCons (dk 5) aNil)) (bCons (dOp op_addD (dl dInt) (dl (dFn C__law_take hr (by omega) hg (aCons (dk 0) (aCons (dl (dB cr_len Z.z_len (aCons (dk 5) aNil))) aNil))))) bNil)))))) aNil))) (bCons (dT cr_tuple Z.z_tuple (aCons (dk 5) aNil)) bNil)))))))))))
theorem sc__law_any_formula : FnScope ["_law_bag_here", "_law_house_here"] ["_law_bag_here", "_law_house_here"] (defScope (topS 32)) := ⟨rfl, rfl, rfl, by decide +kernel, rfl, by decide +kernel, by decide +kernel⟩
theorem ok__law_any_formula (Z : Facts K mg) (C__law_formula : CalG P w K mg base 25 "_law_formula" false [0, 4] (g_formula 20)) (C__law_one : CalG P w K mg base 2 "_law_one" false [0] g_one) : CalG P w K mg base 26 "_law_any_formula" false [0] g_any_formula := by
  refine Z.d__law_any_formula.cal (m := b_any_formula) 0 sc__law_any_formula rfl rfl fun f cdv A outer s H E hr hg => ?_
  unfold b_any_formula
  exact (
  (sOne (sRet (dFnT C__law_formula hr (by omega) hg (aTc (dk 0) (aTc (dk 1) (aTc (dl (dFn C__law_one hr (by omega) hg (aCons (dk 0) (aCons (dl (df (fLst (bCons dInt (bCons dInt (bCons dInt (bCons dInt (bCons dInt bNil)))))))) aNil)))) (aTc (dl (dFn C__law_one hr (by omega) hg (aCons (dk 0) (aCons (dl (df (fLst (bCons dInt (bCons dInt (bCons dInt (bCons dInt bNil))))))) aNil)))) (aT1 (fLst (bCons dInt bNil)))))))))))
theorem sc__law_bag : FnScope ["_law_script", "_law_cell"] ["_law_script"] (defScope (topS 14)) := ⟨rfl, rfl, rfl, by decide +kernel, rfl, by decide +kernel, by decide +kernel⟩
theorem ok__law_bag (Z : Facts K mg) : BagG P w K mg base 1 "_law_bag" :=
  Z.d__law_bag.bag sc__law_bag rfl rfl fun f cdv A outer s H E => pss_one (ps_ret (pe_lst (pa_cons pe_int (pa_cons pe_int (pa_cons pe_int (pa_cons (pe_lc (own := [((Str.ofString "_law_cell"), 1)]) rfl sc__law_bag.nd (pi_list (pe_slice sl_list (pv 0) po_none (po_some pe_int))) (blkOk_by (N := ["_law_script", "_law_cell"]) (sc := defScope (topS 14)) (by decide +kernel)) (fun _ _ _ _ _ => gN 1 sc__law_bag.nd) (fun _ _ _ _ _ => tNil _) (fun _ _ _ _ _ => dB cr_abs Z.z_abs (aCons (dk 1) aNil))) pa_nil))))))
theorem sc__law_names : FnScope ["_law_bag_here", "_law_many", "_law_menu"] ["_law_bag_here", "_law_many"] (defScope (topS 20)) := ⟨rfl, rfl, rfl, by decide +kernel, rfl, by decide +kernel, by decide +kernel⟩
theorem ok__law_names (Z : Facts K mg) (C__law_mixed : CalG P w K mg base 2 "_law_mixed" false [0] g_mixed) : CalG P w K mg base 3 "_law_names" false [0] g_names := by
  refine Z.d__law_names.cal (m := b_names) 1 sc__law_names rfl rfl fun f cdv A outer s H E hr hg => ?_
  unfold b_names
  exact (
  (sSq (sSet 2 rfl sc__law_names.nd (df (fLst (bCons dStr (bCons dStr (bCons dStr (bCons dStr (bCons dStr (bCons dStr (bCons dStr (bCons dStr (bCons dStr (bCons dStr (bCons dStr (bCons dStr (bCons dStr bNil))))))))))))))))
  (sSq (sSet 2 rfl sc__law_names.nd (df (fOp op_addL (dk 2) (dl (df (fLst (bCons dStr (bCons dStr (bCons dStr (bCons dStr bNil))))))))))
  (sOne (sRet (dT cr_tuple Z.z_tuple (aCons (dl (df (fB (cr_sorted' rfl hr.units) Z.z_sorted (aCons (dl (dSl (dl (dFn C__law_mixed hr (by omega) hg (aCons (dk 0) (aCons (dk 2) aNil)))) pNone (pSome (dv 1)))) aNil)))) aNil)))))))
theorem sc__law_sort : FnScope ["_law_bag_here", "_law_name", "_law_way", "_law_few"] ["_law_bag_here", "_law_name"] (defScope (topS 21)) := ⟨rfl, rfl, rfl, by decide +kernel, rfl, by decide +kernel, by decide +kernel⟩
theorem ok__law_sort (Z : Facts K mg) (C__law_one : CalG P w K mg base 2 "_law_one" false [0] g_one) (C__law_take : CalG P w K mg base 1 "_law_take" false [0] g_take) : CalG P w K mg base 3 "_law_sort" false [0] g_sort := by
  refine Z.d__law_sort.cal (m := b_sort) 2 sc__law_sort rfl rfl fun f cdv A outer s H E hr hg => ?_
  unfold b_sort
  exact (
  (sSq (sPar 2 3 rfl rfl sc__law_sort.nd (by decide) (dFn C__law_take hr (by omega) hg (aCons (dk 0) (aCons (dl dInt) aNil))) (dFn C__law_one hr (by omega) hg (aCons (dk 0) (aCons (dl (df (fLst (bCons dInt (bCons dInt (bCons dInt (bCons dInt (bCons dInt bNil)))))))) aNil))) (hw := by rfl))
  (sSq (sIf (qCmp op_ltD (dk 2) (dl dInt))
    (sOne (sRet (dTup (bCons (dv 1) (bCons dInt (bCons dInt bNil))))))
    sNx)
  (sSq (sIf (qCmp (op_eqDD hr.units) (dk 2) (dl dInt))
    (sOne (sRet (dTup (bCons (dv 1) (bCons (dv 3) (bCons (dv 3) bNil))))))
    sNx)
  (sSq (sIf (qCmp (op_eqDD hr.units) (dk 2) (dl dInt))
    (sOne (sRet (dTup (bCons (dv 1) (bCons dInt (bCons (dOp op_addD (dl dInt) (dl (dFn C__law_take hr (by omega) hg (aCons (dk 0) (aCons (dl dInt) aNil))))) bNil))))))
    sNx)
  (sSq (sIf (qCmp (op_eqDD hr.units) (dk 2) (dl dInt))
    (sOne (sRet (dTup (bCons (dv 1) (bCons (dv 3) (bCons (dOp op_addD (dk 3) (dl (dFn C__law_one hr (by omega) hg (aCons (dk 0) (aCons (dl (df (fLst (bCons dInt (bCons dInt (bCons dInt (bCons dInt bNil))))))) aNil))))) bNil))))))
    sNx)
  (sOne (sRet (dTup (bCons (dv 1) (bCons (dv 3) (bCons dNon bNil))))))))))))
theorem sc__law_house : FnScope ["_law_bag_here", "_law_most", "_law_name"] ["_law_bag_here", "_law_most"] (defScope (topS 22)) := ⟨rfl, rfl, rfl, by decide +kernel, rfl, by decide +kernel, by decide +kernel⟩
theorem ok__law_house (Z : Facts K mg) (C__law_names : CalG P w K mg base 3 "_law_names" false [0] g_names) (C__law_sort : CalG P w K mg base 3 "_law_sort" false [0] g_sort) (C__law_take : CalG P w K mg base 1 "_law_take" false [0] g_take) : CalG P w K mg base 4 "_law_house" false [0] g_house := by
  refine Z.d__law_house.cal (m := b_house) 1 sc__law_house rfl rfl fun f cdv A outer s H E hr hg => ?_
  unfold b_house
  exact (
  (sOne (sRet (dT cr_tuple Z.z_tuple (aCons (dl (df (fLC rfl sc__law_house.nd (vs := [2]) (is := [2]) (own := [((Str.ofString "_law_name"), 2)]) rfl rfl (iIt (dFn C__law_names hr (by omega) hg (aCons (dk 0) (aCons (dl (dOp op_addD (dl dInt) (dl (dFn C__law_take hr (by omega) hg (aCons (dk 0) (aCons (dk 1) aNil)))))) aNil)))) (blkOk_by (N := ["_law_bag_here", "_law_most", "_law_name"]) (sc := defScope (topS 22)) (by decide +kernel)) (fun _ _ _ _ _ => (gN 2 sc__law_house.nd)) (fun _ _ _ _ _ => (tNil _)) (fun _ _ _ _ _ => (dFn C__law_sort hr (by omega) hg (aCons (dk 0) (aCons (dk 2) aNil))))))) aNil)))))
theorem sc__law_numbers : FnScope ["_law_bag_here", "_law_low", "_law_step", "_law_place"] ["_law_bag_here"] (defScope (topS 23)) := ⟨rfl, rfl, rfl, by decide +kernel, rfl, by decide +kernel, by decide +kernel⟩
theorem ok__law_numbers (Z : Facts K mg) (C__law_one : CalG P w K mg base 2 "_law_one" false [0] g_one) (C__law_take : CalG P w K mg base 1 "_law_take" false [0] g_take) : CalG P w K mg base 3 "_law_numbers" false [0] g_numbers := by
  refine Z.d__law_numbers.cal (m := b_numbers) 3 sc__law_numbers rfl rfl fun f cdv A outer s H E hr hg => ?_
  unfold b_numbers
  exact (
  (sSq (sSetB rfl (dTup (bCons (dFn C__law_one hr (by omega) hg (aCons (dk 0) (aCons (dl (df (fLst (bCons dInt (bCons (dNeg (dl dInt)) (bCons dInt (bCons dInt (bCons (dOp op_subD (dl dInt) (dl (dOp op_powD (dl dInt) (dl dInt)))) bNil)))))))) aNil))) (bCons (dFn C__law_one hr (by omega) hg (aCons (dk 0) (aCons (dl (df (fLst (bCons dInt (bCons dInt (bCons dInt (bCons dInt (bCons (dOp op_powD (dl dInt) (dl dInt)) bNil)))))))) aNil))) bNil))) (gT rfl (gsCons 1 sc__law_numbers.nd (gsCons 2 sc__law_numbers.nd gsNil))))
  (sOne (sRet (df (fLC rfl sc__law_numbers.nd (vs := [3]) (is := [3]) (own := [((Str.ofString "_law_place"), 3)]) rfl rfl (iRange1 Z.z_range (dl (dOp op_addD (dl dInt) (dl (dFn C__law_take hr (by omega) hg (aCons (dk 0) (aCons (dl dInt) aNil))))))) (blkOk_by (N := ["_law_bag_here", "_law_low", "_law_step", "_law_place"]) (sc := defScope (topS 23)) (by decide +kernel)) (fun _ _ _ _ _ => (gN 3 sc__law_numbers.nd)) (fun _ _ _ _ _ => (tNil _)) (fun _ _ _ _ _ => (dOp op_addD (dk 1) (dl (dOp op_mulD (dk 2) (dk 3)))))))))))
theorem sc__law_size : FnScope ["_law_bag_here", "_law_sort_here", "_law_more", "_law_top"] ["_law_bag_here", "_law_sort_here", "_law_more"] (defScope (topS 24)) := ⟨rfl, rfl, rfl, by decide +kernel, rfl, by decide +kernel, by decide +kernel⟩
theorem ok__law_size (Z : Facts K mg) (C__law_take : CalG P w K mg base 1 "_law_take" false [0] g_take) : CalG P w K mg base 2 "_law_size" false [0] g_size := by
  refine Z.d__law_size.cal (m := b_size) 1 sc__law_size rfl rfl fun f cdv A outer s H E hr hg => ?_
  unfold b_size
  exact (
  (sSq (sSet 3 rfl sc__law_size.nd (dIf (qCmp op_isND (dl (dIx (hu_of hr) (dk 1) (dl dInt))) (dl dNon)) (dOp op_addD (dl (dIx (hu_of hr) (dk 1) (dl dInt))) (dk 2)) (dB (cr_min2 rfl) Z.z_min (aCons (dl (dIx (hu_of hr) (dk 1) (dl dInt))) (aCons (dl (dOp op_addD (dl (dIx (hu_of hr) (dk 1) (dl dInt))) (dk 2))) aNil)))))
  (sOne (sRet (dOp op_addD (dl (dIx (hu_of hr) (dk 1) (dl dInt))) (dl (dFn C__law_take hr (by omega) hg (aCons (dk 0) (aCons (dl (dOp op_addD (dl (dOp op_subD (dk 3) (dl (dIx (hu_of hr) (dk 1) (dl dInt))))) (dl dInt))) aNil)))))))))
theorem sc__law_table : FnScope ["_law_bag_here", "_law_house_here", "_law_pool", "_law_more", "_law_found", "_law_sort_here", "_law_row"] ["_law_bag_here", "_law_house_here", "_law_pool", "_law_more"] (defScope (topS 25)) := ⟨rfl, rfl, rfl, by decide +kernel, rfl, by decide +kernel, by decide +kernel⟩
theorem ok__law_table (Z : Facts K mg) (C__law_mixed : CalG P w K mg base 2 "_law_mixed" false [0] g_mixed) (C__law_one : CalG P w K mg base 2 "_law_one" false [0] g_one) (C__law_size : CalG P w K mg base 2 "_law_size" false [0] g_size) : CalG P w K mg base 3 "_law_table" false [0] g_table := by
  refine Z.d__law_table.cal (m := b_table) 3 sc__law_table rfl rfl fun f cdv A outer s H E hr hg => ?_
  unfold b_table
  exact (
  (sSq (sSetO 4 rfl sc__law_table.nd fDct0)
  (sSq (sFor rfl PassesOwn.never rfl (iIt (dFn C__law_mixed hr (by omega) hg (aCons (dk 0) (aCons (dk 1) aNil)))) (gN 5 sc__law_table.nd)
    (sOne (sSub 4 (hu_of hr) (dIx (hu_of hr) (dk 5) (dl dInt)) (dT cr_tuple Z.z_tuple (aCons (dl (df (fB (cr_sorted' rfl hr.units) Z.z_sorted (aCons (dl (df (fLC rfl sc__law_table.nd (vs := [6]) (is := [6]) (own := [((Str.ofString "_law_row"), 6)]) rfl rfl (iRange1 Z.z_range (dl (dFn C__law_size hr (by omega) hg (aCons (dk 0) (aCons (dk 5) (aCons (dk 3) aNil)))))) (blkOk_by (N := ["_law_bag_here", "_law_house_here", "_law_pool", "_law_more", "_law_found", "_law_sort_here", "_law_row"]) (sc := defScope (topS 25)) (by decide +kernel)) (fun _ _ _ _ _ => (gN 6 sc__law_table.nd)) (fun _ _ _ _ _ => (tNil _)) (fun _ _ _ _ _ => (dFn C__law_one hr (by omega) hg (aCons (dk 0) (aCons (dk 2) aNil))))))) aNil)))) aNil)))))
  (sOne (sRel 4 (sRet (dv 4)))))))
theorem sc__law_alike : FnScope ["_law_found", "_law_due"] ["_law_found", "_law_due"] (defScope (topS 18)) := ⟨rfl, rfl, rfl, by decide +kernel, rfl, by decide +kernel, by decide +kernel⟩
theorem ok__law_alike (Z : Facts K mg)  : CalG P w K mg base 1 "_law_alike" false [] g_alike := by
  refine Z.d__law_alike.cal (m := b_alike) 0 sc__law_alike rfl rfl fun f cdv A outer s H E hr hg => ?_
  unfold b_alike
  exact (
  (sOne (sRet (dAnd (dBlOf (dCmp (op_eqDD hr.units) (dk 0) (dk 1))) (dAnd1 (dBlOf (dCmp (op_eqDD hr.units) (dl (dB (cr_repr hg hr.units) Z.z_repr (aCons (dk 0) aNil))) (dl (dB (cr_repr hg hr.units) Z.z_repr (aCons (dk 1) aNil))))))))))
theorem sc__law_flat : FnScope ["_law_rows", "_law_found", "_law_row"] ["_law_rows"] (defScope (topS 19)) := ⟨rfl, rfl, rfl, by decide +kernel, rfl, by decide +kernel, by decide +kernel⟩
theorem ok__law_flat (Z : Facts K mg)  : CalG P w K mg base 1 "_law_flat" false [] g_flat := by
  refine Z.d__law_flat.cal (m := b_flat) 2 sc__law_flat rfl rfl fun f cdv A outer s H E hr hg => ?_
  unfold b_flat
  exact (
  (sSq (sSetO 1 rfl sc__law_flat.nd (fLst bNil))
  (sSq (sFor rfl PassesOwn.never rfl (iIt (dv 0)) (gN 2 sc__law_flat.nd)
    (sOne (sDrop (dMut 1 F.slot_list_extend F.type_list_extend mt_ext (bCons (dv 2) bNil)))))
  (sOne (sRel 1 (sRet (dv 1)))))))
theorem sc__law_known : FnScope ["_law_table_here", "_law_name"] ["_law_table_here"] (defScope (topS 28)) := ⟨rfl, rfl, rfl, by decide +kernel, rfl, by decide +kernel, by decide +kernel⟩
theorem ok__law_known (Z : Facts K mg) (C__law_flat : CalG P w K mg base 1 "_law_flat" false [] g_flat) : CalG P w K mg base 2 "_law_known" false [] g_lknown := by
  refine Z.d__law_known.cal (m := b_lknown) 1 sc__law_known rfl rfl fun f cdv A outer s H E hr hg => ?_
  unfold b_lknown
  exact (
  (sOne (sRet (df (fSortSet rfl Z.z_sorted Z.z_set (dl (dFn C__law_flat hr (by omega) hg (aCons (dl (df (fLC rfl sc__law_known.nd (vs := [1]) (is := [1]) (own := [((Str.ofString "_law_name"), 1)]) rfl rfl (iIt (dv 0)) (blkOk_by (N := ["_law_table_here", "_law_name"]) (sc := defScope (topS 28)) (by decide +kernel)) (fun _ _ _ _ _ => (gN 1 sc__law_known.nd)) (fun _ _ _ _ _ => (tNil _)) (fun _ _ _ _ _ => (df (fT (cr_list rfl) Z.z_list (aCons (dl (dIx (hu_of hr) (dk 0) (dk 1))) aNil))))))) aNil))))))))
theorem sc__law_within : FnScope ["_law_one_here", "_law_other", "_law_few", "_law_many"] ["_law_one_here", "_law_other"] (defScope (topS 33)) := ⟨rfl, rfl, rfl, by decide +kernel, rfl, by decide +kernel, by decide +kernel⟩
def b__law_within : MS :=
  (mRet (mOp2 eqD (mV (mLC [2, 3] (mZp (mVar 0) (mVar 1)) (bTup [2, 3]) (mTest (mOp2 gtD (mPk 2) (mPk 3))) (mC (.int 1)))) (mV (mLst []))))
def g__law_within : FM := runF false 2 2 [] b__law_within
theorem ok__law_within (Z : Facts K mg)  : CalG P w K mg base 1 "_law_within" false [] g__law_within := by
  refine Z.d__law_within.cal (m := b__law_within) 2 sc__law_within rfl rfl fun f cdv A outer s H E hr hg => ?_
  unfold b__law_within
  exact (
  (sOne (sRet (dCmp (op_eqDD hr.units) (dl (df (fLC rfl sc__law_within.nd (vs := [2, 3]) (is := [2, 3]) (own := [((Str.ofString "_law_few"), 2), ((Str.ofString "_law_many"), 3)]) rfl rfl (iZp Z.z_zip (dv 0) (dv 1)) (blkOk_by (N := ["_law_one_here", "_law_other", "_law_few", "_law_many"]) (sc := defScope (topS 33)) (by decide +kernel)) (fun _ _ _ _ _ => (gT rfl (gsCons 2 sc__law_within.nd (gsCons 3 sc__law_within.nd gsNil)))) (fun _ _ _ _ _ => (pts_one (qCmp op_gtD (dk 2) (dk 3)))) (fun _ _ _ _ _ => dInt)))) (dl (df (fLst bNil)))))))
theorem sc_rows_in : FnScope ["table", "lot", "found", "name"] ["table", "lot"] (defScope (topS 3)) := ⟨rfl, rfl, rfl, by decide +kernel, rfl, by decide +kernel, by decide +kernel⟩
theorem ok_rows_in (Z : Facts K mg)  : CalG P w K mg base 1 "rows_in" false [] g_rows_in := by
  refine Z.d_rows_in.cal (m := b_rows_in) 2 sc_rows_in rfl rfl fun f cdv A outer s H E hr hg => ?_
  unfold b_rows_in
  exact (
  (sSq (sSetO 2 rfl sc_rows_in.nd (fLst bNil))
  (sSq (sFor rfl PassesOwn.never rfl (iIt (dv 1)) (gN 3 sc_rows_in.nd)
    (sOne (sDrop (dMut 2 F.slot_list_extend F.type_list_extend mt_ext (bCons (dIx (hu_of hr) (dk 0) (dk 3)) bNil)))))
  (sOne (sRet (df (fB (cr_sorted' rfl hr.units) Z.z_sorted (aCons (dk 2) aNil))))))))
theorem sc_count_at_least : FnScope ["house", "table", "lot", "number", "row"] ["house", "table", "lot", "number"] (defScope (topS 6)) := ⟨rfl, rfl, rfl, by decide +kernel, rfl, by decide +kernel, by decide +kernel⟩
theorem ok_count_at_least (Z : Facts K mg) (C_rows_in : CalG P w K mg base 1 "rows_in" false [] g_rows_in) : CalG P w K mg base 2 "count_at_least" false [] g_count_at_least := by
  refine Z.d_count_at_least.cal (m := b_count_at_least) 1 sc_count_at_least rfl rfl fun f cdv A outer s H E hr hg => ?_
  unfold b_count_at_least
  exact (
  (sOne (sRet (dB cr_len Z.z_len (aCons (dl (df (fLC rfl sc_count_at_least.nd (vs := [4]) (is := [4]) (own := [((Str.ofString "row"), 4)]) rfl rfl (iIt (dFn C_rows_in hr (by omega) hg (aCons (dk 1) (aCons (dk 2) aNil)))) (blkOk_by (N := ["house", "table", "lot", "number", "row"]) (sc := defScope (topS 6)) (by decide +kernel)) (fun _ _ _ _ _ => (gN 4 sc_count_at_least.nd)) (fun _ _ _ _ _ => (pts_one (qCmp op_geD (dk 4) (dk 3)))) (fun _ _ _ _ _ => (dv 4))))) aNil)))))
theorem sc_counts_at : FnScope ["house", "table", "number", "sort"] ["house", "table", "number"] (defScope (topS 10)) := ⟨rfl, rfl, rfl, by decide +kernel, rfl, by decide +kernel, by decide +kernel⟩
theorem ok_counts_at (Z : Facts K mg) (C_count_at_least : CalG P w K mg base 2 "count_at_least" false [] g_count_at_least) : CalG P w K mg base 3 "counts_at" false [] g_counts_at := by
  refine Z.d_counts_at.cal (m := b_counts_at) 1 sc_counts_at rfl rfl fun f cdv A outer s H E hr hg => ?_
  unfold b_counts_at
  exact (
  (sOne (sRet (dT cr_tuple Z.z_tuple (aCons (dl (df (fLC rfl sc_counts_at.nd (vs := [3]) (is := [3]) (own := [((Str.ofString "sort"), 3)]) rfl rfl (iIt (dv 0)) (blkOk_by (N := ["house", "table", "number", "sort"]) (sc := defScope (topS 10)) (by decide +kernel)) (fun _ _ _ _ _ => (gN 3 sc_counts_at.nd)) (fun _ _ _ _ _ => (tNil _)) (fun _ _ _ _ _ => (dFn C_count_at_least hr (by omega) hg (aCons (dk 0) (aCons (dk 1) (aCons (dl (dTup (bCons (dIx (hu_of hr) (dk 3) (dl dInt)) bNil))) (aCons (dk 2) aNil))))))))) aNil)))))
theorem sc_all_numbers : FnScope ["table"] ["table"] (defScope (topS 8)) := ⟨rfl, rfl, rfl, by decide +kernel, rfl, by decide +kernel, by decide +kernel⟩
def b_all_numbers : MS :=
  (mRet (mCall sortSetC [(mV (mFn [] g_rows_in [(mPk 0), (mV (mCall listC [(mPk 0)]))]))]))
def g_all_numbers : FM := runF false 1 0 [] b_all_numbers
theorem ok_all_numbers (Z : Facts K mg) (C_rows_in : CalG P w K mg base 1 "rows_in" false [] g_rows_in) : CalG P w K mg base 2 "all_numbers" false [] g_all_numbers := by
  refine Z.d_all_numbers.cal (m := b_all_numbers) 0 sc_all_numbers rfl rfl fun f cdv A outer s H E hr hg => ?_
  unfold b_all_numbers
  exact (
  (sOne (sRet (df (fSortSet rfl Z.z_sorted Z.z_set (dl (dFn C_rows_in hr (by omega) hg (aCons (dk 0) (aCons (dl (df (fT (cr_list rfl) Z.z_list (aCons (dk 0) aNil)))) aNil)))))))))
theorem sc_fall_of : FnScope ["house", "table", "number"] ["house", "table"] (defScope (topS 11)) := ⟨rfl, rfl, rfl, by decide +kernel, rfl, by decide +kernel, by decide +kernel⟩
def b_fall_of : MS :=
  (mRet (mCall tupleC [(mV (mLC [2] (mIt (mFn [] g_all_numbers [(mPk 1)])) (setS 2) mYes (mTup [(mVar 2), (mFn [] g_counts_at [(mPk 0), (mPk 1), (mPk 2)])])))]))
def g_fall_of : FM := runF false 2 1 [] b_fall_of
theorem ok_fall_of (Z : Facts K mg) (C_all_numbers : CalG P w K mg base 2 "all_numbers" false [] g_all_numbers) (C_counts_at : CalG P w K mg base 3 "counts_at" false [] g_counts_at) : CalG P w K mg base 4 "fall_of" false [] g_fall_of := by
  refine Z.d_fall_of.cal (m := b_fall_of) 1 sc_fall_of rfl rfl fun f cdv A outer s H E hr hg => ?_
  unfold b_fall_of
  exact (
  (sOne (sRet (dT cr_tuple Z.z_tuple (aCons (dl (df (fLC rfl sc_fall_of.nd (vs := [2]) (is := [2]) (own := [((Str.ofString "number"), 2)]) rfl rfl (iIt (dFn C_all_numbers hr (by omega) hg (aCons (dk 1) aNil))) (blkOk_by (N := ["house", "table", "number"]) (sc := defScope (topS 11)) (by decide +kernel)) (fun _ _ _ _ _ => (gN 2 sc_fall_of.nd)) (fun _ _ _ _ _ => (tNil _)) (fun _ _ _ _ _ => (dTup (bCons (dv 2) (bCons (dFn C_counts_at hr (by omega) hg (aCons (dk 0) (aCons (dk 1) (aCons (dk 2) aNil)))) bNil))))))) aNil)))))
theorem sc_holds : FnScope ["house", "formula", "counts", "sort", "many", "part"] ["house", "formula", "counts"] (defScope (topS 1)) := ⟨rfl, rfl, rfl, by decide +kernel, rfl, by decide +kernel, by decide +kernel⟩
theorem ok_holds (Z : Facts K mg)  : ∀ n : Nat, CalG P w K mg base (1 + n) "holds" false [] (g_holds n)
  | 0 => Z.d_holds.cal0
  | n + 1 => by
    have C_holds := ok_holds Z  n
    refine Z.d_holds.cal (k := 1 + n) (m := b_holds (g_holds n)) 3 sc_holds rfl rfl fun f cdv A outer s H E hr hg => ?_
    unfold b_holds
    exact (
  (sSq (sIf (qCmp (op_eqDD hr.units) (dl (dIx (hu_of hr) (dk 1) (dl dInt))) (dl dStr))
    (sOne (sRet (dCmp op_geD (dl (dB (cr_sumD rfl) Z.z_sum (aCons (dl (df (fLC rfl sc_holds.nd (vs := [3, 4]) (is := [3, 4]) (own := [((Str.ofString "sort"), 3), ((Str.ofString "many"), 4)]) rfl rfl (iZp Z.z_zip (dv 0) (dv 2)) (blkOk_by (N := ["house", "formula", "counts", "sort", "many", "part"]) (sc := defScope (topS 1)) (by decide +kernel)) (fun _ _ _ _ _ => (gT rfl (gsCons 3 sc_holds.nd (gsCons 4 sc_holds.nd gsNil)))) (fun _ _ _ _ _ => (pts_one (qCmp (op_inDD (hu65 hr)) (dl (dIx (hu_of hr) (dk 3) (dl dInt))) (dl (dIx (hu_of hr) (dk 1) (dl dInt)))))) (fun _ _ _ _ _ => (dv 4))))) aNil))) (dl (dIx (hu_of hr) (dk 1) (dl dInt))))))
    sNx)
  (sOne (sRet (dCmp op_geD (dl (dB cr_len Z.z_len (aCons (dl (df (fLC rfl sc_holds.nd (vs := [5]) (is := [5]) (own := [((Str.ofString "part"), 5)]) rfl rfl (iIt (dIx (hu_of hr) (dk 1) (dl dInt))) (blkOk_by (N := ["house", "formula", "counts", "sort", "many", "part"]) (sc := defScope (topS 1)) (by decide +kernel)) (fun _ _ _ _ _ => (gN 5 sc_holds.nd)) (fun _ _ _ _ _ => (pts_one (qVal (dFn C_holds hr (by omega) hg (aCons (dk 0) (aCons (dk 5) (aCons (dk 2) aNil))))))) (fun _ _ _ _ _ => (dv 5))))) aNil))) (dl (dIx (hu_of hr) (dk 1) (dl dInt))))))))
theorem sc_sizes_of : FnScope ["house", "table", "sort"] ["house", "table"] (defScope (topS 7)) := ⟨rfl, rfl, rfl, by decide +kernel, rfl, by decide +kernel, by decide +kernel⟩
theorem ok_sizes_of (Z : Facts K mg)  : CalG P w K mg base 1 "sizes_of" false [] g_lsizes := by
  refine Z.d_sizes_of.cal (m := b_lsizes) 1 sc_sizes_of rfl rfl fun f cdv A outer s H E hr hg => ?_
  unfold b_lsizes
  exact (
  (sOne (sRet (dT cr_tuple Z.z_tuple (aCons (dl (df (fLC rfl sc_sizes_of.nd (vs := [2]) (is := [2]) (own := [((Str.ofString "sort"), 2)]) rfl rfl (iIt (dv 0)) (blkOk_by (N := ["house", "table", "sort"]) (sc := defScope (topS 7)) (by decide +kernel)) (fun _ _ _ _ _ => (gN 2 sc_sizes_of.nd)) (fun _ _ _ _ _ => (tNil _)) (fun _ _ _ _ _ => (dB cr_len Z.z_len (aCons (dl (dIx (hu_of hr) (dk 1) (dl (dIx (hu_of hr) (dk 2) (dl dInt))))) aNil)))))) aNil)))))
theorem sc_table_of : FnScope ["house", "fall", "rows", "zero", "sort", "later", "number", "counts", "behind", "many", "left"] ["house", "fall"] (defScope (topS 12)) := ⟨rfl, rfl, rfl, by decide +kernel, rfl, by decide +kernel, by decide +kernel⟩
def b_table_of : MS :=
  (mSq (mPar2 true false 2 3 (mDC [4] (mIt (mVar 0)) (setS 4) mYes (mOp2 ixD (mPk 4) (mV (mC (.int 0)))) (mTup [])) (mOp2 mulD (mV (mTup [(mC (.int 0))])) (mV (mCall lenC [(mPk 0)]))))
  (mSq (mSet 5 (mOp2 addL (mV (mLC [6, 7] (mIt (mSl slD (mPk 1) (someP (mC (.int 1))) noneP)) (bTup [6, 7]) mYes (mVar 7))) (mV (mLst [(mVar 3)]))))
  (mSq (mFor (mZp (mVar 1) (mVar 5)) (bPair (bTup [6, 7]) (setS 8))
    (mFor (mZp3 (mVar 0) (mVar 7) (mVar 8)) (bTup [4, 9, 10])
    (mSub 2 (mOp2 ixD (mPk 4) (mV (mC (.int 0)))) (mOp2 addD (mV (mOp2 ixD (mPk 2) (mV (mOp2 ixD (mPk 4) (mV (mC (.int 0))))))) (mV (mOp2 mulD (mV (mTup [(mVar 6)])) (mV (mOp2 subD (mPk 9) (mPk 10)))))))))
  (mSq (mRel 2) (mRet (mVar 2))))))
def g_table_of : FM := runF false 2 9 [] b_table_of
theorem ok_table_of (Z : Facts K mg)  : CalG P w K mg base 1 "table_of" false [] g_table_of := by
  refine Z.d_table_of.cal (m := b_table_of) 9 sc_table_of rfl rfl fun f cdv A outer s H E hr hg => ?_
  unfold b_table_of
  exact (
  (sSq (sParOD 2 3 rfl rfl sc_table_of.nd (by decide) (fDC rfl sc_table_of.nd (vs := [4]) (is := [4]) (own := [((Str.ofString "sort"), 4)]) rfl rfl (iIt (dv 0)) (blkOk_by (N := ["house", "fall", "rows", "zero", "sort", "later", "number", "counts", "behind", "many", "left"]) (sc := defScope (topS 12)) (by decide +kernel)) (fun _ _ _ _ _ => (gN 4 sc_table_of.nd)) (fun _ _ _ _ _ => (tNil _)) (fun _ _ _ _ _ => (dIx (hu_of hr) (dk 4) (dl dInt))) (fun _ _ _ _ _ => (dTup bNil))) (dOp op_mulD (dl (dTup (bCons dInt bNil))) (dl (dB cr_len Z.z_len (aCons (dk 0) aNil)))) (hw := by rfl))
  (sSq (sSet 5 rfl sc_table_of.nd (df (fOp op_addL (dl (df (fLC rfl sc_table_of.nd (vs := [6, 7]) (is := [6, 7]) (own := [((Str.ofString "number"), 6), ((Str.ofString "counts"), 7)]) rfl rfl (iIt (dSl (dk 1) (pSome dInt) pNone)) (blkOk_by (N := ["house", "fall", "rows", "zero", "sort", "later", "number", "counts", "behind", "many", "left"]) (sc := defScope (topS 12)) (by decide +kernel)) (fun _ _ _ _ _ => (gT rfl (gsCons 6 sc_table_of.nd (gsCons 7 sc_table_of.nd gsNil)))) (fun _ _ _ _ _ => (tNil _)) (fun _ _ _ _ _ => (dv 7))))) (dl (df (fLst (bCons (dv 3) bNil)))))))
  (sSq (sFor rfl PassesOwn.never rfl (iZp Z.z_zip (dv 1) (dv 5)) (gPair rfl (gT rfl (gsCons 6 sc_table_of.nd (gsCons 7 sc_table_of.nd gsNil))) (gN 8 sc_table_of.nd))
    (sOne (sFor rfl PassesOwn.never rfl (iZp3 Z.z_zip (dv 0) (dv 7) (dv 8)) (gT rfl (gsCons 4 sc_table_of.nd (gsCons 9 sc_table_of.nd (gsCons 10 sc_table_of.nd gsNil))))
    (sOne (sSub 2 (hu_of hr) (dIx (hu_of hr) (dk 4) (dl dInt)) (dOp op_addD (dl (dIx (hu_of hr) (dk 2) (dl (dIx (hu_of hr) (dk 4) (dl dInt))))) (dl (dOp op_mulD (dl (dTup (bCons (dv 6) bNil))) (dl (dOp op_subD (dk 9) (dk 10)))))))))))
  (sOne (sRel 2 (sRet (dv 2))))))))
theorem sc_kth_of : FnScope ["values", "k", "some", "value"] ["values", "k"] (defScope (topS 4)) := ⟨rfl, rfl, rfl, by decide +kernel, rfl, by decide +kernel, by decide +kernel⟩
theorem ok_kth_of (Z : Facts K mg)  : CalG P w K mg base 1 "kth_of" false [] g_kth_of := by
  refine Z.d_kth_of.cal (m := b_kth_of) 2 sc_kth_of rfl rfl fun f cdv A outer s H E hr hg => ?_
  unfold b_kth_of
  exact (
  (sSq (sSet 2 rfl sc_kth_of.nd (df (fSortR hr.units Z.z_sorted (dl (df (fLC rfl sc_kth_of.nd (vs := [3]) (is := [3]) (own := [((Str.ofString "value"), 3)]) rfl rfl (iIt (dv 0)) (blkOk_by (N := ["values", "k", "some", "value"]) (sc := defScope (topS 4)) (by decide +kernel)) (fun _ _ _ _ _ => (gN 3 sc_kth_of.nd)) (fun _ _ _ _ _ => (pts_one (qCmp op_notND (dk 3) (dl dNon)))) (fun _ _ _ _ _ => (dv 3))))))))
  (sOne (sRet (dIf (qCmp op_leD (dk 1) (dl (dB cr_len Z.z_len (aCons (dk 2) aNil)))) (dIx (hu_of hr) (dk 2) (dl (dOp op_subD (dk 1) (dl dInt)))) dNon)))))
theorem sc_value_of : FnScope ["house", "table", "formula", "part"] ["house", "table", "formula"] (defScope (topS 5)) := ⟨rfl, rfl, rfl, by decide +kernel, rfl, by decide +kernel, by decide +kernel⟩
theorem ok_value_of (Z : Facts K mg) (C_kth_of : CalG P w K mg base 1 "kth_of" false [] g_kth_of) (C_rows_in : CalG P w K mg base 1 "rows_in" false [] g_rows_in) : ∀ n : Nat, CalG P w K mg base (2 + n) "value_of" false [] (g_value_of n)
  | 0 => Z.d_value_of.cal0
  | n + 1 => by
    have C_value_of := ok_value_of Z C_kth_of C_rows_in n
    refine Z.d_value_of.cal (k := 2 + n) (m := b_value_of (g_value_of n)) 1 sc_value_of rfl rfl fun f cdv A outer s H E hr hg => ?_
    unfold b_value_of
    exact (
  (sSq (sIf (qCmp (op_eqDD hr.units) (dl (dIx (hu_of hr) (dk 2) (dl dInt))) (dl dStr))
    (sOne (sRet (dFn C_kth_of hr (by omega) hg (aCons (dl (dFn C_rows_in hr (by omega) hg (aCons (dk 1) (aCons (dl (dIx (hu_of hr) (dk 2) (dl dInt))) aNil)))) (aCons (dl (dIx (hu_of hr) (dk 2) (dl dInt))) aNil)))))
    sNx)
  (sOne (sRet (dFn C_kth_of hr (by omega) hg (aCons (dl (df (fLC rfl sc_value_of.nd (vs := [3]) (is := [3]) (own := [((Str.ofString "part"), 3)]) rfl rfl (iIt (dIx (hu_of hr) (dk 2) (dl dInt))) (blkOk_by (N := ["house", "table", "formula", "part"]) (sc := defScope (topS 5)) (by decide +kernel)) (fun _ _ _ _ _ => (gN 3 sc_value_of.nd)) (fun _ _ _ _ _ => (tNil _)) (fun _ _ _ _ _ => (dFn C_value_of hr (by omega) hg (aCons (dk 0) (aCons (dk 1) (aCons (dk 3) aNil)))))))) (aCons (dl (dIx (hu_of hr) (dk 2) (dl dInt))) aNil)))))))
theorem sc__law_table_right : FnScope ["_law_house_here", "_law_table_here", "_law_formulas", "_law_numbers_here", "_law_row", "_law_counts", "_law_number", "_law_ahead", "_law_one_here", "_law_formula_here", "_law_value"] ["_law_house_here", "_law_table_here", "_law_formulas"] (defScope (topS 34)) := ⟨rfl, rfl, rfl, by decide +kernel, rfl, by decide +kernel, by decide +kernel⟩
def b__law_table_right : MS :=
  (mSq (mSet 3 (mCall sortSetC [(mV (mFn [] g_flat [(mV (mOp2 addL (mV (mLC [4] (mIt (mFn [] g_lknown [(mPk 1)])) (setS 4) mYes (mLst [(mOp2 subD (mPk 4) (mV (mC (.int 1)))), (mVar 4), (mOp2 addD (mPk 4) (mV (mC (.int 1))))]))) (mV (mLst [(mLst [(mC (.int 0))])]))))]))]))
  (mSq (mSet 5 (mLC [6] (mIt (mVar 3)) (setS 6) mYes (mFn [] g_counts_at [(mPk 0), (mPk 1), (mPk 6)])))
  (mSq (mSet 7 (mFn [] g_lsizes [(mPk 0), (mPk 1)]))
  (mSq (mFor (mIt (mVar 5)) (setS 8)
    (mSq (mIfS (mNot (mTest (mFn [] g__law_within [(mPk 8), (mPk 7)])))
    (mRet (mC (.bool false)))
    mNx)
  (mSet 7 (mVar 8))))
  (mSq (mIfS (mAnd (mTest (mOp2 neD (mV (mOp2 ixD (mPk 5) (mV (mOp1 negD (mV (mC (.int 1))))))) (mV (mOp2 mulD (mV (mTup [(mC (.int 0))])) (mV (mCall lenC [(mPk 0)])))))) (mTest (mOp2 gtD (mV (mOp2 ixD (mPk 3) (mV (mOp1 negD (mV (mC (.int 1))))))) (mV (mCall maxLC [(mV (mOp2 addL (mV (mFn [] g_lknown [(mPk 1)])) (mV (mLst [(mOp2 subD (mV (mOp2 ixD (mPk 3) (mV (mOp1 negD (mV (mC (.int 1))))))) (mV (mC (.int 1))))]))))])))))
    (mRet (mC (.bool false)))
    mNx)
  (mSq (mFor (mIt (mVar 2)) (setS 9)
    (mSq (mSet 10 (mFn [] (g_value_of 20) [(mPk 0), (mPk 1), (mPk 9)]))
  (mSq (mIfS (mNot (mTest (mFn [] g_alike [(mV (mFn [] (g_holds 20) [(mPk 0), (mPk 9), (mV (mFn [] g_lsizes [(mPk 0), (mPk 1)]))])), (mV (mOp2 notND (mPk 10) (mV (mC .none))))])))
    (mRet (mC (.bool false)))
    mNx)
  (mFor (mZp (mVar 3) (mVar 5)) (bTup [6, 8])
    (mIfS (mNot (mTest (mFn [] g_alike [(mV (mFn [] (g_holds 20) [(mPk 0), (mPk 9), (mPk 8)])), (mV (mBl (mAnd (mTest (mOp2 notND (mPk 10) (mV (mC .none)))) (mTest (mOp2 geD (mPk 10) (mPk 6))))))])))
    (mRet (mC (.bool false)))
    mNx)))))
  (mRet (mOp2 eqD (mV (mFn [] g_table_of [(mPk 0), (mV (mFn [] g_fall_of [(mPk 0), (mPk 1)]))])) (mPk 1)))))))))
def g__law_table_right : FM := runF false 3 8 [] b__law_table_right
theorem ok__law_table_right (Z : Facts K mg) (C__law_alike : CalG P w K mg base 1 "_law_alike" false [] g_alike) (C__law_flat : CalG P w K mg base 1 "_law_flat" false [] g_flat) (C__law_known : CalG P w K mg base 2 "_law_known" false [] g_lknown) (C__law_within : CalG P w K mg base 1 "_law_within" false [] g__law_within) (C_counts_at : CalG P w K mg base 3 "counts_at" false [] g_counts_at) (C_fall_of : CalG P w K mg base 4 "fall_of" false [] g_fall_of) (C_holds : CalG P w K mg base 21 "holds" false [] (g_holds 20)) (C_sizes_of : CalG P w K mg base 1 "sizes_of" false [] g_lsizes) (C_table_of : CalG P w K mg base 1 "table_of" false [] g_table_of) (C_value_of : CalG P w K mg base 22 "value_of" false [] (g_value_of 20)) : CalG P w K mg base 23 "_law_table_right" false [] g__law_table_right := by
  refine Z.d__law_table_right.cal (m := b__law_table_right) 8 sc__law_table_right rfl rfl fun f cdv A outer s H E hr hg => ?_
  unfold b__law_table_right
  exact (
  (sSq (sSet 3 rfl sc__law_table_right.nd (df (fSortSet rfl Z.z_sorted Z.z_set (dl (dFn C__law_flat hr (by omega) hg (aCons (dl (df (fOp op_addL (dl (df (fLC rfl sc__law_table_right.nd (vs := [4]) (is := [4]) (own := [((Str.ofString "_law_row"), 4)]) rfl rfl (iIt (dFn C__law_known hr (by omega) hg (aCons (dk 1) aNil))) (blkOk_by (N := ["_law_house_here", "_law_table_here", "_law_formulas", "_law_numbers_here", "_law_row", "_law_counts", "_law_number", "_law_ahead", "_law_one_here", "_law_formula_here", "_law_value"]) (sc := defScope (topS 34)) (by decide +kernel)) (fun _ _ _ _ _ => (gN 4 sc__law_table_right.nd)) (fun _ _ _ _ _ => (tNil _)) (fun _ _ _ _ _ => (df (fLst (bCons (dOp op_subD (dk 4) (dl dInt)) (bCons (dv 4) (bCons (dOp op_addD (dk 4) (dl dInt)) bNil))))))))) (dl (df (fLst (bCons (df (fLst (bCons dInt bNil))) bNil))))))) aNil))))))
  (sSq (sSetLc 5 rfl rfl sc__law_table_right.nd (vs := [6]) (is := [6]) (own := [((Str.ofString "_law_number"), 6)]) rfl rfl (iIt (dv 3)) (blkOk_by (N := ["_law_house_here", "_law_table_here", "_law_formulas", "_law_numbers_here", "_law_row", "_law_counts", "_law_number", "_law_ahead", "_law_one_here", "_law_formula_here", "_law_value"]) (sc := defScope (topS 34)) (by decide +kernel)) (fun _ _ _ _ _ => (gN 6 sc__law_table_right.nd)) (fun _ _ _ _ _ => (tNil _)) (fun _ _ _ _ _ => (dFn C_counts_at hr (by omega) hg (aCons (dk 0) (aCons (dk 1) (aCons (dk 6) aNil))))))
  (sSq (sSet 7 rfl sc__law_table_right.nd (dFn C_sizes_of hr (by omega) hg (aCons (dk 0) (aCons (dk 1) aNil))))
  (sSq (sFor rfl PassesOwn.never rfl (iIt (dv 5)) (gN 8 sc__law_table_right.nd)
    (sSq (sIf (qNot (qVal (dFn C__law_within hr (by omega) hg (aCons (dk 8) (aCons (dk 7) aNil)))))
    (sOne (sRet dBl))
    sNx)
  (sOne (sSet 7 rfl sc__law_table_right.nd (dv 8)))))
  (sSq (sIf (qW (wAnd (qCmp (op_neDD hr.units) (dl (dIx (hu_of hr) (dk 5) (dl (dNeg (dl dInt))))) (dl (dOp op_mulD (dl (dTup (bCons dInt bNil))) (dl (dB cr_len Z.z_len (aCons (dk 0) aNil)))))) (wAnd1 (qCmp op_gtD (dl (dIx (hu_of hr) (dk 3) (dl (dNeg (dl dInt))))) (dl (dB (cr_maxLD rfl) Z.z_max (aCons (dl (df (fOp op_addL (dl (dFn C__law_known hr (by omega) hg (aCons (dk 1) aNil))) (dl (df (fLst (bCons (dOp op_subD (dl (dIx (hu_of hr) (dk 3) (dl (dNeg (dl dInt))))) (dl dInt)) bNil))))))) aNil)))))))
    (sOne (sRet dBl))
    sNx)
  (sSq (sFor rfl PassesOwn.never rfl (iIt (dv 2)) (gN 9 sc__law_table_right.nd)
    (sSq (sSet 10 rfl sc__law_table_right.nd (dFn C_value_of hr (by omega) hg (aCons (dk 0) (aCons (dk 1) (aCons (dk 9) aNil)))))
  (sSq (sIf (qNot (qVal (dFn C__law_alike hr (by omega) hg (aCons (dl (dFn C_holds hr (by omega) hg (aCons (dk 0) (aCons (dk 9) (aCons (dl (dFn C_sizes_of hr (by omega) hg (aCons (dk 0) (aCons (dk 1) aNil)))) aNil))))) (aCons (dl (dCmp op_notND (dk 10) (dl dNon))) aNil)))))
    (sOne (sRet dBl))
    sNx)
  (sOne (sFor rfl PassesOwn.never rfl (iZp Z.z_zip (dv 3) (dv 5)) (gT rfl (gsCons 6 sc__law_table_right.nd (gsCons 8 sc__law_table_right.nd gsNil)))
    (sOne (sIf (qNot (qVal (dFn C__law_alike hr (by omega) hg (aCons (dl (dFn C_holds hr (by omega) hg (aCons (dk 0) (aCons (dk 9) (aCons (dk 8) aNil))))) (aCons (dl (dAnd (dBlOf (dCmp op_notND (dk 10) (dl dNon))) (dAnd1 (dBlOf (dCmp op_geD (dk 10) (dk 6)))))) aNil)))))
    (sOne (sRet dBl))
    sNx)))))))
  (sOne (sRet (dCmp (op_eqDD hr.units) (dl (dFn C_table_of hr (by omega) hg (aCons (dk 0) (aCons (dl (dFn C_fall_of hr (by omega) hg (aCons (dk 0) (aCons (dk 1) aNil)))) aNil)))) (dk 1)))))))))))
theorem sc_law : FnScope ["_law_script", "_law_bag_here", "_law_names_here", "_law_few", "_law_name", "_law_formulas", "_law_k", "_law_tables", "_law_table_here", "_law_turn", "_law_house_here", "_law_more"] ["_law_script"] (defScope (topS 35)) := ⟨rfl, rfl, rfl, by decide +kernel, rfl, by decide +kernel, by decide +kernel⟩
def b_law : MS :=
  (mSq (mSet 2 (mFn [0] g_names [(mPk 1), (mV (mOp2 addD (mV (mC (.int 1))) (mV (mFn [0] g_take [(mPk 1), (mV (mC (.int 3)))]))))]))
  (mSq (mSet 3 (mCall tupleC [(mV (mLC [4] (mIt (mVar 2)) (setS 4) mYes (mOp2 addD (mV (mTup [(mVar 4)])) (mV (mFn [0] g_one [(mPk 1), (mV (mLst [(mTup [(mC (.int 1)), (mC (.int 1))]), (mTup [(mC (.int 0)), (mC (.int 2))]), (mTup [(mC (.int 0)), (mC (.int 1))]), (mTup [(mC (.int 1)), (mC (.int 2))]), (mTup [(mC (.int 0)), (mC .none)])]))])))))]))
  (mSq (mSet 5 (mLC [6] (mRng1 (mV (mC (.int 3)))) (setS 6) mYes (mFn [0] g_any_formula [(mPk 1), (mPk 3)])))
  (mSq (mSet 7 (mFn [] g__law_all_tables [(mPk 3), (mV (mIf (mTest (mOp2 ltD (mV (mCall lenC [(mPk 3)])) (mV (mC (.int 3))))) (mLst [(mC (.int 1)), (mC (.int 2)), (mC (.int 4))]) (mLst [(mC (.int 1)), (mC (.int 2))]))), (mV (mC (.int 2)))]))
  (mSq (mIfS (mTest (mOp2 neD (mV (mLC [8] (mIt (mSl slD (mV (mFn [0] g_mixed [(mPk 1), (mPk 7)])) noneP (someP (mC (.int 200))))) (setS 8) (mNot (mTest (mFn [] g__law_table_right [(mPk 3), (mPk 8), (mPk 5)]))) (mC (.int 1)))) (mV (mLst []))))
    (mRet (mC (.bool false)))
    mNx)
  (mSq (mFor (mRng1 (mV (mC (.int 3)))) (setS 9)
    (mSq (mSet 10 (mFn [0] g_house [(mPk 1), (mV (mC (.int 5)))]))
  (mSq (mSet 5 (mLC [6] (mRng1 (mV (mC (.int 4)))) (setS 6) mYes (mFn [0] g_any_formula [(mPk 1), (mPk 10)])))
  (mFor (mIt (mTup [(mC (.int 2)), (mC (.int 6))])) (setS 11)
    (mIfS (mNot (mTest (mFn [] g__law_table_right [(mPk 10), (mV (mFn [0] g_table [(mPk 1), (mPk 10), (mV (mFn [0] g_numbers [(mPk 1)])), (mPk 11)])), (mPk 5)])))
    (mRet (mC (.bool false)))
    mNx)))))
  (mRet (mC (.bool true)))))))))
theorem ok_law (Z : Facts K mg) (C__law_all_tables : CalG P w K mg base 2 "_law_all_tables" false [] g__law_all_tables) (C__law_any_formula : CalG P w K mg base 26 "_law_any_formula" false [0] g_any_formula) (C__law_house : CalG P w K mg base 4 "_law_house" false [0] g_house) (C__law_mixed : CalG P w K mg base 2 "_law_mixed" false [0] g_mixed) (C__law_names : CalG P w K mg base 3 "_law_names" false [0] g_names) (C__law_numbers : CalG P w K mg base 3 "_law_numbers" false [0] g_numbers) (C__law_one : CalG P w K mg base 2 "_law_one" false [0] g_one) (C__law_table : CalG P w K mg base 3 "_law_table" false [0] g_table) (C__law_table_right : CalG P w K mg base 23 "_law_table_right" false [] g__law_table_right) (C__law_take : CalG P w K mg base 1 "_law_take" false [0] g_take) (C_bag : BagG P w K mg base 1 "_law_bag") : ∃ f fd, mg "law" = some (.ref f) ∧ Fun K "law" "law" (topS 35) f fd ∧ FnG P w K mg base CX0 27 f fd ["_law_script"] (spTop K 10 b_law) := by
  refine Z.d_law.law sc_law rfl rfl fun f cdv A outer s H E hr hg => ?_
  unfold b_law
  exact sTop C_bag hr (by omega) hg sc_law.nd (pv 0) (
  (sSq (sSet 2 rfl sc_law.nd (dFn C__law_names hr (by omega) hg (aCons (dk 1) (aCons (dl (dOp op_addD (dl dInt) (dl (dFn C__law_take hr (by omega) hg (aCons (dk 1) (aCons (dl dInt) aNil)))))) aNil))))
  (sSq (sSet 3 rfl sc_law.nd (dT cr_tuple Z.z_tuple (aCons (dl (df (fLC rfl sc_law.nd (vs := [4]) (is := [4]) (own := [((Str.ofString "_law_name"), 4)]) rfl rfl (iIt (dv 2)) (blkOk_by (N := ["_law_script", "_law_bag_here", "_law_names_here", "_law_few", "_law_name", "_law_formulas", "_law_k", "_law_tables", "_law_table_here", "_law_turn", "_law_house_here", "_law_more"]) (sc := defScope (topS 35)) (by decide +kernel)) (fun _ _ _ _ _ => (gN 4 sc_law.nd)) (fun _ _ _ _ _ => (tNil _)) (fun _ _ _ _ _ => (dOp op_addD (dl (dTup (bCons (dv 4) bNil))) (dl (dFn C__law_one hr (by omega) hg (aCons (dk 1) (aCons (dl (df (fLst (bCons (dTup (bCons dInt (bCons dInt bNil))) (bCons (dTup (bCons dInt (bCons dInt bNil))) (bCons (dTup (bCons dInt (bCons dInt bNil))) (bCons (dTup (bCons dInt (bCons dInt bNil))) (bCons (dTup (bCons dInt (bCons dNon bNil))) bNil)))))))) aNil))))))))) aNil)))
  (sSq (sSet 5 rfl sc_law.nd (df (fLC rfl sc_law.nd (vs := [6]) (is := [6]) (own := [((Str.ofString "_law_k"), 6)]) rfl rfl (iRange1 Z.z_range (dl dInt)) (blkOk_by (N := ["_law_script", "_law_bag_here", "_law_names_here", "_law_few", "_law_name", "_law_formulas", "_law_k", "_law_tables", "_law_table_here", "_law_turn", "_law_house_here", "_law_more"]) (sc := defScope (topS 35)) (by decide +kernel)) (fun _ _ _ _ _ => (gN 6 sc_law.nd)) (fun _ _ _ _ _ => (tNil _)) (fun _ _ _ _ _ => (dFn C__law_any_formula hr (by omega) hg (aCons (dk 1) (aCons (dk 3) aNil)))))))
  (sSq (sSet 7 rfl sc_law.nd (dFn C__law_all_tables hr (by omega) hg (aCons (dk 3) (aCons (dl (df (fIf (qCmp op_ltD (dl (dB cr_len Z.z_len (aCons (dk 3) aNil))) (dl dInt)) (fLst (bCons dInt (bCons dInt (bCons dInt bNil)))) (fLst (bCons dInt (bCons dInt bNil)))))) (aCons (dl dInt) aNil)))))
  (sSq (sIf (qCmp (op_neDD hr.units) (dl (df (fLC rfl sc_law.nd (vs := [8]) (is := [8]) (own := [((Str.ofString "_law_table_here"), 8)]) rfl rfl (iIt (dSl (dl (dFn C__law_mixed hr (by omega) hg (aCons (dk 1) (aCons (dk 7) aNil)))) pNone (pSome dInt))) (blkOk_by (N := ["_law_script", "_law_bag_here", "_law_names_here", "_law_few", "_law_name", "_law_formulas", "_law_k", "_law_tables", "_law_table_here", "_law_turn", "_law_house_here", "_law_more"]) (sc := defScope (topS 35)) (by decide +kernel)) (fun _ _ _ _ _ => (gN 8 sc_law.nd)) (fun _ _ _ _ _ => (pts_one (qNot (qVal (dFn C__law_table_right hr (by omega) hg (aCons (dk 3) (aCons (dk 8) (aCons (dk 5) aNil)))))))) (fun _ _ _ _ _ => dInt)))) (dl (df (fLst bNil))))
    (sOne (sRet dBl))
    sNx)
  (sSq (sFor rfl PassesOwn.never rfl (iRange1 Z.z_range (dl dInt)) (gN 9 sc_law.nd)
    (sSq (sSet 10 rfl sc_law.nd (dFn C__law_house hr (by omega) hg (aCons (dk 1) (aCons (dl dInt) aNil))))
  (sSq (sSet 5 rfl sc_law.nd (df (fLC rfl sc_law.nd (vs := [6]) (is := [6]) (own := [((Str.ofString "_law_k"), 6)]) rfl rfl (iRange1 Z.z_range (dl dInt)) (blkOk_by (N := ["_law_script", "_law_bag_here", "_law_names_here", "_law_few", "_law_name", "_law_formulas", "_law_k", "_law_tables", "_law_table_here", "_law_turn", "_law_house_here", "_law_more"]) (sc := defScope (topS 35)) (by decide +kernel)) (fun _ _ _ _ _ => (gN 6 sc_law.nd)) (fun _ _ _ _ _ => (tNil _)) (fun _ _ _ _ _ => (dFn C__law_any_formula hr (by omega) hg (aCons (dk 1) (aCons (dk 10) aNil)))))))
  (sOne (sFor rfl PassesOwn.never rfl (iIt (dTup (bCons dInt (bCons dInt bNil)))) (gN 11 sc_law.nd)
    (sOne (sIf (qNot (qVal (dFn C__law_table_right hr (by omega) hg (aCons (dk 10) (aCons (dl (dFn C__law_table hr (by omega) hg (aCons (dk 1) (aCons (dk 10) (aCons (dl (dFn C__law_numbers hr (by omega) hg (aCons (dk 1) aNil))) (aCons (dk 11) aNil)))))) (aCons (dk 5) aNil))))))
    (sOne (sRet dBl))
    sNx)))))))
  (sOne (sRet dBl)))))))))
theorem all_ok (Z : Facts K mg) : ∃ f fd, mg "law" = some (.ref f) ∧ Fun K "law" "law" (topS 35) f fd ∧ FnG P w K mg base CX0 27 f fd ["_law_script"] (spTop K 10 b_law) := by
  have C__law_rows_of := ok__law_rows_of (P := P) (w := w) (base := base) Z 
  have C__law_all_tables := ok__law_all_tables (P := P) (w := w) (base := base) Z C__law_rows_of
  have C__law_take := ok__law_take (P := P) (w := w) (base := base) Z 
  have C__law_one := ok__law_one (P := P) (w := w) (base := base) Z C__law_take
  have C__law_mixed := ok__law_mixed (P := P) (w := w) (base := base) Z C__law_take
  have C__law_lot := ok__law_lot (P := P) (w := w) (base := base) Z C__law_mixed C__law_take
  have C__law_rank := ok__law_rank (P := P) (w := w) (base := base) Z C__law_lot C__law_one C__law_take
  have C__law_formula := ok__law_formula (P := P) (w := w) (base := base) Z C__law_one C__law_rank C__law_take 20
  have C__law_any_formula := ok__law_any_formula (P := P) (w := w) (base := base) Z C__law_formula C__law_one
  have C_bag := ok__law_bag (P := P) (w := w) (base := base) Z
  have C__law_names := ok__law_names (P := P) (w := w) (base := base) Z C__law_mixed
  have C__law_sort := ok__law_sort (P := P) (w := w) (base := base) Z C__law_one C__law_take
  have C__law_house := ok__law_house (P := P) (w := w) (base := base) Z C__law_names C__law_sort C__law_take
  have C__law_numbers := ok__law_numbers (P := P) (w := w) (base := base) Z C__law_one C__law_take
  have C__law_size := ok__law_size (P := P) (w := w) (base := base) Z C__law_take
  have C__law_table := ok__law_table (P := P) (w := w) (base := base) Z C__law_mixed C__law_one C__law_size
  have C__law_alike := ok__law_alike (P := P) (w := w) (base := base) Z 
  have C__law_flat := ok__law_flat (P := P) (w := w) (base := base) Z 
  have C__law_known := ok__law_known (P := P) (w := w) (base := base) Z C__law_flat
  have C__law_within := ok__law_within (P := P) (w := w) (base := base) Z 
  have C_rows_in := ok_rows_in (P := P) (w := w) (base := base) Z 
  have C_count_at_least := ok_count_at_least (P := P) (w := w) (base := base) Z C_rows_in
  have C_counts_at := ok_counts_at (P := P) (w := w) (base := base) Z C_count_at_least
  have C_all_numbers := ok_all_numbers (P := P) (w := w) (base := base) Z C_rows_in
  have C_fall_of := ok_fall_of (P := P) (w := w) (base := base) Z C_all_numbers C_counts_at
  have C_holds := ok_holds (P := P) (w := w) (base := base) Z  20
  have C_sizes_of := ok_sizes_of (P := P) (w := w) (base := base) Z 
  have C_table_of := ok_table_of (P := P) (w := w) (base := base) Z 
  have C_kth_of := ok_kth_of (P := P) (w := w) (base := base) Z 
  have C_value_of := ok_value_of (P := P) (w := w) (base := base) Z C_kth_of C_rows_in 20
  have C__law_table_right := ok__law_table_right (P := P) (w := w) (base := base) Z C__law_alike C__law_flat C__law_known C__law_within C_counts_at C_fall_of C_holds C_sizes_of C_table_of C_value_of
  exact ok_law Z C__law_all_tables C__law_any_formula C__law_house C__law_mixed C__law_names C__law_numbers C__law_one C__law_table C__law_table_right C__law_take C_bag
end
theorem facts_mk {K : PySem.W.Frag} {mg : Str → Option Value} {h : Heap} (X : K.In h) (G : h.Ns mainGlobals mg) {f0 f1 f2 f3 f4 f5 f6 f7 f8 f9 f10 f11 f12 f13 f14 f15 f16 f17 f18 f19 f20 f21 f22 f23 f24 f25 f26 f27 f28 f29 f30 f31 : Addr} {od0 an0 od1 an1 od2 an2 od3 an3 od4 an4 od5 an5 od6 an6 od7 an7 od8 an8 od9 an9 od10 an10 od11 an11 od12 an12 od13 an13 od14 an14 od15 an15 od16 an16 od17 an17 od18 an18 od19 an19 od20 an20 od21 an21 od22 an22 od23 an23 od24 an24 od25 an25 od26 an26 od27 an27 od28 an28 od29 an29 od30 an30 od31 an31 : Option Addr} {sl0 sl1 sl2 sl3 sl4 sl5 sl6 sl7 sl8 sl9 sl10 sl11 sl12 sl13 sl14 sl15 sl16 sl17 sl18 sl19 sl20 sl21 sl22 sl23 sl24 sl25 sl26 sl27 sl28 sl29 sl30 sl31 : Array (Option Value)} {oc0 kV0 dc0 pm0 cd0 ct0 oc1 kV1 dc1 pm1 cd1 ct1 oc2 kV2 dc2 pm2 cd2 ct2 oc3 kV3 dc3 pm3 cd3 ct3 oc4 kV4 dc4 pm4 cd4 ct4 oc5 kV5 dc5 pm5 cd5 ct5 oc6 kV6 dc6 pm6 cd6 ct6 oc7 kV7 dc7 pm7 cd7 ct7 oc8 kV8 dc8 pm8 cd8 ct8 oc9 kV9 dc9 pm9 cd9 ct9 oc10 kV10 dc10 pm10 cd10 ct10 oc11 kV11 dc11 pm11 cd11 ct11 oc12 kV12 dc12 pm12 cd12 ct12 oc13 kV13 dc13 pm13 cd13 ct13 oc14 kV14 dc14 pm14 cd14 ct14 oc15 kV15 dc15 pm15 cd15 ct15 oc16 kV16 dc16 pm16 cd16 ct16 oc17 kV17 dc17 pm17 cd17 ct17 oc18 kV18 dc18 pm18 cd18 ct18 oc19 kV19 dc19 pm19 cd19 ct19 oc20 kV20 dc20 pm20 cd20 ct20 oc21 kV21 dc21 pm21 cd21 ct21 oc22 kV22 dc22 pm22 cd22 ct22 oc23 kV23 dc23 pm23 cd23 ct23 oc24 kV24 dc24 pm24 cd24 ct24 oc25 kV25 dc25 pm25 cd25 ct25 oc26 kV26 dc26 pm26 cd26 ct26 oc27 kV27 dc27 pm27 cd27 ct27 oc28 kV28 dc28 pm28 cd28 ct28 oc29 kV29 dc29 pm29 cd29 ct29 oc30 kV30 dc30 pm30 cd30 ct30 oc31 kV31 dc31 pm31 cd31 ct31 : Value}
    (a0 : PySem.W.nsIn K mainGlobals "_law_rows_of" = some (some (.ref f0))) (l0 : K.lookup f0 = some ⟨oc0, od0, .func (PySem.W.fnOf "_law_rows_of" "_law_rows_of" (defArgs (topS 26)) (defBody (topS 26)) (defScope (topS 26)) .none kV0 dc0 pm0 an0 cd0 ct0), sl0⟩) (c0 : PySem.W.codeIn K cd0 "_law_rows_of" = true) (k0 : PySem.W.keepIn K (.ref f0) = true)
    (a1 : PySem.W.nsIn K mainGlobals "_law_all_tables" = some (some (.ref f1))) (l1 : K.lookup f1 = some ⟨oc1, od1, .func (PySem.W.fnOf "_law_all_tables" "_law_all_tables" (defArgs (topS 27)) (defBody (topS 27)) (defScope (topS 27)) .none kV1 dc1 pm1 an1 cd1 ct1), sl1⟩) (c1 : PySem.W.codeIn K cd1 "_law_all_tables" = true) (k1 : PySem.W.keepIn K (.ref f1) = true)
    (a2 : PySem.W.nsIn K mainGlobals "_law_take" = some (some (.ref f2))) (l2 : K.lookup f2 = some ⟨oc2, od2, .func (PySem.W.fnOf "_law_take" "_law_take" (defArgs (topS 15)) (defBody (topS 15)) (defScope (topS 15)) .none kV2 dc2 pm2 an2 cd2 ct2), sl2⟩) (c2 : PySem.W.codeIn K cd2 "_law_take" = true) (k2 : PySem.W.keepIn K (.ref f2) = true)
    (a3 : PySem.W.nsIn K mainGlobals "_law_one" = some (some (.ref f3))) (l3 : K.lookup f3 = some ⟨oc3, od3, .func (PySem.W.fnOf "_law_one" "_law_one" (defArgs (topS 16)) (defBody (topS 16)) (defScope (topS 16)) .none kV3 dc3 pm3 an3 cd3 ct3), sl3⟩) (c3 : PySem.W.codeIn K cd3 "_law_one" = true) (k3 : PySem.W.keepIn K (.ref f3) = true)
    (a4 : PySem.W.nsIn K mainGlobals "_law_mixed" = some (some (.ref f4))) (l4 : K.lookup f4 = some ⟨oc4, od4, .func (PySem.W.fnOf "_law_mixed" "_law_mixed" (defArgs (topS 17)) (defBody (topS 17)) (defScope (topS 17)) .none kV4 dc4 pm4 an4 cd4 ct4), sl4⟩) (c4 : PySem.W.codeIn K cd4 "_law_mixed" = true) (k4 : PySem.W.keepIn K (.ref f4) = true)
    (a5 : PySem.W.nsIn K mainGlobals "_law_lot" = some (some (.ref f5))) (l5 : K.lookup f5 = some ⟨oc5, od5, .func (PySem.W.fnOf "_law_lot" "_law_lot" (defArgs (topS 29)) (defBody (topS 29)) (defScope (topS 29)) .none kV5 dc5 pm5 an5 cd5 ct5), sl5⟩) (c5 : PySem.W.codeIn K cd5 "_law_lot" = true) (k5 : PySem.W.keepIn K (.ref f5) = true)
    (a6 : PySem.W.nsIn K mainGlobals "_law_rank" = some (some (.ref f6))) (l6 : K.lookup f6 = some ⟨oc6, od6, .func (PySem.W.fnOf "_law_rank" "_law_rank" (defArgs (topS 30)) (defBody (topS 30)) (defScope (topS 30)) .none kV6 dc6 pm6 an6 cd6 ct6), sl6⟩) (c6 : PySem.W.codeIn K cd6 "_law_rank" = true) (k6 : PySem.W.keepIn K (.ref f6) = true)
    (a7 : PySem.W.nsIn K mainGlobals "_law_formula" = some (some (.ref f7))) (l7 : K.lookup f7 = some ⟨oc7, od7, .func (PySem.W.fnOf "_law_formula" "_law_formula" (defArgs (topS 31)) (defBody (topS 31)) (defScope (topS 31)) .none kV7 dc7 pm7 an7 cd7 ct7), sl7⟩) (c7 : PySem.W.codeIn K cd7 "_law_formula" = true) (k7 : PySem.W.keepIn K (.ref f7) = true)
    (a8 : PySem.W.nsIn K mainGlobals "_law_any_formula" = some (some (.ref f8))) (l8 : K.lookup f8 = some ⟨oc8, od8, .func (PySem.W.fnOf "_law_any_formula" "_law_any_formula" (defArgs (topS 32)) (defBody (topS 32)) (defScope (topS 32)) .none kV8 dc8 pm8 an8 cd8 ct8), sl8⟩) (c8 : PySem.W.codeIn K cd8 "_law_any_formula" = true) (k8 : PySem.W.keepIn K (.ref f8) = true)
    (a9 : PySem.W.nsIn K mainGlobals "_law_bag" = some (some (.ref f9))) (l9 : K.lookup f9 = some ⟨oc9, od9, .func (PySem.W.fnOf "_law_bag" "_law_bag" (defArgs (topS 14)) (defBody (topS 14)) (defScope (topS 14)) .none kV9 dc9 pm9 an9 cd9 ct9), sl9⟩) (c9 : PySem.W.codeIn K cd9 "_law_bag" = true) (k9 : PySem.W.keepIn K (.ref f9) = true)
    (a10 : PySem.W.nsIn K mainGlobals "_law_names" = some (some (.ref f10))) (l10 : K.lookup f10 = some ⟨oc10, od10, .func (PySem.W.fnOf "_law_names" "_law_names" (defArgs (topS 20)) (defBody (topS 20)) (defScope (topS 20)) .none kV10 dc10 pm10 an10 cd10 ct10), sl10⟩) (c10 : PySem.W.codeIn K cd10 "_law_names" = true) (k10 : PySem.W.keepIn K (.ref f10) = true)
    (a11 : PySem.W.nsIn K mainGlobals "_law_sort" = some (some (.ref f11))) (l11 : K.lookup f11 = some ⟨oc11, od11, .func (PySem.W.fnOf "_law_sort" "_law_sort" (defArgs (topS 21)) (defBody (topS 21)) (defScope (topS 21)) .none kV11 dc11 pm11 an11 cd11 ct11), sl11⟩) (c11 : PySem.W.codeIn K cd11 "_law_sort" = true) (k11 : PySem.W.keepIn K (.ref f11) = true)
    (a12 : PySem.W.nsIn K mainGlobals "_law_house" = some (some (.ref f12))) (l12 : K.lookup f12 = some ⟨oc12, od12, .func (PySem.W.fnOf "_law_house" "_law_house" (defArgs (topS 22)) (defBody (topS 22)) (defScope (topS 22)) .none kV12 dc12 pm12 an12 cd12 ct12), sl12⟩) (c12 : PySem.W.codeIn K cd12 "_law_house" = true) (k12 : PySem.W.keepIn K (.ref f12) = true)
    (a13 : PySem.W.nsIn K mainGlobals "_law_numbers" = some (some (.ref f13))) (l13 : K.lookup f13 = some ⟨oc13, od13, .func (PySem.W.fnOf "_law_numbers" "_law_numbers" (defArgs (topS 23)) (defBody (topS 23)) (defScope (topS 23)) .none kV13 dc13 pm13 an13 cd13 ct13), sl13⟩) (c13 : PySem.W.codeIn K cd13 "_law_numbers" = true) (k13 : PySem.W.keepIn K (.ref f13) = true)
    (a14 : PySem.W.nsIn K mainGlobals "_law_size" = some (some (.ref f14))) (l14 : K.lookup f14 = some ⟨oc14, od14, .func (PySem.W.fnOf "_law_size" "_law_size" (defArgs (topS 24)) (defBody (topS 24)) (defScope (topS 24)) .none kV14 dc14 pm14 an14 cd14 ct14), sl14⟩) (c14 : PySem.W.codeIn K cd14 "_law_size" = true) (k14 : PySem.W.keepIn K (.ref f14) = true)
    (a15 : PySem.W.nsIn K mainGlobals "_law_table" = some (some (.ref f15))) (l15 : K.lookup f15 = some ⟨oc15, od15, .func (PySem.W.fnOf "_law_table" "_law_table" (defArgs (topS 25)) (defBody (topS 25)) (defScope (topS 25)) .none kV15 dc15 pm15 an15 cd15 ct15), sl15⟩) (c15 : PySem.W.codeIn K cd15 "_law_table" = true) (k15 : PySem.W.keepIn K (.ref f15) = true)
    (a16 : PySem.W.nsIn K mainGlobals "_law_alike" = some (some (.ref f16))) (l16 : K.lookup f16 = some ⟨oc16, od16, .func (PySem.W.fnOf "_law_alike" "_law_alike" (defArgs (topS 18)) (defBody (topS 18)) (defScope (topS 18)) .none kV16 dc16 pm16 an16 cd16 ct16), sl16⟩) (c16 : PySem.W.codeIn K cd16 "_law_alike" = true) (k16 : PySem.W.keepIn K (.ref f16) = true)
    (a17 : PySem.W.nsIn K mainGlobals "_law_flat" = some (some (.ref f17))) (l17 : K.lookup f17 = some ⟨oc17, od17, .func (PySem.W.fnOf "_law_flat" "_law_flat" (defArgs (topS 19)) (defBody (topS 19)) (defScope (topS 19)) .none kV17 dc17 pm17 an17 cd17 ct17), sl17⟩) (c17 : PySem.W.codeIn K cd17 "_law_flat" = true) (k17 : PySem.W.keepIn K (.ref f17) = true)
    (a18 : PySem.W.nsIn K mainGlobals "_law_known" = some (some (.ref f18))) (l18 : K.lookup f18 = some ⟨oc18, od18, .func (PySem.W.fnOf "_law_known" "_law_known" (defArgs (topS 28)) (defBody (topS 28)) (defScope (topS 28)) .none kV18 dc18 pm18 an18 cd18 ct18), sl18⟩) (c18 : PySem.W.codeIn K cd18 "_law_known" = true) (k18 : PySem.W.keepIn K (.ref f18) = true)
    (a19 : PySem.W.nsIn K mainGlobals "_law_within" = some (some (.ref f19))) (l19 : K.lookup f19 = some ⟨oc19, od19, .func (PySem.W.fnOf "_law_within" "_law_within" (defArgs (topS 33)) (defBody (topS 33)) (defScope (topS 33)) .none kV19 dc19 pm19 an19 cd19 ct19), sl19⟩) (c19 : PySem.W.codeIn K cd19 "_law_within" = true) (k19 : PySem.W.keepIn K (.ref f19) = true)
    (a20 : PySem.W.nsIn K mainGlobals "rows_in" = some (some (.ref f20))) (l20 : K.lookup f20 = some ⟨oc20, od20, .func (PySem.W.fnOf "rows_in" "rows_in" (defArgs (topS 3)) (defBody (topS 3)) (defScope (topS 3)) .none kV20 dc20 pm20 an20 cd20 ct20), sl20⟩) (c20 : PySem.W.codeIn K cd20 "rows_in" = true) (k20 : PySem.W.keepIn K (.ref f20) = true)
    (a21 : PySem.W.nsIn K mainGlobals "count_at_least" = some (some (.ref f21))) (l21 : K.lookup f21 = some ⟨oc21, od21, .func (PySem.W.fnOf "count_at_least" "count_at_least" (defArgs (topS 6)) (defBody (topS 6)) (defScope (topS 6)) .none kV21 dc21 pm21 an21 cd21 ct21), sl21⟩) (c21 : PySem.W.codeIn K cd21 "count_at_least" = true) (k21 : PySem.W.keepIn K (.ref f21) = true)
    (a22 : PySem.W.nsIn K mainGlobals "counts_at" = some (some (.ref f22))) (l22 : K.lookup f22 = some ⟨oc22, od22, .func (PySem.W.fnOf "counts_at" "counts_at" (defArgs (topS 10)) (defBody (topS 10)) (defScope (topS 10)) .none kV22 dc22 pm22 an22 cd22 ct22), sl22⟩) (c22 : PySem.W.codeIn K cd22 "counts_at" = true) (k22 : PySem.W.keepIn K (.ref f22) = true)
    (a23 : PySem.W.nsIn K mainGlobals "all_numbers" = some (some (.ref f23))) (l23 : K.lookup f23 = some ⟨oc23, od23, .func (PySem.W.fnOf "all_numbers" "all_numbers" (defArgs (topS 8)) (defBody (topS 8)) (defScope (topS 8)) .none kV23 dc23 pm23 an23 cd23 ct23), sl23⟩) (c23 : PySem.W.codeIn K cd23 "all_numbers" = true) (k23 : PySem.W.keepIn K (.ref f23) = true)
    (a24 : PySem.W.nsIn K mainGlobals "fall_of" = some (some (.ref f24))) (l24 : K.lookup f24 = some ⟨oc24, od24, .func (PySem.W.fnOf "fall_of" "fall_of" (defArgs (topS 11)) (defBody (topS 11)) (defScope (topS 11)) .none kV24 dc24 pm24 an24 cd24 ct24), sl24⟩) (c24 : PySem.W.codeIn K cd24 "fall_of" = true) (k24 : PySem.W.keepIn K (.ref f24) = true)
    (a25 : PySem.W.nsIn K mainGlobals "holds" = some (some (.ref f25))) (l25 : K.lookup f25 = some ⟨oc25, od25, .func (PySem.W.fnOf "holds" "holds" (defArgs (topS 1)) (defBody (topS 1)) (defScope (topS 1)) .none kV25 dc25 pm25 an25 cd25 ct25), sl25⟩) (c25 : PySem.W.codeIn K cd25 "holds" = true) (k25 : PySem.W.keepIn K (.ref f25) = true)
    (a26 : PySem.W.nsIn K mainGlobals "sizes_of" = some (some (.ref f26))) (l26 : K.lookup f26 = some ⟨oc26, od26, .func (PySem.W.fnOf "sizes_of" "sizes_of" (defArgs (topS 7)) (defBody (topS 7)) (defScope (topS 7)) .none kV26 dc26 pm26 an26 cd26 ct26), sl26⟩) (c26 : PySem.W.codeIn K cd26 "sizes_of" = true) (k26 : PySem.W.keepIn K (.ref f26) = true)
    (a27 : PySem.W.nsIn K mainGlobals "table_of" = some (some (.ref f27))) (l27 : K.lookup f27 = some ⟨oc27, od27, .func (PySem.W.fnOf "table_of" "table_of" (defArgs (topS 12)) (defBody (topS 12)) (defScope (topS 12)) .none kV27 dc27 pm27 an27 cd27 ct27), sl27⟩) (c27 : PySem.W.codeIn K cd27 "table_of" = true) (k27 : PySem.W.keepIn K (.ref f27) = true)
    (a28 : PySem.W.nsIn K mainGlobals "kth_of" = some (some (.ref f28))) (l28 : K.lookup f28 = some ⟨oc28, od28, .func (PySem.W.fnOf "kth_of" "kth_of" (defArgs (topS 4)) (defBody (topS 4)) (defScope (topS 4)) .none kV28 dc28 pm28 an28 cd28 ct28), sl28⟩) (c28 : PySem.W.codeIn K cd28 "kth_of" = true) (k28 : PySem.W.keepIn K (.ref f28) = true)
    (a29 : PySem.W.nsIn K mainGlobals "value_of" = some (some (.ref f29))) (l29 : K.lookup f29 = some ⟨oc29, od29, .func (PySem.W.fnOf "value_of" "value_of" (defArgs (topS 5)) (defBody (topS 5)) (defScope (topS 5)) .none kV29 dc29 pm29 an29 cd29 ct29), sl29⟩) (c29 : PySem.W.codeIn K cd29 "value_of" = true) (k29 : PySem.W.keepIn K (.ref f29) = true)
    (a30 : PySem.W.nsIn K mainGlobals "_law_table_right" = some (some (.ref f30))) (l30 : K.lookup f30 = some ⟨oc30, od30, .func (PySem.W.fnOf "_law_table_right" "_law_table_right" (defArgs (topS 34)) (defBody (topS 34)) (defScope (topS 34)) .none kV30 dc30 pm30 an30 cd30 ct30), sl30⟩) (c30 : PySem.W.codeIn K cd30 "_law_table_right" = true) (k30 : PySem.W.keepIn K (.ref f30) = true)
    (a31 : PySem.W.nsIn K mainGlobals "law" = some (some (.ref f31))) (l31 : K.lookup f31 = some ⟨oc31, od31, .func (PySem.W.fnOf "law" "law" (defArgs (topS 35)) (defBody (topS 35)) (defScope (topS 35)) .none kV31 dc31 pm31 an31 cd31 ct31), sl31⟩) (c31 : PySem.W.codeIn K cd31 "law" = true) (k31 : PySem.W.keepIn K (.ref f31) = true)
    (z_abs : PySem.W.nsIn K mainGlobals "abs" = some none)
    (z_dict : PySem.W.nsIn K mainGlobals "dict" = some none)
    (z_int : PySem.W.nsIn K mainGlobals "int" = some none)
    (z_len : PySem.W.nsIn K mainGlobals "len" = some none)
    (z_list : PySem.W.nsIn K mainGlobals "list" = some none)
    (z_max : PySem.W.nsIn K mainGlobals "max" = some none)
    (z_min : PySem.W.nsIn K mainGlobals "min" = some none)
    (z_range : PySem.W.nsIn K mainGlobals "range" = some none)
    (z_repr : PySem.W.nsIn K mainGlobals "repr" = some none)
    (z_set : PySem.W.nsIn K mainGlobals "set" = some none)
    (z_sorted : PySem.W.nsIn K mainGlobals "sorted" = some none)
    (z_sum : PySem.W.nsIn K mainGlobals "sum" = some none)
    (z_tuple : PySem.W.nsIn K mainGlobals "tuple" = some none)
    (z_zip : PySem.W.nsIn K mainGlobals "zip" = some none)
    : Facts K mg where
  d__law_rows_of := defG_mk X G a0 l0 c0 k0 fun _ _ _ _ _ _ us hl => match us, hl with | [_, _], _ => rfl
  d__law_all_tables := defG_mk X G a1 l1 c1 k1 fun _ _ _ _ _ _ us hl => match us, hl with | [_, _, _], _ => rfl
  d__law_take := defG_mk X G a2 l2 c2 k2 fun _ _ _ _ _ _ us hl => match us, hl with | [_, _], _ => rfl
  d__law_one := defG_mk X G a3 l3 c3 k3 fun _ _ _ _ _ _ us hl => match us, hl with | [_, _], _ => rfl
  d__law_mixed := defG_mk X G a4 l4 c4 k4 fun _ _ _ _ _ _ us hl => match us, hl with | [_, _], _ => rfl
  d__law_lot := defG_mk X G a5 l5 c5 k5 fun _ _ _ _ _ _ us hl => match us, hl with | [_, _], _ => rfl
  d__law_rank := defG_mk X G a6 l6 c6 k6 fun _ _ _ _ _ _ us hl => match us, hl with | [_, _, _], _ => rfl
  d__law_formula := defG_mk X G a7 l7 c7 k7 fun _ _ _ _ _ _ us hl => match us, hl with | [_, _, _, _, _], _ => rfl
  d__law_any_formula := defG_mk X G a8 l8 c8 k8 fun _ _ _ _ _ _ us hl => match us, hl with | [_, _], _ => rfl
  d__law_bag := defG_mk X G a9 l9 c9 k9 fun _ _ _ _ _ _ us hl => match us, hl with | [_], _ => rfl
  d__law_names := defG_mk X G a10 l10 c10 k10 fun _ _ _ _ _ _ us hl => match us, hl with | [_, _], _ => rfl
  d__law_sort := defG_mk X G a11 l11 c11 k11 fun _ _ _ _ _ _ us hl => match us, hl with | [_, _], _ => rfl
  d__law_house := defG_mk X G a12 l12 c12 k12 fun _ _ _ _ _ _ us hl => match us, hl with | [_, _], _ => rfl
  d__law_numbers := defG_mk X G a13 l13 c13 k13 fun _ _ _ _ _ _ us hl => match us, hl with | [_], _ => rfl
  d__law_size := defG_mk X G a14 l14 c14 k14 fun _ _ _ _ _ _ us hl => match us, hl with | [_, _, _], _ => rfl
  d__law_table := defG_mk X G a15 l15 c15 k15 fun _ _ _ _ _ _ us hl => match us, hl with | [_, _, _, _], _ => rfl
  d__law_alike := defG_mk X G a16 l16 c16 k16 fun _ _ _ _ _ _ us hl => match us, hl with | [_, _], _ => rfl
  d__law_flat := defG_mk X G a17 l17 c17 k17 fun _ _ _ _ _ _ us hl => match us, hl with | [_], _ => rfl
  d__law_known := defG_mk X G a18 l18 c18 k18 fun _ _ _ _ _ _ us hl => match us, hl with | [_], _ => rfl
  d__law_within := defG_mk X G a19 l19 c19 k19 fun _ _ _ _ _ _ us hl => match us, hl with | [_, _], _ => rfl
  d_rows_in := defG_mk X G a20 l20 c20 k20 fun _ _ _ _ _ _ us hl => match us, hl with | [_, _], _ => rfl
  d_count_at_least := defG_mk X G a21 l21 c21 k21 fun _ _ _ _ _ _ us hl => match us, hl with | [_, _, _, _], _ => rfl
  d_counts_at := defG_mk X G a22 l22 c22 k22 fun _ _ _ _ _ _ us hl => match us, hl with | [_, _, _], _ => rfl
  d_all_numbers := defG_mk X G a23 l23 c23 k23 fun _ _ _ _ _ _ us hl => match us, hl with | [_], _ => rfl
  d_fall_of := defG_mk X G a24 l24 c24 k24 fun _ _ _ _ _ _ us hl => match us, hl with | [_, _], _ => rfl
  d_holds := defG_mk X G a25 l25 c25 k25 fun _ _ _ _ _ _ us hl => match us, hl with | [_, _, _], _ => rfl
  d_sizes_of := defG_mk X G a26 l26 c26 k26 fun _ _ _ _ _ _ us hl => match us, hl with | [_, _], _ => rfl
  d_table_of := defG_mk X G a27 l27 c27 k27 fun _ _ _ _ _ _ us hl => match us, hl with | [_, _], _ => rfl
  d_kth_of := defG_mk X G a28 l28 c28 k28 fun _ _ _ _ _ _ us hl => match us, hl with | [_, _], _ => rfl
  d_value_of := defG_mk X G a29 l29 c29 k29 fun _ _ _ _ _ _ us hl => match us, hl with | [_, _, _], _ => rfl
  d__law_table_right := defG_mk X G a30 l30 c30 k30 fun _ _ _ _ _ _ us hl => match us, hl with | [_, _, _], _ => rfl
  d_law := defG_mk X G a31 l31 c31 k31 fun _ _ _ _ _ _ us hl => match us, hl with | [_], _ => rfl
  z_abs := PySem.W.mg_none_of X G z_abs
  z_dict := PySem.W.mg_none_of X G z_dict
  z_int := PySem.W.mg_none_of X G z_int
  z_len := PySem.W.mg_none_of X G z_len
  z_list := PySem.W.mg_none_of X G z_list
  z_max := PySem.W.mg_none_of X G z_max
  z_min := PySem.W.mg_none_of X G z_min
  z_range := PySem.W.mg_none_of X G z_range
  z_repr := PySem.W.mg_none_of X G z_repr
  z_set := PySem.W.mg_none_of X G z_set
  z_sorted := PySem.W.mg_none_of X G z_sorted
  z_sum := PySem.W.mg_none_of X G z_sum
  z_tuple := PySem.W.mg_none_of X G z_tuple
  z_zip := PySem.W.mg_none_of X G z_zip
theorem top_mk {l : PySem.W.OpenLaw} {w : World} {K : PySem.W.Frag} {h : Heap} {mg : Str → Option Value} {fa : Addr} (hfa : mg "law" = some (.ref fa)) (Z : Facts K mg) :
    ∃ fd : FuncData, (∀ (s : Shared) (v : Value), BindsTo s fd ⟨[v], []⟩ [("_law_script", v)]) ∧ ∀ base : Heap, K.In base → base.Ns mainGlobals mg → FnG l.prog w K mg base CX0 27 fa fd ["_law_script"] (spTop K 10 b_law) := by
  obtain ⟨f, fd, hm, Fn, _⟩ := all_ok (P := l.prog) (w := w) (base := h) Z
  rw [hfa] at hm
  cases hm
  obtain ⟨oc, od, kV, doc, pm, an, cdv, ct, osl, rfl, lk, hcd⟩ := Fn.ex
  refine ⟨PySem.W.fnOf "law" "law" (defArgs (topS 35)) (defBody (topS 35)) (defScope (topS 35)) .none kV doc pm an cdv ct, fun s v => .of_eq rfl, fun base _ _ => ?_⟩
  obtain ⟨f2, fd2, hm2, Fn2, G2⟩ := all_ok (P := l.prog) (w := w) (base := base) Z
  rw [hfa] at hm2
  cases hm2
  obtain ⟨_, _, _, _, _, _, _, _, _, e2, lk2, _⟩ := Fn2.ex
  rw [lk] at lk2
  cases lk2
  exact G2
end Qk08
end
section
namespace Qk08
open PySem CF
local macro_rules | `(tactic| walk_at "hf") => `(tactic| (first
  | with_reducible exact eqD_int | with_reducible exact eqD_str | with_reducible exact neD_int | with_reducible exact addD_int | with_reducible exact addI_int | with_reducible exact subD_int | with_reducible exact geD_int | with_reducible exact gtD_int | with_reducible exact leD_int | with_reducible exact ltD_int | with_reducible exact modD_of (by decide) | with_reducible exact mulD_r (by decide) | with_reducible exact mulD_l (by decide) | with_reducible exact powD_of (by decide) | with_reducible exact ix0 | ((with_reducible show ixD (.list _) (.int _) = _); rfl) | ((with_reducible show ixD (.tuple _) (.int _) = _); rfl)
  | with_reducible exact intC_int | with_reducible exact lenC_list | with_reducible exact lenC_tuple | with_reducible exact tupleC_list | with_reducible exact listC_tuple | with_reducible exact listC_dict | with_reducible exact isN_none | with_reducible exact isN_int | with_reducible exact notN_none | with_reducible exact notN_int | with_reducible exact min2_int | with_reducible exact max2_int | with_reducible exact slD_list | with_reducible exact slD_tuple | with_reducible exact neD_str | with_reducible exact max2_int))
local macro_rules | `(tactic| walk_at "m1") => `(tactic| (first
  | with_reducible refine iSq ?_ | with_reducible refine iThn ?_ | with_reducible refine iIfS ?_ | with_reducible refine iSet ?_ | with_reducible refine iSetB ?_ | with_reducible refine iSetO ?_ | with_reducible refine iRet ?_ | with_reducible refine iNx ?_ | with_reducible refine iThnR ?_
  | with_reducible refine iTest ?_ | with_reducible refine iOp2 ?_ | ((with_reducible refine' iPk ?h1 ?h2); (case h1 => rfl)) | with_reducible refine iV ?_ | with_reducible refine iC ?_ | ((with_reducible refine' iVar ?h1 ?h2); (case h1 => rfl))
  | with_reducible refine iCall ?_ | with_reducible refine iLs0 ?_ | with_reducible refine iLs ?_ | with_reducible refine iSub ?_ | with_reducible refine iSl ?_ | with_reducible refine iSome ?_ | with_reducible refine iNone ?_ | with_reducible refine iLst ?_ | with_reducible refine iTup ?_ | with_reducible refine iDs0 ?_ | with_reducible refine iDs ?_
  | with_reducible refine iAnd ?_ | with_reducible refine iOr ?_ | with_reducible refine iNot ?_ | with_reducible refine iBl ?_ | with_reducible refine iIf ?_ | with_reducible refine iDrop ?_ | with_reducible refine iYes ?_ | with_reducible refine iPar ?_
  | ((with_reducible refine' iAugS ?h1 ?h2); (case h1 => exact ⟨_, rfl⟩))
  | ((with_reducible refine' iPutE ?h1 ?h2 ?h3); (case h1 => rfl); (case h2 => rfl))
  | ((with_reducible refine' iOp2E ?h1 ?h2 ?h3 ?h4); (case h1 => rfl); (case h2 => rfl); (case h3 => walk_at "hf"))
  | ((with_reducible refine' iCallE ?h1 ?h2 ?h3); (case h1 => rfl); (case h2 => walk_at "hf"))
  | with_reducible refine ⟨sz0, ?_⟩ | with_reducible refine ⟨sz1, ?_⟩ | with_reducible refine ⟨sz2, ?_⟩ | with_reducible refine ⟨sz3, ?_⟩ | with_reducible refine ⟨sz4, ?_⟩ | with_reducible refine ⟨sz5, ?_⟩
  | (with_reducible refine ⟨_, rfl, ?_⟩)
  | ((with_reducible refine' ⟨_, ?h1, ?h2⟩); (case h1 => walk_at "hf"))
  | ((with_reducible refine' ⟨⟨_, ?h1⟩, ?h2⟩); (case h1 => rfl))
  | ((with_reducible refine' ⟨_, _, ?h1, ?h2, ?h3⟩); (case h1 => rfl); (case h2 => walk_at "hf"))
  | ((with_reducible refine' ⟨_, _, ?h1, ?h2, ?h3⟩); (case h1 => rfl); (case h2 => rfl))))
theorem neD_self {d : D} (h : d.canLay0 = true) (hd : d.depth ≤ 64) : neD d d = some (.bool false) := by
  have e := eqD_self h hd
  unfold eqD at e
  unfold neD
  cases q : eqB d d with
  | none => rw [q] at e; cases e
  | some b =>
    rw [q] at e
    simp only [Option.map_some, Option.some.injEq, PyData.bool.injEq] at e
    rw [e]
    rfl
theorem lay_row (ns : List Int) : (rowD ns).canLay0 = true := by
  unfold rowD
  rw [PyData.canLay0]
  exact lay_ints ns
theorem sh_row (ns : List Int) : SeqAt.shaped (rowD ns) = true := by
  have h : (rowD ns).depth ≤ 1 := by
    unfold rowD
    rw [PyData.depth]
    have := dep_ints ns
    omega
  unfold SeqAt.shaped
  rw [lay_row, decide_eq_true (Nat.le_trans h (by decide))]
  rfl
theorem eq_nil (ns : List Int) : eqD (rowD ns) (.tuple []) = some (.bool ns.isEmpty) := by
  unfold eqD eqB
  have e : stxD (rowD ns) (.tuple []) = none := rfl
  rw [e]
  simp only
  rw [if_pos (by rw [sh_row, show SeqAt.shaped (.tuple []) = true from sh_row []]; rfl)]
  unfold rowD
  cases ns <;> simp [PyData.eqv, PyData.eqvAll]
theorem iRng2L {ρ : List CF.Slot} {m m2 : M LV} {Q : List D → List CF.Slot → Prop} (h : wp m ρ fun x ρ1 => wp m2 ρ1 fun y ρ2 => ∃ i j : Int, lv x ρ2 = some (.int i) ∧ lv y ρ2 = some (.int j) ∧ okR i = true ∧ okR j = true ∧ Q (rangeD i (j - i).toNat) ρ2) : wp (mRng2 m m2) ρ Q := by
  unfold mRng2
  simp only [wp_bind, wp_get, wp_lift]
  refine h.mono fun x ρ1 h => h.mono fun y ρ2 ⟨i, j, h1, h2, o1, o2, q⟩ => ⟨_, h1, _, h2, _, ?_, q⟩
  show (if okR i && okR j then some (rangeD i (j - i).toNat) else none) = _
  rw [o1, o2]
  rfl
/-! ### all rows -/
structure RowOk (pool : List Int) (many : Nat) (r : List Int) : Prop where
  l : r.length = many
  asc : r.Pairwise (· ≤ ·)
  sub : ∀ x ∈ r, x ∈ pool
theorem row_snoc {pool : List Int} {many : Nat} {r : List Int} (o : RowOk pool many r) {n : Int} (hn : n ∈ pool) (h : r = [] ∨ ∀ x, r.getLast? = some x → x ≤ n) : RowOk pool (many + 1) (r ++ [n]) := by
  refine ⟨by rw [List.length_append, o.l]; rfl, ?_, fun x hx => ?_⟩
  · rw [List.pairwise_append]
    refine ⟨o.asc, List.pairwise_singleton _ _, fun a ha b hb => ?_⟩
    rw [List.mem_singleton.mp hb]
    rcases h with rfl | h
    · cases ha
    · obtain ⟨ys, y, e⟩ : ∃ ys y, r = ys ++ [y] := ⟨r.dropLast, r.getLast (List.ne_nil_of_mem ha), (List.dropLast_concat_getLast (List.ne_nil_of_mem ha)).symm⟩
      have hy := h y (by rw [e]; simp)
      have asc := o.asc
      rw [e, List.pairwise_append] at asc
      rw [e] at ha
      rcases List.mem_append.mp ha with z | z
      · have := asc.2.2 a z y (List.mem_singleton.mpr rfl)
        omega
      · rw [List.mem_singleton.mp z]; exact hy
  · rcases List.mem_append.mp hx with z | z
    · exact o.sub x z
    · rw [List.mem_singleton.mp z]; exact hn
theorem rows_of_t {pool : List Int} (hp : pool.length ≤ 3) {many : Nat} (hm : many ≤ 2) : pureFn g__law_rows_of [listD pool, .int many] fun d => ∃ rows : List (List Int), d = .list (rows.map rowD) ∧ rows.length ≤ 9 ∧ ∀ r ∈ rows, RowOk pool many r := by
  unfold g__law_rows_of pureFn
  refine run_gives rfl ?_
  unfold b__law_rows_of
  refine iSq (iSet (iLst (iDs (iTup ?_))))
  repeat walk_at "m1"
  refine iForT (iRng1 ?_)
  repeat walk_at "m1"
  refine ⟨okR_of (by omega) (by omega), Nat, List.range (Int.toNat (many : Nat)), (fun i => .int (0 + (i : Nat))), fun rest ρ => ∃ (k : Nat) (rows : List (List Int)) (s3 s4 s5 : CF.Slot), ρ = [.dat (listD pool), .dat (.int many), .dat (.list (rows.map rowD)), s3, s4, s5, .un] ∧ k + rest.length = many ∧ rows.length ≤ 3 ^ k ∧ ∀ r ∈ rows, RowOk pool k r, rangeD_map _ _, ⟨0, [[]], _, _, _, rfl, by rw [List.length_range, Int.toNat_natCast]; omega, by decide, fun r hr => by rw [List.mem_singleton.mp hr]; exact ⟨rfl, .nil, fun x hx => nomatch hx⟩⟩, ?_, ?_⟩
  · rintro ρ ⟨k, rows, s3, s4, s5, rfl, e, hl, hr⟩
    rw [List.length_nil, Nat.add_zero] at e
    subst e
    refine iThn (iRet (iVar rfl ?_))
    refine ⟨_, rfl, rfl, rows, rfl, Nat.le_trans hl (Nat.le_trans (Nat.pow_le_pow_right (by decide) hm) (by decide)), hr⟩
  · rintro i rest ρ hi ⟨k, rows, s3, s4, s5, rfl, e, hl, hr⟩
    rw [List.length_cons] at e
    have h3 : 3 ^ k ≤ 3 := Nat.le_trans (Nat.pow_le_pow_right (by decide) (show k ≤ 1 by omega)) (by decide)
    refine ⟨_, rfl, ?_⟩
    refine iSq (iSetO (iLst (iDs0 ⟨sz0, ?_⟩)))
    refine iThn (iSq (iForT (wIt (iVar rfl ?_))))
    refine ⟨_, rfl, List Int, rows, rowD, fun rest ρ => ∃ (done : List (List Int)) (s5 : CF.Slot), ρ = [.dat (listD pool), .dat (.int many), .dat (.list (rows.map rowD)), .dat (.int (0 + (i : Nat))), .own (.list (done.map rowD)), s5, .un] ∧ done.length + 3 * rest.length ≤ 3 * rows.length ∧ ∀ r ∈ done, RowOk pool (k + 1) r, rfl, ⟨[], _, rfl, by rw [List.length_nil]; omega, fun _ h => nomatch h⟩, ?_, ?_⟩
    · rintro ρ ⟨done, s5, rfl, hdl, hd⟩
      refine iThn (iSq (iRel rfl ?_))
      refine iThn (iSet (iVar rfl ?_))
      rw [List.length_nil] at hdl
      refine ⟨k + 1, done, .dat (.int (0 + (i : Nat))), .dat (.list (done.map rowD)), s5, rfl, by omega, ?_, hd⟩
      rw [Nat.pow_succ]
      omega
    · rintro r rest ρ hrm ⟨done, s5, rfl, hdl, hd⟩
      rw [List.length_cons] at hdl
      have or := hr r hrm
      have rl := or.l
      refine ⟨_, rfl, ?_⟩
      refine iDrop (iMut rfl (iDs (iLCf (wIt (iVar rfl ?_)))))
      refine ⟨_, rfl, Int, pool, PyData.int, (fun n => r.isEmpty || decide ((r.getLast?.getD 0) ≤ n)), (fun n => rowD (r ++ [n])), rfl, by rw [sizeLine_eq]; omega, rfl, ?_, ?_⟩
      · intro n hn
        refine ⟨_, rfl, ?_⟩
        refine iOr (iTest (iOp2 (iPk rfl (iV (iTup ?_)))))
        repeat walk_at "m1"
        refine iOp2E rfl rfl (eq_nil r) ?_
        refine ⟨_, rfl, ?_⟩
        have el : wp (mOp2 addD (mPk 5) (mV (mTup [(mVar 6)]))) [.dat (listD pool), .dat (.int many), .dat (.list (rows.map rowD)), .dat (.int (0 + (i : Nat))), .own (.list (done.map rowD)), .dat (rowD r), .dat (.int n)] fun y ρ5 => y = rowD (r ++ [n]) ∧ wipeS ρ5 [6] = wipeS [.dat (listD pool), .dat (.int many), .dat (.list (rows.map rowD)), .dat (.int (0 + (i : Nat))), .own (.list (done.map rowD)), .dat (rowD r), .un] [6] := by
          refine iOp2 (iPk rfl (iV (iTup ?_)))
          repeat walk_at "m1"
          refine iOp2E rfl rfl (show addD (rowD r) (.tuple [.int n]) = some (rowD (r ++ [n])) from ?_) ⟨rfl, rfl⟩
          refine (if_pos ?_ : addD (.tuple (r.map PyData.int)) (.tuple [.int n]) = some (.tuple (r.map PyData.int ++ [.int n]))).trans ?_
          · rw [List.length_map, List.length_singleton, sizeLine_eq]; omega
          · unfold rowD
            rw [List.map_append]
            rfl
        cases r with
        | nil =>
          refine iteT ?_
          refine ⟨rfl, ?_⟩
          split
          · exact el
          · rename_i z
            exact absurd rfl z
        | cons a r =>
          refine iteF ?_
          refine iTest (iOp2 (iPk rfl (iV (iOp2 (iPk rfl (iV (iOp1 ?_)))))))
          repeat walk_at "m1"
          have hlast : ∃ x, (a :: r).getLast? = some x := ⟨_, List.getLast?_eq_getLast (List.cons_ne_nil a r)⟩
          obtain ⟨x, ex⟩ := hlast
          obtain ⟨ys, ey⟩ : ∃ ys, a :: r = ys ++ [x] := by
            obtain ⟨ys, e⟩ := List.getLast?_eq_some_iff.mp ex
            exact ⟨ys, e⟩
          refine iOp2E rfl rfl (show ixD (rowD (a :: r)) (.int (-1)) = some (.int x) by
            rw [ey]
            unfold rowD
            rw [List.map_append]
            exact L2.atI_last _ _) ?_
          repeat walk_at "m1"
          rw [ex]
          refine ⟨rfl, ?_⟩
          split
          · exact el
          · rfl
      · repeat walk_at "m1"
        have fl : (pool.filter fun n => r.isEmpty || decide ((r.getLast?.getD 0) ≤ n)).length ≤ 3 := Nat.le_trans (List.length_filter_le ..) hp
        generalize hf : (pool.filter fun n => r.isEmpty || decide ((r.getLast?.getD 0) ≤ n)) = fs at fl
        refine iMutE rfl (rowOf_ext (xs := fs.map fun n => rowD (r ++ [n])) rfl (by rw [List.length_map, List.length_map, sizeLine_eq]; omega)) ?_
        refine ⟨done ++ fs.map (fun n => r ++ [n]), .dat (rowD r), ?_, ?_, ?_⟩
        · rw [List.map_append, List.map_map]
          rfl
        · rw [List.length_append, List.length_map]
          omega
        · intro r' hr'
          rcases List.mem_append.mp hr' with z | z
          · exact hd r' z
          · obtain ⟨n, hn, rfl⟩ := List.mem_map.mp z
            rw [← hf, List.mem_filter] at hn
            refine row_snoc or hn.1 ?_
            rcases Bool.or_eq_true_iff.mp hn.2 with q | q
            · exact .inl (List.isEmpty_iff.mp q)
            · refine .inr fun x hx => ?_
              rw [hx] at q
              exact of_decide_eq_true q
end Qk08
end
section
namespace Qk08
open PySem CF
local macro_rules | `(tactic| walk_at "hf") => `(tactic| (first
  | with_reducible exact eqD_int | with_reducible exact eqD_str | with_reducible exact neD_int | with_reducible exact addD_int | with_reducible exact addI_int | with_reducible exact subD_int | with_reducible exact geD_int | with_reducible exact gtD_int | with_reducible exact leD_int | with_reducible exact ltD_int | with_reducible exact modD_of (by decide) | with_reducible exact mulD_r (by decide) | with_reducible exact mulD_l (by decide) | with_reducible exact powD_of (by decide) | with_reducible exact ix0 | ((with_reducible show ixD (.list _) (.int _) = _); rfl) | ((with_reducible show ixD (.tuple _) (.int _) = _); rfl)
  | with_reducible exact intC_int | with_reducible exact lenC_list | with_reducible exact lenC_tuple | with_reducible exact tupleC_list | with_reducible exact listC_tuple | with_reducible exact listC_dict | with_reducible exact isN_none | with_reducible exact isN_int | with_reducible exact notN_none | with_reducible exact notN_int | with_reducible exact min2_int | with_reducible exact max2_int | with_reducible exact slD_list | with_reducible exact slD_tuple | with_reducible exact neD_str | with_reducible exact max2_int))
local macro_rules | `(tactic| walk_at "m1") => `(tactic| (first
  | with_reducible refine iSq ?_ | with_reducible refine iThn ?_ | with_reducible refine iIfS ?_ | with_reducible refine iSet ?_ | with_reducible refine iSetB ?_ | with_reducible refine iSetO ?_ | with_reducible refine iRet ?_ | with_reducible refine iNx ?_ | with_reducible refine iThnR ?_
  | with_reducible refine iTest ?_ | with_reducible refine iOp2 ?_ | ((with_reducible refine' iPk ?h1 ?h2); (case h1 => rfl)) | with_reducible refine iV ?_ | with_reducible refine iC ?_ | ((with_reducible refine' iVar ?h1 ?h2); (case h1 => rfl))
  | with_reducible refine iCall ?_ | with_reducible refine iLs0 ?_ | with_reducible refine iLs ?_ | with_reducible refine iSub ?_ | with_reducible refine iSl ?_ | with_reducible refine iSome ?_ | with_reducible refine iNone ?_ | with_reducible refine iLst ?_ | with_reducible refine iTup ?_ | with_reducible refine iDs0 ?_ | with_reducible refine iDs ?_
  | with_reducible refine iAnd ?_ | with_reducible refine iOr ?_ | with_reducible refine iNot ?_ | with_reducible refine iBl ?_ | with_reducible refine iIf ?_ | with_reducible refine iDrop ?_ | with_reducible refine iYes ?_ | with_reducible refine iPar ?_
  | ((with_reducible refine' iAugS ?h1 ?h2); (case h1 => exact ⟨_, rfl⟩))
  | ((with_reducible refine' iPutE ?h1 ?h2 ?h3); (case h1 => rfl); (case h2 => rfl))
  | ((with_reducible refine' iOp2E ?h1 ?h2 ?h3 ?h4); (case h1 => rfl); (case h2 => rfl); (case h3 => walk_at "hf"))
  | ((with_reducible refine' iCallE ?h1 ?h2 ?h3); (case h1 => rfl); (case h2 => walk_at "hf"))
  | with_reducible refine ⟨sz0, ?_⟩ | with_reducible refine ⟨sz1, ?_⟩ | with_reducible refine ⟨sz2, ?_⟩ | with_reducible refine ⟨sz3, ?_⟩ | with_reducible refine ⟨sz4, ?_⟩ | with_reducible refine ⟨sz5, ?_⟩
  | (with_reducible refine ⟨_, rfl, ?_⟩)
  | ((with_reducible refine' ⟨_, ?h1, ?h2⟩); (case h1 => walk_at "hf"))
  | ((with_reducible refine' ⟨⟨_, ?h1⟩, ?h2⟩); (case h1 => rfl))
  | ((with_reducible refine' ⟨_, _, ?h1, ?h2, ?h3⟩); (case h1 => rfl); (case h2 => walk_at "hf"))
  | ((with_reducible refine' ⟨_, _, ?h1, ?h2, ?h3⟩); (case h1 => rfl); (case h2 => rfl))))
structure RowS (pool : List Int) (s : Srt) (r : List Int) : Prop where
  asc : r.Pairwise (· ≤ ·)
  sub : ∀ x ∈ r, x ∈ pool
  l2 : r.length ≤ 2
  lo : s.lo ≤ r.length
  hi : ∀ m, s.hi = some m → r.length ≤ m
def PsR (pool : List Int) (s : Srt) (p : Str × List Int) : Prop := p.1 = s.nm ∧ RowS pool s p.2
theorem zip2_snoc {α β : Type} {R : α → β → Prop} {a : α} {b : β} (hr : R a b) : ∀ {as : List α} {bs : List β}, Zip2 R as bs → Zip2 R (as ++ [a]) (bs ++ [b])
  | _, _, .nil => .cons hr .nil
  | _, _, .cons h t => .cons h (zip2_snoc hr t)
theorem zip2_left {α β : Type} {R : α → β → Prop} : ∀ {as : List α} {bs : List β}, Zip2 R as bs → ∀ a ∈ as, ∃ b ∈ bs, R a b
  | _, _, .cons (b := b) h t, x, hx => by
    rcases List.mem_cons.mp hx with q | q
    · rw [q]; exact ⟨b, List.mem_cons_self .., h⟩
    · obtain ⟨c, hc, rc⟩ := zip2_left t x q
      exact ⟨c, List.mem_cons_of_mem _ hc, rc⟩
def pD (p : Str × List Int) : D := .tuple [.str p.1, rowD p.2]
def psD (ps : List (Str × List Int)) : D := .list (ps.map pD)
theorem tok_of {h : House} (oh : HOk h) {pool : List Int} {ps : Tbl} (z : Zip2 (PsR pool) h ps) : TOk h pool ps := by
  have en : ps.map (·.1) = h.nms := z.map_eq (f := (·.1)) (g := Srt.nm) fun a b q => q.1
  have rt : ∀ p ∈ ps, p.2.Pairwise (· ≤ ·) ∧ p.2.length ≤ 9 ∧ ∀ n ∈ p.2, n ∈ pool := z.right fun a b q => ⟨q.2.asc, by have := q.2.l2; omega, q.2.sub⟩
  refine ⟨by rw [en], fun p hp => (rt p hp).1, fun s hs => ?_, fun p hp => (rt p hp).2.1, fun p hp => (rt p hp).2.2⟩
  obtain ⟨p, hp, e, r⟩ := zip2_left z s hs
  have : ps.row s.nm = p.2 := by
    unfold Tbl.row
    rw [← e, look_of_mem (by rw [en]; exact oh.nodup) hp]
    rfl
  rw [this]
  exact ⟨r.lo, r.hi⟩
theorem iNorm {α : Type} {m : M α} {ρ ρ' : List CF.Slot} {Q : α → List CF.Slot → Prop} (e : ρ = ρ') (h : wp m ρ' Q) : wp m ρ Q := e ▸ h
theorem range_n (lo n : Nat) : rangeD lo n = (List.range n).map fun i => PyData.int ((lo + i : Nat) : Int) := rangeD_map _ _
theorem all_tables_t {h : House} (oh : HOk h) (h3 : h.length ≤ 3) {pool : List Int} (hp : pool.length ≤ 3) : pureFn g__law_all_tables [h.d, listD pool, .int 2] fun d => ∃ ts : List Tbl, d = .list (ts.map Tbl.d) ∧ ts.length ≤ 100000 ∧ ∀ t ∈ ts, TOk h pool t := by
  unfold g__law_all_tables pureFn
  refine run_gives rfl ?_
  unfold b__law_all_tables
  refine iSq (iSet (iLst (iDs (iLst (iDs0 ⟨sz0, ?_⟩)))))
  repeat walk_at "m1"
  refine iForT (wIt (iVar rfl ?_))
  refine ⟨_, rfl, Srt, h, Srt.d, fun rest ρ => ∃ (pre : House) (found : List (List (Str × List Int))) (s4 s5 s6 s7 s8 s9 s10 : CF.Slot), isOwn s10 = false ∧ ρ = [.dat h.d, .dat (listD pool), .dat (.int 2), .dat (.list (found.map psD)), s4, s5, s6, s7, s8, s9, s10, .un] ∧ pre ++ rest = h ∧ found.length ≤ 27 ^ pre.length ∧ ∀ ps ∈ found, Zip2 (PsR pool) pre ps, rfl, ⟨[], [[]], .un, .un, .un, .un, .un, .un, .un, rfl, rfl, rfl, by decide, fun ps hps => by rw [List.mem_singleton.mp hps]; exact .nil⟩, ?_, ?_⟩
  · rintro ρ ⟨pre, found, s4, s5, s6, s7, s8, s9, s10, h10, rfl, e, hl, hf⟩
    rw [List.append_nil] at e
    subst e
    have fl : found.length ≤ 100000 := Nat.le_trans hl (Nat.le_trans (Nat.pow_le_pow_right (by decide) h3) (by decide))
    refine iThn (iRet (iLCm (wIt (iVar rfl ?_))))
    refine ⟨_, rfl, List (Str × List Int), found, psD, Tbl.d, rfl, by rw [sizeLine_eq]; omega, by show (!isOwn s10 && true) = true; rw [h10]; rfl, ?_, ?_⟩
    · intro ps hps
      refine ⟨_, rfl, ?_⟩
      refine iCall ?_
      repeat walk_at "m1"
      have z := hf ps hps
      have en : ps.map (·.1) = pre.nms := z.map_eq (f := (·.1)) (g := Srt.nm) fun a b q => q.1
      refine iCallE rfl (dictP_of (kf := fun p : Str × List Int => PyData.str p.1) (f := fun p => rowD p.2) (xs := ps) (fun _ _ => rfl) (apart_str (k := fun p : Str × List Int => p.1) (f := fun p => rowD p.2) (by rw [en]; exact oh.nodup))) ⟨rfl, rfl⟩
    · exact ⟨_, rfl, rfl, found, rfl, fl, fun t ht => tok_of oh (hf t ht)⟩
  · rintro s rest ρ hs ⟨pre, found, s4, s5, s6, s7, s8, s9, s10, h10, rfl, e, hl, hf⟩
    have fl : found.length ≤ 100000 := by
      refine Nat.le_trans hl (Nat.le_trans (Nat.pow_le_pow_right (by decide) (show pre.length ≤ 3 from ?_)) (by decide))
      have := congrArg List.length e
      rw [List.length_append, List.length_cons] at this
      omega
    have lo3 := oh.lo s hs
    refine ⟨_, rfl, ?_⟩
    refine iSq (iSetO (iLst (iDs0 ⟨sz0, ?_⟩)))
    have hi9 : ∀ m, s.hi = some m → m ≤ 9 := fun m e => (oh.hi s hs m e).2
    have rows7 : ∃ topN : Nat, topN ≤ 2 ∧ (∀ m, s.hi = some m → topN ≤ m) ∧ ∀ (Q : List D → List CF.Slot → Prop), Q (rangeD s.lo (topN + 1 - s.lo)) [.dat h.d, .dat (listD pool), .dat (.int 2), .dat (.list (found.map psD)), .dat (.str s.nm), .dat (.int s.lo), .dat (hiD s.hi), .own (.list []), s8, s9, s10, .un] → wp (mRng2 (mPk 5) (mV (mOp2 addD (mV (mCall min2C [(mPk 2), (mV (mIf (mTest (mOp2 isND (mPk 6) (mV (mC .none)))) (mVar 2) (mVar 6)))])) (mV (mC (.int 1)))))) [.dat h.d, .dat (listD pool), .dat (.int 2), .dat (.list (found.map psD)), .dat (.str s.nm), .dat (.int s.lo), .dat (hiD s.hi), .own (.list []), s8, s9, s10, .un] Q := by
      have go : ∀ (x : Int) (k : Nat), (if x < 2 then x else 2) = (k : Int) → k ≤ 2 → ∀ (Q : List D → List CF.Slot → Prop), Q (rangeD s.lo (k + 1 - s.lo)) [.dat h.d, .dat (listD pool), .dat (.int 2), .dat (.list (found.map psD)), .dat (.str s.nm), .dat (.int s.lo), .dat (hiD s.hi), .own (.list []), s8, s9, s10, .un] → ∃ r, min2C [.int 2, .int x] = some r ∧ op2E addD (.dat r) (.dat (.int 1)) (fun d ρ2 => ∃ i j : Int, lv (.slot 5) ρ2 = some (.int i) ∧ lv (.dat d) ρ2 = some (.int j) ∧ okR i = true ∧ okR j = true ∧ Q (rangeD i (j - i).toNat) ρ2) [.dat h.d, .dat (listD pool), .dat (.int 2), .dat (.list (found.map psD)), .dat (.str s.nm), .dat (.int s.lo), .dat (hiD s.hi), .own (.list []), s8, s9, s10, .un] := fun x k ek k2 Q q => by
        refine ⟨.int (if x < 2 then x else 2), rfl, iOp2E rfl rfl rfl ?_⟩
        refine ⟨s.lo, _, rfl, rfl, okR_of (by omega) (by omega), okR_of (by rw [ek]; omega) (by rw [ek]; omega), ?_⟩
        rw [ek, show (((k : Int) + 1) - (s.lo : Int)).toNat = k + 1 - s.lo by omega]
        exact q
      cases hh : s.hi with
      | none =>
        rw [hh] at go
        refine ⟨2, Nat.le_refl _, (fun m e => nomatch e), fun Q q => ?_⟩
        refine iRng2L (iPk rfl (iV (iOp2 (iV (iCall ?_)))))
        refine iLs (iPk rfl (iLs (iV (iIf (iTest (iOp2 ?_))))))
        repeat walk_at "m1"
        refine iOp2E rfl rfl (show isND (hiD none) .none = some (.bool true) from rfl) ?_
        refine ⟨_, rfl, iteT ?_⟩
        refine iVar rfl (iLs0 ?_)
        obtain ⟨r, e1, q1⟩ := go 2 2 rfl (Nat.le_refl _) Q q
        exact iCallE rfl e1 (iV (iC q1))
      | some m =>
        have m9 := hi9 m hh
        rw [hh] at go
        refine ⟨min 2 m, Nat.min_le_left _ _, (fun m' e => by cases e; exact Nat.min_le_right _ _), fun Q q => ?_⟩
        refine iRng2L (iPk rfl (iV (iOp2 (iV (iCall ?_)))))
        refine iLs (iPk rfl (iLs (iV (iIf (iTest (iOp2 ?_))))))
        repeat walk_at "m1"
        refine iOp2E rfl rfl (show isND (hiD (some m)) .none = some (.bool false) from rfl) ?_
        refine ⟨_, rfl, iteF ?_⟩
        refine iVar rfl (iLs0 ?_)
        obtain ⟨r, e1, q1⟩ := go m (min 2 m) (by split <;> omega) (Nat.min_le_left _ _) Q q
        exact iCallE rfl e1 (iV (iC q1))
    obtain ⟨topN, t2, thi, hrng⟩ := rows7
    refine iThn (iNorm (ρ' := [.dat h.d, .dat (listD pool), .dat (.int 2), .dat (.list (found.map psD)), .dat (.str s.nm), .dat (.int s.lo), .dat (hiD s.hi), .own (.list []), s8, s9, s10, .un]) rfl ?_)
    refine iSq (iForT (hrng _ ?_))
    refine ⟨Nat, List.range (topN + 1 - s.lo), (fun i => .int ((s.lo + i : Nat) : Int)), fun rest ρ => ∃ (rows : List (List Int)) (s8 : CF.Slot), ρ = [.dat h.d, .dat (listD pool), .dat (.int 2), .dat (.list (found.map psD)), .dat (.str s.nm), .dat (.int s.lo), .dat (hiD s.hi), .own (.list (rows.map rowD)), s8, s9, s10, .un] ∧ rows.length + 9 * rest.length ≤ 27 ∧ ∀ r ∈ rows, RowS pool s r, range_n _ _, ⟨[], s8, rfl, by rw [List.length_range, List.length_nil]; omega, fun _ h => nomatch h⟩, ?_, ?_⟩
    rotate_left
    · rintro i rest ρ hi ⟨rows, s8, rfl, hrl, hr⟩
      have hi := List.mem_range.mp hi
      rw [List.length_cons] at hrl
      refine ⟨_, rfl, ?_⟩
      refine iDrop (iMut rfl (iDs (iFn ?_)))
      repeat walk_at "m1"
      refine iFnP rfl (rows_of_t hp (many := s.lo + i) (by omega)) ?_
      rintro _ ⟨more, rfl, ml, mo⟩
      repeat walk_at "m1"
      refine iMutE rfl (rowOf_ext (xs := more.map rowD) rfl (by rw [List.length_map, List.length_map, sizeLine_eq]; omega)) ?_
      refine ⟨rows ++ more, .dat (.int ((s.lo + i : Nat) : Int)), by rw [List.map_append]; rfl, by rw [List.length_append]; omega, fun r h => ?_⟩
      rcases List.mem_append.mp h with z | z
      · exact hr r z
      · have o := mo r z
        have ol := o.l
        exact ⟨o.asc, o.sub, by omega, by omega, fun m e => by have := thi m e; omega⟩
    · rintro ρ ⟨rows, s8, rfl, hrl, hr⟩
      rw [List.length_nil, Nat.mul_zero, Nat.add_zero] at hrl
      refine iThn (iSq (iSetO (iLst (iDs0 ⟨sz0, ?_⟩))))
      refine iThn (iSq (iForT (wIt (iVar rfl ?_))))
      refine ⟨_, rfl, List (Str × List Int), found, psD, fun rest ρ => ∃ (done : List (List (Str × List Int))) (s7 s10 : CF.Slot), isOwn s10 = false ∧ (s7 = .own (.list (rows.map rowD)) ∨ s7 = .dat (.list (rows.map rowD))) ∧ ρ = [.dat h.d, .dat (listD pool), .dat (.int 2), .dat (.list (found.map psD)), .dat (.str s.nm), .dat (.int s.lo), .dat (hiD s.hi), s7, s8, .own (.list (done.map psD)), s10, .un] ∧ done.length + 27 * rest.length ≤ 27 * found.length ∧ ∀ ps ∈ done, Zip2 (PsR pool) (pre ++ [s]) ps, rfl, ⟨[], _, s10, h10, .inl rfl, rfl, by rw [List.length_nil]; omega, fun _ h => nomatch h⟩, ?_, ?_⟩
      · rintro ρ ⟨done, s7, s10, h10, h7, rfl, hdl, hd⟩
        rw [List.length_nil] at hdl
        refine iThn (iSq (iRel rfl ?_))
        refine iThn (iSet (iVar rfl ?_))
        refine ⟨pre ++ [s], done, .dat (.str s.nm), .dat (.int s.lo), .dat (hiD s.hi), s7, s8, .dat (.list (done.map psD)), s10, h10, rfl, by rw [← e]; simp, ?_, hd⟩
        rw [List.length_append, List.length_singleton, Nat.pow_succ]
        omega
      · rintro ps rest ρ hps ⟨done, s7, s10, h10, h7, rfl, hdl, hd⟩
        rw [List.length_cons] at hdl
        have zp := hf ps hps
        have pl : ps.length ≤ 3 := by
          rw [zp.len]
          have := congrArg List.length e
          rw [List.length_append, List.length_cons] at this
          omega
        refine ⟨_, rfl, ?_⟩
        refine iSq (iRel (ρ' := [.dat h.d, .dat (listD pool), .dat (.int 2), .dat (.list (found.map psD)), .dat (.str s.nm), .dat (.int s.lo), .dat (hiD s.hi), .dat (.list (rows.map rowD)), s8, .own (.list (done.map psD)), .dat (psD ps), .un]) (by rcases h7 with rfl | rfl <;> rfl) ?_)
        refine iThn (iDrop (iMut rfl (iDs (iLCm (wIt (iVar rfl ?_))))))
        refine ⟨_, rfl, List Int, rows, rowD, (fun r => psD (ps ++ [(s.nm, r)])), rfl, by rw [sizeLine_eq]; omega, rfl, ?_, ?_⟩
        · intro r hrm
          refine ⟨_, rfl, ?_⟩
          refine iOp2 (iPk rfl (iV (iLst (iDs (iTup ?_)))))
          repeat walk_at "m1"
          refine iOp2E rfl rfl (show addL (psD ps) (.list [.tuple [.str s.nm, rowD r]]) = some (psD (ps ++ [(s.nm, r)])) from ?_) ⟨rfl, rfl⟩
          refine (addL_list (xs := ps.map pD) (ys := [.tuple [.str s.nm, rowD r]]) (by rw [List.length_map, List.length_singleton, sizeLine_eq]; omega)).trans ?_
          unfold psD
          rw [List.map_append]
          rfl
        · repeat walk_at "m1"
          refine iMutE rfl (rowOf_ext (xs := rows.map fun r => psD (ps ++ [(s.nm, r)])) rfl (by rw [List.length_map, List.length_map, sizeLine_eq]; omega)) ?_
          refine ⟨done ++ rows.map (fun r => ps ++ [(s.nm, r)]), .dat (.list (rows.map rowD)), .dat (psD ps), rfl, .inr rfl, ?_, ?_, ?_⟩
          · rw [List.map_append, List.map_map]
            rfl
          · rw [List.length_append, List.length_map]
            omega
          · intro ps' h'
            rcases List.mem_append.mp h' with z | z
            · exact hd ps' z
            · obtain ⟨r, hrm, rfl⟩ := List.mem_map.mp z
              exact zip2_snoc ⟨rfl, hr r hrm⟩ zp
end Qk08
end
section
namespace Qk08
open PySem CF
local macro_rules | `(tactic| walk_at "hf") => `(tactic| (first
  | with_reducible exact eqD_int | with_reducible exact eqD_str | with_reducible exact neD_int | with_reducible exact addD_int | with_reducible exact addI_int | with_reducible exact subD_int | with_reducible exact geD_int | with_reducible exact gtD_int | with_reducible exact leD_int | with_reducible exact ltD_int | with_reducible exact modD_of (by decide) | with_reducible exact mulD_r (by decide) | with_reducible exact mulD_l (by decide) | with_reducible exact powD_of (by decide) | with_reducible exact ix0 | ((with_reducible show ixD (.list _) (.int _) = _); rfl) | ((with_reducible show ixD (.tuple _) (.int _) = _); rfl)
  | with_reducible exact intC_int | with_reducible exact lenC_list | with_reducible exact lenC_tuple | with_reducible exact tupleC_list | with_reducible exact listC_tuple | with_reducible exact listC_dict | with_reducible exact isN_none | with_reducible exact isN_int | with_reducible exact notN_none | with_reducible exact notN_int | with_reducible exact min2_int | with_reducible exact max2_int | with_reducible exact slD_list | with_reducible exact slD_tuple | with_reducible exact neD_str | with_reducible exact max2_int))
local macro_rules | `(tactic| walk_at "m1") => `(tactic| (first
  | with_reducible refine iSq ?_ | with_reducible refine iThn ?_ | with_reducible refine iIfS ?_ | with_reducible refine iSet ?_ | with_reducible refine iSetB ?_ | with_reducible refine iSetO ?_ | with_reducible refine iRet ?_ | with_reducible refine iNx ?_ | with_reducible refine iThnR ?_
  | with_reducible refine iTest ?_ | with_reducible refine iOp2 ?_ | ((with_reducible refine' iPk ?h1 ?h2); (case h1 => rfl)) | with_reducible refine iV ?_ | with_reducible refine iC ?_ | ((with_reducible refine' iVar ?h1 ?h2); (case h1 => rfl))
  | with_reducible refine iCall ?_ | with_reducible refine iLs0 ?_ | with_reducible refine iLs ?_ | with_reducible refine iSub ?_ | with_reducible refine iSl ?_ | with_reducible refine iSome ?_ | with_reducible refine iNone ?_ | with_reducible refine iLst ?_ | with_reducible refine iTup ?_ | with_reducible refine iDs0 ?_ | with_reducible refine iDs ?_
  | with_reducible refine iAnd ?_ | with_reducible refine iOr ?_ | with_reducible refine iNot ?_ | with_reducible refine iBl ?_ | with_reducible refine iIf ?_ | with_reducible refine iDrop ?_ | with_reducible refine iYes ?_ | with_reducible refine iPar ?_
  | ((with_reducible refine' iAugS ?h1 ?h2); (case h1 => exact ⟨_, rfl⟩))
  | ((with_reducible refine' iPutE ?h1 ?h2 ?h3); (case h1 => rfl); (case h2 => rfl))
  | ((with_reducible refine' iOp2E ?h1 ?h2 ?h3 ?h4); (case h1 => rfl); (case h2 => rfl); (case h3 => walk_at "hf"))
  | ((with_reducible refine' iCallE ?h1 ?h2 ?h3); (case h1 => rfl); (case h2 => walk_at "hf"))
  | with_reducible refine ⟨sz0, ?_⟩ | with_reducible refine ⟨sz1, ?_⟩ | with_reducible refine ⟨sz2, ?_⟩ | with_reducible refine ⟨sz3, ?_⟩ | with_reducible refine ⟨sz4, ?_⟩ | with_reducible refine ⟨sz5, ?_⟩
  | (with_reducible refine ⟨_, rfl, ?_⟩)
  | ((with_reducible refine' ⟨_, ?h1, ?h2⟩); (case h1 => walk_at "hf"))
  | ((with_reducible refine' ⟨⟨_, ?h1⟩, ?h2⟩); (case h1 => rfl))
  | ((with_reducible refine' ⟨_, _, ?h1, ?h2, ?h3⟩); (case h1 => rfl); (case h2 => walk_at "hf"))
  | ((with_reducible refine' ⟨_, _, ?h1, ?h2, ?h3⟩); (case h1 => rfl); (case h2 => rfl))))
section
variable {h : House} {pool : List Int} {t : Tbl}
def zerosC (h : House) : List Nat := List.replicate h.length 0
theorem zeros_d (oh : HOk h) : mulD (.tuple [.int 0]) (.int h.length) = some (cntD (zerosC h)) := by
  have l5 := oh.l5
  refine (if_pos ⟨by simp, by omega, by omega, by decide⟩ : repD _ _ = _).trans ?_
  rw [Int.toNat_natCast]
  unfold cntD zerosC
  congr 2
  rw [List.map_replicate]
  generalize h.length = n
  induction n with
  | zero => rfl
  | succ n ih => rw [List.replicate_succ, List.flatten_cons, ih, List.replicate_succ]; rfl
theorem allnum7f {es : List (D × D)} {pool : List Int} (h : RowsOf es (keysOf es)) (hl : es.length ≤ 100) (hp : ∀ n ∈ allR es (keysOf es), n ∈ pool) (hz : pool.length < 64) : pureFn g_all_numbers [.dict es] (· = .list ((sset (allR es (keysOf es))).map PyData.int)) := by
  unfold g_all_numbers pureFn
  refine run_gives rfl ?_
  unfold b_all_numbers
  have hkl : (keysOf es).length ≤ 100 := by unfold keysOf; rw [List.length_map]; exact hl
  have hlen := allR_len h
  have hb : scanBound = 4096 := rfl
  have hs : sset (ascI (allR es (keysOf es))) = sset (allR es (keysOf es)) := sset_same fun k => (asc_perm _).mem_iff
  refine iRet (iCall (iLs (iV (iFn ?_))))
  repeat walk_at "m1"
  refine iFnP rfl (rows_fn (ls := keysOf es) (.inl rfl) h (by omega)) ?_
  rintro _ rfl
  repeat walk_at "m1"
  refine iCallE rfl (sortSet_of (by rw [(asc_perm _).length_eq]; omega) (by rw [hs]; exact Nat.lt_of_le_of_lt (sset_le hp) hz)) ?_
  rw [hs]
  exact ⟨_, rfl, rfl, rfl⟩
theorem allnum7 (oh : HOk h) (o : TOk h pool t) (hp : pool.length < 64) : pureFn g_all_numbers [t.d] (· = listD t.known) := by
  have l := tlen oh o
  have e : allR (t.map entD) (keysOf (t.map entD)) = t.rows (t.map (·.1)) := by rw [keys_t, allR_t]
  refine pureQ (allnum7f (es := t.map entD) (pool := pool) ?_ (by rw [List.length_map]; omega) ?_ hp) ?_
  · rw [keys_t]; exact rowsOf_t o (names_sub o)
  · rw [e]; exact rows_pool o (names_sub o)
  · rw [e]; rfl
def fallD (h : House) (t : Tbl) : D := .tuple (t.known.map fun n => PyData.tuple [.int n, cntD (t.at h n)])
theorem fall_t (oh : HOk h) (o : TOk h pool t) (hp : pool.length < 64) : pureFn g_fall_of [h.d, t.d] (· = fallD h t) := by
  have kl := known_len o
  unfold g_fall_of pureFn
  refine run_gives rfl ?_
  unfold b_fall_of
  refine iRet (iCall (iLs (iV (iLCm (wIt (iFn (iLs (iPk rfl ?_))))))))
  repeat walk_at "m1"
  refine iFnQ rfl (allnum7 oh o hp) ?_
  refine ⟨_, rfl, Int, t.known, PyData.int, (fun n => .tuple [.int n, cntD (t.at h n)]), rfl, by rw [sizeLine_eq]; omega, rfl, ?_, ?_⟩
  · intro n hn
    refine ⟨_, rfl, ?_⟩
    refine iTup (iDs (iVar rfl (iDs (iFn ?_))))
    repeat walk_at "m1"
    refine iFnQ rfl (counts_at_t oh o n) ?_
    repeat walk_at "m1"
    exact ⟨rfl, rfl⟩
  · repeat walk_at "m1"
    exact ⟨rfl, rfl⟩
theorem lenh : lenC [h.d] = some (.int h.length) := by
  show some (PyData.int (h.map Srt.d).length) = _
  rw [List.length_map]
theorem at_len (oh : HOk h) (n : Int) : (t.at h n).length ≤ 1000 := by
  have := oh.l5
  unfold Tbl.at
  rw [List.length_map]; omega
theorem sizes_len (oh : HOk h) : (t.sizes h).length ≤ 1000 := by
  have := oh.l5
  unfold Tbl.sizes
  rw [List.length_map]; omega
theorem zeros_len (oh : HOk h) : (zerosC h).length ≤ 1000 := by
  have := oh.l5
  unfold zerosC
  rw [List.length_replicate]; omega

end
/-! ### within -/
theorem zip_mapS {f g : Srt → Nat} : ∀ h : List Srt, zipD ((h.map f).map fun n => PyData.int (n : Nat)) ((h.map g).map fun n => PyData.int (n : Nat)) = h.map fun s => .tuple [.int (f s : Nat), .int (g s : Nat)]
  | [] => rfl
  | s :: h => by
    have ih := zip_mapS (f := f) (g := g) h
    unfold zipD at ih ⊢
    rw [List.map_cons, List.map_cons, List.map_cons, List.map_cons, List.zip_cons_cons, List.map_cons, ih, List.map_cons]
theorem within_t {h : House} (l5 : h.length ≤ 5) {f g : Srt → Nat} (hfg : ∀ s ∈ h, f s ≤ g s) : pureFn g__law_within [cntD (h.map f), cntD (h.map g)] (· = .bool true) := by
  unfold g__law_within pureFn
  refine run_gives rfl ?_
  unfold b__law_within
  refine iRet (iOp2 (iV (iLCf (iZpL (iVar rfl (iVar rfl ⟨_, _, _, _, rfl, rfl, ?_⟩))))))
  rw [zip_mapS]
  refine ⟨Srt, h, (fun s => .tuple [.int (f s : Nat), .int (g s : Nat)]), (fun _ => false), (fun _ => .int 1), rfl, by rw [sizeLine_eq]; omega, rfl, ?_, ?_⟩
  · intro s hs
    refine ⟨_, rfl, ?_⟩
    repeat walk_at "m1"
    have := hfg s hs
    refine ⟨decide_eq_false (by omega), ?_⟩
    rw [if_neg Bool.false_ne_true]
    rfl
  · rw [List.filter_eq_nil_iff.mpr (fun _ _ => by simp), List.map_nil]
    repeat walk_at "m1"
    refine iOp2E rfl rfl (show eqD (.list []) (.list []) = some (.bool true) from eqD_self rfl (by decide)) ?_
    exact ⟨_, rfl, rfl, rfl⟩
/-! ### rows put together -/
theorem filter_two {p q r : Int → Bool} : ∀ {row : List Int}, (∀ x ∈ row, p x = (q x || r x) ∧ (q x && r x) = false) → (row.filter p).length = (row.filter q).length + (row.filter r).length
  | [], _ => rfl
  | x :: row, h => by
    have ih := filter_two (row := row) fun y hy => h y (List.mem_cons_of_mem _ hy)
    obtain ⟨h1, h2⟩ := h x (List.mem_cons_self ..)
    rw [List.filter_cons, List.filter_cons, List.filter_cons, h1]
    cases hq : q x <;> cases hr : r x <;> rw [hq, hr] at h2 <;> simp [ih] <;> first | omega | (cases h2)
theorem filter_perm {p q r : Int → Bool} : ∀ {row : List Int}, (∀ x ∈ row, p x = (q x || r x) ∧ (q x && r x) = false) → (row.filter p).Perm (row.filter q ++ row.filter r)
  | [], _ => .nil
  | x :: row, h => by
    have ih := filter_perm (row := row) fun y hy => h y (List.mem_cons_of_mem _ hy)
    obtain ⟨h1, h2⟩ := h x (List.mem_cons_self ..)
    rw [List.filter_cons, List.filter_cons, List.filter_cons, h1]
    cases hq : q x <;> cases hr : r x <;> rw [hq, hr] at h2
    · simpa using ih
    · simpa using (List.Perm.cons x ih).trans List.perm_middle.symm
    · simpa using List.Perm.cons x ih
    · cases h2
theorem filter_rep (n : Int) : ∀ row : List Int, row.filter (fun x => decide (x = n)) = List.replicate (row.filter fun x => decide (x = n)).length n
  | [] => rfl
  | x :: row => by
    have ih := filter_rep n row
    rw [List.filter_cons]
    by_cases q : x = n
    · rw [if_pos (by simpa using q), List.length_cons, List.replicate_succ, ← ih, q]
    · rw [if_neg (by simpa using q)]
      exact ih
/-- how many lie at a number's follower or above -/
def gB (row : List Int) : Option Int → Nat
  | some m => geN row m
  | none => 0
theorem row_step {row proc K : List Int} {n : Int} (asc : row.Pairwise (· ≤ ·)) (pw : (proc ++ n :: K).Pairwise (· < ·)) (sub : ∀ x ∈ row, x ∈ proc ++ n :: K) :
    gB row K.head? ≤ geN row n ∧ row.filter (fun x => decide (x ∈ proc ++ [n])) = row.filter (fun x => decide (x ∈ proc)) ++ List.replicate (geN row n - gB row K.head?) n := by
  rw [List.pairwise_append, List.pairwise_cons] at pw
  obtain ⟨_, ⟨pK, pwK⟩, pP⟩ := pw
  have where_ : ∀ x ∈ row, x ∈ proc ∨ x = n ∨ x ∈ K := fun x hx => by
    rcases List.mem_append.mp (sub x hx) with z | z
    · exact .inl z
    · exact .inr (List.mem_cons.mp z)
  have hP : ∀ x ∈ proc, x < n := fun x hx => pP x hx n (List.mem_cons_self ..)
  have cnt : geN row n = (row.filter fun x => decide (x = n)).length + gB row K.head? := by
    cases K with
    | nil =>
      show _ = _ + 0
      unfold geN
      rw [Nat.add_zero]
      congr 1
      refine List.filter_congr fun x hx => ?_
      rw [Bool.eq_iff_iff, decide_eq_true_iff, decide_eq_true_iff]
      rcases where_ x hx with z | z | z
      · have := hP x z; omega
      · omega
      · cases z
    | cons m K =>
      show geN row n = _ + geN row m
      have nm : n < m := pK m (List.mem_cons_self ..)
      rw [List.pairwise_cons] at pwK
      unfold geN
      refine filter_two fun x hx => ?_
      constructor
      · rw [Bool.eq_iff_iff, Bool.or_eq_true, decide_eq_true_iff, decide_eq_true_iff, decide_eq_true_iff]
        rcases where_ x hx with z | z | z
        · have := hP x z; omega
        · omega
        · rcases List.mem_cons.mp z with rfl | z
          · omega
          · have := pwK.1 x z; omega
      · rw [Bool.and_eq_false_iff, decide_eq_false_iff_not, decide_eq_false_iff_not]
        omega
  refine ⟨by omega, ?_⟩
  rw [show geN row n - gB row K.head? = (row.filter fun x => decide (x = n)).length by omega, ← filter_rep]
  refine asc_unique (filter_perm fun x hx => ?_) (asc.sublist List.filter_sublist) ?_
  · constructor
    · rw [Bool.eq_iff_iff, Bool.or_eq_true, decide_eq_true_iff, decide_eq_true_iff, decide_eq_true_iff, List.mem_append, List.mem_singleton]
    · rw [Bool.and_eq_false_iff, decide_eq_false_iff_not, decide_eq_false_iff_not]
      by_cases q : x ∈ proc
      · have := hP x q
        exact .inr (by omega)
      · exact .inl q
  · rw [List.pairwise_append]
    refine ⟨asc.sublist List.filter_sublist, asc.sublist List.filter_sublist, fun a ha b hb => ?_⟩
    have h1 := of_decide_eq_true (List.mem_filter.mp ha).2
    have h2 := of_decide_eq_true (List.mem_filter.mp hb).2
    have := hP a h1
    omega
/-! ### the table of a fall -/
def stateE (h : House) (R : Str → List Int) : List (D × D) := h.map fun s => (PyData.str s.nm, rowD (R s.nm))
def stateD (h : House) (R : Str → List Int) : D := .dict (stateE h R)
def updR (R : Str → List Int) (x : Str) (r : List Int) : Str → List Int := fun y => if y = x then r else R y
theorem state_tbl (h : House) (R : Str → List Int) : stateE h R = (h.map fun s => (s.nm, R s.nm)).map entD := by
  unfold stateE
  rw [List.map_map]
  rfl
theorem state_ix {h : House} (oh : HOk h) {R : Str → List Int} {s : Srt} (hs : s ∈ h) : ixD (stateD h R) (.str s.nm) = some (rowD (R s.nm)) := by
  show (if isKey (.str s.nm) = true then lookD (stateE h R) (.str s.nm) else none) = _
  rw [if_pos (show isKey (.str s.nm) = true from rfl), state_tbl, look_t]
  have n : ((h.map fun s => (s.nm, R s.nm)).map (·.1)).Nodup := by
    rw [List.map_map]
    exact oh.nodup
  have := look_of_mem n (List.mem_map_of_mem (f := fun s : Srt => (s.nm, R s.nm)) hs)
  rw [show List.lookup s.nm (h.map fun s => (s.nm, R s.nm)) = some (R s.nm) from this]
  rfl
theorem state_put {h : House} (l5 : h.length ≤ 5) {R : Str → List Int} {s : Srt} (hs : s ∈ h) (r : List Int) : putD (stateD h R) (.str s.nm) (rowD r) = some (stateD h (updR R s.nm r)) := by
  show (if isKey (.str s.nm) && decide ((stateE h R).length < sizeLine) then some (PyData.dict (CF.putL (stateE h R) (.str s.nm) (rowD r))) else none) = _
  rw [if_pos (by unfold stateE; rw [List.length_map, decide_eq_true (by rw [sizeLine_eq]; omega)]; rfl)]
  unfold CF.putL
  rw [if_pos]
  · unfold stateD stateE
    rw [List.map_map]
    congr 2
    refine List.map_congr_left fun u _ => ?_
    show (if keyEq (.str u.nm) (.str s.nm) = true then ((PyData.str u.nm), rowD r) else (.str u.nm, rowD (R u.nm))) = (.str u.nm, rowD (updR R s.nm r u.nm))
    unfold updR
    rw [keyEq_str]
    by_cases q : u.nm = s.nm
    · rw [if_pos (decide_eq_true q), if_pos q]
    · rw [if_neg (by simpa using q), if_neg q]
  · rw [List.any_eq_true]
    refine ⟨(.str s.nm, rowD (R s.nm)), List.mem_map_of_mem (f := fun s : Srt => (PyData.str s.nm, rowD (R s.nm))) hs, ?_⟩
    rw [keyEq_str]
    exact decide_eq_true rfl
theorem iZpL3 {ρ : List CF.Slot} {m m2 m3 : M D} {Q : List D → List CF.Slot → Prop} (h : wp m ρ fun d ρ1 => wp m2 ρ1 fun e ρ2 => wp m3 ρ2 fun f ρ3 => ∃ b1 xs b2 ys b3 zs, seqD d = some (b1, xs) ∧ seqD e = some (b2, ys) ∧ seqD f = some (b3, zs) ∧ Q (zipD3 xs ys zs) ρ3) : wp (mZp3 m m2 m3) ρ Q := by
  unfold mZp3
  refine wp_bind.mpr (h.mono fun d ρ1 q => wp_bind.mpr (q.mono fun e ρ2 q => wp_bind.mpr (q.mono fun f ρ3 ⟨b1, xs, b2, ys, b3, zs, h1, h2, h3, q⟩ => wp_lift.mpr ⟨_, ?_, q⟩)))
  rw [h1, h2, h3]
  rfl
theorem zip3_mapS {e : Srt → D} {f g : Srt → Nat} : ∀ h : List Srt, zipD3 (h.map e) ((h.map f).map fun n => PyData.int (n : Nat)) ((h.map g).map fun n => PyData.int (n : Nat)) = h.map fun s => .tuple [e s, .int (f s : Nat), .int (g s : Nat)]
  | [] => rfl
  | s :: h => by
    have ih := zip3_mapS (e := e) (f := f) (g := g) h
    unfold zipD3 at ih ⊢
    rw [List.map_cons, List.map_cons, List.map_cons, List.map_cons, List.map_cons, List.zip_cons_cons, List.zip_cons_cons, List.map_cons, ih, List.map_cons]
def stepsZ : List Int → List (Int × Option Int)
  | [] => []
  | n :: K => (n, K.head?) :: stepsZ K
def behindC (h : House) (t : Tbl) : Option Int → List Nat := fun o => h.map fun s => gB (t.row s.nm) o
theorem behind_some (h : House) (t : Tbl) (m : Int) : behindC h t (some m) = t.at h m := rfl
theorem behind_none (h : House) (t : Tbl) : behindC h t none = zerosC h := by
  unfold behindC zerosC
  exact List.map_const' ..
def stepD (h : House) (t : Tbl) (p : Int × Option Int) : D := .tuple [.tuple [.int p.1, cntD (t.at h p.1)], cntD (behindC h t p.2)]
theorem steps_zip (h : House) (t : Tbl) : ∀ K : List Int, zipD (K.map fun n => .tuple [.int n, cntD (t.at h n)]) ((K.drop 1).map (fun n => cntD (t.at h n)) ++ [cntD (zerosC h)]) = (stepsZ K).map (stepD h t)
  | [] => rfl
  | [n] => by
    show [_] = [_]
    unfold stepD
    rw [show behindC h t ([] : List Int).head? = zerosC h from behind_none h t]
  | n :: m :: K => by
    have ih := steps_zip h t (m :: K)
    unfold zipD at ih ⊢
    rw [List.map_cons]
    show ((_ :: _ : List D).zip (cntD (t.at h m) :: (((m :: K).drop 1).map (fun n => cntD (t.at h n)) ++ [cntD (zerosC h)]))).map _ = _
    rw [List.zip_cons_cons, List.map_cons, ih]
    rfl
theorem cut_1 (xs : List D) : cutL xs (some 1) none = xs.drop 1 := by
  unfold cutL
  rw [show (1 : Int) = ((1 : Nat) : Int) from rfl, HT.sIx_nat, HT.sIx_none]
  cases xs with
  | nil => rfl
  | cons x xs => simp
theorem table_of_t {h : House} {t : Tbl} (oh : HOk h) (o : TOk h t.known t) (kl : t.known.length ≤ 7) : pureFn g_table_of [h.d, fallD h t] (· = (t.led h id).d) := by
  have l5 := oh.l5
  have kn : t.known.Pairwise (· < ·) := pw_sset _
  unfold g_table_of pureFn
  refine run_gives rfl ?_
  unfold b_table_of
  refine iSq (iPar2 (iDCm (wIt (iVar rfl ?_))))
  refine ⟨_, rfl, Srt, h, Srt.d, (fun s => .str s.nm), (fun _ => rowD []), rfl, by rw [sizeLine_eq]; omega, rfl, ?_, ?_⟩
  · intro s hs
    refine ⟨rfl, _, rfl, ?_⟩
    refine iOp2 ?_
    repeat walk_at "m1"
    refine iOp2E rfl rfl (show ixD s.d (.int 0) = some (.str s.nm) from rfl) ⟨rfl, ?_⟩
    refine iTup ?_
    repeat walk_at "m1"
    exact ⟨rfl, rfl⟩
  rw [merge0 (apart_str (k := Srt.nm) (f := fun _ => rowD []) oh.nodup)]
  refine iOp2 (iV (iTup ?_))
  repeat walk_at "m1"
  refine iCallE rfl lenh ?_
  refine iOp2E rfl rfl (zeros_d oh) ?_
  refine iThn (iNorm (ρ' := [.dat h.d, .dat (fallD h t), .own (stateD h fun _ => []), .dat (cntD (zerosC h)), .un, .un, .un, .un, .un, .un, .un]) rfl ?_)
  refine iSq (iSet (iOp2 (iV (iLCm (wIt (iSl (iPk rfl ?_)))))))
  repeat walk_at "m1"
  rw [cut_1, ← List.map_drop]
  refine ⟨Int, t.known.drop 1, (fun n => .tuple [.int n, cntD (t.at h n)]), (fun n => cntD (t.at h n)), rfl, by rw [sizeLine_eq, List.length_drop]; omega, rfl, ?_, ?_⟩
  · intro n hn
    refine ⟨_, rfl, ?_⟩
    repeat walk_at "m1"
    exact ⟨rfl, rfl⟩
  repeat walk_at "m1"
  refine iOp2E rfl rfl (addL_list (by rw [List.length_map, List.length_singleton, List.length_drop, sizeLine_eq]; omega)) ?_
  refine iThn (iSq (iForT (iZpL (iVar rfl (iVar rfl ⟨_, _, _, _, rfl, rfl, ?_⟩)))))
  rw [steps_zip]
  refine ⟨Int × Option Int, stepsZ t.known, stepD h t, fun rest ρ => ∃ (proc K : List Int) (R : Str → List Int) (s4 s6 s7 s8 s9 s10 : CF.Slot), rest = stepsZ K ∧ proc ++ K = t.known ∧ (∀ x ∈ h.nms, R x = (t.row x).filter fun y => decide (y ∈ proc)) ∧ ρ = [.dat h.d, .dat (fallD h t), .own (stateD h R), .dat (cntD (zerosC h)), s4, .dat (.list ((t.known.drop 1).map (fun n => cntD (t.at h n)) ++ [cntD (zerosC h)])), s6, s7, s8, s9, s10], rfl, ⟨[], t.known, (fun _ => []), _, _, _, _, _, _, rfl, rfl, fun x _ => by simp, rfl⟩, ?_, ?_⟩
  · rintro ρ ⟨proc, K, R, s4, s6, s7, s8, s9, s10, e1, e2, hR, rfl⟩
    have hK : K = [] := by
      cases K with
      | nil => rfl
      | cons n K => cases e1
    subst hK
    rw [List.append_nil] at e2
    subst e2
    refine iThn (iSq (iRel rfl ?_))
    refine iThn (iRet (iVar rfl ?_))
    refine ⟨_, rfl, rfl, ?_⟩
    show stateD h R = (t.led h id).d
    unfold stateD Tbl.d Tbl.led
    rw [state_tbl]
    congr 2
    refine List.map_congr_left fun s hs => ?_
    have hx : s.nm ∈ h.nms := List.mem_map_of_mem hs
    rw [hR s.nm hx, List.map_id, List.filter_eq_self.mpr fun y hy => decide_eq_true (o.mem hx y hy)]
  · rintro ⟨n, nx⟩ rest ρ hmem ⟨proc, K, R, s4, s6, s7, s8, s9, s10, e1, e2, hR, rfl⟩
    obtain ⟨K, rfl, rfl, rfl⟩ : ∃ K', K = n :: K' ∧ nx = K'.head? ∧ rest = stepsZ K' := by
      cases K with
      | nil => cases e1
      | cons m K =>
        have e1 : (n, nx) :: rest = (m, K.head?) :: stepsZ K := e1
        rw [List.cons.injEq, Prod.mk.injEq] at e1
        obtain ⟨⟨rfl, rfl⟩, rfl⟩ := e1
        exact ⟨K, rfl, rfl, rfl⟩
    have step : ∀ s ∈ h, gB (t.row s.nm) K.head? ≤ geN (t.row s.nm) n ∧ (t.row s.nm).filter (fun x => decide (x ∈ proc ++ [n])) = (t.row s.nm).filter (fun x => decide (x ∈ proc)) ++ List.replicate (geN (t.row s.nm) n - gB (t.row s.nm) K.head?) n := fun s hs => by
      have hx : s.nm ∈ h.nms := List.mem_map_of_mem hs
      exact row_step (o.asc _ (o.row_mem hx).2) (by rw [e2]; exact kn) (by rw [e2]; exact o.mem hx)
    refine ⟨_, rfl, iNorm (ρ' := [.dat h.d, .dat (fallD h t), .own (stateD h R), .dat (cntD (zerosC h)), s4, .dat (.list ((t.known.drop 1).map (fun n => cntD (t.at h n)) ++ [cntD (zerosC h)])), .dat (.int n), .dat (cntD (t.at h n)), .dat (cntD (behindC h t K.head?)), s9, s10]) rfl ?_⟩
    refine iForT (iZpL3 (iVar rfl (iVar rfl (iVar rfl ⟨_, _, _, _, _, _, rfl, rfl, rfl, ?_⟩))))
    refine ⟨Srt, h, (fun s => .tuple [s.d, .int (geN (t.row s.nm) n : Nat), .int (gB (t.row s.nm) K.head? : Nat)]), fun rest ρ => ∃ (pre : House) (R' : Str → List Int) (s4 s9 s10 : CF.Slot), pre ++ rest = h ∧ (∀ s ∈ rest, R' s.nm = R s.nm) ∧ (∀ s ∈ pre, R' s.nm = R s.nm ++ List.replicate (geN (t.row s.nm) n - gB (t.row s.nm) K.head?) n) ∧ ρ = [.dat h.d, .dat (fallD h t), .own (stateD h R'), .dat (cntD (zerosC h)), s4, .dat (.list ((t.known.drop 1).map (fun n => cntD (t.at h n)) ++ [cntD (zerosC h)])), .dat (.int n), .dat (cntD (t.at h n)), .dat (cntD (behindC h t K.head?)), s9, s10], zip3_mapS h, ⟨[], R, s4, s9, s10, rfl, fun _ _ => rfl, (fun _ h => nomatch h), rfl⟩, ?_, ?_⟩
    · rintro ρ ⟨pre, R', s4, s9, s10, e, hr, hp, rfl⟩
      rw [List.append_nil] at e
      subst e
      refine ⟨proc ++ [n], K, R', s4, _, _, _, s9, s10, rfl, by rw [← e2]; simp, fun x hx => ?_, rfl⟩
      obtain ⟨s, hs, rfl⟩ := List.mem_map.mp hx
      rw [hp s hs, hR s.nm hx, (step s hs).2]
    · rintro s rest ρ hs ⟨pre, R', s4, s9, s10, e, hr, hp, rfl⟩
      have hx : s.nm ∈ h.nms := List.mem_map_of_mem hs
      have l9 := o.len hx
      obtain ⟨le, _⟩ := step s hs
      have gl : geN (t.row s.nm) n ≤ 9 := by
        unfold geN
        exact Nat.le_trans (List.length_filter_le ..) l9
      have Rl : (R' s.nm).length ≤ 9 := by
        rw [hr s (List.mem_cons_self ..), hR s.nm hx]
        exact Nat.le_trans (List.length_filter_le ..) l9
      refine ⟨_, rfl, iNorm (ρ' := [.dat h.d, .dat (fallD h t), .own (stateD h R'), .dat (cntD (zerosC h)), .dat s.d, .dat (.list ((t.known.drop 1).map (fun n => cntD (t.at h n)) ++ [cntD (zerosC h)])), .dat (.int n), .dat (cntD (t.at h n)), .dat (cntD (behindC h t K.head?)), .dat (.int (geN (t.row s.nm) n : Nat)), .dat (.int (gB (t.row s.nm) K.head? : Nat))]) rfl ?_⟩
      refine iSub (iOp2 (iV (iOp2 (iPk rfl (iV (iOp2 ?_))))))
      repeat walk_at "m1"
      refine iOp2E rfl rfl (show ixD s.d (.int 0) = some (.str s.nm) from rfl) ?_
      refine iOp2E rfl rfl (state_ix oh hs) ?_
      refine iV (iOp2 (iV (iTup (iDs (iVar rfl ?_)))))
      repeat walk_at "m1"
      refine iOp2E rfl rfl (show mulD (.tuple [.int n]) (.int ((geN (t.row s.nm) n : Nat) - (gB (t.row s.nm) K.head? : Nat))) = some (rowD (List.replicate (geN (t.row s.nm) n - gB (t.row s.nm) K.head?) n)) from ?_) ?_
      · refine (if_pos ⟨by simp, by omega, by omega, show 1 ≤ 1000 by decide⟩ : repD _ _ = _).trans ?_
        rw [show ((geN (t.row s.nm) n : Nat) - (gB (t.row s.nm) K.head? : Nat) : Int).toNat = geN (t.row s.nm) n - gB (t.row s.nm) K.head? by omega]
        unfold rowD
        congr 2
        generalize geN (t.row s.nm) n - gB (t.row s.nm) K.head? = k
        induction k with
        | zero => rfl
        | succ k ih => rw [List.replicate_succ, List.replicate_succ, List.flatten_cons, List.map_cons, ← ih]; rfl
      refine iOp2E rfl rfl (show addD (rowD (R' s.nm)) (rowD (List.replicate (geN (t.row s.nm) n - gB (t.row s.nm) K.head?) n)) = some (rowD (R' s.nm ++ List.replicate (geN (t.row s.nm) n - gB (t.row s.nm) K.head?) n)) from ?_) ?_
      · refine (if_pos ?_ : addD (.tuple ((R' s.nm).map PyData.int)) (.tuple ((List.replicate (geN (t.row s.nm) n - gB (t.row s.nm) K.head?) n).map PyData.int)) = some (.tuple ((R' s.nm).map PyData.int ++ (List.replicate (geN (t.row s.nm) n - gB (t.row s.nm) K.head?) n).map PyData.int))).trans ?_
        · rw [List.length_map, List.length_map, List.length_replicate, sizeLine_eq]; omega
        · unfold rowD
          rw [List.map_append]
      refine ⟨⟨_, rfl⟩, iOp2 ?_⟩
      repeat walk_at "m1"
      refine iOp2E rfl rfl (show ixD s.d (.int 0) = some (.str s.nm) from rfl) ?_
      refine iPutE rfl (state_put l5 hs _) ?_
      have nd := oh.nodup
      rw [← e] at nd
      unfold House.nms at nd
      rw [List.map_append, List.map_cons, List.nodup_append, List.nodup_cons] at nd
      refine ⟨pre ++ [s], _, _, _, _, by rw [← e]; simp, fun u hu => ?_, fun u hu => ?_, rfl⟩
      · have : u.nm ≠ s.nm := fun q => nd.2.1.1 (q ▸ List.mem_map_of_mem hu)
        unfold updR
        rw [if_neg this]
        exact hr u (List.mem_cons_of_mem _ hu)
      · unfold updR
        rcases List.mem_append.mp hu with z | z
        · have : u.nm ≠ s.nm := fun q => nd.2.2 _ (List.mem_map_of_mem z) s.nm (List.mem_cons_self ..) q
          rw [if_neg this]
          exact hp u z
        · rw [List.mem_singleton.mp z, if_pos rfl, hr s (List.mem_cons_self ..)]
end Qk08
end
section
namespace Qk08
open PySem CF
local macro_rules | `(tactic| walk_at "hf") => `(tactic| (first
  | with_reducible exact eqD_int | with_reducible exact eqD_str | with_reducible exact neD_int | with_reducible exact addD_int | with_reducible exact addI_int | with_reducible exact subD_int | with_reducible exact geD_int | with_reducible exact gtD_int | with_reducible exact leD_int | with_reducible exact ltD_int | with_reducible exact modD_of (by decide) | with_reducible exact mulD_r (by decide) | with_reducible exact mulD_l (by decide) | with_reducible exact powD_of (by decide) | with_reducible exact ix0 | ((with_reducible show ixD (.list _) (.int _) = _); rfl) | ((with_reducible show ixD (.tuple _) (.int _) = _); rfl)
  | with_reducible exact intC_int | with_reducible exact lenC_list | with_reducible exact lenC_tuple | with_reducible exact tupleC_list | with_reducible exact listC_tuple | with_reducible exact listC_dict | with_reducible exact isN_none | with_reducible exact isN_int | with_reducible exact notN_none | with_reducible exact notN_int | with_reducible exact min2_int | with_reducible exact max2_int | with_reducible exact slD_list | with_reducible exact slD_tuple | with_reducible exact neD_str | with_reducible exact max2_int))
local macro_rules | `(tactic| walk_at "m1") => `(tactic| (first
  | with_reducible refine iSq ?_ | with_reducible refine iThn ?_ | with_reducible refine iIfS ?_ | with_reducible refine iSet ?_ | with_reducible refine iSetB ?_ | with_reducible refine iSetO ?_ | with_reducible refine iRet ?_ | with_reducible refine iNx ?_ | with_reducible refine iThnR ?_
  | with_reducible refine iTest ?_ | with_reducible refine iOp2 ?_ | ((with_reducible refine' iPk ?h1 ?h2); (case h1 => rfl)) | with_reducible refine iV ?_ | with_reducible refine iC ?_ | ((with_reducible refine' iVar ?h1 ?h2); (case h1 => rfl))
  | with_reducible refine iCall ?_ | with_reducible refine iLs0 ?_ | with_reducible refine iLs ?_ | with_reducible refine iSub ?_ | with_reducible refine iSl ?_ | with_reducible refine iSome ?_ | with_reducible refine iNone ?_ | with_reducible refine iLst ?_ | with_reducible refine iTup ?_ | with_reducible refine iDs0 ?_ | with_reducible refine iDs ?_
  | with_reducible refine iAnd ?_ | with_reducible refine iOr ?_ | with_reducible refine iNot ?_ | with_reducible refine iBl ?_ | with_reducible refine iIf ?_ | with_reducible refine iDrop ?_ | with_reducible refine iYes ?_ | with_reducible refine iPar ?_
  | ((with_reducible refine' iAugS ?h1 ?h2); (case h1 => exact ⟨_, rfl⟩))
  | ((with_reducible refine' iPutE ?h1 ?h2 ?h3); (case h1 => rfl); (case h2 => rfl))
  | ((with_reducible refine' iOp2E ?h1 ?h2 ?h3 ?h4); (case h1 => rfl); (case h2 => rfl); (case h3 => walk_at "hf"))
  | ((with_reducible refine' iCallE ?h1 ?h2 ?h3); (case h1 => rfl); (case h2 => walk_at "hf"))
  | with_reducible refine ⟨sz0, ?_⟩ | with_reducible refine ⟨sz1, ?_⟩ | with_reducible refine ⟨sz2, ?_⟩ | with_reducible refine ⟨sz3, ?_⟩ | with_reducible refine ⟨sz4, ?_⟩ | with_reducible refine ⟨sz5, ?_⟩
  | (with_reducible refine ⟨_, rfl, ?_⟩)
  | ((with_reducible refine' ⟨_, ?h1, ?h2⟩); (case h1 => walk_at "hf"))
  | ((with_reducible refine' ⟨⟨_, ?h1⟩, ?h2⟩); (case h1 => rfl))
  | ((with_reducible refine' ⟨_, _, ?h1, ?h2, ?h3⟩); (case h1 => rfl); (case h2 => walk_at "hf"))
  | ((with_reducible refine' ⟨_, _, ?h1, ?h2, ?h3⟩); (case h1 => rfl); (case h2 => rfl))))
theorem geN_anti {row : List Int} {n m : Int} (h : n ≤ m) : geN row m ≤ geN row n := by
  unfold geN
  rw [show row.filter (fun x => decide (m ≤ x)) = (row.filter fun x => decide (n ≤ x)).filter fun x => decide (m ≤ x) by
    rw [List.filter_filter]
    refine List.filter_congr fun x _ => ?_
    by_cases q : m ≤ x
    · simp [q]; omega
    · simp [q]]
  exact List.length_filter_le ..
theorem zip_same {α : Type} {e f : α → D} : ∀ xs : List α, zipD (xs.map e) (xs.map f) = xs.map fun x => .tuple [e x, f x]
  | [] => rfl
  | x :: xs => by
    have ih := zip_same (e := e) (f := f) xs
    unfold zipD at ih ⊢
    rw [List.map_cons, List.map_cons, List.zip_cons_cons, List.map_cons, ih, List.map_cons]
def rawN (t : Tbl) : List Int := (t.known.map fun n => [n - 1, n, n + 1]).flatten ++ [0]
def numsN (t : Tbl) : List Int := sset (rawN t)
theorem raw_len : ∀ ks : List Int, (ks.map fun n => [n - 1, n, n + 1]).flatten.length = 3 * ks.length
  | [] => rfl
  | k :: ks => by
    rw [List.map_cons, List.flatten_cons, List.length_append, raw_len ks, List.length_cons]
    simp only [List.length_cons, List.length_nil]
    omega
theorem raw_mem {t : Tbl} {n : Int} (h : n ∈ t.known) : n + 1 ∈ numsN t := by
  refine mem_sset.mpr (List.mem_append_left _ (List.mem_flatten.mpr ⟨[n - 1, n, n + 1], List.mem_map_of_mem (f := fun n : Int => [n - 1, n, n + 1]) h, by simp⟩))
section
variable {h : House} {pool : List Int} {t : Tbl}
theorem at_last (oh : HOk h) (o : TOk h t.known t) {ms : List Int} {N : Int} (e : numsN t = ms ++ [N]) : t.at h N = zerosC h := by
  unfold Tbl.at zerosC
  rw [← List.map_const' ..]
  refine List.map_congr_left fun s hs => ?_
  have hx : s.nm ∈ h.nms := List.mem_map_of_mem hs
  unfold geN
  rw [List.filter_eq_nil_iff.mpr]
  · rfl
  · intro x hx'
    have hk := raw_mem (o.mem hx x hx')
    have pw : (numsN t).Pairwise (· < ·) := pw_sset _
    rw [e] at hk pw
    rw [List.pairwise_append] at pw
    have : x + 1 ≤ N := by
      rcases List.mem_append.mp hk with z | z
      · have := pw.2.2 _ z N (List.mem_singleton.mpr rfl); omega
      · rw [List.mem_singleton.mp z]; exact Int.le_refl _
    simp
    omega
theorem right_t (oh : HOk h) (o : TOk h t.known t) (kl : t.known.length ≤ 7) {fs : List Fm} (hf : ∀ f ∈ fs, FOk h 3 3 f) (fl : fs.length ≤ 10) : pureFn g__law_table_right [h.d, t.d, .list (fs.map Fm.d)] (· = .bool true) := by
  have l5 := oh.l5
  have rl : (rawN t).length ≤ 22 := by
    unfold rawN
    rw [List.length_append, raw_len, List.length_singleton]
    omega
  have nl : (numsN t).length ≤ 22 := Nat.le_trans (sset_le (pool := rawN t) fun n hn => hn) rl
  have npw : (numsN t).Pairwise (· < ·) := pw_sset _
  unfold g__law_table_right pureFn
  refine run_gives rfl ?_
  unfold b__law_table_right
  refine iSq (iSet (iCall (iLs (iV (iFn (iLs (iV (iOp2 ?_))))))))
  refine iV (iLCm (wIt (iFn ?_)))
  repeat walk_at "m1"
  refine iFnQ rfl (known_t oh o (by omega)) ?_
  refine ⟨_, rfl, Int, t.known, PyData.int, (fun n => .list [.int (n - 1), .int n, .int (n + 1)]), rfl, by rw [sizeLine_eq]; omega, rfl, ?_, ?_⟩
  · intro n hn
    refine ⟨_, rfl, ?_⟩
    refine iLst (iDs (iOp2 ?_))
    repeat walk_at "m1"
    exact ⟨rfl, rfl⟩
  refine iV (iLst (iDs (iLst ?_)))
  repeat walk_at "m1"
  refine iOp2E rfl rfl (addL_list (by rw [List.length_map, List.length_singleton, sizeLine_eq]; omega)) ?_
  repeat walk_at "m1"
  have ef : ((t.known.map fun n => [PyData.int (n - 1), .int n, .int (n + 1)]) ++ [[PyData.int 0]]).flatten = (rawN t).map PyData.int := by
    unfold rawN
    rw [List.flatten_append, List.map_append, List.map_flatten, List.map_map]
    rfl
  refine iFnQ rfl (flat_fn (t := .list (t.known.map (fun n => PyData.list [.int (n - 1), .int n, .int (n + 1)]) ++ [.list [.int 0]])) (rows := t.known.map (fun n => PyData.list [.int (n - 1), .int n, .int (n + 1)]) ++ [.list [.int 0]]) (xss := (t.known.map fun n => [PyData.int (n - 1), .int n, .int (n + 1)]) ++ [[PyData.int 0]]) rfl (by rw [List.map_append, List.map_map, List.map_append, List.map_map]; rfl) (by rw [ef, List.length_map, sizeLine_eq]; omega)) ?_
  rw [ef]
  repeat walk_at "m1"
  refine iCallE rfl (sortSet_of (ns := rawN t) (by have hb : scanBound = 4096 := rfl; omega) (show (numsN t).length < 64 by omega)) ?_
  refine iThn (iNorm (ρ' := [.dat h.d, .dat t.d, .dat (.list (fs.map Fm.d)), .dat (listD (numsN t)), .un, .un, .un, .un, .un, .un, .un]) rfl ?_)
  refine iSq (iSet (iLCm (wIt (iVar rfl ?_))))
  refine ⟨_, rfl, Int, numsN t, PyData.int, (fun n => cntD (t.at h n)), rfl, by rw [sizeLine_eq]; omega, rfl, ?_, ?_⟩
  · intro n hn
    refine ⟨_, rfl, ?_⟩
    refine iFn ?_
    repeat walk_at "m1"
    refine iFnQ rfl (counts_at_t oh o n) ⟨rfl, rfl⟩
  refine iThn (iSq (iSet (iFn ?_)))
  repeat walk_at "m1"
  refine iFnQ rfl (sizes_t oh o) ?_
  refine iThn (iSq (iForT (wIt (iVar rfl ?_))))
  refine ⟨_, rfl, Int, numsN t, (fun n => cntD (t.at h n)), fun rest ρ => ∃ (A : Srt → Nat) (s8 : CF.Slot), ρ = [.dat h.d, .dat t.d, .dat (.list (fs.map Fm.d)), .dat (listD (numsN t)), .un, .dat (.list ((numsN t).map fun n => cntD (t.at h n))), .un, .dat (cntD (h.map A)), s8, .un, .un] ∧ rest.Pairwise (· < ·) ∧ ∀ s ∈ h, ∀ n ∈ rest, geN (t.row s.nm) n ≤ A s, rfl, ⟨(fun s => (t.row s.nm).length), _, rfl, npw, fun s _ n _ => List.length_filter_le ..⟩, ?_, ?_⟩
  rotate_left
  · rintro n rest ρ hn ⟨A, s8, rfl, pw, hA⟩
    rw [List.pairwise_cons] at pw
    refine ⟨_, rfl, ?_⟩
    refine iSq (iIfS (iNot (iTest (iFn ?_))))
    repeat walk_at "m1"
    refine iFnQ rfl (within_t (f := fun s => geN (t.row s.nm) n) (g := A) l5 fun s hs => hA s hs n (List.mem_cons_self ..)) ?_
    refine ⟨true, rfl, iteF ?_⟩
    refine iNx (iThn (iSet (iVar rfl ?_)))
    exact ⟨(fun s => geN (t.row s.nm) n), .dat (cntD (t.at h n)), rfl, pw.2, fun s hs m hm => geN_anti (Int.le_of_lt (pw.1 m hm))⟩
  rintro ρ ⟨A, s8, rfl, _, _⟩
  obtain ⟨ms, N, eN⟩ : ∃ ms N, numsN t = ms ++ [N] := by
    have h0 : (0 : Int) ∈ numsN t := mem_sset.mpr (List.mem_append_right _ (List.mem_singleton.mpr rfl))
    exact ⟨(numsN t).dropLast, (numsN t).getLast (List.ne_nil_of_mem h0), (List.dropLast_concat_getLast (List.ne_nil_of_mem h0)).symm⟩
  refine iThn (iSq (iIfS (iAnd (iTest (iOp2 (iV (iOp2 ?_)))))))
  refine iPk rfl (iV (iOp1 ?_))
  repeat walk_at "m1"
  refine iOp2E rfl rfl (show ixD (.list ((numsN t).map fun n => cntD (t.at h n))) (.int (-1)) = some (cntD (t.at h N)) by
    rw [eN, List.map_append]
    exact L2.atI_last _ _) ?_
  refine iV (iOp2 (iV (iTup ?_)))
  repeat walk_at "m1"
  refine iCallE rfl lenh ?_
  refine iOp2E rfl rfl (zeros_d oh) ?_
  rw [at_last oh o eN]
  have dz : (cntD (zerosC h)).depth ≤ 64 := by
    have := (fine_C (c := zerosC h) (k := 0) (m := 1000) (by unfold zerosC; rw [List.length_replicate]; omega) fun n hn => by
      unfold zerosC at hn
      rw [List.eq_of_mem_replicate hn]
      decide).dp
    omega
  refine iOp2E rfl rfl (neD_self (lay_C _) dz) ?_
  refine ⟨_, rfl, iteF ?_⟩
  refine iteF ?_
  refine iNx (iThn (iSq (iForT (wIt (iVar rfl ?_)))))
  refine ⟨_, rfl, Fm, fs, Fm.d, fun rest ρ => ∃ s6 s8 s9 s10 : CF.Slot, ρ = [.dat h.d, .dat t.d, .dat (.list (fs.map Fm.d)), .dat (listD (numsN t)), .un, .dat (.list ((numsN t).map fun n => cntD (t.at h n))), s6, .dat (cntD (h.map A)), s8, s9, s10], rfl, ⟨_, s8, _, _, rfl⟩, ?_, ?_⟩
  · rintro ρ ⟨s6, s8, s9, s10, rfl⟩
    refine iThn (iRet (iOp2 (iV (iFn ?_))))
    refine iLs (iPk rfl ?_)
    refine iLs (iV (iFn ?_))
    repeat walk_at "m1"
    refine iFnQ rfl (fall_t oh o (by omega)) ?_
    repeat walk_at "m1"
    refine iFnQ rfl (table_of_t oh o kl) ?_
    repeat walk_at "m1"
    have m : MonoOn id t.known := fun a _ b _ h => h
    have e := same_T oh o (led_ok oh o m) fun x hx => by rw [led_row oh hx, List.map_id]
    refine iOp2E rfl rfl (show eqD (t.led h id).d t.d = some (.bool true) by unfold eqD; rw [e]; rfl) ?_
    exact ⟨_, rfl, rfl, rfl⟩
  · rintro f rest ρ hfm ⟨s6, s8, s9, s10, rfl⟩
    have of := hf f hfm
    refine ⟨_, rfl, ?_⟩
    refine iSq (iSet (iFn ?_))
    repeat walk_at "m1"
    refine iFnQ rfl (value_t oh o of (by decide) (by decide)) ?_
    refine iThn (iNorm (ρ' := [.dat h.d, .dat t.d, .dat (.list (fs.map Fm.d)), .dat (listD (numsN t)), .un, .dat (.list ((numsN t).map fun n => cntD (t.at h n))), s6, .dat (cntD (h.map A)), s8, .dat f.d, .dat (optD (f.val t))]) rfl ?_)
    refine iSq (iIfS (iNot (iTest (iFn (iLs (iV (iFn ?_)))))))
    refine iLs (iPk rfl ?_)
    refine iLs (iPk rfl ?_)
    refine iLs (iV (iFn ?_))
    repeat walk_at "m1"
    refine iFnQ rfl (sizes_t oh o) ?_
    repeat walk_at "m1"
    refine iFnQ rfl (holds_t oh (sizes_len oh) (by decide) 20 3 f of (by decide)) ?_
    refine iLs (iV (iOp2 ?_))
    repeat walk_at "m1"
    refine iOp2E rfl rfl (notN_opt _) ?_
    rw [val_some oh t of]
    repeat walk_at "m1"
    refine iFnQ rfl (alike_fn (nice_bool _)) ?_
    refine ⟨true, rfl, iteF ?_⟩
    refine iNx (iThn (iForT (iZpL (iVar rfl (iVar rfl ⟨_, _, _, _, rfl, rfl, ?_⟩)))))
    rw [zip_same]
    refine ⟨Int, numsN t, (fun n => .tuple [.int n, cntD (t.at h n)]), fun rest ρ => ∃ s6 s8 : CF.Slot, ρ = [.dat h.d, .dat t.d, .dat (.list (fs.map Fm.d)), .dat (listD (numsN t)), .un, .dat (.list ((numsN t).map fun n => cntD (t.at h n))), s6, .dat (cntD (h.map A)), s8, .dat f.d, .dat (optD (f.val t))], rfl, ⟨s6, s8, rfl⟩, ?_, ?_⟩
    · rintro ρ ⟨s6, s8, rfl⟩
      exact ⟨s6, s8, _, _, rfl⟩
    · rintro n rest ρ hn ⟨s6, s8, rfl⟩
      refine ⟨_, rfl, iNorm (ρ' := [.dat h.d, .dat t.d, .dat (.list (fs.map Fm.d)), .dat (listD (numsN t)), .un, .dat (.list ((numsN t).map fun n => cntD (t.at h n))), .dat (.int n), .dat (cntD (h.map A)), .dat (cntD (t.at h n)), .dat f.d, .dat (optD (f.val t))]) rfl ?_⟩
      refine iIfS (iNot (iTest (iFn (iLs (iV (iFn ?_))))))
      repeat walk_at "m1"
      refine iFnQ rfl (holds_t oh (at_len oh n) (by decide) 20 3 f of (by decide)) ?_
      refine iLs (iV (iBl (iAnd (iTest (iOp2 ?_)))))
      repeat walk_at "m1"
      refine iOp2E rfl rfl (notN_opt _) ?_
      refine ⟨_, rfl, ?_⟩
      rw [val_ge oh t of n]
      cases hh : f.val t with
      | none =>
        refine iteF ?_
        repeat walk_at "m1"
        refine iFnQ rfl (alike_fn (nice_bool _)) ?_
        refine ⟨true, rfl, iteF ?_⟩
        exact iNx ⟨_, _, rfl⟩
      | some v =>
        refine iteT ?_
        refine iTest (iOp2 (iPk rfl (iPk rfl ?_)))
        refine iOp2E rfl rfl (show geD (optD (some v)) (.int n) = some (.bool (decide (n ≤ v))) from rfl) ?_
        refine ⟨_, rfl, ?_⟩
        repeat walk_at "m1"
        refine iFnQ rfl (alike_fn (nice_bool _)) ?_
        refine ⟨true, rfl, iteF ?_⟩
        exact iNx ⟨_, _, rfl⟩
end
end Qk08
end
section
namespace Qk08
open PySem CF
local macro_rules | `(tactic| walk_at "hf") => `(tactic| (first
  | with_reducible exact eqD_int | with_reducible exact eqD_str | with_reducible exact neD_int | with_reducible exact addD_int | with_reducible exact addI_int | with_reducible exact subD_int | with_reducible exact geD_int | with_reducible exact gtD_int | with_reducible exact leD_int | with_reducible exact ltD_int | with_reducible exact modD_of (by decide) | with_reducible exact mulD_r (by decide) | with_reducible exact mulD_l (by decide) | with_reducible exact powD_of (by decide) | with_reducible exact ix0 | ((with_reducible show ixD (.list _) (.int _) = _); rfl) | ((with_reducible show ixD (.tuple _) (.int _) = _); rfl)
  | with_reducible exact intC_int | with_reducible exact lenC_list | with_reducible exact lenC_tuple | with_reducible exact tupleC_list | with_reducible exact listC_tuple | with_reducible exact listC_dict | with_reducible exact isN_none | with_reducible exact isN_int | with_reducible exact notN_none | with_reducible exact notN_int | with_reducible exact min2_int | with_reducible exact max2_int | with_reducible exact slD_list | with_reducible exact slD_tuple | with_reducible exact neD_str | with_reducible exact max2_int))
local macro_rules | `(tactic| walk_at "m1") => `(tactic| (first
  | with_reducible refine iSq ?_ | with_reducible refine iThn ?_ | with_reducible refine iIfS ?_ | with_reducible refine iSet ?_ | with_reducible refine iSetB ?_ | with_reducible refine iSetO ?_ | with_reducible refine iRet ?_ | with_reducible refine iNx ?_ | with_reducible refine iThnR ?_
  | with_reducible refine iTest ?_ | with_reducible refine iOp2 ?_ | ((with_reducible refine' iPk ?h1 ?h2); (case h1 => rfl)) | with_reducible refine iV ?_ | with_reducible refine iC ?_ | ((with_reducible refine' iVar ?h1 ?h2); (case h1 => rfl))
  | with_reducible refine iCall ?_ | with_reducible refine iLs0 ?_ | with_reducible refine iLs ?_ | with_reducible refine iSub ?_ | with_reducible refine iSl ?_ | with_reducible refine iSome ?_ | with_reducible refine iNone ?_ | with_reducible refine iLst ?_ | with_reducible refine iTup ?_ | with_reducible refine iDs0 ?_ | with_reducible refine iDs ?_
  | with_reducible refine iAnd ?_ | with_reducible refine iOr ?_ | with_reducible refine iNot ?_ | with_reducible refine iBl ?_ | with_reducible refine iIf ?_ | with_reducible refine iDrop ?_ | with_reducible refine iYes ?_ | with_reducible refine iPar ?_
  | ((with_reducible refine' iAugS ?h1 ?h2); (case h1 => exact ⟨_, rfl⟩))
  | ((with_reducible refine' iPutE ?h1 ?h2 ?h3); (case h1 => rfl); (case h2 => rfl))
  | ((with_reducible refine' iOp2E ?h1 ?h2 ?h3 ?h4); (case h1 => rfl); (case h2 => rfl); (case h3 => walk_at "hf"))
  | ((with_reducible refine' iCallE ?h1 ?h2 ?h3); (case h1 => rfl); (case h2 => walk_at "hf"))
  | with_reducible refine ⟨sz0, ?_⟩ | with_reducible refine ⟨sz1, ?_⟩ | with_reducible refine ⟨sz2, ?_⟩ | with_reducible refine ⟨sz3, ?_⟩ | with_reducible refine ⟨sz4, ?_⟩ | with_reducible refine ⟨sz5, ?_⟩
  | (with_reducible refine ⟨_, rfl, ?_⟩)
  | ((with_reducible refine' ⟨_, ?h1, ?h2⟩); (case h1 => walk_at "hf"))
  | ((with_reducible refine' ⟨⟨_, ?h1⟩, ?h2⟩); (case h1 => rfl))
  | ((with_reducible refine' ⟨_, _, ?h1, ?h2, ?h3⟩); (case h1 => rfl); (case h2 => walk_at "hf"))
  | ((with_reducible refine' ⟨_, _, ?h1, ?h2, ?h3⟩); (case h1 => rfl); (case h2 => rfl))))
theorem known_ok {h : House} {pool : List Int} {t : Tbl} (oh : HOk h) (o : TOk h pool t) : TOk h t.known t := by
  refine ⟨o.nms, o.asc, o.sz, o.l9, fun p hp n hn => ?_⟩
  refine mem_sset.mpr ?_
  unfold Tbl.rows
  refine List.mem_flatten.mpr ⟨t.row p.1, List.mem_map_of_mem (List.mem_map_of_mem (f := (·.1)) hp), ?_⟩
  unfold Tbl.row
  rw [look_of_mem (o.nodup oh) hp]
  exact hn
theorem right_p {h : House} {pool : List Int} {t : Tbl} (oh : HOk h) (o : TOk h pool t) (pl : pool.length ≤ 7) {fs : List Fm} (hf : ∀ f ∈ fs, FOk h 3 3 f) (fl : fs.length ≤ 10) : pureFn g__law_table_right [h.d, t.d, .list (fs.map Fm.d)] (· = .bool true) :=
  right_t oh (known_ok oh o) (Nat.le_trans (known_len o) pl) hf fl
theorem range0 (n : Nat) : rangeD 0 n = (List.range n).map fun i => PyData.int (i : Nat) := by
  rw [rangeD_map]
  exact List.map_congr_left fun i _ => by rw [Int.zero_add]
def Inv8 (ρ : List CF.Slot) : Prop := ∃ bag s2 s3 s5 s7 s9 s10 s11, BagOk bag ∧ ρ = [.un, .own bag, s2, s3, .un, s5, .un, s7, .un, s9, s10, s11]
def srtP (p : Nat × Option Nat) : D := .tuple [.int (p.1 : Nat), hiD p.2]
theorem law_true (ns : List Int) (hl : ns.length ≤ 63) : ∃ r', b_law (.un :: .own (bagT ns) :: List.replicate 10 .un) = some (.ok (.rt (.bool true)) r') := by
  have ok : BagOk (bagT ns) := ⟨0, 1234567891, 0, ns.map absI, by unfold bagT bagD absN; rw [List.map_map]; rfl, by rw [List.length_map]; exact hl⟩
  have w : wp b_law (.un :: .own (bagT ns) :: List.replicate 10 .un) (fun f _ => f = .rt (.bool true)) := by
    generalize bagT ns = bag at ok
    unfold b_law
    refine iSq (iSet (iBag rfl ?_))
    repeat walk_at "m1"
    refine iBag rfl ?_
    repeat walk_at "m1"
    refine iBagE rfl rfl ok (take_fn (by decide) (by decide)) ?_
    rintro _ bag2 ⟨v, rfl, v0, v1⟩ ok2
    repeat walk_at "m1"
    refine iBagE rfl rfl ok2 (names_t (by omega)) ?_
    rintro _ bag3 ⟨xs, rfl, xasc, xsub, x1, xl⟩ ok3
    have xl3 : xs.length ≤ 3 := by omega
    refine iThn (iNorm (ρ' := [.un, .own bag3, .dat (lotD xs), .un, .un, .un, .un, .un, .un, .un, .un, .un]) rfl ?_)
    refine iSq (iSet (iCall (iLs (iV (iLCb (wIt (iVar rfl ?_)))))))
    refine ⟨_, rfl, 1, Str, xs, PyData.str, (fun x y => ∃ s : Srt, y = s.d ∧ s.nm = x ∧ SOk s), rfl, by rw [sizeLine_eq]; omega, rfl, by decide, ⟨bag3, rfl, ok3⟩, ?_, ?_⟩
    · intro x hx bag ok
      refine ⟨_, rfl, ?_⟩
      refine iOp2 (iV (iTup ?_))
      repeat walk_at "m1"
      refine iBag rfl ?_
      repeat walk_at "m1"
      refine iBagE rfl rfl ok (one_t (e := srtP) (as := [(1, some 1), (0, some 2), (0, some 1), (1, some 2), (0, none)]) (.inl rfl) (by decide) (by decide)) ?_
      rintro _ bag2 ⟨p, hp, rfl⟩ ok2
      have ea : addD (.tuple [.str x]) (srtP p) = some (Srt.mk x p.1 p.2).d := by
        show (if 1 + 2 ≤ sizeLine then some (PyData.tuple ([.str x] ++ [.int (p.1 : Nat), hiD p.2])) else none) = _
        rw [if_pos (show 1 + 2 ≤ sizeLine by rw [sizeLine_eq]; decide)]
        rfl
      refine iOp2E rfl rfl ea ?_
      have hp2 : p.1 ≤ 3 ∧ ∀ m, p.2 = some m → p.1 ≤ m ∧ m ≤ 9 := by
        simp only [List.mem_cons, List.not_mem_nil, or_false] at hp
        rcases hp with rfl | rfl | rfl | rfl | rfl <;> refine ⟨by decide, fun m e => ?_⟩ <;> cases e <;> decide
      exact ⟨⟨Srt.mk x p.1 p.2, rfl, rfl, ⟨hp2.1, hp2.2⟩⟩, bag2, ok2, rfl⟩
    intro ys bag4 z ok4
    obtain ⟨h, rfl, z2⟩ : ∃ h : House, ys = h.map Srt.d ∧ Zip2 (fun (x : Str) s => s.nm = x ∧ SOk s) xs h := z.typed (e := Srt.d) (S := fun (x : Str) s => s.nm = x ∧ SOk s) fun a b q => q
    have oh : HOk h := house_of z2 xasc xsub x1 (by omega)
    have h3 : h.length ≤ 3 := by rw [z2.len]; exact xl3
    clear z z2
    repeat walk_at "m1"
    refine iNorm (ρ' := [.un, .own bag4, .dat (lotD xs), .dat h.d, .un, .un, .un, .un, .un, .un, .un, .un]) rfl ?_
    refine iLCb (iRng1 ?_)
    repeat walk_at "m1"
    refine ⟨by decide, 1, Nat, List.range (Int.toNat 3), (fun i => .int (i : Nat)), (fun _ y => ∃ f : Fm, y = f.d ∧ FOk h 3 3 f), range0 _, by rw [sizeLine_eq]; decide, rfl, by decide, ⟨_, rfl, ok4⟩, ?_, ?_⟩
    · intro i hi bag ok
      refine ⟨_, rfl, ?_⟩
      refine iBag rfl ?_
      repeat walk_at "m1"
      refine iBagE rfl rfl ok (any_t oh) ?_
      rintro _ bag2 ⟨f, rfl, of⟩ ok2
      exact ⟨⟨f, rfl, of⟩, bag2, ok2, rfl⟩
    intro ys bag5 z ok5
    obtain ⟨fs, rfl, z2⟩ := z.typed (e := Fm.d) (S := fun _ f => FOk h 3 3 f) fun a b q => q
    have fo := z2.right (p := FOk h 3 3) fun _ _ q => q
    have fl : fs.length ≤ 10 := by rw [z2.len, List.length_range]; decide
    clear z z2
    refine iThn (iNorm (ρ' := [.un, .own bag5, .dat (lotD xs), .dat h.d, .un, .dat (.list (fs.map Fm.d)), .un, .un, .un, .un, .un, .un]) rfl ?_)
    obtain ⟨pool, pl, hpool⟩ : ∃ pool : List Int, pool.length ≤ 3 ∧ ∀ (Q : LV → List CF.Slot → Prop), Q (.dat (listD pool)) [.un, .own bag5, .dat (lotD xs), .dat h.d, .un, .dat (.list (fs.map Fm.d)), .un, .un, .un, .un, .un, .un] → wp (mV (mIf (mTest (mOp2 ltD (mV (mCall lenC [(mPk 3)])) (mV (mC (.int 3))))) (mLst [(mC (.int 1)), (mC (.int 2)), (mC (.int 4))]) (mLst [(mC (.int 1)), (mC (.int 2))]))) [.un, .own bag5, .dat (lotD xs), .dat h.d, .un, .dat (.list (fs.map Fm.d)), .un, .un, .un, .un, .un, .un] Q := by
      by_cases q : (h.length : Int) < 3
      · refine ⟨[1, 2, 4], by decide, fun Q hQ => ?_⟩
        refine iV (iIf (iTest (iOp2 (iV (iCall (iLs (iPk rfl ?_)))))))
        repeat walk_at "m1"
        refine iCallE rfl lenh ?_
        repeat walk_at "m1"
        rw [decide_eq_true q]
        refine iteT ?_
        refine iLst ?_
        repeat walk_at "m1"
        exact hQ
      · refine ⟨[1, 2], by decide, fun Q hQ => ?_⟩
        refine iV (iIf (iTest (iOp2 (iV (iCall (iLs (iPk rfl ?_)))))))
        repeat walk_at "m1"
        refine iCallE rfl lenh ?_
        repeat walk_at "m1"
        rw [decide_eq_false q]
        refine iteF ?_
        refine iLst ?_
        repeat walk_at "m1"
        exact hQ
    refine iSq (iSet (iFn (iLs (iPk rfl (iLs (hpool _ ?_))))))
    repeat walk_at "m1"
    refine iFnP rfl (all_tables_t oh h3 pl) ?_
    rintro _ ⟨ts, rfl, tl, ht⟩
    refine iThn (iSq (iIfS (iTest (iOp2 (iV (iLCf (wIt (iSl ?_))))))))
    refine iV (iBag rfl ?_)
    repeat walk_at "m1"
    refine iBagE rfl rfl ok5 (mixed_t (e := Tbl.d) (as := ts) (.inl rfl) (by omega)) ?_
    rintro _ bag6 ⟨us, rfl, perm⟩ ok6
    repeat walk_at "m1"
    rw [show cutL (us.map Tbl.d) none (some 200) = (us.take 200).map Tbl.d by rw [show (200 : Int) = ((200 : Nat) : Int) from rfl, cut_to, List.map_take]]
    refine ⟨Tbl, us.take 200, Tbl.d, (fun _ => false), (fun _ => .int 1), rfl, by rw [sizeLine_eq]; have := List.length_take_le 200 us; omega, rfl, ?_, ?_⟩
    · intro t htm
      have o := ht t (perm.mem_iff.mp (List.mem_of_mem_take htm))
      refine ⟨_, rfl, ?_⟩
      refine iNot (iTest (iFn ?_))
      repeat walk_at "m1"
      refine iFnQ rfl (right_p oh o (by omega) fo fl) ?_
      refine ⟨true, rfl, rfl, ?_⟩
      rw [if_neg Bool.false_ne_true]
      rfl
    rw [List.filter_eq_nil_iff.mpr (fun _ _ => by simp), List.map_nil]
    refine iV (iLst (iDs0 ⟨sz0, ?_⟩))
    refine iOp2E rfl rfl (show neD (.list []) (.list []) = some (.bool false) from ne_nil []) ?_
    refine ⟨_, rfl, iteF ?_⟩
    refine iNx (iThn (iSq (iForT (iRng1 ?_))))
    repeat walk_at "m1"
    refine ⟨by decide, Nat, List.range (Int.toNat 3), (fun i => .int (i : Nat)), fun rest ρ => Inv8 ρ, range0 _, ⟨bag6, _, _, _, _, _, _, _, ok6, rfl⟩, ?_, ?_⟩
    · rintro ρ ⟨bag, s2, s3, s5, s7, s9, s10, s11, ok, rfl⟩
      repeat walk_at "m1"
      exact rfl
    · rintro j rest ρ hj ⟨bag, s2, s3, s5, s7, s9, s10, s11, ok, rfl⟩
      clear oh h3 fo fl hpool ht perm
      refine ⟨_, rfl, ?_⟩
      refine iSq (iSet (iBag rfl ?_))
      repeat walk_at "m1"
      refine iBagE rfl rfl ok (houseA_t (by decide) (by decide)) ?_
      rintro _ bag3 ⟨h, rfl, oh, h5⟩ ok3
      refine iThn (iNorm (ρ' := [.un, .own bag3, s2, s3, .un, s5, .un, s7, .un, .dat (.int (j : Nat)), .dat h.d, s11]) rfl ?_)
      refine iSq (iSet (iLCb (iRng1 ?_)))
      repeat walk_at "m1"
      refine ⟨by decide, 1, Nat, List.range (Int.toNat 4), (fun i => .int (i : Nat)), (fun _ y => ∃ f : Fm, y = f.d ∧ FOk h 3 3 f), range0 _, by rw [sizeLine_eq]; decide, rfl, by decide, ⟨_, rfl, ok3⟩, ?_, ?_⟩
      · intro i hi bag ok
        refine ⟨_, rfl, ?_⟩
        refine iBag rfl ?_
        repeat walk_at "m1"
        refine iBagE rfl rfl ok (any_t oh) ?_
        rintro _ bag2 ⟨f, rfl, of⟩ ok2
        exact ⟨⟨f, rfl, of⟩, bag2, ok2, rfl⟩
      intro ys bag5 z ok5
      obtain ⟨fs, rfl, z2⟩ := z.typed (e := Fm.d) (S := fun _ f => FOk h 3 3 f) fun a b q => q
      have fo := z2.right (p := FOk h 3 3) fun _ _ q => q
      have fl : fs.length ≤ 10 := by rw [z2.len, List.length_range]; decide
      clear z z2
      refine iThn (iForT (wIt (iTup ?_)))
      repeat walk_at "m1"
      refine ⟨Nat, [2, 6], (fun n => .int (n : Nat)), fun rest ρ => ∃ bag s11, BagOk bag ∧ ρ = [.un, .own bag, s2, s3, .un, .dat (.list (fs.map Fm.d)), .un, s7, .un, .dat (.int (j : Nat)), .dat h.d, s11], rfl, ⟨bag5, s11, ok5, rfl⟩, ?_, ?_⟩
      · rintro ρ ⟨bag, s11, ok, rfl⟩
        exact ⟨bag, _, _, _, _, _, _, _, ok, rfl⟩
      · rintro n rest ρ hn ⟨bag, s11, ok, rfl⟩
        have n6 : n ≤ 6 := by
          simp only [List.mem_cons, List.not_mem_nil, or_false] at hn
          omega
        refine ⟨_, rfl, ?_⟩
        refine iIfS (iNot (iTest (iFn (iLs (iPk rfl (iLs (iV (iBag rfl ?_))))))))
        repeat walk_at "m1"
        refine iBag rfl ?_
        repeat walk_at "m1"
        refine iBagE rfl rfl ok numbers_t ?_
        rintro _ bag2 ⟨pool, rfl, hp⟩ ok2
        repeat walk_at "m1"
        refine iBagE rfl rfl ok2 (table_t oh hp.1 (by have := hp.2.1; omega) (by omega) (by omega)) ?_
        rintro _ bag3 ⟨t, rfl, o, _⟩ ok3
        repeat walk_at "m1"
        refine iFnQ rfl (right_p oh o hp.2.1 fo fl) ?_
        refine ⟨true, rfl, iteF ?_⟩
        exact iNx ⟨bag3, _, ok3, rfl⟩
  obtain ⟨f, r', e, rfl⟩ := w
  exact ⟨r', e⟩
end Qk08
end
open PySem PySem.W PyProof.Rows
set_option maxHeartbeats 0 in
theorem PySem.Challenge.cw_countsfall_k08_whole_values_by_counts_holds : PySem.Challenge.rw_countsfall_k08_whole_values_by_counts.Holds := by
  w_on; o_law; k_head; (case hw => w_witness2)
  k_fill
  refine CF.walkG (l := PySem.Challenge.rw_countsfall_k08_whole_values_by_counts) (n := 63) (k := 27) (x := "_law_script") (sp := fun w => CF.spTop _ 10 Qk08.b_law) rfl (by decide) rfl ⟨rfl, by decide, by decide⟩ (fun w h Y => PySem.W.kIn_of Y) ?F (fun _ _ a ns hl _ hS => ⟨a, ns, rfl, hS, hl, Qk08.law_true ns hl, fun _ => rfl⟩)
  case F =>
    intro w mg fa h KX G hmg
    refine' Qk08.top_mk (h := h) hmg (Qk08.facts_mk KX G ?a0 ?l0 ?c0 ?k0 ?a1 ?l1 ?c1 ?k1 ?a2 ?l2 ?c2 ?k2 ?a3 ?l3 ?c3 ?k3 ?a4 ?l4 ?c4 ?k4 ?a5 ?l5 ?c5 ?k5 ?a6 ?l6 ?c6 ?k6 ?a7 ?l7 ?c7 ?k7 ?a8 ?l8 ?c8 ?k8 ?a9 ?l9 ?c9 ?k9 ?a10 ?l10 ?c10 ?k10 ?a11 ?l11 ?c11 ?k11 ?a12 ?l12 ?c12 ?k12 ?a13 ?l13 ?c13 ?k13 ?a14 ?l14 ?c14 ?k14 ?a15 ?l15 ?c15 ?k15 ?a16 ?l16 ?c16 ?k16 ?a17 ?l17 ?c17 ?k17 ?a18 ?l18 ?c18 ?k18 ?a19 ?l19 ?c19 ?k19 ?a20 ?l20 ?c20 ?k20 ?a21 ?l21 ?c21 ?k21 ?a22 ?l22 ?c22 ?k22 ?a23 ?l23 ?c23 ?k23 ?a24 ?l24 ?c24 ?k24 ?a25 ?l25 ?c25 ?k25 ?a26 ?l26 ?c26 ?k26 ?a27 ?l27 ?c27 ?k27 ?a28 ?l28 ?c28 ?k28 ?a29 ?l29 ?c29 ?k29 ?a30 ?l30 ?c30 ?k30 ?a31 ?l31 ?c31 ?k31 ?z_abs ?z_dict ?z_int ?z_len ?z_list ?z_max ?z_min ?z_range ?z_repr ?z_set ?z_sorted ?z_sum ?z_tuple ?z_zip)
    (case a0 => k_is); (case l0 => k_is); (case c0 => k_is); (case k0 => k_is); (case a1 => k_is); (case l1 => k_is); (case c1 => k_is); (case k1 => k_is); (case a2 => k_is); (case l2 => k_is); (case c2 => k_is); (case k2 => k_is); (case a3 => k_is); (case l3 => k_is); (case c3 => k_is); (case k3 => k_is); (case a4 => k_is); (case l4 => k_is); (case c4 => k_is); (case k4 => k_is); (case a5 => k_is); (case l5 => k_is); (case c5 => k_is); (case k5 => k_is); (case a6 => k_is); (case l6 => k_is); (case c6 => k_is); (case k6 => k_is); (case a7 => k_is); (case l7 => k_is); (case c7 => k_is); (case k7 => k_is); (case a8 => k_is); (case l8 => k_is); (case c8 => k_is); (case k8 => k_is); (case a9 => k_is); (case l9 => k_is); (case c9 => k_is); (case k9 => k_is); (case a10 => k_is); (case l10 => k_is); (case c10 => k_is); (case k10 => k_is); (case a11 => k_is); (case l11 => k_is); (case c11 => k_is); (case k11 => k_is); (case a12 => k_is); (case l12 => k_is); (case c12 => k_is); (case k12 => k_is); (case a13 => k_is); (case l13 => k_is); (case c13 => k_is); (case k13 => k_is); (case a14 => k_is); (case l14 => k_is); (case c14 => k_is); (case k14 => k_is); (case a15 => k_is); (case l15 => k_is); (case c15 => k_is); (case k15 => k_is); (case a16 => k_is); (case l16 => k_is); (case c16 => k_is); (case k16 => k_is); (case a17 => k_is); (case l17 => k_is); (case c17 => k_is); (case k17 => k_is); (case a18 => k_is); (case l18 => k_is); (case c18 => k_is); (case k18 => k_is); (case a19 => k_is); (case l19 => k_is); (case c19 => k_is); (case k19 => k_is); (case a20 => k_is); (case l20 => k_is); (case c20 => k_is); (case k20 => k_is); (case a21 => k_is); (case l21 => k_is); (case c21 => k_is); (case k21 => k_is); (case a22 => k_is); (case l22 => k_is); (case c22 => k_is); (case k22 => k_is); (case a23 => k_is); (case l23 => k_is); (case c23 => k_is); (case k23 => k_is); (case a24 => k_is); (case l24 => k_is); (case c24 => k_is); (case k24 => k_is); (case a25 => k_is); (case l25 => k_is); (case c25 => k_is); (case k25 => k_is); (case a26 => k_is); (case l26 => k_is); (case c26 => k_is); (case k26 => k_is); (case a27 => k_is); (case l27 => k_is); (case c27 => k_is); (case k27 => k_is); (case a28 => k_is); (case l28 => k_is); (case c28 => k_is); (case k28 => k_is); (case a29 => k_is); (case l29 => k_is); (case c29 => k_is); (case k29 => k_is); (case a30 => k_is); (case l30 => k_is); (case c30 => k_is); (case k30 => k_is); (case a31 => k_is); (case l31 => k_is); (case c31 => k_is); (case k31 => k_is); (case z_abs => k_is); (case z_dict => k_is); (case z_int => k_is); (case z_len => k_is); (case z_list => k_is); (case z_max => k_is); (case z_min => k_is); (case z_range => k_is); (case z_repr => k_is); (case z_set => k_is); (case z_sorted => k_is); (case z_sum => k_is); (case z_tuple => k_is); (case z_zip => k_is)

