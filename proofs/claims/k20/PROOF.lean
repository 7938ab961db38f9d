import PyProof.Rows.All
import Wide.All
import OpenK.AllK
import Wide.FinOn
import HandS.ForMost
import HandS.Exc
import HandS.TryOnly
import HandS.Lambda
import HandS.TupSets
import HandS.SetFor
import HandS.TupMul
import HandS.Wide
import HandS.TupAny
import HandS.Deep
import KE.SortData
import KE.DataCmp
import HandS.SortKw
import HandS.WordsDict
import HandS.More
import HandS.Conv
import HandS.Strs
import PyProof.ReprRoads
import KE.GoesEnum
import HandS.Rev
import HandS.Zip
import HandS.RevRange
import PyProof.AutoSeq1
import HandS.ExcValue
import HandS.Ends
import PyProof.StrLawsRepr
import KE.KTupSum
import HandS.List
import HandS.Dict
import PyProof.P3In
import KE.GoesMore
import HandS.DictComp
import HandS.IsInst
import HandS.Style
import HandS.TryMany
import HandS.ExcField
import HandS.ExcInit
import HandS.WordsExc
import HandS.EndTab
import KE.KNestM
import HandS.Star
import KE.SortKeyHeap
import HandS.Flow
import PySem.Challenge.RW_countsfall_k20_rungs_levels_caps
set_option Elab.async false
set_option linter.all false
set_option maxRecDepth 100000
set_option maxHeartbeats 4000000
set_option autoImplicit false
set_option exponentiation.threshold 5000
section
/-! CF, part a: data trees read off the abstract heap, slots, the states' relation. -/
namespace CF
open PySem PySem.Spec PyProof.Rows L2

abbrev D := PyData
def keyD : Key → D
  | .inl i => .int i
  | .inr x => .str x

def KTup (K : PySem.W.Frag) (a : Addr) (xs : List V) : Prop :=
  ∃ (o : Obj) (its : Array Value) (n : Nat), K.lookup a = some o ∧ o.cls = .type "tuple" ∧ o.data = .seq its n ∧ its.size ≤ sizeLine ∧ Vals xs its.toList

mutual
/-- v reads as the tree d; no object of W is met on the way -/
inductive Rx (K : PySem.W.Frag) (W : Addr → Prop) (H : Hp) : V → D → Prop
  | non : Rx K W H .non .none
  | bl (b : Bool) : Rx K W H (.bl b) (.bool b)
  | int (i : Int) : Rx K W H (.int i) (.int i)
  | str (x : Str) : Rx K W H (.str x) (.str x)
  | lst {a : Addr} {xs : List V} {ds : List D} : ¬ W a → L2.Rd H a (.lst xs) → RxL K W H xs ds → Rx K W H (.ref a) (.list ds)
  | tup {a : Addr} {xs : List V} {ds : List D} : ¬ W a → L2.Rd H a (.tup xs) → RxL K W H xs ds → Rx K W H (.ref a) (.tuple ds)
  | tupK {a : Addr} {xs : List V} {ds : List D} : KTup K a xs → RxL K W H xs ds → Rx K W H (.ref a) (.tuple ds)
  | dic {a : Addr} {kvs : List (Key × V)} {es : List (D × D)} : ¬ W a → L2.Rd H a (.dK kvs) → RxK K W H kvs es → Rx K W H (.ref a) (.dict es)
inductive RxL (K : PySem.W.Frag) (W : Addr → Prop) (H : Hp) : List V → List D → Prop
  | nil : RxL K W H [] []
  | cons {v : V} {vs : List V} {d : D} {ds : List D} : Rx K W H v d → RxL K W H vs ds → RxL K W H (v :: vs) (d :: ds)
inductive RxK (K : PySem.W.Frag) (W : Addr → Prop) (H : Hp) : List (Key × V) → List (D × D) → Prop
  | nil : RxK K W H [] []
  | cons {k : Key} {v : V} {kvs : List (Key × V)} {d : D} {es : List (D × D)} : Rx K W H v d → RxK K W H kvs es → RxK K W H ((k, v) :: kvs) ((keyD k, d) :: es)
end

/-- what is tracked stays: what is someone's own, but not O's, to the sign; the rest as far as it can be read -/
structure KeepO (W O : Addr → Prop) (H H' : Hp) : Prop where
  own : ∀ a o, H a = some o → W a → ¬ O a → H' a = some o
  rest : ∀ a u, L2.Rd H a u → ¬ W a → L2.Rd H' a u
  frz : ∀ a o u, H a = some (.frz o u) → ¬ W a → H' a = some (.frz o u)
  lst : ∀ a xs, H a = some (.lst xs) → ¬ W a → H' a = some (.lst xs)
theorem KeepO.refl {W O : Addr → Prop} {H : Hp} : KeepO W O H H := ⟨fun _ _ h _ _ => h, fun _ _ h _ => h, fun _ _ _ h _ => h, fun _ _ h _ => h⟩
theorem KeepO.trans {W O : Addr → Prop} {H H1 H2 : Hp} (a : KeepO W O H H1) (b : KeepO W O H1 H2) : KeepO W O H H2 := ⟨fun c o h w n => b.own c o (a.own c o h w n) w n, fun c u h n => b.rest c u (a.rest c u h n) n, fun c o u h n => b.frz c o u (a.frz c o u h n) n, fun c xs h n => b.lst c xs (a.lst c xs h n) n⟩
theorem rd_same {H H1 : Hp} (a : Same H H1) {c : Addr} {u : HO} (h : L2.Rd H c u) : L2.Rd H1 c u := by
  rcases h with h | ⟨o, h⟩
  · exact .inl (a _ _ h)
  · exact .inr ⟨o, a _ _ h⟩
theorem KeepO.of {W O : Addr → Prop} {H H1 : Hp} (a : Same H H1) : KeepO W O H H1 := ⟨fun c o h _ _ => a c o h, fun c u h _ => rd_same a h, fun c o u h _ => a _ _ h, fun c xs h _ => a _ _ h⟩
theorem Same.upd {H : Hp} {p : Addr} {o : HO} (h : H p = none) : Same H (upd H p o) := fun b x e => by
  rw [upd_ne (ne_of_none e h)]
  exact e

theorem rd_some {H : Hp} {a : Addr} {u : HO} (h : L2.Rd H a u) : ∃ o, H a = some o := by
  rcases h with h | ⟨o, h⟩ <;> exact ⟨_, h⟩
section
variable {K : PySem.W.Frag} {W W' : Addr → Prop} {H H' : Hp}
mutual
/-- what a tree leans on is kept -/
theorem Rx.go (k : ∀ a u, L2.Rd H a u → ¬ W a → L2.Rd H' a u) (w : ∀ a o, H a = some o → W' a → W a) : ∀ (d : D) (v : V), Rx K W H v d → Rx K W' H' v d
  | .none, _, h => by cases h; exact .non
  | .bool _, _, h => by cases h; exact .bl _
  | .int _, _, h => by cases h; exact .int _
  | .str _, _, h => by cases h; exact .str _
  | .list ds, _, h => by
    cases h with
    | lst hw hr hl =>
      obtain ⟨o, ho⟩ := rd_some hr
      exact .lst (fun z => hw (w _ o ho z)) (k _ _ hr hw) (RxL.go k w ds _ hl)
  | .tuple ds, _, h => by
    cases h with
    | tup hw hr hl =>
      obtain ⟨o, ho⟩ := rd_some hr
      exact .tup (fun z => hw (w _ o ho z)) (k _ _ hr hw) (RxL.go k w ds _ hl)
    | tupK hk hl => exact .tupK hk (RxL.go k w ds _ hl)
  | .dict es, _, h => by
    cases h with
    | dic hw hr hl =>
      obtain ⟨o, ho⟩ := rd_some hr
      exact .dic (fun z => hw (w _ o ho z)) (k _ _ hr hw) (RxK.go k w es _ hl)
theorem RxL.go (k : ∀ a u, L2.Rd H a u → ¬ W a → L2.Rd H' a u) (w : ∀ a o, H a = some o → W' a → W a) : ∀ (ds : List D) (vs : List V), RxL K W H vs ds → RxL K W' H' vs ds
  | [], _, h => by cases h; exact .nil
  | d :: ds, _, h => by
    cases h with
    | cons h1 h2 => exact .cons (Rx.go k w d _ h1) (RxL.go k w ds _ h2)
theorem RxK.go (k : ∀ a u, L2.Rd H a u → ¬ W a → L2.Rd H' a u) (w : ∀ a o, H a = some o → W' a → W a) : ∀ (es : List (D × D)) (kvs : List (Key × V)), RxK K W H kvs es → RxK K W' H' kvs es
  | [], _, h => by cases h; exact .nil
  | (_, d) :: es, _, h => by
    cases h with
    | cons h1 h2 => exact .cons (Rx.go k w d _ h1) (RxK.go k w es _ h2)
end
theorem Rx.same {v : V} {d : D} (h : Rx K W H v d) (s : Same H H') : Rx K W H' v d := Rx.go (fun a u e _ => rd_same s e) (fun _ _ _ z => z) d v h
theorem RxL.same {vs : List V} {ds : List D} (h : RxL K W H vs ds) (s : Same H H') : RxL K W H' vs ds := RxL.go (fun a u e _ => rd_same s e) (fun _ _ _ z => z) ds vs h
theorem RxK.same {kvs : List (Key × V)} {es : List (D × D)} (h : RxK K W H kvs es) (s : Same H H') : RxK K W H' kvs es := RxK.go (fun a u e _ => rd_same s e) (fun _ _ _ z => z) es kvs h
theorem Rx.less {v : V} {d : D} (h : Rx K W H v d) (w : ∀ a, W' a → W a) : Rx K W' H v d := Rx.go (fun _ _ e _ => e) (fun a _ _ z => w a z) d v h
theorem RxL.less {vs : List V} {ds : List D} (h : RxL K W H vs ds) (w : ∀ a, W' a → W a) : RxL K W' H vs ds := RxL.go (fun _ _ e _ => e) (fun a _ _ z => w a z) ds vs h
theorem RxK.less {kvs : List (Key × V)} {es : List (D × D)} (h : RxK K W H kvs es) (w : ∀ a, W' a → W a) : RxK K W' H kvs es := RxK.go (fun _ _ e _ => e) (fun a _ _ z => w a z) es kvs h
/-- one more address that is new -/
def plus (W : Addr → Prop) (p : Addr) : Addr → Prop := fun a => W a ∨ a = p
theorem Rx.plus {v : V} {d : D} {p : Addr} (h : Rx K W H v d) (n : H p = none) : Rx K (CF.plus W p) H v d :=
  Rx.go (fun _ _ e _ => e) (fun a o e z => z.elim id fun q => by subst q; rw [n] at e; cases e) d v h
theorem RxL.plus {vs : List V} {ds : List D} {p : Addr} (h : RxL K W H vs ds) (n : H p = none) : RxL K (CF.plus W p) H vs ds :=
  RxL.go (fun _ _ e _ => e) (fun a o e z => z.elim id fun q => by subst q; rw [n] at e; cases e) ds vs h
theorem RxK.plus {kvs : List (Key × V)} {es : List (D × D)} {p : Addr} (h : RxK K W H kvs es) (n : H p = none) : RxK K (CF.plus W p) H kvs es :=
  RxK.go (fun _ _ e _ => e) (fun a o e z => z.elim id fun q => by subst q; rw [n] at e; cases e) es kvs h

theorem RxL.length : ∀ {vs : List V} {ds : List D}, RxL K W H vs ds → vs.length = ds.length
  | _, [], h => by cases h; rfl
  | _, _ :: _, h => by
    cases h with
    | cons _ t => rw [List.length_cons, List.length_cons, RxL.length t]
theorem RxL.append : ∀ {vs : List V} {ds : List D} {ws : List V} {es : List D}, RxL K W H vs ds → RxL K W H ws es → RxL K W H (vs ++ ws) (ds ++ es)
  | _, [], _, _, h, g => by cases h; exact g
  | _, _ :: _, _, _, h, g => by
    cases h with
    | cons r t => exact .cons r (RxL.append t g)
theorem RxL.take : ∀ (n : Nat) {vs : List V} {ds : List D}, RxL K W H vs ds → RxL K W H (vs.take n) (ds.take n)
  | 0, _, _, _ => by simpa using RxL.nil
  | _ + 1, _, [], h => by cases h; simpa using RxL.nil
  | n + 1, _, _ :: _, h => by
    cases h with
    | cons r t => simpa using RxL.cons r (RxL.take n t)
theorem RxL.drop : ∀ (n : Nat) {vs : List V} {ds : List D}, RxL K W H vs ds → RxL K W H (vs.drop n) (ds.drop n)
  | 0, _, _, h => by simpa using h
  | _ + 1, _, [], h => by cases h; simpa using RxL.nil
  | n + 1, _, _ :: _, h => by
    cases h with
    | cons r t => simpa using RxL.drop n t
theorem RxL.get : ∀ {i : Nat} {vs : List V} {ds : List D} {d : D}, RxL K W H vs ds → ds[i]? = some d → ∃ v, vs[i]? = some v ∧ Rx K W H v d
  | _, _, [], _, _, e => by simp at e
  | 0, _, _ :: _, _, h, e => by
    cases h with
    | cons r t => simp at e; subst e; exact ⟨_, rfl, r⟩
  | i + 1, _, _ :: _, _, h, e => by
    cases h with
    | cons r t => simpa using RxL.get (i := i) t (by simpa using e)
theorem RxL.get' : ∀ {i : Nat} {vs : List V} {ds : List D} {v : V}, RxL K W H vs ds → vs[i]? = some v → ∃ d, ds[i]? = some d ∧ Rx K W H v d := fun {i vs ds v} h e => by
  have hl := h.length
  obtain ⟨hi, _⟩ := List.getElem?_eq_some_iff.mp e
  have e2 : ds[i]? = some ds[i] := List.getElem?_eq_getElem (by omega)
  obtain ⟨w, e3, r⟩ := h.get e2
  rw [e] at e3; cases e3
  exact ⟨_, e2, r⟩
theorem RxL.set : ∀ {vs : List V} {ds : List D} (i : Nat) {v : V} {d : D}, RxL K W H vs ds → Rx K W H v d → RxL K W H (vs.set i v) (ds.set i d)
  | _, [], _, _, _, h, _ => by cases h; exact .nil
  | _, _ :: _, 0, _, _, h, r => by
    cases h with
    | cons _ t => exact .cons r t
  | _, _ :: _, i + 1, _, _, h, r => by
    cases h with
    | cons q t => exact .cons q (RxL.set i t r)
theorem RxL.one {v : V} {d : D} (r : Rx K W H v d) : RxL K W H [v] [d] := .cons r .nil

/-- the object at a is one's own: it may stand in W, what is in it does not -/
def OwnAt (K : PySem.W.Frag) (W : Addr → Prop) (H : Hp) (a : Addr) : D → Prop
  | .list ds => ∃ xs, H a = some (.lst xs) ∧ RxL K W H xs ds
  | .dict es => ∃ kvs, H a = some (.dK kvs) ∧ RxK K W H kvs es
  | _ => False
/-- a value that is looked at: a tree, or an own object -/
def Tx (K : PySem.W.Frag) (W : Addr → Prop) (H : Hp) (v : V) (d : D) : Prop := Rx K W H v d ∨ ∃ a, v = .ref a ∧ OwnAt K W H a d
theorem OwnAt.go {a : Addr} {d : D} (k : ∀ a u, L2.Rd H a u → ¬ W a → L2.Rd H' a u) (w : ∀ a o, H a = some o → W' a → W a) (ha : ∀ o, H a = some o → H' a = some o) (h : OwnAt K W H a d) : OwnAt K W' H' a d := by
  cases d with
  | list ds => obtain ⟨xs, e, r⟩ := h; exact ⟨xs, ha _ e, RxL.go k w _ _ r⟩
  | dict es => obtain ⟨xs, e, r⟩ := h; exact ⟨xs, ha _ e, RxK.go k w _ _ r⟩
  | _ => exact h.elim
theorem OwnAt.some {a : Addr} {d : D} (h : OwnAt K W H a d) : ∃ o, H a = some o := by
  cases d with
  | list ds => obtain ⟨xs, e, r⟩ := h; exact ⟨_, e⟩
  | dict es => obtain ⟨xs, e, r⟩ := h; exact ⟨_, e⟩
  | _ => exact h.elim
theorem OwnAt.less {a : Addr} {d : D} (h : OwnAt K W H a d) (w : ∀ a, W' a → W a) : OwnAt K W' H a d := h.go (fun _ _ e _ => e) (fun a _ _ z => w a z) fun _ e => e
theorem OwnAt.plus {a p : Addr} {d : D} (h : OwnAt K W H a d) (n : H p = none) : OwnAt K (CF.plus W p) H a d :=
  h.go (fun _ _ e _ => e) (fun a o e z => z.elim id fun q => by subst q; rw [n] at e; cases e) fun _ e => e
theorem OwnAt.rx {a : Addr} {d : D} (h : OwnAt K W H a d) (n : ¬ W a) : Rx K W H (.ref a) d := by
  cases d with
  | list ds => obtain ⟨xs, e, r⟩ := h; exact .lst n (.inl e) r
  | dict es => obtain ⟨xs, e, r⟩ := h; exact .dic n (.inl e) r
  | _ => exact h.elim
theorem Tx.of {v : V} {d : D} (h : Rx K W H v d) : Tx K W H v d := .inl h
theorem Tx.bare {v : V} {d : D} (h : Tx K W H v d) : Rx K (fun _ => False) H v d := by
  rcases h with h | ⟨a, rfl, h⟩
  · exact h.less fun _ z => z.elim
  · exact (h.less (W' := fun _ => False) fun _ z => z.elim).rx fun z => z
theorem Tx.list {v : V} {ds : List D} (h : Tx K W H v (.list ds)) : ∃ a xs, v = .ref a ∧ L2.Rd H a (.lst xs) ∧ RxL K W H xs ds := by
  rcases h with h | ⟨a, rfl, xs, e, r⟩
  · cases h with
    | lst _ hr hl => exact ⟨_, _, rfl, hr, hl⟩
  · exact ⟨a, xs, rfl, .inl e, r⟩
theorem Rx.tuple {v : V} {ds : List D} (h : Rx K W H v (.tuple ds)) : ∃ a xs, v = .ref a ∧ SqT K H a xs ∧ RxL K W H xs ds := by
  cases h with
  | tup _ hr hl => exact ⟨_, _, rfl, .inl hr, hl⟩
  | tupK hk hl => exact ⟨_, _, rfl, .inr hk, hl⟩
theorem Tx.tuple {v : V} {ds : List D} (h : Tx K W H v (.tuple ds)) : ∃ a xs, v = .ref a ∧ SqT K H a xs ∧ RxL K W H xs ds := by
  rcases h with h | ⟨a, rfl, h⟩
  · exact h.tuple
  · exact h.elim
theorem Tx.rxT {v : V} {ds : List D} (h : Tx K W H v (.tuple ds)) : Rx K W H v (.tuple ds) := by
  rcases h with h | ⟨a, rfl, h⟩
  · exact h
  · exact h.elim
theorem Tx.dict {v : V} {es : List (D × D)} (h : Tx K W H v (.dict es)) : ∃ a kvs, v = .ref a ∧ L2.Rd H a (.dK kvs) ∧ RxK K W H kvs es := by
  rcases h with h | ⟨a, rfl, xs, e, r⟩
  · cases h with
    | dic _ hr hl => exact ⟨_, _, rfl, hr, hl⟩
  · exact ⟨a, xs, rfl, .inl e, r⟩
theorem Tx.int {v : V} {i : Int} (h : Tx K W H v (.int i)) : v = .int i := by
  rcases h with h | ⟨a, rfl, h⟩
  · cases h; rfl
  · exact h.elim
theorem Tx.str {v : V} {i : Str} (h : Tx K W H v (.str i)) : v = .str i := by
  rcases h with h | ⟨a, rfl, h⟩
  · cases h; rfl
  · exact h.elim
theorem Tx.bool {v : V} {i : Bool} (h : Tx K W H v (.bool i)) : v = .bl i := by
  rcases h with h | ⟨a, rfl, h⟩
  · cases h; rfl
  · exact h.elim
theorem Tx.none {v : V} (h : Tx K W H v .none) : v = .non := by
  rcases h with h | ⟨a, rfl, h⟩
  · cases h; rfl
  · exact h.elim
end

/-! ### trees off the heap itself -/
section
variable {X : Cx} {pins : List (Addr × Obj)} {σ : L2.St} {H : Hp} {s : Shared} {W : Addr → Prop}
theorem keyD_reads {h : Heap} {k : Key} {u : Value} (r : keyIs k u = true) : Reads h u (keyD k) [] := by
  rcases keyIs_shape r with ⟨i, t, rfl, rfl⟩ | ⟨x, t, rfl, rfl⟩
  · exact .int i t
  · exact .str x t
theorem pairs_keys {h : Heap} {P : Program} {w : World} : ∀ {es : List DictEntry} {vs : List (Key × Value)}, Pairs (mixKind P w) es vs → ∃ as, ReadsAll h (es.map (·.key)) (vs.map fun p => keyD p.1) as
  | _, _, .nil => ⟨_, .nil⟩
  | _, _, .cons h1 _ t => by
    obtain ⟨as, r⟩ := pairs_keys (h := h) t
    exact ⟨_, .cons (keyD_reads h1) r⟩
theorem pairs_vals {P : Program} {w : World} : ∀ {es : List DictEntry} {vs : List (Key × Value)}, Pairs (mixKind P w) es vs → es.map (·.val) = vs.map (·.2)
  | _, _, .nil => rfl
  | _, _, .cons _ h2 t => by rw [List.map_cons, List.map_cons, pairs_vals t, h2]
theorem kv_keys : ∀ {kvs : List (Key × V)} {vs : List (Key × Value)}, KV kvs vs → kvs.map (·.1) = vs.map (·.1)
  | _, _, .nil => rfl
  | _, _, .cons h t => by rw [List.map_cons, List.map_cons, kv_keys t, h.1]
theorem rxk_keys {K : PySem.W.Frag} : ∀ {kvs : List (Key × V)} {es : List (D × D)}, RxK K W H kvs es → es.map (·.1) = kvs.map fun p => keyD p.1
  | _, [], h => by cases h; rfl
  | _, (_, _) :: _, h => by
    cases h with
    | cons _ t => rw [List.map_cons, List.map_cons, rxk_keys t]
mutual
theorem Rx.reads (I : Inv X pins σ H s) : ∀ (d : D) (v : V) (u : Value), Rx X.K W H v d → RelV v u → ∃ as, Reads s.heap u d as
  | .none, _, _, h, r => by
    cases h
    cases r
    exact ⟨_, Reads.none⟩
  | .bool b, _, _, h, r => by
    cases h
    cases r
    exact ⟨_, Reads.bool b⟩
  | .int i, _, _, h, r => by
    cases h
    obtain ⟨t, rfl⟩ := r
    exact ⟨_, Reads.int i t⟩
  | .str x, _, _, h, r => by
    cases h
    obtain ⟨t, rfl⟩ := r
    exact ⟨_, Reads.str x t⟩
  | .list ds, _, _, h, r => by
    cases h with
    | lst hw hs ha =>
      cases r
      obtain ⟨its, rv, ⟨o, n, ho, hc, _, hd⟩, _⟩ := I.list (.inl hs)
      obtain ⟨as, hr⟩ := RxL.reads I ds _ its ha rv
      exact ⟨_, Reads.list ho hc hd hr⟩
  | .tuple ds, _, _, h, r => by
    cases h with
    | tup hw hs ha =>
      cases r
      obtain ⟨its, rv, ⟨o, ho, hc, n, hd⟩, _⟩ := I.tuple (.inl hs)
      obtain ⟨as, hr⟩ := RxL.reads I ds _ its ha rv
      exact ⟨_, Reads.tuple ho hc hd hr⟩
    | tupK hs ha =>
      cases r
      obtain ⟨its, rv, ⟨o, ho, hc, n, hd⟩, _⟩ := I.tuple (.inr hs)
      obtain ⟨as, hr⟩ := RxL.reads I ds _ its ha rv
      exact ⟨_, Reads.tuple ho hc hd hr⟩
  | .dict es, _, _, h, r => by
    cases h with
    | @dic _ kvs _ hw hs ha =>
      cases r
      obtain ⟨z, y, vs, kv, o, es', ep, ho, hx, hd, hk, hp, nd⟩ := hs.ok I.hok
      obtain ⟨as, h1⟩ := pairs_keys (h := s.heap) hp
      obtain ⟨bs, h2⟩ := RxK.reads I es _ _ ha kv
      refine ⟨_, Reads.dict (as := as) (bs := bs) ho hx.1 hd ?_ ?_⟩
      · rw [rxk_keys ha]
        have e : (vs.map fun p => keyD p.1) = kvs.map fun p => keyD p.1 := by
          rw [show (vs.map fun p => keyD p.1) = (vs.map (·.1)).map keyD by rw [List.map_map]; rfl, ← kv_keys kv, List.map_map]
          rfl
        rw [e] at h1
        exact h1
      · rw [pairs_vals hp]
        exact h2
theorem RxL.reads (I : Inv X pins σ H s) : ∀ (ds : List D) (vs : List V) (us : List Value), RxL X.K W H vs ds → Vals vs us → ∃ as, ReadsAll s.heap us ds as
  | [], _, _, h, r => by
    cases h
    cases r
    exact ⟨_, ReadsAll.nil⟩
  | d :: ds, _, _, h, r => by
    cases h with
    | cons h1 h2 =>
      cases r with
      | cons r1 r2 =>
        obtain ⟨as, q1⟩ := Rx.reads I d _ _ h1 r1
        obtain ⟨bs, q2⟩ := RxL.reads I ds _ _ h2 r2
        exact ⟨_, ReadsAll.cons q1 q2⟩
theorem RxK.reads (I : Inv X pins σ H s) : ∀ (es : List (D × D)) (kvs : List (Key × V)) (vs : List (Key × Value)), RxK X.K W H kvs es → KV kvs vs → ∃ as, ReadsAll s.heap (vs.map (·.2)) (es.map (·.2)) as
  | [], _, _, h, r => by
    cases h
    cases r
    exact ⟨_, ReadsAll.nil⟩
  | (_, d) :: es, _, _, h, r => by
    cases h with
    | cons h1 h2 =>
      cases r with
      | cons r1 r2 =>
        obtain ⟨as, q1⟩ := Rx.reads I d _ _ h1 r1.2
        obtain ⟨bs, q2⟩ := RxK.reads I es _ _ h2 r2
        exact ⟨_, ReadsAll.cons q1 q2⟩
end
theorem Tx.reads (I : Inv X pins σ H s) {d : D} {v : V} {u : Value} (h : Tx X.K W H v d) (r : RelV v u) : ∃ as, Reads s.heap u d as := Rx.reads I d v u h.bare r
end

/-! ### tables of code objects: those of the defs that make lambdas, and the names that are told in them -/
class Tb where
  T : List (Addr × Str)
  pw : Option (Program × World)
instance (priority := low) tb0 : Tb := ⟨[], Option.none⟩
/-- neither a table nor known by a look alone -/
def PlainO (u : HO) : Prop := (∀ ps, u ≠ .tbl ps) ∧ ∀ f, u ≠ .ext f
theorem plain_lst {xs : List V} : PlainO (.lst xs) := ⟨fun _ z => (by cases z), fun _ z => (by cases z)⟩
theorem plain_dK {kvs : List (Key × V)} : PlainO (.dK kvs) := ⟨fun _ z => (by cases z), fun _ z => (by cases z)⟩
theorem plain_frz {o : Obj} {u : HO} : PlainO (.frz o u) := ⟨fun _ z => (by cases z), fun _ z => (by cases z)⟩
theorem OwnAt.plain {K : PySem.W.Frag} {W : Addr → Prop} {H : Hp} {a : Addr} : ∀ {d : D}, OwnAt K W H a d → ∃ u, H a = Option.some u ∧ PlainO u
  | .list _, ⟨_, e, _⟩ => ⟨_, e, plain_lst⟩
  | .dict _, ⟨_, e, _⟩ => ⟨_, e, plain_dK⟩
theorem tab_ne {H : Hp} {P a : Addr} {q : Str} {u : HO} (t : LamX.TabS H P q) (h : H a = some u) (p : PlainO u) : P ≠ a := by
  obtain ⟨ps, e, _⟩ := t
  intro z
  rw [z, h] at e
  exact p.1 ps (Option.some.inj e)
theorem tab_upd {H : Hp} {P a : Addr} {q : Str} {u o : HO} (t : LamX.TabS H P q) (h : H a = some u) (p : PlainO u) : LamX.TabS (upd H a o) P q := by
  have n := tab_ne t h p
  obtain ⟨ps, e1, e2, e3⟩ := t
  refine ⟨ps, by rw [upd_ne n]; exact e1, e2, fun pos cv hc => ?_⟩
  obtain ⟨c, z1, z2⟩ := e3 pos cv hc
  refine ⟨c, z1, ?_⟩
  rw [upd_ne (fun z => ?_)]
  · exact z2
  · rw [z, h] at z2
    exact p.2 _ (Option.some.inj z2)
section
variable [Tb]
def TbA : Addr → Prop := fun a => ∃ x ∈ Tb.T, a = x.1
def TbOk (O : Addr → Prop) (H : Hp) : Prop := ∀ x ∈ Tb.T, O x.1 ∧ LamX.TabS H x.1 x.2
theorem TbOk.more {O O' : Addr → Prop} {H : Hp} (t : TbOk O H) (h : ∀ a, O a → O' a) : TbOk O' H := fun x hx => ⟨h _ (t x hx).1, (t x hx).2⟩
theorem TbOk.same {O : Addr → Prop} {H H' : Hp} (t : TbOk O H) (s : Same H H') : TbOk O H' := fun x hx => ⟨(t x hx).1, (t x hx).2.ext fun b o e => s b o e⟩
theorem TbOk.upd {O : Addr → Prop} {H : Hp} {a : Addr} {u o : HO} (t : TbOk O H) (h : H a = some u) (p : PlainO u) : TbOk O (L2.upd H a o) := fun x hx => ⟨(t x hx).1, tab_upd (t x hx).2 h p⟩
theorem TbOk.sub {O : Addr → Prop} {H : Hp} (t : TbOk O H) {a : Addr} (h : TbA a) : O a := by
  obtain ⟨x, hx, rfl⟩ := h
  exact (t x hx).1
theorem TbOk.to {O : Addr → Prop} {H : Hp} (t : TbOk O H) : TbOk TbA H := fun x hx => ⟨⟨x, hx, rfl⟩, (t x hx).2⟩
theorem TbOk.not {O : Addr → Prop} {H : Hp} (t : TbOk O H) {a : Addr} {u : HO} (e : H a = some u) (p : PlainO u) : ¬ TbA a := by
  rintro ⟨x, hx, rfl⟩
  exact tab_ne (t x hx).2 e p rfl
theorem TbOk.notE {O : Addr → Prop} {H : Hp} (t : TbOk O H) {a : Addr} {f : Heap → Prop} (e : H a = some (.ext f)) : ¬ TbA a := by
  rintro ⟨x, hx, rfl⟩
  obtain ⟨ps, e2, _⟩ := (t x hx).2
  rw [e] at e2
  cases e2
theorem TbOk.tr {O : Addr → Prop} {H : Hp} (t : TbOk O H) {a : Addr} (h : TbA a) : ∃ o, H a = some o := by
  obtain ⟨x, hx, rfl⟩ := h
  obtain ⟨ps, e, _⟩ := (t x hx).2
  exact ⟨_, e⟩
theorem TbOk.but {O O' : Addr → Prop} {H : Hp} (t : TbOk O H) (h : ∀ a, TbA a → O' a) : TbOk O' H := fun x hx => ⟨h _ ⟨x, hx, rfl⟩, (t x hx).2⟩
end
variable [Tb]
/-! ### slots -/
/-- objects that are no trees: sets of rows of whole numbers, sets of whole numbers -/
inductive OB where
  | tset (ks : List (List Int))
  | iset (ns : List Int)
def SetIO (w : World) (a : Addr) (S : Int → Bool) (n : Nat) : HO := .ext fun h => SetR w h a S n
def ObAt (K : PySem.W.Frag) (W : Addr → Prop) (H : Hp) (a : Addr) : OB → Prop
  | .tset ks => ∃ P w L, Tb.pw = some (P, w) ∧ H a = some (SetTO P w a L) ∧ (∀ p ∈ L, p.2 ∈ ks) ∧ (∀ k ∈ ks, k ∈ L.map (·.2)) ∧ ∀ p ∈ L, Rx K W H (.ref p.1) (.tuple (p.2.map PyData.int))
  | .iset ns => ∃ P w S n, Tb.pw = some (P, w) ∧ H a = some (SetIO w a S n) ∧ n ≤ ns.length ∧ ∀ i, S i = decide (i ∈ ns)
section
variable {K : PySem.W.Frag} {W W' : Addr → Prop} {H H' : Hp} {a : Addr} {o : OB}
theorem ObAt.go (k : ∀ a u, L2.Rd H a u → ¬ W a → L2.Rd H' a u) (w : ∀ a o, H a = some o → W' a → W a) (ha : ∀ o, H a = some o → H' a = some o) (h : ObAt K W H a o) : ObAt K W' H' a o := by
  cases o with
  | tset ks =>
    obtain ⟨P, w', L, e0, e1, h1, h2, h3⟩ := h
    exact ⟨P, w', L, e0, ha _ e1, h1, h2, fun p hp => Rx.go k w _ _ (h3 p hp)⟩
  | iset ns =>
    obtain ⟨P, w', S, n, e0, e1, h1⟩ := h
    exact ⟨P, w', S, n, e0, ha _ e1, h1⟩
theorem ObAt.ext (h : ObAt K W H a o) : ∃ f, H a = Option.some (.ext f) := by
  cases o with
  | tset ks => obtain ⟨P, w', L, e0, e1, h1, h2, h3⟩ := h; exact ⟨_, e1⟩
  | iset ns => obtain ⟨P, w', S, n, e0, e1, h1⟩ := h; exact ⟨_, e1⟩
theorem ObAt.less (h : ObAt K W H a o) (w : ∀ a, W' a → W a) : ObAt K W' H a o := h.go (fun _ _ e _ => e) (fun a _ _ z => w a z) fun _ e => e
theorem ObAt.plus {p : Addr} (h : ObAt K W H a o) (n : H p = Option.none) : ObAt K (CF.plus W p) H a o := h.go (fun _ _ e _ => e) (fun a o e z => z.elim id fun z => by subst z; rw [n] at e; cases e) fun _ e => e
end
inductive Slot where
  | un
  | dat (d : D)
  | own (d : D)
  | ob (o : OB)
def SlotRel (K : PySem.W.Frag) (W O : Addr → Prop) (H : Hp) (x : Option V) : Slot → Prop
  | .un => True
  | .dat d => ∃ v, x = some v ∧ Rx K W H v d
  | .own d => ∃ a, x = some (.ref a) ∧ O a ∧ OwnAt K W H a d
  | .ob o => ∃ a, x = some (.ref a) ∧ O a ∧ ObAt K W H a o
structure SRel (K : PySem.W.Frag) (W O : Addr → Prop) (H : Hp) (σ : L2.St) (ρ : List Slot) : Prop where
  len : σ.length = ρ.length
  ow : ∀ a, O a → W a
  tr : ∀ a, W a → ∃ o, H a = some o
  sl : ∀ (i : Nat) (x : Option V) (r : Slot), σ[i]? = some x → ρ[i]? = some r → SlotRel K W O H x r
  ne : ∀ (i j : Nat) (a : Addr) (d e : D), i ≠ j → ρ[i]? = some (.own d) → ρ[j]? = some (.own e) → σ[i]? = some (some (.ref a)) → σ[j]? = some (some (.ref a)) → False
  tb : TbOk O H

/-! ### the monad -/
structure Exc where
  cls : Str
  args : List D
inductive R (α : Type) where
  | ok (a : α) (ρ : List Slot)
  | ex (e : Exc) (ρ : List Slot)
abbrev M (α : Type) := List Slot → Option (R α)
def M.pure {α : Type} (a : α) : M α := fun ρ => some (.ok a ρ)
def M.bind {α β : Type} (m : M α) (f : α → M β) : M β := fun ρ =>
  match m ρ with
  | some (.ok a ρ') => f a ρ'
  | some (.ex e ρ') => some (.ex e ρ')
  | none => none
instance : Monad M where
  pure := M.pure
  bind := M.bind
/-- a value that may lack -/
def lift {α : Type} (o : Option α) : M α := fun ρ => o.map fun a => .ok a ρ

/-- own error classes and the field that each keeps -/
def exFields : List (Str × Str) := [(Str.ofString "HasRing", Str.ofString "ring"), (Str.ofString "IsOpen", Str.ofString "name"), (Str.ofString "IsSure", Str.ofString "value"), (Str.ofString "Never", Str.ofString "index"), (Str.ofString "NoDeed", Str.ofString "index"), (Str.ofString "NoIndex", Str.ofString "index"), (Str.ofString "NoName", Str.ofString "name"), (Str.ofString "NoRow", Str.ofString "row"), (Str.ofString "NoTable", Str.ofString "cut"), (Str.ofString "NoText", Str.ofString "line"), (Str.ofString "NoValue", Str.ofString "value"), (Str.ofString "NotFirm", Str.ofString "name"), (Str.ofString "NotSure", Str.ofString "places"), (Str.ofString "NotTold", Str.ofString "pairs"), (Str.ofString "TooMany", Str.ofString "most"), (Str.ofString "Wrong", Str.ofString "place")]
/-- the exception's class and fields -/
def ExcRel (K : PySem.W.Frag) (W : Addr → Prop) (H : Hp) (c : Value) (dx : Option Addr) (e : Exc) : Prop :=
  ∃ a, c = .ref a ∧ PySem.W.nsIn K mainGlobals e.cls = some (some (.ref a)) ∧
    ((dx = none ∧ e.args = []) ∨ ∃ d f v y, dx = some d ∧ H d = some (.xd [(f, v)]) ∧ exFields.lookup e.cls = some f ∧ e.args = [y] ∧ Rx K W H v y)

/-- what is to hold behind a run that came to r -/
def Out (K : PySem.W.Frag) (Ew : WX) (W O : Addr → Prop) (σ : L2.St) (H : Hp) {α : Type} (Q : α → List Slot → Hp → Prop) : Option (R α) → Prop
  | some (.ok a ρ') => ∀ H', KeepO W O H H' → SRel K W O H' σ ρ' → Q a ρ' H'
  | some (.ex e ρ') => ∀ c dx H', KeepO W O H H' → SRel K W O H' σ ρ' → ExcRel K W H' c dx e → Ew c dx σ H'
  | none => False
section
variable {K : PySem.W.Frag} {Ew : WX} {W O : Addr → Prop} {σ : L2.St} {H H1 : Hp} {α β : Type} {Q Q' : α → List Slot → Hp → Prop} {r : Option (R α)} {ρ : List Slot}
theorem Out.shift (h : Out K Ew W O σ H Q r) (k : KeepO W O H H1) : Out K Ew W O σ H1 Q r := by
  match r, h with
  | some (.ok a ρ'), h => exact fun H' k' R => h H' (k.trans k') R
  | some (.ex e ρ'), h => exact fun c dx H' k' R x => h c dx H' (k.trans k') R x
theorem Out.mono (h : Out K Ew W O σ H Q r) (f : ∀ a ρ' H', KeepO W O H H' → SRel K W O H' σ ρ' → Q a ρ' H' → Q' a ρ' H') : Out K Ew W O σ H Q' r := by
  match r, h with
  | some (.ok a ρ'), h => exact fun H' k' R => f a ρ' H' k' R (h H' k' R)
  | some (.ex e ρ'), h => exact h
theorem Out.bind {m : M α} {f : α → M β} {Q : β → List Slot → Hp → Prop} (h : Out K Ew W O σ H Q ((m >>= f) ρ)) : Out K Ew W O σ H (fun a ρ1 H1 => Out K Ew W O σ H1 Q (f a ρ1)) (m ρ) := by
  have h : Out K Ew W O σ H Q (M.bind m f ρ) := h
  unfold M.bind at h
  generalize m ρ = r at h
  match r, h with
  | some (.ok a ρ'), h => exact fun H' k' R => Out.shift h k'
  | some (.ex e ρ'), h => exact h
theorem Out.lift {o : Option α} (h : Out K Ew W O σ H Q (lift o ρ)) (R : SRel K W O H σ ρ) : ∃ a, o = some a ∧ ∀ H', KeepO W O H H' → SRel K W O H' σ ρ → Q a ρ H' := by
  cases o with
  | none => exact h.elim
  | some a => exact ⟨a, rfl, h⟩
theorem Out.pure {a : α} (h : Out K Ew W O σ H Q ((pure a : M α) ρ)) : ∀ H', KeepO W O H H' → SRel K W O H' σ ρ → Q a ρ H' := h
end

section
variable {K : PySem.W.Frag} {W O : Addr → Prop} {H H' : Hp} {σ : L2.St} {ρ : List Slot}
theorem Rx.keepO {v : V} {d : D} (h : Rx K W H v d) (R : SRel K W O H σ ρ) (k : KeepO W O H H') : Rx K W H' v d :=
  Rx.go (fun a u e n => k.rest a u e n) (fun _ _ _ z => z) d v h
theorem RxL.keepO {vs : List V} {ds : List D} (h : RxL K W H vs ds) (R : SRel K W O H σ ρ) (k : KeepO W O H H') : RxL K W H' vs ds :=
  RxL.go (fun a u e n => k.rest a u e n) (fun _ _ _ z => z) ds vs h
/-- more is tracked -/
theorem SRel.same (R : SRel K W O H σ ρ) (s : Same H H') : SRel K W O H' σ ρ := by
  refine ⟨R.len, R.ow, fun a w => ?_, fun i x r h1 h2 => ?_, R.ne, R.tb.same s⟩
  · obtain ⟨o, e⟩ := R.tr a w
    exact ⟨o, s a o e⟩
  · have q := R.sl i x r h1 h2
    cases r with
    | un => trivial
    | dat d => obtain ⟨v, e, h⟩ := q; exact ⟨v, e, h.same s⟩
    | own d => obtain ⟨a, e, o, h⟩ := q; exact ⟨a, e, o, h.go (fun a u e _ => rd_same s e) (fun _ _ _ z => z) fun o e => s a o e⟩
    | ob d => obtain ⟨a, e, o, h⟩ := q; exact ⟨a, e, o, h.go (fun a u e _ => rd_same s e) (fun _ _ _ z => z) fun o e => s a o e⟩
theorem SRel.plus {p : Addr} {o : HO} (R : SRel K W O H σ ρ) (n : H p = none) (e : H' p = some o) (s : Same H H') : SRel K (CF.plus W p) (CF.plus O p) H' σ ρ := by
  refine ⟨R.len, fun a z => z.elim (fun q => .inl (R.ow a q)) .inr, fun a w => ?_, fun i x r h1 h2 => ?_, R.ne, (R.tb.same s).more fun _ z => .inl z⟩
  · rcases w with w | rfl
    · obtain ⟨o, e⟩ := R.tr a w
      exact ⟨o, s a o e⟩
    · exact ⟨o, e⟩
  · have q := R.sl i x r h1 h2
    cases r with
    | un => trivial
    | dat d => obtain ⟨v, e, h⟩ := q; exact ⟨v, e, (h.plus n).same s⟩
    | own d =>
      obtain ⟨a, e, oo, h⟩ := q
      exact ⟨a, e, .inl oo, (h.plus n).go (fun a u e _ => rd_same s e) (fun _ _ _ z => z) fun o e => s a o e⟩
    | ob d =>
      obtain ⟨a, e, oo, h⟩ := q
      exact ⟨a, e, .inl oo, (h.plus n).go (fun a u e _ => rd_same s e) (fun _ _ _ z => z) fun o e => s a o e⟩
theorem SRel.less {W' O' : Addr → Prop} (R : SRel K W' O' H σ ρ) (w : ∀ a, W a → W' a) (ow : ∀ a, O a → W a) (oo : ∀ (i : Nat) (a : Addr) (d : D), ρ[i]? = some (.own d) → σ[i]? = some (some (.ref a)) → O a) (bb : ∀ (i : Nat) (a : Addr) (d : OB), ρ[i]? = some (.ob d) → σ[i]? = some (some (.ref a)) → O a) (tt : ∀ a, TbA a → O a) : SRel K W O H σ ρ := by
  refine ⟨R.len, ow, fun a z => R.tr a (w a z), fun i x r h1 h2 => ?_, R.ne, R.tb.but tt⟩
  have q := R.sl i x r h1 h2
  cases r with
  | un => trivial
  | dat d => obtain ⟨v, e, h⟩ := q; exact ⟨v, e, h.less w⟩
  | own d =>
    obtain ⟨a, e, o, h⟩ := q
    subst e
    exact ⟨a, rfl, oo i a d h2 h1, h.less w⟩
  | ob d =>
    obtain ⟨a, e, o, h⟩ := q
    subst e
    exact ⟨a, rfl, bb i a d h2 h1, h.less w⟩
theorem ob_ne {K : PySem.W.Frag} {W : Addr → Prop} {H : Hp} {a b : Addr} {o : OB} {u : HO} (h : ObAt K W H b o) (e : H a = some u) (p : PlainO u) : b ≠ a := fun z => by
  obtain ⟨f, q⟩ := h.ext
  rw [z, e] at q
  exact p.2 f (Option.some.inj q)
/-- a slot's value -/
theorem SRel.dat (R : SRel K W O H σ ρ) {i : Nat} {d : D} (h : ρ[i]? = some (.dat d)) : ∃ v, σ[i]? = some (some v) ∧ Rx K W H v d := by
  obtain ⟨hi, _⟩ := List.getElem?_eq_some_iff.mp h
  have hj : i < σ.length := by rw [R.len]; exact hi
  have e : σ[i]? = some σ[i] := List.getElem?_eq_getElem hj
  obtain ⟨v, e2, r⟩ := R.sl i _ _ e h
  exact ⟨v, by rw [e, e2], r⟩
theorem SRel.own (R : SRel K W O H σ ρ) {i : Nat} {d : D} (h : ρ[i]? = some (.own d)) : ∃ a, σ[i]? = some (some (.ref a)) ∧ O a ∧ OwnAt K W H a d := by
  obtain ⟨hi, _⟩ := List.getElem?_eq_some_iff.mp h
  have hj : i < σ.length := by rw [R.len]; exact hi
  have e : σ[i]? = some σ[i] := List.getElem?_eq_getElem hj
  obtain ⟨v, e2, r⟩ := R.sl i _ _ e h
  exact ⟨v, by rw [e, e2], r⟩
theorem SRel.ob (R : SRel K W O H σ ρ) {i : Nat} {d : OB} (h : ρ[i]? = some (.ob d)) : ∃ a, σ[i]? = some (some (.ref a)) ∧ O a ∧ ObAt K W H a d := by
  obtain ⟨hi, _⟩ := List.getElem?_eq_some_iff.mp h
  have hj : i < σ.length := by rw [R.len]; exact hi
  have e : σ[i]? = some σ[i] := List.getElem?_eq_getElem hj
  obtain ⟨v, e2, r⟩ := R.sl i _ _ e h
  exact ⟨v, by rw [e, e2], r⟩
end

/-! ### the readings of trees -/
/-- a tree -/
def tD (K : PySem.W.Frag) (Ew : WX) (m : M D) : TE := fun σ H Q => ∃ W O ρ, SRel K W O H σ ρ ∧ Out K Ew W O σ H (fun d _ H' => ∀ v, Rx K W H' v d → Q v H') (m ρ)
/-- an object of its own -/
def tF (K : PySem.W.Frag) (Ew : WX) (m : M D) : TE := fun σ H Q => ∃ W O ρ, SRel K W O H σ ρ ∧
  Out K Ew W O σ H (fun d ρ' H' => ∀ a, SRel K (plus W a) (plus O a) H' σ ρ' → H a = none → OwnAt K (plus W a) H' a d → Q (.ref a) H') (m ρ)
/-- a thing that is looked at: a tree, or what stands in a slot -/
inductive LV where
  | dat (d : D)
  | slot (i : Nat)
def LRel (K : PySem.W.Frag) (W : Addr → Prop) (H : Hp) (σ : L2.St) (v : V) : LV → Prop
  | .dat d => Rx K W H v d
  | .slot i => σ[i]? = some (some v)
def tL (K : PySem.W.Frag) (Ew : WX) (m : M LV) : TE := fun σ H Q => ∃ W O ρ, SRel K W O H σ ρ ∧ Out K Ew W O σ H (fun d _ H' => ∀ v, LRel K W H' σ v d → Q v H') (m ρ)
/-- a test -/
def tT (K : PySem.W.Frag) (Ew : WX) (m : M Bool) : TT := fun σ H Q => ∃ W O ρ, SRel K W O H σ ρ ∧ Out K Ew W O σ H (fun b _ H' => Q b H') (m ρ)
/-- a list of trees -/
def tDs (K : PySem.W.Frag) (Ew : WX) (m : M (List D)) : TA := fun σ H Q => ∃ W O ρ, SRel K W O H σ ρ ∧ Out K Ew W O σ H (fun ds _ H' => ∀ vs, RxL K W H' vs ds → Q vs H') (m ρ)
inductive LRels (K : PySem.W.Frag) (W : Addr → Prop) (H : Hp) (σ : L2.St) : List V → List LV → Prop
  | nil : LRels K W H σ [] []
  | cons {v : V} {vs : List V} {l : LV} {ls : List LV} : LRel K W H σ v l → LRels K W H σ vs ls → LRels K W H σ (v :: vs) (l :: ls)
def tLs (K : PySem.W.Frag) (Ew : WX) (m : M (List LV)) : TA := fun σ H Q => ∃ W O ρ, SRel K W O H σ ρ ∧ Out K Ew W O σ H (fun ds _ H' => ∀ vs, LRels K W H' σ vs ds → Q vs H') (m ρ)

theorem PE.imp {X : Cx} {e : Expr} {t t' : TE} (h : PE X e t) (i : ∀ σ H Q, t' σ H Q → t σ H Q) : PE X e t' := ⟨fun pins s σ H Q I hw => h.run pins s σ H Q I (i σ H Q hw)⟩
theorem PT.imp {X : Cx} {e : Expr} {t t' : TT} (h : PT X e t) (i : ∀ σ H Q, t' σ H Q → t σ H Q) : PT X e t' := ⟨fun pins s σ H Q I hw => h.run pins s σ H Q I (i σ H Q hw)⟩
theorem PW.imp {X : Cx} {e : Expr} {t t' : TT} (h : PW X e t) (i : ∀ σ H Q, t' σ H Q → t σ H Q) : PW X e t' := ⟨fun wh pins s σ H Q I hw => h.run wh pins s σ H Q I (i σ H Q hw)⟩
theorem PA.imp {X : Cx} {es : List Expr} {t t' : TA} (h : PA X es t) (i : ∀ σ H Q, t' σ H Q → t σ H Q) : PA X es t' := ⟨fun pos pins s σ H Q I hw => h.run pos pins s σ H Q I (i σ H Q hw)⟩
end CF
end
section
/-! CF, part b0: a tuple times any int. -/
namespace CF
open PySem PySem.Spec PyProof.Rows L2
theorem tuple_mul1 (l : Addr) (items : Array Value) (n : Nat) (dd : Option Addr) (sl : Array (Option Value)) (x : Int) (u : Tok) (c0 : (decide (x < -(2 ^ 63)) || decide (x ≥ 2 ^ 63)) = false) (c1 : (items.isEmpty || x == 1) = true) :
    Meets (Builtin.«tuple.__mul__» ⟨[.ref l, .int x u], []⟩) (fun _ R s => s.heap.get? l = some { cls := .type "tuple", dict := dd, data := .seq items n, slots := sl } ∧ R (.ok (.ret (Value.ref l))) s) :=
  .of_wp fun prog w A R s h => by
    obtain ⟨hp, g, d, tk, os⟩ := s
    obtain ⟨hl, h⟩ := h
    have f1 := AutoSeq1.idx_int
    wp_walk using wpAny_loadPart' hl
    repeat (first
      | (refine wpAny_ite_false (decide_eq_false (by rw [c0]; exact Bool.false_ne_true)) ?_; wp_walk using wpAny_loadPart' hl)
      | (refine wpAny_ite_true (decide_eq_true (by rw [c1])) ?_; wp_walk using wpAny_loadPart' hl))
    exact ⟨_, rfl, h⟩
theorem tuple_mul0 (l : Addr) (items : Array Value) (n : Nat) (dd : Option Addr) (sl : Array (Option Value)) (x : Int) (u : Tok) (c0 : (decide (x < -(2 ^ 63)) || decide (x ≥ 2 ^ 63)) = false) (c1 : (items.isEmpty || x == 1) = false) (c2 : (decide (x ≤ 0) || items.isEmpty) = true) :
    Meets (Builtin.«tuple.__mul__» ⟨[.ref l, .int x u], []⟩) (fun _ R s => s.heap.get? l = some { cls := .type "tuple", dict := dd, data := .seq items n, slots := sl } ∧
      R (.ok (.ret (Value.ref s.heap.objs.size))) { s with heap := s.heap.push { cls := Value.type "tuple", data := Data.seq #[] }, toks := s.toks }) :=
  .of_wp fun prog w A R s h => by
    obtain ⟨hp, g, d, tk, os⟩ := s
    obtain ⟨hl, h⟩ := h
    have f1 := AutoSeq1.idx_int
    wp_walk using wpAny_loadPart' hl
    repeat (first
      | (refine wpAny_ite_false (decide_eq_false (by rw [c0]; exact Bool.false_ne_true)) ?_; wp_walk using wpAny_loadPart' hl)
      | (refine wpAny_ite_false (decide_eq_false (by rw [c1]; exact Bool.false_ne_true)) ?_; wp_walk using wpAny_loadPart' hl)
      | (refine wpAny_ite_true (decide_eq_true (by rw [c2])) ?_; wp_walk using wpAny_loadPart' hl))
    exact ⟨_, rfl, h⟩
/-- a tuple times an int: once is the tuple itself -/
def rRepA (K : PySem.W.Frag) : R2 := fun x y H Q => ∃ l k xs, x = .ref l ∧ y = .int k ∧ SqT K H l xs ∧ xs ≠ [] ∧ -(2 ^ 63) ≤ k ∧ k ≤ 1000 ∧ xs.length ≤ 1000 ∧ (k = 1 → Q (.ref l) H) ∧ (k ≠ 1 → ∀ p, H p = none → Q (.ref p) (upd H p (.tup (List.replicate k.toNat xs).flatten)))
theorem op_repA {X : Cx} : OpR X (binaryOp .Mult) (rRepA X.K) := by
  intro pins s σ H x y v u Q I rx ry h
  obtain ⟨l, k, xs, rfl, rfl, hT, hne, h1, h2, hz, q1, q⟩ := h
  by_cases k2 : 2 ≤ k
  · exact op_repT pins s σ H _ _ v u Q I rx ry ⟨l, k, xs, rfl, rfl, hT, hne, k2, h2, hz, q (by omega)⟩
  cases rx
  obtain ⟨t, rfl⟩ := ry
  obtain ⟨its, r, ⟨⟨cls, dd, data, sl⟩, ho, hc, n, hd⟩, hs⟩ := I.tuple hT
  simp only at hc hd
  subst hc hd
  have hle : its.length = xs.length := r.length.symm
  have hn : its ≠ [] := fun e => hne (by
    rw [e] at hle
    exact List.eq_nil_of_length_eq_zero hle.symm)
  have hi : its.toArray.isEmpty = false := by
    cases its with
    | nil => exact absurd rfl hn
    | cons a b => rfl
  have c0 : (decide (k < -(2 ^ 63)) || decide (k ≥ 2 ^ 63)) = false := by
    rw [decide_eq_false (by omega), decide_eq_false (by omega)] <;> rfl
  by_cases k1 : k = 1
  · have c1 : (its.toArray.isEmpty || k == 1) = true := by
      rw [hi, Bool.false_or]
      exact beq_iff_eq.mpr k1
    refine wpAny_binaryOp_repeat_ref (T := "tuple") (U := "int") (by decide) ⟨_, ho, rfl⟩ (fun s' => typeIs_int s' k t) noFill_tuple_mul F.fills_int_mul F.slot_int_rmul repeat_tuple F.slot_int_index.lookup
      (call_meets F.slot_int_rmul (typeIs_int s k t) F.entry_int_rmul (F.args_int_rmul_2 _ _) (int_rmul_tuple k t l its.toArray n dd sl)
        ⟨ho, rfl, ⟨_, ho, rfl⟩, call_meets F.slot_tuple_mul ⟨_, ho, rfl⟩ F.entry_tuple_mul (F.args_tuple_mul_2 _ _) (tuple_mul1 l its.toArray n dd sl k t c0 c1) ⟨ho, ?_⟩⟩)
    exact ⟨.ref l, H, I, rfl, q1 k1⟩
  · have c1 : (its.toArray.isEmpty || k == 1) = false := by
      rw [hi, Bool.false_or]
      exact beq_eq_false_iff_ne.mpr k1
    have c2 : (decide (k ≤ 0) || its.toArray.isEmpty) = true := by
      rw [decide_eq_true (by omega)]
      rfl
    refine wpAny_binaryOp_repeat_ref (T := "tuple") (U := "int") (by decide) ⟨_, ho, rfl⟩ (fun s' => typeIs_int s' k t) noFill_tuple_mul F.fills_int_mul F.slot_int_rmul repeat_tuple F.slot_int_index.lookup
      (call_meets F.slot_int_rmul (typeIs_int s k t) F.entry_int_rmul (F.args_int_rmul_2 _ _) (int_rmul_tuple k t l its.toArray n dd sl)
        ⟨ho, rfl, ⟨_, ho, rfl⟩, call_meets F.slot_tuple_mul ⟨_, ho, rfl⟩ F.entry_tuple_mul (F.args_tuple_mul_2 _ _) (tuple_mul0 l its.toArray n dd sl k t c0 c1 c2) ⟨ho, ?_⟩⟩)
    have e : (List.replicate k.toNat xs).flatten = [] := by
      rw [show k.toNat = 0 by omega]
      rfl
    have q := q k1
    rw [e] at q
    refine ⟨.ref s.heap.objs.size, _, I.laid (t' := s.toks) (o := .tup []) (fun b ob q => Heap.get?_push_of_some _ q) (Nat.le_refl _) ?_, rfl, q _ (I.hok.fresh (Nat.le_refl _))⟩
    exact ⟨by rw [sizeLine_eq]; decide, [], .nil, IsTup.new _ _⟩
end CF
end
section
/-! CF, part b: operators over trees. -/
namespace CF
open PySem PySem.Spec PyProof.Rows L2

/-- a two-place operation over trees: f says its value -/
def rD (K : PySem.W.Frag) (f : D → D → Option D) : R2 := fun x y H Q => ∃ (W : Addr → Prop) (d e r : D), (∀ a, W a → ∃ o, H a = some o) ∧ Tx K W H x d ∧ Tx K W H y e ∧ f d e = some r ∧
  ∀ w H', Same H H' → Rx K W H' w r → Q w H'
/-- .. whose value is a new object -/
def rF (K : PySem.W.Frag) (f : D → D → Option D) : R2 := fun x y H Q => ∃ (W : Addr → Prop) (d e r : D), (∀ a, W a → ∃ o, H a = some o) ∧ Tx K W H x d ∧ Tx K W H y e ∧ f d e = some r ∧
  ∀ p H', Same H H' → H p = none → OwnAt K (plus W p) H' p r → Q (.ref p) H'
/-- a call over trees -/
inductive TxL (K : PySem.W.Frag) (W : Addr → Prop) (H : Hp) : List V → List D → Prop
  | nil : TxL K W H [] []
  | cons {v : V} {vs : List V} {d : D} {ds : List D} : Tx K W H v d → TxL K W H vs ds → TxL K W H (v :: vs) (d :: ds)
def rC (K : PySem.W.Frag) (f : List D → Option D) : List V → Hp → VK → Prop := fun xs H Q => ∃ (W : Addr → Prop) (ds : List D) (r : D), (∀ a, W a → ∃ o, H a = some o) ∧ TxL K W H xs ds ∧ f ds = some r ∧
  ∀ w H', Same H H' → Rx K W H' w r → Q w H'
def rCF (K : PySem.W.Frag) (f : List D → Option D) : List V → Hp → VK → Prop := fun xs H Q => ∃ (W : Addr → Prop) (ds : List D) (r : D), (∀ a, W a → ∃ o, H a = some o) ∧ TxL K W H xs ds ∧ f ds = some r ∧
  ∀ p H', Same H H' → H p = none → OwnAt K (plus W p) H' p r → Q (.ref p) H'
theorem own_rx {K : PySem.W.Frag} {W : Addr → Prop} {H H' : Hp} {p : Addr} {r : D} (tr : ∀ a, W a → ∃ o, H a = some o) (n : H p = none) (h : OwnAt K (plus W p) H' p r) : Rx K W H' (.ref p) r :=
  (h.less fun _ z => .inl z).rx fun z => by
    obtain ⟨o, e⟩ := tr p z
    rw [n] at e
    cases e
section
variable {X : Cx}
theorem OpR.imp {f : Value → Value → Sem Value} {r r' : R2} (h : OpR X f r) (i : ∀ x y H Q, r' x y H Q → r x y H Q) : OpR X f r' := fun pins s σ H x y v u Q I rx ry q => h pins s σ H x y v u Q I rx ry (i x y H Q q)
theorem CallR.imp {f : Value} {r r' : List V → Hp → VK → Prop} (h : CallR X f r) (i : ∀ xs H Q, r' xs H Q → r xs H Q) : CallR X f r' := fun pins s σ H xs us Q I rx q => h pins s σ H xs us Q I rx (i xs H Q q)
theorem rF_rD {K : PySem.W.Frag} {f : D → D → Option D} {x y : V} {H : Hp} {Q : VK} (h : rD K f x y H Q) : rF K f x y H Q := by
  obtain ⟨W, d, e, r, tr, hx, hy, hf, q⟩ := h
  exact ⟨W, d, e, r, tr, hx, hy, hf, fun p H' s n o => q _ H' s (own_rx tr n o)⟩
theorem own_new {K : PySem.W.Frag} {W : Addr → Prop} {H : Hp} {p : Addr} {xs : List V} {ds : List D} (n : H p = none) (h : RxL K W H xs ds) : OwnAt K (plus W p) (upd H p (.lst xs)) p (.list ds) :=
  ⟨xs, upd_same, (h.plus n).same (Same.upd n)⟩
theorem tup_new {K : PySem.W.Frag} {W : Addr → Prop} {H : Hp} {p : Addr} {xs : List V} {ds : List D} (tr : ∀ a, W a → ∃ o, H a = some o) (n : H p = none) (h : RxL K W H xs ds) : Rx K W (upd H p (.tup xs)) (.ref p) (.tuple ds) :=
  .tup (fun z => by
    obtain ⟨o, e⟩ := tr p z
    rw [n] at e
    cases e) (.inl upd_same) (h.same (Same.upd n))

/-! ### arithmetic -/
def small (i : Int) : Bool := decide (-(2 ^ 64) < i ∧ i < 2 ^ 64)
def addL : D → D → Option D
  | .list xs, .list ys => if xs.length + ys.length ≤ sizeLine then some (.list (xs ++ ys)) else none
  | _, _ => none
def addD : D → D → Option D
  | .int i, .int j => some (.int (i + j))
  | .str x, .str y => if x.length + y.length ≤ sizeLine then some (.str (x ++ y)) else none
  | .tuple xs, .tuple ys => if xs.length + ys.length ≤ sizeLine then some (.tuple (xs ++ ys)) else none
  | .list xs, .list ys => if xs.length + ys.length ≤ sizeLine then some (.list (xs ++ ys)) else none
  | _, _ => none
def subD : D → D → Option D
  | .int i, .int j => some (.int (i - j))
  | _, _ => none
def repD (xs : List D) (k : Int) : Option D := if xs ≠ [] ∧ -(2 ^ 63) ≤ k ∧ k ≤ 1000 ∧ xs.length ≤ 1000 then some (.tuple (List.replicate k.toNat xs).flatten) else none
def mulD : D → D → Option D
  | .int i, .int j => if small i || small j then some (.int (i * j)) else none
  | .tuple xs, .int k => repD xs k
  | _, _ => none
def fdivD : D → D → Option D
  | .int i, .int j => if 0 < j ∧ j < 1073741824 then some (.int (i / j)) else none
  | _, _ => none
def modD : D → D → Option D
  | .int i, .int j => if 0 < j then some (.int (i % j)) else none
  | _, _ => none
def powD : D → D → Option D
  | .int i, .int j => if 0 ≤ j ∧ j ≤ 1000000 ∧ i.natAbs < 2 ^ 64 then some (.int (i ^ j.toNat)) else none
  | _, _ => none

theorem op_addL : OpR X (binaryOp .Add) (rF X.K addL) := by
  intro pins s σ H x y v u Q I rx ry ⟨W, d, e, r, tr, hx, hy, hf, q⟩
  cases d with
  | list xs =>
    cases e with
    | list ys =>
      simp only [addL] at hf
      split at hf
      · rename_i hz
        cases hf
        obtain ⟨a, vs, rfl, sa, la⟩ := hx.list
        obtain ⟨b, ws, rfl, sb, lb⟩ := hy.list
        cases rx
        cases ry
        obtain ⟨z1, its, n1, r1, e1⟩ := sa.ok I.hok
        obtain ⟨z2, its2, n2, r2, e2⟩ := sb.ok I.hok
        have l1 := la.length
        have l2 := lb.length
        have m1 := r1.length
        have m2 := r2.length
        refine PySem.P.add_list e1 e2 ?_ (by rw [List.size_toArray, List.size_toArray]; omega)
        rw [show its.toArray ++ its2.toArray = (its ++ its2).toArray by simp]
        exact ⟨.ref _, _, I.lnew (t' := s.toks) (r1.append r2) (by rw [List.length_append]; omega), rfl, q _ _ (Same.upd I.fresh) I.fresh (own_new I.fresh (la.append lb))⟩
      · cases hf
    | _ => cases hf
  | _ => cases hf
theorem op_addD : OpR X (binaryOp .Add) (rD X.K addD) := by
  intro pins s σ H x y v u Q I rx ry ⟨W, d, e, r, tr, hx, hy, hf, q⟩
  cases d with
  | list xs =>
    cases e with
    | list ys => exact op_addL pins s σ H x y v u Q I rx ry (rF_rD ⟨W, _, _, r, tr, hx, hy, hf, q⟩)
    | _ => cases hf
  | int i =>
    cases e with
    | int j =>
      cases hf
      exact op_add pins s σ H x y v u Q I rx ry ⟨i, j, hx.int, hy.int, q _ _ (Same.refl H) (.int _)⟩
    | _ => cases hf
  | str i =>
    cases e with
    | str j =>
      simp only [addD] at hf
      split at hf
      · rename_i hz
        cases hf
        exact op_add_str pins s σ H x y v u Q I rx ry ⟨i, j, hx.str, hy.str, hz, q _ _ (Same.refl H) (.str _)⟩
      · cases hf
    | _ => cases hf
  | tuple xs =>
    cases e with
    | tuple ys =>
      simp only [addD] at hf
      split at hf
      · rename_i hz
        cases hf
        obtain ⟨a, vs, rfl, sa, la⟩ := hx.tuple
        obtain ⟨b, ws, rfl, sb, lb⟩ := hy.tuple
        have l1 := la.length
        have l2 := lb.length
        have hx' : Rx X.K W H (.ref a) (.tuple xs) := by
          rcases hx with hx | ⟨_, _, hx⟩
          · exact hx
          · exact hx.elim
        have hy' : Rx X.K W H (.ref b) (.tuple ys) := by
          rcases hy with hy | ⟨_, _, hy⟩
          · exact hy
          · exact hy.elim
        refine op_catA pins s σ H _ _ v u Q I rx ry ⟨a, b, vs, ws, rfl, rfl, sa, sb, by omega, fun e => ?_, fun _ e => ?_, fun _ _ p n => ?_⟩
        · subst e
          have e1 : xs = [] := List.eq_nil_of_length_eq_zero (by simpa using l1.symm)
          subst e1
          exact q _ _ (Same.refl H) hy'
        · subst e
          have e1 : ys = [] := List.eq_nil_of_length_eq_zero (by simpa using l2.symm)
          subst e1
          rw [List.append_nil] at q
          exact q _ _ (Same.refl H) hx'
        · exact q _ _ (Same.upd n) (tup_new tr n (la.append lb))
      · cases hf
    | _ => cases hf
  | _ => cases hf
theorem op_subD : OpR X (binaryOp .Sub) (rD X.K subD) := by
  intro pins s σ H x y v u Q I rx ry ⟨W, d, e, r, tr, hx, hy, hf, q⟩
  cases d with
  | int i =>
    cases e with
    | int j =>
      cases hf
      exact op_sub pins s σ H x y v u Q I rx ry ⟨i, j, hx.int, hy.int, q _ _ (Same.refl H) (.int _)⟩
    | _ => cases hf
  | _ => cases hf
theorem op_mulD : OpR X (binaryOp .Mult) (rD X.K mulD) := by
  intro pins s σ H x y v u Q I rx ry ⟨W, d, e, r, tr, hx, hy, hf, q⟩
  cases d with
  | int i =>
    cases e with
    | int j =>
      simp only [mulD] at hf
      split at hf
      · rename_i hz
        cases hf
        have hc : CMul i j := by
          rw [Bool.or_eq_true] at hz
          exact hz.imp of_decide_eq_true of_decide_eq_true
        exact op_mul pins s σ H x y v u Q I rx ry ⟨i, j, hx.int, hy.int, hc, q _ _ (Same.refl H) (.int _)⟩
      · cases hf
    | _ => cases hf
  | tuple xs =>
    cases e with
    | int k =>
      simp only [mulD, repD] at hf
      split at hf
      · rename_i hz
        cases hf
        obtain ⟨z1, z2, z3, z4⟩ := hz
        obtain ⟨a, vs, rfl, sa, la⟩ := hx.tuple
        have l1 := la.length
        have hx' : Rx X.K W H (.ref a) (.tuple xs) := by
          rcases hx with hx | ⟨_, _, hx⟩
          · exact hx
          · exact hx.elim
        refine op_repA pins s σ H _ y v u Q I rx ry ⟨a, k, vs, rfl, hy.int, sa, fun e => ?_, z2, z3, by omega, fun e => ?_, fun _ p n => ?_⟩
        · subst e
          exact z1 (List.eq_nil_of_length_eq_zero (by simpa using l1.symm))
        · subst e
          rw [show (List.replicate (Int.toNat 1) xs).flatten = xs by simp] at q
          exact q _ _ (Same.refl H) hx'
        · refine q _ _ (Same.upd n) (tup_new tr n ?_)
          generalize k.toNat = m
          induction m with
          | zero => exact .nil
          | succ m ih => rw [List.replicate_succ, List.replicate_succ, List.flatten_cons, List.flatten_cons]; exact la.append ih
      · cases hf
    | _ => cases hf
  | _ => cases hf
theorem op_fdivD : OpR X (binaryOp .FloorDiv) (rD X.K fdivD) := by
  intro pins s σ H x y v u Q I rx ry ⟨W, d, e, r, tr, hx, hy, hf, q⟩
  cases d with
  | int i =>
    cases e with
    | int j =>
      simp only [fdivD] at hf
      split at hf
      · rename_i hz
        cases hf
        exact op_fdiv pins s σ H x y v u Q I rx ry ⟨i, j, hx.int, hy.int, hz, q _ _ (Same.refl H) (.int _)⟩
      · cases hf
    | _ => cases hf
  | _ => cases hf
theorem op_modD : OpR X (binaryOp .Mod) (rD X.K modD) := by
  intro pins s σ H x y v u Q I rx ry ⟨W, d, e, r, tr, hx, hy, hf, q⟩
  cases d with
  | int i =>
    cases e with
    | int j =>
      simp only [modD] at hf
      split at hf
      · rename_i hz
        cases hf
        exact op_mod pins s σ H x y v u Q I rx ry ⟨i, j, hx.int, hy.int, hz, q _ _ (Same.refl H) (.int _)⟩
      · cases hf
    | _ => cases hf
  | _ => cases hf
theorem op_powD : OpR X (binaryOp .Pow) (rD X.K powD) := by
  intro pins s σ H x y v u Q I rx ry ⟨W, d, e, r, tr, hx, hy, hf, q⟩
  cases d with
  | int i =>
    cases e with
    | int j =>
      simp only [powD] at hf
      split at hf
      · rename_i hz
        cases hf
        exact op_pow pins s σ H x y v u Q I rx ry ⟨i, j, hx.int, hy.int, hz, q _ _ (Same.refl H) (.int _)⟩
      · cases hf
    | _ => cases hf
  | _ => cases hf

/-! ### comparisons -/
def isTupC : D → Bool
  | .tuple _ => true
  | _ => false
def cmpC (d e : D) : Bool := isTupC d && PySem.W.alike d e && decide (d.depth ≤ 60)
def bothD (c : Int → Int → Bool) (g : D → D → Bool) : D → D → Option D
  | .int i, .int j => some (.bool (c i j))
  | d, e => if cmpC d e then some (.bool (g d e)) else none
theorem cmp_any {op : CmpOp} {c : Int → Int → Bool} {g : D → D → Bool} (hu : X.A.units + 64 < cLine) (h : OpR X (compareOp op) (rI0 fun i j => .bl (c i j)))
    (hd : ∀ (s : Shared) (a b : Value) (da db : D) (as bs : List Addr) (Q : Value → Shared → Prop), Reads s.heap a da as → Reads s.heap b db bs → PySem.W.alike da db = true → da ≠ .none → X.A.units + min da.depth db.depth < cLine → Q (.bool (g da db)) s → wpAny (model X.prog X.w) X.A (compareOp op a b) Q X.xe s) : OpR X (compareOp op) (rD X.K (bothD c g)) := by
  intro pins s σ H x y v u Q I rx ry ⟨W, d, e, r, tr, hx, hy, hf, q⟩
  unfold bothD at hf
  split at hf
  · cases hf
    rename_i i j
    exact h pins s σ H x y v u Q I rx ry ⟨i, j, hx.int, hy.int, q _ _ (Same.refl H) (.bl _)⟩
  · split at hf
    · rename_i hc
      cases hf
      unfold cmpC at hc
      rw [Bool.and_eq_true, Bool.and_eq_true] at hc
      obtain ⟨⟨c1, c2⟩, c3⟩ := hc
      have hdp := of_decide_eq_true c3
      have hm : min d.depth e.depth ≤ d.depth := Nat.min_le_left _ _
      obtain ⟨as, r1⟩ := hx.reads I rx
      obtain ⟨bs, r2⟩ := hy.reads I ry
      exact hd s v u d e as bs _ r1 r2 c2 (fun z => by rw [z] at c1; cases c1) (by omega) ⟨.bl _, H, I, rfl, q _ _ (Same.refl H) (.bl _)⟩
    · cases hf
def ltD : D → D → Option D := bothD (fun i j => decide (i < j)) fun d e => PySem.W.dataLt d e
def leD : D → D → Option D := bothD (fun i j => decide (i ≤ j)) fun d e => !PySem.W.dataLt e d
def gtD : D → D → Option D := bothD (fun i j => decide (j < i)) fun d e => PySem.W.dataLt e d
def geD : D → D → Option D := bothD (fun i j => decide (j ≤ i)) fun d e => !PySem.W.dataLt d e
theorem op_ltD (hu : X.A.units + 64 < cLine) : OpR X (compareOp .Lt) (rD X.K ltD) := cmp_any hu op_lt fun _ _ _ _ _ _ _ _ ra rb h hn hu hq => PySem.W.lt_data ra rb h hn hu hq
theorem op_leD (hu : X.A.units + 64 < cLine) : OpR X (compareOp .LtE) (rD X.K leD) := cmp_any hu op_le fun _ _ _ _ _ _ _ _ ra rb h hn hu hq => PySem.W.le_data ra rb h hn hu hq
theorem op_gtD (hu : X.A.units + 64 < cLine) : OpR X (compareOp .Gt) (rD X.K gtD) := cmp_any hu op_gt fun _ _ _ _ _ _ _ _ ra rb h hn hu hq => PySem.W.gt_data ra rb h hn hu hq
theorem op_geD (hu : X.A.units + 64 < cLine) : OpR X (compareOp .GtE) (rD X.K geD) := cmp_any hu op_ge fun _ _ _ _ _ _ _ _ ra rb h hn hu hq => PySem.W.ge_data ra rb h hn hu hq
/-- is None, is not None -/
def isNon : D → Bool
  | .none => true
  | _ => false
def isND (d e : D) : Option D := if isNon e then some (.bool (isNon d)) else none
def notND (d e : D) : Option D := if isNon e then some (.bool (!isNon d)) else none
theorem tx_none {K : PySem.W.Frag} {W : Addr → Prop} {H : Hp} {x : V} {d : D} (h : Tx K W H x d) : decide (x = .non) = isNon d := by
  rcases h with h | ⟨a, rfl, h⟩
  · cases h <;> rfl
  · cases d <;> first | exact h.elim | rfl
theorem op_isND : OpR X (compareOp .Is) (rD X.K isND) := by
  intro pins s σ H x y v u Q I rx ry ⟨W, d, e, r, tr, hx, hy, hf, q⟩
  cases e with
  | none =>
    simp only [isND, isNon, if_true] at hf
    cases hf
    refine op_isN pins s σ H x y v u Q I rx ry ⟨hy.none, ?_⟩
    rw [tx_none hx]
    exact q _ _ (Same.refl H) (.bl _)
  | _ => simp [isND, isNon] at hf
theorem op_notND : OpR X (compareOp .IsNot) (rD X.K notND) := by
  intro pins s σ H x y v u Q I rx ry ⟨W, d, e, r, tr, hx, hy, hf, q⟩
  cases e with
  | none =>
    simp only [notND, isNon, if_true] at hf
    cases hf
    refine op_notN pins s σ H x y v u Q I rx ry ⟨hy.none, ?_⟩
    rw [tx_none hx]
    exact q _ _ (Same.refl H) (.bl _)
  | _ => simp [notND, isNon] at hf
end
end CF
end
section
/-! CF, part c: places, slices, looking up, calls of built-ins over trees. -/
namespace CF
open PySem PySem.Spec PyProof.Rows L2

def keyEq : D → D → Bool
  | .int i, .int j => i == j
  | .str x, .str y => x == y
  | _, _ => false
def lookD : List (D × D) → D → Option D
  | [], _ => none
  | (k, d) :: es, x => if keyEq k x then some d else lookD es x
def isKey : D → Bool
  | .int _ => true
  | .str _ => true
  | _ => false
def keyOf : D → Option Key
  | .int i => some (.inl i)
  | .str x => some (.inr x)
  | _ => none
theorem keyEq_iff (k l : Key) : keyEq (keyD k) (keyD l) = decide (k = l) := by
  cases k <;> cases l <;> simp only [keyD, keyEq] <;> rw [Bool.eq_iff_iff] <;> simp
section
variable {K : PySem.W.Frag} {W : Addr → Prop} {H : Hp}
theorem look_val : ∀ {kvs : List (Key × V)} {es : List (D × D)} {k : Key} {d : D}, RxK K W H kvs es → lookD es (keyD k) = some d → ∃ v, valV kvs k = some v ∧ Rx K W H v d
  | _, [], _, _, _, e => by cases e
  | _, (_, _) :: es, k, d, h, e => by
    cases h with
    | @cons l v kvs _ _ r t =>
      simp only [lookD] at e
      rw [keyEq_iff] at e
      by_cases q : l = k
      · subst q
        simp at e
        subst e
        exact ⟨v, valV_pos rfl, r⟩
      · rw [decide_eq_false q] at e
        obtain ⟨w, h1, h2⟩ := look_val t (by simpa using e)
        refine ⟨w, ?_, h2⟩
        rw [← h1]
        simp [valV, List.find?_cons, q]
theorem look_none : ∀ {kvs : List (Key × V)} {es : List (D × D)} {k : Key}, RxK K W H kvs es → lookD es (keyD k) = none → valV kvs k = none
  | _, [], _, h, _ => by cases h; rfl
  | _, (_, _) :: es, k, h, e => by
    cases h with
    | @cons l v kvs _ _ r t =>
      simp only [lookD] at e
      rw [keyEq_iff] at e
      by_cases q : l = k
      · rw [decide_eq_true q] at e
        simp at e
      · rw [decide_eq_false q] at e
        have h1 := look_none t (k := k) (by simpa using e)
        rw [← h1]
        simp [valV, List.find?_cons, q]
theorem Rx.key {v : V} {k : Key} (h : Tx K W H v (keyD k)) : v = kV k := by
  cases k with
  | inl i => exact h.int
  | inr x => exact h.str
theorem RxL.atI {xs : List V} {ds : List D} {i : Int} {d : D} (h : RxL K W H xs ds) (e : L2.atI ds i = some d) : ∃ v, L2.atI xs i = some v ∧ Rx K W H v d := by
  unfold L2.atI at e ⊢
  rw [h.length]
  cases q : ixN ds.length i with
  | none => rw [q] at e; cases e
  | some j =>
    rw [q] at e
    exact h.get e
end
/-- d[i] -/
def ixD : D → D → Option D
  | .list xs, .int i => L2.atI xs i
  | .tuple xs, .int i => L2.atI xs i
  | .str z, .int i => if z.length ≤ sizeLine then (L2.atI z.cps.toList i).map fun c => .str ⟨#[c]⟩ else none
  | .dict es, k => if isKey k then lookD es k else none
  | _, _ => none
theorem isKey_of {d : D} (h : isKey d = true) : ∃ k : Key, d = keyD k := by
  cases d <;> first | exact ⟨.inl _, rfl⟩ | exact ⟨.inr _, rfl⟩ | cases h
section
variable {X : Cx}
theorem ix_D (hu : X.A.units + 1 < cLine) : IxR X (rD X.K ixD) := by
  intro value slice pins s σ H x y v u Q I rx ry ⟨W, d, e, r, tr, hx, hy, hf, q⟩ hs
  cases d with
  | list xs =>
    cases e with
    | int i =>
      obtain ⟨a, vs, rfl, sa, la⟩ := hx.list
      obtain ⟨w, hw, rw'⟩ := la.atI hf
      exact ix_list value slice pins s σ H _ y v u Q I rx ry ⟨a, vs, i, w, rfl, hy.int, .inl sa, hw, q _ _ (Same.refl H) rw'⟩ hs
    | _ => cases hf
  | tuple xs =>
    cases e with
    | int i =>
      obtain ⟨a, vs, rfl, sa, la⟩ := hx.tuple
      obtain ⟨w, hw, rw'⟩ := la.atI hf
      exact ix_tup value slice pins s σ H _ y v u Q I rx ry ⟨a, vs, i, w, rfl, hy.int, sa, hw, q _ _ (Same.refl H) rw'⟩ hs
    | _ => cases hf
  | str z =>
    cases e with
    | int i =>
      simp only [ixD] at hf
      split at hf
      · rename_i hz
        cases q' : L2.atI z.cps.toList i with
        | none => rw [q'] at hf; cases hf
        | some c =>
          rw [q'] at hf
          cases hf
          exact ix_str value slice pins s σ H _ y v u Q I rx ry ⟨z, i, c, hx.str, hy.int, hz, q', q _ _ (Same.refl H) (.str _)⟩ hs
      · cases hf
    | _ => cases hf
  | dict es =>
    simp only [ixD] at hf
    split at hf
    · rename_i hk
      obtain ⟨k, rfl⟩ := isKey_of hk
      obtain ⟨a, kvs, rfl, sa, la⟩ := hx.dict
      obtain ⟨w, hw, rw'⟩ := look_val la hf
      have ey : y = kV k := Rx.key hy
      have g : DGet H a y (some w) := .inl ⟨kvs, k, sa, ey, hw.symm⟩
      cases rx
      exact tail_any (dict_typeIs I g) PySem.F.slot_dict_getitem.lookup (d_getItem hu I g ry fun w' s3 I3 rw2 => ⟨w, H, I3, rw2, q _ _ (Same.refl H) rw'⟩) hs
    · cases hf
  | _ => cases hf

/-! ### slices -/
def cutL {α : Type} (xs : List α) (lo hi : Option Int) : List α := (xs.drop (HT.sIx xs.length 0 lo)).take (HT.sIx xs.length xs.length hi - HT.sIx xs.length 0 lo)
theorem RxL.cut {K : PySem.W.Frag} {W : Addr → Prop} {H : Hp} {xs : List V} {ds : List D} (h : RxL K W H xs ds) (lo hi : Option Int) : RxL K W H (cutV xs lo hi) (cutL ds lo hi) := by
  unfold cutV cutL
  rw [h.length]
  exact RxL.take _ (RxL.drop _ h)
def slL (d : D) (lo hi : Option Int) : Option D := match d with
  | .list xs => some (.list (cutL xs lo hi))
  | _ => none
def slD (d : D) (lo hi : Option Int) : Option D := match d with
  | .list xs => some (.list (cutL xs lo hi))
  | .tuple xs => some (.tuple (cutL xs lo hi))
  | .str z => if z.length ≤ sizeLine then some (.str (cutS z lo hi)) else none
  | _ => none
def rSD (K : PySem.W.Frag) : V → Option Int → Option Int → Hp → VK → Prop := fun x lo hi H Q => ∃ (W : Addr → Prop) (d r : D), (∀ a, W a → ∃ o, H a = some o) ∧ Tx K W H x d ∧ slD d lo hi = some r ∧
  ∀ w H', Same H H' → Rx K W H' w r → Q w H'
def rSF (K : PySem.W.Frag) : V → Option Int → Option Int → Hp → VK → Prop := fun x lo hi H Q => ∃ (W : Addr → Prop) (d r : D), (∀ a, W a → ∃ o, H a = some o) ∧ Tx K W H x d ∧ slL d lo hi = some r ∧
  ∀ p H', Same H H' → H p = none → OwnAt K (plus W p) H' p r → Q (.ref p) H'
theorem sl_F : SlR X (rSF X.K) := by
  intro pins s σ H x v vl vu lo hi sl Q I rx hs pl pu ⟨W, d, r, tr, hx, hf, q⟩
  cases d with
  | list xs =>
    cases hf
    obtain ⟨a, vs, rfl, sa, la⟩ := hx.list
    exact sl_list pins s σ H _ v vl vu lo hi sl Q I rx hs pl pu ⟨a, vs, rfl, .inl sa, fun p n => q p _ (Same.upd n) n (own_new n (la.cut lo hi))⟩
  | _ => cases hf
theorem cutL_all {α : Type} {xs : List α} {lo hi : Option Int} (h : HT.sIx xs.length 0 lo = 0 ∧ HT.sIx xs.length xs.length hi = xs.length) : cutL xs lo hi = xs := by
  unfold cutL
  rw [h.1, h.2]
  simp
theorem sl_D : SlR X (rSD X.K) := by
  intro pins s σ H x v vl vu lo hi sl Q I rx hs pl pu ⟨W, d, r, tr, hx, hf, q⟩
  cases d with
  | list xs =>
    exact sl_F pins s σ H x v vl vu lo hi sl Q I rx hs pl pu ⟨W, _, r, tr, hx, hf, fun p H' sm n o => q _ H' sm (own_rx tr n o)⟩
  | tuple xs =>
    cases hf
    have hx' := hx.rxT
    obtain ⟨a, vs, rfl, sa, la⟩ := hx.tuple
    have ll := la.length
    refine sl_tupA pins s σ H _ v vl vu lo hi sl Q I rx hs pl pu ⟨a, vs, rfl, sa, fun h => ?_, fun h p n => q _ _ (Same.upd n) (tup_new tr n (la.cut lo hi))⟩
    rw [ll] at h
    rw [cutL_all h] at q
    exact q _ _ (Same.refl H) hx'
  | str z =>
    simp only [slD] at hf
    split at hf
    · rename_i hz
      cases hf
      exact sl_str pins s σ H _ v vl vu lo hi sl Q I rx hs pl pu ⟨z, hx.str, hz, q _ _ (Same.refl H) (.str _)⟩
    · cases hf
  | _ => cases hf

/-! ### calls of built-ins -/
def lenC : List D → Option D
  | [.list xs] => some (.int xs.length)
  | [.tuple xs] => some (.int xs.length)
  | [.dict es] => some (.int es.length)
  | [.str z] => if z.length ≤ sizeLine then some (.int z.length) else none
  | _ => none
theorem RxK.length {K : PySem.W.Frag} {W : Addr → Prop} {H : Hp} : ∀ {kvs : List (Key × V)} {es : List (D × D)}, RxK K W H kvs es → kvs.length = es.length
  | _, [], h => by cases h; rfl
  | _, (_, _) :: _, h => by
    cases h with
    | cons _ t => rw [List.length_cons, List.length_cons, RxK.length t]
theorem TxL.one {K : PySem.W.Frag} {W : Addr → Prop} {H : Hp} {xs : List V} {d : D} (h : TxL K W H xs [d]) : ∃ x, xs = [x] ∧ Tx K W H x d := by
  cases h with
  | cons h1 h2 => cases h2; exact ⟨_, rfl, h1⟩
theorem TxL.two {K : PySem.W.Frag} {W : Addr → Prop} {H : Hp} {xs : List V} {d e : D} (h : TxL K W H xs [d, e]) : ∃ x y, xs = [x, y] ∧ Tx K W H x d ∧ Tx K W H y e := by
  cases h with
  | cons h1 h2 =>
    obtain ⟨y, rfl, h3⟩ := h2.one
    exact ⟨_, y, rfl, h1, h3⟩
theorem cr_len : CallR X (.builtin "len") (rC X.K lenC) := by
  intro pins s σ H xs us Q I rx ⟨W, ds, r, tr, hx, hf, q⟩
  unfold lenC at hf
  split at hf
  · obtain ⟨x, rfl, h⟩ := hx.one
    cases hf
    obtain ⟨a, vs, rfl, sa, la⟩ := h.list
    refine call_len_seq pins s σ H _ us Q I rx ⟨a, vs, rfl, .inl (.inl sa), ?_⟩
    rw [la.length]
    exact q _ _ (Same.refl H) (.int _)
  · obtain ⟨x, rfl, h⟩ := hx.one
    cases hf
    obtain ⟨a, vs, rfl, sa, la⟩ := h.tuple
    refine call_len_seq pins s σ H _ us Q I rx ⟨a, vs, rfl, .inr sa, ?_⟩
    rw [la.length]
    exact q _ _ (Same.refl H) (.int _)
  · obtain ⟨x, rfl, h⟩ := hx.one
    cases hf
    obtain ⟨a, kvs, rfl, sa, la⟩ := h.dict
    obtain ⟨u, rfl, ru⟩ := vals1 rx
    cases ru
    refine d_len I sa fun t s' I' => ⟨.int kvs.length, H, I', ⟨t, rfl⟩, ?_⟩
    rw [la.length]
    exact q _ _ (Same.refl H) (.int _)
  · obtain ⟨x, rfl, h⟩ := hx.one
    split at hf
    · rename_i hz
      cases hf
      exact call_len_str pins s σ H _ us Q I rx ⟨_, by rw [h.str], hz, q _ _ (Same.refl H) (.int _)⟩
    · cases hf
  · cases hf
def absC : List D → Option D
  | [.int i] => some (.int (if i < 0 then -i else i))
  | _ => none
theorem cr_abs : CallR X (.builtin "abs") (rC X.K absC) := by
  intro pins s σ H xs us Q I rx ⟨W, ds, r, tr, hx, hf, q⟩
  unfold absC at hf
  split at hf
  · obtain ⟨x, rfl, h⟩ := hx.one
    cases hf
    exact call_abs pins s σ H _ us Q I rx ⟨_, by rw [h.int], q _ _ (Same.refl H) (.int _)⟩
  · cases hf
def intC : List D → Option D
  | [.int i] => some (.int i)
  | [.bool b] => some (.int (if b then 1 else 0))
  | _ => none
theorem cr_int : CallR X (.type "int") (rC X.K intC) := by
  intro pins s σ H xs us Q I rx ⟨W, ds, r, tr, hx, hf, q⟩
  unfold intC at hf
  split at hf
  · obtain ⟨x, rfl, h⟩ := hx.one
    cases hf
    exact call_int1 pins s σ H _ us Q I rx (.inl ⟨_, by rw [h.int], q _ _ (Same.refl H) (.int _)⟩)
  · obtain ⟨x, rfl, h⟩ := hx.one
    cases hf
    exact call_int1 pins s σ H _ us Q I rx (.inr ⟨_, by rw [h.bool], q _ _ (Same.refl H) (.int _)⟩)
  · cases hf
def listC : List D → Option D
  | [.list xs] => some (.list xs)
  | [.tuple xs] => some (.list xs)
  | [.dict es] => some (.list (es.map (·.1)))
  | _ => none
theorem rxk_kV {K : PySem.W.Frag} {W : Addr → Prop} {H : Hp} : ∀ {kvs : List (Key × V)} {es : List (D × D)}, RxK K W H kvs es → RxL K W H (kvs.map fun p => kV p.1) (es.map (·.1))
  | _, [], h => by cases h; exact .nil
  | _, (_, _) :: _, h => by
    cases h with
    | @cons k _ _ _ _ _ t =>
      refine .cons ?_ (rxk_kV t)
      cases k
      · exact .int _
      · exact .str _
theorem cr_list (hc : X.calm = true) : CallR X (.type "list") (rCF X.K listC) := by
  intro pins s σ H xs us Q I rx ⟨W, ds, r, tr, hx, hf, q⟩
  unfold listC at hf
  split at hf
  · obtain ⟨x, rfl, h⟩ := hx.one
    cases hf
    obtain ⟨a, vs, rfl, sa, la⟩ := h.list
    exact call_list_of pins s σ H _ us Q I rx ⟨a, vs, rfl, .inl (.inl sa), fun p n => q p _ (Same.upd n) n (own_new n la)⟩
  · obtain ⟨x, rfl, h⟩ := hx.one
    cases hf
    obtain ⟨a, vs, rfl, sa, la⟩ := h.tuple
    exact call_list_of pins s σ H _ us Q I rx ⟨a, vs, rfl, .inr sa, fun p n => q p _ (Same.upd n) n (own_new n la)⟩
  · obtain ⟨x, rfl, h⟩ := hx.one
    cases hf
    obtain ⟨a, kvs, rfl, sa, la⟩ := h.dict
    exact call_listD hc pins s σ H _ us Q I rx ⟨a, kvs, rfl, sa, fun p n => q p _ (Same.upd n) n (own_new n (rxk_kV la))⟩
  · cases hf
def tupleC : List D → Option D
  | [.list xs] => some (.tuple xs)
  | [.tuple xs] => some (.tuple xs)
  | _ => none
theorem cr_tuple : CallR X (.type "tuple") (rC X.K tupleC) := by
  intro pins s σ H xs us Q I rx ⟨W, ds, r, tr, hx, hf, q⟩
  unfold tupleC at hf
  split at hf
  · obtain ⟨x, rfl, h⟩ := hx.one
    cases hf
    obtain ⟨a, vs, rfl, sa, la⟩ := h.list
    exact call_tuple_of pins s σ H _ us Q I rx ⟨a, vs, rfl, .inl ⟨.inl sa, fun p n => q _ _ (Same.upd n) (tup_new tr n la)⟩⟩
  · obtain ⟨x, rfl, h⟩ := hx.one
    cases hf
    have h' := h.rxT
    obtain ⟨a, vs, rfl, sa, la⟩ := h.tuple
    exact call_tuple_of pins s σ H _ us Q I rx ⟨a, vs, rfl, .inr ⟨sa, q _ _ (Same.refl H) h'⟩⟩
  · cases hf
/-- min(a, b), max(a, b) of ints -/
def min2C : List D → Option D
  | [.int i, .int j] => some (.int (if j < i then j else i))
  | _ => none
def max2C : List D → Option D
  | [.int i, .int j] => some (.int (if j > i then j else i))
  | _ => none
theorem cr_min2 (hc : X.calm = true) : CallR X (.builtin "min") (rC X.K min2C) := by
  intro pins s σ H xs us Q I rx ⟨W, ds, r, tr, hx, hf, q⟩
  unfold min2C at hf
  split at hf
  · obtain ⟨x, y, rfl, h1, h2⟩ := hx.two
    cases hf
    exact call_min2 hc pins s σ H _ us Q I rx ⟨_, _, by rw [h1.int, h2.int], q _ _ (Same.refl H) (.int _)⟩
  · cases hf
theorem cr_max2 (hc : X.calm = true) : CallR X (.builtin "max") (rC X.K max2C) := by
  intro pins s σ H xs us Q I rx ⟨W, ds, r, tr, hx, hf, q⟩
  unfold max2C at hf
  split at hf
  · obtain ⟨x, y, rfl, h1, h2⟩ := hx.two
    cases hf
    exact call_max2 hc pins s σ H _ us Q I rx ⟨_, _, by rw [h1.int, h2.int], q _ _ (Same.refl H) (.int _)⟩
  · cases hf
end
section
variable {X : Cx}
/-! ### == over texts, over trees without dicts, 64 deep, and over dicts of such -/
def stxD : D → D → Option Bool
  | .str x, .str y => some (decide (x = y))
  | _, _ => none
theorem stxD_some {d e : D} {b : Bool} (h : stxD d e = some b) : ∃ x y, d = .str x ∧ e = .str y ∧ b = decide (x = y) := by
  unfold stxD at h
  split at h
  · cases h; exact ⟨_, _, rfl, rfl, rfl⟩
  · cases h
def valOk (d : D) : Bool := SeqAt.shaped d && decide (d.depth ≤ 60)
def eqKs (es fs : List (D × D)) : Bool := es.all fun p => match lookD fs p.1 with
  | some y => PyData.eqv p.2 y
  | none => false
def dicB : D → D → Option Bool
  | .dict es, .dict fs => if (es.all fun p => valOk p.2) && fs.all fun p => valOk p.2 then some (es.length == fs.length && eqKs es fs) else none
  | _, _ => none
theorem dicB_some {d e : D} {b : Bool} (h : dicB d e = some b) : ∃ es fs, d = .dict es ∧ e = .dict fs ∧ (es.all fun p => valOk p.2) = true ∧ (fs.all fun p => valOk p.2) = true ∧ b = (es.length == fs.length && eqKs es fs) := by
  unfold dicB at h
  split at h
  · split at h
    · rename_i hz
      rw [Bool.and_eq_true] at hz
      cases h
      exact ⟨_, _, rfl, rfl, hz.1, hz.2, rfl⟩
    · cases h
  · cases h
theorem look_mem : ∀ {fs : List (D × D)} {k d : D}, lookD fs k = some d → ∃ p ∈ fs, p.2 = d
  | [], _, _, e => by cases e
  | (l, x) :: fs, k, d, e => by
    simp only [lookD] at e
    split at e
    · cases e
      exact ⟨_, List.mem_cons_self, rfl⟩
    · obtain ⟨p, hp, hd⟩ := look_mem e
      exact ⟨p, List.mem_cons_of_mem _ hp, hd⟩
theorem hits_D {pins : List (Addr × Obj)} {σ : L2.St} {s : Shared} {H : Hp} {W : Addr → Prop} (I : Inv X pins σ H s) {A : Around} (hu : A.units + 60 < cLine) {kb : List (Key × V)} {fs : List (D × D)} {vb : List (Key × Value)} (hb : RxK X.K W H kb fs) (kvb : KV kb vb) (ok : (fs.all fun p => valOk p.2) = true) :
    ∀ {ka : List (Key × V)} {es : List (D × D)} {va : List (Key × Value)}, RxK X.K W H ka es → KV ka va → (es.all fun p => valOk p.2) = true → PySem.W.KeqHits A s vb va (eqKs es fs)
  | _, [], _, ha, kva, _ => by
    cases ha
    cases kva
    exact .nil
  | _, (_, d) :: es, _, ha, kva, oka => by
    cases ha with
    | @cons l v kvs _ _ r t =>
      cases kva with
      | @cons _ q _ _ h1 h2 =>
        obtain ⟨k, u⟩ := q
        obtain ⟨h3, h4⟩ := h1
        simp only at h3 h4
        subst h3
        rw [List.all_cons, Bool.and_eq_true] at oka
        obtain ⟨o1, o2⟩ := oka
        unfold eqKs
        rw [List.all_cons]
        have rv := kvb.val l
        cases e : lookD fs (keyD l) with
        | none =>
          rw [look_none hb e] at rv
          rw [Bool.false_and]
          exact .miss (RelO.none_of rv)
        | some y =>
          obtain ⟨v', e1, r1⟩ := look_val hb e
          rw [e1] at rv
          obtain ⟨u', e2, r2⟩ := RelO.some_of rv
          obtain ⟨p, pm, pe⟩ := look_mem e
          have oky : valOk y = true := by
            rw [← pe]
            exact List.all_eq_true.mp ok p pm
          unfold valOk at o1 oky
          rw [Bool.and_eq_true] at o1 oky
          obtain ⟨as, ra⟩ := Rx.reads I _ _ _ r h4
          obtain ⟨bs, rb⟩ := Rx.reads I _ _ _ r1 r2
          have hd := of_decide_eq_true o1.2
          have hm : min d.depth y.depth ≤ d.depth := Nat.min_le_left _ _
          exact .hit e2 (SeqAt.eqAt_reads _ _ _ _ _ _ _ _ ra rb (SeqAt.canLay_of_shaped o1.1) (SeqAt.canLay_of_shaped oky.1) (by omega)) (hits_D I hu hb kvb ok t h2 o2)
/-- lists of unlike lengths -/
def lenB : D → D → Option Bool
  | .list xs, .list ys => if xs.length = ys.length then none else some false
  | _, _ => none
theorem lenB_some {d e : D} {b : Bool} (h : lenB d e = some b) : ∃ xs ys, d = .list xs ∧ e = .list ys ∧ xs.length ≠ ys.length ∧ b = false := by
  unfold lenB at h
  split at h
  · split at h
    · cases h
    · cases h
      exact ⟨_, _, rfl, rfl, by assumption, rfl⟩
  · cases h
def restB (d e : D) : Option Bool := match lenB d e with
  | some b => some b
  | none => dicB d e
def eqB (d e : D) : Option Bool := match stxD d e with
  | some b => some b
  | none => if SeqAt.shaped d && SeqAt.shaped e then some (PyData.eqv d e) else restB d e
def eqD (d e : D) : Option D := (eqB d e).map fun b => .bool b
def neD (d e : D) : Option D := (eqB d e).map fun b => .bool (!b)
theorem op_eqDD (hu : X.A.units + 64 < cLine) : OpR X (compareOp .Eq) (rD X.K eqD) := by
  intro pins s σ H x y v u Q I rx ry ⟨W, d, e, r, tr, hx, hy, hf, q⟩
  obtain ⟨b, hb, rfl⟩ := Option.map_eq_some_iff.mp hf
  unfold eqB at hb
  split at hb
  · rename_i b' hs
    cases hb
    obtain ⟨t, t', rfl, rfl, rfl⟩ := stxD_some hs
    have ex := hx.str
    have ey := hy.str
    subst ex; subst ey
    refine op_eq pins s σ H _ _ v u Q I rx ry ⟨rfl, ?_⟩
    rw [show decide (V.str t = V.str t') = decide (t = t') by rw [Bool.eq_iff_iff]; simp]
    exact q _ _ (Same.refl H) (.bl _)
  · split at hb
    · rename_i hz
      rw [Bool.and_eq_true] at hz
      cases hb
      obtain ⟨as, r1⟩ := hx.reads I rx
      obtain ⟨bs, r2⟩ := hy.reads I ry
      exact PyProof.Rows.eq_dataH r1 r2 hz.1 hz.2 hu ⟨.bl _, H, I, rfl, q _ _ (Same.refl H) (.bl _)⟩
    · unfold restB at hb
      split at hb
      · rename_i b' hl
        cases hb
        obtain ⟨xs, ys, rfl, rfl, hne, rfl⟩ := lenB_some hl
        obtain ⟨a, vs, rfl, sa, la⟩ := hx.list
        obtain ⟨c, ws, rfl, sc, lc⟩ := hy.list
        cases rx
        cases ry
        obtain ⟨its, r1, p1, _⟩ := I.list (.inl sa)
        obtain ⟨its2, r2, p2, _⟩ := I.list (.inl sc)
        have l1 := la.length
        have l2 := lc.length
        have m1 := r1.length
        have m2 := r2.length
        refine SeqAt.eq_list_lengthsAt p1.isList p2.isList (by simp; omega) (by omega) ?_
        exact ⟨.bl _, H, I, rfl, q _ _ (Same.refl H) (.bl _)⟩
      · obtain ⟨es, fs, rfl, rfl, o1, o2, rfl⟩ := dicB_some hb
        obtain ⟨a, ka, rfl, sa, la⟩ := hx.dict
        obtain ⟨c, kb, rfl, sc, lc⟩ := hy.dict
        cases rx
        cases ry
        obtain ⟨_, z1, va, r1, d1⟩ := dk_rd I.hok sa
        obtain ⟨_, z2, vb, r2, d2⟩ := dk_rd I.hok sc
        have l1 := la.length
        have l2 := lc.length
        have m1 := r1.length
        have m2 := r2.length
        refine PySem.W.keq_eq (knd := mixKind X.prog X.w) z1 z2 d1 d2 (by omega) (fun _ => hits_D I (show X.A.units + 1 + 60 < cLine by omega) lc r2 o2 la r1 o1) ?_
        rw [show va.length = es.length by omega, show vb.length = fs.length by omega]
        exact ⟨.bl _, H, I, rfl, q _ _ (Same.refl H) (.bl _)⟩
theorem op_neDD (hu : X.A.units + 64 < cLine) : OpR X (compareOp .NotEq) (rD X.K neD) := by
  intro pins s σ H x y v u Q I rx ry ⟨W, d, e, r, tr, hx, hy, hf, q⟩
  obtain ⟨b, hb, rfl⟩ := Option.map_eq_some_iff.mp hf
  unfold eqB at hb
  split at hb
  · rename_i b' hs
    cases hb
    obtain ⟨t, t', rfl, rfl, rfl⟩ := stxD_some hs
    have ex := hx.str
    have ey := hy.str
    subst ex; subst ey
    refine op_ne pins s σ H _ _ v u Q I rx ry ⟨rfl, ?_⟩
    rw [show decide (V.str t = V.str t') = decide (t = t') by rw [Bool.eq_iff_iff]; simp]
    exact q _ _ (Same.refl H) (.bl _)
  · split at hb
    · rename_i hz
      rw [Bool.and_eq_true] at hz
      cases hb
      obtain ⟨as, r1⟩ := hx.reads I rx
      obtain ⟨bs, r2⟩ := hy.reads I ry
      exact PyProof.Rows.ne_dataH r1 r2 hz.1 hz.2 hu ⟨.bl _, H, I, rfl, q _ _ (Same.refl H) (.bl _)⟩
    · unfold restB at hb
      split at hb
      · rename_i b' hl
        cases hb
        obtain ⟨xs, ys, rfl, rfl, hne, rfl⟩ := lenB_some hl
        obtain ⟨a, vs, rfl, sa, la⟩ := hx.list
        obtain ⟨c, ws, rfl, sc, lc⟩ := hy.list
        cases rx
        cases ry
        obtain ⟨its, r1, p1, _⟩ := I.list (.inl sa)
        obtain ⟨its2, r2, p2, _⟩ := I.list (.inl sc)
        have l1 := la.length
        have l2 := lc.length
        have m1 := r1.length
        have m2 := r2.length
        refine SeqAt.RcNeAt.lists_lengths p1.isList p2.isList (by simp; omega) (by omega) _ _ _ _ ?_
        exact ⟨.bl _, H, I, rfl, q _ _ (Same.refl H) (.bl _)⟩
      · obtain ⟨es, fs, rfl, rfl, o1, o2, rfl⟩ := dicB_some hb
        obtain ⟨a, ka, rfl, sa, la⟩ := hx.dict
        obtain ⟨c, kb, rfl, sc, lc⟩ := hy.dict
        cases rx
        cases ry
        obtain ⟨_, z1, va, r1, d1⟩ := dk_rd I.hok sa
        obtain ⟨_, z2, vb, r2, d2⟩ := dk_rd I.hok sc
        have l1 := la.length
        have l2 := lc.length
        have m1 := r1.length
        have m2 := r2.length
        refine PySem.W.keq_ne (knd := mixKind X.prog X.w) z1 z2 d1 d2 (by omega) (fun _ => hits_D I (show X.A.units + 1 + 60 < cLine by omega) lc r2 o2 la r1 o1) ?_
        rw [show va.length = es.length by omega, show vb.length = fs.length by omega]
        exact ⟨.bl _, H, I, rfl, q _ _ (Same.refl H) (.bl _)⟩
end
end CF
end
section
/-! CF, part d: sorted, sets of ints. -/
namespace CF
open PySem PySem.Spec PyProof.Rows L2

/-! ### sorted(xs) -/
theorem each_two {K : PySem.W.Frag} {W : Addr → Prop} {H : Hp} {X : Cx} {pins : List (Addr × Obj)} {σ : L2.St} {s : Shared} (I : Inv X pins σ H s) : ∀ {xs : List V} {ds : List D} {its : List Value}, RxL X.K W H xs ds → Vals xs its →
    PySem.W.EachIs (fun u (b : V × D) => RelV b.1 u ∧ Rx X.K W H b.1 b.2 ∧ ∃ as, Reads s.heap u b.2 as) its (xs.zip ds)
  | _, [], _, h, r => by
    cases h
    cases r
    exact .nil
  | _, d :: ds, _, h, r => by
    cases h with
    | cons h1 h2 =>
      cases r with
      | cons r1 r2 =>
        rw [List.zip_cons_cons]
        exact .cons ⟨r1, h1, Rx.reads I d _ _ h1 r1⟩ (each_two (K := K) I h2 r2)
theorem each_out {K : PySem.W.Frag} {W : Addr → Prop} {H : Hp} {P : Value → V × D → Prop} (hP : ∀ u b, P u b → RelV b.1 u ∧ Rx K W H b.1 b.2) : ∀ {out : List Value} {bs : List (V × D)}, PySem.W.EachIs P out bs → Vals (bs.map (·.1)) out ∧ RxL K W H (bs.map (·.1)) (bs.map (·.2))
  | _, _, .nil => ⟨.nil, .nil⟩
  | _, _, .cons h t => by
    obtain ⟨a, b⟩ := each_out hP t
    obtain ⟨c, d⟩ := hP _ _ h
    exact ⟨.cons c a, .cons d b⟩
theorem zip_snd {K : PySem.W.Frag} {W : Addr → Prop} {H : Hp} : ∀ {xs : List V} {ds : List D}, RxL K W H xs ds → (xs.zip ds).map (·.2) = ds
  | _, [], h => by cases h; rfl
  | _, _ :: _, h => by
    cases h with
    | cons _ t => rw [List.zip_cons_cons, List.map_cons, zip_snd t]
def tupNE : D → Bool
  | .tuple (_ :: _) => true
  | _ => false
def tupNo : D → Bool
  | .tuple _ => false
  | .none => false
  | _ => true
/-- what may be sorted -/
def canSort (ds : List D) : Bool := ds.all (fun d => ds.all fun e => PySem.W.alike d e) && (ds.all tupNE || ds.all tupNo) && ds.all fun d => decide (d.depth ≤ 60)
theorem canSort_of {ds : List D} (h : canSort ds = true) : PySem.W.AllAlike ds ∧ PySem.W.Sortable ds ∧ ∀ d ∈ ds, d.depth ≤ 60 := by
  unfold canSort at h
  simp only [Bool.and_eq_true, Bool.or_eq_true, List.all_eq_true, decide_eq_true_eq] at h
  obtain ⟨⟨h1, h2⟩, h3⟩ := h
  refine ⟨fun d hd e he => h1 d hd e he, ?_, h3⟩
  rcases h2 with h2 | h2
  · refine .inl fun d hd => ?_
    have q := h2 d hd
    cases d with
    | tuple xs =>
      cases xs with
      | nil => cases q
      | cons x r => exact ⟨x, r, rfl⟩
    | _ => cases q
  · refine .inr fun d hd => ?_
    have q := h2 d hd
    cases d with
    | none => cases q
    | tuple _ => cases q
    | _ =>
      constructor
      · intro z; cases z
      · intro _ z; cases z
def sortL (rev : Bool) (ds : List D) : List D := ds.mergeSort (PySem.W.dataLe rev id)
def strK : D → Bool
  | .str _ => true
  | _ => false
def intK : D → Bool
  | .int _ => true
  | _ => false
def keysOk (es : List (D × D)) : Bool := decide (es.length < 64) && ((es.all fun p => strK p.1) || es.all fun p => intK p.1)
def sortedC : List D → Option D
  | [.list ds] => if canSort ds then some (.list (sortL false ds)) else none
  | [.dict es] => if keysOk es then some (.list (sortL false (es.map (·.1)))) else none
  | _ => none
section
variable {K : PySem.W.Frag} {W : Addr → Prop} {H : Hp}
theorem keys_S : ∀ {kvs : List (Key × V)} {es : List (D × D)}, RxK K W H kvs es → (es.all fun p => strK p.1) = true → ∃ ks : List Str, kvs.map (·.1) = ks.map Sum.inr ∧ es.map (·.1) = ks.map PyData.str
  | _, [], h, _ => by
    cases h
    exact ⟨[], rfl, rfl⟩
  | _, (_, _) :: es, h, e => by
    cases h with
    | @cons l v kvs _ _ r t =>
      rw [List.all_cons, Bool.and_eq_true] at e
      obtain ⟨ks, h1, h2⟩ := keys_S t e.2
      cases l with
      | inl i => exact absurd e.1 (by simp [strK, keyD])
      | inr x => exact ⟨x :: ks, by rw [List.map_cons, h1, List.map_cons], by rw [List.map_cons, h2, List.map_cons]; rfl⟩
theorem keys_I : ∀ {kvs : List (Key × V)} {es : List (D × D)}, RxK K W H kvs es → (es.all fun p => intK p.1) = true → ∃ ks : List Int, kvs.map (·.1) = ks.map Sum.inl ∧ es.map (·.1) = ks.map PyData.int
  | _, [], h, _ => by
    cases h
    exact ⟨[], rfl, rfl⟩
  | _, (_, _) :: es, h, e => by
    cases h with
    | @cons l v kvs _ _ r t =>
      rw [List.all_cons, Bool.and_eq_true] at e
      obtain ⟨ks, h1, h2⟩ := keys_I t e.2
      cases l with
      | inr i => exact absurd e.1 (by simp [intK, keyD])
      | inl x => exact ⟨x :: ks, by rw [List.map_cons, h1, List.map_cons], by rw [List.map_cons, h2, List.map_cons]; rfl⟩
theorem rxl_S : ∀ ys : List Str, RxL K W H (ys.map V.str) (ys.map PyData.str)
  | [] => .nil
  | _ :: ys => .cons (.str _) (rxl_S ys)
theorem rxl_I : ∀ ys : List Int, RxL K W H (ys.map V.int) (ys.map PyData.int)
  | [] => .nil
  | _ :: ys => .cons (.int _) (rxl_I ys)
theorem rising_le : ∀ {p : Str} {l : List Str}, risingS p l = true → (∀ x ∈ l, p.cps.toList ≤ x.cps.toList) ∧ l.Pairwise fun a b => a.cps.toList ≤ b.cps.toList
  | p, [], _ => ⟨fun _ h => (by cases h), .nil⟩
  | p, x :: r, h => by
    have h' : (!ltCps x.cps.toList p.cps.toList && risingS x r) = true := h
    rw [Bool.and_eq_true, ltCps_eq] at h'
    have hx : p.cps.toList ≤ x.cps.toList := List.not_lt.mp (by simpa using h'.1)
    obtain ⟨h1, h2⟩ := rising_le h'.2
    refine ⟨fun y hy => ?_, List.pairwise_cons.mpr ⟨h1, h2⟩⟩
    rcases List.mem_cons.mp hy with rfl | hy
    · exact hx
    · exact List.le_trans hx (h1 y hy)
theorem sortedS_le : ∀ {l : List Str}, sortedS l = true → l.Pairwise fun a b => a.cps.toList ≤ b.cps.toList
  | [], _ => .nil
  | _ :: _, h => by
    obtain ⟨h1, h2⟩ := rising_le h
    exact List.pairwise_cons.mpr ⟨h1, h2⟩
theorem sort_S {ks ys : List Str} (hp : ys.Perm ks) (hs : sortedS ys = true) : sortL false (ks.map PyData.str) = ys.map PyData.str := by
  have e : sortL false (ks.map PyData.str) = (ks.mergeSort fun a b => decide (a.cps.toList ≤ b.cps.toList)).map PyData.str :=
    (PySem.W.sort_maps (s := PySem.W.dataLe false id) PyData.str fun a _ b _ => (congrFun (congrFun (PySem.W.dataLe_str (β := Str) id) a) b).symm).symm
  rw [e]
  congr 1
  have h := List.pairwise_mergeSort (le := fun a b : Str => decide (a.cps.toList ≤ b.cps.toList)) (fun a b c h1 h2 => decide_eq_true (List.le_trans (of_decide_eq_true h1) (of_decide_eq_true h2))) (fun a b => by
    rcases List.le_total a.cps.toList b.cps.toList with h | h
    · rw [decide_eq_true h]; rfl
    · rw [decide_eq_true h, Bool.or_true]) ks
  refine ((List.mergeSort_perm ks _).trans hp.symm).eq_of_pairwise (le := fun a b : Str => a.cps.toList ≤ b.cps.toList) (fun a b _ _ h1 h2 => ?_) (h.imp fun {a b} z => of_decide_eq_true z) (sortedS_le hs)
  have e := List.le_antisymm h1 h2
  obtain ⟨x⟩ := a
  obtain ⟨y⟩ := b
  congr 1
  exact Array.toList_inj.mp e
theorem sort_I {ks ys : List Int} (hp : ys.Perm ks) (hs : ys.Pairwise (· ≤ ·)) : sortL false (ks.map PyData.int) = ys.map PyData.int := by
  have e : sortL false (ks.map PyData.int) = (ks.mergeSort fun a b => decide (a ≤ b)).map PyData.int :=
    (PySem.W.sort_maps (s := PySem.W.dataLe false id) PyData.int fun a _ b _ => (congrFun (congrFun (PySem.W.dataLe_int (β := Int) id) a) b).symm).symm
  rw [e]
  congr 1
  have h := List.pairwise_mergeSort (le := fun a b : Int => decide (a ≤ b)) (fun a b c h1 h2 => decide_eq_true (Int.le_trans (of_decide_eq_true h1) (of_decide_eq_true h2))) (fun a b => by
    rcases Int.le_total a b with h | h
    · rw [decide_eq_true h]; rfl
    · rw [decide_eq_true h, Bool.or_true]) ks
  exact ((List.mergeSort_perm ks _).trans hp.symm).eq_of_pairwise (le := fun a b : Int => a ≤ b) (fun a b _ _ h1 h2 => Int.le_antisymm h1 h2) (h.imp fun {a b} z => of_decide_eq_true z) hs
end
section
variable {X : Cx}
theorem sort_ok {rev : Bool} {ds : List D} {xs : List V} {K : PySem.W.Frag} {W : Addr → Prop} {H : Hp} (la : RxL K W H xs ds) : ((xs.zip ds).mergeSort (PySem.W.dataLe rev Prod.snd)).map (·.2) = sortL rev ds := by
  have e : ((xs.zip ds).mergeSort (PySem.W.dataLe rev Prod.snd)).map Prod.snd = ((xs.zip ds).map Prod.snd).mergeSort (PySem.W.dataLe rev id) :=
    PySem.W.sort_maps Prod.snd fun a _ b _ => rfl
  rw [show ((xs.zip ds).map Prod.snd) = ds from zip_snd la] at e
  exact e
theorem cr_sorted' (hcalm : X.calm = true) (hu : X.A.units + 64 < cLine) : CallR X (.builtin "sorted") (rCF X.K sortedC) := by
  intro pins s σ H xs us Q I rx ⟨W, ds, r, tr, hx, hf, q⟩
  unfold sortedC at hf
  split at hf
  · rename_i ds
    split at hf
    · rename_i hc
      cases hf
      obtain ⟨x, rfl, h⟩ := hx.one
      obtain ⟨a, vs, rfl, sa, la⟩ := h.list
      obtain ⟨u, rfl, ru⟩ := vals1 rx
      cases ru
      obtain ⟨z, its, n, rv, e⟩ := sa.ok I.hok
      obtain ⟨c1, c2, c3⟩ := canSort_of hc
      have ez := zip_snd la
      have hl : s.heap.IsList a its.toArray := ⟨_, e, rfl, n, rfl⟩
      have ee := each_two (K := X.K) I la rv
      have ll := la.length
      refine PySem.W.sorted_data (enc := Prod.snd) hl ee (ee.mono fun _ _ p => p.2.2) ?_ ?_ ?_ ?_ fun out ho eo => ?_
      · rw [show List.map Prod.snd (vs.zip ds) = ds from ez]; exact c1
      · rw [show List.map Prod.snd (vs.zip ds) = ds from ez]; exact c2
      · rw [List.length_zip]; omega
      · intro b hb
        have := c3 b.2 (List.of_mem_zip hb).2
        omega
      · obtain ⟨g1, g2⟩ := each_out (fun u b p => ⟨p.1, p.2.1⟩) eo
        obtain ⟨ep, he⟩ := PyProof.Rows.sortedAll_at s.heap its out.toArray
        rw [sort_ok la] at g2
        have hn : H (s.heap.objs.size + 1) = none := I.hok.fresh (Nat.le_succ _)
        refine ⟨.ref _, upd H (s.heap.objs.size + 1) (.lst (((vs.zip ds).mergeSort (PySem.W.dataLe false Prod.snd)).map (·.1))), I.laid (t' := s.toks) (fun _ _ => PyProof.Rows.sortedAll_old) (Nat.le_succ _) ⟨?_, out, ep, g1, he⟩, rfl,
          q _ _ (Same.upd hn) hn (own_new hn g2)⟩
        rw [List.length_map, List.length_mergeSort, List.length_zip]
        omega
    · cases hf
  · rename_i es
    split at hf
    · rename_i hc
      cases hf
      obtain ⟨x, rfl, h⟩ := hx.one
      obtain ⟨a, kvs, rfl, sa, la⟩ := h.dict
      unfold keysOk at hc
      rw [Bool.and_eq_true, Bool.or_eq_true] at hc
      have h64 := of_decide_eq_true hc.1
      rcases hc.2 with hk | hk
      · obtain ⟨ks, k1, k2⟩ := keys_S la hk
        have hl : ks.length < 64 := by
          have := congrArg List.length k2
          rw [List.length_map, List.length_map] at this
          omega
        refine call_sortedD hcalm pins s σ H _ us Q I rx ⟨a, kvs, ks, rfl, sa, k1, hl, fun ys p hp hs n => q p _ (Same.upd n) n (own_new n ?_)⟩
        rw [k2, sort_S hp hs]
        exact rxl_S ys
      · obtain ⟨ks, k1, k2⟩ := keys_I la hk
        have hl : ks.length < 64 := by
          have := congrArg List.length k2
          rw [List.length_map, List.length_map] at this
          omega
        refine call_sortedDI hcalm pins s σ H _ us Q I rx ⟨a, kvs, ks, rfl, sa, k1, hl, fun ys p hp hs n => q p _ (Same.upd n) n (own_new n ?_)⟩
        rw [k2, sort_I hp hs]
        exact rxl_I ys
    · cases hf
  · cases hf
end

end CF
end
section
/-! CF, part s: sets of ints. -/
namespace CF
open PySem PySem.Spec PyProof.Rows L2

/-! ### set(xs) of a list of ints, as far as sorted and len ask -/
/-- a set that has just been made -/
abbrev setNew (w : World) : Obj := { cls := .type "set", dict := none, data := .set #[] 0 (.fresh 0 0 (!w.params.followText "set-order")) }
section
variable {P : Program} {w : World} {A : Around} {E : Value → Shared → Prop} {s : Shared}
set_option maxRecDepth 100000 in
theorem set_of_list {l : Addr} {its : Array Value} (ns : List Int) {Q : Value → Shared → Prop} (hh : A.handled = none) (hl : s.heap.IsList l its) (hit : IntsAre its.toList ns) (hb : ns.length + 1 < scanBound)
    (h : ∀ (h' : Heap) (tk c : Nat), SetR w h' s.heap.objs.size (fun j => decide (j ∈ ns)) c → c ≤ ns.length → (∀ b o, s.heap.get? b = some o → h'.get? b = some o) → Q (.ref s.heap.objs.size) { s with heap := h', toks := tk }) :
    wpAny (model P w) A (call (.type "set") [.ref l]) Q E s := by
  have hsz : its.size = ns.length := by have q := IntsAre.length hit; rw [Array.length_toList] at q; exact q
  obtain ⟨c, tl, m0⟩ := F.called_set.mro; have m1 := F.called_set.made; have m2 := F.called_set.sub
  refine wpAny_call (codeAny_of_tree ?_)
  show wpAny _ _ (callAny (.type "set") _) _ _ _
  refine wpAny_pure ⟨Code.quiet_builtin _ (by decide +kernel), codeAny_builtin F.entry_type_call ?_⟩; rw [Around.under_plain (weight_type_call_type "set" [.ref l] []) rfl]
  have m3 := F.called_set.notType; have m4 := F.called_set.canCreate; have m5 := F.typeCall_set_1 (.ref l)
  repeat (any_goals (first | assumption | wp_step))
  refine codeAny_mono (code_set_led1 (.ref l) (E := E) (Q₁ := fun obj s₁ => obj = .ref s.heap.objs.size ∧ s₁ = { s with heap := s.heap.push (setNew w) }) ⟨rfl, rfl⟩) fun r s₁ hr => ?_
  match r, hr with
  | .ok (.ret obj), hr =>
    obtain ⟨rfl, rfl⟩ := hr
    have g0 : (s.heap.push (setNew w)).get? s.heap.objs.size = some (setNew w) := Heap.get?_push_size _ rfl
    have gT : Shared.TypeIs { s with heap := s.heap.push (setNew w) } (.ref s.heap.objs.size) "set" := ⟨_, g0, rfl⟩
    have m6 := F.called_set.init.lookup; have m7 := F.called_set.init.bind (.ref s.heap.objs.size)
    repeat (any_goals (first | assumption | wp_step))
    refine codeAny_mono (codeAny_call_builtin (R := wants (fun r s₂ => r = .none ∧ ∃ h' tk c, s₂ = { s with heap := h', toks := tk } ∧ SetR w h' s.heap.objs.size (fun j => decide (j ∈ ns)) c ∧ c ≤ ns.length ∧
        (∀ b o, s.heap.get? b = some o → h'.get? b = some o)) E) F.called_set.init.plain F.entry_set_init (check_set_init_1 gT ?_)) fun r₂ s₂ hr₂ => ?_
    · obtain ⟨⟨oc, od, dt, osl⟩, ho, hc, nl, hd⟩ := hl
      simp only at hc hd
      subst hc; subst hd
      have ho' : (s.heap.push (setNew w)).get? l = some { cls := .type "list", dict := od, data := .seq its nl, slots := osl } := Heap.get?_push_of_some _ ho
      have k1 := F.sub_list_set; have k2 := F.sub_list_frozenset
      have k3 : (Value.type "list" == Value.type "dict") = false := by decide
      have hl1 : (s.heap.push (setNew w)).IsList l its := ⟨_, ho', rfl, nl, rfl⟩
      unfold Builtin.«set.__init__» noKeywords Builtin.Frozenset.updateFrom
      generalize hPI : pyIter = PI
      wp_walk
      subst hPI
      refine wpAny_pyIter_list hl1 (wpAny_bind (wpAny_runValue ?_))
      have l0 : l < s.heap.objs.size := Heap.lt_size ho
      have hh3 : A.in1.in1.in1.handled = none := by simp [hh]
      have n1 : l ≠ (s.heap.push (setNew w)).objs.size := by rw [Heap.size_push]; exact Nat.ne_of_lt (Nat.lt_succ_of_lt l0)
      have n2 : s.heap.objs.size ∉ [(s.heap.push (setNew w)).objs.size, l] := by
        rw [Heap.size_push]
        simp only [List.mem_cons, List.not_mem_nil, or_false, not_or]; exact ⟨Nat.ne_of_lt (Nat.lt_succ_self _), Nat.ne_of_gt l0⟩
      have hv : ∀ (i : Nat) (v : Value), its[i]? = some v → ∃ k t, ns[i]? = some k ∧ v = .int k t := fun i v q => by
        have hi : i < ns.length := by rw [← hsz]; exact (Array.getElem?_eq_some_iff.mp q).1
        obtain ⟨t, e⟩ := PyProof.Rows.IntsAre.int_at hit i v (by rw [Array.getElem?_toList]; exact q)
        refine ⟨ns[i], t, List.getElem?_eq_getElem hi, ?_⟩
        rw [e, List.getD_eq_getElem?_getD, List.getElem?_eq_getElem hi] <;> rfl
      refine set_update_ints ((Walks.list hh3 _ l n1 its).toS) s.heap.objs.size n2 ns hsz hb hv (its.size - 0) 0 _ (by omega) (Nat.zero_le _) ⟨⟨_, Heap.get?_push_size _ rfl, rfl, rfl⟩, (hl1.push _)⟩ ?hS0 ?hR
      case hS0 => exact ⟨0, Nat.le_refl 0, setR_new_at (Heap.get?_push_of_some _ g0)⟩
      case hR =>
        intro s' c' hm hc' hS'
        obtain ⟨h', g2, d', tk', os'⟩ := s'
        obtain rfl : g2 = s.gens := hm.gens
        obtain rfl : d' = s.drawn := hm.drawn
        obtain rfl : os' = s.os := hm.os
        show wpAny _ _ _ _ _ _
        refine wpAny_pure ?_
        show wpAny _ _ (ret Value.none) _ _ _
        rw [hsz] at hc'
        refine wpAny_pure ⟨rfl, h', tk', c', rfl, hS', hc', fun b o e => ?_⟩
        have b0 : b < s.heap.objs.size := Heap.lt_size e
        refine hm.heap b o ?_ (Heap.get?_push_of_some _ (Heap.get?_push_of_some _ e))
        rw [Heap.size_push]
        simp only [List.mem_cons, List.not_mem_nil, or_false, not_or]; exact ⟨Nat.ne_of_lt b0, Nat.ne_of_lt (Nat.lt_succ_of_lt b0)⟩
    · match r₂, hr₂ with
      | .ok (.ret r), hr₂ =>
        obtain ⟨rfl, h', tk, c', rfl, hS', hc', hk'⟩ := hr₂
        repeat (any_goals (first | assumption | wp_step))
        exact h _ _ _ hS' hc' hk'
      | .error e, hr₂ => exact hr₂
  | .error e, hr => exact hr
end
end CF
end
section
/-! CF, part r: trees off the heap itself, repr. -/
namespace CF
open PySem PySem.Spec PyProof.Rows L2

mutual
/-- u reads as the tree, no dict of it is sys.modules -/
inductive Rn (P : Program) (w : World) (h : Heap) : Value → D → Prop
  | non : Rn P w h .none .none
  | bl (b : Bool) : Rn P w h (.bool b) (.bool b)
  | int (i : Int) (t : Tok) : Rn P w h (.int i t) (.int i)
  | str (x : Str) (t : Tok) : Rn P w h (.str x t) (.str x)
  | lst {a : Addr} {its : List Value} {n : Nat} {ds : List D} : h.get? a = some { cls := .type "list", data := .seq its.toArray n } → RnL P w h its ds → Rn P w h (.ref a) (.list ds)
  | tup {a : Addr} {o : Obj} {its : List Value} {n : Nat} {ds : List D} : h.get? a = some o → o.cls = .type "tuple" → o.data = .seq its.toArray n → RnL P w h its ds → Rn P w h (.ref a) (.tuple ds)
  | dic {a : Addr} {vs : List (Key × Value)} {es : List (D × D)} : (a == sysModules) = false → h.DictOf (mixKind P w) a vs → RnK P w h vs es → Rn P w h (.ref a) (.dict es)
inductive RnL (P : Program) (w : World) (h : Heap) : List Value → List D → Prop
  | nil : RnL P w h [] []
  | cons {v : Value} {vs : List Value} {d : D} {ds : List D} : Rn P w h v d → RnL P w h vs ds → RnL P w h (v :: vs) (d :: ds)
inductive RnK (P : Program) (w : World) (h : Heap) : List (Key × Value) → List (D × D) → Prop
  | nil : RnK P w h [] []
  | cons {k : Key} {v : Value} {vs : List (Key × Value)} {d : D} {es : List (D × D)} : Rn P w h v d → RnK P w h vs es → RnK P w h ((k, v) :: vs) ((keyD k, d) :: es)
end

section
variable {X : Cx} {pins : List (Addr × Obj)} {σ : L2.St} {H : Hp} {s : Shared} {W : Addr → Prop}
mutual
theorem Rx.rn (I : Inv X pins σ H s) : ∀ (d : D) (v : V) (u : Value), Rx X.K W H v d → RelV v u → Rn X.prog X.w s.heap u d
  | .none, _, _, h, r => by
    cases h
    cases r
    exact .non
  | .bool b, _, _, h, r => by
    cases h
    cases r
    exact .bl b
  | .int i, _, _, h, r => by
    cases h
    obtain ⟨t, rfl⟩ := r
    exact .int i t
  | .str x, _, _, h, r => by
    cases h
    obtain ⟨t, rfl⟩ := r
    exact .str x t
  | .list ds, _, _, h, r => by
    cases h with
    | lst hw hs ha =>
      cases r
      obtain ⟨z, its, n, rv, e⟩ := hs.ok I.hok
      exact .lst e (RxL.rn I ds _ its ha rv)
  | .tuple ds, _, _, h, r => by
    cases h with
    | tup hw hs ha =>
      cases r
      obtain ⟨its, rv, ⟨o, ho, hc, n, hd⟩, _⟩ := I.tuple (.inl hs)
      exact .tup ho hc hd (RxL.rn I ds _ its ha rv)
    | tupK hs ha =>
      cases r
      obtain ⟨its, rv, ⟨o, ho, hc, n, hd⟩, _⟩ := I.tuple (.inr hs)
      exact .tup ho hc hd (RxL.rn I ds _ its ha rv)
  | .dict es, _, _, h, r => by
    cases h with
    | dic hw hs ha =>
      cases r
      obtain ⟨z, y, vs, kv, dd⟩ := hs.ok I.hok
      exact .dic y dd (RxK.rn I es _ _ ha kv)
theorem RxL.rn (I : Inv X pins σ H s) : ∀ (ds : List D) (vs : List V) (us : List Value), RxL X.K W H vs ds → Vals vs us → RnL X.prog X.w s.heap us ds
  | [], _, _, h, r => by
    cases h
    cases r
    exact .nil
  | d :: ds, _, _, h, r => by
    cases h with
    | cons h1 h2 =>
      cases r with
      | cons r1 r2 => exact .cons (Rx.rn I d _ _ h1 r1) (RxL.rn I ds _ _ h2 r2)
theorem RxK.rn (I : Inv X pins σ H s) : ∀ (es : List (D × D)) (kvs : List (Key × V)) (vs : List (Key × Value)), RxK X.K W H kvs es → KV kvs vs → RnK X.prog X.w s.heap vs es
  | [], _, _, h, r => by
    cases h
    cases r
    exact .nil
  | (_, d) :: es, _, (_, _) :: _, h, r => by
    cases h with
    | cons h1 h2 =>
      cases r with
      | cons r1 r2 =>
        obtain ⟨e, r1⟩ := r1
        simp only at e r1
        subst e
        exact .cons (Rx.rn I d _ _ h1 r1) (RxK.rn I es _ _ h2 r2)
  | (_, _) :: _, _, [], h, r => by
    cases h with
    | cons h1 h2 => cases r
end
theorem Tx.rn (I : Inv X pins σ H s) {d : D} {v : V} {u : Value} (h : Tx X.K W H v d) (r : RelV v u) : Rn X.prog X.w s.heap u d := Rx.rn I d v u h.bare r
end

section
variable {P : Program} {w : World} {h : Heap}
theorem rnk_keys : ∀ {vs : List (Key × Value)} {es : List (D × D)}, RnK P w h vs es → es.map (·.1) = vs.map fun p => keyD p.1
  | _, [], r => by cases r; rfl
  | _, (_, _) :: _, r => by
    cases r with
    | cons _ t => rw [List.map_cons, List.map_cons, rnk_keys t]
mutual
theorem Rn.reads : ∀ (d : D) (u : Value), Rn P w h u d → ∃ as, Reads h u d as
  | .none, _, r => by cases r; exact ⟨_, .none⟩
  | .bool b, _, r => by cases r; exact ⟨_, .bool b⟩
  | .int i, _, r => by cases r; exact ⟨_, .int i _⟩
  | .str x, _, r => by cases r; exact ⟨_, .str x _⟩
  | .list ds, _, r => by
    cases r with
    | lst e t =>
      obtain ⟨as, q⟩ := RnL.reads ds _ t
      exact ⟨_, .list e rfl rfl q⟩
  | .tuple ds, _, r => by
    cases r with
    | tup e c g t =>
      obtain ⟨as, q⟩ := RnL.reads ds _ t
      exact ⟨_, .tuple e c g q⟩
  | .dict es, _, r => by
    cases r with
    | dic y dd t =>
      obtain ⟨o, es', ep, ho, hx, hd, hk, hp, nd⟩ := dd
      obtain ⟨as, h1⟩ := pairs_keys (h := h) hp
      obtain ⟨bs, h2⟩ := RnK.reads es _ t
      refine ⟨_, Reads.dict (as := as) (bs := bs) ho hx.1 hd ?_ ?_⟩
      · rw [rnk_keys t]
        exact h1
      · rw [pairs_vals hp]
        exact h2
theorem RnL.reads : ∀ (ds : List D) (us : List Value), RnL P w h us ds → ∃ as, ReadsAll h us ds as
  | [], _, r => by cases r; exact ⟨_, .nil⟩
  | d :: ds, _, r => by
    cases r with
    | cons r1 r2 =>
      obtain ⟨as, q1⟩ := Rn.reads d _ r1
      obtain ⟨bs, q2⟩ := RnL.reads ds _ r2
      exact ⟨_, .cons q1 q2⟩
theorem RnK.reads : ∀ (es : List (D × D)) (vs : List (Key × Value)), RnK P w h vs es → ∃ as, ReadsAll h (vs.map (·.2)) (es.map (·.2)) as
  | [], _, r => by cases r; exact ⟨_, .nil⟩
  | (_, d) :: es, _, r => by
    cases r with
    | cons r1 r2 =>
      obtain ⟨as, q1⟩ := Rn.reads d _ r1
      obtain ⟨bs, q2⟩ := RnK.reads es _ r2
      exact ⟨_, .cons q1 q2⟩
end

/-! ### repr -/
theorem keys_repr : ∀ (vs : List (Key × Value)) (es : List DictEntry), Pairs (mixKind P w) es vs → PyData.showableAll (vs.map fun p => keyD p.1) = true → (∀ t ∈ PyData.shownAll (vs.map fun p => keyD p.1), t.length ≤ sizeLine) →
    ReprAllK P w [] h 0 (es.map (·.key)) (PyData.shownAll (vs.map fun p => keyD p.1))
  | [], _, r, _, _ => by cases r; exact .nil
  | (k, v) :: vs, e :: es, r, hs, hz => by
    cases r with
    | cons r1 _ r2 =>
      simp only [List.map_cons, PyData.showableAll, Bool.and_eq_true] at hs
      simp only [List.map_cons, PyData.shownAll, List.mem_cons] at hz ⊢
      refine .cons ?_ (keys_repr vs es r2 hs.2 fun t ht => hz t (.inr ht))
      rcases keyIs_shape r1 with ⟨i, t, e1, e2⟩ | ⟨x, t, e1, e2⟩
      · simp only at e1
        subst e1
        rw [e2]
        simp only [keyD, PyData.shown]
        exact .of_is (ReprIs.int t (by simpa [keyD, PyData.showable] using hs.1)) _ _ _
      · simp only at e1
        subst e1
        rw [e2]
        have hl := hz _ (.inl rfl)
        simp only [keyD, PyData.shown] at hl ⊢
        exact .of_is (ReprIs.str x t hl) _ _ _
mutual
theorem Rn.repr : ∀ (d : D) (u : Value), Rn P w h u d → d.showable = true → d.shown.length ≤ sizeLine → ∃ bs, ReadAtMost h d.depth bs ∧ ReprK P w bs h d.depth u d.shown
  | .none, _, r, _, _ => by
    cases r
    refine ⟨[], (fun _ z => nomatch z), ?_⟩
    simp only [PyData.shown]
    exact .of_is ReprIs.none _ _ _
  | .bool b, _, r, _, _ => by
    cases r
    refine ⟨[], (fun _ z => nomatch z), ?_⟩
    simp only [PyData.shown]
    exact .of_is (ReprIs.bool b) _ _ _
  | .int i, _, r, hs, _ => by
    cases r
    refine ⟨[], (fun _ z => nomatch z), ?_⟩
    simp only [PyData.shown]
    exact .of_is (ReprIs.int _ (by simpa [PyData.showable] using hs)) _ _ _
  | .str x, _, r, _, hz => by
    cases r
    refine ⟨[], (fun _ z => nomatch z), ?_⟩
    simp only [PyData.shown] at hz ⊢
    exact .of_is (ReprIs.str x _ hz) _ _ _
  | .list ds, _, r, hs, hz => by
    obtain ⟨as0, q0⟩ := Rn.reads _ _ r
    cases r with
    | @lst a its n _ e t =>
      simp only [PyData.shown] at hz ⊢
      obtain ⟨bs, hb, hk⟩ := RnL.repr ds _ t (by simpa [PyData.showable] using hs) fun t ht => Nat.le_trans (listText_mem_le ht) hz
      have hna : a ∉ bs := not_mem_of_deeper q0 (by simp only [PyData.depth]; omega) hb
      refine ⟨a :: bs, ReadAtMost.cons q0 (by simp only [PyData.depth]; omega) hb, ?_⟩
      simp only [PyData.depth]
      cases its with
      | nil =>
        cases t
        simp only [PyData.shownAll, listText_nil]
        exact ReprK.listEmpty e rfl rfl
      | cons x l => exact ReprK.list e rfl rfl hna (by simpa using hk.length_eq) fun i y q => hk.item i y (by simpa using q)
  | .tuple ds, _, r, hs, hz => by
    obtain ⟨as0, q0⟩ := Rn.reads _ _ r
    cases r with
    | @tup a o its n _ e c g t =>
      simp only [PyData.shown] at hz ⊢
      obtain ⟨bs, hb, hk⟩ := RnL.repr ds _ t (by simpa [PyData.showable] using hs) fun t ht => Nat.le_trans (tupleText_mem_le ht) hz
      have hna : a ∉ bs := not_mem_of_deeper q0 (by simp only [PyData.depth]; omega) hb
      refine ⟨a :: bs, ReadAtMost.cons q0 (by simp only [PyData.depth]; omega) hb, ?_⟩
      simp only [PyData.depth]
      exact ReprK.tuple e c g hna hk
  | .dict es, _, r, hs, hz => by
    obtain ⟨as0, q0⟩ := Rn.reads _ _ r
    cases r with
    | @dic a vs _ y dd t =>
      obtain ⟨o, es', ep, ho, hx, hd, hk, hp, nd⟩ := dd
      simp only [PyData.shown] at hz ⊢
      obtain ⟨hs1, hs2⟩ := PyData.showableKv_split es (by simpa [PyData.showable] using hs)
      rw [rnk_keys t] at hs1
      obtain ⟨bs, hb, k2⟩ := RnK.repr es _ t hs2 fun t ht => let ⟨p, hp, hl⟩ := PyData.shownKv_val_le es t ht; Nat.le_trans hl (Nat.le_trans (dictText_mem_le hp) hz)
      have k1 := keys_repr (h := h) vs es'.toList hp hs1 fun x hx => by
        rw [← rnk_keys t] at hx
        obtain ⟨p, hp, hl⟩ := PyData.shownKv_key_le es x hx
        exact Nat.le_trans hl (Nat.le_trans (dictText_mem_le hp) hz)
      rw [← rnk_keys t] at k1
      have hb' : ReadAtMost h (PyData.depthKv es) bs := hb.mono (PyData.depthAll_vals_le es)
      have hna : a ∉ bs := not_mem_of_deeper q0 (by simp only [PyData.depth]; omega) hb'
      refine ⟨a :: bs, ReadAtMost.cons q0 (by simp only [PyData.depth]; omega) hb', ?_⟩
      simp only [PyData.depth, PyData.shownKv_eq]
      rw [← pairs_vals hp] at k2
      exact ReprK.dict ho hx.1 hd y hna (ReprEntriesK.of_two es'.toList _ _ (k1.more_le (fun _ z => by simp at z) (Nat.zero_le _)) (k2.more_le (fun _ z => z) (PyData.depthAll_vals_le es)))
theorem RnL.repr : ∀ (ds : List D) (us : List Value), RnL P w h us ds → PyData.showableAll ds = true → (∀ t ∈ PyData.shownAll ds, t.length ≤ sizeLine) → ∃ bs, ReadAtMost h (PyData.depthAll ds) bs ∧ ReprAllK P w bs h (PyData.depthAll ds) us (PyData.shownAll ds)
  | [], _, r, _, _ => by
    cases r
    refine ⟨[], (fun _ z => nomatch z), ?_⟩
    simp only [PyData.shownAll]
    exact .nil
  | d :: ds, _, r, hs, hz => by
    cases r with
    | cons r1 r2 =>
      simp only [PyData.showableAll, Bool.and_eq_true] at hs
      simp only [PyData.shownAll, List.mem_cons] at hz
      obtain ⟨b1, hb1, k1⟩ := Rn.repr d _ r1 hs.1 (hz _ (.inl rfl))
      obtain ⟨b2, hb2, k2⟩ := RnL.repr ds _ r2 hs.2 fun t ht => hz t (.inr ht)
      simp only [PyData.depthAll, PyData.shownAll]
      exact ⟨b1 ++ b2, (hb1.mono (Nat.le_max_left _ _)).append (hb2.mono (Nat.le_max_right _ _)), .cons ((k1.more fun b hb => List.mem_append_left _ hb).level_le (Nat.le_max_left _ _)) (k2.more_le (fun b hb => List.mem_append_right _ hb) (Nat.le_max_right _ _))⟩
theorem RnK.repr : ∀ (es : List (D × D)) (vs : List (Key × Value)), RnK P w h vs es → PyData.showableAll (es.map (·.2)) = true → (∀ t ∈ PyData.shownAll (es.map (·.2)), t.length ≤ sizeLine) → ∃ bs, ReadAtMost h (PyData.depthAll (es.map (·.2))) bs ∧ ReprAllK P w bs h (PyData.depthAll (es.map (·.2))) (vs.map (·.2)) (PyData.shownAll (es.map (·.2)))
  | [], _, r, _, _ => by
    cases r
    refine ⟨[], (fun _ z => nomatch z), ?_⟩
    simp only [List.map_nil, PyData.shownAll]
    exact .nil
  | (_, d) :: es, _, r, hs, hz => by
    cases r with
    | cons r1 r2 =>
      simp only [List.map_cons, PyData.showableAll, Bool.and_eq_true] at hs
      simp only [List.map_cons, PyData.shownAll, List.mem_cons] at hz
      obtain ⟨b1, hb1, k1⟩ := Rn.repr d _ r1 hs.1 (hz _ (.inl rfl))
      obtain ⟨b2, hb2, k2⟩ := RnK.repr es _ r2 hs.2 fun t ht => hz t (.inr ht)
      simp only [List.map_cons, PyData.depthAll, PyData.shownAll]
      exact ⟨b1 ++ b2, (hb1.mono (Nat.le_max_left _ _)).append (hb2.mono (Nat.le_max_right _ _)), .cons ((k1.more fun b hb => List.mem_append_left _ hb).level_le (Nat.le_max_left _ _)) (k2.more_le (fun b hb => List.mem_append_right _ hb) (Nat.le_max_right _ _))⟩
end
/-- what repr(x) may be asked of -/
def canShow (d : D) : Bool := d.showable && decide (d.depth ≤ 60) && decide (d.shown.length ≤ sizeLine)
theorem call_repr_rn {A : Around} {E : Value → Shared → Prop} {s : Shared} {Q : Value → Shared → Prop} {u : Value} {d : D} (r : Rn P w s.heap u d) (hc : canShow d = true) (hg : A.guards = some []) (hu : A.units + 64 < cLine)
    (hQ : ∀ h' t tk, (∀ b o, s.heap.get? b = some o → h'.get? b = some o) → Q (.str d.shown t) { s with heap := h', toks := tk }) : wpAny (model P w) A (call (.builtin "repr") [u]) Q E s := by
  unfold canShow at hc
  simp only [Bool.and_eq_true, decide_eq_true_eq] at hc
  obtain ⟨⟨hs, hd⟩, hz⟩ := hc
  have g1 : A.in1.guards = some [] := hg
  have q0 := Rn.reads _ _ r
  cases r with
  | non => exact PySem.P.repr_of_none (by simpa only [PyData.shown] using hQ s.heap _ _ fun _ _ e => e)
  | bl b => exact PySem.P.repr_of_bool (by simpa only [PyData.shown] using hQ s.heap _ _ fun _ _ e => e)
  | int i t => exact PySem.P.repr_of_int (by simpa [PyData.showable] using hs) (by simpa only [PyData.shown] using hQ s.heap _ _ fun _ _ e => e)
  | str x t => exact PySem.P.repr_of_str (by simpa only [PyData.shown] using hQ s.heap _ _ fun _ _ e => e) (by simpa only [PyData.shown] using hz)
  | @lst a its n ds e t =>
    obtain ⟨as0, q0⟩ := q0
    simp only [PyData.shown] at hz hQ
    simp only [PyData.depth] at hd
    obtain ⟨bs, hb, hk⟩ := RnL.repr ds _ t (by simpa [PyData.showable] using hs) fun t ht => Nat.le_trans (listText_mem_le ht) hz
    have hna : a ∉ bs := not_mem_of_deeper q0 (by simp only [PyData.depth]; omega) hb
    refine call_repr_slot (by omega) ⟨_, e, rfl⟩ F.slot_list_repr.toG ?_
    cases its with
    | nil =>
      cases t
      simp only [PyData.shownAll, listText_nil] at hQ
      exact call_list_repr_empty ⟨_, e, rfl⟩ e rfl ⟨_, _, rfl, hQ s.heap _ _ fun _ _ e => e⟩
    | cons x l => exact call_list_reprK e rfl rfl hna (by simpa using hk.length_eq) (fun i y q => hk.item i y (by simpa using q)) g1 (fun b _ => Clear.nil b) (by show A.units + 1 + _ < cLine; omega) (fun _ _ e => e) (fun h' u tk hk' => ⟨_, _, rfl, hQ h' _ _ hk'⟩) hz
  | @tup a o its n ds e c g t =>
    obtain ⟨as0, q0⟩ := q0
    simp only [PyData.shown] at hz hQ
    simp only [PyData.depth] at hd
    obtain ⟨bs, hb, hk⟩ := RnL.repr ds _ t (by simpa [PyData.showable] using hs) fun t ht => Nat.le_trans (tupleText_mem_le ht) hz
    have hna : a ∉ bs := not_mem_of_deeper q0 (by simp only [PyData.depth]; omega) hb
    refine call_repr_slot (by omega) ⟨_, e, c⟩ F.slot_tuple_repr ?_
    exact call_tuple_reprK e c g hna hk g1 (fun b _ => Clear.nil b) (by show A.units + 1 + _ < cLine; omega) (fun _ _ e => e) (fun h' u tk hk' => ⟨_, _, rfl, hQ h' _ _ hk'⟩) hz
  | @dic a vs es y dd t =>
    obtain ⟨as0, q0⟩ := q0
    obtain ⟨o, es', ep, ho, hx, hdt, hk, hp, nd⟩ := dd
    simp only [PyData.shown] at hz hQ
    simp only [PyData.depth] at hd
    obtain ⟨hs1, hs2⟩ := PyData.showableKv_split es (by simpa [PyData.showable] using hs)
    rw [rnk_keys t] at hs1
    obtain ⟨bs, hb, k2⟩ := RnK.repr es _ t hs2 fun t ht => let ⟨p, hp, hl⟩ := PyData.shownKv_val_le es t ht; Nat.le_trans hl (Nat.le_trans (dictText_mem_le hp) hz)
    have k1 := keys_repr (h := s.heap) vs es'.toList hp hs1 fun x hx => by
      rw [← rnk_keys t] at hx
      obtain ⟨p, hp, hl⟩ := PyData.shownKv_key_le es x hx
      exact Nat.le_trans hl (Nat.le_trans (dictText_mem_le hp) hz)
    rw [← rnk_keys t] at k1
    have hb' : ReadAtMost s.heap (PyData.depthKv es) bs := hb.mono (PyData.depthAll_vals_le es)
    have hna : a ∉ bs := not_mem_of_deeper q0 (by simp only [PyData.depth]; omega) hb'
    rw [PyData.shownKv_eq] at hz hQ
    rw [← pairs_vals hp] at k2
    refine call_repr_slot (by omega) ⟨_, ho, hx.1⟩ F.slot_dict_repr ?_
    exact call_dict_reprK ho hx.1 hdt y hna (ReprEntriesK.of_two es'.toList _ _ (k1.more_le (fun _ z => by simp at z) (Nat.zero_le _)) (k2.more_le (fun _ z => z) (PyData.depthAll_vals_le es))) g1 (fun b _ => Clear.nil b)
      (by show A.units + 1 + _ < cLine; omega) (fun _ _ e => e) (fun h' u tk hk' => ⟨_, _, rfl, hQ h' _ _ hk'⟩) hz
end
def reprC : List D → Option D
  | [d] => if canShow d then some (.str d.shown) else none
  | _ => none
theorem cr_repr {X : Cx} (hg : X.A.guards = some []) (hu : X.A.units + 64 < cLine) : CallR X (.builtin "repr") (rC X.K reprC) := by
  intro pins s σ H xs us Q I rx ⟨W, ds, r, tr, hx, hf, q⟩
  unfold reprC at hf
  split at hf
  · rename_i d
    split at hf
    · rename_i hc
      cases hf
      obtain ⟨x, rfl, h⟩ := hx.one
      obtain ⟨u, rfl, ru⟩ := vals1 rx
      exact call_repr_rn (h.rn I ru) hc hg hu fun h' t tk k => ⟨.str d.shown, H, I.kept k, ⟨_, rfl⟩, q _ _ (Same.refl H) (.str _)⟩
    · cases hf
  · cases hf
end CF
end
section
/-! CF, part e: expressions. -/
namespace CF
open PySem PySem.Spec PyProof.Rows L2
variable [Tb]

theorem M.assoc {α β γ : Type} {m : M α} {f : α → M β} {g : β → M γ} : ((m >>= f) >>= g) = (m >>= fun a => f a >>= g) := by
  funext ρ
  show M.bind (M.bind m f) g ρ = M.bind m _ ρ
  unfold M.bind
  cases m ρ with
  | none => rfl
  | some r => cases r <;> rfl
def LV.get : LV → M D
  | .dat d => pure d
  | .slot i => fun ρ => match ρ[i]? with
    | some (.dat d) => some (.ok d ρ)
    | some (.own d) => some (.ok d ρ)
    | _ => none
def mVar (i : Nat) : M D := fun ρ => match ρ[i]? with
  | some (.dat d) => some (.ok d ρ)
  | _ => none
def mPk (i : Nat) : M LV := fun ρ => match ρ[i]? with
  | some (.dat _) => some (.ok (.slot i) ρ)
  | some (.own _) => some (.ok (.slot i) ρ)
  | _ => none
def mC (d : D) : M D := pure d
def mV (m : M D) : M LV := do
  let d ← m
  pure (.dat d)
def mOp2 (f : D → D → Option D) (a b : M LV) : M D := do
  let x ← a
  let y ← b
  let d ← x.get
  let e ← y.get
  lift (f d e)
def mOp1 (f : D → Option D) (a : M LV) : M D := do
  let x ← a
  let d ← x.get
  lift (f d)
/-- a call's arguments, looked at -/
def mLs : List (M LV) → M (List LV)
  | [] => pure []
  | a :: as => do
    let x ← a
    let xs ← mLs as
    pure (x :: xs)
def getAll : List LV → M (List D)
  | [] => pure []
  | x :: xs => do
    let d ← x.get
    let ds ← getAll xs
    pure (d :: ds)
def mCall (g : List D → Option D) (as : List (M LV)) : M D := do
  let xs ← mLs as
  let ds ← getAll xs
  lift (g ds)
/-- a row of trees -/
def mDs : List (M D) → M (List D)
  | [] => pure []
  | a :: as => do
    let d ← a
    let ds ← mDs as
    pure (d :: ds)
def mTup (as : List (M D)) : M D := do
  let ds ← mDs as
  lift (if ds.length ≤ sizeLine then some (.tuple ds) else none)
def mLst (as : List (M D)) : M D := do
  let ds ← mDs as
  lift (if ds.length ≤ sizeLine then some (.list ds) else none)
def mTest (m : M D) : M Bool := do
  let d ← m
  lift (match d with
    | .bool b => some b
    | _ => none)
def mAnd (a b : M Bool) : M Bool := do
  let x ← a
  if x = true then b else pure false
def mOr (a b : M Bool) : M Bool := do
  let x ← a
  if x = true then pure true else b
def mNot (a : M Bool) : M Bool := do
  let x ← a
  pure (!x)
def mIf (t : M Bool) (a b : M D) : M D := do
  let x ← t
  if x = true then a else b
def mBl (t : M Bool) : M D := do
  let x ← t
  pure (.bool x)

section
variable {K : PySem.W.Frag} {Ew : WX} {W O : Addr → Prop} {σ : L2.St} {H H' : Hp} {ρ : List Slot}
theorem SRel.dom (R : SRel K W O H' σ ρ) (k : KeepO W O H H') {p : Addr} (n : H' p = none) : H p = none := by
  cases e : H p with
  | none => rfl
  | some o =>
    by_cases q : W p
    · obtain ⟨o', e'⟩ := R.tr p q
      rw [n] at e'
      cases e'
    · obtain ⟨o', e'⟩ := rd_some (k.rest p o (.inl e) q)
      rw [n] at e'
      cases e'
theorem LRel.keep {v : V} {x : LV} (h : LRel K W H σ v x) (R : SRel K W O H σ ρ) (k : KeepO W O H H') : LRel K W H' σ v x := by
  cases x with
  | dat d => exact Rx.keepO h R k
  | slot i => exact h
theorem LRels.keep : ∀ {vs : List V} {xs : List LV}, LRels K W H σ vs xs → SRel K W O H σ ρ → KeepO W O H H' → LRels K W H' σ vs xs
  | _, [], h, _, _ => by cases h; exact .nil
  | _, _ :: _, h, R, k => by
    cases h with
    | cons h1 h2 => exact .cons (h1.keep R k) (h2.keep R k)
theorem SRel.look (R : SRel K W O H σ ρ) {i : Nat} {v : V} (h : σ[i]? = some (some v)) {d : D} (e : ρ[i]? = some (.dat d) ∨ ρ[i]? = some (.own d)) : Tx K W H v d := by
  rcases e with e | e
  · obtain ⟨w, h1, h2⟩ := R.dat e
    rw [h] at h1; cases h1
    exact .inl h2
  · obtain ⟨a, h1, _, h2⟩ := R.own e
    rw [h] at h1; cases h1
    exact .inr ⟨a, rfl, h2⟩
theorem Out.get {β : Type} {Q : β → List Slot → Hp → Prop} {x : LV} {f : D → M β} {v : V} (h : Out K Ew W O σ H Q ((x.get >>= f) ρ)) (R : SRel K W O H σ ρ) (r : LRel K W H σ v x) :
    ∃ d, Tx K W H v d ∧ Out K Ew W O σ H Q (f d ρ) := by
  cases x with
  | dat d => exact ⟨d, .inl r, h⟩
  | slot i =>
    have h : Out K Ew W O σ H Q (M.bind (LV.get (.slot i)) f ρ) := h
    unfold M.bind LV.get at h
    have r : σ[i]? = some (some v) := r
    cases e : ρ[i]? with
    | none => simp only [e] at h; exact h.elim
    | some s =>
      cases s with
      | un => simp only [e] at h; exact h.elim
      | ob d => simp only [e] at h; exact h.elim
      | dat d => simp only [e] at h; exact ⟨d, R.look r (.inl e), h⟩
      | own d => simp only [e] at h; exact ⟨d, R.look r (.inr e), h⟩
theorem Out.getAll {β : Type} {Q : β → List Slot → Hp → Prop} : ∀ {xs : List LV} {vs : List V} {f : List D → M β}, Out K Ew W O σ H Q ((CF.getAll xs >>= f) ρ) → SRel K W O H σ ρ → LRels K W H σ vs xs →
    ∃ ds, TxL K W H vs ds ∧ Out K Ew W O σ H Q (f ds ρ)
  | [], _, f, h, R, r => by
    cases r
    exact ⟨[], .nil, h⟩
  | x :: xs, _, f, h, R, r => by
    cases r with
    | cons r1 r2 =>
      have h' : Out K Ew W O σ H Q ((x.get >>= fun d => CF.getAll xs >>= fun ds => f (d :: ds)) ρ) := by
        have e : (CF.getAll (x :: xs) >>= f) = (x.get >>= fun d => CF.getAll xs >>= fun ds => f (d :: ds)) := by
          show (M.bind (x.get >>= fun d => CF.getAll xs >>= fun ds => Pure.pure (d :: ds)) f) = _
          rw [show M.bind (x.get >>= fun d => CF.getAll xs >>= fun ds => Pure.pure (d :: ds)) f = ((x.get >>= fun d => CF.getAll xs >>= fun ds => Pure.pure (d :: ds)) >>= f) from rfl, M.assoc]
          congr 1
          funext d
          rw [M.assoc]
          rfl
        rw [← e]
        exact h
      obtain ⟨d, t1, h2⟩ := Out.get h' R r1
      obtain ⟨ds, t2, h3⟩ := Out.getAll h2 R r2
      exact ⟨d :: ds, .cons t1 t2, h3⟩
end

section
variable {X : Cx} {Ew : WX} {a b c e : Expr} {es : List Expr} {pos : Pos} {ma mb : M LV} {md me : M D} {mt mu : M Bool} {as : List (M LV)} {ds : List (M D)}
/-- a name -/
theorem dv (i : Nat) {x : Str} {pos : Pos} (hN : X.N[i]? = some x := by rfl) (hv : Vis X.env.scope x := by first | exact Or.inl rfl | exact Or.inr (Or.inl rfl) | exact Or.inr (Or.inr rfl)) (hd : (x == ("__debug__" : Str)) = false := by decide)
    (hcd : (x == ("__classdict__" : Str)) = false := by decide) : PE X (.Name x pos) (tD X.K Ew (mVar i)) := by
  refine PE.imp (pe_var hN hv hd hcd) fun σ H Q ⟨W, O, ρ, R, h⟩ => ?_
  unfold mVar at h
  cases e : ρ[i]? with
  | none => simp only [e] at h; exact h.elim
  | some s =>
    cases s with
    | un => simp only [e] at h; exact h.elim
    | ob d => simp only [e] at h; exact h.elim
    | own d => simp only [e] at h; exact h.elim
    | dat d =>
      simp only [e] at h
      obtain ⟨v, h1, h2⟩ := R.dat e
      exact ⟨v, h1, h H KeepO.refl R v h2⟩
theorem dk (i : Nat) {x : Str} {pos : Pos} (hN : X.N[i]? = some x := by rfl) (hv : Vis X.env.scope x := by first | exact Or.inl rfl | exact Or.inr (Or.inl rfl) | exact Or.inr (Or.inr rfl)) (hd : (x == ("__debug__" : Str)) = false := by decide)
    (hcd : (x == ("__classdict__" : Str)) = false := by decide) : PE X (.Name x pos) (tL X.K Ew (mPk i)) := by
  refine PE.imp (pe_var hN hv hd hcd) fun σ H Q ⟨W, O, ρ, R, h⟩ => ?_
  unfold mPk at h
  cases e : ρ[i]? with
  | none => simp only [e] at h; exact h.elim
  | some s =>
    cases s with
    | un => simp only [e] at h; exact h.elim
    | ob d => simp only [e] at h; exact h.elim
    | own d =>
      simp only [e] at h
      obtain ⟨v, h1, _, h2⟩ := R.own e
      exact ⟨_, h1, h H KeepO.refl R _ h1⟩
    | dat d =>
      simp only [e] at h
      obtain ⟨v, h1, h2⟩ := R.dat e
      exact ⟨v, h1, h H KeepO.refl R v h1⟩
theorem dc {v : V} {d : D} (h : PE X e (tC v)) (r : ∀ W H, Rx X.K W H v d) : PE X e (tD X.K Ew (mC d)) :=
  PE.imp h fun σ H Q ⟨W, O, ρ, R, h⟩ => h H KeepO.refl R v (r W H)
theorem dInt {i j pos} : PE X (.Constant (.int i) j pos) (tD X.K Ew (mC (.int i))) := dc pe_int fun _ _ => .int _
theorem dBl {b j pos} : PE X (.Constant (.bool b) j pos) (tD X.K Ew (mC (.bool b))) := dc pe_bl fun _ _ => .bl _
theorem dNon {j pos} : PE X (.Constant .none j pos) (tD X.K Ew (mC .none)) := dc pe_non fun _ _ => .non
theorem dStr {x j pos} : PE X (.Constant (.str x) j pos) (tD X.K Ew (mC (.str x))) := dc pe_str fun _ _ => .str _
theorem dl (h : PE X e (tD X.K Ew md)) : PE X e (tL X.K Ew (mV md)) :=
  PE.imp h fun σ H Q ⟨W, O, ρ, R, h⟩ => ⟨W, O, ρ, R, (Out.bind h).mono fun d ρ' H' k R' h' v r => h' H' KeepO.refl R' v r⟩
theorem df (h : PE X e (tF X.K Ew md)) : PE X e (tD X.K Ew md) :=
  PE.imp h fun σ H Q ⟨W, O, ρ, R, h⟩ => ⟨W, O, ρ, R, h.mono fun d ρ' H' k R' h' a R2 n o => h' _ ((o.less fun _ z => .inl z).rx fun z => by
    obtain ⟨o', e'⟩ := R.tr a z
    rw [n] at e'
    cases e')⟩
section
variable {K : PySem.W.Frag} {W O : Addr → Prop} {σ : L2.St} {H : Hp} {ρ : List Slot} {Q : VK}
theorem t_op2 {f : D → D → Option D} (h : tD K Ew (mOp2 f ma mb) σ H Q) : tOp (rD K f) (tL K Ew ma) (tL K Ew mb) σ H Q := by
  obtain ⟨W, O, ρ, R, h⟩ := h
  refine ⟨W, O, ρ, R, (Out.bind h).mono fun x ρ1 H1 k1 R1 h1 v rv => ⟨W, O, ρ1, R1, (Out.bind h1).mono fun y ρ2 H2 k2 R2 h2 w rw => ?_⟩⟩
  obtain ⟨d, tx, h3⟩ := Out.get h2 R2 (rv.keep R1 k2)
  obtain ⟨e, ty, h4⟩ := Out.get h3 R2 rw
  obtain ⟨r, hf, q⟩ := Out.lift h4 R2
  exact ⟨W, d, e, r, R2.tr, tx, ty, hf, fun u H' s ru => q H' (KeepO.of s) (R2.same s) u ru⟩
theorem fresh_end {H0 H1 H' : Hp} {r : D} {p : Addr} (R0 : KeepO W O H0 H1) (R1 : SRel K W O H1 σ ρ) (s : Same H1 H') (n : H1 p = none) (o : OwnAt K (plus W p) H' p r) :
    SRel K (plus W p) (plus O p) H' σ ρ ∧ H0 p = none ∧ KeepO W O H1 H' ∧ SRel K W O H' σ ρ := by
  obtain ⟨ob, e⟩ := o.some
  exact ⟨R1.plus n e s, R1.dom R0 n, KeepO.of s, R1.same s⟩
theorem t_op2F {f : D → D → Option D} (h : tF K Ew (mOp2 f ma mb) σ H Q) : tOp (rF K f) (tL K Ew ma) (tL K Ew mb) σ H Q := by
  obtain ⟨W, O, ρ, R, h⟩ := h
  refine ⟨W, O, ρ, R, (Out.bind h).mono fun x ρ1 H1 k1 R1 h1 v rv => ⟨W, O, ρ1, R1, (Out.bind h1).mono fun y ρ2 H2 k2 R2 h2 w rw => ?_⟩⟩
  obtain ⟨d, tx, h3⟩ := Out.get h2 R2 (rv.keep R1 k2)
  obtain ⟨e, ty, h4⟩ := Out.get h3 R2 rw
  obtain ⟨r, hf, q⟩ := Out.lift h4 R2
  refine ⟨W, d, e, r, R2.tr, tx, ty, hf, fun p H' s n o => ?_⟩
  obtain ⟨g1, g2, g3, g4⟩ := fresh_end (k1.trans k2) R2 s n o
  exact q H' g3 g4 p g1 g2 o
end
/-- a op b -/
theorem dOp {op : Operator} {f : D → D → Option D} (ho : OpR X (binaryOp op) (rD X.K f)) (ha : PE X a (tL X.K Ew ma)) (hb : PE X b (tL X.K Ew mb)) : PE X (.BinOp a op b pos) (tD X.K Ew (mOp2 f ma mb)) :=
  PE.imp (pe_op ho ha hb) fun _ _ _ h => t_op2 h
theorem fOp {op : Operator} {f : D → D → Option D} (ho : OpR X (binaryOp op) (rF X.K f)) (ha : PE X a (tL X.K Ew ma)) (hb : PE X b (tL X.K Ew mb)) : PE X (.BinOp a op b pos) (tF X.K Ew (mOp2 f ma mb)) :=
  PE.imp (pe_op ho ha hb) fun _ _ _ h => t_op2F h
/-- a == b and its like -/
theorem dCmp {op : CmpOp} {f : D → D → Option D} (ho : OpR X (compareOp op) (rD X.K f)) (ha : PE X a (tL X.K Ew ma)) (hb : PE X b (tL X.K Ew mb)) (hm : behindInMarks op b = false := by first | exact nobehind _ (by decide) (by decide) | rfl) :
    PE X (.Compare a [op] [b] pos) (tD X.K Ew (mOp2 f ma mb)) :=
  PE.imp (pe_cmpR ho ha hb hm) fun _ _ _ h => t_op2 h
theorem t_test {K : PySem.W.Frag} {t : TE} {t' : TT} {σ : L2.St} {H : Hp} {Q : Bool → Hp → Prop} (i : ∀ Q : VK, tD K Ew md σ H Q → t σ H Q) (h : tT K Ew (mTest md) σ H Q) : t σ H fun x H1 => ∃ c, x = .bl c ∧ Q c H1 := by
  obtain ⟨W, O, ρ, R, h⟩ := h
  refine i _ ⟨W, O, ρ, R, (Out.bind h).mono fun d ρ1 H1 k1 R1 h1 v rv => ?_⟩
  cases d with
  | bool c =>
    cases rv
    exact ⟨c, rfl, h1 H1 KeepO.refl R1⟩
  | _ => exact h1.elim
/-- a comparison as a test -/
theorem qCmp {op : CmpOp} {f : D → D → Option D} (ho : OpR X (compareOp op) (rD X.K f)) (ha : PE X a (tL X.K Ew ma)) (hb : PE X b (tL X.K Ew mb)) (hm : behindInMarks op b = false := by first | exact nobehind _ (by decide) (by decide) | rfl) :
    PT X (.Compare a [op] [b] pos) (tT X.K Ew (mTest (mOp2 f ma mb))) :=
  PT.imp (pt_cmpR ho ha hb hm) fun σ H Q h => t_test (t := tOp (rD X.K f) (tL X.K Ew ma) (tL X.K Ew mb)) (t' := tT X.K Ew (mTest (mOp2 f ma mb))) (fun Q h => t_op2 h) h
/-- a value as a test -/
theorem qVal (he : PE X e (tD X.K Ew md)) (hh : ∀ whole, isTrue e X.env whole = (do let v ← whole; standAt e.pos; holding [v] (truthy v)) := by intro _; rfl) : PT X e (tT X.K Ew (mTest md)) :=
  PT.imp (pt_val he hh) fun σ H Q h => t_test (t := tD X.K Ew md) (t' := tT X.K Ew (mTest md)) (fun Q h => h) h
theorem t_and {K : PySem.W.Frag} {σ : L2.St} {H : Hp} {Q : Bool → Hp → Prop} (h : tT K Ew (mAnd mt mu) σ H Q) : tAnd (tT K Ew mt) (tT K Ew mu) σ H Q := by
  obtain ⟨W, O, ρ, R, h⟩ := h
  refine ⟨W, O, ρ, R, (Out.bind h).mono fun c ρ1 H1 k1 R1 h1 => ?_⟩
  cases c with
  | true => exact ⟨W, O, ρ1, R1, h1⟩
  | false => exact h1 H1 KeepO.refl R1
theorem t_or {K : PySem.W.Frag} {σ : L2.St} {H : Hp} {Q : Bool → Hp → Prop} (h : tT K Ew (mOr mt mu) σ H Q) : tOr (tT K Ew mt) (tT K Ew mu) σ H Q := by
  obtain ⟨W, O, ρ, R, h⟩ := h
  refine ⟨W, O, ρ, R, (Out.bind h).mono fun c ρ1 H1 k1 R1 h1 => ?_⟩
  cases c with
  | false => exact ⟨W, O, ρ1, R1, h1⟩
  | true => exact h1 H1 KeepO.refl R1
theorem wAnd1 (h : PT X a (tT X.K Ew mt)) : PW X (.BoolOp .And [a] pos) (tT X.K Ew mt) := pw_and1 h
theorem wOr1 (h : PT X a (tT X.K Ew mt)) : PW X (.BoolOp .Or [a] pos) (tT X.K Ew mt) := pw_or1 h
theorem wAnd (h : PT X a (tT X.K Ew mt)) (h2 : PW X (.BoolOp .And (b :: es) pos) (tT X.K Ew mu)) : PW X (.BoolOp .And (a :: b :: es) pos) (tT X.K Ew (mAnd mt mu)) := PW.imp (pw_and h h2) fun _ _ _ h => t_and h
theorem wOr (h : PT X a (tT X.K Ew mt)) (h2 : PW X (.BoolOp .Or (b :: es) pos) (tT X.K Ew mu)) : PW X (.BoolOp .Or (a :: b :: es) pos) (tT X.K Ew (mOr mt mu)) := PW.imp (pw_or h h2) fun _ _ _ h => t_or h
theorem qW (h : PW X a (tT X.K Ew mt)) : PT X a (tT X.K Ew mt) := h.pt
theorem qNot (h : PT X a (tT X.K Ew mt)) : PT X (.UnaryOp .Not a pos) (tT X.K Ew (mNot mt)) :=
  PT.imp (pt_not h) fun σ H Q ⟨W, O, ρ, R, h⟩ => ⟨W, O, ρ, R, (Out.bind h).mono fun c ρ1 H1 k1 R1 h1 => h1 H1 KeepO.refl R1⟩
/-- and, or, not of truths, as values -/
theorem dAnd1 {op : BoolOp} (h : PE X a (tD X.K Ew (mBl mt))) : PE X (.BoolOp op [a] pos) (tD X.K Ew (mBl mt)) := pe_one h
theorem bl_bind {m : M Bool} {f : Bool → M Bool} {ρ : List Slot} : mBl (m >>= f) ρ = (m >>= fun c => mBl (f c)) ρ := by
  show M.bind (M.bind m f) _ ρ = M.bind m _ ρ
  unfold M.bind
  cases m ρ with
  | none => rfl
  | some r => cases r <;> rfl
theorem dAnd (h : PE X a (tD X.K Ew (mBl mt))) (h2 : PE X (.BoolOp .And (b :: es) pos) (tD X.K Ew (mBl mu))) : PE X (.BoolOp .And (a :: b :: es) pos) (tD X.K Ew (mBl (mAnd mt mu))) := by
  refine PE.imp (pe_and h h2) fun σ H Q ⟨W, O, ρ, R, h⟩ => ?_
  have h' : Out X.K Ew W O σ H (fun d _ H' => ∀ v, Rx X.K W H' v d → Q v H') ((mt >>= fun c => mBl (if c = true then mu else pure false)) ρ) := by rw [← bl_bind]; exact h
  refine ⟨W, O, ρ, R, ?_⟩
  show Out _ _ _ _ _ _ _ ((mt >>= fun c => pure (PyData.bool c)) ρ)
  have step := Out.bind h'
  generalize hr : mt ρ = r at step
  show Out _ _ _ _ _ _ _ (M.bind mt _ ρ)
  unfold M.bind
  rw [hr]
  match r, step with
  | some (.ex e ρ'), step => exact step
  | some (.ok c ρ1), step =>
    intro H1 k1 R1 v rv
    cases rv
    have h1 := step H1 k1 R1
    refine ⟨c, rfl, ?_⟩
    cases c with
    | true => exact ⟨W, O, ρ1, R1, h1⟩
    | false => exact h1 H1 KeepO.refl R1 _ (.bl false)
/-- a value that is a truth -/
theorem dBlOf (h : PE X a (tD X.K Ew md)) : PE X a (tD X.K Ew (mBl (mTest md))) := by
  refine PE.imp h fun σ H Q ⟨W, O, ρ, R, h⟩ => ⟨W, O, ρ, R, ?_⟩
  have h' : Out X.K Ew W O σ H (fun d _ H' => ∀ v, Rx X.K W H' v d → Q v H') ((md >>= fun d => mBl (lift (match d with | .bool b => some b | _ => none))) ρ) := by
    have e : mBl (mTest md) ρ = (md >>= fun d => mBl (lift (match d with | .bool b => some b | _ => none))) ρ := by
      show M.bind (M.bind md _) _ ρ = M.bind md _ ρ
      unfold M.bind
      cases md ρ with
      | none => rfl
      | some r => cases r <;> rfl
    rw [← e]; exact h
  refine (Out.bind h').mono fun d ρ1 H1 k1 R1 h1 v rv => ?_
  cases d with
  | bool c => exact h1 H1 KeepO.refl R1 v rv
  | _ => exact h1.elim
/-- a if t else b -/
theorem dIf (h : PT X c (tT X.K Ew mt)) (ha : PE X a (tD X.K Ew md)) (hb : PE X b (tD X.K Ew me)) : PE X (.IfExp c a b pos) (tD X.K Ew (mIf mt md me)) :=
  PE.imp (pe_ifExp h ha hb) fun σ H Q ⟨W, O, ρ, R, h⟩ => ⟨W, O, ρ, R, (Out.bind h).mono fun x ρ1 H1 k1 R1 h1 => by
    cases x with
    | true => exact ⟨W, O, ρ1, R1, h1⟩
    | false => exact ⟨W, O, ρ1, R1, h1⟩⟩
/-! ### rows of arguments -/
theorem aNil : PA X [] (tLs X.K Ew (mLs [])) := PA.imp pa_nil fun σ H Q ⟨W, O, ρ, R, h⟩ => h H KeepO.refl R [] .nil
theorem aCons (ha : PE X e (tL X.K Ew ma)) (hr : PA X es (tLs X.K Ew (mLs as))) (hs : starEach (e :: es) X.env = (false, eval e X.env) :: starEach es X.env := by rfl) : PA X (e :: es) (tLs X.K Ew (mLs (ma :: as))) :=
  PA.imp (pa_cons ha hr hs) fun σ H Q ⟨W, O, ρ, R, h⟩ => ⟨W, O, ρ, R, (Out.bind h).mono fun x ρ1 H1 k1 R1 h1 v rv =>
    ⟨W, O, ρ1, R1, (Out.bind h1).mono fun xs ρ2 H2 k2 R2 h2 vs rvs => h2 H2 KeepO.refl R2 (v :: vs) (.cons (rv.keep R1 k2) rvs)⟩⟩
theorem bNil : PA X [] (tDs X.K Ew (mDs [])) := PA.imp pa_nil fun σ H Q ⟨W, O, ρ, R, h⟩ => h H KeepO.refl R [] .nil
theorem bCons (ha : PE X e (tD X.K Ew md)) (hr : PA X es (tDs X.K Ew (mDs ds))) (hs : starEach (e :: es) X.env = (false, eval e X.env) :: starEach es X.env := by rfl) : PA X (e :: es) (tDs X.K Ew (mDs (md :: ds))) :=
  PA.imp (pa_cons ha hr hs) fun σ H Q ⟨W, O, ρ, R, h⟩ => ⟨W, O, ρ, R, (Out.bind h).mono fun x ρ1 H1 k1 R1 h1 v rv =>
    ⟨W, O, ρ1, R1, (Out.bind h1).mono fun xs ρ2 H2 k2 R2 h2 vs rvs => h2 H2 KeepO.refl R2 (v :: vs) (.cons (rv.keepO R1 k2) rvs)⟩⟩
theorem t_call {K : PySem.W.Frag} {g : List D → Option D} {σ : L2.St} {H : Hp} {Q : VK} (h : tD K Ew (mCall g as) σ H Q) : tCB (rC K g) (tLs K Ew (mLs as)) σ H Q := by
  obtain ⟨W, O, ρ, R, h⟩ := h
  refine ⟨W, O, ρ, R, (Out.bind h).mono fun xs ρ1 H1 k1 R1 h1 vs rvs => ?_⟩
  obtain ⟨ds, tx, h2⟩ := Out.getAll h1 R1 rvs
  obtain ⟨r, hf, q⟩ := Out.lift h2 R1
  exact ⟨W, ds, r, R1.tr, tx, hf, fun w H' s rw => q H' (KeepO.of s) (R1.same s) w rw⟩
theorem t_callF {K : PySem.W.Frag} {g : List D → Option D} {σ : L2.St} {H : Hp} {Q : VK} (h : tF K Ew (mCall g as) σ H Q) : tCB (rCF K g) (tLs K Ew (mLs as)) σ H Q := by
  obtain ⟨W, O, ρ, R, h⟩ := h
  refine ⟨W, O, ρ, R, (Out.bind h).mono fun xs ρ1 H1 k1 R1 h1 vs rvs => ?_⟩
  obtain ⟨ds, tx, h2⟩ := Out.getAll h1 R1 rvs
  obtain ⟨r, hf, q⟩ := Out.lift h2 R1
  refine ⟨W, ds, r, R1.tr, tx, hf, fun p H' s n o => ?_⟩
  obtain ⟨g1, g2, g3, g4⟩ := fresh_end k1 R1 s n o
  exact q H' g3 g4 p g1 g2 o
section
variable {x : Str} {p : Pos} {id T : String} {g : List D → Option D}
/-- f(e, ..), f a built-in function -/
theorem dB (hc : CallR X (.builtin id) (rC X.K g)) (hm : X.mg x = none) (ha : PA X (e :: es) (tLs X.K Ew (mLs as))) (hg : Gl X x := by rfl) (hv : bootBuiltins x = some (.builtin id) := by decide +kernel) (hn : x ≠ "__name__" := by decide) (hdb : (x == ("__debug__" : Str)) = false := by decide)
    (he : starEach (e :: es) X.env = (false, eval e X.env) :: starEach es X.env := by rfl) (hpl : (backTo pos (starEach es X.env)).any (·.1) = false := by rfl) : PE X (.Call (.Name x p) (e :: es) [] pos) (tD X.K Ew (mCall g as)) :=
  PE.imp (pe_callB hc hg hm hv ha hn hdb he hpl) fun _ _ _ h => t_call h
theorem fB (hc : CallR X (.builtin id) (rCF X.K g)) (hm : X.mg x = none) (ha : PA X (e :: es) (tLs X.K Ew (mLs as))) (hg : Gl X x := by rfl) (hv : bootBuiltins x = some (.builtin id) := by decide +kernel) (hn : x ≠ "__name__" := by decide) (hdb : (x == ("__debug__" : Str)) = false := by decide)
    (he : starEach (e :: es) X.env = (false, eval e X.env) :: starEach es X.env := by rfl) (hpl : (backTo pos (starEach es X.env)).any (·.1) = false := by rfl) : PE X (.Call (.Name x p) (e :: es) [] pos) (tF X.K Ew (mCall g as)) :=
  PE.imp (pe_callB hc hg hm hv ha hn hdb he hpl) fun _ _ _ h => t_callF h
/-- T(e, ..), T a built-in type -/
theorem dT (hc : CallR X (.type T) (rC X.K g)) (hm : X.mg x = none) (ha : PA X (e :: es) (tLs X.K Ew (mLs as))) (hg : Gl X x := by rfl) (hv : bootBuiltins x = some (.type T) := by decide +kernel) (hn : x ≠ "__name__" := by decide) (hdb : (x == ("__debug__" : Str)) = false := by decide)
    (he : starEach (e :: es) X.env = (false, eval e X.env) :: starEach es X.env := by rfl) (hpl : (backTo pos (starEach es X.env)).any (·.1) = false := by rfl) : PE X (.Call (.Name x p) (e :: es) [] pos) (tD X.K Ew (mCall g as)) :=
  PE.imp (pe_callTy hc hg hm hv ha hn hdb he hpl) fun _ _ _ h => t_call h
theorem fT (hc : CallR X (.type T) (rCF X.K g)) (hm : X.mg x = none) (ha : PA X (e :: es) (tLs X.K Ew (mLs as))) (hg : Gl X x := by rfl) (hv : bootBuiltins x = some (.type T) := by decide +kernel) (hn : x ≠ "__name__" := by decide) (hdb : (x == ("__debug__" : Str)) = false := by decide)
    (he : starEach (e :: es) X.env = (false, eval e X.env) :: starEach es X.env := by rfl) (hpl : (backTo pos (starEach es X.env)).any (·.1) = false := by rfl) : PE X (.Call (.Name x p) (e :: es) [] pos) (tF X.K Ew (mCall g as)) :=
  PE.imp (pe_callTy hc hg hm hv ha hn hdb he hpl) fun _ _ _ h => t_callF h
end
/-- displays -/
theorem dTup {k : Nat} (h : PA X es (tDs X.K Ew (mDs ds))) : PE X (.Tuple es k pos) (tD X.K Ew (mTup ds)) := by
  refine PE.imp (pe_tup h) fun σ H Q ⟨W, O, ρ, R, h⟩ => ⟨W, O, ρ, R, (Out.bind h).mono fun xs ρ1 H1 k1 R1 h1 vs rvs => ?_⟩
  obtain ⟨r, hf, q⟩ := Out.lift h1 R1
  split at hf
  · rename_i hz
    cases hf
    refine ⟨by rw [rvs.length]; exact hz, fun p n => ?_⟩
    exact q _ (KeepO.of (Same.upd n)) (R1.same (Same.upd n)) _ (tup_new R1.tr n rvs)
  · cases hf
theorem fLst (h : PA X es (tDs X.K Ew (mDs ds))) : PE X (.List es pos) (tF X.K Ew (mLst ds)) := by
  refine PE.imp (pe_lst h) fun σ H Q ⟨W, O, ρ, R, h⟩ => ⟨W, O, ρ, R, (Out.bind h).mono fun xs ρ1 H1 k1 R1 h1 vs rvs => ?_⟩
  obtain ⟨r, hf, q⟩ := Out.lift h1 R1
  split at hf
  · rename_i hz
    cases hf
    refine ⟨by rw [rvs.length]; exact hz, fun p n => ?_⟩
    obtain ⟨g1, g2, g3, g4⟩ := fresh_end k1 R1 (Same.upd n) n (own_new n rvs)
    exact q _ g3 g4 p g1 g2 (own_new n rvs)
  · cases hf
/-- a[b] -/
theorem dIx (hu : X.A.units + 1 < cLine) (ha : PE X a (tL X.K Ew ma)) (hb : PE X b (tL X.K Ew mb)) (hs : PlainIx b := by exact fun _ _ => rfl) : PE X (.Subscript a b pos) (tD X.K Ew (mOp2 ixD ma mb)) :=
  PE.imp (pe_ix (ix_D hu) ha hb hs) fun _ _ _ h => t_op2 h
/-- -a -/
def negD : D → Option D
  | .int i => some (.int (-i))
  | _ => none
theorem dNeg (ha : PE X a (tL X.K Ew ma)) : PE X (.UnaryOp .USub a pos) (tD X.K Ew (mOp1 negD ma)) := by
  refine PE.imp (pe_un un_neg ha) fun σ H Q ⟨W, O, ρ, R, h⟩ => ⟨W, O, ρ, R, (Out.bind h).mono fun x ρ1 H1 k1 R1 h1 v rv => ?_⟩
  obtain ⟨d, tx, h2⟩ := Out.get h1 R1 rv
  obtain ⟨r, hf, q⟩ := Out.lift h2 R1
  cases d with
  | int i =>
    cases hf
    exact ⟨i, tx.int, q H1 KeepO.refl R1 _ (.int _)⟩
  | _ => cases hf
end
end CF
end
section
/-! CFf0: enumerate(x), x a tuple -/
namespace CF
open PySem PySem.Spec PyProof.Rows L2
end CF
end
section
/-! CF, part g: what is walked; comprehensions; slices; sorted by keywords. -/
namespace CF
open PySem PySem.Spec PyProof.Rows L2
variable [Tb]

/-- the walk J goes through the trees ds, as long as what stood stands -/
structure Src (K : PySem.W.Frag) (J : It) (W0 O0 : Addr → Prop) (H0 : Hp) (ds : List D) : Prop where
  go : ∀ i H, KeepO W0 O0 H0 H → i < ds.length → J.go i H
  yld : ∀ (i : Nat) (H : Hp) (x : V) (H' : Hp) (d : D), KeepO W0 O0 H0 H → ds[i]? = some d → J.yld i H x H' → Same H H' ∧ ∀ W : Addr → Prop, (∀ a, W a → W0 a ∨ H0 a = none) → (∀ a, W a → ∃ o, H a = some o) → Rx K W H' x d
  stop : ∀ H, KeepO W0 O0 H0 H → J.stop ds.length H
def tI (K : PySem.W.Frag) (Ew : WX) (m : M (List D)) : TI := fun σ H R => ∃ W O ρ, SRel K W O H σ ρ ∧ Out K Ew W O σ H (fun ds ρ' H' => ∀ J, Src K J W (fun _ => True) H' ds → R J H') (m ρ)
theorem PI.imp {X : Cx} {tg e : Expr} {t t' : TI} (h : PI X tg e t) (i : ∀ σ H R, t' σ H R → t σ H R) : PI X tg e t' := ⟨fun pins s σ H R I hw => h.run pins s σ H R I (i σ H R hw)⟩
theorem PI.or {X : Cx} {tg e : Expr} {t t' : TI} (h : PI X tg e t) (h' : PI X tg e t') : PI X tg e (fun σ H R => t σ H R ∨ t' σ H R) :=
  ⟨fun pins s σ H R I hw => hw.elim (h.run pins s σ H R I) (h'.run pins s σ H R I)⟩

section
variable {K : PySem.W.Frag} {W O W' : Addr → Prop} {H0 H H' : Hp} {σ : L2.St} {ρ : List Slot}
/-- a tree that was known at the walk's start, later -/
theorem Rx.later {v : V} {d : D} (h : Rx K W H0 v d) (k : KeepO W O H0 H) (w : ∀ a, W' a → W a ∨ H0 a = none) : Rx K W' H v d :=
  Rx.go (fun a u e n => k.rest a u e n) (fun a o e z => (w a z).elim id fun q => by rw [q] at e; cases e) d v h
theorem sqL_keep {a : Addr} {xs : List V} (k : KeepO W O H0 H) (n : ¬ W a) (h : L2.Rd H0 a (.lst xs)) : SqL K H a xs := .inl (k.rest a _ h n)
theorem sqT_rx {a : Addr} {xs : List V} {ds : List D} (h : Rx K W H0 (.ref a) (.tuple ds)) (hx : SqT K H0 a xs) : ∃ xs', SqT K H0 a xs' ∧ RxL K W H0 xs' ds ∧ ∀ H, KeepO W O H0 H → SqT K H a xs' := by
  cases h with
  | tup hw hr hl => exact ⟨_, .inl hr, hl, fun H k => .inl (k.rest _ _ hr hw)⟩
  | tupK hk hl => exact ⟨_, .inr hk, hl, fun H k => .inr hk⟩
theorem RxL.same_at {xs : List V} {ds : List D} {i : Nat} {x : V} {d : D} (l : RxL K W H xs ds) (hx : xs[i]? = some x) (hd : ds[i]? = some d) : Rx K W H x d := by
  obtain ⟨e, h1, h2⟩ := l.get' hx
  rw [hd] at h1; cases h1
  exact h2
theorem src_list {a : Addr} {xs : List V} {ds : List D} (n : ¬ W a) (h : L2.Rd H0 a (.lst xs)) (l : RxL K W H0 xs ds) : Src K (Itl K a) W O H0 ds := by
  have ll := l.length
  refine ⟨fun i H k hi => ?_, fun i H x H' d k e y => ?_, fun H k => ?_⟩
  · exact ⟨xs, xs[i]'(by omega), sqL_keep k n h, List.getElem?_eq_getElem _⟩
  · obtain ⟨rfl, y⟩ := y
    exact ⟨Same.refl _, fun W' w1 _ => (l.same_at (y xs (sqL_keep k n h)) e).later k w1⟩
  · exact ⟨xs, sqL_keep k n h, by omega⟩
theorem src_tuple {a : Addr} {ds : List D} (h : Rx K W H0 (.ref a) (.tuple ds)) : Src K (Itt K a) W O H0 ds := by
  obtain ⟨b, xs, e, hx, _⟩ := h.tuple
  cases e
  obtain ⟨xs, h1, l, h2⟩ := sqT_rx (O := O) h hx
  have ll := l.length
  refine ⟨fun i H k hi => ?_, fun i H x H' d k e y => ?_, fun H k => ?_⟩
  · exact ⟨xs, xs[i]'(by omega), h2 H k, List.getElem?_eq_getElem _⟩
  · obtain ⟨rfl, y⟩ := y
    exact ⟨Same.refl _, fun W' w1 _ => (l.same_at (y xs (h2 _ k)) e).later k w1⟩
  · exact ⟨xs, h2 H k, by omega⟩
def signs (x : Str) : List D := x.cps.toList.map fun c => .str ⟨#[c]⟩
theorem src_str {x : Str} : Src K (Its x) W O H0 (signs x) := by
  have hl : (signs x).length = x.cps.size := by simp [signs]
  refine ⟨fun i H k hi => ?_, fun i H v H' d k e y => ?_, fun H k => ?_⟩
  · show i < x.cps.size
    omega
  · obtain ⟨rfl, c, q, rfl⟩ := y
    rw [signs, List.getElem?_map, Array.getElem?_toList, q] at e
    cases e
    exact ⟨Same.refl _, fun _ _ _ => .str _⟩
  · show x.cps.size ≤ _
    omega
def rangeD (lo : Int) (n : Nat) : List D := (List.range n).map fun i => .int (lo + (i : Nat))
theorem src_range {lo : Int} {n : Nat} : Src K (Itr lo n) W O H0 (rangeD lo n) := by
  have hl : (rangeD lo n).length = n := by simp [rangeD]
  refine ⟨fun i H k hi => ?_, fun i H v H' d k e y => ?_, fun H k => ?_⟩
  · show i < n
    omega
  · obtain ⟨rfl, rfl⟩ := y
    rw [rangeD, List.getElem?_map] at e
    have hi : i < n := by
      rcases Nat.lt_or_ge i n with h | h
      · exact h
      · rw [List.getElem?_eq_none (by simpa using h)] at e
        cases e
    rw [List.getElem?_range hi] at e
    cases e
    exact ⟨Same.refl _, fun _ _ _ => .int _⟩
  · show n ≤ _
    omega
theorem src_keys {d : Addr} {o : Obj} {kvs : List (Key × V)} {es : List (D × D)} (n : ¬ W d) (h : H0 d = some (.frz o (.dK kvs))) (l : RxK K W H0 kvs es) : Src K (Itk d o kvs) W O H0 (es.map (·.1)) := by
  have ll := l.length
  have lk := rxk_keys l
  refine ⟨fun i H k hi => ?_, fun i H v H' dd k e y => ?_, fun H k => ?_⟩
  · exact ⟨k.frz _ _ _ h n, by rw [List.length_map] at hi; omega⟩
  · obtain ⟨rfl, key, w, q, rfl⟩ := y
    rw [lk, List.getElem?_map, q] at e
    cases e
    refine ⟨Same.refl _, fun _ _ _ => ?_⟩
    cases key
    · exact .int _
    · exact .str _
  · exact ⟨k.frz _ _ _ h n, by rw [List.length_map]; omega⟩
theorem RxK.get' : ∀ {i : Nat} {kvs : List (Key × V)} {es : List (D × D)} {k : Key} {v : V}, RxK K W H kvs es → kvs[i]? = some (k, v) → ∃ d, es[i]? = some (keyD k, d) ∧ Rx K W H v d
  | _, _, [], _, _, h, e => by cases h; simp at e
  | 0, _, (_, _) :: _, _, _, h, e => by
    cases h with
    | cons r t =>
      simp at e
      obtain ⟨rfl, rfl⟩ := e
      exact ⟨_, rfl, r⟩
  | i + 1, _, (_, _) :: _, _, _, h, e => by
    cases h with
    | cons r t => simpa using RxK.get' (i := i) t (by simpa using e)
theorem tup_at {T : Addr} {xs : List V} {ds : List D} (n : H T = none) (w : ∀ a, W a → ∃ o, H a = some o) (l : RxL K W (upd H T (.tup xs)) xs ds) : Rx K W (upd H T (.tup xs)) (.ref T) (.tuple ds) :=
  .tup (fun z => by
    obtain ⟨o, e⟩ := w T z
    rw [n] at e
    cases e) (.inl upd_same) l
def zipD (xs ys : List D) : List D := (xs.zip ys).map fun p => .tuple [p.1, p.2]
theorem zipD_at {xs ys : List D} {i : Nat} {d : D} (h : (zipD xs ys)[i]? = some d) : ∃ x y, xs[i]? = some x ∧ ys[i]? = some y ∧ d = .tuple [x, y] := by
  rw [zipD, List.getElem?_map] at h
  cases e : (xs.zip ys)[i]? with
  | none => rw [e] at h; cases h
  | some p =>
    rw [e] at h
    cases h
    obtain ⟨h1, h2⟩ := List.getElem?_zip_eq_some.mp e
    exact ⟨p.1, p.2, h1, h2, rfl⟩
end

/-! ### the sources -/
def iterD : D → Option (List D)
  | .list xs => some xs
  | .tuple xs => some xs
  | .str z => some (signs z)
  | .dict es => some (es.map (·.1))
  | _ => none
def mIt (m : M D) : M (List D) := do
  let d ← m
  lift (iterD d)
def intOf : D → Option Int
  | .int i => some i
  | _ => none
def okR (i : Int) : Bool := decide (-(2 ^ 62) ≤ i ∧ i < 2 ^ 62)
def mRng1 (m : M LV) : M (List D) := do
  let x ← m
  let d ← x.get
  lift ((intOf d).bind fun j => if okR j then some (rangeD 0 j.toNat) else none)
def mRng2 (m m2 : M LV) : M (List D) := do
  let x ← m
  let y ← m2
  let d ← x.get
  let e ← y.get
  lift ((intOf d).bind fun i => (intOf e).bind fun j => if okR i && okR j then some (rangeD i (j - i).toNat) else none)
section
variable {X : Cx} {Ew : WX} {tg e e2 : Expr} {md me : M D} {ma mb : M LV} {pos p tpos apos : Pos} {elts : List Expr} {kk : Nat}
theorem ne_W {W : Addr → Prop} {a d : Addr} (w : W a) (n : ¬ W d) : a ≠ d := by
  intro z
  rw [z] at w
  exact n w
/-- the heap with a dict locked, or as it is -/
theorem lock_keep {W O : Addr → Prop} {K : PySem.W.Frag} {σ : L2.St} {ρ : List Slot} {H : Hp} {d : Addr} {o : Obj} {u : HO} (R : SRel K W O H σ ρ) (n : ¬ W d) (h : H d = some u) (nf : ∀ o' u', u ≠ .frz o' u') (nl : ∀ xs, u ≠ .lst xs) (np : PlainO u) :
    KeepO W O H (upd H d (.frz o u)) ∧ SRel K W O (upd H d (.frz o u)) σ ρ := by
  have k : KeepO W O H (upd H d (.frz o u)) := by
    refine ⟨fun a ob e w _ => ?_, fun a ob e w => ?_, fun a ob v e w => ?_, fun a xs e w => ?_⟩
    · rw [upd_ne (ne_W w n)]; exact e
    · by_cases q : a = d
      · subst q
        rcases e with e | ⟨o', e⟩
        · rw [h] at e; cases e
          exact .inr ⟨o, upd_same⟩
        · rw [h] at e
          exact absurd (Option.some.inj e) (nf _ _)
      · rcases e with e | ⟨o', e⟩
        · exact .inl (by rw [upd_ne q]; exact e)
        · exact .inr ⟨o', by rw [upd_ne q]; exact e⟩
    · by_cases q : a = d
      · subst q
        rw [h] at e
        exact absurd (Option.some.inj e) (nf _ _)
      · rw [upd_ne q]; exact e
    · by_cases q : a = d
      · subst q
        rw [h] at e
        exact absurd (Option.some.inj e) (nl _)
      · rw [upd_ne q]; exact e
  refine ⟨k, R.len, R.ow, fun a w => ?_, fun i x r h1 h2 => ?_, R.ne, R.tb.upd h np⟩
  · obtain ⟨ob, e⟩ := R.tr a w
    exact ⟨ob, by rw [upd_ne (ne_W w n)]; exact e⟩
  · have q := R.sl i x r h1 h2
    cases r with
    | un => trivial
    | dat dd => obtain ⟨v, e, hr⟩ := q; exact ⟨v, e, hr.keepO R k⟩
    | own dd =>
      obtain ⟨a, e, oa, hr⟩ := q
      exact ⟨a, e, oa, hr.go (fun a u e n => k.rest a u e n) (fun _ _ _ z => z) fun ob eb => by rw [upd_ne (ne_W (R.ow a oa) n)]; exact eb⟩
    | ob dd =>
      obtain ⟨a, e, oa, hr⟩ := q
      exact ⟨a, e, oa, hr.go (fun a u e n => k.rest a u e n) (fun _ _ _ z => z) fun ob eb => by rw [upd_ne (ne_W (R.ow a oa) n)]; exact eb⟩
/-- for k in d -/
def iLock (K : PySem.W.Frag) (te : TE) (J : Addr → Obj → List (Key × V) → It) : TI := fun σ H R => te σ H fun x H1 => ∃ d kvs, x = .ref d ∧ L2.Rd H1 d (.dK kvs) ∧
  (∀ o, H1 d = some (.frz o (.dK kvs)) → R (J d o kvs) H1) ∧ (H1 d = some (.dK kvs) → ∀ o, R (J d o kvs) (upd H1 d (.frz o (.dK kvs))))
theorem lock_pe {te : TE} {J : Addr → Obj → List (Key × V) → It} {pins : List (Addr × Obj)} {s : Shared} {σ : L2.St} {H : Hp} {R : It → Hp → Prop} (he : PE X e te) (I : Inv X pins σ H s) (h : iLock X.K te J σ H R) :
    wpAny (model X.prog X.w) X.A (eval e X.env) (fun u s1 => ∃ d o kvs H1, u = .ref d ∧ Inv X pins σ H1 s1 ∧ H1 d = some (.frz o (.dK kvs)) ∧ R (J d o kvs) H1) X.xe s := by
  refine thn (he.run pins s σ H _ I h) fun u s1 ⟨x, H1, I1, rx, d, kvs, ex, hd, q1, q2⟩ => ?_
  subst ex
  obtain rfl : u = Value.ref d := rx
  rcases hd with hd | ⟨o, hd⟩
  · obtain ⟨od, I2⟩ := I1.lock hd trivial
    exact ⟨d, od, kvs, _, rfl, I2, upd_same, q2 hd od⟩
  · exact ⟨d, o, kvs, H1, rfl, I1, hd, q1 o hd⟩
theorem pe_locked {te : TE} {J : Addr → Obj → List (Key × V) → It} (he : PE X e te) : PE X e (fun σ H Q => ∃ R, iLock X.K te J σ H R ∧ ∀ d o kvs H1, H1 d = some (.frz o (.dK kvs)) → R (J d o kvs) H1 → Q (.ref d) H1) :=
  ⟨fun pins s σ H Q I ⟨R, h, hq⟩ => thn (lock_pe he I h) fun u s1 ⟨d, o, kvs, H1, eu, I1, hd, r⟩ => ⟨.ref d, H1, I1, eu, hq d o kvs H1 hd r⟩⟩
theorem pi_keysL {te : TE} (he : PE X e te) : PI X tg e (iLock X.K te Itk) := by
  refine PI.imp (pi_keys (pe_locked (J := Itk) he)) fun σ H R h => ⟨R, h, fun d o kvs H1 hd r => ⟨d, o, rfl, .inl ⟨kvs, hd, r⟩⟩⟩
theorem iIt (he : PE X e (tD X.K Ew md)) : PI X tg e (tI X.K Ew (mIt md)) := by
  refine PI.imp (CF.PI.or (CF.PI.or (pi_list he) (pi_tup he)) (CF.PI.or (pi_str he) (pi_keysL he))) fun σ H R h => ?_
  obtain ⟨W, O, ρ, R0, h⟩ := h
  generalize hr : md ρ = r
  have hb := Out.bind h
  rw [hr] at hb
  have mk : ∀ Q : VK, Out X.K Ew W O σ H (fun d _ H' => ∀ v, Rx X.K W H' v d → Q v H') r → tD X.K Ew md σ H Q := fun Q z => ⟨W, O, ρ, R0, by rw [hr]; exact z⟩
  match r, hb with
  | some (.ex e' ρ'), hb => exact .inl (.inl (mk _ hb))
  | some (.ok d ρ1), hb =>
    cases d with
    | list ds =>
      refine .inl (.inl (mk _ fun H1 k1 R1 v rv => ?_))
      obtain ⟨_, hf, q⟩ := Out.lift (hb H1 k1 R1) R1
      cases hf
      cases rv with
      | lst hw hd l => exact ⟨_, rfl, ⟨_, .inl hd⟩, q H1 KeepO.refl R1 _ (src_list hw hd l)⟩
    | tuple ds =>
      refine .inl (.inr (mk _ fun H1 k1 R1 v rv => ?_))
      obtain ⟨_, hf, q⟩ := Out.lift (hb H1 k1 R1) R1
      cases hf
      obtain ⟨a, xs, rfl, hx, _⟩ := rv.tuple
      exact ⟨_, rfl, ⟨_, hx⟩, q H1 KeepO.refl R1 _ (src_tuple rv)⟩
    | str z =>
      refine .inr (.inl (mk _ fun H1 k1 R1 v rv => ?_))
      obtain ⟨_, hf, q⟩ := Out.lift (hb H1 k1 R1) R1
      cases hf
      cases rv
      exact ⟨z, rfl, q H1 KeepO.refl R1 _ src_str⟩
    | dict es =>
      refine .inr (.inr (mk _ fun H1 k1 R1 v rv => ?_))
      obtain ⟨_, hf, q⟩ := Out.lift (hb H1 k1 R1) R1
      cases hf
      cases rv with
      | @dic a kvs _ hw hd l =>
        refine ⟨a, kvs, rfl, hd, fun o e => q H1 KeepO.refl R1 _ (src_keys hw e l), fun e o => ?_⟩
        obtain ⟨k2, R2⟩ := lock_keep (o := o) R1 hw e (fun _ _ z => nomatch z) (fun _ z => nomatch z) plain_dK
        exact q _ k2 R2 _ (src_keys hw upd_same (RxK.go (fun a u e n => k2.rest a u e n) (fun _ _ _ z => z) es kvs l))
    | none =>
      refine .inl (.inl (mk _ fun H1 k1 R1 v rv => ?_))
      obtain ⟨_, hf, q⟩ := Out.lift (hb H1 k1 R1) R1
      cases hf
    | bool b =>
      refine .inl (.inl (mk _ fun H1 k1 R1 v rv => ?_))
      obtain ⟨_, hf, q⟩ := Out.lift (hb H1 k1 R1) R1
      cases hf
    | int b =>
      refine .inl (.inl (mk _ fun H1 k1 R1 v rv => ?_))
      obtain ⟨_, hf, q⟩ := Out.lift (hb H1 k1 R1) R1
      cases hf
section
variable {x : Str} {es : List Expr}
theorem iRange1 (hm : X.mg "range" = none) (ha : PE X e (tL X.K Ew ma)) (hg : Gl X "range" := by rfl) (hs : starEach [e] X.env = [(false, eval e X.env)] := by rfl) : PI X tg (.Call (.Name "range" p) [e] [] pos) (tI X.K Ew (mRng1 ma)) := by
  refine PI.imp (pi_range1 (ta := tCons (tL X.K Ew ma) tNil) hg hm (pa_cons ha pa_nil hs) hs) fun σ H R ⟨W, O, ρ, R0, h⟩ => ⟨W, O, ρ, R0, (Out.bind h).mono fun l ρ1 H1 k1 R1 h1 v rv => ?_⟩
  obtain ⟨d, tx, h2⟩ := Out.get h1 R1 rv
  obtain ⟨r, hf, q⟩ := Out.lift h2 R1
  cases d with
  | int j =>
    simp only [intOf, Option.bind_some] at hf
    split at hf
    · rename_i hz
      cases hf
      have hz := of_decide_eq_true hz
      exact ⟨j, by rw [tx.int], hz.1, hz.2, q H1 KeepO.refl R1 _ src_range⟩
    · cases hf
  | _ => cases hf
end
end

/-! ### targets -/
def setS (i : Nat) (d : D) : M Unit := fun ρ => some (.ok () (ρ.set i (.dat d)))
def bind2 (is : List Nat) : List D → M Unit
  | ds => fun ρ => if ds.length = is.length then some (.ok () ((is.zip ds).foldl (fun ρ p => ρ.set p.1 (.dat p.2)) ρ)) else none
def bTup (is : List Nat) (d : D) : M Unit := match d with
  | .tuple ds => bind2 is ds
  | .list ds => bind2 is ds
  | _ => fun _ => none
/-- a target that binds the slots is -/
def tB (K : PySem.W.Frag) (is : List Nat) (b : D → M Unit) : TG := fun v σ H Q => ∃ W O ρ d ρ', SRel K W O H σ ρ ∧ Rx K W H v d ∧ b d ρ = some (.ok () ρ') ∧
  ∀ σ' H', KeepO W O H H' → SRel K W O H' σ' ρ' → σ'.length = σ.length → (∀ j, j ∉ is → σ'[j]? = σ[j]?) → Q σ' H'
theorem SRel.set {K : PySem.W.Frag} {W O : Addr → Prop} {H : Hp} {σ : L2.St} {ρ : List Slot} (R : SRel K W O H σ ρ) (i : Nat) {v : V} {d : D} (r : Rx K W H v d) : SRel K W O H (σ.set i (some v)) (ρ.set i (.dat d)) := by
  have own : ∀ (j : Nat) (e : D), (ρ.set i (.dat d))[j]? = some (.own e) → j ≠ i ∧ ρ[j]? = some (.own e) := fun j e h => by
    by_cases q : j = i
    · subst q
      rw [List.getElem?_set] at h
      simp at h
    · rw [List.getElem?_set_ne (Ne.symm q)] at h
      exact ⟨q, h⟩
  refine ⟨by rw [List.length_set, List.length_set, R.len], R.ow, R.tr, fun j x s h1 h2 => ?_, fun j k a d1 d2 n e1 e2 f1 f2 => ?_, R.tb⟩
  · by_cases q : j = i
    · subst q
      rw [List.getElem?_set] at h1 h2
      simp only [if_true] at h1 h2
      split at h1 <;> split at h2 <;> first | (cases h1; done) | (cases h2; done) | (cases h1; cases h2; exact ⟨v, rfl, r⟩)
    · rw [List.getElem?_set_ne (Ne.symm q)] at h1 h2
      exact R.sl j x s h1 h2
  · obtain ⟨n1, e1⟩ := own j d1 e1
    obtain ⟨n2, e2⟩ := own k d2 e2
    rw [List.getElem?_set_ne (Ne.symm n1)] at f1
    rw [List.getElem?_set_ne (Ne.symm n2)] at f2
    exact R.ne j k a d1 d2 n e1 e2 f1 f2
section
variable {X : Cx} {pos : Pos}
theorem gN (i : Nat) {x : Str} (hN : X.N.Nodup) (hi : X.N[i]? = some x := by rfl) (hx : Loc X.env.scope x := by first | exact Or.inl rfl | exact Or.inr rfl) (hf : X.fn x = true ∨ X.env.scope.names.lookup x = some .local := by first | exact .inl rfl | exact .inr rfl) : PG X (.Name x pos) (tB X.K [i] (setS i)) := by
  refine ⟨fun pins s σ H v u Q I r ⟨W, O, ρ, d, ρ', R, rx, hb, q⟩ => ?_⟩
  cases hb
  refine (pg_name hN hi hx hf).run pins s σ H v u Q I r ?_
  exact q _ _ KeepO.refl (R.set i rx) (by rw [List.length_set]) fun j hj => by
    rw [List.getElem?_set_ne]
    intro z
    exact hj (by simp [z])
/-- names in a row -/
def gsN : List Nat → TGs
  | [] => gNil
  | i :: is => gCons (gName i) (gsN is)
theorem gsN_ok {K : PySem.W.Frag} {W O : Addr → Prop} {H : Hp} : ∀ {is : List Nat} {vs : List V} {ds : List D} {σ : L2.St} {ρ : List Slot} {Q : L2.St → Hp → Prop}, ds.length = is.length → RxL K W H vs ds → SRel K W O H σ ρ →
    (∀ σ', SRel K W O H σ' ((is.zip ds).foldl (fun ρ p => ρ.set p.1 (.dat p.2)) ρ) → σ'.length = σ.length → (∀ j, j ∉ is → σ'[j]? = σ[j]?) → Q σ' H) → gsN is vs σ H Q
  | [], vs, ds, σ, ρ, Q, hl, r, R, q => by
    have e : ds = [] := List.eq_nil_of_length_eq_zero hl
    subst e
    cases r
    exact ⟨rfl, q σ R rfl fun _ _ => rfl⟩
  | i :: is, vs, [], σ, ρ, Q, hl, r, R, q => by simp at hl
  | i :: is, vs, d :: ds, σ, ρ, Q, hl, r, R, q => by
    cases r with
    | @cons v vs _ _ r1 r2 =>
      refine ⟨v, vs, rfl, ?_⟩
      refine gsN_ok (is := is) (by simpa using hl) r2 (R.set i r1) fun σ' R' l' h' => q σ' (by simpa using R') (by rw [l', List.length_set]) fun j hj => ?_
      rw [List.mem_cons, not_or] at hj
      rw [h' j hj.2, List.getElem?_set_ne (Ne.symm hj.1)]
theorem gT {es : List Expr} {k : Nat} {is : List Nat} (hc : X.calm = true) (h : PGs X es (gsN is)) (hn : (assignEach es X.env).length = is.length := by rfl) (hst : (assignEach es X.env).findIdx? (·.1) = none := by rfl) : PG X (.Tuple es k pos) (tB X.K is (bTup is)) := by
  refine ⟨fun pins s σ H v u Q I r ⟨W, O, ρ, d, ρ', R, rx, hb, q⟩ => ?_⟩
  cases d with
  | tuple ds =>
    simp only [bTup, bind2] at hb
    split at hb
    · rename_i hl
      cases hb
      obtain ⟨a, xs, rfl, hx, l⟩ := rx.tuple
      exact (pg_tup hc h hn hst).run pins s σ H _ u Q I r ⟨a, xs, rfl, hx, by rw [l.length, hl], gsN_ok hl l R fun σ' R' l' h' => q σ' H KeepO.refl R' l' h'⟩
    · cases hb
  | list ds =>
    simp only [bTup, bind2] at hb
    split at hb
    · rename_i hl
      cases hb
      obtain ⟨a, xs, rfl, hx, l⟩ := (show Tx X.K W H v (.list ds) from .inl rx).list
      exact (pg_lst hc h hn hst).run pins s σ H _ u Q I r ⟨a, xs, rfl, .inl hx, by rw [l.length, hl], gsN_ok hl l R fun σ' R' l' h' => q σ' H KeepO.refl R' l' h'⟩
    · cases hb
  | _ => cases hb
theorem gsNil : PGs X [] (gsN []) := pgs_nil
theorem gsCons (i : Nat) {x : Str} {es : List Expr} {is : List Nat} (hN : X.N.Nodup) (h2 : PGs X es (gsN is)) (hi : X.N[i]? = some x := by rfl) (hx : Loc X.env.scope x := by first | exact Or.inl rfl | exact Or.inr rfl) (hf : X.fn x = true ∨ X.env.scope.names.lookup x = some .local := by first | exact .inl rfl | exact .inr rfl)
    (hs : (assignEach (.Name x pos :: es) X.env).map (·.2) = assign (.Name x pos) X.env :: (assignEach es X.env).map (·.2) := by rfl) : PGs X (.Name x pos :: es) (gsN (i :: is)) := pgs_cons (pg_name hN hi hx hf) h2 hs
end
end CF
end
section
/-! CF, part l: comprehensions. -/
namespace CF
open PySem PySem.Spec PyProof.Rows L2
variable [Tb]

/-- no exception -/
abbrev WF : WX := fun _ _ _ _ => False
def wipeS (ρ : List Slot) : List Nat → List Slot
  | [] => ρ
  | v :: vs => (wipeS ρ vs).set v .un
def backS (ρ0 ρ : List Slot) : List Nat → List Slot
  | [] => ρ
  | v :: vs => (backS ρ0 ρ vs).set v (ρ0.getD v .un)
def isOwn : Slot → Bool
  | .own _ => true
  | .ob _ => true
  | _ => false
def isOwnD : Slot → Bool
  | .own _ => true
  | _ => false
def lcGo (vs : List Nat) (b : D → M Unit) (t : M Bool) (elt : M D) : List D → List D → M (List D)
  | [], acc => pure acc
  | d :: ds, acc => do
    (fun ρ => some (.ok () (wipeS ρ vs)) : M Unit)
    b d
    let c ← t
    if c = true then do
      let y ← elt
      if acc.length < sizeLine then lcGo vs b t elt ds (acc ++ [y]) else fun _ => none
    else lcGo vs b t elt ds acc
def mLC (vs : List Nat) (src : M (List D)) (b : D → M Unit) (t : M Bool) (elt : M D) : M D := do
  let ds ← src
  fun ρ => if vs.all fun v => !isOwn (ρ.getD v .un) then
    match lcGo vs b t elt ds [] ρ with
    | some (.ok r ρ') => some (.ok (.list r) (backS ρ ρ' vs))
    | _ => none
    else none

theorem ok_bind {α β : Type} {m : M α} {f : α → M β} {ρ ρ' : List Slot} {b : β} (h : (m >>= f) ρ = some (.ok b ρ')) : ∃ a ρ1, m ρ = some (.ok a ρ1) ∧ f a ρ1 = some (.ok b ρ') := by
  have h : M.bind m f ρ = some (.ok b ρ') := h
  unfold M.bind at h
  cases e : m ρ with
  | none => rw [e] at h; cases h
  | some r =>
    rw [e] at h
    cases r with
    | ok a ρ1 => exact ⟨a, ρ1, rfl, h⟩
    | ex _ _ => cases h
section
variable {K : PySem.W.Frag} {W O : Addr → Prop} {H H' : Hp} {σ : L2.St} {ρ ρ0 : List Slot}
theorem wipe_at (σ : L2.St) : ∀ (vs : List Nat) (i : Nat), i ∉ vs → (wipe σ vs)[i]? = σ[i]?
  | [], _, _ => rfl
  | v :: vs, i, h => by
    rw [List.mem_cons, not_or] at h
    show ((wipe σ vs).set v none)[i]? = _
    rw [List.getElem?_set_ne (Ne.symm h.1)]
    exact wipe_at σ vs i h.2
theorem wipe_in (σ : L2.St) : ∀ (vs : List Nat) (i : Nat), i ∈ vs → ∀ x, (wipe σ vs)[i]? = some x → x = none
  | v :: vs, i, h, x, e => by
    have e : ((wipe σ vs).set v none)[i]? = some x := e
    by_cases q : i = v
    · subst q
      rw [List.getElem?_set] at e
      simp only [if_true] at e
      split at e
      · exact (Option.some.inj e).symm
      · cases e
    · rw [List.getElem?_set_ne (Ne.symm q)] at e
      exact wipe_in σ vs i ((List.mem_cons.mp h).resolve_left q) x e
theorem wipeS_len (ρ : List Slot) : ∀ vs : List Nat, (wipeS ρ vs).length = ρ.length
  | [] => rfl
  | v :: vs => by
    show ((wipeS ρ vs).set v .un).length = _
    rw [List.length_set, wipeS_len ρ vs]
theorem wipeS_at (ρ : List Slot) : ∀ (vs : List Nat) (i : Nat), i ∉ vs → (wipeS ρ vs)[i]? = ρ[i]?
  | [], _, _ => rfl
  | v :: vs, i, h => by
    rw [List.mem_cons, not_or] at h
    show ((wipeS ρ vs).set v .un)[i]? = _
    rw [List.getElem?_set_ne (Ne.symm h.1)]
    exact wipeS_at ρ vs i h.2
theorem wipeS_in (ρ : List Slot) : ∀ (vs : List Nat) (i : Nat), i ∈ vs → ∀ x, (wipeS ρ vs)[i]? = some x → x = .un
  | v :: vs, i, h, x, e => by
    have e : ((wipeS ρ vs).set v .un)[i]? = some x := e
    by_cases q : i = v
    · subst q
      rw [List.getElem?_set] at e
      simp only [if_true] at e
      split at e
      · exact (Option.some.inj e).symm
      · cases e
    · rw [List.getElem?_set_ne (Ne.symm q)] at e
      exact wipeS_in ρ vs i ((List.mem_cons.mp h).resolve_left q) x e
theorem backS_len (ρ0 ρ : List Slot) : ∀ vs : List Nat, (backS ρ0 ρ vs).length = ρ.length
  | [] => rfl
  | v :: vs => by
    show ((backS ρ0 ρ vs).set v _).length = _
    rw [List.length_set, backS_len ρ0 ρ vs]
theorem backS_at (ρ0 ρ : List Slot) : ∀ (vs : List Nat) (i : Nat), i ∉ vs → (backS ρ0 ρ vs)[i]? = ρ[i]?
  | [], _, _ => rfl
  | v :: vs, i, h => by
    rw [List.mem_cons, not_or] at h
    show ((backS ρ0 ρ vs).set v _)[i]? = _
    rw [List.getElem?_set_ne (Ne.symm h.1)]
    exact backS_at ρ0 ρ vs i h.2
theorem backS_in (ρ0 ρ : List Slot) : ∀ (vs : List Nat) (i : Nat), i ∈ vs → ∀ x, (backS ρ0 ρ vs)[i]? = some x → x = ρ0.getD i .un
  | v :: vs, i, h, x, e => by
    have e : ((backS ρ0 ρ vs).set v (ρ0.getD v .un))[i]? = some x := e
    by_cases q : i = v
    · subst q
      rw [List.getElem?_set] at e
      simp only [if_true] at e
      split at e
      · exact (Option.some.inj e).symm
      · cases e
    · rw [List.getElem?_set_ne (Ne.symm q)] at e
      exact backS_in ρ0 ρ vs i ((List.mem_cons.mp h).resolve_left q) x e
/-- forgetting some slots -/
theorem SRel.wipe (R : SRel K W O H σ ρ) (vs : List Nat) : SRel K W O H σ (wipeS ρ vs) := by
  have own : ∀ (j : Nat) (e : D), (wipeS ρ vs)[j]? = some (.own e) → ρ[j]? = some (.own e) := fun j e h => by
    by_cases q : j ∈ vs
    · exact nomatch wipeS_in ρ vs j q _ h
    · rw [wipeS_at ρ vs j q] at h; exact h
  refine ⟨by rw [wipeS_len, R.len], R.ow, R.tr, fun j x s h1 h2 => ?_, fun j k a d1 d2 n e1 e2 f1 f2 => R.ne j k a d1 d2 n (own _ _ e1) (own _ _ e2) f1 f2, R.tb⟩
  by_cases q : j ∈ vs
  · rw [wipeS_in ρ vs j q _ h2]; trivial
  · rw [wipeS_at ρ vs j q] at h2; exact R.sl j x s h1 h2
/-- .. and the values -/
theorem SRel.wipe2 (R : SRel K W O H σ ρ) (vs : List Nat) : SRel K W O H (L2.wipe σ vs) (wipeS ρ vs) := by
  have own : ∀ (j : Nat) (e : D), (wipeS ρ vs)[j]? = some (.own e) → j ∉ vs ∧ ρ[j]? = some (.own e) := fun j e h => by
    by_cases q : j ∈ vs
    · exact nomatch wipeS_in ρ vs j q _ h
    · rw [wipeS_at ρ vs j q] at h; exact ⟨q, h⟩
  refine ⟨by rw [wipeS_len, wipe_length, R.len], R.ow, R.tr, fun j x s h1 h2 => ?_, fun j k a d1 d2 n e1 e2 f1 f2 => ?_, R.tb⟩
  · by_cases q : j ∈ vs
    · rw [wipeS_in ρ vs j q _ h2]; trivial
    · rw [wipeS_at ρ vs j q] at h2
      rw [wipe_at σ vs j q] at h1
      exact R.sl j x s h1 h2
  · obtain ⟨q1, e1⟩ := own _ _ e1
    obtain ⟨q2, e2⟩ := own _ _ e2
    rw [wipe_at σ vs j q1] at f1
    rw [wipe_at σ vs k q2] at f2
    exact R.ne j k a d1 d2 n e1 e2 f1 f2
theorem SRel.moreO {O' : Addr → Prop} (R : SRel K W O H σ ρ) (h : ∀ a, O a → O' a) (h' : ∀ a, O' a → W a) : SRel K W O' H σ ρ := by
  refine ⟨R.len, h', R.tr, fun j x s h1 h2 => ?_, R.ne, R.tb.more h⟩
  have q := R.sl j x s h1 h2
  cases s with
  | un => trivial
  | dat d => exact q
  | own d => obtain ⟨a, e, o, z⟩ := q; exact ⟨a, e, h a o, z⟩
  | ob d => obtain ⟨a, e, o, z⟩ := q; exact ⟨a, e, h a o, z⟩
theorem SRel.updW {p : Addr} {o u : HO} (R : SRel K W O H σ ρ) (w : W p) (n : ¬ O p) (hu : H p = some u) (pu : PlainO u) : SRel K W O (upd H p o) σ ρ := by
  have k : ∀ a u, L2.Rd H a u → ¬ W a → L2.Rd (upd H p o) a u := fun a u h na => by
    have q : a ≠ p := fun z => na (by rw [z]; exact w)
    rcases h with h | ⟨ob, h⟩
    · exact .inl (by rw [upd_ne q]; exact h)
    · exact .inr ⟨ob, by rw [upd_ne q]; exact h⟩
  refine ⟨R.len, R.ow, fun a wa => ?_, fun j x s h1 h2 => ?_, R.ne, R.tb.upd hu pu⟩
  · by_cases q : a = p
    · subst q; exact ⟨o, upd_same⟩
    · obtain ⟨ob, e⟩ := R.tr a wa
      exact ⟨ob, by rw [upd_ne q]; exact e⟩
  · have q := R.sl j x s h1 h2
    cases s with
    | un => trivial
    | dat d => obtain ⟨v, e, h⟩ := q; exact ⟨v, e, Rx.go k (fun _ _ _ z => z) d v h⟩
    | own d =>
      obtain ⟨a, e, oa, h⟩ := q
      exact ⟨a, e, oa, h.go k (fun _ _ _ z => z) fun ob eb => by rw [upd_ne (fun z => n (by rw [← z]; exact oa))]; exact eb⟩
    | ob d =>
      obtain ⟨a, e, oa, h⟩ := q
      exact ⟨a, e, oa, h.go k (fun _ _ _ z => z) fun ob eb => by rw [upd_ne (fun z => n (by rw [← z]; exact oa))]; exact eb⟩
theorem KeepO.moreO {O' : Addr → Prop} (k : KeepO W O H H') (h : ∀ a, O a → O' a) : KeepO W O' H H' := ⟨fun a o e w n => k.own a o e w fun z => n (h a z), k.rest, k.frz, k.lst⟩
/-- back from a block -/
theorem SRel.back {Wb : Addr → Prop} {Hb : Hp} {vs : List Nat} {ρe : List Slot} (R0 : SRel K Wb O Hb σ ρ0) (hv : (vs.all fun v => !isOwn (ρ0.getD v .un)) = true) (kd : ∀ (d : D) (v : V), Rx K Wb Hb v d → Rx K W H v d)
    (R : SRel K W O H (L2.wipe σ vs) (wipeS ρe vs)) : SRel K W O H σ (backS ρ0 ρe vs) := by
  have l1 := R.len
  rw [wipe_length, wipeS_len] at l1
  have own : ∀ (j : Nat) (e : D), (backS ρ0 ρe vs)[j]? = some (.own e) → j ∉ vs ∧ ρe[j]? = some (.own e) := fun j e h => by
    by_cases q : j ∈ vs
    · have z := backS_in ρ0 ρe vs j q _ h
      have y := List.all_eq_true.mp hv j q
      rw [← z] at y
      cases y
    · rw [backS_at ρ0 ρe vs j q] at h; exact ⟨q, h⟩
  refine ⟨by rw [backS_len, l1], R.ow, R.tr, fun j x s h1 h2 => ?_, fun j k a d1 d2 n e1 e2 f1 f2 => ?_, R.tb⟩
  · by_cases q : j ∈ vs
    · have z := backS_in ρ0 ρe vs j q _ h2
      have y := List.all_eq_true.mp hv j q
      have hj : j < ρ0.length := by
        rw [← R0.len]
        exact (List.getElem?_eq_some_iff.mp h1).1
      have e0 : ρ0[j]? = some s := by
        rw [z, List.getD_eq_getElem?_getD, List.getElem?_eq_getElem hj]
        rfl
      have r := R0.sl j x s h1 e0
      rw [← z] at y
      cases s with
      | un => trivial
      | dat d => obtain ⟨v, e, h⟩ := r; exact ⟨v, e, kd d v h⟩
      | own d => cases y
      | ob d => cases y
    · rw [backS_at ρ0 ρe vs j q, ← wipeS_at ρe vs j q] at h2
      rw [← wipe_at σ vs j q] at h1
      exact R.sl j x s h1 h2
  · obtain ⟨q1, e1⟩ := own _ _ e1
    obtain ⟨q2, e2⟩ := own _ _ e2
    rw [← wipe_at σ vs j q1] at f1
    rw [← wipe_at σ vs k q2] at f2
    exact R.ne j k a d1 d2 n (by rw [wipeS_at ρe vs j q1]; exact e1) (by rw [wipeS_at ρe vs k q2]; exact e2) f1 f2
theorem keepW {p : Addr} {o : HO} (w : W p) (n : O p) : KeepO W O H (upd H p o) :=
  ⟨fun a _ e _ na => by rw [upd_ne (fun z => na (by rw [z]; exact n))]; exact e, fun a u e na => by
    have q : a ≠ p := fun z => na (by rw [z]; exact w)
    rcases e with e | ⟨ob, e⟩
    · exact .inl (by rw [upd_ne q]; exact e)
    · exact .inr ⟨ob, by rw [upd_ne q]; exact e⟩, fun a _ _ e na => by rw [upd_ne (fun z => na (by rw [z]; exact w))]; exact e, fun a _ e na => by rw [upd_ne (fun z => na (by rw [z]; exact w))]; exact e⟩
theorem wipe_same {σ' : L2.St} {vs is : List Nat} (hs : ∀ i ∈ is, i ∈ vs) (hl : σ'.length = (L2.wipe σ vs).length) (h : ∀ j, j ∉ is → σ'[j]? = (L2.wipe σ vs)[j]?) : L2.wipe σ' vs = L2.wipe σ vs := by
  apply List.ext_getElem?
  intro i
  by_cases q : i ∈ vs
  · have e1 : ∀ τ : L2.St, τ.length = σ.length → (L2.wipe τ vs)[i]? = if i < σ.length then some none else none := fun τ ht => by
      split
      · rename_i hi
        have e := List.getElem?_eq_getElem (l := L2.wipe τ vs) (i := i) (by rw [wipe_length, ht]; exact hi)
        rw [e, wipe_in τ vs i q _ e]
      · rename_i hi
        exact List.getElem?_eq_none (by rw [wipe_length, ht]; omega)
    rw [e1 σ' (by rw [hl, wipe_length]), e1 σ rfl]
  · rw [wipe_at _ _ _ q, wipe_at _ _ _ q, h i (fun z => q (hs i z)), wipe_at _ _ _ q]
end

section
variable {K : PySem.W.Frag} {Ew : WX} {σ : L2.St} {H : Hp} {Q : VK} {vs is : List Nat} {src : M (List D)} {b : D → M Unit} {t : M Bool} {elt : M D}
def lcTurn (K : PySem.W.Frag) (b : D → M Unit) (t : M Bool) (elt : M D) (vs is : List Nat) (σ : L2.St) (Q : VK) : It → Hp → Prop := fun J H1 => ∀ D, H1 D = none → ∃ W : Nat → Nat → Hp → Prop, (∃ m, W 0 m (upd H1 D (.lst []))) ∧ ∀ i m H, W i m H →
  (J.stop i H ∧ Q (.ref D) H) ∨ (J.go i H ∧ ∃ Nx : Hp → Prop, (∀ H', Nx H' → ∃ m', m' < m ∧ W (i + 1) m' H') ∧ ∀ x H', J.yld i H x H' → tB K is b x (L2.wipe σ vs) H' fun σ2 H2 => L2.wipe σ2 vs = L2.wipe σ vs ∧ tT K WF t σ2 H2 fun b H3 =>
    if b = true then tD K WF elt σ2 H3 fun y H4 => ∃ acc, H4 D = some (.lst acc) ∧ acc.length < sizeLine ∧ Nx (upd H4 D (.lst (acc ++ [y]))) else Nx H3)
/-- from the walk's start on -/
theorem lc_from {W O : Addr → Prop} {ρ1 ρe : List Slot} {H1 : Hp} {ds r : List D} {J : It} (hs : (is.all fun i => vs.contains i) = true) (R1 : SRel K W O H1 σ ρ1) (hJ : Src K J W (fun _ => True) H1 ds) (hv : (vs.all fun v => !isOwn (ρ1.getD v .un)) = true) (hr : lcGo vs b t elt ds [] ρ1 = some (.ok r ρe))
    (q : ∀ H', KeepO W O H1 H' → SRel K W O H' σ (backS ρ1 ρe vs) → ∀ a, SRel K (plus W a) (plus O a) H' σ (backS ρ1 ρe vs) → H1 a = none → OwnAt K (plus W a) H' a (.list r) → Q (.ref a) H') : lcTurn K b t elt vs is σ Q J H1 := by
  have hs' : ∀ i ∈ is, i ∈ vs := fun i hi => by simpa using List.all_eq_true.mp hs i hi
  intro D nD
  have OD : ¬ O D := fun z => by
    obtain ⟨o, e⟩ := R1.tr D (R1.ow D z)
    rw [nD] at e
    cases e
  have s1 : Same H1 (upd H1 D (.lst [])) := Same.upd nD
  have RD : SRel K (plus W D) O (upd H1 D (.lst [])) σ ρ1 := by
    have z := R1.plus (H' := upd H1 D (.lst [])) nD upd_same s1
    refine ⟨z.len, fun a o => .inl (R1.ow a o), z.tr, fun i x s e1 e2 => ?_, z.ne, R1.tb.same s1⟩
    have y := z.sl i x s e1 e2
    have y0 := R1.sl i x s e1 e2
    cases s with
    | un => trivial
    | dat d => exact y
    | own d =>
      obtain ⟨a, e, o, _⟩ := y0
      obtain ⟨a', e', _, o'⟩ := y
      rw [e] at e'
      cases e'
      exact ⟨a, e, o, o'⟩
    | ob d =>
      obtain ⟨a, e, o, _⟩ := y0
      obtain ⟨a', e', _, o'⟩ := y
      rw [e] at e'
      cases e'
      exact ⟨a, e, o, o'⟩
  -- from the walk's start to a later heap
  have back : ∀ {Hn : Hp}, KeepO (plus W D) (plus O D) (upd H1 D (.lst [])) Hn → KeepO W O H1 Hn := fun {Hn} k => by
    refine ⟨fun a o e w n => ?_, fun a u e n => ?_, fun a o u e n => ?_, fun a xs e n => ?_⟩
    · have na : a ≠ D := fun z => by rw [z, nD] at e; cases e
      exact k.own a o (s1 a o e) (.inl w) fun z => z.elim n na
    · obtain ⟨o, eo⟩ := rd_some e
      have na : a ≠ D := fun z => by rw [z, nD] at eo; cases eo
      exact k.rest a u (rd_same s1 e) fun z => z.elim n na
    · have na : a ≠ D := fun z => by rw [z, nD] at e; cases e
      exact k.frz a o u (s1 _ _ e) fun z => z.elim n na
    · have na : a ≠ D := fun z => by rw [z, nD] at e; cases e
      exact k.lst a xs (s1 _ _ e) fun z => z.elim n na
  refine ⟨fun i m Hi => m = ds.length - i ∧ i ≤ ds.length ∧ ∃ acc accV ρi, KeepO (plus W D) (plus O D) (upd H1 D (.lst [])) Hi ∧ SRel K (plus W D) O Hi (L2.wipe σ vs) (wipeS ρi vs) ∧ Hi D = some (.lst accV) ∧ RxL K (plus W D) Hi accV acc ∧
    lcGo vs b t elt (ds.drop i) acc ρi = some (.ok r ρe), ⟨ds.length, rfl, Nat.zero_le _, [], [], ρ1, KeepO.refl, RD.wipe2 vs, upd_same, .nil, hr⟩, ?_⟩
  rintro i m Hi ⟨rfl, hi, acc, accV, ρi, ki, Ri, eD, la, go⟩
  have kd : ∀ (d : PyData) (v : V), Rx K W H1 v d → Rx K (plus W D) Hi v d := fun d v h => Rx.go (W' := plus W D) (fun a u e n => ki.rest a u e n) (fun _ _ _ z => z) d v ((Rx.plus h nD).same s1)
  by_cases hlt : i < ds.length
  · refine .inr ⟨hJ.go i Hi ((back ki).moreO fun _ _ => trivial) hlt, fun Hn => ∃ acc accV ρn, KeepO (plus W D) (plus O D) (upd H1 D (.lst [])) Hn ∧ SRel K (plus W D) O Hn (L2.wipe σ vs) (wipeS ρn vs) ∧ Hn D = some (.lst accV) ∧ RxL K (plus W D) Hn accV acc ∧
      lcGo vs b t elt (ds.drop (i + 1)) acc ρn = some (.ok r ρe), fun Hn ⟨a1, a2, a3, a4, a5, a6, a7, a8⟩ => ⟨ds.length - (i + 1), by omega, rfl, hlt, a1, a2, a3, a4, a5, a6, a7, a8⟩, fun x H' y => ?_⟩
    have ed : ds[i]? = some ds[i] := List.getElem?_eq_getElem hlt
    rw [List.drop_eq_getElem_cons hlt] at go
    generalize ds[i] = d at ed go
    obtain ⟨sy, ry⟩ := hJ.yld i Hi x H' d ((back ki).moreO fun _ _ => trivial) ed y
    have RW : ∀ a, plus W D a → W a ∨ H1 a = none := fun a z => z.elim .inl fun q => .inr (by rw [q]; exact nD)
    have rx := ry (plus W D) RW Ri.tr
    obtain ⟨_, _, g1, go⟩ := ok_bind (m := (fun ρ => some (.ok () (wipeS ρ vs)) : M Unit)) go
    cases g1
    obtain ⟨_, ρb, g2, go⟩ := ok_bind go
    obtain ⟨c, ρc, g3, go⟩ := ok_bind go
    refine ⟨plus W D, O, wipeS ρi vs, d, ρb, Ri.same sy, rx, g2, fun σ2 H2 k2 R2 l2 o2 => ?_⟩
    have w2 := wipe_same hs' l2 o2
    refine ⟨w2, plus W D, O, ρb, R2, ?_⟩
    rw [g3]
    intro H3 k3 R3
    have OD' : ¬ O D := OD
    have ks : KeepO (plus W D) O Hi H3 := (KeepO.of sy).trans (k2.trans k3)
    have e3 : H3 D = some (.lst accV) := ks.own D _ eD (.inr rfl) OD
    have l3 := la.keepO Ri ks
    cases c with
    | false =>
      exact ⟨acc, accV, ρc, ki.trans (ks.moreO fun _ z => .inl z), by rw [← w2]; exact R3.wipe2 vs, e3, l3, go⟩
    | true =>
      simp only [if_true] at go ⊢
      obtain ⟨yd, ρd, g4, go⟩ := ok_bind go
      refine ⟨plus W D, O, ρc, R3, ?_⟩
      rw [g4]
      intro H4 k4 R4 yv ryv
      split at go
      case isFalse => cases go
      rename_i hz
      have e4 : H4 D = some (.lst accV) := k4.own D _ e3 (.inr rfl) OD
      have l4 := l3.keepO R3 k4
      refine ⟨accV, e4, by rw [l4.length]; exact hz, acc ++ [yd], accV ++ [yv], ρd, (ki.trans ((ks.trans k4).moreO fun _ z => .inl z)).trans (keepW (.inr rfl) (.inr rfl)), ?_, upd_same, ?_, go⟩
      · rw [← w2]
        exact (R4.updW (.inr rfl) OD e4 plain_lst).wipe2 vs
      · refine RxL.go (fun a u h na => ?_) (fun _ _ _ z => z) _ _ (l4.append (RxL.one ryv))
        exact (keepW (O := plus O D) (.inr rfl) (.inr rfl)).rest a u h na
  · have e : i = ds.length := by omega
    subst e
    rw [List.drop_length] at go
    cases go
    refine .inl ⟨hJ.stop Hi ((back ki).moreO fun _ _ => trivial), ?_⟩
    have Rb := R1.back hv kd Ri
    exact q Hi (back ki) (Rb.less (fun _ z => .inl z) R1.ow (fun i a d e1 e2 => by
      obtain ⟨a', e', o, _⟩ := Rb.own e1
      rw [e2] at e'
      cases e'
      exact o) (fun i a d e1 e2 => by
      obtain ⟨a', e', o, _⟩ := Rb.ob e1
      rw [e2] at e'
      cases e'
      exact o) fun _ z => Rb.tb.sub z) D (Rb.moreO (fun _ z => .inl z) fun a z => z.elim (fun o => .inl (R1.ow a o)) .inr) nD ⟨accV, eD, la⟩
theorem t_lc (hs : (is.all fun i => vs.contains i) = true) (h : tF K Ew (mLC vs src b t elt) σ H Q) : tLc (tI K Ew src) (tB K is b) (tT K WF t) (tD K WF elt) vs σ H Q := by
  obtain ⟨W, O, ρ, R, h⟩ := h
  refine ⟨W, O, ρ, R, (Out.bind h).mono fun ds ρ1 H1 k1 R1 h1 J hJ => ?_⟩
  split at h1
  case isFalse => exact h1.elim
  rename_i hv
  generalize hr : lcGo vs b t elt ds [] ρ1 = r at h1
  match r, h1 with
  | some (.ok r ρe), q => exact lc_from hs R1 hJ hv hr fun H' k R' a Ra na oa => q H' k R' a Ra (R1.dom k1 na) oa
end
end CF
end
section
/-! CF, part h: statements. -/
namespace CF
open PySem PySem.Spec PyProof.Rows L2
variable [Tb]

structure Step (W O : Addr → Prop) (H : Hp) (W' O' : Addr → Prop) (H' : Hp) : Prop where
  keep : KeepO W O H H'
  dom : ∀ a o, H a = some o → ∃ o', H' a = some o'
  ow : ∀ a, O' a → O a ∨ H a = none
  wi : ∀ a o, H a = some o → W a → ¬ O a → W' a
  wo : ∀ a, W' a → W a ∨ H a = none
section
variable {K : PySem.W.Frag} {W O W1 O1 W2 O2 : Addr → Prop} {H H1 H2 : Hp} {σ σ' : L2.St} {ρ ρ' : List Slot}
theorem Step.refl : Step W O H W O H := ⟨KeepO.refl, fun _ o e => ⟨o, e⟩, fun _ => .inl, fun _ _ _ w _ => w, fun _ => .inl⟩
theorem Step.none (s : Step W O H W1 O1 H1) {a : Addr} (e : H1 a = Option.none) : H a = Option.none := by
  cases q : H a with
  | none => rfl
  | some o => obtain ⟨o', e'⟩ := s.dom a o q; rw [e] at e'; cases e'
theorem rd_ne {a : Addr} {u : HO} (h : L2.Rd H a u) (n : H a = Option.none) : False := by
  obtain ⟨o, e⟩ := rd_some h
  rw [n] at e
  cases e
theorem Step.trans (s : Step W O H W1 O1 H1) (t : Step W1 O1 H1 W2 O2 H2) : Step W O H W2 O2 H2 := by
  have nO : ∀ a o, H a = some o → ¬ O a → ¬ O1 a := fun a o e n z => by
    rcases s.ow a z with z | z
    · exact n z
    · rw [z] at e; cases e
  refine ⟨⟨fun a o e w n => ?_, fun a u e n => ?_, fun a o u e n => ?_, fun a xs e n => ?_⟩, fun a o e => ?_, fun a h => ?_, fun a o e w n => ?_, fun a h => ?_⟩
  · exact t.keep.own a o (s.keep.own a o e w n) (s.wi a o e w n) (nO a o e n)
  · refine t.keep.rest a u (s.keep.rest a u e n) fun z => ?_
    rcases s.wo a z with z | z
    · exact n z
    · exact rd_ne e z
  · refine t.keep.frz a o u (s.keep.frz a o u e n) fun z => ?_
    rcases s.wo a z with z | z
    · exact n z
    · rw [z] at e; cases e
  · refine t.keep.lst a xs (s.keep.lst a xs e n) fun z => ?_
    rcases s.wo a z with z | z
    · exact n z
    · rw [z] at e; cases e
  · obtain ⟨o', e'⟩ := s.dom a o e
    exact t.dom a o' e'
  · rcases t.ow a h with h | h
    · exact s.ow a h
    · exact .inr (s.none h)
  · exact t.wi a o (s.keep.own a o e w n) (s.wi a o e w n) (nO a o e n)
  · rcases t.wo a h with h | h
    · exact s.wo a h
    · exact .inr (s.none h)
theorem Step.of (k : KeepO W O H H1) (R : SRel K W O H1 σ ρ) : Step W O H W O H1 := by
  refine ⟨k, fun a o e => ?_, fun _ => .inl, fun _ _ _ w _ => w, fun _ => .inl⟩
  by_cases w : W a
  · exact R.tr a w
  · exact rd_some (k.rest a o (.inl e) w)
theorem Step.mk1 {p : Addr} (n : H p = Option.none) (d : Step W O H W O H1) : Step W O H (plus W p) (plus O p) H1 :=
  ⟨d.keep, d.dom, fun a z => z.elim .inl fun q => .inr (by rw [q]; exact n), fun a o e w n => .inl w, fun a z => z.elim .inl fun q => .inr (by rw [q]; exact n)⟩
end

inductive RS where
  | nx
  | bk
  | ct
  | rt (d : D)
abbrev MS := M RS
def RetRel (fr : Bool) (K : PySem.W.Frag) (W O : Addr → Prop) (H : Hp) (F : List Nat) (σ : L2.St) (v : V) (d : D) : Prop :=
  if fr = true then ∃ a, v = .ref a ∧ O a ∧ OwnAt K W H a d ∧ ∀ j ∈ F, σ[j]? ≠ some (some (.ref a)) else Rx K W H v d
def Fx (F : List Nat) (σ σ' : L2.St) : Prop := ∀ i ∈ F, σ'[i]? = σ[i]?
def EndS (fr : Bool) (F : List Nat) (K : PySem.W.Frag) (D : Ends) (W O : Addr → Prop) (σ : L2.St) (H : Hp) : RS → Prop
  | .nx => D.nx σ H
  | .bk => D.bk σ H
  | .ct => D.ct σ H
  | .rt d => ∀ v, RetRel fr K W O H F σ v d → D.rt v H
def OutS (fr : Bool) (F : List Nat) (K : PySem.W.Frag) (Ew : WX) (W O : Addr → Prop) (σ : L2.St) (H : Hp) (D : Ends) : Option (R RS) → Prop
  | some (.ok f ρ') => ∀ W' O' σ' H', Step W O H W' O' H' → SRel K W' O' H' σ' ρ' → Fx F σ σ' → EndS fr F K D W' O' σ' H' f
  | some (.ex e ρ') => ∀ c dx W' O' σ' H', Step W O H W' O' H' → SRel K W' O' H' σ' ρ' → Fx F σ σ' → ExcRel K W' H' c dx e → Ew c dx σ' H'
  | none => False
/-- a statement's reading -/
def tS (fr : Bool) (F : List Nat) (K : PySem.W.Frag) (Ew : WX) (m : MS) : TS := fun D σ H => ∃ W O ρ, SRel K W O H σ ρ ∧ OutS fr F K Ew W O σ H D (m ρ)

section
variable {fr : Bool} {F : List Nat} {K : PySem.W.Frag} {Ew : WX} {W O W1 O1 : Addr → Prop} {H H1 : Hp} {σ σ1 : L2.St} {ρ ρ1 : List Slot} {D : Ends} {r : Option (R RS)} {α : Type}
theorem Fx.refl : Fx F σ σ := fun _ _ => rfl
theorem Fx.trans {σ2 : L2.St} (a : Fx F σ σ1) (b : Fx F σ1 σ2) : Fx F σ σ2 := fun i h => (b i h).trans (a i h)
theorem Fx.set {i : Nat} {x : Option V} (h : F.contains i = false) : Fx F σ (σ.set i x) := fun j hj => by
  rw [List.getElem?_set_ne]
  intro z
  rw [z] at h
  simp [List.contains_iff_mem, hj] at h
theorem OutS.shift (h : OutS fr F K Ew W O σ H D r) (s : Step W O H W1 O1 H1) (f : Fx F σ σ1) : OutS fr F K Ew W1 O1 σ1 H1 D r := by
  match r, h with
  | some (.ok a ρ'), h => exact fun W' O' σ' H' s' R f' => h W' O' σ' H' (s.trans s') R (f.trans f')
  | some (.ex e ρ'), h => exact fun c dx W' O' σ' H' s' R f' => h c dx W' O' σ' H' (s.trans s') R (f.trans f')
theorem OutS.here {f : RS} (h : OutS fr F K Ew W O σ H D (some (.ok f ρ1))) (R : SRel K W O H σ ρ1) : EndS fr F K D W O σ H f := h W O σ H Step.refl R Fx.refl
theorem OutS.bind {m : M α} {g : α → MS} (h : OutS fr F K Ew W O σ H D ((m >>= g) ρ)) : Out K Ew W O σ H (fun a ρ1 H1 => OutS fr F K Ew W O σ H1 D (g a ρ1)) (m ρ) := by
  have h : OutS fr F K Ew W O σ H D (M.bind m g ρ) := h
  unfold M.bind at h
  generalize m ρ = r at h
  match r, h with
  | some (.ok a ρ'), h => exact fun H' k' R => OutS.shift h (Step.of k' R) Fx.refl
  | some (.ex e ρ'), h => exact fun c dx H' k' R x => h c dx W O σ H' (Step.of k' R) R Fx.refl x
/-- a part of a body: what is behind it -/
theorem OutS.seq {m : MS} {g : RS → MS} (h : OutS fr F K Ew W O σ H D ((m >>= g) ρ)) {D' : Ends} (hd : ∀ f ρ1 W1 O1 σ1 H1, Step W O H W1 O1 H1 → Fx F σ σ1 → SRel K W1 O1 H1 σ1 ρ1 → OutS fr F K Ew W1 O1 σ1 H1 D (g f ρ1) → EndS fr F K D' W1 O1 σ1 H1 f) : OutS fr F K Ew W O σ H D' (m ρ) := by
  have h : OutS fr F K Ew W O σ H D (M.bind m g ρ) := h
  unfold M.bind at h
  generalize m ρ = r at h
  match r, h with
  | some (.ok a ρ'), h => exact fun W' O' σ' H' s R f => hd a ρ' W' O' σ' H' s f R (OutS.shift h s f)
  | some (.ex e ρ'), h => exact h
end

theorem PS.imp {X : Cx} {st : Stmt} {t t' : TS} (h : PS X st t) (i : ∀ D σ H, t' D σ H → t D σ H) : PS X st t' := ⟨fun pins s σ H D I hw => h.run pins s σ H D I (i D σ H hw)⟩
theorem PSs.imp {X : Cx} {st : List Stmt} {t t' : TS} (h : PSs X st t) (i : ∀ D σ H, t' D σ H → t D σ H) : PSs X st t' := ⟨fun pins s σ H D I hw => h.run pins s σ H D I (i D σ H hw)⟩

/-! ### the mirror's statements -/
def mNx : MS := pure .nx
def mBk : MS := pure .bk
def mCt : MS := pure .ct
def mSq (a b : MS) : MS := do
  match ← a with
  | .nx => b
  | f => pure f
def mDrop (m : M D) : MS := do
  let _ ← m
  pure .nx
def mRet (m : M D) : MS := do
  let d ← m
  pure (.rt d)
/-- return e, e an object of its own that is made there -/
def mRetF (F : List Nat) (m : M D) : MS := do
  let d ← m
  fun ρ => if F.all fun j => isOwnD (ρ.getD j .un) then some (.ok (.rt d) ρ) else none
/-- return x, x an object of its own -/
def mRetOw (F : List Nat) (i : Nat) : MS := fun ρ => match ρ[i]? with
  | some (.own d) => if F.all fun j => isOwnD (ρ.getD j .un) then some (.ok (.rt d) ρ) else none
  | _ => none
/-- the object in the slot is from here on a tree -/
def mRel (i : Nat) : MS := fun ρ => match ρ[i]? with
  | some (.own d) => some (.ok .nx (ρ.set i (.dat d)))
  | _ => some (.ok .nx ρ)
def mSet (i : Nat) (m : M D) : MS := do
  let d ← m
  fun ρ => some (.ok .nx (ρ.set i (.dat d)))
def mSetO (i : Nat) (m : M D) : MS := do
  let d ← m
  fun ρ => some (.ok .nx (ρ.set i (.own d)))
/-- a binding: it raises nothing -/
def mB (m : M Unit) : M Unit := fun ρ => match m ρ with
  | some (.ok u ρ') => some (.ok u ρ')
  | _ => none
def mSetB (b : D → M Unit) (m : M D) : MS := do
  let d ← m
  mB (b d)
  pure .nx
def mPar (i j : Nat) (a b : M D) : MS := do
  let d ← a
  let e ← b
  fun ρ => some (.ok .nx ((ρ.set i (.dat d)).set j (.dat e)))
def mIfS (t : M Bool) (a b : MS) : MS := do
  let c ← t
  if c = true then a else b
def forGo (b : D → M Unit) (body : MS) : List D → MS
  | [] => mNx
  | d :: ds => do
    mB (b d)
    match ← body with
    | .nx => forGo b body ds
    | .ct => forGo b body ds
    | .bk => mNx
    | .rt r => pure (.rt r)
def mFor (src : M (List D)) (b : D → M Unit) (body : MS) : MS := do
  let ds ← src
  forGo b body ds
section
variable {X : Cx} {fr : Bool} {F : List Nat} {Ew : WX} {e c : Expr} {st : Stmt} {sts a b : List Stmt} {pos : Pos} {m ma mb : MS} {md me : M D} {mt : M Bool}
theorem sNx : PSs X [] (tS fr F X.K Ew mNx) := PSs.imp pss_nil fun D σ H ⟨W, O, ρ, R, h⟩ => h.here R
theorem sSq (h1 : PS X st (tS fr F X.K Ew ma)) (h2 : PSs X sts (tS fr F X.K Ew mb)) : PSs X (st :: sts) (tS fr F X.K Ew (mSq ma mb)) :=
  PSs.imp (pss_cons h1 h2) fun D σ H ⟨W, O, ρ, R, h⟩ => ⟨W, O, ρ, R, OutS.seq h fun f ρ1 W1 O1 σ1 H1 _ _ R1 q => by
    cases f with
    | nx => exact ⟨W1, O1, ρ1, R1, q⟩
    | bk => exact q.here R1
    | ct => exact q.here R1
    | rt d => exact q.here R1⟩
theorem sOne (h1 : PS X st (tS fr F X.K Ew ma)) : PSs X [st] (tS fr F X.K Ew ma) := pss_one h1
theorem sDrop (he : PE X e (tD X.K Ew md)) (hs : swapsWith e none pos.line X.env = pure false := by rfl) : PS X (.Expr e pos) (tS fr F X.K Ew (mDrop md)) :=
  PS.imp (ps_expr he hs) fun D σ H ⟨W, O, ρ, R, h⟩ => ⟨W, O, ρ, R, (OutS.bind h).mono fun d ρ1 H1 k1 R1 h1 v rv => h1.here R1⟩
theorem sRet (he : PE X e (tD X.K Ew md)) : PS X (.Return (some e) pos) (tS false F X.K Ew (mRet md)) :=
  PS.imp (ps_ret he) fun D σ H ⟨W, O, ρ, R, h⟩ => ⟨W, O, ρ, R, (OutS.bind h).mono fun d ρ1 H1 k1 R1 h1 v rv => h1.here R1 v rv⟩
/-- the fresh object of a run -/
theorem fresh_step {K : PySem.W.Frag} {W O : Addr → Prop} {H H1 : Hp} {σ : L2.St} {ρ ρ1 : List Slot} {a : Addr} (R : SRel K W O H σ ρ) (k1 : KeepO W O H H1) (R1 : SRel K W O H1 σ ρ1) (n : H a = none) : Step W O H (plus W a) (plus O a) H1 := (Step.of k1 R1).mk1 n
theorem own_of {j : Nat} {ρ : List Slot} (h : isOwnD (ρ.getD j .un) = true) : ∃ d, ρ[j]? = some (.own d) := by
  rw [List.getD_eq_getElem?_getD] at h
  cases e : ρ[j]? with
  | none => rw [e] at h; cases h
  | some s =>
    rw [e] at h
    cases s with
    | own d => exact ⟨d, rfl⟩
    | un => cases h
    | dat d => cases h
    | ob d => cases h
theorem sRetF (he : PE X e (tF X.K Ew md)) : PS X (.Return (some e) pos) (tS true F X.K Ew (mRetF F md)) := by
  refine PS.imp (ps_ret he) fun D σ H ⟨W, O, ρ, R, h⟩ => ⟨W, O, ρ, R, ?_⟩
  have h : OutS true F X.K Ew W O σ H D (M.bind md (fun d ρ => if F.all fun j => isOwnD (ρ.getD j .un) then some (.ok (.rt d) ρ) else none) ρ) := h
  unfold M.bind at h
  generalize md ρ = r at h
  match r, h with
  | some (.ok d ρ1), h =>
    simp only at h
    split at h
    case isFalse => exact h.elim
    rename_i hF
    intro H1 k1 R1 a R2 n o
    refine h _ _ σ H1 (fresh_step R k1 R1 n) R2 Fx.refl (.ref a) ?_
    show RetRel true _ _ _ _ _ _ _ _
    exact ⟨a, rfl, .inr rfl, o, fun j hj z => by
      obtain ⟨d', ed⟩ := own_of (List.all_eq_true.mp hF j hj)
      obtain ⟨a', e1, oa, _⟩ := R1.own ed
      rw [z] at e1
      cases e1
      obtain ⟨o', e'⟩ := R.tr a (R.ow a oa)
      rw [n] at e'
      cases e'⟩
  | some (.ex e ρ'), h => exact fun c dx H' k' R x => h c dx W O σ H' (Step.of k' R) R Fx.refl x
/-- from here on a tree -/
theorem rel_ok {K : PySem.W.Frag} {W O : Addr → Prop} {H : Hp} {σ : L2.St} {ρ ρ' : List Slot} {i : Nat} (R : SRel K W O H σ ρ) (h : mRel i ρ = some (.ok .nx ρ')) : ∃ W' O', Step W O H W' O' H ∧ SRel K W' O' H σ ρ' := by
  unfold mRel at h
  split at h
  · rename_i d ed
    cases h
    obtain ⟨a, e1, oa, ob⟩ := R.own ed
    refine ⟨fun b => W b ∧ b ≠ a, fun b => O b ∧ b ≠ a, ⟨KeepO.refl, fun _ o e => ⟨o, e⟩, fun b z => .inl z.1, fun b o e w n => ⟨w, fun z => n (by rw [z]; exact oa)⟩, fun b z => .inl z.1⟩, ?_⟩
    have nt : ¬ TbA a := by
      obtain ⟨u, hu, pu⟩ := ob.plain
      exact R.tb.not hu pu
    have own : ∀ (j : Nat) (e : PyData), (ρ.set i (.dat d))[j]? = some (.own e) → j ≠ i ∧ ρ[j]? = some (.own e) := fun j e h => by
      by_cases q : j = i
      · subst q
        rw [List.getElem?_set] at h
        simp at h
      · rw [List.getElem?_set_ne (Ne.symm q)] at h
        exact ⟨q, h⟩
    refine ⟨by rw [List.length_set, R.len], fun b z => ⟨R.ow b z.1, z.2⟩, fun b z => R.tr b z.1, fun j x s h1 h2 => ?_, fun j k b d1 d2 n q1 q2 f1 f2 => R.ne j k b d1 d2 n (own j d1 q1).2 (own k d2 q2).2 f1 f2, R.tb.but fun b z => ⟨R.tb.sub z, fun q => nt (q ▸ z)⟩⟩
    by_cases q : j = i
    · subst q
      rw [List.getElem?_set] at h2
      simp only [if_true] at h2
      split at h2
      · cases h2
        rw [e1] at h1
        cases h1
        exact ⟨_, rfl, (ob.less fun b z => z.1).rx fun z => z.2 rfl⟩
      · cases h2
    · rw [List.getElem?_set_ne (Ne.symm q)] at h2
      have r := R.sl j x s h1 h2
      cases s with
      | un => trivial
      | dat e => obtain ⟨v, ev, hv⟩ := r; exact ⟨v, ev, hv.less fun b z => z.1⟩
      | own e =>
        obtain ⟨b, ev, ob', hv⟩ := r
        refine ⟨b, ev, ⟨ob', fun z => ?_⟩, hv.less fun b z => z.1⟩
        subst ev
        subst z
        exact R.ne j i b _ _ q h2 ed h1 e1
      | ob e =>
        obtain ⟨b, ev, ob', hv⟩ := r
        obtain ⟨u, hu, pu⟩ := ob.plain
        exact ⟨b, ev, ⟨ob', ob_ne hv hu pu⟩, hv.less fun b z => z.1⟩
  · cases h
    exact ⟨W, O, Step.refl, R⟩
theorem rel_nx (i : Nat) (ρ : List Slot) : ∃ ρ', mRel i ρ = some (.ok .nx ρ') := by
  unfold mRel
  split
  · exact ⟨_, rfl⟩
  · exact ⟨_, rfl⟩
theorem t_rel {fr : Bool} {K : PySem.W.Frag} {i : Nat} {D : Ends} {σ : L2.St} {H : Hp} (h : tS fr F K Ew (mSq (mRel i) ma) D σ H) : tS fr F K Ew ma D σ H := by
  obtain ⟨W, O, ρ, R, h⟩ := h
  have h : OutS fr F K Ew W O σ H D (M.bind (mRel i) _ ρ) := h
  obtain ⟨ρ', e⟩ := rel_nx i ρ
  unfold M.bind at h
  rw [e] at h
  obtain ⟨W', O', s, R'⟩ := rel_ok R e
  exact ⟨W', O', ρ', R', OutS.shift h s Fx.refl⟩
theorem sRel (i : Nat) (h : PS X st (tS fr F X.K Ew ma)) : PS X st (tS fr F X.K Ew (mSq (mRel i) ma)) := PS.imp h fun _ _ _ z => t_rel z
end
end CF
end
section
/-! CF, part i: assignments, branches, loops. -/
namespace CF
open PySem PySem.Spec PyProof.Rows L2
variable [Tb]

section
variable {K : PySem.W.Frag} {W O : Addr → Prop} {H H' : Hp} {σ : L2.St} {ρ : List Slot}
/-- an own object, new to all slots, is put in one -/
theorem SRel.setO (R : SRel K W O H σ ρ) (i : Nat) {a : Addr} {d : D} (o : O a) (h : OwnAt K W H a d) (nw : ∀ (j : Nat) (e : D), ρ[j]? = some (.own e) → σ[j]? ≠ some (some (.ref a))) : SRel K W O H (σ.set i (some (.ref a))) (ρ.set i (.own d)) := by
  have cs : ∀ (j : Nat) (b : Addr) (e : D), (ρ.set i (.own d))[j]? = some (.own e) → (σ.set i (some (.ref a)))[j]? = some (some (.ref b)) → (j = i ∧ b = a) ∨ (j ≠ i ∧ ρ[j]? = some (.own e) ∧ σ[j]? = some (some (.ref b))) := fun j b e h1 h2 => by
    by_cases q : j = i
    · subst q
      refine .inl ⟨rfl, ?_⟩
      rw [List.getElem?_set] at h2
      simp only [if_true] at h2
      split at h2
      · cases h2; rfl
      · cases h2
    · rw [List.getElem?_set_ne (Ne.symm q)] at h1 h2
      exact .inr ⟨q, h1, h2⟩
  refine ⟨by rw [List.length_set, List.length_set, R.len], R.ow, R.tr, fun j x s h1 h2 => ?_, fun j k b d1 d2 n e1 e2 f1 f2 => ?_, R.tb⟩
  · by_cases q : j = i
    · subst q
      rw [List.getElem?_set] at h1 h2
      simp only [if_true] at h1 h2
      split at h1 <;> split at h2 <;> first | (cases h1; done) | (cases h2; done) | (cases h1; cases h2; exact ⟨a, rfl, o, h⟩)
    · rw [List.getElem?_set_ne (Ne.symm q)] at h1 h2
      exact R.sl j x s h1 h2
  · rcases cs j b d1 e1 f1 with ⟨q1, z1⟩ | ⟨q1, g1, g2⟩ <;> rcases cs k b d2 e2 f2 with ⟨q2, z2⟩ | ⟨q2, g3, g4⟩
    · exact n (q1.trans q2.symm)
    · subst z1
      exact nw k d2 g3 g4
    · subst z2
      exact nw j d1 g1 g2
    · exact R.ne j k b d1 d2 n g1 g3 g2 g4
/-- what stands in an own object is changed -/
theorem SRel.updO {a : Addr} {o : HO} {i : Nat} {d d' : D} (R : SRel K W O H σ ρ) (h : ρ[i]? = some (.own d)) (e : σ[i]? = some (some (.ref a))) (oa : O a) (n : OwnAt K W (upd H a o) a d') : SRel K W O (upd H a o) σ (ρ.set i (.own d')) := by
  have k : KeepO W O H (upd H a o) := keepW (R.ow a oa) oa
  have tb : TbOk O (upd H a o) := by
    obtain ⟨a', e', _, ob⟩ := R.own h
    rw [e] at e'
    cases e'
    obtain ⟨u, hu, pu⟩ := ob.plain
    exact R.tb.upd hu pu
  refine ⟨by rw [List.length_set, R.len], R.ow, fun b wb => ?_, fun j x s h1 h2 => ?_, fun j k b d1 d2 n e1 e2 f1 f2 => ?_, tb⟩
  · by_cases q : b = a
    · subst q; exact ⟨o, upd_same⟩
    · obtain ⟨ob, e⟩ := R.tr b wb
      exact ⟨ob, by rw [upd_ne q]; exact e⟩
  · by_cases q : j = i
    · subst q
      rw [List.getElem?_set] at h2
      simp only [if_true] at h2
      split at h2
      · cases h2
        rw [e] at h1
        cases h1
        exact ⟨a, rfl, oa, n⟩
      · cases h2
    · rw [List.getElem?_set_ne (Ne.symm q)] at h2
      have r := R.sl j x s h1 h2
      cases s with
      | un => trivial
      | dat dd => obtain ⟨v, e, hr⟩ := r; exact ⟨v, e, hr.keepO R k⟩
      | own dd =>
        obtain ⟨b, eb, ob, hr⟩ := r
        subst eb
        refine ⟨b, rfl, ob, hr.go (fun a u e n => k.rest a u e n) (fun _ _ _ z => z) fun oo eo => ?_⟩
        rw [upd_ne (fun z => ?_)]
        · exact eo
        · subst z
          exact R.ne j i b _ _ q h2 h h1 e
      | ob dd =>
        obtain ⟨b, eb, ob, hr⟩ := r
        subst eb
        refine ⟨b, rfl, ob, hr.go (fun a u e n => k.rest a u e n) (fun _ _ _ z => z) fun oo eo => ?_⟩
        obtain ⟨a', e', _, oo'⟩ := R.own h
        rw [e] at e'
        cases e'
        obtain ⟨u, hu, pu⟩ := oo'.plain
        rw [upd_ne (ob_ne hr hu pu)]
        exact eo
  · have own : ∀ (j : Nat) (b : Addr) (e : D), (ρ.set i (.own d'))[j]? = some (.own e) → ∃ e', ρ[j]? = some (.own e') := fun j b e h1 => by
      by_cases q : j = i
      · subst q; exact ⟨d, h⟩
      · rw [List.getElem?_set_ne (Ne.symm q)] at h1
        exact ⟨e, h1⟩
    obtain ⟨x1, y1⟩ := own j b d1 e1
    obtain ⟨x2, y2⟩ := own k b d2 e2
    exact R.ne j k b _ _ n y1 y2 f1 f2
end

section
variable {X : Cx} {fr : Bool} {F : List Nat} {Ew : WX} {e e2 c : Expr} {st : Stmt} {sts a b : List Stmt} {pos : Pos} {m ma mb : MS} {md me : M D} {mt : M Bool}
theorem t_set {i : Nat} {D : Ends} {σ : L2.St} {H : Hp} (hF : F.contains i = false) (h : tS fr F X.K Ew (mSet i md) D σ H) : tAsg (tD X.K Ew md) (gName i) D σ H := by
  obtain ⟨W, O, ρ, R, h⟩ := h
  exact ⟨W, O, ρ, R, (OutS.bind h).mono fun d ρ1 H1 k1 R1 h1 v rv => h1 W O _ H1 Step.refl (R1.set i rv) (Fx.set hF)⟩
theorem t_setO {i : Nat} {D : Ends} {σ : L2.St} {H : Hp} (hF : F.contains i = false) (h : tS fr F X.K Ew (mSetO i md) D σ H) : tAsg (tF X.K Ew md) (gName i) D σ H := by
  obtain ⟨W, O, ρ, R, h⟩ := h
  refine ⟨W, O, ρ, R, ?_⟩
  have h : OutS fr F X.K Ew W O σ H D (M.bind md (fun d ρ => some (.ok .nx (ρ.set i (.own d)))) ρ) := h
  unfold M.bind at h
  generalize md ρ = r at h
  match r, h with
  | some (.ok d ρ1), h =>
    intro H1 k1 R1 a R2 n o
    refine h _ _ _ H1 (fresh_step R k1 R1 n) (R2.setO i (.inr rfl) o fun j e' h1 h2 => ?_) (Fx.set hF)
    obtain ⟨a', e1, oa, _⟩ := R1.own h1
    rw [h2] at e1
    cases e1
    obtain ⟨o', e'⟩ := R.tr a (R.ow a oa)
    rw [n] at e'
    cases e'
  | some (.ex e ρ'), h => exact fun c dx H' k' R x => h c dx W O σ H' (Step.of k' R) R Fx.refl x
/-- x = e -/
theorem sSet (i : Nat) {x : Str} {p : Pos} (hF : F.contains i = false) (hN : X.N.Nodup) (he : PE X e (tD X.K Ew md)) (hi : X.N[i]? = some x := by rfl) (hx : Loc X.env.scope x := by first | exact Or.inl rfl | exact Or.inr rfl) (hs : swapsWith e (some (.Name x p)) pos.line X.env = pure false := by rfl)
    (hf : X.fn x = true ∨ X.env.scope.names.lookup x = some .local := by first | exact .inl rfl | exact .inr rfl) : PS X (.Assign [.Name x p] e pos) (tS fr F X.K Ew (mSet i md)) :=
  PS.imp (ps_set hN hi hx he hs hf) fun _ _ _ h => t_set hF h
/-- x = e, e an object of its own -/
theorem sSetO (i : Nat) {x : Str} {p : Pos} (hF : F.contains i = false) (hN : X.N.Nodup) (he : PE X e (tF X.K Ew md)) (hi : X.N[i]? = some x := by rfl) (hx : Loc X.env.scope x := by first | exact Or.inl rfl | exact Or.inr rfl) (hs : swapsWith e (some (.Name x p)) pos.line X.env = pure false := by rfl)
    (hf : X.fn x = true ∨ X.env.scope.names.lookup x = some .local := by first | exact .inl rfl | exact .inr rfl) : PS X (.Assign [.Name x p] e pos) (tS fr F X.K Ew (mSetO i md)) :=
  PS.imp (ps_set hN hi hx he hs hf) fun _ _ _ h => t_setO hF h
/-- a binding, and what is behind it -/
theorem OutS.bnd {fr : Bool} {F : List Nat} {K : PySem.W.Frag} {W O : Addr → Prop} {σ : L2.St} {H : Hp} {D : Ends} {bb : M Unit} {g : Unit → MS} {ρ : List Slot} (h : OutS fr F K Ew W O σ H D ((mB bb >>= g) ρ)) : ∃ ρ', bb ρ = some (.ok () ρ') ∧ OutS fr F K Ew W O σ H D (g () ρ') := by
  have h : OutS fr F K Ew W O σ H D (M.bind (mB bb) g ρ) := h
  unfold M.bind mB at h
  cases eb : bb ρ with
  | none => rw [eb] at h; exact h.elim
  | some r =>
    cases r with
    | ex _ _ => rw [eb] at h; exact h.elim
    | ok u ρ2 => rw [eb] at h; exact ⟨ρ2, rfl, h⟩
theorem bnd_fx {is : List Nat} {σ σ' : L2.St} (hF : (is.all fun i => !F.contains i) = true) (o' : ∀ j, j ∉ is → σ'[j]? = σ[j]?) : Fx F σ σ' := fun i hi => o' i fun z => by
  have := List.all_eq_true.mp hF i z
  simp [List.contains_iff_mem, hi] at this
/-- a, b = e -/
theorem sSetB {is : List Nat} {bb : D → M Unit} {tg : Expr} (hF : (is.all fun i => !F.contains i) = true) (he : PE X e (tD X.K Ew md)) (hg : PG X tg (tB X.K is bb)) (hs : swapsWithSole [tg] e pos.line X.env = pure false := by rfl) (hw : swappedStores [tg] e X.env = pure none := by rfl)
    (h1 : (assignEach [tg] X.env).map (·.2) = [assign tg X.env] := by rfl) : PS X (.Assign [tg] e pos) (tS fr F X.K Ew (mSetB bb md)) := by
  refine PS.imp (ps_asg he hg hs hw h1) fun D σ H ⟨W, O, ρ, R, h⟩ => ⟨W, O, ρ, R, (OutS.bind h).mono fun d ρ1 H1 k1 R1 h1 v rv => ?_⟩
  obtain ⟨ρ2, eb, h2⟩ := OutS.bnd h1
  exact ⟨W, O, ρ1, d, ρ2, R1, rv, eb, fun σ' H' k' R' l' o' => h2 W O σ' H' (Step.of k' R') R' (bnd_fx hF o')⟩
/-- a, b = e1, e2: plain names -/
theorem sPar (i j : Nat) {x y : Str} {px py pt : Pos} {kt k2 pt2} (hF : (F.contains i || F.contains j) = false) (hc : X.calm = true) (hN : X.N.Nodup) (hij : i ≠ j) (ha : PE X e (tD X.K Ew md)) (hb : PE X e2 (tD X.K Ew me))
    (hi : X.N[i]? = some x := by rfl) (hj : X.N[j]? = some y := by rfl) (hx : X.env.scope.names.lookup x = some .local := by rfl) (hy : X.env.scope.names.lookup y = some .local := by rfl)
    (hw : swappedStores [.Tuple [.Name x px, .Name y py] kt pt] (.Tuple [e, e2] k2 pt2) X.env = pure (some [x, y]))
    (hs : swapsWithSole [.Tuple [.Name x px, .Name y py] kt pt] (.Tuple [e, e2] k2 pt2) pos.line X.env = pure false := by rfl)
    (s1 : starEach [e, e2] X.env = (false, eval e X.env) :: starEach [e2] X.env := by rfl) (s2 : starEach [e2] X.env = (false, eval e2 X.env) :: starEach [] X.env := by rfl) :
    PS X (.Assign [.Tuple [.Name x px, .Name y py] kt pt] (.Tuple [e, e2] k2 pt2) pos) (tS fr F X.K Ew (mPar i j md me)) := by
  rw [Bool.or_eq_false_iff] at hF
  refine PS.imp (ps_par (ta := tCons (tD X.K Ew md) (tCons (tD X.K Ew me) tNil)) hc hN hi hj hij hx hy (pa_cons ha (pa_cons hb pa_nil s2) s1) hw hs) fun D σ H ⟨W, O, ρ, R, h⟩ => ⟨W, O, ρ, R, (OutS.bind h).mono fun d ρ1 H1 k1 R1 h1 v rv =>
    ⟨W, O, ρ1, R1, (OutS.bind h1).mono fun d2 ρ2 H2 k2 R2 h2 v2 rv2 => ?_⟩⟩
  exact ⟨v, v2, rfl, h2 W O _ H2 Step.refl ((R2.set i (rv.keepO R1 k2)).set j rv2) ((Fx.set hF.1).trans (Fx.set hF.2))⟩
theorem sIf (hc : PT X c (tT X.K Ew mt)) (ha : PSs X a (tS fr F X.K Ew ma)) (hb : PSs X b (tS fr F X.K Ew mb)) : PS X (.If c a b pos) (tS fr F X.K Ew (mIfS mt ma mb)) :=
  PS.imp (ps_if hc ha hb) fun D σ H ⟨W, O, ρ, R, h⟩ => ⟨W, O, ρ, R, (OutS.bind h).mono fun x ρ1 H1 k1 R1 h1 => by
    cases x with
    | true => exact ⟨W, O, ρ1, R1, h1⟩
    | false => exact ⟨W, O, ρ1, R1, h1⟩⟩
/-- for .. in e -/
theorem sFor {is : List Nat} {bb : D → M Unit} {tg : Expr} {ms : M (List D)} (hF : (is.all fun i => !F.contains i) = true) (hp : PassesOwn (model X.prog X.w) X.A X.env X.xe) (hc : X.calm = true) (hi : PI X tg e (tI X.K Ew ms)) (hg : PG X tg (tB X.K is bb)) (hb : PSs X a (tS fr F X.K Ew ma))
    (hs : ∀ x, foldedSetIterable e X.env x = pure x := by intro _; rfl) : PS X (.For tg e a [] pos) (tS fr F X.K Ew (mFor ms bb ma)) := by
  refine PS.imp (ps_for hp hc hi hg hb hs) fun D σ H ⟨W, O, ρ, R, h⟩ => ⟨W, O, ρ, R, (OutS.bind h).mono fun ds ρ1 H1 k1 R1 h1 J hJ => ?_⟩
  refine ⟨fun i m σ' H' => m = ds.length - i ∧ i ≤ ds.length ∧ ∃ Wi Oi ρi, Step W O H1 Wi Oi H' ∧ Fx F σ σ' ∧ SRel X.K Wi Oi H' σ' ρi ∧ OutS fr F X.K Ew Wi Oi σ' H' D (forGo bb ma (ds.drop i) ρi), ⟨_, rfl, Nat.zero_le _, W, O, ρ1, Step.refl, Fx.refl, R1, h1⟩, ?_⟩
  rintro i m σ' H' ⟨rfl, hi', Wi, Oi, ρi, si, fi, Ri, hgo⟩
  by_cases hlt : i < ds.length
  · refine .inr ⟨hJ.go i H' (si.keep.moreO fun _ _ => trivial) hlt, fun σn Hn => ∃ Wi Oi ρi, Step W O H1 Wi Oi Hn ∧ Fx F σ σn ∧ SRel X.K Wi Oi Hn σn ρi ∧ OutS fr F X.K Ew Wi Oi σn Hn D (forGo bb ma (ds.drop (i + 1)) ρi),
      fun σn Hn z => ⟨ds.length - (i + 1), by omega, rfl, hlt, z⟩, fun x H2 y => ?_⟩
    have ed : ds[i]? = some ds[i] := List.getElem?_eq_getElem hlt
    rw [List.drop_eq_getElem_cons hlt] at hgo
    generalize ds[i] = d at ed hgo
    obtain ⟨sy, ry⟩ := hJ.yld i H' x H2 d (si.keep.moreO fun _ _ => trivial) ed y
    have rx := ry Wi si.wo Ri.tr
    have R2 := Ri.same sy
    have s2 : Step Wi Oi H' Wi Oi H2 := Step.of (KeepO.of sy) R2
    obtain ⟨ρb, eb, hgo⟩ := OutS.bnd (OutS.shift hgo s2 Fx.refl)
    refine ⟨Wi, Oi, ρi, d, ρb, R2, rx, eb, fun σ3 H3 k3 R3 l3 o3 => ?_⟩
    have s3 : Step Wi Oi H2 Wi Oi H3 := Step.of k3 R3
    have f3 := bnd_fx hF o3
    refine ⟨Wi, Oi, ρb, R3, OutS.seq (hgo.shift s3 f3) fun f ρ4 W4 O4 σ4 H4 s4 f4 R4 q => ?_⟩
    have st := ((si.trans s2).trans s3).trans s4
    cases f with
    | nx => exact ⟨W4, O4, ρ4, st, (fi.trans f3).trans f4, R4, q⟩
    | ct => exact ⟨W4, O4, ρ4, st, (fi.trans f3).trans f4, R4, q⟩
    | bk => exact q.here R4
    | rt r => exact q.here R4
  · have ei : i = ds.length := by omega
    subst ei
    rw [List.drop_length] at hgo
    exact .inl ⟨hJ.stop H' (si.keep.moreO fun _ _ => trivial), hgo.here Ri⟩
end
end CF
end
section
/-! CF, part j: what changes an object of one's own. -/
namespace CF
open PySem PySem.Spec PyProof.Rows L2
variable [Tb]

def putL (es : List (D × D)) (k d : D) : List (D × D) := if (es.any fun p => keyEq p.1 k) = true then es.map (fun p => if keyEq p.1 k = true then (p.1, d) else p) else es ++ [(k, d)]
def putD : D → D → D → Option D
  | .list xs, .int k, d => (ixN xs.length k).map fun j => .list (xs.set j d)
  | .dict es, k, d => if isKey k && decide (es.length < sizeLine) then some (.dict (putL es k d)) else none
  | _, _, _ => none
section
variable {K : PySem.W.Frag} {W : Addr → Prop} {H : Hp}
theorem rxk_any : ∀ {kvs : List (Key × V)} {es : List (D × D)} (k : Key), RxK K W H kvs es → (es.any fun p => keyEq p.1 (keyD k)) = kvs.any fun p => decide (p.1 = k)
  | _, [], _, h => by cases h; rfl
  | _, (_, _) :: es, k, h => by
    cases h with
    | cons r t => rw [List.any_cons, List.any_cons, rxk_any k t, keyEq_iff]
theorem rxk_map : ∀ {kvs : List (Key × V)} {es : List (D × D)} {k : Key} {v : V} {d : D}, RxK K W H kvs es → Rx K W H v d → RxK K W H (kvs.map fun kv => if kv.1 = k then (kv.1, v) else kv) (es.map (fun p => if keyEq p.1 (keyD k) = true then (p.1, d) else p))
  | _, [], _, _, _, h, _ => by cases h; exact .nil
  | _, (_, _) :: es, k, v, d, h, r => by
    cases h with
    | @cons l w kvs _ _ r1 t =>
      rw [List.map_cons, List.map_cons, keyEq_iff]
      by_cases q : l = k
      · rw [decide_eq_true q, if_pos rfl, if_pos q]
        exact .cons r (rxk_map t r)
      · rw [decide_eq_false q, if_neg Bool.false_ne_true, if_neg q]
        exact .cons r1 (rxk_map t r)
theorem rxk_snoc : ∀ {kvs : List (Key × V)} {es : List (D × D)} {k : Key} {v : V} {d : D}, RxK K W H kvs es → Rx K W H v d → RxK K W H (kvs ++ [(k, v)]) (es ++ [(keyD k, d)])
  | _, [], _, _, _, h, r => by cases h; exact .cons r .nil
  | _, (_, _) :: es, k, v, d, h, r => by
    cases h with
    | cons r1 t => exact .cons r1 (rxk_snoc t r)
theorem RxK.put {kvs : List (Key × V)} {es : List (D × D)} {k : Key} {v : V} {d : D} (h : RxK K W H kvs es) (r : Rx K W H v d) : RxK K W H (putK kvs k v) (putL es (keyD k) d) := by
  unfold putK putL
  rw [rxk_any k h]
  split
  · exact rxk_map h r
  · exact rxk_snoc h r
theorem rxk_len : ∀ {kvs : List (Key × V)} {es : List (D × D)}, RxK K W H kvs es → kvs.length = es.length
  | _, [], h => by cases h; rfl
  | _, (_, _) :: es, h => by
    cases h with
    | cons r t => simp [rxk_len t]
theorem RxK.keepO {O : Addr → Prop} {H' : Hp} {kvs : List (Key × V)} {es : List (D × D)} (h : RxK K W H kvs es) (k : KeepO W O H H') : RxK K W H' kvs es :=
  RxK.go (fun a u e n => k.rest a u e n) (fun _ _ _ z => z) es kvs h
end
section
variable {X : Cx}
theorem set_D (hu : X.A.units + 1 < cLine) : PSet X (fun o i v H Q => rSetL o i v H Q ∨ ∃ a H4, o = .ref a ∧ DPut H a i v H4 ∧ Q H4) := by
  intro pins s σ H o i v ov iv u Q I ro ri rv h
  rcases h with h | ⟨a, H4, rfl, g, q⟩
  · exact set_list pins s σ H o i v ov iv u Q I ro ri rv h
  · obtain rfl : ov = Value.ref a := ro
    exact d_setItem hu I g ri rv fun s4 I4 => ⟨H4, I4, q⟩
/-- what stands in an own object -/
def ixO : D → D → Option D
  | .list xs, k => ixD (.list xs) k
  | .dict es, k => ixD (.dict es) k
  | _, _ => none
theorem get_D (hu : X.A.units + 1 < cLine) : PGet X (rD X.K ixO) := by
  intro pins s σ H o i ov iv Q I ro ri ⟨W, d, e, r, tr, hx, hy, hf, q⟩
  cases d with
  | list xs =>
    cases e with
    | int i =>
      obtain ⟨a, vs, rfl, sa, la⟩ := hx.list
      obtain ⟨w, hw, rw'⟩ := la.atI hf
      obtain rfl := hy.int
      obtain rfl : ov = Value.ref a := ro
      obtain ⟨t, rfl⟩ := ri
      obtain ⟨its, rr, pl, hz⟩ := I.list (.inl sa)
      obtain ⟨j, h1, h2, h3, h4, h5⟩ := atI_get hw
      obtain ⟨u, eu, ru⟩ := rr.get h2
      have hl := rr.length
      have hn := line63
      have fin : EP X pins σ Q u s := ⟨w, H, I, ru, q _ _ (Same.refl H) rw'⟩
      by_cases h0 : 0 ≤ i
      · have hj : i.toNat = j := by
          rw [seqIndex_of h0 h5] at h1
          exact Option.some.inj h1
        exact wpAny_getItem_list pl.isList h0 (by omega) (by rw [hj]; simpa using eu) fin
      · have hj : (i + (its.toArray.size : Int)).toNat = j := by
          rw [seqIndex_neg (by omega) h4] at h1
          rw [List.size_toArray, ← hl]
          exact Option.some.inj h1
        exact wpAny_getItem_list_neg pl.isList (by omega) (by rw [List.size_toArray] <;> omega) (by omega) (by rw [hj]; simpa using eu) fin
    | _ => cases hf
  | dict es =>
    simp only [ixO, ixD] at hf
    split at hf
    · rename_i hk
      obtain ⟨k, rfl⟩ := isKey_of hk
      obtain ⟨a, kvs, rfl, sa, la⟩ := hx.dict
      obtain ⟨w, hw, rw'⟩ := look_val la hf
      have ey : i = kV k := Rx.key hy
      have g : DGet H a i (some w) := .inl ⟨kvs, k, sa, ey, hw.symm⟩
      obtain rfl : ov = Value.ref a := ro
      exact d_getItem hu I g ri fun w' s3 I3 rw2 => ⟨w, H, I3, rw2, q _ _ (Same.refl H) rw'⟩
    · cases hf
  | _ => cases hf
end
/-- op=, on numbers -/
structure IpR (X : Cx) (op : Operator) (f : D → D → Option D) : Prop where
  ip : PIp X op (fun x y H Q => ∃ i j k, x = .int i ∧ y = .int j ∧ f (.int i) (.int j) = some (.int k) ∧ Q (.int k) H)
  onI : ∀ d e r, f d e = some r → ∃ i j k, d = .int i ∧ e = .int j ∧ r = .int k
def addI : D → D → Option D
  | .int i, .int j => some (.int (i + j))
  | _, _ => none
section
variable {X : Cx}
theorem ipAdd : IpR X .Add addI := by
  refine ⟨fun pins s σ H x y v u Q I r1 r2 ⟨i, j, k, e1, e2, hf, q⟩ => ?_, fun d e r h => ?_⟩
  · cases hf
    exact ip_add pins s σ H x y v u Q I r1 r2 ⟨i, j, e1, e2, q⟩
  · unfold addI at h
    split at h
    · cases h; exact ⟨_, _, _, rfl, rfl, rfl⟩
    · cases h
theorem ipSub : IpR X .Sub subD := by
  refine ⟨fun pins s σ H x y v u Q I r1 r2 ⟨i, j, k, e1, e2, hf, q⟩ => ?_, fun d e r h => ?_⟩
  · cases hf
    exact ip_sub pins s σ H x y v u Q I r1 r2 ⟨i, j, e1, e2, q⟩
  · unfold subD at h
    split at h
    · cases h; exact ⟨_, _, _, rfl, rfl, rfl⟩
    · cases h
end

/-! ### the mirror -/
def mOwn (i : Nat) : M Unit := fun ρ => match ρ[i]? with
  | some (.own _) => some (.ok () ρ)
  | _ => none
def mGetI (i : Nat) (k : D) : M D := fun ρ => match ρ[i]? with
  | some (.own c) => (ixO c k).map fun d => .ok d ρ
  | _ => none
def mPutI (i : Nat) (k d : D) : MS := fun ρ => match ρ[i]? with
  | some (.own c) => (putD c k d).map fun c' => .ok .nx (ρ.set i (.own c'))
  | _ => none
/-- x[k] = e -/
def mSub (i : Nat) (mk mv : M D) : MS := do
  let d ← mv
  mOwn i
  let k ← mk
  mPutI i k d
/-- x[k] op= e -/
def mAugS (i : Nat) (f : D → D → Option D) (mk me : M D) : MS := do
  mOwn i
  let k ← mk
  let x ← mGetI i k
  let y ← me
  let z ← CF.lift (f x y)
  mPutI i k z
/-- x op= e -/
def mAug (i : Nat) (f : D → D → Option D) (me : M D) : MS := do
  let x ← mVar i
  let y ← me
  let z ← CF.lift (f x y)
  fun ρ => some (.ok .nx (ρ.set i (.dat z)))
section
variable {fr : Bool} {F : List Nat} {K : PySem.W.Frag} {Ew : WX} {W O : Addr → Prop} {σ : L2.St} {H : Hp} {D : Ends} {ρ ρ' : List Slot} {i : Nat} {α : Type}
theorem OutS.own {g : Unit → MS} (h : OutS fr F K Ew W O σ H D ((mOwn i >>= g) ρ)) (R : SRel K W O H σ ρ) : (∃ a, σ[i]? = some (some (.ref a)) ∧ O a) ∧ OutS fr F K Ew W O σ H D (g () ρ) := by
  have h : OutS fr F K Ew W O σ H D (M.bind (mOwn i) g ρ) := h
  unfold M.bind mOwn at h
  cases e : ρ[i]? with
  | none => simp only [e] at h; exact h.elim
  | some s =>
    cases s with
    | un => simp only [e] at h; exact h.elim
    | dat d => simp only [e] at h; exact h.elim
    | ob d => simp only [e] at h; exact h.elim
    | own d =>
      simp only [e] at h
      obtain ⟨a, e1, oa, _⟩ := R.own e
      exact ⟨⟨a, e1, oa⟩, h⟩
theorem OutS.opt {o : Option α} {g : α → MS} (h : OutS fr F K Ew W O σ H D ((CF.lift o >>= g) ρ)) : ∃ a, o = some a ∧ OutS fr F K Ew W O σ H D (g a ρ) := by
  have h : OutS fr F K Ew W O σ H D (M.bind (CF.lift o) g ρ) := h
  unfold M.bind CF.lift at h
  cases o with
  | none => exact h.elim
  | some a => exact ⟨a, rfl, h⟩
theorem OutS.getI {k : PyData} {g : PyData → MS} (h : OutS fr F K Ew W O σ H D ((mGetI i k >>= g) ρ)) (R : SRel K W O H σ ρ) : ∃ c x, ρ[i]? = some (.own c) ∧ ixO c k = some x ∧ OutS fr F K Ew W O σ H D (g x ρ) := by
  have h : OutS fr F K Ew W O σ H D (M.bind (mGetI i k) g ρ) := h
  unfold M.bind mGetI at h
  cases e : ρ[i]? with
  | none => simp only [e] at h; exact h.elim
  | some s =>
    cases s with
    | un => simp only [e] at h; exact h.elim
    | dat d => simp only [e] at h; exact h.elim
    | ob d => simp only [e] at h; exact h.elim
    | own c =>
      simp only [e] at h
      cases q : ixO c k with
      | none => rw [q] at h; exact h.elim
      | some x => rw [q] at h; exact ⟨c, x, rfl, q, h⟩
theorem upd_keep {a : Addr} {o : HO} (R : SRel K W O H σ ρ) (oa : O a) : KeepO W O H (upd H a o) := keepW (R.ow a oa) oa
theorem put_ok {a : Addr} {y v : V} {k d : PyData} (h : OutS fr F K Ew W O σ H D (mPutI i k d ρ)) (R : SRel K W O H σ ρ) (ea : σ[i]? = some (some (.ref a))) (ry : Rx K W H y k) (rv : Rx K W H v d) :
    rSetL (.ref a) y v H (D.nx σ) ∨ ∃ a' H4, V.ref a = .ref a' ∧ DPut H a' y v H4 ∧ D.nx σ H4 := by
  unfold mPutI at h
  cases e : ρ[i]? with
  | none => simp only [e] at h; exact h.elim
  | some s =>
    cases s with
    | un => simp only [e] at h; exact h.elim
    | dat d => simp only [e] at h; exact h.elim
    | ob d => simp only [e] at h; exact h.elim
    | own c =>
      simp only [e] at h
      cases q : putD c k d with
      | none => rw [q] at h; exact h.elim
      | some c' =>
        rw [q] at h
        obtain ⟨a', e1, oa, ob⟩ := R.own e
        rw [ea] at e1
        cases e1
        cases c with
        | list xs =>
          cases k with
          | int k =>
            simp only [putD, Option.map_eq_some_iff] at q
            obtain ⟨j, hj, rfl⟩ := q
            obtain ⟨vs, eh, l⟩ := ob
            cases ry
            refine .inl ⟨a, vs, k, j, rfl, rfl, eh, by rw [l.length]; exact hj, ?_⟩
            have k1 : KeepO W O H (upd H a (.lst (vs.set j v))) := upd_keep R oa
            have R1 := R.updO (d' := .list (xs.set j d)) e ea oa (n := ⟨_, upd_same, RxL.keepO (l.set j rv) R k1⟩)
            exact h _ _ _ _ (Step.of k1 R1) R1 Fx.refl
          | _ => cases q
        | dict es =>
          simp only [putD] at q
          split at q
          · rename_i hz
            cases q
            rw [Bool.and_eq_true] at hz
            obtain ⟨kk, rfl⟩ := isKey_of hz.1
            obtain ⟨kvs, eh, l⟩ := ob
            have ey : y = kV kk := Rx.key (.inl ry)
            have k1 : KeepO W O H (upd H a (.dK (putK kvs kk v))) := upd_keep R oa
            have R1 := R.updO (d' := .dict (putL es (keyD kk) d)) e ea oa (n := ⟨_, upd_same, RxK.keepO (l.put rv) k1⟩)
            exact .inr ⟨a, _, rfl, .inl ⟨kvs, kk, eh, ey, by rw [rxk_len l]; exact of_decide_eq_true hz.2, rfl⟩, h _ _ _ _ (Step.of k1 R1) R1 Fx.refl⟩
          · cases q
        | _ => exact ob.elim
end
section
variable {X : Cx} {fr : Bool} {F : List Nat} {Ew : WX} {e k : Expr} {pos : Pos} {md mk : M D}
theorem sSub (i : Nat) {x : Str} {p tpos : Pos} (hu : X.A.units + 1 < cLine) (hk : PE X k (tD X.K Ew mk)) (he : PE X e (tD X.K Ew md)) (hi : X.N[i]? = some x := by rfl) (hv : Vis X.env.scope x := by first | exact Or.inl rfl | exact Or.inr (Or.inl rfl) | exact Or.inr (Or.inr rfl))
    (hd : (x == ("__debug__" : Str)) = false := by decide) (hcd : (x == ("__classdict__" : Str)) = false := by decide)
    (ha : ∀ v, assign (.Subscript (.Name x p) k tpos) X.env v = (do
      let ov ← holding [v] (eval (.Name x p) X.env)
      let iv ← holding [v, ov] (eval k X.env)
      standAt tpos
      holding [v, ov, iv] (setItem ov iv v)
      release [v, ov, iv] []) := by intro _; rfl)
    (hs : swapsWithSole [.Subscript (.Name x p) k tpos] e pos.line X.env = pure false := by rfl) (hw : swappedStores [.Subscript (.Name x p) k tpos] e X.env = pure none := by rfl)
    (h1 : (assignEach [.Subscript (.Name x p) k tpos] X.env).map (·.2) = [assign (.Subscript (.Name x p) k tpos) X.env] := by rfl) :
    PS X (.Assign [.Subscript (.Name x p) k tpos] e pos) (tS fr F X.K Ew (mSub i mk md)) := by
  refine PS.imp (ps_asg he (pg_sub (pe_var hi hv hd hcd) hk (set_D hu) ha) hs hw h1) fun D σ H ⟨W, O, ρ, R, h⟩ => ⟨W, O, ρ, R, (OutS.bind h).mono fun d ρ1 H1 k1 R1 h1 v rv => ?_⟩
  obtain ⟨⟨a, ea, oa⟩, h2⟩ := OutS.own h1 R1
  refine ⟨.ref a, ea, W, O, ρ1, R1, (OutS.bind h2).mono fun kd ρ2 H2 k2 R2 h3 y ry => ?_⟩
  exact put_ok h3 R2 ea ry (rv.keepO R1 k2)
theorem sAugS (i : Nat) {x : Str} {p tpos : Pos} {op : Operator} {f : D → D → Option D} (hu : X.A.units + 1 < cLine) (ho : IpR X op f) (hk : PE X k (tD X.K Ew mk)) (he : PE X e (tD X.K Ew md)) (hi : X.N[i]? = some x := by rfl) (hv : Vis X.env.scope x := by first | exact Or.inl rfl | exact Or.inr (Or.inl rfl) | exact Or.inr (Or.inr rfl))
    (hd : (x == ("__debug__" : Str)) = false := by decide) (hcd : (x == ("__classdict__" : Str)) = false := by decide)
    (ha : ∀ ov iv new, augStore k ov iv new = (do holding [new, ov, iv] (setItem ov iv new); release [new, ov, iv] []; pure .next) := by intros; rfl) :
    PS X (.AugAssign (.Subscript (.Name x p) k tpos) op e pos) (tS fr F X.K Ew (mAugS i f mk md)) := by
  refine PS.imp (ps_augS (pe_var hi hv hd hcd) hk (get_D hu) he ho.ip (set_D hu) ha) fun D σ H ⟨W, O, ρ, R, h⟩ => ?_
  obtain ⟨⟨a, ea, oa⟩, h2⟩ := OutS.own h R
  refine ⟨.ref a, ea, W, O, ρ, R, (OutS.bind h2).mono fun kd ρ1 H1 k1 R1 h3 y ry => ?_⟩
  obtain ⟨c, xd, ec, hx, h4⟩ := OutS.getI h3 R1
  refine ⟨W, c, kd, xd, R1.tr, R1.look ea (.inr ec), .inl ry, hx, fun xv Hx sx rx => ?_⟩
  have Rx1 := R1.same sx
  have st : Step W O H1 W O Hx := Step.of (KeepO.of sx) Rx1
  refine ⟨W, O, ρ1, Rx1, (OutS.bind (h4.shift st Fx.refl)).mono fun yd ρ2 H2 k2 R2 h5 yv ryv => ?_⟩
  obtain ⟨z, hz, h6⟩ := OutS.opt h5
  obtain ⟨i1, j1, k1', rfl, rfl, rfl⟩ := ho.onI _ _ _ hz
  cases rx
  cases ryv
  exact ⟨i1, j1, k1', rfl, rfl, hz, put_ok h6 R2 ea ((ry.same sx).keepO Rx1 k2) (.int _)⟩
end
end CF
end
section
namespace CF
open PySem PySem.AutoSeq1
set_option maxHeartbeats 4000000 in
theorem ext_tup (l : Addr) (items : Array Value) (n : Nat) (b : Addr) (items2 : Array Value) (n2 : Nat) (di : Option Addr) (sl : Array (Option Value)) (hs0 : ¬(!items.isEmpty && Builtin.List.listTooLong (items.size + items2.size)) = true) (hs1 : items.size ≤ sizeLine) (hs2 : items.size + items2.size ≤ sizeLine + 1) :
    Meets (Builtin.«list.extend» ⟨[.ref l, .ref b], []⟩) (fun _ R s => s.heap.get? l = some { cls := .type "list", dict := none, data := .seq items n, slots := #[] } ∧ s.heap.get? b = some { cls := .type "tuple", dict := di, data := .seq items2 n2, slots := sl } ∧ R (.ok (.ret Value.none)) { s with heap := s.heap.update l (Obj.mapSeq fun x => x ++ items2), toks := s.toks }) :=
  .of_wp fun prog w A R s h => by
    obtain ⟨hp, g, d, tk, os⟩ := s; obtain ⟨hl, hb, h⟩ := h; have f1 := idx_int; have f2 := sub_tuple_tuple; have f3 := sub_list_list; have f4 := sub_tuple_list; have f5 := sub_list_tuple;
    have hz' : (items ++ items2).size ≤ sizeLine + 1 := by rw [Array.size_append]; exact hs2
    wp_walk using (wpAny_updateSeq hl rfl (hz := hs1) (_hz' := hz')), wpAny_loadPart' hl, wpAny_loadPart' hb; exact ⟨_, rfl, h⟩
end CF
end
section
/-! CF, part k: methods that change a list of one's own. -/
namespace CF
open PySem PySem.Spec PyProof.Rows L2
variable [Tb]

/-- what a method gives, and the list behind it -/
abbrev MutF := List D → List D → Option (D × List D)
def rM (K : PySem.W.Frag) (g : MutF) : V → List V → Hp → VK → Prop := fun x vs H Q => ∃ (W : Addr → Prop) (l : Addr) (xs : List V) (ys ds : List D) (r : D) (zs : List D), x = .ref l ∧ H l = some (.lst xs) ∧ RxL K W H xs ys ∧ RxL K W H vs ds ∧ g ys ds = some (r, zs) ∧
  ∀ u us, Rx K W H u r → RxL K W H us zs → Q u (upd H l (.lst us))
def appG : MutF
  | xs, [d] => if xs.length < sizeLine then some (.none, xs ++ [d]) else none
  | _, _ => none
def insG : MutF
  | xs, [.int i, d] => if xs.length < sizeLine ∧ 0 ≤ i ∧ i < 2 ^ 63 then some (.none, xs.take i.toNat ++ [d] ++ xs.drop i.toNat) else none
  | _, _ => none
def extG : MutF
  | xs, [.list ys] => if xs.length + ys.length ≤ sizeLine then some (.none, xs ++ ys) else none
  | xs, [.tuple ys] => if xs.length + ys.length ≤ sizeLine then some (.none, xs ++ ys) else none
  | _, _ => none
section
variable {X : Cx} {K : PySem.W.Frag} {W : Addr → Prop} {H : Hp}
theorem RxL.n1 {vs : List V} {d : D} (h : RxL K W H vs [d]) : ∃ v, vs = [v] ∧ Rx K W H v d := by
  cases h with
  | cons r t => cases t; exact ⟨_, rfl, r⟩
theorem RxL.n2 {vs : List V} {d e : D} (h : RxL K W H vs [d, e]) : ∃ v w, vs = [v, w] ∧ Rx K W H v d ∧ Rx K W H w e := by
  cases h with
  | cons r t =>
    obtain ⟨w, rfl, q⟩ := t.n1
    exact ⟨_, _, rfl, r, q⟩
theorem mt_app : MtR X "list.append" (rM X.K appG) := by
  intro pins s σ H x vs v us Q I rx rv h
  obtain ⟨W, l, xs, ys, ds, r, zs, rfl, hl, h1, h2, hg, q⟩ := h
  unfold appG at hg
  split at hg
  · split at hg
    · rename_i d hz
      cases hg
      obtain ⟨w, rfl, rw'⟩ := h2.n1
      exact mt_append pins s σ H _ _ v us Q I rx rv ⟨l, xs, w, rfl, rfl, hl, by rw [h1.length]; exact hz, q _ _ .non (h1.append (RxL.one rw'))⟩
    · cases hg
  · cases hg
theorem mt_ins : MtR X "list.insert" (rM X.K insG) := by
  intro pins s σ H x vs v us Q I rx rv h
  obtain ⟨W, l, xs, ys, ds, r, zs, rfl, hl, h1, h2, hg, q⟩ := h
  unfold insG at hg
  split at hg
  · split at hg
    · rename_i i d hz
      cases hg
      obtain ⟨w, w2, rfl, r1, r2⟩ := h2.n2
      cases r1
      exact mt_insert pins s σ H _ _ v us Q I rx rv ⟨l, xs, i, w2, rfl, rfl, hl, by rw [h1.length]; exact hz.1, hz.2.1, hz.2.2, q _ _ .non (((RxL.take _ h1).append (RxL.one r2)).append (RxL.drop _ h1))⟩
    · cases hg
  · cases hg
theorem mt_ext : MtR X "list.extend" (rM X.K extG) := by
  intro pins s σ H x vs v us Q I rx rv h
  obtain ⟨W, l, xs, ys, ds, r, zs, rfl, hl, h1, h2, hg, q⟩ := h
  unfold extG at hg
  cases rx
  obtain ⟨z, its, n, rr, hn, e⟩ := I.lstM hl
  have key : ∀ (cs : List D), ys.length + cs.length ≤ sizeLine → ∀ (bs : List V) (its2 : List Value), RxL X.K W H bs cs → Vals bs its2 → (¬ (!its.toArray.isEmpty && Builtin.List.listTooLong (its.toArray.size + its2.toArray.size)) = true) ∧ its.toArray.size ≤ sizeLine ∧ its.toArray.size + its2.toArray.size ≤ sizeLine + 1 ∧ xs.length + bs.length ≤ sizeLine :=
    fun cs hz bs its2 l2 r2 => by
      have e1 := l2.length
      have e2 := r2.length
      have e3 := h1.length
      have hsz : its.toArray.size + its2.toArray.size ≤ sizeLine := by rw [List.size_toArray, List.size_toArray]; omega
      refine ⟨by rw [notLongL hsz, Bool.and_false]; exact Bool.false_ne_true, by rw [List.size_toArray]; omega, by omega, by omega⟩
  have fin : ∀ (cs : List D) (bs : List V) (its2 : List Value), zs = ys ++ cs → r = .none → xs.length + bs.length ≤ sizeLine → RxL X.K W H bs cs → Vals bs its2 →
      EP X pins σ Q .none { s with heap := s.heap.update l (Obj.mapSeq fun x => x ++ its2.toArray), toks := s.toks } := fun cs bs its2 ez er hz lb r2 => by
    subst ez
    subst er
    refine ⟨.non, _, I.lset (its' := its ++ its2) hl e (by simp) (rr.append r2) ?_, rfl, q _ _ .non (h1.append lb)⟩
    rw [List.length_append]
    exact hz
  split at hg
  · split at hg
    · rename_i cs hz
      cases hg
      obtain ⟨w, rfl, rw'⟩ := h2.n1
      obtain ⟨u, rfl, ru⟩ := rv.one
      cases rw' with
      | @lst b bs _ nb hb lb =>
        cases ru
        obtain ⟨its2, r2, ⟨o, n2, ho, hc, hs, hd⟩, hz2⟩ := I.list (.inl hb)
        obtain ⟨z2, its3, n3, r3, e3⟩ := hb.ok I.hok
        obtain ⟨c1, c2, c3, c4⟩ := key cs hz bs its3 lb r3
        exact call_meets F.slot_list_extend ⟨_, e, rfl⟩ F.entry_list_extend (F.args_list_extend_2 _ _) (AutoSeq1.list_extend_list_list_0 l its.toArray n b its3.toArray n3 c1 c2 c3) ⟨e, e3, fin cs bs its3 rfl rfl c4 lb r3⟩
    · cases hg
  · split at hg
    · rename_i cs hz
      cases hg
      obtain ⟨w, rfl, rw'⟩ := h2.n1
      obtain ⟨u, rfl, ru⟩ := rv.one
      obtain ⟨b, bs, rfl, sb, lb⟩ := rw'.tuple
      cases ru
      obtain ⟨its3, r3, ⟨o, ho, hc, n3, hd⟩, hz2⟩ := I.tuple sb
      obtain ⟨cc, di, da, sl⟩ := o
      cases hc
      cases hd
      obtain ⟨c1, c2, c3, c4⟩ := key cs hz bs its3 lb r3
      exact call_meets F.slot_list_extend ⟨_, e, rfl⟩ F.entry_list_extend (F.args_list_extend_2 _ _) (ext_tup l its.toArray n b its3.toArray n3 di sl c1 c2 c3) ⟨e, ho, fin cs bs its3 rfl rfl c4 lb r3⟩
    · cases hg
  · cases hg
end
/-- x.f(e, ..), x a list of one's own -/
def mOwnL (i : Nat) : M Unit := fun ρ => match ρ[i]? with
  | some (.own (.list _)) => some (.ok () ρ)
  | _ => none
def mMutGo (i : Nat) (g : MutF) (ds : List D) : M D := fun ρ => match ρ[i]? with
  | some (.own (.list xs)) => (g xs ds).map fun p => .ok p.1 (ρ.set i (.own (.list p.2)))
  | _ => none
def mMut (i : Nat) (g : MutF) (as : M (List D)) : M D := do
  mOwnL i
  let ds ← as
  mMutGo i g ds
section
variable {X : Cx} {Ew : WX} {e : Expr} {es : List Expr} {ma : M (List D)}
theorem t_mut {g : MutF} {i : Nat} {σ : L2.St} {H : Hp} {Q : VK} (h : tD X.K Ew (mMut i g ma) σ H Q) : tBM X.K "list" (rM X.K g) (L2.tVar i) (tDs X.K Ew ma) σ H Q := by
  obtain ⟨W, O, ρ, R, h⟩ := h
  have h' : Out X.K Ew W O σ H (fun d _ H' => ∀ v, Rx X.K W H' v d → Q v H') (M.bind (mOwnL i) (fun _ => ma >>= fun ds => mMutGo i g ds) ρ) := h
  unfold M.bind mOwnL at h'
  split at h'
  · rename_i hm
    split at hm
    · rename_i xs ec
      cases hm
      obtain ⟨a, ea, oa, vs, eh, l⟩ := R.own ec
      refine ⟨.ref a, ea, .inl ⟨rfl, vs, .inl (.inl eh)⟩, W, O, ρ, R, (Out.bind h').mono fun ds ρ1 H1 k1 R1 h1 us ru => ?_⟩
      unfold mMutGo at h1
      split at h1
      · rename_i ys ec1
        obtain ⟨a', ea', oa', ws, eh', l'⟩ := R1.own ec1
        rw [ea] at ea'
        cases ea'
        cases hg : g ys ds with
        | none => rw [hg] at h1; exact h1.elim
        | some p =>
          rw [hg] at h1
          obtain ⟨r, zs⟩ := p
          refine ⟨W, a, ws, ys, ds, r, zs, rfl, eh', l', ru, hg, fun u us' ru' lus => ?_⟩
          have k2 : KeepO W O H1 (upd H1 a (.lst us')) := upd_keep R1 oa
          have R2 := R1.updO (d' := .list zs) ec1 ea oa (n := ⟨_, upd_same, RxL.keepO lus R1 k2⟩)
          exact h1 _ k2 R2 u (ru'.keepO R1 k2)
      · exact h1.elim
    · cases hm
  · rename_i hm
    split at hm
    · cases hm
    · cases hm
  · exact h'.elim
theorem dMut (i : Nat) {x name : Str} {p apos cpos : Pos} {id : String} {g : MutF} (slot : PySem.Slot "list" name id) (hty : typeOf (.builtin id) = pure (.type "method_descriptor")) (hm : MtR X id (rM X.K g)) (ha : PA X (e :: es) (tDs X.K Ew ma))
    (hi : X.N[i]? = some x := by rfl) (hv : Vis X.env.scope x := by first | exact Or.inl rfl | exact Or.inr (Or.inl rfl) | exact Or.inr (Or.inr rfl))
    (hd : (x == ("__debug__" : Str)) = false := by decide) (hcd : (x == ("__classdict__" : Str)) = false := by decide)
    (hbase : attributeBase (.Name x p) name X.env (eval (.Name x p) X.env) = eval (.Name x p) X.env := by rfl)
    (hfew : ((backTo cpos (starEach (e :: es) X.env)).all (fun x => !x.1) && (backToKw cpos (keywordEach [] X.env)).all (fun x => x.1.isSome)
      && decide ((e :: es).length + ([] : List Keyword).length + (if ([] : List Keyword).isEmpty then 0 else 1) < 30)) = true := by rfl)
    (hline : (apos.endLine == cpos.line) = true := by rfl) (hs : starEach (e :: es) X.env = (false, eval e X.env) :: starEach es X.env := by rfl) (hplain : (backTo cpos (starEach es X.env)).any (·.1) = false := by rfl) :
    PE X (.Call (.Attribute (.Name x p) name apos) (e :: es) [] cpos) (tD X.K Ew (mMut i g ma)) :=
  PE.imp (pe_bm PySem.F.plainAttrs_list slot hty hm (pe_var hi hv hd hcd) ha hbase hfew hline hs hplain) fun _ _ _ h => t_mut h
end
end CF
end
section
/-! CF, part m: comprehensions as expressions, slices, sorted with a reverse, sorted(set(..)). -/
namespace CF
open PySem PySem.Spec PyProof.Rows L2
variable [Tb]

/-! ### comprehensions -/
def mYes : M Bool := pure true
section
variable {X : Cx} {Ew : WX} {e elt tg : Expr} {ifs : List Expr} {scope : Scope} {pos : Pos} {src : M (List D)} {b : D → M Unit} {t : M Bool} {me md : M D}
theorem tNil (K : PySem.W.Frag) : PTs X [] (tT K WF mYes) := ⟨fun pins s σ H Q I ⟨W, O, ρ, R, h⟩ => pts_nil.run pins s σ H Q I (h H KeepO.refl R)⟩
theorem fLC {vs is : List Nat} {own : List (Str × Nat)} (hc : X.calm = true) (hN : X.N.Nodup) (hs : (is.all fun i => vs.contains i) = true) (ho : own.map (·.2) = vs) (hi : PI X tg e (tI X.K Ew src)) (ok : BlkOk X.N X.env.scope scope own)
    (hg : ∀ (s : Shared) (H : Hp) (C : Addr) (cl : List (Str × Addr)) (fp : List Addr), PG (X.blk s H scope (compEnvC scope cl C X.env) fp) tg (tB X.K is b)) (ht : ∀ (s : Shared) (H : Hp) (C : Addr) (cl : List (Str × Addr)) (fp : List Addr), PTs (X.blk s H scope (compEnvC scope cl C X.env) fp) ifs (tT X.K WF t))
    (he : ∀ (s : Shared) (H : Hp) (C : Addr) (cl : List (Str × Addr)) (fp : List Addr), PE (X.blk s H scope (compEnvC scope cl C X.env) fp) elt (tD X.K WF me)) (hf : ∀ x, foldedSetIterable e X.env x = pure x := by intro _; rfl) :
    PE X (.ListComp elt [⟨tg, e, ifs, 0⟩] scope pos) (tF X.K Ew (mLC vs src b t me)) := by
  subst ho
  exact PE.imp (pe_lc hc hN hi ok hg ht he hf) fun _ _ _ h => t_lc hs h
/-- x = [..] on one line -/
theorem sSetLc (i : Nat) {fr : Bool} {F : List Nat} {x : Str} {py spos : Pos} {vs is : List Nat} {own : List (Str × Nat)} (hF : F.contains i = false) (hc : X.calm = true) (hN : X.N.Nodup) (hs : (is.all fun i => vs.contains i) = true) (ho : own.map (·.2) = vs) (hi : PI X tg e (tI X.K Ew src)) (ok : BlkOk X.N X.env.scope scope own)
    (hg : ∀ (s : Shared) (H : Hp) (C : Addr) (cl : List (Str × Addr)) (fp : List Addr), PG (X.blk s H scope (compEnvC scope cl C X.env) fp) tg (tB X.K is b)) (ht : ∀ (s : Shared) (H : Hp) (C : Addr) (cl : List (Str × Addr)) (fp : List Addr), PTs (X.blk s H scope (compEnvC scope cl C X.env) fp) ifs (tT X.K WF t))
    (he : ∀ (s : Shared) (H : Hp) (C : Addr) (cl : List (Str × Addr)) (fp : List Addr), PE (X.blk s H scope (compEnvC scope cl C X.env) fp) elt (tD X.K WF me)) (hy : X.N[i]? = some x := by rfl) (hyl : X.env.scope.names.lookup x = some .local := by rfl)
    (hk : X.env.scope.kind = .function := by rfl) (hl : (py.line == pos.line) = true := by rfl) (ha : (scope.names.any fun (n, k) => n == x && (k == .local || k == .cell)) = false := by rfl)
    (hf : ∀ x, foldedSetIterable e X.env x = pure x := by intro _; rfl) : PS X (.Assign [.Name x py] (.ListComp elt [⟨tg, e, ifs, 0⟩] scope pos) spos) (tS fr F X.K Ew (mSet i (mLC vs src b t me))) := by
  subst ho
  refine PS.imp (ps_setLc hc hN hy hyl (sw_true hk hyl hl ha) hi ok hg ht he hf) fun D σ H h => t_lc hs ?_
  obtain ⟨W, O, ρ, R, h⟩ := t_set hF h
  refine ⟨W, O, ρ, R, h.mono fun d ρ' H' k R' q a R2 n o => q (.ref a) ((o.less fun _ z => .inl z).rx fun z => ?_)⟩
  obtain ⟨o', e'⟩ := R.tr a z
  rw [n] at e'
  cases e'
theorem sSetOLc (i : Nat) {fr : Bool} {F : List Nat} {x : Str} {py spos : Pos} {vs is : List Nat} {own : List (Str × Nat)} (hF : F.contains i = false) (hc : X.calm = true) (hN : X.N.Nodup) (hs : (is.all fun i => vs.contains i) = true) (ho : own.map (·.2) = vs) (hi : PI X tg e (tI X.K Ew src)) (ok : BlkOk X.N X.env.scope scope own)
    (hg : ∀ (s : Shared) (H : Hp) (C : Addr) (cl : List (Str × Addr)) (fp : List Addr), PG (X.blk s H scope (compEnvC scope cl C X.env) fp) tg (tB X.K is b)) (ht : ∀ (s : Shared) (H : Hp) (C : Addr) (cl : List (Str × Addr)) (fp : List Addr), PTs (X.blk s H scope (compEnvC scope cl C X.env) fp) ifs (tT X.K WF t))
    (he : ∀ (s : Shared) (H : Hp) (C : Addr) (cl : List (Str × Addr)) (fp : List Addr), PE (X.blk s H scope (compEnvC scope cl C X.env) fp) elt (tD X.K WF me)) (hy : X.N[i]? = some x := by rfl) (hyl : X.env.scope.names.lookup x = some .local := by rfl)
    (hk : X.env.scope.kind = .function := by rfl) (hl : (py.line == pos.line) = true := by rfl) (ha : (scope.names.any fun (n, k) => n == x && (k == .local || k == .cell)) = false := by rfl)
    (hf : ∀ x, foldedSetIterable e X.env x = pure x := by intro _; rfl) : PS X (.Assign [.Name x py] (.ListComp elt [⟨tg, e, ifs, 0⟩] scope pos) spos) (tS fr F X.K Ew (mSetO i (mLC vs src b t me))) := by
  subst ho
  exact PS.imp (ps_setLc hc hN hy hyl (sw_true hk hyl hl ha) hi ok hg ht he hf) fun D σ H h => t_lc hs (t_setO hF h)
end

/-! ### slices -/
def noneP : M (Option Int) := pure none
def someP (m : M D) : M (Option Int) := do
  let d ← m
  lift (match d with
    | .int i => some (some i)
    | _ => none)
def mSl (f : D → Option Int → Option Int → Option D) (ma : M LV) (lo hi : M (Option Int)) : M D := do
  let x ← ma
  let l ← lo
  let h ← hi
  let d ← x.get
  lift (f d l h)
def tP (K : PySem.W.Frag) (Ew : WX) (m : M (Option Int)) : TO := fun σ H Q => ∃ W O ρ, SRel K W O H σ ρ ∧ Out K Ew W O σ H (fun i _ H' => Q i H') (m ρ)
section
variable {X : Cx} {Ew : WX} {e : Expr} {ma : M LV} {md : M D} {lo hi : Option Expr} {ml mh : M (Option Int)} {pos p2 : Pos}
theorem PO.imp {e : Option Expr} {t t' : TO} (h : PO X e t) (i : ∀ σ H Q, t' σ H Q → t σ H Q) : PO X e t' := ⟨fun pins s σ H Q I hw => h.run pins s σ H Q I (i σ H Q hw)⟩
theorem pNone : PO X none (tP X.K Ew noneP) := PO.imp po_none fun σ H Q ⟨W, O, ρ, R, h⟩ => h H KeepO.refl R
theorem pSome (h : PE X e (tD X.K Ew md)) : PO X (some e) (tP X.K Ew (someP md)) :=
  PO.imp (po_some h) fun σ H Q ⟨W, O, ρ, R, h⟩ => ⟨W, O, ρ, R, (Out.bind h).mono fun d ρ1 H1 k1 R1 h1 v rv => by
    obtain ⟨r, hr, q⟩ := Out.lift h1 R1
    cases d with
    | int i => cases hr; cases rv; exact ⟨i, rfl, q H1 KeepO.refl R1⟩
    | _ => cases hr⟩
theorem dSl (he : PE X e (tL X.K Ew ma)) (hl : PO X lo (tP X.K Ew ml)) (hh : PO X hi (tP X.K Ew mh)) : PE X (.Subscript e (.Slice lo hi none p2) pos) (tD X.K Ew (mSl slD ma ml mh)) :=
  PE.imp (pe_slice sl_D he hl hh) fun σ H Q ⟨W, O, ρ, R, h⟩ => ⟨W, O, ρ, R, (Out.bind h).mono fun x ρ1 H1 k1 R1 h1 v rv => ⟨W, O, ρ1, R1, (Out.bind h1).mono fun l ρ2 H2 k2 R2 h2 => ⟨W, O, ρ2, R2, (Out.bind h2).mono fun u ρ3 H3 k3 R3 h3 => by
    obtain ⟨d, tx, h4⟩ := Out.get h3 R3 (rv.keep R1 (k2.trans k3))
    obtain ⟨r, hf, q⟩ := Out.lift h4 R3
    exact ⟨W, d, r, R3.tr, tx, hf, fun w H' s rw => q H' (KeepO.of s) (R3.same s) w rw⟩⟩⟩⟩
end

/-! ### sorted(e, reverse=True) -/
section
variable {X : Cx} {Ew : WX} {e : Expr} {ma : M LV} {p pos kpos : Pos} {b : Bool} {j : Nat} {cpos : Pos}
end
end CF
end
section
/-! CFo0: set(x), x a tuple; sets of tuples of whole numbers, sorted -/
namespace CF
open PySem PySem.Spec PyProof.Rows L2
section
variable {P : Program} {w : World} {A : Around} {E : Value → Shared → Prop} {s : Shared}
def newSet (w : World) : Obj := { cls := .type "set", dict := none, data := .set #[] 0 (.fresh 0 0 (!w.params.followText "set-order")) }
def itObj (l : Addr) : Obj := { cls := .type "tuple_iterator", data := .fields #[.ref l, .int 0 0] }
/-- set(x), x a tuple: what its loop leaves -/
theorem set_by {l : Addr} {items : Array Value} {Q : Value → Shared → Prop} (hl : s.heap.IsTuple l items) (hh : A.handled = none)
    (h : ∀ A' : Around, A'.handled = none → A'.units ≤ A.units + 2 →
      codeAny (model P w) A' (.builtin "set.update.loop" ⟨[.ref s.heap.objs.size, .ref (s.heap.objs.size + 1)], []⟩) (fun r s' => r = .ok (.ret .none) ∧ Q (.ref s.heap.objs.size) s') { s with heap := (s.heap.push (newSet w)).push (itObj l) }) :
    wpAny (model P w) A (call (.type "set") [.ref l]) Q E s := by
  obtain ⟨c, tl, hmro⟩ := PySem.F.called_set.mro
  have m1 := PySem.F.called_set.made
  have m2 := PySem.F.called_set.sub
  have m3 := PySem.F.called_set.notType
  have m4 := PySem.F.called_set.canCreate
  have m5 := PySem.F.typeCall_set_1 (.ref l)
  refine wpAny_call (codeAny_of_tree ?_)
  show wpAny _ _ (callAny (.type "set") _) _ _ _
  refine wpAny_pure ⟨Code.quiet_builtin _ (by decide +kernel), codeAny_builtin PySem.F.entry_type_call ?_⟩
  rw [Around.under_plain (weight_type_call_type "set" [.ref l] []) rfl]
  repeat (any_goals (first | assumption | wp_step))
  refine codeAny_mono (code_set_led1 (.ref l) (E := E) (Q₁ := fun obj s₁ => obj = .ref s.heap.objs.size ∧ s₁ = { s with heap := s.heap.push (newSet w) }) ⟨rfl, rfl⟩) fun r s₁ hr => ?_
  match r, hr with
  | .error e, hr => exact hr
  | .ok (.ret obj), hr =>
    obtain ⟨rfl, rfl⟩ := hr
    have g0 : (s.heap.push (newSet w)).get? s.heap.objs.size = some (newSet w) := Heap.get?_push_size _ rfl
    have hT : Shared.TypeIs { s with heap := s.heap.push (newSet w) } (.ref s.heap.objs.size) "set" := ⟨_, g0, rfl⟩
    have i1 := PySem.F.called_set.init.lookup
    have i2 := PySem.F.called_set.init.bind (.ref s.heap.objs.size)
    repeat (any_goals (first | assumption | wp_step))
    refine codeAny_mono (codeAny_call_builtin (R := PySem.wants (fun (r : Value) (s₂ : Shared) => r = .none ∧ Q (.ref s.heap.objs.size) s₂) E) PySem.F.called_set.init.plain PySem.F.entry_set_init (check_set_init_1 hT ?_)) fun r₂ s₂ hr₂ => ?_
    · have t1 : (s.heap.push (newSet w)).IsTuple l items := hl.push _
      obtain ⟨⟨ocls, od, odata, osl⟩, e1, e2, n, e3⟩ := t1
      simp only at e2 e3
      subst e2; subst e3
      have t1 : (s.heap.push (newSet w)).IsTuple l items := ⟨_, e1, rfl, n, rfl⟩
      have s1 := PySem.F.sub_tuple_set
      have s2 := PySem.F.sub_tuple_frozenset
      have s3 : (Value.type "tuple" == Value.type "dict") = false := by decide
      unfold Builtin.«set.__init__» noKeywords Builtin.Frozenset.updateFrom
      generalize hPI : pyIter = PI
      wp_walk
      subst hPI
      refine wpAny_pyIter_tuple t1 ?_
      refine wpAny_bind (wpAny_runValue ?_)
      have ez : (s.heap.push (newSet w)).objs.size = s.heap.objs.size + 1 := Heap.size_push ..
      rw [ez]
      refine codeAny_mono (h _ ?g1 ?g2) fun r s' hq => ?g3
      case g1 => exact hh
      case g2 => exact Nat.le_refl _
      case g3 =>
        obtain ⟨rfl, hq⟩ := hq
        refine wpAny_pure ?_
        show wpAny _ _ (ret Value.none) _ _ _
        exact wpAny_pure ⟨rfl, hq⟩
    · match r₂, hr₂ with
      | .error e, hr₂ => exact hr₂
      | .ok (.ret r), hr₂ =>
        obtain ⟨rfl, hq⟩ := hr₂
        repeat (any_goals (first | assumption | wp_step))
      | .ok (.next), hr₂ => exact hr₂.elim
      | .ok (.brk), hr₂ => exact hr₂.elim
      | .ok (.cont), hr₂ => exact hr₂.elim
  | .ok (.next), hr => exact hr.elim
  | .ok (.brk), hr => exact hr.elim
  | .ok (.cont), hr => exact hr.elim

theorem set_tups {l : Addr} {items : Array Value} (ks : List (Addr × List Int)) {Q : Value → Shared → Prop} (hh : A.handled = none) (hl : s.heap.IsTuple l items) (hi : items.toList = ks.map fun p => Value.ref p.1)
    (hk : ∀ p ∈ ks, IsT P w s.heap p.2 p.1) (h64 : ks.length < 64) (hu : A.units + 3 < cLine)
    (h : ∀ (h' : Heap) (tk : Nat) L es ep t, SetTR P w h' s.heap.objs.size L es ep t → Got ks ks.length L → (∀ b o, s.heap.get? b = some o → h'.get? b = some o) → Q (.ref s.heap.objs.size) { s with heap := h', toks := tk }) :
    wpAny (model P w) A (call (.type "set") [.ref l]) Q E s := by
  have hz : items.size = ks.length := by rw [← Array.length_toList, hi, List.length_map]
  have l1 : l < s.heap.objs.size := by
    obtain ⟨o, ho, _⟩ := hl
    exact Heap.lt_size ho
  have none_of : ∀ b, s.heap.objs.size ≤ b → s.heap.get? b = none := fun b hb => by
    rcases hq : s.heap.get? b with _ | o
    · rfl
    · exact absurd (Nat.lt_of_lt_of_le (Heap.lt_size hq) hb) (Nat.lt_irrefl _)
  have ez : (s.heap.push (newSet w)).objs.size = s.heap.objs.size + 1 := Heap.size_push ..
  refine set_by hl hh fun A' h1 h2 => ?_
  have W := (Walks.tuple (prog := P) (w := w) (A := A'.in1) h1 (s.heap.objs.size + 1) l (Nat.ne_of_lt (Nat.lt_succ_of_lt l1)) items).toS
  have nin : s.heap.objs.size ∉ [s.heap.objs.size + 1, l] := by
    simp only [List.mem_cons, List.mem_singleton, List.not_mem_nil, or_false, not_or]
    exact ⟨Nat.ne_of_lt (Nat.lt_succ_self _), Nat.ne_of_gt l1⟩
  refine set_update_tups W s.heap.objs.size nin ks hz h64 (fun i v hv => ?_) s.heap hk (none_of _ (Nat.le_refl _)) (fun b hb => ?_) (by show A'.units + 1 < cLine; omega) (items.size - 0) 0 _ (by omega) (Nat.zero_le _) ?_ (fun b o e => Heap.get?_push_of_some _ (Heap.get?_push_of_some _ e)) ?_ fun s' L es ep t hm hS g k => ?_
  · have q : items.toList[i]? = some v := by rw [Array.getElem?_toList]; exact hv
    rw [hi, List.getElem?_map, Option.map_eq_some_iff] at q
    obtain ⟨p, q1, q2⟩ := q
    exact ⟨p, q1, q2.symm⟩
  · rw [List.mem_singleton.mp hb]
    exact none_of _ (Nat.le_succ _)
  · refine ⟨⟨itObj l, ?_, rfl, rfl⟩, (hl.push _).push _⟩
    rw [← ez]
    exact Heap.get?_push_size _ rfl
  · exact ⟨[], #[], 0, _, setTR_fresh (Heap.get?_push_of_some _ (Heap.get?_push_size _ rfl)), Got.zero ks⟩
  · obtain ⟨h', g2, d', tk', os'⟩ := s'
    have eg : g2 = s.gens := hm.gens
    have ed : d' = s.drawn := hm.drawn
    have eo : os' = s.os := hm.os
    subst eg; subst ed; subst eo
    refine ⟨rfl, h h' tk' L es ep t hS ?_ k⟩
    rw [← hz]
    exact g
end
section
variable {X : Cx}
/-- set(x), x a tuple of tuples of whole numbers -/
def rSetT (K : PySem.W.Frag) (P : Program) (w : World) : List V → Hp → VK → Prop := fun xs H Q => ∃ (l : Addr) (ks : List (Addr × List Int)), xs = [V.ref l] ∧ (SqL K H l (ks.map fun p => V.ref p.1) ∨ SqT K H l (ks.map fun p => V.ref p.1)) ∧ (∀ p ∈ ks, SqT K H p.1 (p.2.map V.int)) ∧ ks.length < 64 ∧
  ∀ a L, H a = none → (∀ p ∈ L, p ∈ ks) → (∀ p ∈ ks, p.2 ∈ L.map (·.2)) → Q (.ref a) (upd H a (SetTO P w a L))
theorem cr_setT (hc : X.calm = true) (hu : X.A.units + 64 < cLine) : CallR X (.type "set") (rSetT X.K X.prog X.w) := by
  intro pins s σ H xs us Q I r h
  obtain ⟨l, ks, rfl, hl | hl, hk, hf, q⟩ := h
  · exact cr_setOfT hc hu pins s σ H _ us Q I r ⟨l, ks, rfl, hl, hk, hf, q⟩
  · obtain ⟨u, rfl, ru⟩ := vals1 r
    cases ru
    obtain ⟨its, rv, it, _⟩ := I.tuple hl
    refine set_tups (P := X.prog) (w := X.w) ks (I.ok.hd hc) it (by simpa using refs_of_vals rv) (fun p hp => I.isT (hk p hp)) hf (by omega) fun h' tk L es ep t R g k => ?_
    refine ⟨.ref s.heap.objs.size, upd H s.heap.objs.size (SetTO X.prog X.w s.heap.objs.size L), I.laid (t' := tk) k (Nat.le_refl _) (setTO_new R.t0), rfl, q _ L (I.hok.fresh (Nat.le_refl _)) (fun p hp => ?_) fun p hp => ?_⟩
    · exact List.mem_of_mem_take (g.sub p hp)
    · exact g.all p (by rw [List.take_length]; exact hp)
end
end CF
end
section
/-! CFo2: x in S, S a set of tuples of whole numbers -/
namespace CF
open PySem PySem.Spec PyProof.Rows L2
section
variable {P : Program} {w : World} {A : Around} {E : Value → Shared → Prop} {s : Shared} {a : Addr} {L : List (Addr × List Int)} {es : Array (Int × Value)} {ep : Nat} {t : SetTable} {x : Addr} {k : List Int} {Q : SetFound → Shared → Prop}
/-- the c-th place on the way of k -/
abbrev plc (P : Program) (w : World) (t : SetTable) (k : List Int) (c : Nat) : SetTable.Probe := nth t.mask (runAt t.mask (SetTable.bits (thash P w k) % (t.mask + 1)) (SetTable.bits (thash P w k))) c
end
end CF
end
section
/-! CFo1: sorted(x), x a tuple -/
namespace CF
open PySem PySem.Spec PyProof.Rows L2 PySem.W
variable [Tb]
section
variable {prog : Program} {w : World} {A : Around} {E : Value → Shared → Prop} {s : Shared} {β : Type} {vs : List Value} {bs : List β} {enc : β → PyData} {R : Value → β → Prop}
end
section
variable {X : Cx}
end
end CF
end
section
/-! CF, part o: sorted(set(..)) of ints. -/
namespace CF
open PySem PySem.Spec PyProof.Rows L2
variable [Tb]

def intsD : List D → Option (List Int)
  | [] => some []
  | .int i :: ds => (intsD ds).map (i :: ·)
  | _ :: _ => none
theorem intsD_of : ∀ {ds : List D} {ns : List Int}, intsD ds = some ns → ds = ns.map PyData.int
  | [], ns, h => by cases h; rfl
  | d :: ds, ns, h => by
    cases d with
    | int i =>
      simp only [intsD, Option.map_eq_some_iff] at h
      obtain ⟨ms, h1, rfl⟩ := h
      rw [intsD_of h1]; rfl
    | _ => cases h
def insS (x : Int) : List Int → List Int
  | [] => [x]
  | y :: ys => if x < y then x :: y :: ys else if x = y then y :: ys else y :: insS x ys
def sset (ns : List Int) : List Int := ns.foldr insS []
theorem mem_insS {x k : Int} : ∀ {ys : List Int}, k ∈ insS x ys ↔ k = x ∨ k ∈ ys
  | [] => by simp [insS]
  | y :: ys => by
    unfold insS
    split
    · simp
    · split
      · rename_i h
        subst h
        simp
      · rw [List.mem_cons, mem_insS, List.mem_cons]
        constructor
        · rintro (h | h | h)
          · exact .inr (.inl h)
          · exact .inl h
          · exact .inr (.inr h)
        · rintro (h | h | h)
          · exact .inr (.inl h)
          · exact .inl h
          · exact .inr (.inr h)
theorem pw_insS {x : Int} : ∀ {ys : List Int}, ys.Pairwise (· < ·) → (insS x ys).Pairwise (· < ·)
  | [], _ => by simp [insS]
  | y :: ys, h => by
    obtain ⟨h1, h2⟩ := List.pairwise_cons.mp h
    unfold insS
    split
    · rename_i hx
      refine List.pairwise_cons.mpr ⟨fun z hz => ?_, h⟩
      rcases List.mem_cons.mp hz with e | hz
      · rw [e]; exact hx
      · have := h1 z hz; omega
    · split
      · exact h
      · refine List.pairwise_cons.mpr ⟨fun z hz => ?_, pw_insS h2⟩
        rcases mem_insS.mp hz with e | hz
        · rw [e]; omega
        · exact h1 z hz
theorem mem_sset {k : Int} : ∀ {ns : List Int}, k ∈ sset ns ↔ k ∈ ns
  | [] => by simp [sset]
  | n :: ns => by
    show k ∈ insS n (sset ns) ↔ _
    rw [mem_insS, mem_sset, List.mem_cons]
theorem pw_sset : ∀ (ns : List Int), (sset ns).Pairwise (· < ·)
  | [] => List.Pairwise.nil
  | n :: ns => pw_insS (pw_sset ns)
theorem pw_unique : ∀ {as bs : List Int}, as.Pairwise (· < ·) → bs.Pairwise (· < ·) → (∀ k, k ∈ as ↔ k ∈ bs) → as = bs
  | [], [], _, _, _ => rfl
  | [], b :: bs, _, _, h => nomatch (h b).mpr (List.mem_cons_self ..)
  | a :: as, [], _, _, h => nomatch (h a).mp (List.mem_cons_self ..)
  | a :: as, b :: bs, ha, hb, h => by
    obtain ⟨a1, a2⟩ := List.pairwise_cons.mp ha
    obtain ⟨b1, b2⟩ := List.pairwise_cons.mp hb
    have e : a = b := by
      have x := (h a).mp (List.mem_cons_self ..)
      have y := (h b).mpr (List.mem_cons_self ..)
      rcases List.mem_cons.mp x with x | x
      · exact x
      · rcases List.mem_cons.mp y with y | y
        · exact y.symm
        · have := b1 a x
          have := a1 b y
          omega
    subst e
    rw [pw_unique a2 b2 fun k => ?_]
    constructor
    · intro hk
      rcases List.mem_cons.mp ((h k).mp (List.mem_cons_of_mem _ hk)) with q | q
      · have := a1 k hk; omega
      · exact q
    · intro hk
      rcases List.mem_cons.mp ((h k).mpr (List.mem_cons_of_mem _ hk)) with q | q
      · have := b1 k hk; omega
      · exact q
theorem pw_nodup {as : List Int} (h : as.Pairwise (· < ·)) : as.Nodup := h.imp fun {a b} z => by omega

def SetI (w : World) (a : Addr) (S : Int → Bool) (n : Nat) : HO := .ext fun h => SetR w h a S n
def rSet (w : World) (K : PySem.W.Frag) : List V → Hp → VK → Prop := fun vs H Q => ∃ (W : Addr → Prop) (v : V) (ns : List Int), vs = [v] ∧ Tx K W H v (.list (ns.map PyData.int)) ∧ ns.length + 1 < scanBound ∧
  ∀ p, H p = none → Q (.ref p) (upd H p (SetI w p (fun j => decide (j ∈ ns)) (sset ns).length))
def rSortSet (w : World) : List V → Hp → VK → Prop := fun vs H Q => ∃ (a : Addr) (ns : List Int), vs = [.ref a] ∧ H a = some (SetI w a (fun j => decide (j ∈ ns)) (sset ns).length) ∧ (sset ns).length < 64 ∧
  ∀ p, H p = none → Q (.ref p) (upd H p (.lst ((sset ns).map V.int)))
theorem rxl_ints {K : PySem.W.Frag} {W : Addr → Prop} {H : Hp} : ∀ {vs : List V} {ns : List Int}, RxL K W H vs (ns.map PyData.int) → vs = ns.map V.int
  | _, [], h => by cases h; rfl
  | _, n :: ns, h => by
    cases h with
    | cons r t => cases r; rw [rxl_ints t]; rfl
theorem ints_rxl {K : PySem.W.Frag} {W : Addr → Prop} {H : Hp} : ∀ (ns : List Int), RxL K W H (ns.map V.int) (ns.map PyData.int)
  | [] => .nil
  | n :: ns => .cons (.int n) (ints_rxl ns)
section
variable {X : Cx}
theorem setR_count {w : World} {h : Heap} {a : Addr} {ns : List Int} {n : Nat} (R : SetR w h a (fun j => decide (j ∈ ns)) n) : n = (sset ns).length := by
  obtain ⟨o, es, ep, t, ho, hx, hd, g, nd, hm, hb, hf, hn, _⟩ := R
  rw [← hn, ← Array.length_toList, ← List.length_map (f := L2.keyOf)]
  refine ((List.perm_ext_iff_of_nodup nd (pw_nodup (pw_sset ns))).mpr fun k => ?_).length_eq
  rw [mem_sset, ← hm k, decide_eq_true_iff]
theorem cr_set (hc : X.calm = true) : CallR X (.type "set") (rSet X.w X.K) := by
  intro pins s σ H xs us Q I rx h
  obtain ⟨W, v, ns, rfl, hx, hb, q⟩ := h
  obtain ⟨a, vs, rfl, sa, la⟩ := hx.list
  obtain ⟨u, rfl, ru⟩ := vals1 rx
  cases ru
  obtain ⟨its, rr, pl, hz⟩ := I.list (.inl sa)
  rw [rxl_ints la] at rr
  refine set_of_list ns (I.ok.hd hc) pl.isList (by simpa using intsAre_of rr) hb fun h' tk c R hcn k => ?_
  have ec := setR_count R
  subst ec
  have n0 : H s.heap.objs.size = none := I.fresh
  refine ⟨.ref _, _, I.laid (a := s.heap.objs.size) (o := SetI X.w s.heap.objs.size (fun j => decide (j ∈ ns)) (sset ns).length) (t' := tk) k (Nat.le_refl _) ⟨R, ?_, fun h1 h2 r1 kk => r1.at kk⟩, rfl, q _ n0⟩
  obtain ⟨o, _, _, _, ho, _⟩ := R
  exact ⟨o, ho⟩
theorem vals_ints : ∀ {us : List Value} {ns : List Int}, IntsAre us ns → Vals (ns.map V.int) us
  | _, _, .nil => .nil
  | _, _, .cons n t r => .cons ⟨t, rfl⟩ (vals_ints r)
theorem cr_sortSet (hc : X.calm = true) : CallR X (.builtin "sorted") (rSortSet X.w) := by
  intro pins s σ H xs us Q I rx h
  obtain ⟨a, ns, rfl, ha, h64, q⟩ := h
  obtain ⟨u, rfl, ru⟩ := vals1 rx
  cases ru
  obtain ⟨R, _, _⟩ := I.hok a _ ha
  refine sorted_set R (I.ok.hd hc) h64 fun s' p out c ks k eg eo hp hg hi pw hm hl => ?_
  have e : ks = sset ns := pw_unique pw (pw_sset ns) fun k => by rw [hm, decide_eq_true_iff, mem_sset]
  subst e
  have ok : ObjOk X.prog X.w (upd H p (.lst ((sset ns).map V.int))) s'.heap p (.lst ((sset ns).map V.int)) :=
    ⟨by rw [List.length_map, sizeLine_eq]; omega, out.toList, c, vals_ints hi, by simpa [seqObj] using hg⟩
  have n0 : H p = none := I.hok.fresh hp
  exact ⟨.ref p, _, I.call' (s' := s') (ch := []) eo (Un.laid k hp n0) (I.hok.laid k hp ok) (by rw [eg]; exact I.bare) (fun _ z => nomatch z), rfl, q p n0⟩
end
/-! ### tuples of whole numbers -/
def insL (k : List Int) : List (List Int) → List (List Int)
  | [] => [k]
  | x :: xs => if k < x then k :: x :: xs else if k = x then x :: xs else x :: insL k xs
def lset : List (List Int) → List (List Int)
  | [] => []
  | k :: ks => insL k (lset ks)
theorem mem_insL {j k : List Int} : ∀ {xs : List (List Int)}, j ∈ insL k xs ↔ j = k ∨ j ∈ xs
  | [] => by simp [insL]
  | x :: xs => by
    unfold insL
    split
    · simp
    · split
      · rename_i h; subst h; simp
      · rw [List.mem_cons, mem_insL, List.mem_cons]
        constructor
        · rintro (h | h | h)
          · exact .inr (.inl h)
          · exact .inl h
          · exact .inr (.inr h)
        · rintro (h | h | h)
          · exact .inr (.inl h)
          · exact .inl h
          · exact .inr (.inr h)
theorem pw_insL {k : List Int} : ∀ {xs : List (List Int)}, xs.Pairwise (· < ·) → (insL k xs).Pairwise (· < ·)
  | [], _ => by simp [insL]
  | x :: xs, h => by
    obtain ⟨h1, h2⟩ := List.pairwise_cons.mp h
    unfold insL
    split
    · rename_i hk
      exact List.pairwise_cons.mpr ⟨fun z hz => (List.mem_cons.mp hz).elim (fun e => e ▸ hk) fun hz => List.lt_trans hk (h1 z hz), h⟩
    · split
      · exact h
      · rename_i hk hne
        refine List.pairwise_cons.mpr ⟨fun z hz => ?_, pw_insL h2⟩
        rcases mem_insL.mp hz with e | hz
        · rw [e]
          rcases List.le_iff_lt_or_eq.mp (List.not_lt.mp hk) with h | h
          · exact h
          · exact absurd h.symm hne
        · exact h1 z hz
theorem mem_lset {k : List Int} : ∀ {ks : List (List Int)}, k ∈ lset ks ↔ k ∈ ks
  | [] => by simp [lset]
  | n :: ks => by
    show k ∈ insL n (lset ks) ↔ _
    rw [mem_insL, mem_lset, List.mem_cons]
theorem pw_lset : ∀ (ks : List (List Int)), (lset ks).Pairwise (· < ·)
  | [] => List.Pairwise.nil
  | n :: ks => pw_insL (pw_lset ks)
theorem pwl_unique : ∀ {as bs : List (List Int)}, as.Pairwise (· < ·) → bs.Pairwise (· < ·) → (∀ k, k ∈ as ↔ k ∈ bs) → as = bs
  | [], [], _, _, _ => rfl
  | [], b :: bs, _, _, h => nomatch (h b).mpr (List.mem_cons_self ..)
  | a :: as, [], _, _, h => nomatch (h a).mp (List.mem_cons_self ..)
  | a :: as, b :: bs, ha, hb, h => by
    obtain ⟨a1, a2⟩ := List.pairwise_cons.mp ha
    obtain ⟨b1, b2⟩ := List.pairwise_cons.mp hb
    have e : a = b := by
      rcases List.mem_cons.mp ((h a).mp (List.mem_cons_self ..)) with x | x
      · exact x
      · rcases List.mem_cons.mp ((h b).mpr (List.mem_cons_self ..)) with y | y
        · exact y.symm
        · exact absurd (List.lt_trans (a1 b y) (b1 a x)) (List.lt_irrefl _)
    subst e
    rw [pwl_unique a2 b2 fun k => ?_]
    constructor
    · intro hk
      rcases List.mem_cons.mp ((h k).mp (List.mem_cons_of_mem _ hk)) with q | q
      · exact absurd (q ▸ a1 k hk) (List.lt_irrefl _)
      · exact q
    · intro hk
      rcases List.mem_cons.mp ((h k).mpr (List.mem_cons_of_mem _ hk)) with q | q
      · exact absurd (q ▸ b1 k hk) (List.lt_irrefl _)
      · exact q
theorem lt_of_code {B : Int} : ∀ {as bs : List Int}, as.length = bs.length → TS.Bd B as → TS.Bd B bs → TS.code B as ≤ TS.code B bs → as ≠ bs → as < bs
  | [], [], _, _, _, _, n => absurd rfl n
  | a :: as, b :: bs, l, ha, hb, h, n => by
    have l' : as.length = bs.length := by simpa using l
    rcases Int.lt_trichotomy a b with c | c | c
    · exact List.cons_lt_cons_iff.mpr (.inl c)
    · subst c
      refine List.cons_lt_cons_iff.mpr (.inr ⟨rfl, lt_of_code l' ha.tail hb.tail ?_ fun e => n (by rw [e])⟩)
      have z := TS.code_same (B := B) (d := a) (r := bs) (q := as) l'.symm
      omega
    · have := TS.code_lt (B := B) l'.symm hb.tail ha.tail c
      omega
def tupI? : D → Option (List Int)
  | .tuple xs => intsD xs
  | _ => none
def tupsD : List D → Option (List (List Int))
  | [] => some []
  | d :: ds => (tupI? d).bind fun k => (tupsD ds).map (k :: ·)
def kD (k : List Int) : D := .tuple (k.map PyData.int)
theorem tupsD_of : ∀ {ds : List D} {ks : List (List Int)}, tupsD ds = some ks → ds = ks.map kD
  | [], ks, h => by cases h; rfl
  | d :: ds, ks, h => by
    simp only [tupsD, Option.bind_eq_some_iff, Option.map_eq_some_iff] at h
    obtain ⟨k, h1, ms, h2, rfl⟩ := h
    cases d with
    | tuple xs =>
      rw [tupsD_of h2, intsD_of (show intsD xs = some k from h1)]
      rfl
    | _ => cases h1
/-- which rows may be put into a set -/
def okT (ks : List (List Int)) : Bool := decide (ks.length < 64) && ks.all fun k => decide (k.length = (ks.headD []).length) && decide (1 ≤ k.length) && k.all fun i => decide (0 ≤ i)
def setT (ds : List D) : Option D := match tupsD ds with
  | some ks => if okT ks = true then some (.list ((lset ks).map kD)) else none
  | none => none
def sumA (ns : List Int) (a : Int) : Int := ns.foldl (fun (a b : Int) => a + (Int.natAbs b : Int)) a
def topOf (ks : List (List Int)) : Int := 1 + sumA (ks.map fun k => sumA k 0) 0
theorem foldl_nat : ∀ (ns : List Int) (a : Int), a ≤ sumA ns a ∧ ∀ n ∈ ns, 0 ≤ a → n ≤ sumA ns a
  | [], a => ⟨Int.le_refl _, fun n h => by cases h⟩
  | n :: ns, a => by
    obtain ⟨h1, h2⟩ := foldl_nat ns (a + Int.natAbs n)
    refine ⟨?_, fun m hm h0 => ?_⟩
    · show a ≤ sumA ns (a + Int.natAbs n)
      omega
    · show m ≤ sumA ns (a + Int.natAbs n)
      rcases List.mem_cons.mp hm with rfl | hm
      · omega
      · exact h2 m hm (by omega)
theorem topOf_lt {ks : List (List Int)} {k : List Int} (hk : k ∈ ks) {n : Int} (hn : n ∈ k) : n < topOf ks := by
  have h1 := (foldl_nat k 0).2 n hn (Int.le_refl _)
  have h2 := (foldl_nat (ks.map fun k => sumA k 0) 0).2 _ (List.mem_map_of_mem hk) (Int.le_refl _)
  unfold topOf
  omega
theorem sqT_same {K : PySem.W.Frag} {H H' : Hp} {a : Addr} {xs : List V} (h : SqT K H a xs) (s : Same H H') : SqT K H' a xs := h.imp (fun r => rd_same s r) id
/-- rows as values -/
theorem rxl_rows {K : PySem.W.Frag} {W : Addr → Prop} {H : Hp} : ∀ {vs : List V} {ks : List (List Int)}, RxL K W H vs (ks.map kD) →
    ∃ ps : List (Addr × List Int), vs = ps.map (fun p => V.ref p.1) ∧ ps.map (·.2) = ks ∧ ∀ p ∈ ps, SqT K H p.1 (p.2.map V.int) ∧ Rx K W H (.ref p.1) (kD p.2)
  | _, [], h => by cases h; exact ⟨[], rfl, rfl, fun p hp => by cases hp⟩
  | _, k :: ks, h => by
    cases h with
    | cons r t =>
      obtain ⟨ps, rfl, e2, h3⟩ := rxl_rows t
      obtain ⟨a, xs, rfl, h4, h5⟩ := Rx.tuple r
      refine ⟨(a, k) :: ps, rfl, by rw [List.map_cons, e2], fun p hp => ?_⟩
      rcases List.mem_cons.mp hp with rfl | hp
      · refine ⟨?_, r⟩
        rw [← rxl_ints h5]
        exact h4
      · exact h3 p hp
theorem rows_rxl {K : PySem.W.Frag} {W : Addr → Prop} {H : Hp} : ∀ (ps : List (Addr × List Int)), (∀ p ∈ ps, Rx K W H (.ref p.1) (kD p.2)) → RxL K W H (ps.map fun p => V.ref p.1) ((ps.map (·.2)).map kD)
  | [], _ => .nil
  | p :: ps, h => .cons (h p (List.mem_cons_self ..)) (rows_rxl ps fun q hq => h q (List.mem_cons_of_mem _ hq))
def sortSetC : List D → Option D
  | [.list xs] => match intsD xs with
    | some ns => if ns.length + 1 < scanBound ∧ (sset ns).length < 64 then some (.list ((sset ns).map PyData.int)) else none
    | none => setT xs
  | [.tuple xs] => setT xs
  | _ => none
theorem rSetT_mono {K : PySem.W.Frag} {P : Program} {w : World} {vs : List V} {H : Hp} {Q Q' : VK} (h : rSetT K P w vs H Q) (i : ∀ v H, Q v H → Q' v H) : rSetT K P w vs H Q' := by
  obtain ⟨l, ks, h1, h2, h3, h4, h5⟩ := h
  exact ⟨l, ks, h1, h2, h3, h4, fun a L x y z => i _ _ (h5 a L x y z)⟩
section
variable {X : Cx} {Ew : WX} {e : Expr} {ma : M LV} {p p2 pos pos2 : Pos}
theorem cr_setU (hc : X.calm = true) (hu : X.A.units + 64 < cLine) : CallR X (.type "set") (fun vs H Q => rSet X.w X.K vs H Q ∨ rSetT X.K X.prog X.w vs H Q) := fun pins s σ H xs us Q I rx h =>
  h.elim (cr_set hc pins s σ H xs us Q I rx) (cr_setT hc hu pins s σ H xs us Q I rx)
theorem cr_sortU (hc : X.calm = true) : CallR X (.builtin "sorted") (fun vs H Q => rSortSet X.w vs H Q ∨ rSortedT X.K X.prog X.w vs H Q) := fun pins s σ H xs us Q I rx h =>
  h.elim (cr_sortSet hc pins s σ H xs us Q I rx) (cr_sortedT hc pins s σ H xs us Q I rx)
/-- sorted(set(e)) -/
theorem fSortSet (hc : X.calm = true) (hu : X.A.units + 64 < cLine) (hm : X.mg "sorted" = none) (hm2 : X.mg "set" = none) (ha : PE X e (tL X.K Ew ma)) (hg : Gl X "sorted" := by rfl) (hg2 : Gl X "set" := by rfl)
    (h1 : starEach [.Call (.Name "set" p2) [e] [] pos2] X.env = (false, eval (.Call (.Name "set" p2) [e] [] pos2) X.env) :: starEach [] X.env := by rfl) (h2 : starEach [e] X.env = (false, eval e X.env) :: starEach [] X.env := by rfl)
    (h3 : (backTo pos (starEach [] X.env)).any (·.1) = false := by rfl) (h4 : (backTo pos2 (starEach [] X.env)).any (·.1) = false := by rfl) :
    PE X (.Call (.Name "sorted" p) [.Call (.Name "set" p2) [e] [] pos2] [] pos) (tF X.K Ew (mCall sortSetC [ma])) := by
  refine PE.imp (pe_callB (cr_sortU hc) hg hm (by decide +kernel) (pa_cons (pe_callTy (cr_setU hc hu) hg2 hm2 (by decide +kernel) (aCons ha aNil h2) (by decide) (by decide) h2 h4) pa_nil h1) (by decide) (by decide) h1 h3) fun σ H Q h => ?_
  obtain ⟨W, O, ρ, R, h⟩ := h
  refine ⟨W, O, ρ, R, (Out.bind h).mono fun xs ρ1 H1 k1 R1 h1 vs rvs => ?_⟩
  obtain ⟨ds, tx, h2⟩ := Out.getAll h1 R1 rvs
  obtain ⟨r, hf, q⟩ := Out.lift h2 R1
  have rows : ∀ (l : Addr) (ws : List V) (ks : List (List Int)), vs = [.ref l] → (SqL X.K H1 l ws ∨ SqT X.K H1 l ws) → RxL X.K W H1 ws (ks.map kD) → okT ks = true → r = .list ((lset ks).map kD) → rSetT X.K X.prog X.w vs H1 (fun v H2 => rSortedT X.K X.prog X.w [v] H2 Q) := by
    intro l ws ks ev sq lw ok er
    obtain ⟨ps, rfl, rfl, hps⟩ := rxl_rows lw
    simp only [okT, Bool.and_eq_true, decide_eq_true_eq, List.all_eq_true] at ok
    obtain ⟨o1, o2⟩ := ok
    refine ⟨l, ps, ev, sq, fun p hp => (hps p hp).1, by simpa using o1, fun a L na hL1 hL2 => ?_⟩
    have s1 : Same H1 (upd H1 a (SetTO X.prog X.w a L)) := Same.upd na
    have bd : ∀ p ∈ L, p.2.length = max 1 ((ps.map (·.2)).headD []).length ∧ TS.Bd (topOf (ps.map (·.2))) p.2 := fun p hp => by
      have hm : p.2 ∈ ps.map (·.2) := List.mem_map_of_mem (hL1 p hp)
      obtain ⟨⟨z1, z2⟩, z3⟩ := o2 _ hm
      exact ⟨by omega, fun m hm' => ⟨z3 m hm', topOf_lt hm hm'⟩⟩
    refine ⟨a, L, max 1 ((ps.map (·.2)).headD []).length, topOf (ps.map (·.2)), rfl, upd_same, fun p hp => sqT_same (hps p (hL1 p hp)).1 s1, Nat.le_max_left .., bd, fun L' p pm nd _ pw np => ?_⟩
    have na' : p ≠ a := fun z => by rw [z, upd_same] at np; cases np
    have s2 := s1.trans (Same.upd (o := .lst (L'.map fun q => V.ref q.1)) np)
    have np1 : H1 p = none := by rw [upd_ne na'] at np; exact np
    have e' : L'.map (·.2) = lset (ps.map (·.2)) := by
      refine pwl_unique ?_ (pw_lset _) fun k => ?_
      · rw [List.pairwise_map]
        have nd' := List.pairwise_map.mp nd
        have both := nd'.and pw
        refine List.Pairwise.imp_of_mem (fun {x y} hx hy h => ?_) both
        obtain ⟨b1, b2⟩ := bd x (pm.mem_iff.mp hx)
        obtain ⟨c1, c2⟩ := bd y (pm.mem_iff.mp hy)
        exact lt_of_code (by omega) b2 c2 h.2 h.1
      · rw [mem_lset]
        constructor
        · intro hk
          obtain ⟨x, hx, rfl⟩ := List.mem_map.mp hk
          exact List.mem_map_of_mem (hL1 x (pm.mem_iff.mp hx))
        · intro hk
          obtain ⟨x, hx, rfl⟩ := List.mem_map.mp hk
          obtain ⟨y, hy, e⟩ := List.mem_map.mp (hL2 x hx)
          rw [← e]
          exact List.mem_map_of_mem (pm.mem_iff.mpr hy)
    have own : OwnAt X.K (plus W p) (upd (upd H1 a (SetTO X.prog X.w a L)) p (.lst (L'.map fun q => V.ref q.1))) p (.list ((lset (ps.map (·.2))).map kD)) := by
      rw [← e']
      exact own_new np (rows_rxl L' fun x hx => ((hps x (hL1 x (pm.mem_iff.mp hx))).2).same s1)
    obtain ⟨g1, g2, g3, g4⟩ := fresh_end k1 R1 s2 np1 own
    rw [er] at q
    exact q _ g3 g4 p g1 g2 own
  unfold sortSetC at hf
  split at hf
  · rename_i xs
    split at hf
    · rename_i ns en
      split at hf
      · rename_i hz
        cases hf
        rw [intsD_of en] at tx
        obtain ⟨v, rfl, tv⟩ := tx.one
        refine .inl ⟨W, v, ns, rfl, tv, hz.1, fun a na => .inl ?_⟩
        refine ⟨a, ns, rfl, upd_same, hz.2, fun p np => ?_⟩
        have na' : p ≠ a := fun z => by rw [z, upd_same] at np; cases np
        have s1 : Same H1 (upd H1 a (SetI X.w a (fun j => decide (j ∈ ns)) (sset ns).length)) := Same.upd na
        have s2 := s1.trans (Same.upd (o := .lst ((sset ns).map V.int)) np)
        have np1 : H1 p = none := by rw [upd_ne na'] at np; exact np
        obtain ⟨g1, g2, g3, g4⟩ := fresh_end k1 R1 s2 np1 (r := .list ((sset ns).map PyData.int)) ⟨_, upd_same, ints_rxl _⟩
        exact q _ g3 g4 p g1 g2 ⟨_, upd_same, ints_rxl _⟩
      · cases hf
    · unfold setT at hf
      split at hf
      · rename_i ks ek
        split at hf
        · rename_i hok
          cases hf
          rw [tupsD_of ek] at tx
          obtain ⟨v, rfl, tv⟩ := tx.one
          obtain ⟨l, ws, rfl, sl, lw⟩ := tv.list
          exact .inr (rSetT_mono (rows l ws ks rfl (.inl (.inl sl)) lw hok rfl) fun v H2 h => .inr h)
        · cases hf
      · cases hf
  · rename_i xs
    unfold setT at hf
    split at hf
    · rename_i ks ek
      split at hf
      · rename_i hok
        cases hf
        rw [tupsD_of ek] at tx
        obtain ⟨v, rfl, tv⟩ := tx.one
        obtain ⟨l, ws, rfl, sl, lw⟩ := tv.tuple
        exact .inr (rSetT_mono (rows l ws ks rfl (.inr sl) lw hok rfl) fun v H2 h => .inr h)
      · cases hf
    · cases hf
  · cases hf
end
end CF
end
section
/-! CF, part n: defs. A def's promise is made where no repr is under way (A.guards = some []). -/
namespace CF
open PySem PySem.Spec PyProof.Rows L2

/-! ### promises -/
structure FnG (P : Program) (w : World) (K : PySem.W.Frag) (mg : Str → Option Value) (base : Heap) (CX : CXT) (k : Nat) (f : Addr) (fd : FuncData) (ps : List Str) (sp : Sp) : Prop where
  ln : ∀ vs H Q E, sp vs H Q E → vs.length = ps.length
  go : ∀ {A : Around} {outer : List Env} {s : Shared} {H : Hp} {args : Args} {us : List Value} {vs : List V} {Q : VK} {E : XK}, Room k A → A.guards = some [] → Env0 P w K mg base A outer s H →
    BindsTo s fd args (ps.zip us) → Vals vs us → sp vs H Q E → codeAny (model P w) A (.call (.ref f) args) (CR CX outer P w H s Q E) s
section
variable {P : Program} {w : World} {K : PySem.W.Frag} {mg : Str → Option Value} {base : Heap} {CX : CXT} {j k : Nat} {f : Addr} {fd : FuncData} {ps : List Str} {sp : Sp}
theorem FnG.up (F : FnG P w K mg base CX j f fd ps sp) (h : j ≤ k) : FnG P w K mg base CX k f fd ps sp := ⟨F.ln, fun r g e b v q => F.go (r.mono h) g e b v q⟩
/-- a def by its body -/
theorem FnG.of {x qual : Str} {st : Stmt} {N : List Str} (F : Fun K x qual st f fd) (S : FnScope N ps (defScope st)) (ln : ∀ vs H Q E, sp vs H Q E → vs.length = ps.length)
    (hb : ∀ (cdv : Value) (A : Around) (outer : List Env) (s : Shared) (H : Hp) (vs : List V) (Q : VK) (E : XK), Room k (A.deeper (envOfC qual (defScope st) s.heap.objs.size f cdv)) → A.guards = some [] → sp vs H Q E →
      ∃ t, PSs (cxOf CX P w K mg base N qual (defScope st) f cdv A outer s H E) (defBody st) t ∧ t { nx := fun _ H' => Q .non H', rt := Q } (start N vs) H) : FnG P w K mg base CX (k + 1) f fd ps sp := by
  obtain ⟨oc, od, kV, doc, pm, an, cdv, ct, osl, hfd, lk, hcd⟩ := F.ex
  refine ⟨ln, ?_⟩
  intro A outer s H args us vs Q E hr hgd e0 hbn rv hsp
  subst hfd
  have hn := ln _ _ _ _ hsp
  have old : ∀ b o, base.get? b = some o → s.heap.get? b = some o := fun b o e => (e0.bs b o e).1
  have hin : K.In s.heap := e0.mod.kin.keeps old
  have hlim : s.heap.NoLimit := e0.mod.nolimit.keeps old
  have slots : ∀ y ∈ ps.zip us, (defScope st).names.lookup y.1 = some .local ∨ ((defScope st).names.lookup y.1 = some .cell ∧ ((cellsFrom (s.heap.objs.size + 1) (defScope st).names []).lookup y.1).isSome = true) := by
    rintro ⟨z, v⟩ hz
    exact (S.par z (List.of_mem_zip hz).1).imp id fun c => ⟨c, PySem.W.cellsFrom_some _ _ _ (.inl c)⟩
  refine codeAny_call_function hr.depth (hin _ _ lk) rfl S.co S.gen rfl (PySem.W.codeRec_of hin hcd) (hbn _ _ _ _ ?_)
  refine wpAny_newFunctionEnv_cells S.kind slots ?_
  rintro env rfl s1 x
  refine ⟨hlim.keeps x.toInCall.keep, codeAny_func ?_⟩
  obtain ⟨t, run, q⟩ := hb cdv A outer s H vs Q E (hr.deeper _) hgd hsp
  have at0 := inv_start (CX := CX) (E := E) (N := N) S hr.hd e0 hn rv x
  refine wpAny_mono (run.run [] s1 (start N vs) H _ at0 q) ?_ fun _ _ z => z
  intro fl s' z
  cases fl with
  | brk => obtain ⟨_, _, _, z⟩ := z; cases z
  | cont => obtain ⟨_, _, _, z⟩ := z; cases z
  | next =>
    obtain ⟨_, H1, J, z⟩ := z
    exact ⟨.non, H1, J.os, J.bare, J.base, J.hok, rfl, z⟩
  | ret u =>
    obtain ⟨v, _, H1, J, r1, z⟩ := z
    exact ⟨v, H1, J.os, J.bare, J.base, J.hok, r1, z⟩
end
section
variable {X : Cx} {CX : CXT} {k : Nat} {f : Addr} {fd : FuncData} {ps : List Str} {sp : Sp} {E : XK} {x : Str} {p pos : Pos} {e : Expr} {es : List Expr} {t : TA}
theorem FnG.run {pins : List (Addr × Obj)} {σ : L2.St} {H : Hp} {s : Shared} {Q : VK} {us : List Value} {vs : List V} (F : FnG X.prog X.w X.K X.mg X.base CX k f fd ps sp) (hr : Room k X.A) (hg : X.A.guards = some []) (hb : Binds X.K fd ps []) (hx : Passes CX X E)
    (I : Inv X pins σ H s) (r : Vals vs us) (h : sp vs H Q E) : wpAny (model X.prog X.w) X.A (call (.ref f) us) (EP X pins σ Q) X.xe s := by
  have hl : (us ++ []).length = ps.length := by rw [List.append_nil, ← r.length]; exact F.ln _ _ _ _ h
  have bb := hb s us I.kIn hl
  rw [List.append_nil] at bb
  refine wpAny_call (codeAny_mono (F.go hr hg I.env0 bb r h) ?_)
  intro z s' q
  match z, q with
  | .error ev, q => exact hx pins σ H s ev s' I q
  | .ok (.ret u), q => exact I.after q
/-- f(e, ..), f a def of the text -/
theorem FnG.pe (F : FnG X.prog X.w X.K X.mg X.base CX k f fd ps sp) (hr : Room k X.A) (hgd : X.A.guards = some []) (hm : X.mg x = some (.ref f)) (hk : PySem.W.keepIn X.K (.ref f) = true) (hb : Binds X.K fd ps []) (hx : Passes CX X E)
    (ha : PA X (e :: es) t) (hg : Gl X x) (hdb : (x == ("__debug__" : Str)) = false) (he : starEach (e :: es) X.env = (false, eval e X.env) :: starEach es X.env) (hpl : (backTo pos (starEach es X.env)).any (·.1) = false) :
    PE X (.Call (.Name x p) (e :: es) [] pos) (fun σ H Q => t σ H fun vs H1 => sp vs H1 Q E) := by
  constructor
  intro pins s σ H Q I h
  refine wpAny_Call_Name_kw (ld_glob I hg hm ?_ hdb)
  refine PySem.W.callWith_K (h₀ := X.base) I.ok.mod.kin hk ?_ he hpl
  refine thn (ha.run pos pins s σ H _ I h) ?_
  rintro us s1 ⟨vs, H1, I1, r, q⟩
  exact ⟨I1.kIn, F.run hr hgd hb hx I1 r q⟩
end
end CF
end
section
/-! CF, part q: a def's mirror, its promise, its call. -/
namespace CF
open PySem PySem.Spec PyProof.Rows L2
variable [Tb]

/-- the parameters' slots at the entry; the result and the parameters' slots at the end -/
abbrev FM := List Slot → Option (R D)
def allOwn (F : List Nat) (ρ : List Slot) : Bool := F.all fun j => isOwnD (ρ.getD j .un)
def runF (fr : Bool) (np nl : Nat) (F : List Nat) (body : MS) : FM := fun ps => if ps.length = np then
    match body (ps ++ List.replicate nl .un) with
    | some (.ok (.rt d) ρ) => if allOwn F ρ then some (.ok d (ρ.take np)) else none
    | some (.ok .nx ρ) => if !fr && allOwn F ρ then some (.ok .none (ρ.take np)) else none
    | some (.ex e ρ) => if allOwn F ρ then some (.ex e (ρ.take np)) else none
    | _ => none
  else none
/-- the objects that the caller lent, behind the call -/
structure IOk (K : PySem.W.Frag) (W' O' : Addr → Prop) (H' : Hp) (F : List Nat) (vs : List V) (ps' : List Slot) : Prop where
  ow : ∀ a, O' a → W' a
  io : ∀ i ∈ F, ∃ a c, vs[i]? = some (.ref a) ∧ ps'[i]? = some (.own c) ∧ O' a ∧ OwnAt K W' H' a c
  tb : TbOk O' H'
def RetF (fr : Bool) (K : PySem.W.Frag) (W' O' : Addr → Prop) (H' : Hp) (F : List Nat) (vs : List V) (v : V) (d : D) : Prop :=
  if fr = true then ∃ a, v = .ref a ∧ O' a ∧ OwnAt K W' H' a d ∧ ∀ j ∈ F, vs[j]? ≠ some (.ref a) else Rx K W' H' v d
def OutF (fr : Bool) (F : List Nat) (K : PySem.W.Frag) (E : XK) (W O : Addr → Prop) (vs : List V) (H : Hp) (Q : VK) : Option (R D) → Prop
  | some (.ok d ps') => ∀ v W' O' H', Step W O H W' O' H' → IOk K W' O' H' F vs ps' → RetF fr K W' O' H' F vs v d → Q v H'
  | some (.ex e ps') => ∀ c dx W' O' H', Step W O H W' O' H' → IOk K W' O' H' F vs ps' → ExcRel K W' H' c dx e → E c dx H'
  | none => False
def spF (fr : Bool) (F : List Nat) (K : PySem.W.Frag) (f : FM) : Sp := fun vs H Q E => ∃ W O ps, SRel K W O H (vs.map some) ps ∧ OutF fr F K E W O vs H Q (f ps)
section
variable {K : PySem.W.Frag} {W O : Addr → Prop} {H : Hp} {vs : List V} {ps : List Slot}
theorem SRel.start (R : SRel K W O H (vs.map some) ps) (n : Nat) : SRel K W O H (vs.map some ++ List.replicate n none) (ps ++ List.replicate n .un) := by
  have hl := R.len
  have own : ∀ (j : Nat) (e : D), (ps ++ List.replicate n Slot.un)[j]? = some (.own e) → j < ps.length ∧ ps[j]? = some (.own e) := fun j e h => by
    by_cases q : j < ps.length
    · rw [List.getElem?_append_left q] at h
      exact ⟨q, h⟩
    · rw [List.getElem?_append_right (by omega), List.getElem?_replicate] at h
      split at h <;> cases h
  refine ⟨by simp [hl] <;> simpa using hl, R.ow, R.tr, fun i x s h1 h2 => ?_, fun i j a d e ne e1 e2 f1 f2 => ?_, R.tb⟩
  · by_cases q : i < ps.length
    · rw [List.getElem?_append_left (by rw [hl]; exact q)] at h1
      rw [List.getElem?_append_left q] at h2
      exact R.sl i x s h1 h2
    · rw [List.getElem?_append_right (by omega), List.getElem?_replicate] at h2
      split at h2
      · cases h2; trivial
      · cases h2
  · obtain ⟨q1, e1⟩ := own i d e1
    obtain ⟨q2, e2⟩ := own j e e2
    rw [List.getElem?_append_left (by rw [hl]; exact q1)] at f1
    rw [List.getElem?_append_left (by rw [hl]; exact q2)] at f2
    exact R.ne i j a d e ne e1 e2 f1 f2
end
section
variable {fr : Bool} {F : List Nat} {K : PySem.W.Frag} {W O : Addr → Prop} {H : Hp} {vs : List V} {ps : List Slot} {np nl : Nat} {Q : VK} {E : XK} {m : MS}
theorem io_end {W' O' : Addr → Prop} {H' : Hp} {σ' : L2.St} {ρ' : List Slot} (hl : vs.length = np) (hF : (F.all fun i => decide (i < np)) = true) (R' : SRel K W' O' H' σ' ρ') (f : Fx F (vs.map some ++ List.replicate nl none) σ') (ho : allOwn F ρ' = true) :
    IOk K W' O' H' F vs (ρ'.take np) ∧ ∀ j ∈ F, σ'[j]? = (vs[j]?).map some := by
  have at' : ∀ j ∈ F, j < np ∧ σ'[j]? = (vs[j]?).map some := fun j hj => by
    have hn : j < np := of_decide_eq_true (List.all_eq_true.mp hF j hj)
    refine ⟨hn, ?_⟩
    rw [f j hj, List.getElem?_append_left (by rw [List.length_map, hl]; exact hn), List.getElem?_map]
  refine ⟨⟨R'.ow, fun i hi => ?_, R'.tb⟩, fun j hj => (at' j hj).2⟩
  obtain ⟨hn, ev⟩ := at' i hi
  obtain ⟨c, ec⟩ := own_of (List.all_eq_true.mp ho i hi)
  obtain ⟨a, ea, oa, ob⟩ := R'.own ec
  refine ⟨a, c, ?_, by rw [List.getElem?_take_of_lt hn]; exact ec, oa, ob⟩
  rw [ea] at ev
  cases h : vs[i]? with
  | none => rw [h] at ev; cases ev
  | some v => rw [h] at ev; cases ev; rfl
theorem run_start (hF : (F.all fun i => decide (i < np)) = true) (R : SRel K W O H (vs.map some) ps) (h : OutF fr F K E W O vs H Q (runF fr np nl F m ps)) :
    tS fr F K (fun c dx _ H' => E c dx H') m { nx := fun _ H' => Q .non H', rt := Q } (vs.map some ++ List.replicate nl none) H := by
  refine ⟨W, O, _, R.start nl, ?_⟩
  have hl : vs.length = ps.length := by simpa using R.len
  unfold runF at h
  split at h
  case isFalse => exact h.elim
  rename_i hp
  have hv : vs.length = np := hl.trans hp
  generalize hr : m (ps ++ List.replicate nl .un) = r at h
  match r, h with
  | some (.ok (.rt d) ρ), h =>
    simp only at h
    split at h
    case isFalse => exact h.elim
    rename_i ho
    intro W' O' σ' H' s R' f v rv
    obtain ⟨io, at'⟩ := io_end (nl := nl) hv hF R' f ho
    refine h v W' O' H' s io ?_
    cases fr with
    | false => exact rv
    | true =>
      have rv : ∃ a, v = .ref a ∧ O' a ∧ OwnAt K W' H' a d ∧ ∀ j ∈ F, σ'[j]? ≠ some (some (.ref a)) := rv
      obtain ⟨a, e, oa, ob, nn⟩ := rv
      refine show ∃ a, _ from ⟨a, e, oa, ob, fun j hj z => nn j hj ?_⟩
      rw [at' j hj, z]; rfl
  | some (.ok .nx ρ), h =>
    simp only at h
    split at h
    case isFalse => exact h.elim
    rename_i ho
    intro W' O' σ' H' s R' f
    rw [Bool.and_eq_true] at ho
    obtain ⟨io, at'⟩ := io_end (nl := nl) hv hF R' f ho.2
    cases fr with
    | false => exact h .non W' O' H' s io .non
    | true => exact nomatch ho.1
  | some (.ok .bk ρ), h => exact h.elim
  | some (.ok .ct ρ), h => exact h.elim
  | some (.ex e ρ), h =>
    simp only at h
    split at h
    case isFalse => exact h.elim
    rename_i ho
    intro c dx W' O' σ' H' s R' f x
    obtain ⟨io, at'⟩ := io_end (nl := nl) hv hF R' f ho
    exact h c dx W' O' H' s io x
theorem spF_len (h : spF fr F K (runF fr np nl F m) vs H Q E) : vs.length = np := by
  obtain ⟨W, O, ps, R, h⟩ := h
  unfold runF at h
  split at h
  case isFalse => exact h.elim
  rename_i hp
  have hl := R.len
  rw [List.length_map] at hl
  exact hl.trans hp
end
/-- .. of a def that raises nothing -/
def sp0 (fr : Bool) (F : List Nat) (K : PySem.W.Frag) (f : FM) : Sp := fun vs H Q _ => spF fr F K f vs H Q E0
section
variable {P : Program} {w : World} {K : PySem.W.Frag} {mg : Str → Option Value} {base : Heap} {k np nl : Nat} {f : Addr} {fd : FuncData} {N ps : List Str} {x : Str} {st : Stmt} {fr : Bool} {F : List Nat} {m : MS}
theorem gDef (nl : Nat) (Fn : Fun K x x st f fd) (S : FnScope N ps (defScope st)) (hF : (F.all fun i => decide (i < ps.length)) = true) (hN : N.length = ps.length + nl)
    (hb : ∀ (cdv : Value) (A : Around) (outer : List Env) (s : Shared) (H : Hp) (E : XK), Room k (A.deeper (envOfC x (defScope st) s.heap.objs.size f cdv)) → A.guards = some [] →
      PSs (cxOf CX0 P w K mg base N x (defScope st) f cdv A outer s H E).nox (defBody st) (tS fr F K WF m)) : FnG P w K mg base CX0 (k + 1) f fd ps (sp0 fr F K (runF fr ps.length nl F m)) := by
  refine FnG.of Fn S (fun vs H Q E h => spF_len h) fun cdv A outer s H vs Q E hr hg h => ?_
  have hv := spF_len h
  obtain ⟨W, O, qs, R, h⟩ := h
  refine ⟨_, (hb cdv A outer s H E hr hg).nox, ?_⟩
  have e : N.length - vs.length = nl := by rw [hN, hv]; omega
  unfold L2.start
  rw [e]
  exact run_start hF R h
end

/-! ### a call -/
def argS (F : List Nat) (ρ : List Slot) : Nat → List LV → Option (List Slot)
  | _, [] => some []
  | j, .dat d :: xs => if F.contains j then none else (argS F ρ (j + 1) xs).map (.dat d :: ·)
  | j, .slot i :: xs => match ρ[i]? with
    | some (.own c) => if F.contains j then (argS F ρ (j + 1) xs).map (.own c :: ·) else none
    | some (.dat d) => if F.contains j then none else (argS F ρ (j + 1) xs).map (.dat d :: ·)
    | _ => none
/-- which slots are lent: the parameter, the slot -/
def ioIx (F : List Nat) : Nat → List LV → List (Nat × Nat)
  | _, [] => []
  | j, .slot i :: xs => if F.contains j then (j, i) :: ioIx F (j + 1) xs else ioIx F (j + 1) xs
  | j, .dat _ :: xs => ioIx F (j + 1) xs
def backF (ix : List (Nat × Nat)) (ps' : List Slot) (ρ : List Slot) : List Slot := ρ.mapIdx fun i s => match ix.find? fun p => p.2 == i with
  | some p => ps'.getD p.1 .un
  | none => s
def mFn (F : List Nat) (f : FM) (as : List (M LV)) : M D := do
  let xs ← mLs as
  fun ρ => if decide ((ioIx F 0 xs).map (·.2)).Nodup then match argS F ρ 0 xs with
    | some ps => match f ps with
      | some (.ok d ps') => some (.ok d (backF (ioIx F 0 xs) ps' ρ))
      | some (.ex e ps') => some (.ex e (backF (ioIx F 0 xs) ps' ρ))
      | none => none
    | none => none
  else none
section
variable {F : List Nat} {K : PySem.W.Frag} {W O : Addr → Prop} {σ : L2.St} {H : Hp} {ρ : List Slot}
theorem ioIx_ge : ∀ {xs : List LV} {j : Nat} {p : Nat × Nat}, p ∈ ioIx F j xs → j ≤ p.1 ∧ F.contains p.1 = true ∧ xs[p.1 - j]? = some (.slot p.2)
  | [], j, p, h => nomatch h
  | .dat d :: xs, j, p, h => by
    obtain ⟨h1, h2, h3⟩ := ioIx_ge (xs := xs) (j := j + 1) h
    refine ⟨by omega, h2, ?_⟩
    rw [show p.1 - j = (p.1 - (j + 1)) + 1 by omega, List.getElem?_cons_succ]
    exact h3
  | .slot i :: xs, j, p, h => by
    have rest : p ∈ ioIx F (j + 1) xs → j ≤ p.1 ∧ F.contains p.1 = true ∧ (LV.slot i :: xs)[p.1 - j]? = some (.slot p.2) := fun h => by
      obtain ⟨h1, h2, h3⟩ := ioIx_ge (xs := xs) (j := j + 1) h
      refine ⟨by omega, h2, ?_⟩
      rw [show p.1 - j = (p.1 - (j + 1)) + 1 by omega, List.getElem?_cons_succ]
      exact h3
    unfold ioIx at h
    split at h
    · rename_i hc
      rcases List.mem_cons.mp h with e | h
      · subst e
        exact ⟨Nat.le_refl _, hc, by simp⟩
      · exact rest h
    · exact rest h
theorem ioIx_mem : ∀ {xs : List LV} {j n i : Nat}, xs[n]? = some (.slot i) → F.contains (j + n) = true → (j + n, i) ∈ ioIx F j xs
  | [], j, n, i, h, _ => by simp at h
  | x :: xs, j, 0, i, h, c => by
    simp at h
    subst h
    unfold ioIx
    rw [if_pos (by simpa using c)]
    exact List.mem_cons_self ..
  | x :: xs, j, n + 1, i, h, c => by
    have q := ioIx_mem (xs := xs) (j := j + 1) (n := n) (by simpa using h) (by rw [show j + 1 + n = j + (n + 1) by omega]; exact c)
    rw [show j + 1 + n = j + (n + 1) by omega] at q
    cases x with
    | dat d => exact q
    | slot l =>
      unfold ioIx
      split
      · exact List.mem_cons_of_mem _ q
      · exact q
theorem argS_len : ∀ {xs : List LV} {j : Nat} {ps : List Slot}, argS F ρ j xs = some ps → ps.length = xs.length
  | [], j, ps, h => by cases h; rfl
  | .dat d :: xs, j, ps, h => by
    unfold argS at h
    split at h
    · cases h
    · obtain ⟨r, h1, rfl⟩ := Option.map_eq_some_iff.mp h
      simp [argS_len h1]
  | .slot i :: xs, j, ps, h => by
    unfold argS at h
    split at h
    · split at h
      · obtain ⟨r, h1, rfl⟩ := Option.map_eq_some_iff.mp h
        simp [argS_len h1]
      · cases h
    · split at h
      · cases h
      · obtain ⟨r, h1, rfl⟩ := Option.map_eq_some_iff.mp h
        simp [argS_len h1]
    · cases h
/-- an argument's slot -/
theorem argS_at : ∀ {xs : List LV} {j n : Nat} {ps : List Slot} {s : Slot}, argS F ρ j xs = some ps → ps[n]? = some s →
    (∃ d, s = .dat d ∧ F.contains (j + n) = false ∧ (xs[n]? = some (.dat d) ∨ ∃ i, xs[n]? = some (.slot i) ∧ ρ[i]? = some (.dat d))) ∨ ∃ c i, s = .own c ∧ F.contains (j + n) = true ∧ xs[n]? = some (.slot i) ∧ ρ[i]? = some (.own c)
  | [], j, n, ps, s, h, e => by cases h; simp at e
  | x :: xs, j, n, ps, s, h, e => by
    have step : ∀ {t : Slot}, (argS F ρ (j + 1) xs).map (t :: ·) = some ps → ∃ r, argS F ρ (j + 1) xs = some r ∧ ps = t :: r := fun {t} h => by
      obtain ⟨r, h1, h2⟩ := Option.map_eq_some_iff.mp h
      exact ⟨r, h1, h2.symm⟩
    have later : ∀ {t : Slot} {r : List Slot} {n' : Nat}, n = n' + 1 → argS F ρ (j + 1) xs = some r → ps = t :: r →
        (∃ d, s = .dat d ∧ F.contains (j + n) = false ∧ ((x :: xs)[n]? = some (.dat d) ∨ ∃ i, (x :: xs)[n]? = some (.slot i) ∧ ρ[i]? = some (.dat d))) ∨ ∃ c i, s = .own c ∧ F.contains (j + n) = true ∧ (x :: xs)[n]? = some (.slot i) ∧ ρ[i]? = some (.own c) := by
      intro t r n' hn h1 h2
      subst hn
      subst h2
      rw [List.getElem?_cons_succ] at e
      have q := argS_at h1 e
      rw [show j + 1 + n' = j + (n' + 1) by omega] at q
      simpa only [List.getElem?_cons_succ] using q
    cases x with
    | dat d =>
      unfold argS at h
      split at h
      · cases h
      · rename_i hc
        obtain ⟨r, h1, h2⟩ := step h
        cases n with
        | succ n' => exact later rfl h1 h2
        | zero =>
          subst h2
          simp at e
          subst e
          exact .inl ⟨d, rfl, by simpa using hc, .inl (by simp)⟩
    | slot i =>
      unfold argS at h
      split at h
      · rename_i c ec
        split at h
        · rename_i hc
          obtain ⟨r, h1, h2⟩ := step h
          cases n with
          | succ n' => exact later rfl h1 h2
          | zero =>
            subst h2
            simp at e
            subst e
            exact .inr ⟨c, i, rfl, by simpa using hc, by simp, ec⟩
        · cases h
      · rename_i d ed
        split at h
        · cases h
        · rename_i hc
          obtain ⟨r, h1, h2⟩ := step h
          cases n with
          | succ n' => exact later rfl h1 h2
          | zero =>
            subst h2
            simp at e
            subst e
            exact .inl ⟨d, rfl, by simpa using hc, .inr ⟨i, by simp, ed⟩⟩
      · cases h
theorem lrels_at : ∀ {vs : List V} {xs : List LV} {n : Nat} {v : V}, LRels K W H σ vs xs → vs[n]? = some v → ∃ x, xs[n]? = some x ∧ LRel K W H σ v x
  | _, _, n, v, .nil, e => by simp at e
  | _, _, 0, v, .cons r t, e => by simp at e; subst e; exact ⟨_, by simp, r⟩
  | _, _, n + 1, v, .cons r t, e => by
    obtain ⟨x, h1, h2⟩ := lrels_at t (by simpa using e)
    exact ⟨x, by simpa using h1, h2⟩
theorem lrels_len : ∀ {vs : List V} {xs : List LV}, LRels K W H σ vs xs → vs.length = xs.length
  | _, _, .nil => rfl
  | _, _, .cons r t => by simp [lrels_len t]
theorem nd_snd : ∀ {ix : List (Nat × Nat)} {p q : Nat × Nat}, (ix.map (·.2)).Nodup → p ∈ ix → q ∈ ix → p.2 = q.2 → p = q
  | [], _, _, _, h, _, _ => nomatch h
  | r :: ix, p, q, nd, hp, hq, e => by
    rw [List.map_cons, List.nodup_cons] at nd
    rcases List.mem_cons.mp hp with h1 | h1 <;> rcases List.mem_cons.mp hq with h2 | h2
    · rw [h1, h2]
    · exact absurd (by rw [← h1, e]; exact List.mem_map_of_mem h2) nd.1
    · exact absurd (by rw [← h2, ← e]; exact List.mem_map_of_mem h1) nd.1
    · exact nd_snd nd.2 h1 h2 e
def Lent (σ : L2.St) (ix : List (Nat × Nat)) : Addr → Prop := fun a => (∃ p ∈ ix, σ[p.2]? = some (some (.ref a))) ∨ TbA a
theorem lent_own {xs : List LV} {ps : List Slot} (ha : argS F ρ 0 xs = some ps) {p : Nat × Nat} (hp : p ∈ ioIx F 0 xs) : ∃ c, ρ[p.2]? = some (.own c) ∧ ps[p.1]? = some (.own c) := by
  obtain ⟨_, hc, hx⟩ := ioIx_ge hp
  rw [Nat.sub_zero] at hx
  obtain ⟨hn, _⟩ := List.getElem?_eq_some_iff.mp hx
  have e : ps[p.1]? = some (ps[p.1]'(by rw [argS_len ha]; exact hn)) := List.getElem?_eq_getElem _
  rcases argS_at ha e with ⟨d, _, h2, _⟩ | ⟨c, i, h1, h2, h3, h4⟩
  · rw [Nat.zero_add, hc] at h2; cases h2
  · rw [hx] at h3
    cases h3
    exact ⟨c, h4, by rw [e, h1]⟩
theorem call_in {xs : List LV} {ps : List Slot} {vs : List V} (R : SRel K W O H σ ρ) (r : LRels K W H σ vs xs) (ha : argS F ρ 0 xs = some ps) (nd : ((ioIx F 0 xs).map (·.2)).Nodup) : SRel K W (Lent σ (ioIx F 0 xs)) H (vs.map some) ps := by
  have lo : ∀ a, Lent σ (ioIx F 0 xs) a → O a := fun a l => by
    rcases l with ⟨p, hp, e⟩ | l
    case inr => exact R.tb.sub l
    obtain ⟨c, h1, _⟩ := lent_own ha hp
    obtain ⟨a', e', oa, _⟩ := R.own h1
    rw [e] at e'
    cases e'
    exact oa
  have val : ∀ {n : Nat} {x : Option V}, (vs.map some)[n]? = some x → ∃ v, x = some v ∧ vs[n]? = some v := fun {n x} e => by
    rw [List.getElem?_map] at e
    obtain ⟨v, h1, h2⟩ := Option.map_eq_some_iff.mp e
    exact ⟨v, h2.symm, h1⟩
  refine ⟨by rw [List.length_map, argS_len ha, lrels_len r], fun a z => R.ow a (lo a z), R.tr, fun n x s h1 h2 => ?_, fun n m a d e ne e1 e2 f1 f2 => ?_, R.tb.but fun _ z => .inr z⟩
  · obtain ⟨v, rfl, hv⟩ := val h1
    obtain ⟨lx, hx, rv⟩ := lrels_at r hv
    rcases argS_at ha h2 with ⟨d, rfl, hc, q⟩ | ⟨c, i, rfl, hc, hi, hr⟩
    · refine ⟨v, rfl, ?_⟩
      rcases q with q | ⟨i, q, hr⟩
      · rw [q] at hx; cases hx; exact rv
      · rw [q] at hx; cases hx
        obtain ⟨w, e1, e2⟩ := R.dat hr
        have rv : σ[i]? = some (some v) := rv
        rw [rv] at e1; cases e1
        exact e2
    · rw [hi] at hx; cases hx
      obtain ⟨a, e1, oa, ob⟩ := R.own hr
      have rv : σ[i]? = some (some v) := rv
      rw [rv] at e1; cases e1
      rw [Nat.zero_add] at hc
      exact ⟨a, rfl, .inl ⟨(n, i), by simpa using ioIx_mem (j := 0) hi (by simpa using hc), rv⟩, ob⟩
  · obtain ⟨v, ev, hv⟩ := val f1
    obtain ⟨w, ew, hw⟩ := val f2
    cases ev; cases ew
    obtain ⟨x1, hx1, rv1⟩ := lrels_at r hv
    obtain ⟨x2, hx2, rv2⟩ := lrels_at r hw
    rcases argS_at ha e1 with ⟨_, z, _⟩ | ⟨c1, i1, _, hc1, hi1, hr1⟩
    · cases z
    rcases argS_at ha e2 with ⟨_, z, _⟩ | ⟨c2, i2, _, hc2, hi2, hr2⟩
    · cases z
    rw [hi1] at hx1; cases hx1
    rw [hi2] at hx2; cases hx2
    refine R.ne i1 i2 a c1 c2 (fun q => ?_) hr1 hr2 rv1 rv2
    subst q
    rw [Nat.zero_add] at hc1 hc2
    have m1 : (n, i1) ∈ ioIx F 0 xs := by simpa using ioIx_mem (j := 0) hi1 (by simpa using hc1)
    have m2 : (m, i1) ∈ ioIx F 0 xs := by simpa using ioIx_mem (j := 0) hi2 (by simpa using hc2)
    exact ne (congrArg Prod.fst (nd_snd nd m1 m2 rfl))
theorem backF_at (ix : List (Nat × Nat)) (ps' : List Slot) (ρ : List Slot) (i : Nat) : (backF ix ps' ρ)[i]? = (ρ[i]?).map fun s => match ix.find? fun p => p.2 == i with
    | some p => ps'.getD p.1 .un
    | none => s := by
  unfold backF
  rw [List.getElem?_mapIdx]
theorem call_out {xs : List LV} {ps ps' : List Slot} {vs : List V} {W' O' : Addr → Prop} {H' : Hp} (R : SRel K W O H σ ρ) (r : LRels K W H σ vs xs) (ha : argS F ρ 0 xs = some ps) (s : Step W (Lent σ (ioIx F 0 xs)) H W' O' H') (io : IOk K W' O' H' F vs ps') :
    KeepO W O H H' ∧ (∀ a, W a → W' a) ∧ ∀ W2 O2 : Addr → Prop, (∀ b, W2 b → W' b) → (∀ b, O b → O2 b) → (∀ b, O2 b → W2 b) → (∀ b, W2 b → W b ∨ H b = none) → (∀ b, W2 b → ∃ o, H' b = some o) → SRel K W2 O2 H' σ (backF (ioIx F 0 xs) ps' ρ) := by
  have lo : ∀ a, Lent σ (ioIx F 0 xs) a → O a := fun a l => by
    rcases l with ⟨p, hp, e⟩ | l
    case inr => exact R.tb.sub l
    obtain ⟨c, h1, _⟩ := lent_own ha hp
    obtain ⟨a', e', oa, _⟩ := R.own h1
    rw [e] at e'
    cases e'
    exact oa
  have arg : ∀ p ∈ ioIx F 0 xs, ∃ a c, σ[p.2]? = some (some (.ref a)) ∧ ps'.getD p.1 .un = .own c ∧ O' a ∧ OwnAt K W' H' a c := fun p hp => by
    obtain ⟨_, hc, hx⟩ := ioIx_ge hp
    rw [Nat.sub_zero] at hx
    obtain ⟨a, c, h1, h2, h3, h4⟩ := io.io p.1 (by simpa [List.contains_iff_mem] using hc)
    obtain ⟨x, hx', rx⟩ := lrels_at r h1
    rw [hx] at hx'
    cases hx'
    exact ⟨a, c, rx, by rw [List.getD_eq_getElem?_getD, h2]; rfl, h3, h4⟩
  have ww : ∀ a, W a → W' a := fun a w => by
    by_cases l : Lent σ (ioIx F 0 xs) a
    · rcases l with ⟨p, hp, e⟩ | l
      case inr => exact io.ow a (io.tb.sub l)
      obtain ⟨a', c, e1, _, oa, _⟩ := arg p hp
      rw [e] at e1
      cases e1
      exact io.ow a oa
    · obtain ⟨o, e⟩ := R.tr a w
      exact s.wi a o e w l
  have kp := s.keep.moreO lo
  have at' : ∀ (i : Nat) (t : Slot), (backF (ioIx F 0 xs) ps' ρ)[i]? = some t → (∃ p c a, p ∈ ioIx F 0 xs ∧ p.2 = i ∧ t = .own c ∧ σ[i]? = some (some (.ref a)) ∧ O' a ∧ OwnAt K W' H' a c) ∨ ((∀ p ∈ ioIx F 0 xs, p.2 ≠ i) ∧ ρ[i]? = some t) := fun i t e => by
    rw [backF_at] at e
    obtain ⟨u, hu, e⟩ := Option.map_eq_some_iff.mp e
    split at e
    · rename_i p hf
      have hm := List.mem_of_find?_eq_some hf
      have hp := List.find?_some hf
      have e2 : p.2 = i := by simpa using hp
      obtain ⟨a, c, h1, h2, h3, h4⟩ := arg p hm
      rw [e2] at h1
      exact .inl ⟨p, c, a, hm, e2, by rw [← e, h2], h1, h3, h4⟩
    · rename_i hf
      refine .inr ⟨fun p hp z => ?_, by rw [hu, e]⟩
      have := List.find?_eq_none.mp hf p hp
      simp [z] at this
  have lent_at : ∀ p ∈ ioIx F 0 xs, ∃ c, ρ[p.2]? = some (.own c) := fun p hp => by
    obtain ⟨c, h, _⟩ := lent_own ha hp
    exact ⟨c, h⟩
  have wasOwn : ∀ (i : Nat) (c : PyData), (backF (ioIx F 0 xs) ps' ρ)[i]? = some (.own c) → ∃ c', ρ[i]? = some (.own c') := fun i c e => by
    rcases at' i _ e with ⟨p, _, _, hp, e2, _⟩ | ⟨_, h⟩
    · obtain ⟨c', h⟩ := lent_at p hp
      rw [e2] at h
      exact ⟨c', h⟩
    · exact ⟨c, h⟩
  refine ⟨kp, ww, fun W2 O2 w2 o2 ow2 wn2 tr2 => ⟨?_, ow2, tr2, fun i x t h1 h2 => ?_, fun i j a d e n e1 e2 f1 f2 => ?_, io.tb.but fun b z => o2 b (R.tb.sub z)⟩⟩
  · unfold backF
    rw [List.length_mapIdx]
    exact R.len
  · rcases at' i t h2 with ⟨p, c, a, hp, e2, rfl, h3, h4, h5⟩ | ⟨hn, h⟩
    · rw [h3] at h1
      cases h1
      obtain ⟨c', h⟩ := lent_at p hp
      rw [e2] at h
      obtain ⟨a', e', oa, _⟩ := R.own h
      rw [h3] at e'
      cases e'
      exact ⟨a, rfl, o2 a oa, h5.less w2⟩
    · have q := R.sl i x t h1 h
      have wg : ∀ a o, H a = some o → W2 a → W a := fun a o e z => (wn2 a z).elim id fun n => by rw [n] at e; cases e
      cases t with
      | un => trivial
      | dat d => obtain ⟨v, ev, rv⟩ := q; exact ⟨v, ev, Rx.go (fun a u e n => kp.rest a u e n) wg d v rv⟩
      | own d =>
        obtain ⟨a, ev, oa, ob⟩ := q
        subst ev
        refine ⟨a, rfl, o2 a oa, ob.go (fun a u e n => kp.rest a u e n) wg fun o e => s.keep.own a o e (R.ow a oa) fun l => ?_⟩
        rcases l with ⟨p, hp, ep⟩ | l
        case inr =>
          obtain ⟨u, hu, pu⟩ := ob.plain
          exact R.tb.not hu pu l
        obtain ⟨c', h'⟩ := lent_at p hp
        exact R.ne p.2 i a c' d (hn p hp) h' h ep h1
      | ob d =>
        obtain ⟨a, ev, oa, ob⟩ := q
        subst ev
        refine ⟨a, rfl, o2 a oa, ob.go (fun a u e n => kp.rest a u e n) wg fun o e => s.keep.own a o e (R.ow a oa) fun l => ?_⟩
        rcases l with ⟨p, hp, ep⟩ | l
        case inr =>
          obtain ⟨f, hf⟩ := ob.ext
          exact R.tb.notE hf l
        obtain ⟨c', h'⟩ := lent_at p hp
        obtain ⟨a', e', _, oc⟩ := R.own h'
        rw [ep] at e'
        cases e'
        obtain ⟨u, hu, pu⟩ := oc.plain
        exact ob_ne ob hu pu rfl
  · obtain ⟨d', e1'⟩ := wasOwn i d e1
    obtain ⟨e', e2'⟩ := wasOwn j e e2
    exact R.ne i j a d' e' n e1' e2' f1 f2
end
section
variable {X : Cx} {CX : CXT} {k : Nat} {f : Addr} {fd : FuncData} {ps : List Str} {x : Str} {p pos : Pos} {e : Expr} {es : List Expr} {F : List Nat} {g : FM} {as : List (M LV)}
theorem t_fn {K : PySem.W.Frag} {σ : L2.St} {H : Hp} {Q : VK} (h : tD K WF (mFn F g as) σ H Q) : tLs K WF (mLs as) σ H fun vs H1 => sp0 false F K g vs H1 Q E0 := by
  obtain ⟨W, O, ρ, R, h⟩ := h
  refine ⟨W, O, ρ, R, (Out.bind h).mono fun xs ρ1 H1 k1 R1 h1 vs rvs => ?_⟩
  split at h1
  case isFalse => exact h1.elim
  rename_i nd
  have nd := of_decide_eq_true nd
  cases ha : argS F ρ1 0 xs with
  | none => simp only [ha] at h1; exact h1.elim
  | some qs =>
    simp only [ha] at h1
    refine ⟨W, _, qs, call_in R1 rvs ha nd, ?_⟩
    have same : ∀ {W' O' : Addr → Prop} {H' : Hp} {ps' : List Slot}, (∀ W2 O2 : Addr → Prop, (∀ b, W2 b → W' b) → (∀ b, O b → O2 b) → (∀ b, O2 b → W2 b) → (∀ b, W2 b → W b ∨ H1 b = none) → (∀ b, W2 b → ∃ o, H' b = some o) → SRel K W2 O2 H' σ (backF (ioIx F 0 xs) ps' ρ1)) →
        (∀ a, W a → W' a) → Step W (Lent σ (ioIx F 0 xs)) H1 W' O' H' → SRel K W O H' σ (backF (ioIx F 0 xs) ps' ρ1) := fun {W' O' H' ps'} z ww s => z W O ww (fun _ => id) R1.ow (fun _ => .inl) fun b w => let ⟨o, e⟩ := R1.tr b w; s.dom b o e
    generalize hr : g qs = r at h1
    match r, h1 with
    | some (.ok d ps'), h1 =>
      intro v W' O' H' s io rv
      obtain ⟨kp, ww, R2⟩ := call_out R1 rvs ha s io
      exact h1 H' kp (same R2 ww s) v (Rx.less rv ww)
    | some (.ex e ps'), h1 =>
      intro c dx W' O' H' s io ex
      obtain ⟨kp, ww, R2⟩ := call_out R1 rvs ha s io
      obtain ⟨a, h1', h2, h3⟩ := ex
      refine h1 c dx H' kp (same R2 ww s) ⟨a, h1', h2, h3.imp id ?_⟩
      rintro ⟨d, f, v, y, z1, z2, z3, z4, z5⟩
      exact ⟨d, f, v, y, z1, z2, z3, z4, z5.less ww⟩
theorem t_fnF {K : PySem.W.Frag} {σ : L2.St} {H : Hp} {Q : VK} (h : tF K WF (mFn F g as) σ H Q) : tLs K WF (mLs as) σ H fun vs H1 => sp0 true F K g vs H1 Q E0 := by
  obtain ⟨W, O, ρ, R, h⟩ := h
  refine ⟨W, O, ρ, R, (Out.bind h).mono fun xs ρ1 H1 k1 R1 h1 vs rvs => ?_⟩
  split at h1
  case isFalse => exact h1.elim
  rename_i nd
  have nd := of_decide_eq_true nd
  cases ha : argS F ρ1 0 xs with
  | none => simp only [ha] at h1; exact h1.elim
  | some qs =>
    simp only [ha] at h1
    refine ⟨W, _, qs, call_in R1 rvs ha nd, ?_⟩
    have same : ∀ {W' O' : Addr → Prop} {H' : Hp} {ps' : List Slot}, (∀ W2 O2 : Addr → Prop, (∀ b, W2 b → W' b) → (∀ b, O b → O2 b) → (∀ b, O2 b → W2 b) → (∀ b, W2 b → W b ∨ H1 b = none) → (∀ b, W2 b → ∃ o, H' b = some o) → SRel K W2 O2 H' σ (backF (ioIx F 0 xs) ps' ρ1)) →
        (∀ a, W a → W' a) → Step W (Lent σ (ioIx F 0 xs)) H1 W' O' H' → SRel K W O H' σ (backF (ioIx F 0 xs) ps' ρ1) := fun {W' O' H' ps'} z ww s => z W O ww (fun _ => id) R1.ow (fun _ => .inl) fun b w => let ⟨o, e⟩ := R1.tr b w; s.dom b o e
    generalize hr : g qs = r at h1
    match r, h1 with
    | some (.ok d ps'), h1 =>
      intro v W' O' H' s io rv
      obtain ⟨kp, ww, R2⟩ := call_out R1 rvs ha s io
      have rv : ∃ a, v = .ref a ∧ O' a ∧ OwnAt K W' H' a d ∧ ∀ j ∈ F, vs[j]? ≠ some (.ref a) := rv
      obtain ⟨a, rfl, oa, ob, nn⟩ := rv
      have na : H1 a = none := by
        rcases s.ow a oa with l | l
        · exfalso
          rcases l with ⟨q, hq, eq⟩ | l
          case inr =>
            obtain ⟨u, hu, pu⟩ := ob.plain
            exact io.tb.not hu pu l
          obtain ⟨_, hc, hx⟩ := ioIx_ge hq
          rw [Nat.sub_zero] at hx
          have hj : q.1 ∈ F := by simpa [List.contains_iff_mem] using hc
          obtain ⟨a', c, h1', _⟩ := io.io q.1 hj
          obtain ⟨y, hy, ry⟩ := lrels_at rvs h1'
          rw [hx] at hy
          cases hy
          have ry : σ[q.2]? = some (some (.ref a')) := ry
          rw [eq] at ry
          cases ry
          exact nn q.1 hj h1'
        · exact l
      obtain ⟨o, eo⟩ := ob.some
      have wp : ∀ b, plus W a b → W' b := fun b z => z.elim (ww b) fun q => by rw [q]; exact io.ow a oa
      refine h1 H' kp (same R2 ww s) a ?_ (R1.dom k1 na) (ob.less wp)
      exact R2 _ _ wp (fun b => .inl) (fun b z => z.elim (fun q => .inl (R1.ow b q)) .inr) (fun b z => z.elim .inl fun q => .inr (by rw [q]; exact na)) fun b z => z.elim (fun w => let ⟨o', e'⟩ := R1.tr b w; s.dom b o' e') fun q => by rw [q]; exact ⟨o, eo⟩
    | some (.ex e ps'), h1 =>
      intro c dx W' O' H' s io ex
      obtain ⟨kp, ww, R2⟩ := call_out R1 rvs ha s io
      obtain ⟨a, h1', h2, h3⟩ := ex
      refine h1 c dx H' kp (same R2 ww s) ⟨a, h1', h2, h3.imp id ?_⟩
      rintro ⟨d, f, v, y, z1, z2, z3, z4, z5⟩
      exact ⟨d, f, v, y, z1, z2, z3, z4, z5.less ww⟩
end
/-- a def of the text that may be called by its name -/
structure CalG (P : Program) (w : World) (K : PySem.W.Frag) (mg : Str → Option Value) (base : Heap) (k : Nat) (x : Str) (fr : Bool) (F : List Nat) (g : FM) : Prop where
  ex : ∃ (f : Addr) (fd : FuncData) (ps : List Str), FnG P w K mg base CX0 k f fd ps (sp0 fr F K g) ∧ mg x = some (.ref f) ∧ PySem.W.keepIn K (.ref f) = true ∧ Binds K fd ps []
section
variable {X : Cx} {j k : Nat} {x : Str} {p pos : Pos} {e : Expr} {es : List Expr} {F : List Nat} {g : FM} {as : List (M LV)}
theorem dFn (C : CalG X.prog X.w X.K X.mg X.base j x false F g) (hr : Room k X.A) (hj : j ≤ k) (hgd : X.A.guards = some []) (ha : PA X (e :: es) (tLs X.K WF (mLs as))) (hg : Gl X x := by rfl) (hdb : (x == ("__debug__" : Str)) = false := by decide)
    (he : starEach (e :: es) X.env = (false, eval e X.env) :: starEach es X.env := by rfl) (hpl : (backTo pos (starEach es X.env)).any (·.1) = false := by rfl) : PE X (.Call (.Name x p) (e :: es) [] pos) (tD X.K WF (mFn F g as)) := by
  obtain ⟨f, fd, ps, Fn, hm, hk, hb⟩ := C.ex
  exact PE.imp ((Fn.up hj).pe (E := E0) hr hgd hm hk hb pass0 ha hg hdb he hpl) fun _ _ _ h => t_fn h
theorem fFn (C : CalG X.prog X.w X.K X.mg X.base j x true F g) (hr : Room k X.A) (hj : j ≤ k) (hgd : X.A.guards = some []) (ha : PA X (e :: es) (tLs X.K WF (mLs as))) (hg : Gl X x := by rfl) (hdb : (x == ("__debug__" : Str)) = false := by decide)
    (he : starEach (e :: es) X.env = (false, eval e X.env) :: starEach es X.env := by rfl) (hpl : (backTo pos (starEach es X.env)).any (·.1) = false := by rfl) : PE X (.Call (.Name x p) (e :: es) [] pos) (tF X.K WF (mFn F g as)) := by
  obtain ⟨f, fd, ps, Fn, hm, hk, hb⟩ := C.ex
  exact PE.imp ((Fn.up hj).pe (E := E0) hr hgd hm hk hb pass0 ha hg hdb he hpl) fun _ _ _ h => t_fnF h
end

/-! ### a call whose last argument is made there and lent -/
def tLsT (K : PySem.W.Frag) (Ew : WX) (m : M (List LV)) (md : M D) : TA := fun σ H Q => ∃ W O ρ, SRel K W O H σ ρ ∧ Out K Ew W O σ H (fun xs ρ1 H1 =>
  Out K Ew W O σ H1 (fun d ρ2 H2 => ∀ vs a, LRels K (plus W a) H2 σ vs xs → SRel K (plus W a) (plus O a) H2 σ ρ2 → H1 a = none → OwnAt K (plus W a) H2 a d → Q (vs ++ [.ref a]) H2) (md ρ1)) (m ρ)
def mFnT (F : List Nat) (f : FM) (as : List (M LV)) (md : M D) : M D := do
  let xs ← mLs as
  let d ← md
  fun ρ => if decide ((ioIx F 0 (xs ++ [.slot ρ.length])).map (·.2)).Nodup && F.contains xs.length then match argS F (ρ ++ [.own d]) 0 (xs ++ [.slot ρ.length]) with
    | some ps => match f ps with
      | some (.ok r ps') => some (.ok r ((backF (ioIx F 0 (xs ++ [.slot ρ.length])) ps' (ρ ++ [.own d])).take ρ.length))
      | _ => none
    | none => none
  else none
section
variable {K : PySem.W.Frag} {W O : Addr → Prop} {σ : L2.St} {H : Hp} {ρ : List Slot} {F : List Nat}
theorem lrels_snoc {v : V} {x : LV} : ∀ {vs : List V} {xs : List LV}, LRels K W H σ vs xs → LRel K W H σ v x → LRels K W H σ (vs ++ [v]) (xs ++ [x])
  | _, _, .nil, r => .cons r .nil
  | _, _, .cons r1 t, r => .cons r1 (lrels_snoc t r)
theorem SRel.snoc {a : Addr} {d : D} (R : SRel K W O H σ ρ) (oa : O a) (ob : OwnAt K W H a d) (nw : ∀ (j : Nat) (e : D), ρ[j]? = some (.own e) → σ[j]? ≠ some (some (.ref a))) : SRel K W O H (σ ++ [some (.ref a)]) (ρ ++ [.own d]) := by
  have hl := R.len
  have cs : ∀ (i : Nat) (x : Option V) (s : Slot), (σ ++ [some (.ref a)])[i]? = some x → (ρ ++ [Slot.own d])[i]? = some s → (σ[i]? = some x ∧ ρ[i]? = some s) ∨ (i = σ.length ∧ x = some (.ref a) ∧ s = .own d) := fun i x s h1 h2 => by
    by_cases q : i < σ.length
    · rw [List.getElem?_append_left q] at h1
      rw [List.getElem?_append_left (by omega)] at h2
      exact .inl ⟨h1, h2⟩
    · rw [List.getElem?_append_right (by omega)] at h1 h2
      have z : i - σ.length = 0 := by
        obtain ⟨hi, _⟩ := List.getElem?_eq_some_iff.mp h1
        simp at hi
        omega
      rw [← hl] at h2
      rw [z] at h1 h2
      simp at h1 h2
      exact .inr ⟨by omega, h1.symm, h2.symm⟩
  refine ⟨by simp [hl], R.ow, R.tr, fun i x s h1 h2 => ?_, fun i j b d1 d2 n e1 e2 f1 f2 => ?_, R.tb⟩
  · rcases cs i x s h1 h2 with ⟨q1, q2⟩ | ⟨_, rfl, rfl⟩
    · exact R.sl i x s q1 q2
    · exact ⟨a, rfl, oa, ob⟩
  · rcases cs i _ _ f1 e1 with ⟨q1, q2⟩ | ⟨z1, y1, _⟩ <;> rcases cs j _ _ f2 e2 with ⟨q3, q4⟩ | ⟨z2, y2, _⟩
    · exact R.ne i j b d1 d2 n q2 q4 q1 q3
    · cases y2
      exact nw i d1 q2 q1
    · cases y1
      exact nw j d2 q4 q3
    · exact n (z1.trans z2.symm)
theorem lrel_snoc {v w : V} {x : LV} (h : LRel K W H σ v x) : LRel K W H (σ ++ [some w]) v x := by
  cases x with
  | dat d => exact h
  | slot i =>
    have h : σ[i]? = some (some v) := h
    show (σ ++ [some w])[i]? = _
    rw [List.getElem?_append_left (List.getElem?_eq_some_iff.mp h).1]
    exact h
theorem lrels_snocS {w : V} : ∀ {vs : List V} {xs : List LV}, LRels K W H σ vs xs → LRels K W H (σ ++ [some w]) vs xs
  | _, _, .nil => .nil
  | _, _, .cons r t => .cons (lrel_snoc r) (lrels_snocS t)
theorem LRel.fresh {H' : Hp} {a : Addr} {v : V} {x : LV} (h : LRel K W H σ v x) (n : H a = none) (k : KeepO W O H H') : LRel K (plus W a) H' σ v x := by
  cases x with
  | dat d =>
    refine Rx.go (W := W) (W' := CF.plus W a) (fun b u e nb => k.rest b u e nb) (fun b o e z => ?_) d v h
    rcases z with z | z
    · exact z
    · rw [z, n] at e; cases e
  | slot i => exact h
theorem SRel.unsnoc {a : Addr} {ρa : List Slot} {c : D} (R : SRel K (CF.plus W a) (CF.plus O a) H (σ ++ [some (.ref a)]) ρa) (ow : ∀ b, O b → W b) (hc : ρa[σ.length]? = some (.own c)) : SRel K W O H σ (ρa.take σ.length) := by
  have hl := R.len
  rw [List.length_append, List.length_singleton] at hl
  have up : ∀ (i : Nat) (s : Slot), (ρa.take σ.length)[i]? = some s → i < σ.length ∧ ρa[i]? = some s := fun i s h => by
    have hi : i < σ.length := by
      have := (List.getElem?_eq_some_iff.mp h).1
      rw [List.length_take] at this
      omega
    rw [List.getElem?_take_of_lt hi] at h
    exact ⟨hi, h⟩
  have us : ∀ (i : Nat), i < σ.length → (σ ++ [some (V.ref a)])[i]? = σ[i]? := fun i h => List.getElem?_append_left h
  have ul : (σ ++ [some (V.ref a)])[σ.length]? = some (some (.ref a)) := by
    rw [List.getElem?_append_right (Nat.le_refl _), Nat.sub_self]
    rfl
  have nt : ∀ b, TbA b → b ≠ a := fun b z q => by
    obtain ⟨a', e', _, ob⟩ := R.own hc
    rw [ul] at e'
    cases e'
    obtain ⟨u, hu, pu⟩ := ob.plain
    exact R.tb.not hu pu (q ▸ z)
  refine ⟨by rw [List.length_take]; omega, ow, fun b w => R.tr b (.inl w), fun i x s h1 h2 => ?_, fun i j b d1 d2 n e1 e2 f1 f2 => ?_, R.tb.but fun b z => (R.tb.sub z).elim id fun q => (nt b z q).elim⟩
  · obtain ⟨hi, h2⟩ := up i s h2
    have q := R.sl i x s (by rw [us i hi]; exact h1) h2
    cases s with
    | un => trivial
    | dat d => obtain ⟨v, ev, rv⟩ := q; exact ⟨v, ev, rv.less fun b z => .inl z⟩
    | own d =>
      obtain ⟨b, ev, ob, rb⟩ := q
      refine ⟨b, ev, ob.elim id fun z => ?_, rb.less fun b z => .inl z⟩
      subst ev
      subst z
      exact (R.ne i σ.length b d c (Nat.ne_of_lt hi) h2 hc (by rw [us i hi]; exact h1) ul).elim
    | ob d =>
      obtain ⟨b, ev, ob, rb⟩ := q
      refine ⟨b, ev, ob.elim id fun z => ?_, rb.less fun b z => .inl z⟩
      obtain ⟨a', e', _, oc⟩ := R.own hc
      rw [ul] at e'
      cases e'
      obtain ⟨u, hu, pu⟩ := oc.plain
      exact (ob_ne rb hu pu z).elim
  · obtain ⟨q1, e1⟩ := up i _ e1
    obtain ⟨q2, e2⟩ := up j _ e2
    exact R.ne i j b d1 d2 n e1 e2 (by rw [us i q1]; exact f1) (by rw [us j q2]; exact f2)
end
section
variable {X : Cx} {j k : Nat} {x : Str} {p pos : Pos} {e : Expr} {es : List Expr} {F : List Nat} {g : FM} {as : List (M LV)} {ma : M LV} {md : M D}
theorem aT1 (he : PE X e (tF X.K WF md)) (hs : starEach [e] X.env = (false, eval e X.env) :: starEach [] X.env := by rfl) : PA X [e] (tLsT X.K WF (mLs []) md) :=
  PA.imp (pa_cons he pa_nil hs) fun σ H Q ⟨W, O, ρ, R, h⟩ => ⟨W, O, ρ, R, (h H KeepO.refl R).mono fun d ρ2 H2 k2 R2 q a Rp n o => q [] a .nil Rp n o⟩
theorem aTc (he : PE X e (tL X.K WF ma)) (hr : PA X es (tLsT X.K WF (mLs as) md)) (hs : starEach (e :: es) X.env = (false, eval e X.env) :: starEach es X.env := by rfl) : PA X (e :: es) (tLsT X.K WF (mLs (ma :: as)) md) :=
  PA.imp (pa_cons he hr hs) fun σ H Q ⟨W, O, ρ, R, h⟩ => ⟨W, O, ρ, R, (Out.bind h).mono fun x ρ1 H1 k1 R1 h1 v rv => ⟨W, O, ρ1, R1, (Out.bind h1).mono fun xs ρ2 H2 k2 R2 h2 =>
    (h2 H2 KeepO.refl R2).mono fun d ρ3 H3 k3 R3 q vs a rvs Rp n o => q (v :: vs) a (.cons ((rv.keep R1 k2).fresh n k3) rvs) Rp n o⟩⟩
theorem t_fnT {K : PySem.W.Frag} {σ : L2.St} {H : Hp} {Q : VK} (h : tD K WF (mFnT F g as md) σ H Q) : tLsT K WF (mLs as) md σ H fun vs H1 => sp0 false F K g vs H1 Q E0 := by
  obtain ⟨W, O, ρ, R, h⟩ := h
  refine ⟨W, O, ρ, R, (Out.bind h).mono fun xs ρ1 H1 k1 R1 h1 => ?_⟩
  have h1 : Out K WF W O σ H1 (fun d _ H' => ∀ v, Rx K W H' v d → Q v H') (M.bind md _ ρ1) := h1
  unfold M.bind at h1
  generalize md ρ1 = r0 at h1
  match r0, h1 with
  | some (.ex e ρ'), h1 => exact h1
  | some (.ok d ρ2), h1 =>
    simp only at h1
    intro H2 k2 R2 vs a rvs Rp na oa
    split at h1
    case isFalse => exact h1.elim
    rename_i nd
    rw [Bool.and_eq_true] at nd
    obtain ⟨nd, hlast⟩ := nd
    have nd := of_decide_eq_true nd
    have nWa : ¬ W a := fun w => by
      obtain ⟨o, e⟩ := R1.tr a w
      rw [na] at e
      cases e
    have Ra := Rp.snoc (.inr rfl) oa fun i c e1 e2 => by
      obtain ⟨b, e3, ob, _⟩ := R2.own e1
      rw [e2] at e3
      cases e3
      exact nWa (R2.ow _ ob)
    have rva : LRels K (plus W a) H2 (σ ++ [some (.ref a)]) (vs ++ [.ref a]) (xs ++ [.slot ρ2.length]) := by
      refine lrels_snoc (lrels_snocS rvs) ?_
      show (σ ++ [some (V.ref a)])[ρ2.length]? = _
      rw [← R2.len, List.getElem?_append_right (Nat.le_refl _), Nat.sub_self]
      rfl
    cases ha : argS F (ρ2 ++ [.own d]) 0 (xs ++ [.slot ρ2.length]) with
    | none => simp only [ha] at h1; exact h1.elim
    | some qs =>
      simp only [ha] at h1
      refine ⟨plus W a, _, qs, call_in Ra rva ha nd, ?_⟩
      generalize hr : g qs = r at h1
      match r, h1 with
      | some (.ok z ps'), h1 =>
        intro v W' O' H' s io rv
        obtain ⟨kp, ww, R3⟩ := call_out Ra rva ha s io
        have R4 := R3 _ _ ww (fun _ => id) Ra.ow (fun _ => .inl) fun b w => let ⟨o, e⟩ := Ra.tr b w; s.dom b o e
        have na' : ∀ b o, H1 b = some o → b ≠ a := fun b o e z => by rw [z, na] at e; cases e
        have kp' : KeepO W O H1 H' := by
          constructor
          · intro b o e w n
            exact kp.own b o (k2.own b o e w n) (.inl w) fun z => z.elim n (na' b o e)
          · intro b u e n
            obtain ⟨o, eo⟩ := rd_some e
            exact kp.rest b u (k2.rest b u e n) fun z => z.elim n (na' b o eo)
          · intro b o u e n
            exact kp.frz b o u (k2.frz b o u e n) fun z => z.elim n (na' b _ e)
          · intro b xs e n
            exact kp.lst b xs (k2.lst b xs e n) fun z => z.elim n (na' b _ e)
        have last : ∃ c, (backF (ioIx F 0 (xs ++ [.slot ρ2.length])) ps' (ρ2 ++ [.own d]))[σ.length]? = some (.own c) := by
          rw [backF_at, R2.len, List.getElem?_append_right (Nat.le_refl _), Nat.sub_self]
          have mem : (xs.length, ρ2.length) ∈ ioIx F 0 (xs ++ [.slot ρ2.length]) := by
            have := ioIx_mem (F := F) (xs := xs ++ [.slot ρ2.length]) (j := 0) (n := xs.length) (i := ρ2.length) (by rw [List.getElem?_append_right (Nat.le_refl _), Nat.sub_self]; rfl) (by rw [Nat.zero_add]; exact hlast)
            rw [Nat.zero_add] at this
            exact this
          cases hf : (ioIx F 0 (xs ++ [.slot ρ2.length])).find? fun p => p.2 == ρ2.length with
          | none =>
            have := List.find?_eq_none.mp hf _ mem
            simp at this
          | some p =>
            have hm := List.mem_of_find?_eq_some hf
            obtain ⟨_, hc, _⟩ := ioIx_ge hm
            obtain ⟨_, c, _, h2, _⟩ := io.io p.1 (by simpa [List.contains_iff_mem] using hc)
            refine ⟨c, ?_⟩
            simp [List.getD_eq_getElem?_getD, h2]
        obtain ⟨c, hcl⟩ := last
        have R5 := R4.unsnoc R2.ow hcl
        rw [R2.len] at R5
        exact h1 H' kp' R5 v (Rx.less rv fun b w => ww b (.inl w))
      | some (.ex _ _), h1 => exact h1.elim
      | none, h1 => exact h1.elim
theorem dFnT (C : CalG X.prog X.w X.K X.mg X.base j x false F g) (hr : Room k X.A) (hj : j ≤ k) (hgd : X.A.guards = some []) (ha : PA X (e :: es) (tLsT X.K WF (mLs as) md)) (hg : Gl X x := by rfl) (hdb : (x == ("__debug__" : Str)) = false := by decide)
    (he : starEach (e :: es) X.env = (false, eval e X.env) :: starEach es X.env := by rfl) (hpl : (backTo pos (starEach es X.env)).any (·.1) = false := by rfl) : PE X (.Call (.Name x p) (e :: es) [] pos) (tD X.K WF (mFnT F g as md)) := by
  obtain ⟨f, fd, ps, Fn, hm, hk, hb⟩ := C.ex
  exact PE.imp ((Fn.up hj).pe (E := E0) hr hgd hm hk hb pass0 ha hg hdb he hpl) fun _ _ _ h => t_fnT h
end
end CF
end
section
/-! CF, part t: the top: the law is called. -/
namespace CF
open PySem PySem.Spec PyProof.Rows L2
section
variable {P : Program} {w : World} {K : PySem.W.Frag} {mg mb : Str → Option Value} {k : Nat} {fa a : Addr} {fd : FuncData} {x : Str} {sp : Sp} {s1 : Shared} {vs : List Value} {ns : List Int}
def wants (s1 : Shared) (r : Result) (s' : Shared) : Prop := r = .ok (.ret (.bool true)) ∧ OldK s1.heap s'.heap ∧ s'.os = s1.os ∧ AllBare s'.gens
end
end CF
end
section
/-! CF, part u: the bag of the script, the law's own def. -/
namespace CF
open PySem PySem.Spec PyProof.Rows L2
variable [Tb]

def absI (i : Int) : Int := if i < 0 then -i else i
def absN (ns : List Int) : List D := ns.map fun i => .int (absI i)
def bagT (ns : List Int) : D := .list [.int 0, .int 1234567891, .int 0, .list (absN ns)]
def spBag (K : PySem.W.Frag) : Sp := fun vs H Q _ => ∃ a ns, vs = [.ref a] ∧ SqL K H a (ns.map V.int) ∧ ns.length ≤ 63 ∧ TbOk TbA H ∧ ∀ H' p, TbOk TbA H' → OwnAt K (fun b => b = p ∨ TbA b) H' p (bagT ns) → Q (.ref p) H'
abbrev tBagSrc (K : PySem.W.Frag) : TI := iList K (tSl (rSlL K) (L2.tVar 0) tNoPart (tPart (tC (.int 63))))
abbrev tBag (K : PySem.W.Frag) : TS := tRet (tLst (tCons (tC (.int 0)) (tCons (tC (.int 1234567891)) (tCons (tC (.int 0)) (tCons (tLc (tBagSrc K) (tB K [1] (setS 1)) (tT K WF mYes) (tD K WF (mCall absC [mPk 1])) [1]) L2.tNil)))))
theorem bag_go : ∀ (ns : List Int) (acc : List D) (s : Slot), acc.length + ns.length < sizeLine → ∃ ρe, lcGo [1] (setS 1) mYes (mCall absC [mPk 1]) (ns.map PyData.int) acc [.un, s] = some (.ok (acc ++ absN ns) ρe)
  | [], acc, s, _ => ⟨_, by simp [absN]; rfl⟩
  | n :: ns, acc, s, h => by
    rw [List.length_cons] at h
    have h2 : acc.length < sizeLine := by omega
    obtain ⟨ρe, ih⟩ := bag_go ns (acc ++ [.int (absI n)]) (.dat (.int n)) (by rw [List.length_append, List.length_singleton]; omega)
    refine ⟨ρe, ?_⟩
    rw [List.append_assoc] at ih
    rw [show absN (n :: ns) = [.int (absI n)] ++ absN ns from rfl]
    have e : lcGo [1] (setS 1) mYes (mCall absC [mPk 1]) ((n :: ns).map PyData.int) acc [.un, s] = (if acc.length < sizeLine then lcGo [1] (setS 1) mYes (mCall absC [mPk 1]) (ns.map PyData.int) (acc ++ [.int (absI n)]) else fun _ => none) [.un, .dat (.int n)] := rfl
    rw [e, if_pos h2]
    exact ih
section
variable {K : PySem.W.Frag} {H : Hp} {vs : List V} {Q : VK} {E : XK} {N : List Str}
theorem cut63 {ns : List Int} (h : ns.length ≤ 63) : cutV (ns.map V.int) none (some 63) = ns.map V.int := by
  unfold cutV
  rw [HT.sIx_none, show HT.sIx (ns.map V.int).length (ns.map V.int).length (some 63) = min 63 (ns.map V.int).length from HT.sIx_nat _ _ 63, List.length_map, List.drop_zero]
  exact List.take_of_length_le (by rw [List.length_map]; omega)
theorem bag_read (hN : N.length = 2) (h : spBag K vs H Q E) : tBag K { nx := fun _ H' => Q .non H', rt := Q } (L2.start N vs) H := by
  obtain ⟨a, ns, rfl, hS, hl, tb, q⟩ := h
  have es : L2.start N [V.ref a] = [some (.ref a), none] := by
    unfold L2.start
    rw [hN]
    rfl
  rw [es]
  refine ⟨.ref a, rfl, 63, rfl, a, ns.map V.int, rfl, hS, fun c nc => ⟨c, rfl, ⟨_, .inl (.inl upd_same)⟩, ?_⟩⟩
  have e63 := cut63 hl
  obtain ⟨ρe, go⟩ := bag_go ns [] .un (by rw [List.length_nil, sizeLine_eq]; omega)
  rw [List.nil_append] at go
  let H1 := upd H c (.lst (cutV (ns.map V.int) none (some 63)))
  have tb1 : TbOk TbA H1 := tb.same (Same.upd nc)
  have R1 : SRel K TbA TbA H1 [some (.ref a), none] [.un, .un] := by
    refine ⟨rfl, fun _ z => z, fun _ z => tb1.tr z, fun i x s h1 h2 => ?_, fun i j b d e n e1 _ _ _ => ?_, tb1⟩
    · match i, h2 with
      | 0, h2 => cases h2; trivial
      | 1, h2 => cases h2; trivial
    · match i, e1 with
      | 0, e1 => cases e1
      | 1, e1 => cases e1
  have J : Src K (Itl K c) TbA (fun _ => True) H1 (ns.map PyData.int) := src_list (tb1.not upd_same plain_lst) (.inl upd_same) (by rw [e63]; exact ints_rxl ns)
  let Qn : VK := fun x H2 => [V.int 0, .int 1234567891, .int 0, x].length ≤ sizeLine ∧ ∀ p2, H2 p2 = none → Q (.ref p2) (upd H2 p2 (.lst [.int 0, .int 1234567891, .int 0, x]))
  show lcTurn K (setS 1) mYes (mCall absC [mPk 1]) [1] [1] [some (.ref a), none] Qn (Itl K c) H1
  refine lc_from (vs := [1]) (is := [1]) (hs := rfl) R1 J rfl go fun H' k R' p Rp np op => ?_
  -- the row itself
  refine ⟨show 4 ≤ sizeLine by decide, fun p2 n2 => q _ p2 (R'.tb.same (Same.upd n2)) ⟨_, upd_same, ?_⟩⟩
  have old : Rx K (fun b => b = p2 ∨ TbA b) H' (.ref p) (.list (absN ns)) := by
    obtain ⟨xs, ex, lx⟩ := op
    have np2 : p ≠ p2 := fun z => by rw [← z, ex] at n2; cases n2
    refine .lst (fun z => z.elim np2 (R'.tb.not ex plain_lst)) (.inl ex) ?_
    exact RxL.go (fun _ _ e _ => e) (fun b o e z => z.elim (fun z => by subst z; rw [n2] at e; cases e) .inl) _ _ lx
  exact .cons (.int _) (.cons (.int _) (.cons (.int _) (.cons (old.same (Same.upd n2)) .nil)))

/-! ### the law -/
def spTop (K : PySem.W.Frag) (n : Nat) (m : MS) : Sp := fun vs H Q _ => ∃ a ns, vs = [.ref a] ∧ SqL K H a (ns.map V.int) ∧ ns.length ≤ 63 ∧ TbOk TbA H ∧ (∃ ρ', m (.un :: .own (bagT ns) :: List.replicate n .un) = some (.ok (.rt (.bool true)) ρ')) ∧ ∀ H', Q (.bl true) H'
abbrev tTop (K : PySem.W.Frag) (m : MS) : TS := tSeq (tAsg (fun σ H Q => tCons (L2.tVar 0) L2.tNil σ H fun vs H1 => spBag K vs H1 Q E0) (gName 1)) (tS false [] K WF m)
theorem top_read {n : Nat} {m : MS} (hN : N.length = n + 2) (h : spTop K n m vs H Q E) : tTop K m { nx := fun _ H' => Q .non H', rt := Q } (L2.start N vs) H := by
  obtain ⟨a, ns, rfl, hS, hl, tb, ⟨ρ', hm⟩, q⟩ := h
  have es : L2.start N [V.ref a] = some (.ref a) :: none :: List.replicate n none := by
    unfold L2.start
    rw [hN]
    rfl
  rw [es]
  refine ⟨.ref a, rfl, a, ns, rfl, hS, hl, tb, fun H' p tb' o => ?_⟩
  refine ⟨fun b => b = p ∨ TbA b, fun b => b = p ∨ TbA b, .un :: .own (bagT ns) :: List.replicate n .un, ?_, ?_⟩
  · have own : ∀ (i : Nat) (d : D), (Slot.un :: .own (bagT ns) :: List.replicate n .un)[i]? = some (.own d) → i = 1 := fun i d e => by
      match i, e with
      | 0, e => cases e
      | 1, e => rfl
      | i + 2, e =>
        rw [List.getElem?_cons_succ, List.getElem?_cons_succ, List.getElem?_replicate] at e
        split at e <;> cases e
    obtain ⟨ob, eo⟩ := o.some
    refine ⟨by simp, fun _ z => z, fun b z => z.elim (fun z => ⟨ob, by rw [z]; exact eo⟩) fun z => tb'.tr z, fun i x s h1 h2 => ?_, fun i j b d e n e1 e2 _ _ => absurd ((own i d e1).trans (own j e e2).symm) n, tb'.more fun _ z => .inr z⟩
    match i, h1, h2 with
    | 0, h1, h2 => cases h2; trivial
    | 1, h1, h2 =>
      cases h2
      cases h1
      exact ⟨p, rfl, .inl rfl, o⟩
    | i + 2, h1, h2 =>
      rw [List.getElem?_cons_succ, List.getElem?_cons_succ, List.getElem?_replicate] at h2
      split at h2
      · cases h2; trivial
      · cases h2
  · rw [hm]
    intro W' O' σ' H2 s R' f v rv
    cases (show Rx K W' H2 v (.bool true) from rv)
    exact q H2
end
end CF
end
section
/-! CF, part v: displays of dicts; the text's defs. -/
namespace CF
open PySem PySem.Spec PyProof.Rows L2
variable [Tb]
section
variable {X : Cx} {Ew : WX} {pos : Pos}
theorem fDct0 : PE X (.Dict [] [] pos) (tF X.K Ew (mC (.dict []))) :=
  PE.imp pe_dnewK fun σ H Q ⟨W, O, ρ, R, h⟩ p n => by
    have s : Same H (upd H p (.dK [])) := Same.upd n
    obtain ⟨g1, g2, g3, g4⟩ := fresh_end KeepO.refl R s n (r := .dict []) ⟨_, upd_same, .nil⟩
    exact h _ g3 g4 p g1 g2 ⟨_, upd_same, .nil⟩
end
/-- a def of the text under its name -/
structure DefG (K : PySem.W.Frag) (mg : Str → Option Value) (x : Str) (st : Stmt) (ps : List Str) : Prop where
  ex : ∃ (f : Addr) (fd : FuncData), Fun K x x st f fd ∧ mg x = some (.ref f) ∧ Binds K fd ps []
section
variable {P : Program} {w : World} {K : PySem.W.Frag} {mg : Str → Option Value} {base : Heap} {k nl : Nat} {x : Str} {st : Stmt} {ps N : List Str} {fr : Bool} {F : List Nat} {m : MS}
theorem DefG.cal (nl : Nat) (D : DefG K mg x st ps) (S : FnScope N ps (defScope st)) (hF : (F.all fun i => decide (i < ps.length)) = true) (hN : N.length = ps.length + nl)
    (hb : ∀ (f : Addr) (cdv : Value) (A : Around) (outer : List Env) (s : Shared) (H : Hp) (E : XK), Room k (A.deeper (envOfC x (defScope st) s.heap.objs.size f cdv)) → A.guards = some [] →
      PSs (cxOf CX0 P w K mg base N x (defScope st) f cdv A outer s H E).nox (defBody st) (tS fr F K WF m)) : CalG P w K mg base (k + 1) x fr F (runF fr ps.length nl F m) := by
  obtain ⟨f, fd, Fn, hm, hb'⟩ := D.ex
  exact ⟨f, fd, ps, gDef nl Fn S hF hN (hb f), hm, Fn.kp, hb'⟩
theorem CalG.up {j k : Nat} {g : FM} (C : CalG P w K mg base j x fr F g) (h : j ≤ k) : CalG P w K mg base k x fr F g := by
  obtain ⟨f, fd, ps, Fn, a, b, c⟩ := C.ex
  exact ⟨f, fd, ps, Fn.up h, a, b, c⟩
/-- a run that is never come to -/
def fm0 : FM := fun _ => none
theorem DefG.cal0 (D : DefG K mg x st ps) : CalG P w K mg base k x fr F fm0 := by
  obtain ⟨f, fd, Fn, hm, hb'⟩ := D.ex
  exact ⟨f, fd, ps, ⟨fun vs H Q E ⟨W, O, qs, R, h⟩ => h.elim, fun _ _ _ _ _ ⟨W, O, qs, R, h⟩ => h.elim⟩, hm, Fn.kp, hb'⟩
theorem defG_mk {h : Heap} {f : Addr} {oc : Value} {od an : Option Addr} {osl : Array (Option Value)} {kV doc pm cdv ct : Value} (X : K.In h) (G : h.Ns mainGlobals mg) (a : PySem.W.nsIn K mainGlobals x = some (some (.ref f)))
    (l : K.lookup f = some ⟨oc, od, .func (PySem.W.fnOf x x (defArgs st) (defBody st) (defScope st) .none kV doc pm an cdv ct), osl⟩) (c : PySem.W.codeIn K cdv x = true) (k : PySem.W.keepIn K (.ref f) = true)
    (b : ∀ (kV doc pm : Value) (an : Option Addr) (cdv ct : Value) (us : List Value), us.length = ps.length → bindArgs (PySem.W.fnOf x x (defArgs st) (defBody st) (defScope st) .none kV doc pm an cdv ct) ⟨us, []⟩ = pure (ps.zip us)) : DefG K mg x st ps :=
  ⟨f, _, fun_mk l c k, PySem.W.mg_of X G a, (fun_mk l c k).binds b⟩
/-- the bag's def -/
structure BagG (P : Program) (w : World) (K : PySem.W.Frag) (mg : Str → Option Value) (base : Heap) (k : Nat) (x : Str) : Prop where
  ex : ∃ (f : Addr) (fd : FuncData) (ps : List Str), FnG P w K mg base CX0 k f fd ps (spBag K) ∧ mg x = some (.ref f) ∧ PySem.W.keepIn K (.ref f) = true ∧ Binds K fd ps []
theorem DefG.bag (D : DefG K mg x st ps) (S : FnScope N ps (defScope st)) (hp : ps.length = 1) (hN : N.length = 2)
    (hb : ∀ (f : Addr) (cdv : Value) (A : Around) (outer : List Env) (s : Shared) (H : Hp) (E : XK), PSs (cxOf CX0 P w K mg base N x (defScope st) f cdv A outer s H E).nox (defBody st) (tBag K)) : BagG P w K mg base (k + 1) x := by
  obtain ⟨f, fd, Fn, hm, hb'⟩ := D.ex
  refine ⟨f, fd, ps, FnG.of Fn S (fun vs H Q E h => ?_) fun cdv A outer s H vs Q E hr hg h => ⟨_, (hb f cdv A outer s H E).nox, bag_read hN h⟩, hm, Fn.kp, hb'⟩
  obtain ⟨a, ns, rfl, _⟩ := h
  rw [hp]; rfl
/-- the law's def -/
theorem DefG.law {n : Nat} (D : DefG K mg x st ps) (S : FnScope N ps (defScope st)) (hp : ps.length = 1) (hN : N.length = n + 2)
    (hb : ∀ (f : Addr) (cdv : Value) (A : Around) (outer : List Env) (s : Shared) (H : Hp) (E : XK), Room k (A.deeper (envOfC x (defScope st) s.heap.objs.size f cdv)) → A.guards = some [] →
      PSs (cxOf CX0 P w K mg base N x (defScope st) f cdv A outer s H E).nox (defBody st) (tTop K m)) : ∃ f fd, mg x = some (.ref f) ∧ Fun K x x st f fd ∧ FnG P w K mg base CX0 (k + 1) f fd ps (spTop K n m) := by
  obtain ⟨f, fd, Fn, hm, hb'⟩ := D.ex
  refine ⟨f, fd, hm, Fn, FnG.of Fn S (fun vs H Q E h => ?_) fun cdv A outer s H vs Q E hr hg h => ⟨_, (hb f cdv A outer s H E hr hg).nox, top_read hN h⟩⟩
  obtain ⟨a, ns, rfl, _⟩ := h
  rw [hp]; rfl
end
section
variable {X : Cx} {k j : Nat} {x y : Str} {p p2 p3 pos : Pos} {m : MS} {rest : List Stmt} {e : Expr}
/-- bag = _law_bag(script) -/
theorem sTop (C : BagG X.prog X.w X.K X.mg X.base j x) (hr : Room k X.A) (hj : j ≤ k) (hgd : X.A.guards = some []) (hN : X.N.Nodup) (he : PE X e (L2.tVar 0)) (hs : PSs X rest (tS false [] X.K WF m)) (hi : X.N[1]? = some y := by rfl) (hx : Loc X.env.scope y := by first | exact Or.inl rfl | exact Or.inr rfl)
    (hw : swapsWith (.Call (.Name x p2) [e] [] p3) (some (.Name y p)) pos.line X.env = pure false := by rfl) (hf : X.fn y = true ∨ X.env.scope.names.lookup y = some .local := by first | exact .inl rfl | exact .inr rfl) (hg : Gl X x := by rfl) (hdb : (x == ("__debug__" : Str)) = false := by decide)
    (h1 : starEach [e] X.env = (false, eval e X.env) :: starEach [] X.env := by rfl) (hpl : (backTo p3 (starEach [] X.env)).any (·.1) = false := by rfl) :
    PSs X (.Assign [.Name y p] (.Call (.Name x p2) [e] [] p3) pos :: rest) (tTop X.K m) := by
  obtain ⟨f, fd, ps, Fn, hm, hk, hb⟩ := C.ex
  exact pss_cons (ps_set hN hi hx ((Fn.up hj).pe (E := E0) hr hgd hm hk hb pass0 (pa_cons he pa_nil h1) hg hdb h1 hpl) hw hf) hs
end
end CF
end
section
/-! CF, part v2: an own list or dict that is looked at as a tree for one test's time. -/
namespace CF
open PySem PySem.Spec PyProof.Rows L2
variable [Tb]
def tmpS (i : Nat) (ds : List D) (ρ : List Slot) : List Slot := (ρ.map fun s => if isOwn s = true then .un else s).set i (.dat (.list ds))
def tmpE (i : Nat) (es : List (D × D)) (ρ : List Slot) : List Slot := (ρ.map fun s => if isOwn s = true then .un else s).set i (.dat (.dict es))
def mTmp (i : Nat) (t : M Bool) : M Bool := fun ρ => match ρ[i]? with
  | some (.own (.list ds)) => match t (tmpS i ds ρ) with
    | some (.ok c _) => some (.ok c ρ)
    | _ => none
  | some (.own (.dict es)) => match t (tmpE i es ρ) with
    | some (.ok c _) => some (.ok c ρ)
    | _ => none
  | _ => none
section
variable {K : PySem.W.Frag} {W O : Addr → Prop} {H : Hp} {σ : L2.St} {ρ : List Slot} {i : Nat} {ds : List D}
theorem tmp_at {j : Nat} {s : Slot} (h : (tmpS i ds ρ)[j]? = some s) : (j = i ∧ s = .dat (.list ds)) ∨ (j ≠ i ∧ ∃ t, ρ[j]? = some t ∧ s = if isOwn t = true then .un else t) := by
  unfold tmpS at h
  by_cases q : j = i
  · subst q
    rw [List.getElem?_set] at h
    simp only [if_true] at h
    split at h
    · cases h; exact .inl ⟨rfl, rfl⟩
    · cases h
  · rw [List.getElem?_set_ne (Ne.symm q), List.getElem?_map] at h
    obtain ⟨t, h1, h2⟩ := Option.map_eq_some_iff.mp h
    exact .inr ⟨q, t, h1, h2.symm⟩
theorem tmp_in {a : Addr} {xs : List V} (R : SRel K W O H σ ρ) (ei : ρ[i]? = some (.own (.list ds))) (ea : σ[i]? = some (some (.ref a))) (eh : H a = some (.lst xs)) (l : RxL K W H xs ds) : SRel K (fun b => W b ∧ b ≠ a) TbA H σ (tmpS i ds ρ) := by
  have no : ∀ (j : Nat) (c : D), (tmpS i ds ρ)[j]? ≠ some (.own c) := fun j c h => by
    rcases tmp_at h with ⟨_, z⟩ | ⟨_, t, _, z⟩
    · cases z
    · split at z
      · cases z
      · rename_i hn
        rw [← z] at hn
        exact hn rfl
  refine ⟨by unfold tmpS; rw [List.length_set, List.length_map, R.len], fun b z => ⟨R.ow b (R.tb.sub z), fun q => R.tb.not eh plain_lst (q ▸ z)⟩, fun b z => R.tr b z.1, fun j x s h1 h2 => ?_, fun j k b d e n e1 _ _ _ => absurd e1 (no j d), R.tb.to⟩
  rcases tmp_at h2 with ⟨rfl, rfl⟩ | ⟨q, t, ht, rfl⟩
  · rw [ea] at h1
    cases h1
    exact ⟨_, rfl, .lst (fun z => z.2 rfl) (.inl eh) (RxL.go (fun _ _ e _ => e) (fun b o e z => z.1) _ _ l)⟩
  · have r := R.sl j x t h1 ht
    cases t with
    | un => trivial
    | own d => trivial
    | ob d => trivial
    | dat d => obtain ⟨v, ev, rv⟩ := r; exact ⟨v, ev, rv.less fun b z => z.1⟩
theorem tmp_out {a : Addr} {xs : List V} {H' : Hp} (R : SRel K W O H σ ρ) (oa : O a) (eh : H a = some (.lst xs)) (k : KeepO (fun b => W b ∧ b ≠ a) TbA H H') (t' : TbOk TbA H') : KeepO W O H H' ∧ SRel K W O H' σ ρ := by
  have same : ∀ b o, W b → ¬ TbA b → H b = some o → H' b = some o := fun b o w nt e => by
    by_cases q : b = a
    · subst q
      rw [eh] at e
      cases e
      exact k.lst b xs eh fun z => z.2 rfl
    · exact k.own b o e ⟨w, q⟩ nt
  refine ⟨⟨fun b o e w n => same b o w (fun z => n (R.tb.sub z)) e, fun b u e n => k.rest b u e fun z => n z.1, fun b o u e n => k.frz b o u e fun z => n z.1, fun b xs e n => k.lst b xs e fun z => n z.1⟩, R.len, R.ow, fun b w => ?_, fun j x s h1 h2 => ?_, R.ne, t'.but fun _ z => R.tb.sub z⟩
  · obtain ⟨o, e⟩ := R.tr b w
    by_cases z : TbA b
    · exact t'.tr z
    · exact ⟨o, same b o w z e⟩
  · have r := R.sl j x s h1 h2
    cases s with
    | un => trivial
    | dat d => obtain ⟨v, ev, rv⟩ := r; exact ⟨v, ev, Rx.go (fun b u e n => k.rest b u e fun z => n z.1) (fun _ _ _ z => z) d v rv⟩
    | own d =>
      obtain ⟨b, ev, ob, rb⟩ := r
      obtain ⟨u, hu, pu⟩ := rb.plain
      exact ⟨b, ev, ob, rb.go (fun b u e n => k.rest b u e fun z => n z.1) (fun _ _ _ z => z) fun o e => same b o (R.ow b ob) (R.tb.not hu pu) e⟩
    | ob d =>
      obtain ⟨b, ev, ob, rb⟩ := r
      obtain ⟨f, hf⟩ := rb.ext
      exact ⟨b, ev, ob, rb.go (fun b u e n => k.rest b u e fun z => n z.1) (fun _ _ _ z => z) fun o e => same b o (R.ow b ob) (R.tb.notE hf) e⟩
end
/-- the test runs while the thing at d is locked -/
def tLockT (t : TT) : TT := fun σ H Q => ∃ d u, H d = some u ∧ Mut (some u) ∧ ∀ od, t σ (upd H d (.frz od u)) fun v H' => H' d = some (.frz od u) ∧ Q v (upd H' d u)
theorem pt_lock {X : Cx} {e : Expr} {t : TT} (h : PT X e t) : PT X e (tLockT t) := by
  refine ⟨fun pins s σ H Q I hw => ?_⟩
  obtain ⟨d, u, hd, mu, hw⟩ := hw
  obtain ⟨od, I1⟩ := I.lock hd mu
  refine thn (h.run pins s σ _ _ I1 (hw od)) fun v s1 ⟨H1, I2, e2, q⟩ => ?_
  exact ⟨_, I2.unlock e2 (I.nofrz hd mu), q⟩
section
variable {K : PySem.W.Frag} {W O : Addr → Prop} {H : Hp} {σ : L2.St} {ρ : List Slot} {i : Nat} {es : List (D × D)}
theorem tmpE_at {j : Nat} {s : Slot} (h : (tmpE i es ρ)[j]? = some s) : (j = i ∧ s = .dat (.dict es)) ∨ (j ≠ i ∧ ∃ t, ρ[j]? = some t ∧ s = if isOwn t = true then .un else t) := by
  unfold tmpE at h
  by_cases q : j = i
  · subst q
    rw [List.getElem?_set] at h
    simp only [if_true] at h
    split at h
    · cases h; exact .inl ⟨rfl, rfl⟩
    · cases h
  · rw [List.getElem?_set_ne (Ne.symm q), List.getElem?_map] at h
    obtain ⟨t, h1, h2⟩ := Option.map_eq_some_iff.mp h
    exact .inr ⟨q, t, h1, h2.symm⟩
theorem rd_ups {H : Hp} {a b : Addr} {o u : HO} (n : b ≠ a) (h : L2.Rd H b u) : L2.Rd (upd H a o) b u := by
  rcases h with h | ⟨o', h⟩
  · exact .inl (by rw [upd_ne n]; exact h)
  · exact .inr ⟨o', by rw [upd_ne n]; exact h⟩
theorem tmpE_in {a : Addr} {od : Obj} {kvs : List (Key × V)} (R : SRel K W O H σ ρ) (oa : O a) (ea : σ[i]? = some (some (.ref a))) (eh : H a = some (.dK kvs)) (l : RxK K W H kvs es) :
    SRel K (fun b => W b ∧ b ≠ a) TbA (upd H a (.frz od (.dK kvs))) σ (tmpE i es ρ) := by
  have wa : W a := R.ow a oa
  have ne : ∀ b, ¬ W b → b ≠ a := fun b n z => n (z ▸ wa)
  have no : ∀ (j : Nat) (c : D), (tmpE i es ρ)[j]? ≠ some (.own c) := fun j c h => by
    rcases tmpE_at h with ⟨_, z⟩ | ⟨_, t, _, z⟩
    · cases z
    · split at z
      · cases z
      · rename_i hn
        rw [← z] at hn
        exact hn rfl
  refine ⟨by unfold tmpE; rw [List.length_set, List.length_map, R.len], fun b z => ⟨R.ow b (R.tb.sub z), fun q => R.tb.not eh plain_dK (q ▸ z)⟩, fun b z => ?_, fun j x s h1 h2 => ?_, fun j k b d e n e1 _ _ _ => absurd e1 (no j d), (R.tb.upd eh plain_dK).to⟩
  · obtain ⟨o, e⟩ := R.tr b z.1
    exact ⟨o, by rw [upd_ne z.2]; exact e⟩
  · rcases tmpE_at h2 with ⟨rfl, rfl⟩ | ⟨q, t, ht, rfl⟩
    · rw [ea] at h1
      cases h1
      exact ⟨_, rfl, .dic (fun z => z.2 rfl) (.inr ⟨od, upd_same⟩) (RxK.go (fun b u e n => rd_ups (ne b n) e) (fun b o e z => z.1) _ _ l)⟩
    · have r := R.sl j x t h1 ht
      cases t with
      | un => trivial
      | own d => trivial
      | ob d => trivial
      | dat d => obtain ⟨v, ev, rv⟩ := r; exact ⟨v, ev, Rx.go (fun b u e n => rd_ups (ne b n) e) (fun b o e z => z.1) _ _ rv⟩
theorem tmpE_out {a : Addr} {od : Obj} {kvs : List (Key × V)} {H2 : Hp} (R : SRel K W O H σ ρ) (oa : O a) (eh : H a = some (.dK kvs)) (k : KeepO (fun b => W b ∧ b ≠ a) TbA (upd H a (.frz od (.dK kvs))) H2) (t' : TbOk TbA H2) :
    H2 a = some (.frz od (.dK kvs)) ∧ KeepO W O H (upd H2 a (.dK kvs)) ∧ SRel K W O (upd H2 a (.dK kvs)) σ ρ := by
  have wa : W a := R.ow a oa
  have ne : ∀ b, ¬ W b → b ≠ a := fun b n z => n (z ▸ wa)
  have same : ∀ b o, W b → ¬ TbA b → H b = some o → upd H2 a (.dK kvs) b = some o := fun b o w nt e => by
    by_cases q : b = a
    · subst q
      rw [eh] at e
      cases e
      exact upd_same
    · rw [upd_ne q]
      exact k.own b o (by rw [upd_ne q]; exact e) ⟨w, q⟩ nt
  have rest : ∀ b u, L2.Rd H b u → ¬ W b → L2.Rd (upd H2 a (.dK kvs)) b u := fun b u e n => rd_ups (ne b n) (k.rest b u (rd_ups (ne b n) e) fun z => n z.1)
  have ef := k.frz a _ _ upd_same fun z => z.2 rfl
  have t2 : TbOk TbA (upd H2 a (.dK kvs)) := t'.upd ef plain_frz
  refine ⟨ef, ⟨fun b o e w n => same b o w (fun z => n (R.tb.sub z)) e, rest, fun b o u e n => ?_, fun b xs e n => ?_⟩, R.len, R.ow, fun b w => ?_, fun j x s h1 h2 => ?_, R.ne, t2.but fun _ z => R.tb.sub z⟩
  · rw [upd_ne (ne b n)]
    exact k.frz b o u (by rw [upd_ne (ne b n)]; exact e) fun z => n z.1
  · rw [upd_ne (ne b n)]
    exact k.lst b xs (by rw [upd_ne (ne b n)]; exact e) fun z => n z.1
  · obtain ⟨o, e⟩ := R.tr b w
    by_cases z : TbA b
    · exact t2.tr z
    · exact ⟨o, same b o w z e⟩
  · have r := R.sl j x s h1 h2
    cases s with
    | un => trivial
    | dat d => obtain ⟨v, ev, rv⟩ := r; exact ⟨v, ev, Rx.go rest (fun _ _ _ z => z) d v rv⟩
    | own d =>
      obtain ⟨b, ev, ob, rb⟩ := r
      obtain ⟨u, hu, pu⟩ := rb.plain
      exact ⟨b, ev, ob, rb.go rest (fun _ _ _ z => z) fun o e => same b o (R.ow b ob) (R.tb.not hu pu) e⟩
    | ob d =>
      obtain ⟨b, ev, ob, rb⟩ := r
      obtain ⟨f, hf⟩ := rb.ext
      exact ⟨b, ev, ob, rb.go rest (fun _ _ _ z => z) fun o e => same b o (R.ow b ob) (R.tb.notE hf) e⟩
end
/-- either of two roads -/
theorem pt_or {X : Cx} {e : Expr} {t t' : TT} (h : PT X e t) (h' : PT X e t') : PT X e (fun σ H Q => t σ H Q ∨ t' σ H Q) :=
  ⟨fun pins s σ H Q I hw => hw.elim (h.run pins s σ H Q I) (h'.run pins s σ H Q I)⟩
theorem qTmp (i : Nat) {X : Cx} {e : Expr} {mt : M Bool} (h : PT X e (tT X.K WF mt)) : PT X e (tT X.K WF (mTmp i mt)) := by
  refine PT.imp (pt_or h (pt_lock h)) fun σ H Q ⟨W, O, ρ, R, h⟩ => ?_
  unfold mTmp at h
  split at h
  · rename_i ds ei
    refine .inl ?_
    obtain ⟨a, ea, oa, xs, eh, l⟩ := R.own ei
    refine ⟨_, _, _, tmp_in R ei ea eh l, ?_⟩
    generalize hr : mt (tmpS i ds ρ) = r at h
    match r, h with
    | some (.ok c ρ'), h =>
      intro H' k R'
      obtain ⟨k2, R2⟩ := tmp_out R oa eh k R'.tb
      exact h H' k2 R2
    | some (.ex _ _), h => exact h.elim
    | none, h => exact h.elim
  · rename_i es ei
    refine .inr ?_
    obtain ⟨a, ea, oa, kvs, eh, l⟩ := R.own ei
    refine ⟨a, _, eh, trivial, fun od => ⟨_, _, _, tmpE_in R oa ea eh l, ?_⟩⟩
    generalize hr : mt (tmpE i es ρ) = r at h
    match r, h with
    | some (.ok c ρ'), h =>
      intro H' k R'
      obtain ⟨k1, k2, R2⟩ := tmpE_out R oa eh k R'.tb
      exact ⟨k1, h _ k2 R2⟩
    | some (.ex _ _), h => exact h.elim
    | none, h => exact h.elim
  · exact h.elim
end CF
end
section
/-! CF, part w: plain laws of the mirrors. wp m ρ Q: m runs from ρ to a value, and Q holds there. -/
namespace CF
open PySem

def wp {α : Type} (m : M α) (ρ : List Slot) (Q : α → List Slot → Prop) : Prop := ∃ a ρ', m ρ = some (.ok a ρ') ∧ Q a ρ'
def lv : LV → List Slot → Option D
  | .dat d, _ => some d
  | .slot i, ρ => match ρ[i]? with
    | some (.dat d) => some d
    | some (.own d) => some d
    | _ => none
/-- the slot's content -/
def sv : Option Slot → Option D
  | some (.dat d) => some d
  | some (.own d) => some d
  | _ => none
section
variable {α β : Type} {m : M α} {ρ : List Slot} {Q Q' : α → List Slot → Prop}
theorem wp.mono (h : wp m ρ Q) (f : ∀ a ρ', Q a ρ' → Q' a ρ') : wp m ρ Q' := let ⟨a, ρ', e, q⟩ := h; ⟨a, ρ', e, f a ρ' q⟩
theorem wp.run (h : wp m ρ Q) : ∃ a ρ', m ρ = some (.ok a ρ') ∧ Q a ρ' := h
theorem wp_iff (f : List Slot → Option (R α)) {a : α} {ρ' : List Slot} (e : f ρ = some (.ok a ρ')) : wp f ρ Q ↔ Q a ρ' :=
  ⟨fun ⟨b, ρ2, e2, q⟩ => by rw [e] at e2; cases e2; exact q, fun q => ⟨a, ρ', e, q⟩⟩
@[simp] theorem wp_pure {a : α} : wp (pure a) ρ Q ↔ Q a ρ := wp_iff _ rfl
@[simp] theorem wp_some {f : List Slot → List Slot} {a : α} : wp (fun ρ => some (.ok a (f ρ))) ρ Q ↔ Q a (f ρ) := wp_iff _ rfl
@[simp] theorem wp_bind {f : α → M β} {Q : β → List Slot → Prop} : wp (m >>= f) ρ Q ↔ wp m ρ fun a ρ1 => wp (f a) ρ1 Q := by
  constructor
  · rintro ⟨b, ρ2, e, q⟩
    obtain ⟨a, ρ1, e1, e2⟩ := ok_bind e
    exact ⟨a, ρ1, e1, b, ρ2, e2, q⟩
  · rintro ⟨a, ρ1, e1, b, ρ2, e2, q⟩
    refine ⟨b, ρ2, ?_, q⟩
    show M.bind m f ρ = _
    unfold M.bind
    rw [e1]
    exact e2
@[simp] theorem wp_lift {o : Option α} : wp (lift o) ρ Q ↔ ∃ a, o = some a ∧ Q a ρ := by
  constructor
  · rintro ⟨b, ρ2, e, q⟩
    cases o with
    | none => cases e
    | some a => cases e; exact ⟨_, rfl, q⟩
  · rintro ⟨a, rfl, q⟩
    exact ⟨a, ρ, rfl, q⟩
end
section
variable {ρ : List Slot} {Q : D → List Slot → Prop} {QL : LV → List Slot → Prop} {QT : Bool → List Slot → Prop}
@[simp] theorem lv_dat {d : D} : lv (.dat d) ρ = some d := rfl
@[simp] theorem lv_slot {i : Nat} : lv (.slot i) ρ = sv ρ[i]? := by unfold lv sv; rfl
@[simp] theorem sv_dat {d : D} : sv (some (.dat d)) = some d := rfl
@[simp] theorem sv_own {d : D} : sv (some (.own d)) = some d := rfl
@[simp] theorem wp_var {i : Nat} : wp (mVar i) ρ Q ↔ ∃ d, ρ[i]? = some (.dat d) ∧ Q d ρ := by
  constructor
  · rintro ⟨a, ρ', e, q⟩
    unfold mVar at e
    split at e
    · rename_i d h
      cases e
      exact ⟨_, h, q⟩
    · cases e
  · rintro ⟨d, h, q⟩
    exact ⟨d, ρ, by unfold mVar; rw [h], q⟩
@[simp] theorem wp_pk {i : Nat} : wp (mPk i) ρ QL ↔ (sv ρ[i]?).isSome = true ∧ QL (.slot i) ρ := by
  constructor
  · rintro ⟨a, ρ', e, q⟩
    unfold mPk at e
    split at e
    · rename_i d h
      cases e
      rw [h]
      exact ⟨rfl, q⟩
    · rename_i d h
      cases e
      rw [h]
      exact ⟨rfl, q⟩
    · cases e
  · rintro ⟨h, q⟩
    refine ⟨.slot i, ρ, ?_, q⟩
    unfold mPk
    cases e : ρ[i]? with
    | none => rw [e] at h; cases h
    | some s =>
      cases s with
      | un => rw [e] at h; cases h
      | dat d => rfl
      | own d => rfl
      | ob d => rw [e] at h; cases h
@[simp] theorem wp_get {x : LV} : wp x.get ρ Q ↔ ∃ d, lv x ρ = some d ∧ Q d ρ := by
  cases x with
  | dat d =>
    show wp (pure d) ρ Q ↔ _
    simp
  | slot i =>
    constructor
    · rintro ⟨a, ρ', e, q⟩
      unfold LV.get at e
      simp only at e
      split at e
      · rename_i d h
        cases e
        exact ⟨_, by rw [lv_slot, h]; rfl, q⟩
      · rename_i d h
        cases e
        exact ⟨_, by rw [lv_slot, h]; rfl, q⟩
      · cases e
    · rintro ⟨d, h, q⟩
      refine ⟨d, ρ, ?_, q⟩
      rw [lv_slot] at h
      unfold LV.get
      cases e : ρ[i]? with
      | none => rw [e] at h; cases h
      | some s =>
        rw [e] at h
        cases s with
        | un => cases h
        | dat d' => cases h; simp only [e]
        | own d' => cases h; simp only [e]
        | ob d' => cases h
@[simp] theorem mLs_nil : mLs [] = pure [] := rfl
@[simp] theorem mLs_cons {a : M LV} {as : List (M LV)} : mLs (a :: as) = (do let x ← a; let xs ← mLs as; pure (x :: xs)) := rfl
@[simp] theorem getAll_nil : getAll [] = pure [] := rfl
@[simp] theorem getAll_cons {a : LV} {as : List LV} : getAll (a :: as) = (do let x ← a.get; let xs ← getAll as; pure (x :: xs)) := rfl
@[simp] theorem mDs_nil : mDs [] = pure [] := rfl
@[simp] theorem mDs_cons {a : M D} {as : List (M D)} : mDs (a :: as) = (do let x ← a; let xs ← mDs as; pure (x :: xs)) := rfl
@[simp] theorem wp_if {α : Type} {c : Bool} {a b : M α} {Q : α → List Slot → Prop} : wp (if c = true then a else b) ρ Q ↔ if c = true then wp a ρ Q else wp b ρ Q := by cases c <;> simp
@[simp] theorem wp_mIf {t : M Bool} {a b : M D} : wp (mIf t a b) ρ Q ↔ wp t ρ fun c ρ1 => if c = true then wp a ρ1 Q else wp b ρ1 Q := by
  unfold mIf
  rw [wp_bind]
  constructor
  · exact fun h => h.mono fun c ρ1 q => by simpa using q
  · exact fun h => h.mono fun c ρ1 q => by simpa using q
end
section
variable {ρ : List Slot} {Q : RS → List Slot → Prop} {m : M D} {a b : MS} {i : Nat}
theorem wp_put {s : Slot} : wp (fun ρ => some (.ok .nx (ρ.set i s))) ρ Q ↔ Q .nx (ρ.set i s) := wp_iff _ rfl
@[simp] theorem wp_nx : wp mNx ρ Q ↔ Q .nx ρ := wp_iff _ rfl
@[simp] theorem wp_bk : wp mBk ρ Q ↔ Q .bk ρ := wp_iff _ rfl
@[simp] theorem wp_ct : wp mCt ρ Q ↔ Q .ct ρ := wp_iff _ rfl
/-- behind a statement -/
def thnS (b : MS) (Q : RS → List Slot → Prop) : RS → List Slot → Prop
  | .nx, ρ => wp b ρ Q
  | .bk, ρ => Q .bk ρ
  | .ct, ρ => Q .ct ρ
  | .rt d, ρ => Q (.rt d) ρ
@[simp] theorem thnS_nx : thnS b Q .nx ρ = wp b ρ Q := rfl
@[simp] theorem thnS_bk : thnS b Q .bk ρ = Q .bk ρ := rfl
@[simp] theorem thnS_ct : thnS b Q .ct ρ = Q .ct ρ := rfl
@[simp] theorem thnS_rt {d : D} : thnS b Q (.rt d) ρ = Q (.rt d) ρ := rfl
@[simp] theorem wp_sq : wp (mSq a b) ρ Q ↔ wp a ρ (thnS b Q) := by
  unfold mSq
  rw [wp_bind]
  constructor
  · exact fun h => h.mono fun f ρ1 q => by cases f <;> simpa using q
  · exact fun h => h.mono fun f ρ1 q => by cases f <;> simpa using q
@[simp] theorem wp_drop : wp (mDrop m) ρ Q ↔ wp m ρ fun _ ρ1 => Q .nx ρ1 := by unfold mDrop; simp
@[simp] theorem wp_ret : wp (mRet m) ρ Q ↔ wp m ρ fun d ρ1 => Q (.rt d) ρ1 := by unfold mRet; simp
@[simp] theorem wp_set : wp (mSet i m) ρ Q ↔ wp m ρ fun d ρ1 => Q .nx (ρ1.set i (.dat d)) := by unfold mSet; rw [wp_bind]; simp only [wp_put]
@[simp] theorem wp_setO : wp (mSetO i m) ρ Q ↔ wp m ρ fun d ρ1 => Q .nx (ρ1.set i (.own d)) := by unfold mSetO; rw [wp_bind]; simp only [wp_put]
@[simp] theorem wp_par {j : Nat} {m2 : M D} : wp (mPar i j m m2) ρ Q ↔ wp m ρ fun d ρ1 => wp m2 ρ1 fun e ρ2 => Q .nx ((ρ2.set i (.dat d)).set j (.dat e)) := by unfold mPar; rw [wp_bind]; simp only [wp_bind]; simp only [wp_some (f := fun ρ => (ρ.set i _).set j _)]
@[simp] theorem wp_ifS {t : M Bool} : wp (mIfS t a b) ρ Q ↔ wp t ρ fun c ρ1 => if c = true then wp a ρ1 Q else wp b ρ1 Q := by unfold mIfS; rw [wp_bind]; simp only [wp_if]
end
section
variable {ρ : List Slot} {i : Nat}
@[simp] theorem wp_own {Q : Unit → List Slot → Prop} : wp (mOwn i) ρ Q ↔ (∃ c, ρ[i]? = some (.own c)) ∧ Q () ρ := by
  constructor
  · rintro ⟨a, ρ', e, q⟩
    unfold mOwn at e
    split at e
    · rename_i c h
      cases e
      exact ⟨⟨_, h⟩, q⟩
    · cases e
  · rintro ⟨⟨c, h⟩, q⟩
    exact ⟨(), ρ, by unfold mOwn; rw [h], q⟩
@[simp] theorem wp_getI {k : D} {Q : D → List Slot → Prop} : wp (mGetI i k) ρ Q ↔ ∃ c, ρ[i]? = some (.own c) ∧ ∃ d, ixO c k = some d ∧ Q d ρ := by
  constructor
  · rintro ⟨a, ρ', e, q⟩
    unfold mGetI at e
    split at e
    · rename_i c h
      obtain ⟨d, h1, h2⟩ := Option.map_eq_some_iff.mp e
      cases h2
      exact ⟨c, h, _, h1, q⟩
    · cases e
  · rintro ⟨c, h, d, h1, q⟩
    exact ⟨d, ρ, by unfold mGetI; rw [h]; simp [h1], q⟩
@[simp] theorem wp_putI {k d : D} {Q : RS → List Slot → Prop} : wp (mPutI i k d) ρ Q ↔ ∃ c, ρ[i]? = some (.own c) ∧ ∃ c', putD c k d = some c' ∧ Q .nx (ρ.set i (.own c')) := by
  constructor
  · rintro ⟨a, ρ', e, q⟩
    unfold mPutI at e
    split at e
    · rename_i c h
      obtain ⟨d, h1, h2⟩ := Option.map_eq_some_iff.mp e
      cases h2
      exact ⟨c, h, _, h1, q⟩
    · cases e
  · rintro ⟨c, h, d, h1, q⟩
    exact ⟨.nx, _, by unfold mPutI; rw [h]; simp [h1], q⟩
@[simp] theorem wp_aug {f : D → D → Option D} {m : M D} {Q : RS → List Slot → Prop} : wp (mAug i f m) ρ Q ↔ ∃ x, ρ[i]? = some (.dat x) ∧ wp m ρ fun y ρ1 => ∃ z, f x y = some z ∧ Q .nx (ρ1.set i (.dat z)) := by
  unfold mAug
  simp [wp_put]
/-- the slot's object is a tree from here on -/
def relA (ρ : List Slot) (i : Nat) : Option Slot → List Slot
  | some (.own d) => ρ.set i (.dat d)
  | _ => ρ
@[simp] theorem relA_own {d : D} : relA ρ i (some (.own d)) = ρ.set i (.dat d) := rfl
@[simp] theorem relA_dat {d : D} : relA ρ i (some (.dat d)) = ρ := rfl
@[simp] theorem relA_un : relA ρ i (some .un) = ρ := rfl
@[simp] theorem wp_rel {Q : RS → List Slot → Prop} : wp (mRel i) ρ Q ↔ Q .nx (relA ρ i ρ[i]?) := by
  refine wp_iff _ ?_
  unfold mRel
  cases e : ρ[i]? with
  | none => rfl
  | some s => cases s <;> rfl
@[simp] theorem isOwnD_own {d : D} : isOwnD (.own d) = true := rfl
@[simp] theorem isOwnD_dat {d : D} : isOwnD (.dat d) = false := rfl
@[simp] theorem isOwnD_un : isOwnD .un = false := rfl
@[simp] theorem isOwn_own {d : D} : isOwn (.own d) = true := rfl
@[simp] theorem isOwn_dat {d : D} : isOwn (.dat d) = false := rfl
@[simp] theorem isOwn_un : isOwn .un = false := rfl
@[simp] theorem wp_retOw {F : List Nat} {Q : RS → List Slot → Prop} : wp (mRetOw F i) ρ Q ↔ allOwn F ρ = true ∧ ∃ d, ρ[i]? = some (.own d) ∧ Q (.rt d) ρ := by
  constructor
  · rintro ⟨a, ρ', e, q⟩
    unfold mRetOw at e
    split at e
    · rename_i d h
      split at e
      · rename_i ha
        cases e
        exact ⟨ha, _, h, q⟩
      · cases e
    · cases e
  · rintro ⟨ha, d, h, q⟩
    exact ⟨_, ρ, by unfold mRetOw; rw [h]; exact if_pos ha, q⟩
@[simp] theorem wp_retF {F : List Nat} {m : M D} {Q : RS → List Slot → Prop} : wp (mRetF F m) ρ Q ↔ wp m ρ fun d ρ1 => allOwn F ρ1 = true ∧ Q (.rt d) ρ1 := by
  unfold mRetF
  rw [wp_bind]
  constructor
  · refine fun h => h.mono fun d ρ1 q => ?_
    obtain ⟨a, ρ2, e, q⟩ := q
    have e : (if allOwn F ρ1 then some (.ok (.rt d) ρ1) else none) = some (CF.R.ok a ρ2) := e
    split at e
    · rename_i ha
      cases e
      exact ⟨ha, q⟩
    · cases e
  · exact fun h => h.mono fun d ρ1 q => ⟨_, ρ1, if_pos q.1, q.2⟩
@[simp] theorem wp_mut {g : MutF} {as : M (List D)} {Q : D → List Slot → Prop} : wp (mMut i g as) ρ Q ↔ (∃ xs, ρ[i]? = some (.own (.list xs))) ∧ wp as ρ fun ds ρ1 => ∃ xs, ρ1[i]? = some (.own (.list xs)) ∧ ∃ p, g xs ds = some p ∧ Q p.1 (ρ1.set i (.own (.list p.2))) := by
  unfold mMut
  rw [wp_bind]
  have h1 : ∀ {Q : Unit → List Slot → Prop}, wp (mOwnL i) ρ Q ↔ (∃ xs, ρ[i]? = some (.own (.list xs))) ∧ Q () ρ := by
    intro Q
    constructor
    · rintro ⟨a, ρ', e, q⟩
      unfold mOwnL at e
      split at e
      · rename_i c h
        cases e
        exact ⟨⟨_, h⟩, q⟩
      · cases e
    · rintro ⟨⟨c, h⟩, q⟩
      exact ⟨(), ρ, by unfold mOwnL; rw [h], q⟩
  have h2 : ∀ {ds : List D} {ρ : List Slot} {Q : D → List Slot → Prop}, wp (mMutGo i g ds) ρ Q ↔ ∃ xs, ρ[i]? = some (.own (.list xs)) ∧ ∃ p, g xs ds = some p ∧ Q p.1 (ρ.set i (.own (.list p.2))) := by
    intro ds ρ Q
    constructor
    · rintro ⟨a, ρ', e, q⟩
      unfold mMutGo at e
      split at e
      · rename_i c h
        obtain ⟨d, h1, h2⟩ := Option.map_eq_some_iff.mp e
        cases h2
        exact ⟨c, h, _, h1, q⟩
      · cases e
    · rintro ⟨c, h, p, h1, q⟩
      exact ⟨p.1, _, by unfold mMutGo; rw [h]; simp [h1], q⟩
  rw [h1]
  simp only [wp_bind, h2]
/-- what a run of a def gives -/
def gives (g : FM) (ps : List Slot) (P : D → List Slot → Prop) : Prop := ∃ d ps', g ps = some (.ok d ps') ∧ P d ps'
def retv (fr : Bool) : RS → Option D
  | .rt d => some d
  | .nx => if fr then none else some .none
  | _ => none
@[simp] theorem retv_rt {fr : Bool} {d : D} : retv fr (.rt d) = some d := rfl
@[simp] theorem retv_nx : retv false .nx = some .none := rfl
theorem run_gives {fr : Bool} {np nl : Nat} {F : List Nat} {body : MS} {ps : List Slot} {P : D → List Slot → Prop} (hp : ps.length = np) (h : wp body (ps ++ List.replicate nl .un) fun f ρ' => ∃ d, retv fr f = some d ∧ allOwn F ρ' = true ∧ P d (ρ'.take np)) : gives (runF fr np nl F body) ps P := by
  obtain ⟨f, ρ', e, d, hd, ho, q⟩ := h
  refine ⟨d, ρ'.take np, ?_, q⟩
  unfold runF
  rw [if_pos hp, e]
  cases f with
  | rt r => cases hd; simp only; rw [if_pos ho]
  | nx =>
    cases fr with
    | true => cases hd
    | false =>
      cases hd
      simp [ho]
  | bk => cases hd
  | ct => cases hd
end
/-! ### calls -/
section
variable {ρ : List Slot}
theorem backF_nil {ps' : List Slot} : backF [] ps' ρ = ρ := by
  apply List.ext_getElem?
  intro i
  rw [backF_at]
  simp
theorem backF_one {ps' : List Slot} {j i : Nat} : backF [(j, i)] ps' ρ = ρ.set i (ps'.getD j .un) := by
  apply List.ext_getElem?
  intro l
  rw [backF_at, List.getElem?_set]
  by_cases h : i = l
  · subst h
    by_cases hl : i < ρ.length
    · rw [List.getElem?_eq_getElem hl]
      simp [hl]
    · rw [List.getElem?_eq_none (by omega)]
      simp [hl]
  · simp [h]
theorem backF_two {ps' : List Slot} {j i j2 i2 : Nat} (n : i ≠ i2) : backF [(j, i), (j2, i2)] ps' ρ = (ρ.set i (ps'.getD j .un)).set i2 (ps'.getD j2 .un) := by
  apply List.ext_getElem?
  intro l
  rw [backF_at, List.getElem?_set, List.getElem?_set]
  by_cases h : i = l
  · subst h
    simp only [if_neg (Ne.symm n)]
    by_cases hl : i < ρ.length
    · rw [List.getElem?_eq_getElem hl]
      simp [hl]
    · rw [List.getElem?_eq_none (by omega)]
      simp [hl]
  · by_cases h2 : i2 = l
    · subst h2
      by_cases hl : i2 < ρ.length
      · rw [List.getElem?_eq_getElem hl]
        simp [hl, h]
      · rw [List.getElem?_eq_none (by omega)]
        simp [hl]
    · simp [h, h2]
/-- the trees among the arguments -/
def argD (ρ : List Slot) : List LV → Option (List D)
  | [] => some []
  | .dat d :: xs => (argD ρ xs).map (d :: ·)
  | .slot i :: xs => match ρ[i]? with
    | some (.dat d) => (argD ρ xs).map (d :: ·)
    | _ => none
@[simp] theorem argD_nil : argD ρ [] = some [] := rfl
@[simp] theorem argD_dat {d : D} {xs : List LV} : argD ρ (.dat d :: xs) = (argD ρ xs).map (d :: ·) := rfl
def argD1 (s : Option Slot) (r : Option (List D)) : Option (List D) := match s with
  | some (.dat d) => r.map (d :: ·)
  | _ => none
@[simp] theorem argD_slot {i : Nat} {xs : List LV} : argD ρ (.slot i :: xs) = argD1 ρ[i]? (argD ρ xs) := rfl
@[simp] theorem argD1_dat {d : D} {r : Option (List D)} : argD1 (some (.dat d)) r = r.map (d :: ·) := rfl
theorem argS_D {F : List Nat} : ∀ {xs : List LV} {j : Nat} {ds : List D}, (∀ n ∈ F, n < j) → argD ρ xs = some ds → argS F ρ j xs = some (ds.map .dat) ∧ ioIx F j xs = []
  | [], j, ds, _, h => by cases h; exact ⟨rfl, rfl⟩
  | .dat d :: xs, j, ds, hF, h => by
    obtain ⟨r, h1, rfl⟩ := Option.map_eq_some_iff.mp h
    obtain ⟨h2, h3⟩ := argS_D (j := j + 1) (fun n hn => Nat.lt_succ_of_lt (hF n hn)) h1
    have nc : F.contains j = false := by
      cases e : F.contains j with
      | false => rfl
      | true => have := hF j (by simpa [List.contains_iff_mem] using e); omega
    exact ⟨by unfold argS; rw [nc, h2]; rfl, h3⟩
  | .slot i :: xs, j, ds, hF, h => by
    unfold argD at h
    have nc : F.contains j = false := by
      cases e : F.contains j with
      | false => rfl
      | true => have := hF j (by simpa [List.contains_iff_mem] using e); omega
    split at h
    · rename_i d hd
      obtain ⟨r, h1, rfl⟩ := Option.map_eq_some_iff.mp h
      obtain ⟨h2, h3⟩ := argS_D (j := j + 1) (fun n hn => Nat.lt_succ_of_lt (hF n hn)) h1
      refine ⟨?_, ?_⟩
      · unfold argS
        rw [hd]
        simp only [nc]
        rw [h2]
        rfl
      · unfold ioIx
        rw [nc]
        exact h3
    · cases h
/-- a call of a def that is lent nothing -/
theorem wp_fn {g : FM} {as : List (M LV)} {Q : D → List Slot → Prop} (h : wp (mLs as) ρ fun xs ρ1 => ∃ ds, argD ρ1 xs = some ds ∧ gives g (ds.map .dat) fun d _ => Q d ρ1) : wp (mFn [] g as) ρ Q := by
  unfold mFn
  rw [wp_bind]
  refine h.mono fun xs ρ1 q => ?_
  obtain ⟨ds, h1, d, ps', h2, q⟩ := q
  obtain ⟨h3, h4⟩ := argS_D (F := []) (j := 0) (fun n hn => nomatch hn) h1
  refine ⟨d, ρ1, ?_, q⟩
  rw [h4]
  simp only [List.map_nil, List.nodup_nil, decide_true, if_true]
  rw [h3]
  simp only
  rw [h2]
  simp only
  rw [backF_nil]
/-- .. that is lent its first argument -/
theorem wp_fn0 {g : FM} {as : List (M LV)} {b : Nat} {Q : D → List Slot → Prop} (hb : (sv ρ[b]?).isSome = true) (h : wp (mLs as) ρ fun xs ρ1 => ∃ ds, argD ρ1 xs = some ds ∧ ∃ c, ρ1[b]? = some (.own c) ∧ gives g (.own c :: ds.map .dat) fun d ps' => Q d (ρ1.set b (ps'.getD 0 .un))) : wp (mFn [0] g (mPk b :: as)) ρ Q := by
  unfold mFn
  rw [wp_bind, mLs_cons, wp_bind, wp_pk]
  refine ⟨hb, ?_⟩
  rw [wp_bind]
  refine h.mono fun xs ρ1 q => ?_
  rw [wp_pure]
  obtain ⟨ds, h1, c, hc, d, ps', h2, q⟩ := q
  obtain ⟨h3, h4⟩ := argS_D (F := [0]) (j := 1) (fun n hn => by simp at hn; omega) h1
  refine ⟨d, _, ?_, q⟩
  have e1 : ioIx [0] 0 (.slot b :: xs) = [(0, b)] := by
    unfold ioIx
    rw [h4]
    rfl
  have e2 : argS [0] ρ1 0 (.slot b :: xs) = some (.own c :: ds.map .dat) := by
    unfold argS
    rw [hc]
    simp only
    rw [h3]
    rfl
  simp only
  rw [e1, e2]
  simp only [List.map_cons, List.map_nil]
  rw [if_pos (by simp), h2]
  simp only
  rw [backF_one]
end
end CF
end
section
/-! CF, part x: the same, step by step. -/
namespace CF
open PySem
section
variable {ρ ρ' : List Slot} {Q : D → List Slot → Prop} {QL : LV → List Slot → Prop} {QT : Bool → List Slot → Prop} {i j : Nat} {d e r : D} {m ma : M D} {a b : M LV} {x y : LV} {f : D → D → Option D}
theorem iVar (h : ρ[i]? = some (.dat d)) (q : Q d ρ) : wp (mVar i) ρ Q := wp_var.mpr ⟨d, h, q⟩
theorem iPk (h : (sv ρ[i]?).isSome = true) (q : QL (.slot i) ρ) : wp (mPk i) ρ QL := wp_pk.mpr ⟨h, q⟩
theorem iV (h : wp m ρ fun d ρ1 => QL (.dat d) ρ1) : wp (mV m) ρ QL := by unfold mV; rw [wp_bind]; exact h.mono fun _ _ q => wp_pure.mpr q
theorem iC (q : Q d ρ) : wp (mC d) ρ Q := wp_pure.mpr q
def op2E (f : D → D → Option D) (x y : LV) (Q : D → List Slot → Prop) (ρ : List Slot) : Prop := ∃ d e r, lv x ρ = some d ∧ lv y ρ = some e ∧ f d e = some r ∧ Q r ρ
theorem iOp2E (hx : lv x ρ = some d) (hy : lv y ρ = some e) (hf : f d e = some r) (q : Q r ρ) : op2E f x y Q ρ := ⟨d, e, r, hx, hy, hf, q⟩
theorem iOp2 (h : wp a ρ fun x ρ1 => wp b ρ1 fun y ρ2 => op2E f x y Q ρ2) : wp (mOp2 f a b) ρ Q := by
  unfold mOp2
  simp only [wp_bind, wp_get, wp_lift]
  exact h.mono fun x ρ1 q => q.mono fun y ρ2 ⟨d, e, r, h1, h2, h3, h4⟩ => ⟨d, h1, e, h2, r, h3, h4⟩
theorem iOp1 {g : D → Option D} (h : wp a ρ fun x ρ1 => ∃ d r, lv x ρ1 = some d ∧ g d = some r ∧ Q r ρ1) : wp (mOp1 g a) ρ Q := by
  unfold mOp1
  simp only [wp_bind, wp_get, wp_lift]
  exact h.mono fun x ρ1 ⟨d, r, h1, h2, h3⟩ => ⟨d, h1, r, h2, h3⟩
def lvs : List LV → List Slot → Option (List D)
  | [], _ => some []
  | x :: xs, ρ => match lv x ρ, lvs xs ρ with
    | some d, some ds => some (d :: ds)
    | _, _ => none
theorem wp_getAll {α : Type} {g : List D → M α} {Q : α → List Slot → Prop} : ∀ {xs : List LV} {ds : List D}, lvs xs ρ = some ds → wp (g ds) ρ Q → wp (getAll xs >>= g) ρ Q
  | [], ds, h, q => by cases h; rw [wp_bind]; exact wp_pure.mpr q
  | x :: xs, ds, h, q => by
    unfold lvs at h
    split at h
    · rename_i d es h1 h2
      cases h
      rw [getAll_cons, wp_bind, wp_bind, wp_get]
      refine ⟨d, h1, ?_⟩
      rw [← wp_bind]
      have : wp (getAll xs >>= fun ds => g (d :: ds)) ρ Q := wp_getAll h2 q
      rw [wp_bind] at this
      rw [wp_bind, wp_bind]
      exact this.mono fun es ρ1 z => wp_pure.mpr z
    · cases h
def callE (g : List D → Option D) (xs : List LV) (Q : D → List Slot → Prop) (ρ : List Slot) : Prop := ∃ ds r, lvs xs ρ = some ds ∧ g ds = some r ∧ Q r ρ
theorem iCallE {g : List D → Option D} {xs : List LV} {ds : List D} (hx : lvs xs ρ = some ds) (hf : g ds = some r) (q : Q r ρ) : callE g xs Q ρ := ⟨ds, r, hx, hf, q⟩
theorem iCall {g : List D → Option D} {as : List (M LV)} (h : wp (mLs as) ρ fun xs ρ1 => callE g xs Q ρ1) : wp (mCall g as) ρ Q := by
  unfold mCall
  rw [wp_bind]
  exact h.mono fun xs ρ1 ⟨ds, r, h1, h2, h3⟩ => wp_getAll h1 (wp_lift.mpr ⟨r, h2, h3⟩)
theorem iLs0 {Q : List LV → List Slot → Prop} (q : Q [] ρ) : wp (mLs []) ρ Q := wp_pure.mpr q
theorem iLs {as : List (M LV)} {Q : List LV → List Slot → Prop} (h : wp a ρ fun x ρ1 => wp (mLs as) ρ1 fun xs ρ2 => Q (x :: xs) ρ2) : wp (mLs (a :: as)) ρ Q := by
  rw [mLs_cons, wp_bind]
  refine h.mono fun x ρ1 q => ?_
  rw [wp_bind]
  exact q.mono fun xs ρ2 q => wp_pure.mpr q
theorem iDs0 {Q : List D → List Slot → Prop} (q : Q [] ρ) : wp (mDs []) ρ Q := wp_pure.mpr q
theorem iDs {as : List (M D)} {Q : List D → List Slot → Prop} (h : wp m ρ fun x ρ1 => wp (mDs as) ρ1 fun xs ρ2 => Q (x :: xs) ρ2) : wp (mDs (m :: as)) ρ Q := by
  rw [mDs_cons, wp_bind]
  refine h.mono fun x ρ1 q => ?_
  rw [wp_bind]
  exact q.mono fun xs ρ2 q => wp_pure.mpr q
theorem iTup {as : List (M D)} (h : wp (mDs as) ρ fun ds ρ1 => ds.length ≤ sizeLine ∧ Q (.tuple ds) ρ1) : wp (mTup as) ρ Q := by
  unfold mTup
  rw [wp_bind]
  exact h.mono fun ds ρ1 q => wp_lift.mpr ⟨_, if_pos q.1, q.2⟩
theorem iLst {as : List (M D)} (h : wp (mDs as) ρ fun ds ρ1 => ds.length ≤ sizeLine ∧ Q (.list ds) ρ1) : wp (mLst as) ρ Q := by
  unfold mLst
  rw [wp_bind]
  exact h.mono fun ds ρ1 q => wp_lift.mpr ⟨_, if_pos q.1, q.2⟩
theorem iTest (h : wp m ρ fun d ρ1 => ∃ c, d = .bool c ∧ QT c ρ1) : wp (mTest m) ρ QT := by
  unfold mTest
  rw [wp_bind]
  exact h.mono fun d ρ1 ⟨c, e, q⟩ => wp_lift.mpr ⟨c, by subst e; rfl, q⟩
theorem iAnd {t u : M Bool} (h : wp t ρ fun c ρ1 => if c = true then wp u ρ1 QT else QT false ρ1) : wp (mAnd t u) ρ QT := by
  unfold mAnd
  rw [wp_bind]
  exact h.mono fun c ρ1 q => by cases c <;> simpa using q
theorem iOr {t u : M Bool} (h : wp t ρ fun c ρ1 => if c = true then QT true ρ1 else wp u ρ1 QT) : wp (mOr t u) ρ QT := by
  unfold mOr
  rw [wp_bind]
  exact h.mono fun c ρ1 q => by cases c <;> simpa using q
theorem iNot {t : M Bool} (h : wp t ρ fun c ρ1 => QT (!c) ρ1) : wp (mNot t) ρ QT := by
  unfold mNot
  rw [wp_bind]
  exact h.mono fun c ρ1 q => wp_pure.mpr q
theorem iBl {t : M Bool} (h : wp t ρ fun c ρ1 => Q (.bool c) ρ1) : wp (mBl t) ρ Q := by
  unfold mBl
  rw [wp_bind]
  exact h.mono fun c ρ1 q => wp_pure.mpr q
theorem iYes (q : QT true ρ) : wp mYes ρ QT := wp_pure.mpr q
theorem iIf {t : M Bool} (h : wp t ρ fun c ρ1 => if c = true then wp m ρ1 Q else wp ma ρ1 Q) : wp (mIf t m ma) ρ Q := wp_mIf.mpr h
theorem iNone {Q : Option Int → List Slot → Prop} (q : Q none ρ) : wp noneP ρ Q := wp_pure.mpr q
theorem iSome {Q : Option Int → List Slot → Prop} (h : wp m ρ fun d ρ1 => ∃ n, d = .int n ∧ Q (some n) ρ1) : wp (someP m) ρ Q := by
  unfold someP
  rw [wp_bind]
  exact h.mono fun d ρ1 ⟨c, e, q⟩ => wp_lift.mpr ⟨some c, by subst e; rfl, q⟩
theorem iSl {g : D → Option Int → Option Int → Option D} {lo hi : M (Option Int)} (h : wp a ρ fun x ρ1 => wp lo ρ1 fun l ρ2 => wp hi ρ2 fun u ρ3 => ∃ d r, lv x ρ3 = some d ∧ g d l u = some r ∧ Q r ρ3) : wp (mSl g a lo hi) ρ Q := by
  unfold mSl
  simp only [wp_bind, wp_get, wp_lift]
  exact h.mono fun x ρ1 q => q.mono fun l ρ2 q => q.mono fun u ρ3 ⟨d, r, h1, h2, h3⟩ => ⟨d, h1, r, h2, h3⟩
end
section
variable {ρ : List Slot} {Q : RS → List Slot → Prop} {m m2 mk : M D} {a b : MS} {i j : Nat} {t : M Bool} {f : D → D → Option D}
theorem iNx (q : Q .nx ρ) : wp mNx ρ Q := wp_nx.mpr q
theorem iSq (h : wp a ρ (thnS b Q)) : wp (mSq a b) ρ Q := wp_sq.mpr h
theorem iThn (h : wp b ρ Q) : thnS b Q .nx ρ := h
theorem iThnR {d : D} (h : Q (.rt d) ρ) : thnS b Q (.rt d) ρ := h
theorem iDrop (h : wp m ρ fun _ ρ1 => Q .nx ρ1) : wp (mDrop m) ρ Q := wp_drop.mpr h
theorem iRet (h : wp m ρ fun d ρ1 => Q (.rt d) ρ1) : wp (mRet m) ρ Q := wp_ret.mpr h
theorem iSet (h : wp m ρ fun d ρ1 => Q .nx (ρ1.set i (.dat d))) : wp (mSet i m) ρ Q := wp_set.mpr h
theorem iSetO (h : wp m ρ fun d ρ1 => Q .nx (ρ1.set i (.own d))) : wp (mSetO i m) ρ Q := wp_setO.mpr h
theorem iPar (h : wp m ρ fun d ρ1 => wp m2 ρ1 fun e ρ2 => Q .nx ((ρ2.set i (.dat d)).set j (.dat e))) : wp (mPar i j m m2) ρ Q := wp_par.mpr h
theorem iIfS (h : wp t ρ fun c ρ1 => if c = true then wp a ρ1 Q else wp b ρ1 Q) : wp (mIfS t a b) ρ Q := wp_ifS.mpr h
theorem iRel {ρ' : List Slot} (e : relA ρ i ρ[i]? = ρ') (q : Q .nx ρ') : wp (mRel i) ρ Q := wp_rel.mpr (by rw [e]; exact q)
theorem iRetF {F : List Nat} (h : wp m ρ fun d ρ1 => allOwn F ρ1 = true ∧ Q (.rt d) ρ1) : wp (mRetF F m) ρ Q := wp_retF.mpr h
def putE (i : Nat) (k d : D) (Q : RS → List Slot → Prop) (ρ : List Slot) : Prop := ∃ c c', ρ[i]? = some (.own c) ∧ putD c k d = some c' ∧ Q .nx (ρ.set i (.own c'))
theorem iPutE {k d c c' : D} (h1 : ρ[i]? = some (.own c)) (h2 : putD c k d = some c') (q : Q .nx (ρ.set i (.own c'))) : putE i k d Q ρ := ⟨c, c', h1, h2, q⟩
theorem iSub (h : wp m ρ fun d ρ1 => (∃ c, ρ1[i]? = some (.own c)) ∧ wp mk ρ1 fun k ρ2 => putE i k d Q ρ2) : wp (mSub i mk m) ρ Q := by
  unfold mSub
  simp only [wp_bind, wp_own, wp_putI]
  exact h.mono fun d ρ1 ⟨h1, q⟩ => ⟨h1, q.mono fun k ρ2 ⟨c, c', e1, e2, q⟩ => ⟨c, e1, c', e2, q⟩⟩
theorem iAugS (h0 : ∃ c, ρ[i]? = some (.own c)) (h : wp mk ρ fun k ρ1 => ∃ c x, ρ1[i]? = some (.own c) ∧ ixO c k = some x ∧ wp m ρ1 fun y ρ2 => ∃ z, f x y = some z ∧ putE i k z Q ρ2) : wp (mAugS i f mk m) ρ Q := by
  unfold mAugS
  simp only [wp_bind, wp_own, wp_putI, wp_getI, wp_lift]
  exact ⟨h0, h.mono fun k ρ1 ⟨c, x, h1, h2, q⟩ => ⟨c, h1, x, h2, q.mono fun y ρ2 ⟨z, h3, c, c', e1, e2, q⟩ => ⟨z, h3, c, e1, c', e2, q⟩⟩⟩
end
section
variable {ρ : List Slot} {Q : D → List Slot → Prop} {i : Nat}
def mutE (i : Nat) (g : MutF) (ds : List D) (Q : D → List Slot → Prop) (ρ : List Slot) : Prop := ∃ xs r zs, ρ[i]? = some (.own (.list xs)) ∧ g xs ds = some (r, zs) ∧ Q r (ρ.set i (.own (.list zs)))
theorem iMutE {g : MutF} {xs zs ds : List D} {r : D} (h1 : ρ[i]? = some (.own (.list xs))) (h2 : g xs ds = some (r, zs)) (q : Q r (ρ.set i (.own (.list zs)))) : mutE i g ds Q ρ := ⟨xs, r, zs, h1, h2, q⟩
theorem iMut {g : MutF} {as : M (List D)} {xs : List D} (h0 : ρ[i]? = some (.own (.list xs))) (h : wp as ρ fun ds ρ1 => mutE i g ds Q ρ1) : wp (mMut i g as) ρ Q :=
  wp_mut.mpr ⟨⟨xs, h0⟩, h.mono fun ds ρ1 ⟨xs, r, zs, h1, h2, q⟩ => ⟨xs, h1, (r, zs), h2, q⟩⟩

/-! ### walks -/
/-- a for loop: an invariant over what is behind and what is ahead -/
theorem iFor {src : M (List D)} {b : D → M Unit} {body : MS} {QS : RS → List Slot → Prop} (h : wp src ρ fun ds ρ1 => ∃ I : List D → List Slot → Prop, I ds ρ1 ∧ (∀ ρ2, I [] ρ2 → QS .nx ρ2) ∧ ∀ d ds ρ2, I (d :: ds) ρ2 → ∃ ρ3, b d ρ2 = some (.ok () ρ3) ∧
    wp body ρ3 fun f ρ4 => match f with
      | .nx => I ds ρ4
      | .ct => I ds ρ4
      | .bk => QS .nx ρ4
      | .rt r => QS (.rt r) ρ4) : wp (mFor src b body) ρ QS := by
  unfold mFor
  rw [wp_bind]
  refine h.mono fun ds ρ1 ⟨I, i0, ie, it⟩ => ?_
  have go : ∀ (ds : List D) (ρ2 : List Slot), I ds ρ2 → wp (forGo b body ds) ρ2 QS := by
    intro ds
    induction ds with
    | nil => exact fun ρ2 i => wp_nx.mpr (ie ρ2 i)
    | cons d ds ih =>
      intro ρ2 i
      obtain ⟨ρ3, e, hb⟩ := it d ds ρ2 i
      show wp (mB (b d) >>= _) ρ2 QS
      refine wp_bind.mpr ?_
      refine ⟨(), ρ3, by unfold mB; rw [e], ?_⟩
      refine wp_bind.mpr ?_
      refine hb.mono fun f ρ4 q => ?_
      cases f with
      | nx => exact ih ρ4 q
      | ct => exact ih ρ4 q
      | bk => exact wp_nx.mpr q
      | rt r => exact wp_pure.mpr q
  exact go ds ρ1 i0
/-- a comprehension without a test: each item's image as P says -/
theorem iLC {vs : List Nat} {src : M (List D)} {b : D → M Unit} {elt : M D} (h : wp src ρ fun ds ρ1 => ds.length ≤ sizeLine ∧ (vs.all fun v => !isOwn (ρ1.getD v .un)) = true ∧ ∃ (I : List Slot → Prop) (P : D → D → Prop), I ρ1 ∧
    (∀ d ∈ ds, ∀ ρ2, I ρ2 → ∃ ρ3, b d (wipeS ρ2 vs) = some (.ok () ρ3) ∧ wp elt ρ3 fun y ρ4 => P d y ∧ I ρ4) ∧ ∀ rs ρ2, rs.length = ds.length → (∀ (j : Nat) (d r : D), ds[j]? = some d → rs[j]? = some r → P d r) → I ρ2 → Q (.list rs) (backS ρ1 ρ2 vs)) : wp (mLC vs src b mYes elt) ρ Q := by
  unfold mLC
  rw [wp_bind]
  refine h.mono fun ds ρ1 ⟨hl, hv, I, P, i0, it, ie⟩ => ?_
  have go : ∀ (ds' acc : List D) (ρ2 : List Slot), (∀ d ∈ ds', d ∈ ds) → acc.length + ds'.length ≤ sizeLine → I ρ2 → ∃ rs ρ3, lcGo vs b mYes elt ds' acc ρ2 = some (.ok (acc ++ rs) ρ3) ∧ rs.length = ds'.length ∧ (∀ (j : Nat) (d r : D), ds'[j]? = some d → rs[j]? = some r → P d r) ∧ I ρ3 := by
    intro ds'
    induction ds' with
    | nil => exact fun acc ρ2 _ _ i => ⟨[], ρ2, by rw [List.append_nil]; rfl, rfl, fun j d r h => by simp at h, i⟩
    | cons d ds' ih =>
      intro acc ρ2 hm hz i
      rw [List.length_cons] at hz
      obtain ⟨ρ3, e3, y, ρ4, e4, py, i4⟩ := it d (hm d (List.mem_cons_self ..)) ρ2 i
      obtain ⟨rs, ρ5, e5, l5, p5, i5⟩ := ih (acc ++ [y]) ρ4 (fun d' h => hm d' (List.mem_cons_of_mem _ h)) (by rw [List.length_append, List.length_singleton]; omega) i4
      refine ⟨y :: rs, ρ5, ?_, by simp [l5], ?_, i5⟩
      · have hw : wp (lcGo vs b mYes elt (d :: ds') acc) ρ2 (fun r ρ' => r = acc ++ y :: rs ∧ ρ' = ρ5) := by
          show wp ((fun ρ => some (.ok () (wipeS ρ vs)) : M Unit) >>= _) ρ2 _
          refine wp_bind.mpr ?_
          refine ⟨(), _, rfl, ?_⟩
          refine wp_bind.mpr ?_
          refine ⟨(), ρ3, e3, ?_⟩
          refine wp_bind.mpr ?_
          refine ⟨true, ρ3, rfl, ?_⟩
          show wp (elt >>= _) ρ3 _
          refine wp_bind.mpr ?_
          refine ⟨y, ρ4, e4, ?_⟩
          have e6 : (if acc.length < sizeLine then lcGo vs b mYes elt ds' (acc ++ [y]) else fun _ => none) ρ4 = some (.ok ((acc ++ [y]) ++ rs) ρ5) := by rw [if_pos (by omega)]; exact e5
          refine ⟨_, _, e6, ?_, rfl⟩
          rw [List.append_assoc]
          rfl
        obtain ⟨r, ρ', e, rfl, rfl⟩ := hw
        exact e
      · intro j d' r h1 h2
        cases j with
        | zero => simp at h1 h2; subst h1; subst h2; exact py
        | succ j => exact p5 j d' r (by simpa using h1) (by simpa using h2)
  obtain ⟨rs, ρ3, e, l, p, i3⟩ := go ds [] ρ1 (fun _ h => h) (by simpa using hl) i0
  rw [List.nil_append] at e
  refine ⟨.list rs, backS ρ1 ρ3 vs, ?_, ie rs ρ3 l p i3⟩
  simp only
  rw [if_pos hv, e]
end
end CF
end
section
/-! CF, part y: what the operators give. -/
namespace CF
open PySem
theorem eqB_int {i j : Int} : eqB (.int i) (.int j) = some (decide (i = j)) := by
  show (if (SeqAt.shaped (PyData.int i) && SeqAt.shaped (PyData.int j)) = true then some (PyData.eqv (.int i) (.int j)) else none) = _
  rw [if_pos (by rfl)]
  rfl
theorem eqD_int {i j : Int} : eqD (.int i) (.int j) = some (.bool (decide (i = j))) := by unfold eqD; rw [eqB_int]; rfl
theorem neD_int {i j : Int} : neD (.int i) (.int j) = some (.bool (!decide (i = j))) := by unfold neD; rw [eqB_int]; rfl
theorem eqD_str {x y : Str} : eqD (.str x) (.str y) = some (.bool (decide (x = y))) := rfl
theorem neD_str {x y : Str} : neD (.str x) (.str y) = some (.bool (!decide (x = y))) := rfl
theorem eqD_self {d : D} (h : d.canLay0 = true) (hd : d.depth ≤ 64) : eqD d d = some (.bool true) := by
  have hs : SeqAt.shaped d = true := by unfold SeqAt.shaped; rw [h, decide_eq_true hd]; rfl
  unfold eqD eqB
  cases e : stxD d d with
  | some b =>
    obtain ⟨x, y, e1, e2, e3⟩ := stxD_some e
    rw [e1] at e2
    cases e2
    rw [e3, decide_eq_true rfl]
    rfl
  | none =>
    simp only
    rw [if_pos (by rw [hs]; rfl), SeqAt.eqv_refl d h]
    rfl
theorem small_of {i : Int} (h1 : -(2 ^ 64) < i) (h2 : i < 2 ^ 64) : small i = true := decide_eq_true ⟨h1, h2⟩
theorem mulD_r {i j : Int} (h : small j = true) : mulD (.int i) (.int j) = some (.int (i * j)) := by
  show (if (small i || small j) = true then _ else _) = _
  rw [if_pos (by rw [h, Bool.or_true])]
theorem mulD_l {i j : Int} (h : small i = true) : mulD (.int i) (.int j) = some (.int (i * j)) := by
  show (if (small i || small j) = true then _ else _) = _
  rw [if_pos (by rw [h, Bool.true_or])]
theorem addD_int {i j : Int} : addD (.int i) (.int j) = some (.int (i + j)) := rfl
theorem addI_int {i j : Int} : addI (.int i) (.int j) = some (.int (i + j)) := rfl
theorem subD_int {i j : Int} : subD (.int i) (.int j) = some (.int (i - j)) := rfl
theorem ltD_int {i j : Int} : ltD (.int i) (.int j) = some (.bool (decide (i < j))) := rfl
theorem leD_int {i j : Int} : leD (.int i) (.int j) = some (.bool (decide (i ≤ j))) := rfl
theorem gtD_int {i j : Int} : gtD (.int i) (.int j) = some (.bool (decide (j < i))) := rfl
theorem geD_int {i j : Int} : geD (.int i) (.int j) = some (.bool (decide (j ≤ i))) := rfl
theorem intC_int {i : Int} : intC [.int i] = some (.int i) := rfl
theorem lenC_list {xs : List D} : lenC [.list xs] = some (.int xs.length) := rfl
theorem lenC_tuple {xs : List D} : lenC [.tuple xs] = some (.int xs.length) := rfl
theorem tupleC_list {xs : List D} : tupleC [.list xs] = some (.tuple xs) := rfl
theorem listC_tuple {xs : List D} : listC [.tuple xs] = some (.list xs) := rfl
theorem listC_dict {es : List (D × D)} : listC [.dict es] = some (.list (es.map (·.1))) := rfl
theorem ix_list {xs : List D} {i : Int} : ixD (.list xs) (.int i) = L2.atI xs i := rfl
theorem addL_list {xs ys : List D} (h : xs.length + ys.length ≤ sizeLine) : addL (.list xs) (.list ys) = some (.list (xs ++ ys)) := if_pos h
theorem modD_of {i j : Int} (h : 0 < j) : modD (.int i) (.int j) = some (.int (i % j)) := if_pos h
theorem fdivD_of {i j : Int} (h : 0 < j) (h2 : j < 1073741824) : fdivD (.int i) (.int j) = some (.int (i / j)) := if_pos ⟨h, h2⟩
theorem powD_of {i j : Int} (h : 0 ≤ j ∧ j ≤ 1000000 ∧ i.natAbs < 2 ^ 64) : powD (.int i) (.int j) = some (.int (i ^ j.toNat)) := if_pos h
theorem slD_list {xs : List D} {lo hi : Option Int} : slD (.list xs) lo hi = some (.list (cutL xs lo hi)) := rfl
theorem slD_tuple {xs : List D} {lo hi : Option Int} : slD (.tuple xs) lo hi = some (.tuple (cutL xs lo hi)) := rfl
/-- the bag -/
def bagD (a b c : Int) (ns : List Int) : D := .list [.int a, .int b, .int c, .list (ns.map PyData.int)]
theorem ix0 {x : D} {xs : List D} : ixD (.list (x :: xs)) (.int 0) = some x := L2.atI_nat (j := 0) rfl
theorem cut_from {xs : List D} {i : Int} : ∃ k, cutL xs (some i) none = xs.drop k := by
  refine ⟨HT.sIx xs.length 0 (some i), ?_⟩
  unfold cutL
  rw [HT.sIx_none]
  exact List.take_of_length_le (by rw [List.length_drop]; exact Nat.le_refl _)
/-- the number that is taken next -/
theorem next_int (ns : List Int) (k : Nat) : ∃ n, ixD (.list ((ns.map PyData.int).drop k ++ [.int 0])) (.int 0) = some (.int n) := by
  rw [← List.map_drop]
  cases ns.drop k with
  | nil => exact ⟨0, ix0⟩
  | cons n r => exact ⟨n, ix0⟩
end CF
namespace CF
theorem iSqM {ρ : List Slot} {Q : RS → List Slot → Prop} {a b : MS} (Mid : List Slot → Prop) (h : wp a ρ fun f ρ' => f = .nx ∧ Mid ρ') (h2 : ∀ ρ', Mid ρ' → wp b ρ' Q) : wp (mSq a b) ρ Q :=
  wp_sq.mpr (h.mono fun f ρ' ⟨e, m⟩ => by subst e; exact h2 ρ' m)
theorem iteD {c : Prop} [Decidable c] {A B : Prop} (h1 : c → A) (h2 : ¬ c → B) : if decide c = true then A else B := by
  by_cases h : c
  · rw [if_pos (decide_eq_true h)]; exact h1 h
  · rw [if_neg (by simpa using h)]; exact h2 h
theorem iteT {A B : Prop} (h : A) : if true = true then A else B := h
theorem iteF {A B : Prop} (h : B) : if false = true then A else B := h
end CF
namespace CF
open PySem
theorem isN_none : isND .none .none = some (.bool true) := rfl
theorem isN_int {i : Int} : isND (.int i) .none = some (.bool false) := rfl
theorem notN_none : notND .none .none = some (.bool false) := rfl
theorem notN_int {i : Int} : notND (.int i) .none = some (.bool true) := rfl
theorem min2_int {i j : Int} : min2C [.int i, .int j] = some (.int (if j < i then j else i)) := rfl
theorem max2_int {i j : Int} : max2C [.int i, .int j] = some (.int (if j > i then j else i)) := rfl
theorem iSetB {ρ : List Slot} {Q : RS → List Slot → Prop} {b : D → M Unit} {m : M D} (h : wp m ρ fun d ρ1 => ∃ ρ2, b d ρ1 = some (.ok () ρ2) ∧ Q .nx ρ2) : wp (mSetB b m) ρ Q := by
  unfold mSetB
  refine wp_bind.mpr (h.mono fun d ρ1 ⟨ρ2, e, q⟩ => wp_bind.mpr ⟨(), ρ2, by unfold mB; rw [e], wp_pure.mpr q⟩)
theorem iRng1 {ρ : List Slot} {Q : List D → List Slot → Prop} {a : M LV} (h : wp a ρ fun x ρ1 => ∃ j, lv x ρ1 = some (.int j) ∧ okR j = true ∧ Q (rangeD 0 j.toNat) ρ1) : wp (mRng1 a) ρ Q := by
  unfold mRng1
  refine wp_bind.mpr (h.mono fun x ρ1 ⟨j, h1, h2, q⟩ => wp_bind.mpr (wp_get.mpr ⟨_, h1, wp_lift.mpr ⟨_, ?_, q⟩⟩))
  simp [intOf, h2]
theorem iRng2 {ρ : List Slot} {Q : List D → List Slot → Prop} {a b : M LV} (h : wp a ρ fun x ρ1 => wp b ρ1 fun y ρ2 => ∃ i j, lv x ρ2 = some (.int i) ∧ lv y ρ2 = some (.int j) ∧ okR i = true ∧ okR j = true ∧ Q (rangeD i (j - i).toNat) ρ2) : wp (mRng2 a b) ρ Q := by
  unfold mRng2
  refine wp_bind.mpr (h.mono fun x ρ1 q => wp_bind.mpr (q.mono fun y ρ2 ⟨i, j, h1, h2, h3, h4, q⟩ => wp_bind.mpr (wp_get.mpr ⟨_, h1, wp_bind.mpr (wp_get.mpr ⟨_, h2, wp_lift.mpr ⟨_, ?_, q⟩⟩)⟩)))
  simp [intOf, h3, h4]
theorem okR_of {j : Int} (h0 : 0 ≤ j) (h : j < 1000000) : okR j = true := decide_eq_true ⟨by omega, by omega⟩
theorem range_len {i : Int} {n : Nat} : (rangeD i n).length = n := by unfold rangeD; simp
end CF
end
section
/-! CF, part z: the laws' own helpers: the bag. -/
namespace CF
open PySem
local macro_rules | `(tactic| walk_at "hf") => `(tactic| (first
  | with_reducible exact eqD_int | with_reducible exact neD_int | with_reducible exact addD_int | with_reducible exact addI_int | with_reducible exact subD_int | with_reducible exact geD_int | with_reducible exact gtD_int | with_reducible exact leD_int | with_reducible exact ltD_int | with_reducible exact modD_of (by decide) | with_reducible exact mulD_r (by decide) | with_reducible exact mulD_l (by decide) | with_reducible exact powD_of (by decide) | with_reducible exact ix0 | ((with_reducible show ixD (.list _) (.int _) = _); rfl) | ((with_reducible show ixD (.tuple _) (.int _) = _); rfl)
  | with_reducible exact intC_int | with_reducible exact lenC_list | with_reducible exact lenC_tuple | with_reducible exact tupleC_list | with_reducible exact listC_tuple | with_reducible exact listC_dict | with_reducible exact slD_list | with_reducible exact slD_tuple))
local macro_rules | `(tactic| walk_at "m1") => `(tactic| (first
  | with_reducible refine iSq ?_ | with_reducible refine iThn ?_ | with_reducible refine iIfS ?_ | with_reducible refine iSet ?_ | with_reducible refine iSetO ?_ | with_reducible refine iRet ?_ | with_reducible refine iNx ?_ | with_reducible refine iThnR ?_
  | with_reducible refine iTest ?_ | with_reducible refine iOp2 ?_ | ((with_reducible refine' iPk ?h1 ?h2); (case h1 => rfl)) | with_reducible refine iV ?_ | with_reducible refine iC ?_ | ((with_reducible refine' iVar ?h1 ?h2); (case h1 => rfl))
  | with_reducible refine iCall ?_ | with_reducible refine iLs0 ?_ | with_reducible refine iLs ?_ | with_reducible refine iSub ?_ | with_reducible refine iSl ?_ | with_reducible refine iSome ?_ | with_reducible refine iNone ?_ | with_reducible refine iLst ?_ | with_reducible refine iTup ?_ | with_reducible refine iDs0 ?_ | with_reducible refine iDs ?_
  | with_reducible refine iAnd ?_ | with_reducible refine iOr ?_ | with_reducible refine iNot ?_ | with_reducible refine iBl ?_ | with_reducible refine iIf ?_ | with_reducible refine iDrop ?_ | with_reducible refine iYes ?_ | with_reducible refine iPar ?_
  | ((with_reducible refine' iAugS ?h1 ?h2); (case h1 => exact ⟨_, rfl⟩))
  | ((with_reducible refine' iPutE ?h1 ?h2 ?h3); (case h1 => rfl); (case h2 => rfl))
  | ((with_reducible refine' iOp2E ?h1 ?h2 ?h3 ?h4); (case h1 => rfl); (case h2 => rfl); (case h3 => walk_at "hf"))
  | ((with_reducible refine' iCallE ?h1 ?h2 ?h3); (case h1 => rfl); (case h2 => walk_at "hf"))
  | (with_reducible refine ⟨_, rfl, ?_⟩)
  | ((with_reducible refine' ⟨_, ?h1, ?h2⟩); (case h1 => walk_at "hf"))
  | ((with_reducible refine' ⟨⟨_, ?h1⟩, ?h2⟩); (case h1 => rfl))
  | ((with_reducible refine' ⟨_, _, ?h1, ?h2, ?h3⟩); (case h1 => rfl); (case h2 => walk_at "hf"))
  | ((with_reducible refine' ⟨_, _, ?h1, ?h2, ?h3⟩); (case h1 => rfl); (case h2 => rfl))))
def BagOk (d : D) : Prop := ∃ a b c ns, d = bagD a b c ns ∧ ns.length ≤ 63
/-- a def that draws from the bag -/
def bagFn (g : FM) (args : List D) (P : D → Prop) : Prop := ∀ bag, BagOk bag → gives g (.own bag :: args.map .dat) fun d ps' => P d ∧ ∃ bag', BagOk bag' ∧ ps'.getD 0 .un = .own bag'
def bagE (g : FM) (b : Nat) (xs : List LV) (Q : D → List Slot → Prop) (ρ : List Slot) : Prop := ∃ ds bag1 P, argD ρ xs = some ds ∧ ρ[b]? = some (.own bag1) ∧ BagOk bag1 ∧ bagFn g ds P ∧ ∀ d bag2, P d → BagOk bag2 → Q d (ρ.set b (.own bag2))
theorem iBagE {ρ : List Slot} {g : FM} {b : Nat} {xs : List LV} {Q : D → List Slot → Prop} {ds : List D} {bag1 : D} {P : D → Prop} (h1 : argD ρ xs = some ds) (h2 : ρ[b]? = some (.own bag1)) (ok : BagOk bag1) (hP : bagFn g ds P) (k : ∀ d bag2, P d → BagOk bag2 → Q d (ρ.set b (.own bag2))) : bagE g b xs Q ρ := ⟨ds, bag1, P, h1, h2, ok, hP, k⟩
theorem iBag {ρ : List Slot} {g : FM} {as : List (M LV)} {b : Nat} {Q : D → List Slot → Prop} (hb : (sv ρ[b]?).isSome = true) (h : wp (mLs as) ρ fun xs ρ1 => bagE g b xs Q ρ1) : wp (mFn [0] g (mPk b :: as)) ρ Q := by
  refine wp_fn0 hb (h.mono fun xs ρ1 ⟨ds, bag1, P, h1, h2, h3, h4, h5⟩ => ⟨ds, h1, bag1, h2, ?_⟩)
  obtain ⟨d, ps', e, p, bag', ok, eb⟩ := h4 bag1 h3
  refine ⟨d, ps', e, ?_⟩
  show Q d (ρ1.set b (ps'.getD 0 .un))
  rw [eb]
  exact h5 d bag' p ok
def fnE (g : FM) (xs : List LV) (Q : D → List Slot → Prop) (ρ : List Slot) : Prop := ∃ ds, argD ρ xs = some ds ∧ gives g (ds.map .dat) fun d _ => Q d ρ
theorem iFn {ρ : List Slot} {g : FM} {as : List (M LV)} {Q : D → List Slot → Prop} (h : wp (mLs as) ρ fun xs ρ1 => fnE g xs Q ρ1) : wp (mFn [] g as) ρ Q := wp_fn h
/-- a def without a bag -/
def pureFn (g : FM) (args : List D) (P : D → Prop) : Prop := gives g (args.map .dat) fun d _ => P d
theorem gives.mono {g : FM} {ps : List Slot} {P P' : D → List Slot → Prop} (h : gives g ps P) (f : ∀ d ps', P d ps' → P' d ps') : gives g ps P' := let ⟨d, ps', e, p⟩ := h; ⟨d, ps', e, f d ps' p⟩
theorem iFnP {ρ : List Slot} {g : FM} {xs : List LV} {Q : D → List Slot → Prop} {ds : List D} {P : D → Prop} (h1 : argD ρ xs = some ds) (h2 : pureFn g ds P) (k : ∀ d, P d → Q d ρ) : fnE g xs Q ρ := ⟨ds, h1, h2.mono fun d _ p => k d p⟩
theorem bagFn.mono {g : FM} {args : List D} {P P' : D → Prop} (h : bagFn g args P) (f : ∀ d, P d → P' d) : bagFn g args P' := fun bag ok => let ⟨d, ps', e, p, q⟩ := h bag ok; ⟨d, ps', e, f d p, q⟩
def b_take : MS :=
  (mSq (mIfS (mTest (mOp2 eqD (mV (mOp2 ixD (mPk 0) (mV (mC (.int 0))))) (mV (mC (.int 0)))))
    (mSq (mSet 2 (mOp2 ixD (mV (mOp2 addL (mV (mSl slD (mV (mOp2 ixD (mPk 0) (mV (mC (.int 3))))) (someP (mOp2 ixD (mPk 0) (mV (mC (.int 2))))) noneP)) (mV (mLst [(mC (.int 0))])))) (mV (mC (.int 0)))))
  (mSq (mAugS 0 addI (mC (.int 2)) (mC (.int 1)))
  (mSq (mIfS (mTest (mOp2 geD (mPk 2) (mV (mOp2 powD (mV (mC (.int 10))) (mV (mC (.int 18)))))))
    (mSub 0 (mC (.int 0)) (mVar 2))
    mNx)
  (mSq (mSet 3 (mOp2 addD (mV (mOp2 addD (mV (mOp2 mulD (mV (mOp2 ixD (mPk 0) (mV (mC (.int 1))))) (mV (mC (.int 48271))))) (mV (mOp2 modD (mV (mCall intC [(mPk 2)])) (mV (mC (.int 2147483647))))))) (mV (mOp2 mulD (mV (mC (.int 7919))) (mV (mOp2 ixD (mPk 0) (mV (mC (.int 2)))))))))
  (mSub 0 (mC (.int 1)) (mOp2 modD (mV (mCall intC [(mPk 3)])) (mV (mC (.int 2147483647)))))))))
    mNx)
  (mSq (mIfS (mTest (mOp2 gtD (mV (mOp2 ixD (mPk 0) (mV (mC (.int 0))))) (mV (mC (.int 0)))))
    (mSq (mSet 4 (mOp2 modD (mV (mCall intC [(mV (mOp2 ixD (mPk 0) (mV (mC (.int 0)))))])) (mPk 1)))
  (mSq (mSub 0 (mC (.int 0)) (mOp2 fdivD (mV (mCall intC [(mV (mOp2 ixD (mPk 0) (mV (mC (.int 0)))))])) (mPk 1)))
  (mRet (mVar 4))))
    mNx)
  (mSq (mSet 5 (mOp2 modD (mV (mCall intC [(mV (mOp2 mulD (mV (mOp2 addD (mV (mOp2 ixD (mPk 0) (mV (mC (.int 1))))) (mV (mC (.int 1))))) (mV (mC (.int 39373)))))])) (mV (mC (.int 1000000007)))))
  (mSq (mSet 6 (mOp2 modD (mV (mCall intC [(mV (mOp2 mulD (mV (mOp2 modD (mV (mCall intC [(mV (mOp2 mulD (mPk 5) (mPk 5)))])) (mV (mC (.int 998244353))))) (mV (mC (.int 30011)))))])) (mV (mC (.int 998244353)))))
  (mRet (mOp2 modD (mV (mCall intC [(mV (mOp2 fdivD (mPk 6) (mV (mC (.int 7)))))])) (mPk 1)))))))
def g_take : FM := runF false 2 5 [0] b_take
theorem take_ok (a b c many : Int) (ns : List Int) (hm : 0 < many) (h2 : many < 1073741824) (hl : ns.length ≤ 63) : gives g_take [.own (bagD a b c ns), .dat (.int many)] fun d ps' => ∃ v a' b' c', d = .int v ∧ 0 ≤ v ∧ v < many ∧ ps'.getD 0 .un = .own (bagD a' b' c' ns) := by
  have hz : ∀ k, ((ns.map PyData.int).drop k).length + [PyData.int 0].length ≤ sizeLine := fun k => by
    rw [List.length_drop, List.length_map, sizeLine_eq, List.length_singleton]; omega
  have emod : ∀ x : Int, 0 ≤ x % many ∧ x % many < many := fun x => ⟨Int.emod_nonneg _ (by omega), Int.emod_lt_of_pos _ hm⟩
  unfold g_take
  refine run_gives rfl ?_
  unfold b_take bagD
  refine iSqM (fun ρ => ∃ a b c s2 s3, ρ = [.own (bagD a b c ns), .dat (.int many), s2, s3, .un, .un, .un]) ?_ ?_
  · repeat walk_at "m1"
    refine iteD (fun h0 => ?_) (fun h0 => ?_)
    · repeat walk_at "m1"
      obtain ⟨k, ek⟩ := cut_from (xs := ns.map PyData.int) (i := c)
      refine ⟨by decide, ?_⟩
      refine iOp2E rfl rfl (by rw [ek]; exact addL_list (hz k)) ?_
      repeat walk_at "m1"
      obtain ⟨n, en⟩ := next_int ns k
      refine iOp2E rfl rfl en ?_
      repeat walk_at "m1"
      refine iteD (fun h1 => ?_) (fun h1 => ?_) <;>
      · repeat walk_at "m1"
        exact ⟨rfl, _, _, _, _, _, rfl⟩
    · repeat walk_at "m1"
      exact ⟨rfl, a, b, c, .un, .un, rfl⟩
  · rintro ρ ⟨a, b, c, s2, s3, rfl⟩
    unfold bagD
    repeat walk_at "m1"
    refine iteD (fun h0 => ?_) (fun h0 => ?_)
    · repeat walk_at "m1"
      refine iOp2E rfl rfl (modD_of hm) ?_
      repeat walk_at "m1"
      refine iOp2E rfl rfl (fdivD_of hm h2) ?_
      repeat walk_at "m1"
      exact ⟨rfl, _, _, _, _, rfl, (emod _).1, (emod _).2, rfl⟩
    · repeat walk_at "m1"
      have small9 : small ((b + 1) * 39373 % 1000000007) = true := small_of (by omega) (by omega)
      refine iOp2E rfl rfl (mulD_l small9) ?_
      repeat walk_at "m1"
      refine iOp2E rfl rfl (fdivD_of (by decide) (by decide)) ?_
      repeat walk_at "m1"
      refine iOp2E rfl rfl (modD_of hm) ?_
      repeat walk_at "m1"
      exact ⟨rfl, _, _, _, _, rfl, (emod _).1, (emod _).2, rfl⟩

theorem take_fn {many : Int} (hm : 0 < many) (h2 : many < 1073741824) : bagFn g_take [.int many] fun d => ∃ v, d = .int v ∧ 0 ≤ v ∧ v < many := fun bag ⟨a, b, c, ns, e, hl⟩ => by
  subst e
  obtain ⟨d, ps', e, v, a', b', c', h⟩ := take_ok a b c many ns hm h2 hl
  exact ⟨d, ps', e, ⟨v, h.1, h.2.1, h.2.2.1⟩, _, ⟨a', b', c', ns, rfl, hl⟩, h.2.2.2⟩
def b_one : MS :=
  (mRet (mOp2 ixD (mPk 1) (mV (mFn [0] g_take [(mPk 0), (mV (mCall lenC [(mPk 1)]))]))))
def g_one : FM := runF false 2 0 [0] b_one
theorem at_int {xs : List D} {v : Int} (h0 : 0 ≤ v) (h1 : v < xs.length) : ∃ x, x ∈ xs ∧ L2.atI xs v = some x := by
  obtain ⟨n, rfl⟩ := Int.eq_ofNat_of_zero_le h0
  have hn : n < xs.length := by omega
  exact ⟨xs[n], List.getElem_mem hn, L2.atI_nat (List.getElem?_eq_getElem hn)⟩
theorem one_fn {t : D} {xs : List D} (ht : t = .list xs ∨ t = .tuple xs) (h0 : 0 < xs.length) (h1 : xs.length < 1073741824) : bagFn g_one [t] fun d => d ∈ xs := fun bag ok => by
  unfold g_one
  refine run_gives rfl ?_
  unfold b_one
  have hl : lenC [t] = some (.int xs.length) := by rcases ht with rfl | rfl <;> rfl
  have hx : ∀ v, ixD t (.int v) = L2.atI xs v := fun v => by rcases ht with rfl | rfl <;> rfl
  repeat walk_at "m1"
  refine iBag rfl ?_
  repeat walk_at "m1"
  refine iCallE rfl hl ?_
  repeat walk_at "m1"
  refine iBagE rfl rfl ok (take_fn (by omega) (by omega)) ?_
  rintro d bag2 ⟨v, rfl, v0, v1⟩ ok2
  obtain ⟨x, hm, hx'⟩ := at_int v0 v1
  refine iOp2E rfl rfl ((hx v).trans hx') ?_
  exact ⟨x, rfl, rfl, hm, bag2, ok2, rfl⟩
def b_mixed : MS :=
  (mSq (mSetO 2 (mLst []))
  (mSq (mFor (mIt (mVar 1)) (setS 3)
    (mDrop (mMut 2 insG (mDs [(mFn [0] g_take [(mPk 0), (mV (mOp2 addD (mV (mCall lenC [(mPk 2)])) (mV (mC (.int 1)))))]), (mVar 3)]))))
  (mSq (mRel 2) (mRet (mVar 2)))))
def g_mixed : FM := runF false 2 2 [0] b_mixed
theorem wIt {ρ : List Slot} {m : M D} {Q : List D → List Slot → Prop} (h : wp m ρ fun d ρ1 => ∃ ds, iterD d = some ds ∧ Q ds ρ1) : wp (mIt m) ρ Q := by
  unfold mIt
  exact wp_bind.mpr (h.mono fun d ρ1 q => wp_lift.mpr q)
theorem perm_ins {xs ys : List D} (x : D) (k : Nat) (h : ys.Perm xs) : (ys.take k ++ [x] ++ ys.drop k).Perm (xs ++ [x]) := by
  have e : (ys.take k ++ [x] ++ ys.drop k).Perm (ys.take k ++ ys.drop k ++ [x]) := by
    rw [List.append_assoc, List.append_assoc]
    exact List.Perm.append_left _ List.perm_append_comm
  rw [List.take_append_drop] at e
  exact e.trans (h.append_right [x])
theorem mixed_fn {t : D} {xs : List D} (ht : t = .list xs ∨ t = .tuple xs) (h1 : xs.length < 1048576) : bagFn g_mixed [t] fun d => ∃ ys, d = .list ys ∧ ys.Perm xs := fun bag ok => by
  unfold g_mixed
  refine run_gives rfl ?_
  unfold b_mixed
  have hi : iterD t = some xs := by rcases ht with rfl | rfl <;> rfl
  have hz := L2.line63
  repeat walk_at "m1"
  refine ⟨Nat.zero_le _, ?_⟩
  repeat walk_at "m1"
  refine iFor (wIt ?_)
  repeat walk_at "m1"
  refine ⟨_, hi, ?_⟩
  refine ⟨fun rest ρ => ∃ done ys bag s, xs = done ++ rest ∧ ys.Perm done ∧ BagOk bag ∧ ρ = [.own bag, .dat t, .own (.list ys), s], ⟨[], [], bag, .un, rfl, .refl _, ok, rfl⟩, ?_, ?_⟩
  · rintro ρ ⟨done, ys, bag, s, e, hp, ok2, rfl⟩
    rw [List.append_nil] at e
    subst e
    repeat walk_at "m1"
    refine iRel rfl ?_
    repeat walk_at "m1"
    exact ⟨rfl, ⟨ys, rfl, hp⟩, bag, ok2, rfl⟩
  · rintro d ds ρ ⟨done, ys, bag, s, e, hp, ok2, rfl⟩
    refine ⟨_, rfl, ?_⟩
    have hlen : ys.length < 1048576 := by
      have := congrArg List.length e
      rw [List.length_append, List.length_cons] at this
      have := hp.length_eq
      omega
    repeat walk_at "m1"
    refine iMut rfl ?_
    repeat walk_at "m1"
    refine iBag rfl ?_
    repeat walk_at "m1"
    refine iBagE rfl rfl ok2 (take_fn (by omega) (by omega)) ?_
    rintro v bag3 ⟨v, rfl, v0, v1⟩ ok3
    repeat walk_at "m1"
    refine iMutE rfl (if_pos ⟨by rw [sizeLine_eq]; omega, v0, by omega⟩) ?_
    exact ⟨done ++ [d], _, bag3, _, by rw [e, List.append_assoc]; rfl, perm_ins d v.toNat hp, ok3, rfl⟩
end CF
end
section
/-! CF, part z1: what may be shown and compared; alike, flat. -/
namespace CF
open PySem
local macro_rules | `(tactic| walk_at "hf") => `(tactic| (first
  | with_reducible exact eqD_int | with_reducible exact eqD_str | with_reducible exact neD_int | with_reducible exact addD_int | with_reducible exact addI_int | with_reducible exact subD_int | with_reducible exact geD_int | with_reducible exact gtD_int | with_reducible exact leD_int | with_reducible exact ltD_int | with_reducible exact modD_of (by decide) | with_reducible exact mulD_r (by decide) | with_reducible exact mulD_l (by decide) | with_reducible exact powD_of (by decide) | with_reducible exact ix0 | ((with_reducible show ixD (.list _) (.int _) = _); rfl) | ((with_reducible show ixD (.tuple _) (.int _) = _); rfl)
  | with_reducible exact intC_int | with_reducible exact lenC_list | with_reducible exact lenC_tuple | with_reducible exact tupleC_list | with_reducible exact listC_tuple | with_reducible exact listC_dict | with_reducible exact slD_list | with_reducible exact slD_tuple))
local macro_rules | `(tactic| walk_at "m1") => `(tactic| (first
  | with_reducible refine iSq ?_ | with_reducible refine iThn ?_ | with_reducible refine iIfS ?_ | with_reducible refine iSet ?_ | with_reducible refine iSetO ?_ | with_reducible refine iRet ?_ | with_reducible refine iNx ?_ | with_reducible refine iThnR ?_
  | with_reducible refine iTest ?_ | with_reducible refine iOp2 ?_ | ((with_reducible refine' iPk ?h1 ?h2); (case h1 => rfl)) | with_reducible refine iV ?_ | with_reducible refine iC ?_ | ((with_reducible refine' iVar ?h1 ?h2); (case h1 => rfl))
  | with_reducible refine iCall ?_ | with_reducible refine iLs0 ?_ | with_reducible refine iLs ?_ | with_reducible refine iSub ?_ | with_reducible refine iSl ?_ | with_reducible refine iSome ?_ | with_reducible refine iNone ?_ | with_reducible refine iLst ?_ | with_reducible refine iTup ?_ | with_reducible refine iDs0 ?_ | with_reducible refine iDs ?_
  | with_reducible refine iAnd ?_ | with_reducible refine iOr ?_ | with_reducible refine iNot ?_ | with_reducible refine iBl ?_ | with_reducible refine iIf ?_ | with_reducible refine iDrop ?_ | with_reducible refine iYes ?_ | with_reducible refine iPar ?_
  | ((with_reducible refine' iAugS ?h1 ?h2); (case h1 => exact ⟨_, rfl⟩))
  | ((with_reducible refine' iPutE ?h1 ?h2 ?h3); (case h1 => rfl); (case h2 => rfl))
  | ((with_reducible refine' iOp2E ?h1 ?h2 ?h3 ?h4); (case h1 => rfl); (case h2 => rfl); (case h3 => walk_at "hf"))
  | ((with_reducible refine' iCallE ?h1 ?h2 ?h3); (case h1 => rfl); (case h2 => walk_at "hf"))
  | (with_reducible refine ⟨_, rfl, ?_⟩)
  | ((with_reducible refine' ⟨_, ?h1, ?h2⟩); (case h1 => walk_at "hf"))
  | ((with_reducible refine' ⟨⟨_, ?h1⟩, ?h2⟩); (case h1 => rfl))
  | ((with_reducible refine' ⟨_, _, ?h1, ?h2, ?h3⟩); (case h1 => rfl); (case h2 => walk_at "hf"))
  | ((with_reducible refine' ⟨_, _, ?h1, ?h2, ?h3⟩); (case h1 => rfl); (case h2 => rfl))))
structure Fine (n k : Nat) (d : D) : Prop where
  sh : d.showable = true
  ln : d.shown.length ≤ n
  dp : d.depth ≤ k
theorem Fine.mono {n k n' k' : Nat} {d : D} (h : Fine n k d) (hn : n ≤ n') (hk : k ≤ k') : Fine n' k' d := ⟨h.sh, Nat.le_trans h.ln hn, Nat.le_trans h.dp hk⟩
theorem Fine.can {n k : Nat} {d : D} (h : Fine n k d) (hn : n ≤ sizeLine) (hk : k ≤ 60) : canShow d = true := by
  unfold canShow
  rw [h.sh, decide_eq_true (Nat.le_trans h.dp hk), decide_eq_true (Nat.le_trans h.ln hn)]
  rfl
theorem fine_none {k : Nat} : Fine 4 k .none := ⟨rfl, by decide, Nat.zero_le _⟩
theorem fine_int {k : Nat} {i : Int} (h : i.natAbs < 10 ^ 40) : Fine 41 k (.int i) := by
  refine ⟨?_, ?_, Nat.zero_le _⟩
  · show decide (i.natAbs.log2 < 1920) = true
    refine decide_eq_true ?_
    by_cases h0 : i.natAbs = 0
    · rw [h0]; decide
    · exact (Nat.log2_lt h0).mpr (Nat.lt_trans h (by decide))
  · have h1 := int_text_length_le10 (a := i) (k := 40) (by decide) h
    show (Str.ofString (toString i)).length ≤ 41
    rw [ofString_length]
    exact h1
theorem textFrom_le : ∀ (ts : List Str) (n k : Nat) (acc : Str), (∀ t ∈ ts, t.length ≤ n) → (textFrom k acc ts).length ≤ acc.length + ts.length * (n + 2)
  | [], n, k, acc, _ => by show acc.length ≤ _; omega
  | t :: r, n, k, acc, h => by
    have h1 := h t (List.mem_cons_self ..)
    have ih := textFrom_le r n (k + 1) (acc ++ (if k > 0 then ", " else "" : String) ++ t) fun x hx => h x (List.mem_cons_of_mem _ hx)
    have e : (acc ++ (if k > 0 then ", " else "" : String) ++ t).length = acc.length + (if k > 0 then 2 else 0) + t.length := by
      rw [strLen_append, strLen_append]
      split <;> rfl
    show (textFrom (k + 1) (acc ++ (if k > 0 then ", " else "" : String) ++ t) r).length ≤ _
    have h2 : (if k > 0 then 2 else 0) ≤ 2 := by split <;> omega
    rw [e] at ih
    rw [List.length_cons, Nat.succ_mul]
    omega
theorem piled_le : ∀ (ts : List Str) (n : Nat), (∀ t ∈ ts, t.length ≤ n) → piled ts ≤ ts.length * (n + 2)
  | [], n, _ => by simp [piled]
  | t :: r, n, h => by
    have h1 := h t (List.mem_cons_self ..)
    have ih := piled_le r n fun x hx => h x (List.mem_cons_of_mem _ hx)
    rw [List.length_cons, Nat.succ_mul]
    simp [piled] at ih ⊢
    omega
theorem shownAll_map : ∀ ds : List D, PyData.shownAll ds = ds.map PyData.shown
  | [] => rfl
  | d :: ds => by rw [PyData.shownAll, shownAll_map ds]; rfl
theorem showableAll_of : ∀ {ds : List D}, (∀ d ∈ ds, d.showable = true) → PyData.showableAll ds = true
  | [], _ => by rw [PyData.showableAll]
  | d :: ds, h => by rw [PyData.showableAll, h d (List.mem_cons_self ..), showableAll_of fun x hx => h x (List.mem_cons_of_mem _ hx)]; rfl
theorem depthAll_le : ∀ {ds : List D} {k : Nat}, (∀ d ∈ ds, d.depth ≤ k) → PyData.depthAll ds ≤ k
  | [], k, _ => by rw [PyData.depthAll]; exact Nat.zero_le _
  | d :: ds, k, h => by rw [PyData.depthAll]; exact Nat.max_le.mpr ⟨h d (List.mem_cons_self ..), depthAll_le fun x hx => h x (List.mem_cons_of_mem _ hx)⟩
theorem fine_list {n k m : Nat} {ds : List D} (h : ∀ d ∈ ds, Fine n k d) (hm : ds.length ≤ m) : Fine (m * (n + 2) + 4) (k + 1) (.list ds) := by
  refine ⟨by rw [PyData.showable]; exact showableAll_of fun d hd => (h d hd).sh, ?_, by rw [PyData.depth]; exact Nat.succ_le_succ (depthAll_le fun d hd => (h d hd).dp)⟩
  rw [PyData.shown, shownAll_map]
  unfold listText
  rw [strLen_append]
  have q := textFrom_le (ds.map PyData.shown) n 0 "[" (fun t ht => by obtain ⟨d, hd, rfl⟩ := List.mem_map.mp ht; exact (h d hd).ln)
  rw [List.length_map] at q
  have q2 : ds.length * (n + 2) ≤ m * (n + 2) := Nat.mul_le_mul_right _ hm
  have e1 : (("[" : String) : Str).length = 1 := rfl
  have e2 : (("]" : String) : Str).length = 1 := rfl
  omega
theorem join_le {ts : List Str} {n : Nat} (h : ∀ t ∈ ts, t.length ≤ n) : (Str.join ", " ts).length ≤ ts.length * (n + 2) := by
  cases ts with
  | nil => exact Nat.zero_le _
  | cons t r =>
    have e := join_length_add (t :: r) (by simp)
    have q := piled_le (t :: r) n h
    omega
theorem fine_tuple {n k m : Nat} {ds : List D} (h : ∀ d ∈ ds, Fine n k d) (hm : ds.length ≤ m) : Fine (m * (n + 2) + 4) (k + 1) (.tuple ds) := by
  refine ⟨by rw [PyData.showable]; exact showableAll_of fun d hd => (h d hd).sh, ?_, by rw [PyData.depth]; exact Nat.succ_le_succ (depthAll_le fun d hd => (h d hd).dp)⟩
  rw [PyData.shown, shownAll_map]
  unfold tupleText
  rw [strLen_append, strLen_append]
  have q := join_le (ts := ds.map PyData.shown) (n := n) (fun t ht => by obtain ⟨d, hd, rfl⟩ := List.mem_map.mp ht; exact (h d hd).ln)
  rw [List.length_map] at q
  have q2 : ds.length * (n + 2) ≤ m * (n + 2) := Nat.mul_le_mul_right _ hm
  have e1 : (("(" : String) : Str).length = 1 := rfl
  have e2 : ∀ b : Bool, ((if b then ",)" else ")" : String) : Str).length ≤ 2 := fun b => by cases b <;> decide
  have := e2 ((ds.map PyData.shown).length == 1)
  omega
def b_alike : MS :=
  (mRet (mBl (mAnd (mTest (mOp2 eqD (mPk 0) (mPk 1))) (mTest (mOp2 eqD (mV (mCall reprC [(mPk 0)])) (mV (mCall reprC [(mPk 1)])))))))
def g_alike : FM := runF false 2 0 [] b_alike
/-- what may be compared and shown -/
structure Nice (d : D) : Prop where
  cl : d.canLay0 = true
  dp : d.depth ≤ 60
  sh : canShow d = true
theorem repr_of {d : D} (h : canShow d = true) : reprC [d] = some (.str d.shown) := if_pos h
theorem alike_fn {d : D} (h : Nice d) : pureFn g_alike [d, d] (· = .bool true) := by
  unfold g_alike pureFn
  refine run_gives rfl ?_
  unfold b_alike
  repeat walk_at "m1"
  refine iOp2E rfl rfl (eqD_self h.cl (by have := h.dp; omega)) ?_
  repeat walk_at "m1"
  refine iteT ?_
  repeat walk_at "m1"
  refine iCallE rfl (repr_of h.sh) ?_
  repeat walk_at "m1"
  refine iCallE rfl (repr_of h.sh) ?_
  repeat walk_at "m1"
  exact ⟨rfl, by rw [decide_eq_true rfl]⟩
def b_flat : MS :=
  (mSq (mSetO 1 (mLst []))
  (mSq (mFor (mIt (mVar 0)) (setS 2)
    (mDrop (mMut 1 extG (mDs [(mVar 2)]))))
  (mSq (mRel 1) (mRet (mVar 1)))))
def g_flat : FM := runF false 1 2 [] b_flat
/-- a row of a list or a tuple -/
def rowOf : D → Option (List D)
  | .list xs => some xs
  | .tuple xs => some xs
  | _ => none
theorem rowOf_ext {d : D} {xs ys : List D} (h : rowOf d = some xs) (hz : ys.length + xs.length ≤ sizeLine) : extG ys [d] = some (.none, ys ++ xs) := by
  unfold rowOf at h
  split at h
  · cases h; exact if_pos hz
  · cases h; exact if_pos hz
  · cases h
theorem flat_fn {t : D} {rows : List D} {xss : List (List D)} (ht : rowOf t = some rows) (hr : rows.map rowOf = xss.map some) (hz : xss.flatten.length ≤ sizeLine) : pureFn g_flat [t] (· = .list xss.flatten) := by
  unfold g_flat pureFn
  refine run_gives rfl ?_
  unfold b_flat
  have hi : iterD t = some rows := by
    unfold rowOf at ht
    split at ht
    · cases ht; rfl
    · cases ht; rfl
    · cases ht
  repeat walk_at "m1"
  refine ⟨Nat.zero_le _, ?_⟩
  repeat walk_at "m1"
  refine iFor (wIt ?_)
  repeat walk_at "m1"
  refine ⟨_, hi, ?_⟩
  refine ⟨fun rest ρ => ∃ done xs s, xss.flatten = done ++ xs.flatten ∧ rest.map rowOf = xs.map some ∧ ρ = [.dat t, .own (.list done), s], ⟨[], xss, .un, rfl, hr, rfl⟩, ?_, ?_⟩
  · rintro ρ ⟨done, xs, s, e, hx, rfl⟩
    have : xs = [] := by
      cases xs with
      | nil => rfl
      | cons x r => simp at hx
    subst this
    rw [List.flatten_nil, List.append_nil] at e
    repeat walk_at "m1"
    refine iRel rfl ?_
    repeat walk_at "m1"
    exact ⟨rfl, by rw [e]⟩
  · rintro d ds ρ ⟨done, xs, s, e, hx, rfl⟩
    refine ⟨_, rfl, ?_⟩
    cases xs with
    | nil => simp at hx
    | cons x r =>
      rw [List.map_cons, List.map_cons, List.cons.injEq] at hx
      have hl := congrArg List.length e
      rw [List.flatten_cons, List.length_append, List.length_append] at hl
      repeat walk_at "m1"
      refine iMut rfl ?_
      repeat walk_at "m1"
      refine iMutE rfl (rowOf_ext hx.1 (by omega)) ?_
      exact ⟨done ++ x, r, _, by rw [e, List.flatten_cons, List.append_assoc], hx.2, rfl⟩
end CF
end
section
/-! CF, part z2: the laws' own helpers: houses, tables, lots. -/
namespace CF
open PySem
theorem sz0 : ([] : List D).length ≤ sizeLine := Nat.zero_le _
theorem sz1 {a : D} : [a].length ≤ sizeLine := show 1 ≤ sizeLine by decide
theorem sz2 {a b : D} : [a, b].length ≤ sizeLine := show 2 ≤ sizeLine by decide
theorem sz3 {a b c : D} : [a, b, c].length ≤ sizeLine := show 3 ≤ sizeLine by decide
theorem sz4 {a b c d : D} : [a, b, c, d].length ≤ sizeLine := show 4 ≤ sizeLine by decide
theorem sz5 {a b c d e : D} : [a, b, c, d, e].length ≤ sizeLine := show 5 ≤ sizeLine by decide
local macro_rules | `(tactic| walk_at "hf") => `(tactic| (first
  | with_reducible exact eqD_int | with_reducible exact eqD_str | with_reducible exact neD_int | with_reducible exact addD_int | with_reducible exact addI_int | with_reducible exact subD_int | with_reducible exact geD_int | with_reducible exact gtD_int | with_reducible exact leD_int | with_reducible exact ltD_int | with_reducible exact modD_of (by decide) | with_reducible exact mulD_r (by decide) | with_reducible exact mulD_l (by decide) | with_reducible exact powD_of (by decide) | with_reducible exact ix0 | ((with_reducible show ixD (.list _) (.int _) = _); rfl) | ((with_reducible show ixD (.tuple _) (.int _) = _); rfl)
  | with_reducible exact intC_int | with_reducible exact lenC_list | with_reducible exact lenC_tuple | with_reducible exact tupleC_list | with_reducible exact listC_tuple | with_reducible exact listC_dict | with_reducible exact isN_none | with_reducible exact isN_int | with_reducible exact notN_none | with_reducible exact notN_int | with_reducible exact min2_int | with_reducible exact max2_int | with_reducible exact slD_list | with_reducible exact slD_tuple))
local macro_rules | `(tactic| walk_at "m1") => `(tactic| (first
  | with_reducible refine iSq ?_ | with_reducible refine iThn ?_ | with_reducible refine iIfS ?_ | with_reducible refine iSet ?_ | with_reducible refine iSetB ?_ | with_reducible refine iSetO ?_ | with_reducible refine iRet ?_ | with_reducible refine iNx ?_ | with_reducible refine iThnR ?_
  | with_reducible refine iTest ?_ | with_reducible refine iOp2 ?_ | ((with_reducible refine' iPk ?h1 ?h2); (case h1 => rfl)) | with_reducible refine iV ?_ | with_reducible refine iC ?_ | ((with_reducible refine' iVar ?h1 ?h2); (case h1 => rfl))
  | with_reducible refine iCall ?_ | with_reducible refine iLs0 ?_ | with_reducible refine iLs ?_ | with_reducible refine iSub ?_ | with_reducible refine iSl ?_ | with_reducible refine iSome ?_ | with_reducible refine iNone ?_ | with_reducible refine iLst ?_ | with_reducible refine iTup ?_ | with_reducible refine iDs0 ?_ | with_reducible refine iDs ?_
  | with_reducible refine iAnd ?_ | with_reducible refine iOr ?_ | with_reducible refine iNot ?_ | with_reducible refine iBl ?_ | with_reducible refine iIf ?_ | with_reducible refine iDrop ?_ | with_reducible refine iYes ?_ | with_reducible refine iPar ?_
  | ((with_reducible refine' iAugS ?h1 ?h2); (case h1 => exact ⟨_, rfl⟩))
  | ((with_reducible refine' iPutE ?h1 ?h2 ?h3); (case h1 => rfl); (case h2 => rfl))
  | ((with_reducible refine' iOp2E ?h1 ?h2 ?h3 ?h4); (case h1 => rfl); (case h2 => rfl); (case h3 => walk_at "hf"))
  | ((with_reducible refine' iCallE ?h1 ?h2 ?h3); (case h1 => rfl); (case h2 => walk_at "hf"))
  | with_reducible refine ⟨sz0, ?_⟩ | with_reducible refine ⟨sz1, ?_⟩ | with_reducible refine ⟨sz2, ?_⟩ | with_reducible refine ⟨sz3, ?_⟩ | with_reducible refine ⟨sz4, ?_⟩ | with_reducible refine ⟨sz5, ?_⟩
  | (with_reducible refine ⟨_, rfl, ?_⟩)
  | ((with_reducible refine' ⟨_, ?h1, ?h2⟩); (case h1 => walk_at "hf"))
  | ((with_reducible refine' ⟨⟨_, ?h1⟩, ?h2⟩); (case h1 => rfl))
  | ((with_reducible refine' ⟨_, _, ?h1, ?h2, ?h3⟩); (case h1 => rfl); (case h2 => walk_at "hf"))
  | ((with_reducible refine' ⟨_, _, ?h1, ?h2, ?h3⟩); (case h1 => rfl); (case h2 => rfl))))

/-! ### sorting -/
def isS : D → Bool
  | .str _ => true
  | _ => false
def isI : D → Bool
  | .int _ => true
  | _ => false
theorem canSort_strs {ds : List D} (h : ∀ d ∈ ds, isS d = true) : canSort ds = true := by
  have k : ∀ d ∈ ds, ∃ x, d = .str x := fun d hd => by
    have := h d hd
    cases d <;> first | exact ⟨_, rfl⟩ | cases this
  unfold canSort
  rw [Bool.and_eq_true, Bool.and_eq_true, Bool.or_eq_true]
  refine ⟨⟨?_, .inr ?_⟩, ?_⟩ <;> rw [List.all_eq_true]
  · intro d hd
    rw [List.all_eq_true]
    intro e he
    obtain ⟨x, rfl⟩ := k d hd
    obtain ⟨y, rfl⟩ := k e he
    rfl
  · intro d hd
    obtain ⟨x, rfl⟩ := k d hd
    rfl
  · intro d hd
    obtain ⟨x, rfl⟩ := k d hd
    rfl
theorem canSort_ints {ds : List D} (h : ∀ d ∈ ds, isI d = true) : canSort ds = true := by
  have k : ∀ d ∈ ds, ∃ x, d = .int x := fun d hd => by
    have := h d hd
    cases d <;> first | exact ⟨_, rfl⟩ | cases this
  unfold canSort
  rw [Bool.and_eq_true, Bool.and_eq_true, Bool.or_eq_true]
  refine ⟨⟨?_, .inr ?_⟩, ?_⟩ <;> rw [List.all_eq_true]
  · intro d hd
    rw [List.all_eq_true]
    intro e he
    obtain ⟨x, rfl⟩ := k d hd
    obtain ⟨y, rfl⟩ := k e he
    rfl
  · intro d hd
    obtain ⟨x, rfl⟩ := k d hd
    rfl
  · intro d hd
    obtain ⟨x, rfl⟩ := k d hd
    rfl
theorem sortedC_of {ds : List D} (h : canSort ds = true) : sortedC [.list ds] = some (.list (sortL false ds)) := if_pos h
theorem cut_to {xs : List D} (k : Nat) : cutL xs none (some (k : Int)) = xs.take k := by
  unfold cutL
  rw [HT.sIx_none, HT.sIx_nat, List.drop_zero, Nat.sub_zero]
  by_cases h : k ≤ xs.length
  · rw [Nat.min_eq_left h]
  · rw [Nat.min_eq_right (by omega), List.take_length, List.take_of_length_le (by omega)]
/-! ### names -/
def menuD : List D := [.str (Str.ofString "a"), .str (Str.ofString "b"), .str (Str.ofString "c"), .str (Str.ofString "ab"), .str (Str.ofString "rank"), .str (Str.ofString "kth"), .str (Str.ofString "open"), .str (Str.ofString "sort"), .str (Str.ofString "rows"), .str (Str.ofString "is"), .str (Str.ofString "at"), .str (Str.ofString "count"), .str (Str.ofString "fact"), .str (Str.ofString "zzzzzz"), .str (Str.ofString "x"), .str (Str.ofString "gym"), .str (Str.ofString "jvl")]
theorem menu_S : ∀ d ∈ menuD, isS d = true := fun d h => by
  have : menuD.all isS = true := rfl
  exact List.all_eq_true.mp this d h
/-! ### a house -/
def b_sort : MS :=
  (mSq (mPar 2 3 (mFn [0] g_take [(mPk 0), (mV (mC (.int 7)))]) (mFn [0] g_one [(mPk 0), (mV (mLst [(mC (.int 0)), (mC (.int 1)), (mC (.int 2)), (mC (.int 1)), (mC (.int 3))]))]))
  (mSq (mIfS (mTest (mOp2 ltD (mPk 2) (mV (mC (.int 3)))))
    (mRet (mTup [(mVar 1), (mC (.int 1)), (mC (.int 1))]))
    mNx)
  (mSq (mIfS (mTest (mOp2 eqD (mPk 2) (mV (mC (.int 3)))))
    (mRet (mTup [(mVar 1), (mVar 3), (mVar 3)]))
    mNx)
  (mSq (mIfS (mTest (mOp2 eqD (mPk 2) (mV (mC (.int 4)))))
    (mRet (mTup [(mVar 1), (mC (.int 0)), (mOp2 addD (mV (mC (.int 1))) (mV (mFn [0] g_take [(mPk 0), (mV (mC (.int 3)))])))]))
    mNx)
  (mSq (mIfS (mTest (mOp2 eqD (mPk 2) (mV (mC (.int 5)))))
    (mRet (mTup [(mVar 1), (mVar 3), (mOp2 addD (mPk 3) (mV (mFn [0] g_one [(mPk 0), (mV (mLst [(mC (.int 1)), (mC (.int 2)), (mC (.int 0)), (mC (.int 6))]))])))]))
    mNx)
  (mRet (mTup [(mVar 1), (mVar 3), (mC .none)])))))))
def g_sort : FM := runF false 2 2 [0] b_sort

theorem int_mem {xs : List D} {lo hi : Int} (h : xs.all (fun d => match d with | .int n => decide (lo ≤ n ∧ n ≤ hi) | _ => false) = true) {d : D} (hd : d ∈ xs) : ∃ n, d = .int n ∧ lo ≤ n ∧ n ≤ hi := by
  have := List.all_eq_true.mp h d hd
  cases d with
  | int n => exact ⟨n, rfl, of_decide_eq_true this⟩
  | _ => cases this
/-! ### numbers, sizes -/
def b_numbers : MS :=
  (mSq (mSetB (bTup [1, 2]) (mTup [(mFn [0] g_one [(mPk 0), (mV (mLst [(mC (.int 0)), (mOp1 negD (mV (mC (.int 2)))), (mC (.int 5)), (mC (.int 0)), (mOp2 subD (mV (mC (.int 1))) (mV (mOp2 powD (mV (mC (.int 10))) (mV (mC (.int 30))))))]))]), (mFn [0] g_one [(mPk 0), (mV (mLst [(mC (.int 1)), (mC (.int 2)), (mC (.int 1)), (mC (.int 3)), (mOp2 powD (mV (mC (.int 10))) (mV (mC (.int 29))))]))])]))
  (mRet (mLC [3] (mRng1 (mV (mOp2 addD (mV (mC (.int 1))) (mV (mFn [0] g_take [(mPk 0), (mV (mC (.int 7)))]))))) (setS 3) mYes (mOp2 addD (mPk 1) (mV (mOp2 mulD (mPk 2) (mPk 3)))))))
def g_numbers : FM := runF false 1 3 [0] b_numbers

def b_size : MS :=
  (mSq (mSet 3 (mIf (mTest (mOp2 isND (mV (mOp2 ixD (mPk 1) (mV (mC (.int 2))))) (mV (mC .none)))) (mOp2 addD (mV (mOp2 ixD (mPk 1) (mV (mC (.int 1))))) (mPk 2)) (mCall min2C [(mV (mOp2 ixD (mPk 1) (mV (mC (.int 2))))), (mV (mOp2 addD (mV (mOp2 ixD (mPk 1) (mV (mC (.int 1))))) (mPk 2)))])))
  (mRet (mOp2 addD (mV (mOp2 ixD (mPk 1) (mV (mC (.int 1))))) (mV (mFn [0] g_take [(mPk 0), (mV (mOp2 addD (mV (mOp2 subD (mPk 3) (mV (mOp2 ixD (mPk 1) (mV (mC (.int 1))))))) (mV (mC (.int 1)))))])))))
def g_size : FM := runF false 3 1 [0] b_size

/-! ### tables -/
theorem menu_key : ∀ d ∈ menuD, isKey d = true ∧ keyEq d d = true := fun d h => by
  have := menu_S d h
  cases d with
  | str x => exact ⟨rfl, by simp [keyEq]⟩
  | _ => cases this
theorem put_some {k d : D} {es : List (D × D)} (h : k ∈ menuD) (hl : es.length < 1000000) : putD (.dict es) k d = some (.dict (putL es k d)) := by
  show (if (isKey k && decide (es.length < sizeLine)) = true then _ else _) = _
  rw [if_pos]
  rw [(menu_key k h).1, decide_eq_true (by rw [sizeLine_eq]; omega)]
  rfl
def b_table : MS :=
  (mSq (mSetO 4 (mC (.dict [])))
  (mSq (mFor (mIt (mFn [0] g_mixed [(mPk 0), (mPk 1)])) (setS 5)
    (mSub 4 (mOp2 ixD (mPk 5) (mV (mC (.int 0)))) (mCall tupleC [(mV (mCall sortedC [(mV (mLC [6] (mRng1 (mV (mFn [0] g_size [(mPk 0), (mPk 5), (mPk 3)]))) (setS 6) mYes (mFn [0] g_one [(mPk 0), (mPk 2)])))]))])))
  (mSq (mRel 4) (mRet (mVar 4)))))
def g_table : FM := runF false 4 3 [0] b_table

/-! ### lots, ranks -/
def b_lot : MS :=
  (mSq (mSet 2 (mLC [3] (mIt (mVar 1)) (setS 3) mYes (mOp2 ixD (mPk 3) (mV (mC (.int 0))))))
  (mRet (mCall tupleC [(mV (mCall sortedC [(mV (mSl slD (mV (mFn [0] g_mixed [(mPk 0), (mPk 2)])) noneP (someP (mOp2 addD (mV (mC (.int 1))) (mV (mFn [0] g_take [(mPk 0), (mV (mCall lenC [(mPk 2)]))]))))))]))])))
def g_lot : FM := runF false 2 2 [0] b_lot

def NameIn (ss : List D) (l : D) : Prop := l ∈ menuD ∧ ∃ lo hi, PyData.tuple [l, lo, hi] ∈ ss
def b_rank : MS :=
  (mRet (mTup [(mC (.str (Str.ofString "rank"))), (mFn [0] g_lot [(mPk 0), (mPk 1)]), (mOp2 addD (mV (mC (.int 1))) (mV (mFn [0] g_one [(mPk 0), (mV (mLst [(mC (.int 0)), (mC (.int 0)), (mFn [0] g_take [(mPk 0), (mPk 2)])]))])))]))
def g_rank : FM := runF false 3 0 [0] b_rank

def RankOk (ss : List D) (d : D) : Prop := ∃ ls k, d = .tuple [.str (Str.ofString "rank"), .tuple ls, .int k] ∧ ls.length ≤ ss.length ∧ (∀ l ∈ ls, NameIn ss l) ∧ 1 ≤ k ∧ k ≤ 100
end CF
end
section
/-! CF, part z3: the laws' own helpers: formulas. -/
namespace CF
open PySem
local macro_rules | `(tactic| walk_at "hf") => `(tactic| (first
  | with_reducible exact eqD_int | with_reducible exact eqD_str | with_reducible exact neD_int | with_reducible exact addD_int | with_reducible exact addI_int | with_reducible exact subD_int | with_reducible exact geD_int | with_reducible exact gtD_int | with_reducible exact leD_int | with_reducible exact ltD_int | with_reducible exact modD_of (by decide) | with_reducible exact mulD_r (by decide) | with_reducible exact mulD_l (by decide) | with_reducible exact powD_of (by decide) | with_reducible exact ix0 | ((with_reducible show ixD (.list _) (.int _) = _); rfl) | ((with_reducible show ixD (.tuple _) (.int _) = _); rfl)
  | with_reducible exact intC_int | with_reducible exact lenC_list | with_reducible exact lenC_tuple | with_reducible exact tupleC_list | with_reducible exact listC_tuple | with_reducible exact listC_dict | with_reducible exact isN_none | with_reducible exact isN_int | with_reducible exact notN_none | with_reducible exact notN_int | with_reducible exact min2_int | with_reducible exact max2_int | with_reducible exact slD_list | with_reducible exact slD_tuple))
local macro_rules | `(tactic| walk_at "m1") => `(tactic| (first
  | with_reducible refine iSq ?_ | with_reducible refine iThn ?_ | with_reducible refine iIfS ?_ | with_reducible refine iSet ?_ | with_reducible refine iSetB ?_ | with_reducible refine iSetO ?_ | with_reducible refine iRet ?_ | with_reducible refine iNx ?_ | with_reducible refine iThnR ?_
  | with_reducible refine iTest ?_ | with_reducible refine iOp2 ?_ | ((with_reducible refine' iPk ?h1 ?h2); (case h1 => rfl)) | with_reducible refine iV ?_ | with_reducible refine iC ?_ | ((with_reducible refine' iVar ?h1 ?h2); (case h1 => rfl))
  | with_reducible refine iCall ?_ | with_reducible refine iLs0 ?_ | with_reducible refine iLs ?_ | with_reducible refine iSub ?_ | with_reducible refine iSl ?_ | with_reducible refine iSome ?_ | with_reducible refine iNone ?_ | with_reducible refine iLst ?_ | with_reducible refine iTup ?_ | with_reducible refine iDs0 ?_ | with_reducible refine iDs ?_
  | with_reducible refine iAnd ?_ | with_reducible refine iOr ?_ | with_reducible refine iNot ?_ | with_reducible refine iBl ?_ | with_reducible refine iIf ?_ | with_reducible refine iDrop ?_ | with_reducible refine iYes ?_ | with_reducible refine iPar ?_
  | ((with_reducible refine' iAugS ?h1 ?h2); (case h1 => exact ⟨_, rfl⟩))
  | ((with_reducible refine' iPutE ?h1 ?h2 ?h3); (case h1 => rfl); (case h2 => rfl))
  | ((with_reducible refine' iOp2E ?h1 ?h2 ?h3 ?h4); (case h1 => rfl); (case h2 => rfl); (case h3 => walk_at "hf"))
  | ((with_reducible refine' iCallE ?h1 ?h2 ?h3); (case h1 => rfl); (case h2 => walk_at "hf"))
  | with_reducible refine ⟨sz0, ?_⟩ | with_reducible refine ⟨sz1, ?_⟩ | with_reducible refine ⟨sz2, ?_⟩ | with_reducible refine ⟨sz3, ?_⟩ | with_reducible refine ⟨sz4, ?_⟩ | with_reducible refine ⟨sz5, ?_⟩
  | (with_reducible refine ⟨_, rfl, ?_⟩)
  | ((with_reducible refine' ⟨_, ?h1, ?h2⟩); (case h1 => walk_at "hf"))
  | ((with_reducible refine' ⟨⟨_, ?h1⟩, ?h2⟩); (case h1 => rfl))
  | ((with_reducible refine' ⟨_, _, ?h1, ?h2, ?h3⟩); (case h1 => rfl); (case h2 => walk_at "hf"))
  | ((with_reducible refine' ⟨_, _, ?h1, ?h2, ?h3⟩); (case h1 => rfl); (case h2 => rfl))))

/-! ### calls that are lent two objects -/
def fn2E (g : FM) (b l : Nat) (xs : List LV) (Q : D → List Slot → Prop) (ρ : List Slot) : Prop := ∃ d1 d2 d3 c e, argD ρ xs = some [d1, d2, d3] ∧ ρ[b]? = some (.own c) ∧ ρ[l]? = some (.own e) ∧ gives g [.own c, .dat d1, .dat d2, .dat d3, .own e] fun d ps' => Q d ((ρ.set b (ps'.getD 0 .un)).set l (ps'.getD 4 .un))
theorem argD_len {ρ : List Slot} : ∀ {xs : List LV} {ds : List D}, argD ρ xs = some ds → xs.length = ds.length
  | [], ds, h => by cases h; rfl
  | .dat d :: xs, ds, h => by
    obtain ⟨r, h1, rfl⟩ := Option.map_eq_some_iff.mp h
    simp [argD_len h1]
  | .slot i :: xs, ds, h => by
    unfold argD at h
    split at h
    · obtain ⟨r, h1, rfl⟩ := Option.map_eq_some_iff.mp h
      simp [argD_len h1]
    · cases h
theorem fn2_go {g : FM} {b l : Nat} {xs : List LV} {Q : D → List Slot → Prop} {ρ : List Slot} (n : b ≠ l) (h : fn2E g b l xs Q ρ) : ∃ ps d ps', argS [0, 4] ρ 0 (.slot b :: (xs ++ [.slot l])) = some ps ∧ ioIx [0, 4] 0 (.slot b :: (xs ++ [.slot l])) = [(0, b), (4, l)] ∧ g ps = some (.ok d ps') ∧ Q d (backF [(0, b), (4, l)] ps' ρ) := by
  obtain ⟨d1, d2, d3, c, e, ha, hb, hl, d, ps', hg, q⟩ := h
  have h3 := argD_len ha
  match xs, h3, ha with
  | [x1, x2, x3], _, ha =>
    refine ⟨[.own c, .dat d1, .dat d2, .dat d3, .own e], d, ps', ?_, ?_, hg, by rw [backF_two n]; exact q⟩
    · have step : ∀ {j : Nat} {x : LV} {rest : List LV} {ds : List D} {d : D}, [0, 4].contains j = false → argD ρ [x] = some [d] → argS [0, 4] ρ j (x :: rest) = (argS [0, 4] ρ (j + 1) rest).map (.dat d :: ·) := by
        intro j x rest ds d hc hx
        cases x with
        | dat z =>
          cases hx
          conv => lhs; unfold argS
          rw [hc]; rfl
        | slot i =>
          unfold argD at hx
          split at hx
          · rename_i z hz
            cases hx
            conv => lhs; unfold argS
            rw [hz]
            simp only [hc]
            rfl
          · cases hx
      have one : ∀ {x : LV} {rest : List LV} {d : D} {ds : List D}, argD ρ (x :: rest) = some (d :: ds) → argD ρ [x] = some [d] ∧ argD ρ rest = some ds := by
        intro x rest d ds h
        cases x with
        | dat z =>
          obtain ⟨r, h1, h2⟩ := Option.map_eq_some_iff.mp h
          cases h2
          exact ⟨rfl, h1⟩
        | slot i =>
          unfold argD at h
          split at h
          · rename_i z hz
            obtain ⟨r, h1, h2⟩ := Option.map_eq_some_iff.mp h
            cases h2
            refine ⟨?_, h1⟩
            unfold argD
            rw [hz]
            rfl
          · cases h
      obtain ⟨a1, r1⟩ := one ha
      obtain ⟨a2, r2⟩ := one r1
      obtain ⟨a3, _⟩ := one r2
      show argS [0, 4] ρ 0 [.slot b, x1, x2, x3, .slot l] = _
      have e4 : argS [0, 4] ρ 4 [.slot l] = some [.own e] := by
        unfold argS
        rw [hl]
        rfl
      have e0 : argS [0, 4] ρ 0 [.slot b, x1, x2, x3, .slot l] = (argS [0, 4] ρ 1 [x1, x2, x3, .slot l]).map (.own c :: ·) := by
        conv => lhs; unfold argS
        rw [hb]
        rfl
      rw [e0, step (ds := []) rfl a1, step (ds := []) rfl a2, step (ds := []) rfl a3, e4]
      rfl
    · have io : ∀ {j : Nat} {x : LV} {rest : List LV}, [0, 4].contains j = false → ioIx [0, 4] j (x :: rest) = ioIx [0, 4] (j + 1) rest := by
        intro j x rest hc
        cases x with
        | dat z => rfl
        | slot i =>
          conv => lhs; unfold ioIx
          rw [hc]; rfl
      show ioIx [0, 4] 0 [.slot b, x1, x2, x3, .slot l] = _
      have e0 : ioIx [0, 4] 0 [.slot b, x1, x2, x3, .slot l] = (0, b) :: ioIx [0, 4] 1 [x1, x2, x3, .slot l] := rfl
      rw [e0, io rfl, io rfl, io rfl]
      rfl
theorem iFn2 {ρ : List Slot} {g : FM} {a1 a2 a3 : M LV} {b l : Nat} {Q : D → List Slot → Prop} (n : b ≠ l) (hb : (sv ρ[b]?).isSome = true) (h : wp (mLs [a1, a2, a3]) ρ fun xs ρ1 => (sv ρ1[l]?).isSome = true ∧ fn2E g b l xs Q ρ1) : wp (mFn [0, 4] g [mPk b, a1, a2, a3, mPk l]) ρ Q := by
  unfold mFn
  refine wp_bind.mpr ?_
  refine iLs (iPk hb ?_)
  have h' : wp (mLs [a1, a2, a3, mPk l]) ρ fun xs ρ1 => ∃ ys, xs = ys ++ [.slot l] ∧ fn2E g b l ys Q ρ1 := by
    refine iLs ?_
    simp only [mLs_cons, mLs_nil, wp_bind, wp_pure] at h ⊢
    refine h.mono fun x1 ρ1 h => h.mono fun x2 ρ2 h => h.mono fun x3 ρ3 h => ?_
    exact wp_pk.mpr ⟨h.1, [x1, x2, x3], rfl, h.2⟩
  refine h'.mono fun xs ρ1 q => ?_
  obtain ⟨ys, rfl, q⟩ := q
  obtain ⟨ps, d, ps', e1, e2, e3, q⟩ := fn2_go n q
  refine ⟨d, _, ?_, q⟩
  simp only
  rw [e2, e1]
  simp only [List.map_cons, List.map_nil]
  rw [if_pos (by simpa using n), e3]
/-! ### formulas -/
def b_formula (r_formula : FM) : MS :=
  (mSq (mAugS 4 subD (mC (.int 0)) (mC (.int 1)))
  (mSq (mIfS (mOr (mTest (mOp2 ltD (mPk 2) (mV (mC (.int 2))))) (mOr (mTest (mOp2 ltD (mV (mOp2 ixD (mPk 4) (mV (mC (.int 0))))) (mV (mC (.int 2))))) (mTest (mOp2 ltD (mV (mFn [0] g_take [(mPk 0), (mV (mC (.int 5)))])) (mV (mC (.int 2)))))))
    (mRet (mFn [0] g_rank [(mPk 0), (mPk 1), (mPk 3)]))
    mNx)
  (mSq (mSetO 5 (mLst []))
  (mSq (mFor (mRng1 (mV (mOp2 addD (mV (mC (.int 1))) (mV (mFn [0] g_one [(mPk 0), (mV (mLst [(mC (.int 1)), (mC (.int 1)), (mC (.int 0)), (mC (.int 2))]))]))))) (setS 6)
    (mIfS (mTest (mOp2 gtD (mV (mOp2 ixD (mPk 4) (mV (mC (.int 0))))) (mV (mC (.int 0)))))
    (mDrop (mMut 5 appG (mDs [(mFn [0, 4] r_formula [(mPk 0), (mPk 1), (mV (mOp2 subD (mPk 2) (mV (mC (.int 1))))), (mPk 3), (mPk 4)])])))
    mNx))
  (mRet (mTup [(mC (.str (Str.ofString "kth"))), (mFn [0] g_one [(mPk 0), (mV (mLst [(mC (.int 1)), (mCall lenC [(mPk 5)]), (mOp2 addD (mV (mC (.int 1))) (mV (mFn [0] g_take [(mPk 0), (mV (mCall lenC [(mPk 5)]))])))]))]), (mCall tupleC [(mPk 5)])]))))))
def g_formula : Nat → FM
  | 0 => fm0
  | n + 1 => runF false 5 2 [0, 4] (b_formula (g_formula n))
inductive FormOk (ss : List D) (w : Nat) : Nat → D → Prop
  | rank {k : Nat} {d : D} : RankOk ss d → FormOk ss w k d
  | kth {k : Nat} {q : Int} {ps : List D} : 1 ≤ q → q ≤ ps.length → ps.length ≤ w → (∀ p ∈ ps, FormOk ss w k p) → FormOk ss w (k + 1) (.tuple [.str (Str.ofString "kth"), .int q, .tuple ps])
theorem app_ok {xs : List D} {d : D} (h : xs.length < 1000000) : appG xs [d] = some (.none, xs ++ [d]) := if_pos (by rw [sizeLine_eq]; omega)
theorem iFnT2 {ρ : List Slot} {g : FM} {a1 a2 a3 : M LV} {md : M D} {b : Nat} {Q : D → List Slot → Prop} (hb : (sv ρ[b]?).isSome = true) (h : wp (mLs [a1, a2, a3]) ρ fun xs ρ1 => wp md ρ1 fun d ρ2 => b ≠ ρ2.length ∧ fn2E g b ρ2.length xs (fun r ρ3 => Q r (ρ3.take ρ2.length)) (ρ2 ++ [.own d])) : wp (mFnT [0, 4] g [mPk b, a1, a2, a3] md) ρ Q := by
  unfold mFnT
  refine wp_bind.mpr ?_
  refine iLs (iPk hb ?_)
  refine h.mono fun ys ρ1 h => ?_
  refine wp_bind.mpr ?_
  refine h.mono fun d ρ2 ⟨n, q⟩ => ?_
  have hl : ys.length = 3 := by
    obtain ⟨d1, d2, d3, c, e, ha, _⟩ := q
    exact argD_len ha
  obtain ⟨ps, r, ps', e1, e2, e3, q⟩ := fn2_go n q
  refine ⟨r, _, ?_, q⟩
  simp only
  rw [show LV.slot b :: ys ++ [LV.slot ρ2.length] = .slot b :: (ys ++ [.slot ρ2.length]) from rfl, e2, e1]
  simp only [List.map_cons, List.map_nil]
  rw [if_pos, e3]
  rw [List.length_cons, hl]
  simpa using n
def b_any_formula : MS :=
  (mRet (mFnT [0, 4] (g_formula 20) [(mPk 0), (mPk 1), (mV (mFn [0] g_one [(mPk 0), (mV (mLst [(mC (.int 1)), (mC (.int 2)), (mC (.int 2)), (mC (.int 3)), (mC (.int 4))]))])), (mV (mFn [0] g_one [(mPk 0), (mV (mLst [(mC (.int 2)), (mC (.int 3)), (mC (.int 2)), (mC (.int 9))]))]))] (mLst [(mC (.int 12))])))
def g_any_formula : FM := runF false 2 0 [0] b_any_formula

end CF
end
section
/-! CF, part z4: values of formulas. -/
namespace CF
open PySem
local macro_rules | `(tactic| walk_at "hf") => `(tactic| (first
  | with_reducible exact eqD_int | with_reducible exact eqD_str | with_reducible exact neD_int | with_reducible exact addD_int | with_reducible exact addI_int | with_reducible exact subD_int | with_reducible exact geD_int | with_reducible exact gtD_int | with_reducible exact leD_int | with_reducible exact ltD_int | with_reducible exact modD_of (by decide) | with_reducible exact mulD_r (by decide) | with_reducible exact mulD_l (by decide) | with_reducible exact powD_of (by decide) | with_reducible exact ix0 | ((with_reducible show ixD (.list _) (.int _) = _); rfl) | ((with_reducible show ixD (.tuple _) (.int _) = _); rfl)
  | with_reducible exact intC_int | with_reducible exact lenC_list | with_reducible exact lenC_tuple | with_reducible exact tupleC_list | with_reducible exact listC_tuple | with_reducible exact listC_dict | with_reducible exact isN_none | with_reducible exact isN_int | with_reducible exact notN_none | with_reducible exact notN_int | with_reducible exact min2_int | with_reducible exact max2_int | with_reducible exact slD_list | with_reducible exact slD_tuple))
local macro_rules | `(tactic| walk_at "m1") => `(tactic| (first
  | with_reducible refine iSq ?_ | with_reducible refine iThn ?_ | with_reducible refine iIfS ?_ | with_reducible refine iSet ?_ | with_reducible refine iSetB ?_ | with_reducible refine iSetO ?_ | with_reducible refine iRet ?_ | with_reducible refine iNx ?_ | with_reducible refine iThnR ?_
  | with_reducible refine iTest ?_ | with_reducible refine iOp2 ?_ | ((with_reducible refine' iPk ?h1 ?h2); (case h1 => rfl)) | with_reducible refine iV ?_ | with_reducible refine iC ?_ | ((with_reducible refine' iVar ?h1 ?h2); (case h1 => rfl))
  | with_reducible refine iCall ?_ | with_reducible refine iLs0 ?_ | with_reducible refine iLs ?_ | with_reducible refine iSub ?_ | with_reducible refine iSl ?_ | with_reducible refine iSome ?_ | with_reducible refine iNone ?_ | with_reducible refine iLst ?_ | with_reducible refine iTup ?_ | with_reducible refine iDs0 ?_ | with_reducible refine iDs ?_
  | with_reducible refine iAnd ?_ | with_reducible refine iOr ?_ | with_reducible refine iNot ?_ | with_reducible refine iBl ?_ | with_reducible refine iIf ?_ | with_reducible refine iDrop ?_ | with_reducible refine iYes ?_ | with_reducible refine iPar ?_
  | ((with_reducible refine' iAugS ?h1 ?h2); (case h1 => exact ⟨_, rfl⟩))
  | ((with_reducible refine' iPutE ?h1 ?h2 ?h3); (case h1 => rfl); (case h2 => rfl))
  | ((with_reducible refine' iOp2E ?h1 ?h2 ?h3 ?h4); (case h1 => rfl); (case h2 => rfl); (case h3 => walk_at "hf"))
  | ((with_reducible refine' iCallE ?h1 ?h2 ?h3); (case h1 => rfl); (case h2 => walk_at "hf"))
  | with_reducible refine ⟨sz0, ?_⟩ | with_reducible refine ⟨sz1, ?_⟩ | with_reducible refine ⟨sz2, ?_⟩ | with_reducible refine ⟨sz3, ?_⟩ | with_reducible refine ⟨sz4, ?_⟩ | with_reducible refine ⟨sz5, ?_⟩
  | (with_reducible refine ⟨_, rfl, ?_⟩)
  | ((with_reducible refine' ⟨_, ?h1, ?h2⟩); (case h1 => walk_at "hf"))
  | ((with_reducible refine' ⟨⟨_, ?h1⟩, ?h2⟩); (case h1 => rfl))
  | ((with_reducible refine' ⟨_, _, ?h1, ?h2, ?h3⟩); (case h1 => rfl); (case h2 => walk_at "hf"))
  | ((with_reducible refine' ⟨_, _, ?h1, ?h2, ?h3⟩); (case h1 => rfl); (case h2 => rfl))))

/-- a comprehension with a test: both are told -/
theorem iLCF {ρ : List Slot} {Q : D → List Slot → Prop} {vs : List Nat} {src : M (List D)} {b : D → M Unit} {t : M Bool} {elt : M D} (h : wp src ρ fun ds ρ1 => ds.length ≤ sizeLine ∧ (vs.all fun v => !isOwn (ρ1.getD v .un)) = true ∧ ∃ (I : List Slot → Prop) (p : D → Bool) (f : D → D), I ρ1 ∧
    (∀ d ∈ ds, ∀ ρ2, I ρ2 → ∃ ρ3, b d (wipeS ρ2 vs) = some (.ok () ρ3) ∧ wp t ρ3 fun c ρ4 => c = p d ∧ if p d = true then wp elt ρ4 fun y ρ5 => y = f d ∧ I ρ5 else I ρ4) ∧ ∀ ρ2, I ρ2 → Q (.list ((ds.filter p).map f)) (backS ρ1 ρ2 vs)) : wp (mLC vs src b t elt) ρ Q := by
  unfold mLC
  refine wp_bind.mpr (h.mono fun ds ρ1 ⟨hl, hv, I, p, f, i0, it, ie⟩ => ?_)
  have go : ∀ (ds' acc : List D) (ρ2 : List Slot), (∀ d ∈ ds', d ∈ ds) → acc.length + ds'.length ≤ sizeLine → I ρ2 → ∃ ρ3, lcGo vs b t elt ds' acc ρ2 = some (.ok (acc ++ (ds'.filter p).map f) ρ3) ∧ I ρ3 := by
    intro ds'
    induction ds' with
    | nil => exact fun acc ρ2 _ _ i => ⟨ρ2, by simp; rfl, i⟩
    | cons d ds' ih =>
      intro acc ρ2 hm hz i
      rw [List.length_cons] at hz
      obtain ⟨ρ3, e3, c, ρ4, e4, ec, q4⟩ := it d (hm d (List.mem_cons_self ..)) ρ2 i
      have body : ∀ {acc2 : List D} {ρ5 : List Slot}, (∀ R : D → Prop, True) → (if c = true then (do let y ← elt; if acc.length < sizeLine then lcGo vs b t elt ds' (acc ++ [y]) else fun _ => none : M (List D)) else lcGo vs b t elt ds' acc) ρ4 = some (.ok acc2 ρ5) → lcGo vs b t elt (d :: ds') acc ρ2 = some (.ok acc2 ρ5) := by
        intro acc2 ρ5 _ hb
        have hw : wp (lcGo vs b t elt (d :: ds') acc) ρ2 (fun r ρ' => r = acc2 ∧ ρ' = ρ5) := by
          show wp ((fun ρ => some (.ok () (wipeS ρ vs)) : M Unit) >>= _) ρ2 _
          refine wp_bind.mpr ⟨(), _, rfl, ?_⟩
          refine wp_bind.mpr ⟨(), ρ3, e3, ?_⟩
          refine wp_bind.mpr ⟨c, ρ4, e4, ?_⟩
          exact ⟨_, _, hb, rfl, rfl⟩
        obtain ⟨r, ρ', e, rfl, rfl⟩ := hw
        exact e
      cases hp : p d with
      | true =>
        rw [hp] at ec q4
        rw [if_pos rfl] at q4
        obtain ⟨y, ρ5, e5, ey, i5⟩ := q4
        obtain ⟨ρ6, e6, i6⟩ := ih (acc ++ [y]) ρ5 (fun d' h => hm d' (List.mem_cons_of_mem _ h)) (by rw [List.length_append, List.length_singleton]; omega) i5
        refine ⟨ρ6, body (fun _ => trivial) ?_, i6⟩
        rw [if_pos ec]
        have hw : wp (do let y ← elt; if acc.length < sizeLine then lcGo vs b t elt ds' (acc ++ [y]) else fun _ => none : M (List D)) ρ4 (fun r ρ' => r = acc ++ ((d :: ds').filter p).map f ∧ ρ' = ρ6) := by
          refine wp_bind.mpr ⟨y, ρ5, e5, ?_⟩
          have e7 : (if acc.length < sizeLine then lcGo vs b t elt ds' (acc ++ [y]) else fun _ => none) ρ5 = some (.ok ((acc ++ [y]) ++ (ds'.filter p).map f) ρ6) := by rw [if_pos (by omega)]; exact e6
          refine ⟨_, _, e7, ?_, rfl⟩
          rw [List.filter_cons, if_pos hp, List.map_cons, ← ey, List.append_assoc]
          rfl
        obtain ⟨r, ρ', e, rfl, rfl⟩ := hw
        exact e
      | false =>
        rw [hp] at ec q4
        rw [if_neg Bool.false_ne_true] at q4
        obtain ⟨ρ6, e6, i6⟩ := ih acc ρ4 (fun d' h => hm d' (List.mem_cons_of_mem _ h)) (by omega) q4
        refine ⟨ρ6, body (fun _ => trivial) ?_, i6⟩
        rw [if_neg (by rw [ec]; exact Bool.false_ne_true), e6, List.filter_cons, if_neg (by rw [hp]; exact Bool.false_ne_true)]
  obtain ⟨ρ3, e, i3⟩ := go ds [] ρ1 (fun _ h => h) (by simpa using hl) i0
  rw [List.nil_append] at e
  refine ⟨_, backS ρ1 ρ3 vs, ?_, ie ρ3 i3⟩
  simp only
  rw [if_pos hv, e]
/-! ### whole numbers in order -/
def ascI (ns : List Int) : List Int := ns.mergeSort fun a b => decide (a ≤ b)
def descI (ns : List Int) : List Int := ns.mergeSort fun a b => decide (b ≤ a)
theorem sort_asc (ns : List Int) : sortL false (ns.map PyData.int) = (ascI ns).map PyData.int :=
  (PySem.W.sort_maps (s := PySem.W.dataLe false id) PyData.int fun a _ b _ => (congrFun (congrFun (PySem.W.dataLe_int (β := Int) id) a) b).symm).symm
theorem asc_perm (ns : List Int) : (ascI ns).Perm ns := List.mergeSort_perm _ _
theorem desc_perm (ns : List Int) : (descI ns).Perm ns := List.mergeSort_perm _ _
theorem asc_pw (ns : List Int) : (ascI ns).Pairwise (· ≤ ·) := by
  have h := List.pairwise_mergeSort (le := fun a b : Int => decide (a ≤ b)) (fun a b c h1 h2 => by simp at *; omega) (fun a b => by simp; omega) ns
  exact h.imp fun {a b} z => by simpa using z
theorem desc_pw (ns : List Int) : (descI ns).Pairwise (fun a b => b ≤ a) := by
  have h := List.pairwise_mergeSort (le := fun a b : Int => decide (b ≤ a)) (fun a b c h1 h2 => by simp at *; omega) (fun a b => by simp; omega) ns
  exact h.imp fun {a b} z => by simpa using z
theorem asc_unique {as bs : List Int} (h : as.Perm bs) (ha : as.Pairwise (· ≤ ·)) (hb : bs.Pairwise (· ≤ ·)) : as = bs := h.eq_of_pairwise (fun a b _ _ h1 h2 => by omega) ha hb
theorem asc_of {as ns : List Int} (h : as.Perm ns) (ha : as.Pairwise (· ≤ ·)) : as = ascI ns := asc_unique (h.trans (asc_perm ns).symm) ha (asc_pw ns)
theorem desc_rev (ns : List Int) : descI ns = (ascI ns).reverse := by
  have : (descI ns).reverse = ascI ns := asc_of ((List.reverse_perm _).trans (desc_perm ns)) (by rw [List.pairwise_reverse]; exact desc_pw ns)
  rw [← this, List.reverse_reverse]
/-- the k-th from above -/
def kthI (ns : List Int) (k : Int) : Option Int := if k ≤ ns.length then (descI ns)[(k - 1).toNat]? else none
def optD : Option Int → D
  | none => .none
  | some i => .int i
/-! ### rows of a lot -/
theorem intsD_map : ∀ ns : List Int, intsD (ns.map PyData.int) = some ns
  | [] => rfl
  | n :: ns => by
    show (intsD (ns.map PyData.int)).map (n :: ·) = _
    rw [intsD_map ns]; rfl
def rowI (es : List (D × D)) (l : D) : List Int := match lookD es l with
  | some (.tuple xs) => (intsD xs).getD []
  | _ => []
def RowsOf (es : List (D × D)) (ls : List D) : Prop := ∀ l ∈ ls, isKey l = true ∧ ∃ ns : List Int, lookD es l = some (.tuple (ns.map PyData.int)) ∧ ns.length ≤ 99
theorem rowI_at {es : List (D × D)} {ls : List D} (h : RowsOf es ls) {l : D} (hl : l ∈ ls) : ixD (.dict es) l = some (.tuple ((rowI es l).map PyData.int)) ∧ (rowI es l).length ≤ 99 := by
  obtain ⟨hk, ns, e, hn⟩ := h l hl
  have er : rowI es l = ns := by unfold rowI; rw [e]; simp [intsD_map]
  rw [er]
  refine ⟨?_, hn⟩
  show (if isKey l = true then lookD es l else none) = _
  rw [if_pos hk, e]
def allR (es : List (D × D)) (ls : List D) : List Int := (ls.map (rowI es)).flatten
theorem allR_len {es : List (D × D)} : ∀ {ls : List D}, RowsOf es ls → (allR es ls).length ≤ 99 * ls.length
  | [], _ => by simp [allR]
  | l :: ls, h => by
    have a := (rowI_at h (List.mem_cons_self ..)).2
    have b := allR_len (ls := ls) fun x hx => h x (List.mem_cons_of_mem _ hx)
    unfold allR at b ⊢
    rw [List.map_cons, List.flatten_cons, List.length_append, List.length_cons]
    omega
theorem int_I {ns : List Int} : ∀ d ∈ ns.map PyData.int, isI d = true := fun d hd => by obtain ⟨n, _, rfl⟩ := List.mem_map.mp hd; rfl
/-! ### the k-th -/
/-! ### values -/
theorem map_of {xs ys : List D} {f : D → D} (hl : ys.length = xs.length) (h : ∀ (j : Nat) (d r : D), xs[j]? = some d → ys[j]? = some r → r = f d) : ys = xs.map f := by
  apply List.ext_getElem (by rw [List.length_map, hl])
  intro j h1 h2
  rw [List.length_map] at h2
  rw [List.getElem_map]
  exact h j _ _ (List.getElem?_eq_getElem h2) (List.getElem?_eq_getElem h1)
def sRank : Str := Str.ofString "rank"
def sKth : Str := Str.ofString "kth"
def evalN (es : List (D × D)) : Nat → D → Option Int
  | 0, _ => none
  | n + 1, .tuple [.str t, a, b] => if t = sRank then (match a, b with
      | .tuple ls, .int k => kthI (allR es ls) k
      | _, _ => none) else (match a, b with
      | .int q, .tuple ps => kthI ((ps.map (evalN es n)).filterMap id) q
      | _, _ => none)
  | _ + 1, _ => none
theorem eval_rank {es : List (D × D)} {n : Nat} {ls : List D} {k : Int} : evalN es (n + 1) (.tuple [.str sRank, .tuple ls, .int k]) = kthI (allR es ls) k := by
  unfold evalN
  rw [if_pos rfl]
theorem eval_kth {es : List (D × D)} {n : Nat} {ps : List D} {q : Int} : evalN es (n + 1) (.tuple [.str sKth, .int q, .tuple ps]) = kthI ((ps.map (evalN es n)).filterMap id) q := by
  conv => lhs; unfold evalN
  rw [if_neg (by decide)]
def TabFor (es : List (D × D)) (ss : List D) : Prop := ∀ l, NameIn ss l → isKey l = true ∧ ∃ ns : List Int, lookD es l = some (.tuple (ns.map PyData.int)) ∧ ns.length ≤ 99
theorem TabFor.rows {es : List (D × D)} {ss ls : List D} (h : TabFor es ss) (hl : ∀ l ∈ ls, NameIn ss l) : RowsOf es ls := fun l hm => h l (hl l hm)
end CF
end
section
/-! CF, part z5: the law's own values. -/
namespace CF
open PySem
local macro_rules | `(tactic| walk_at "hf") => `(tactic| (first
  | with_reducible exact eqD_int | with_reducible exact eqD_str | with_reducible exact neD_int | with_reducible exact addD_int | with_reducible exact addI_int | with_reducible exact subD_int | with_reducible exact geD_int | with_reducible exact gtD_int | with_reducible exact leD_int | with_reducible exact ltD_int | with_reducible exact modD_of (by decide) | with_reducible exact mulD_r (by decide) | with_reducible exact mulD_l (by decide) | with_reducible exact powD_of (by decide) | with_reducible exact ix0 | ((with_reducible show ixD (.list _) (.int _) = _); rfl) | ((with_reducible show ixD (.tuple _) (.int _) = _); rfl)
  | with_reducible exact intC_int | with_reducible exact lenC_list | with_reducible exact lenC_tuple | with_reducible exact tupleC_list | with_reducible exact listC_tuple | with_reducible exact listC_dict | with_reducible exact isN_none | with_reducible exact isN_int | with_reducible exact notN_none | with_reducible exact notN_int | with_reducible exact min2_int | with_reducible exact max2_int | with_reducible exact slD_list | with_reducible exact slD_tuple))
local macro_rules | `(tactic| walk_at "m1") => `(tactic| (first
  | with_reducible refine iSq ?_ | with_reducible refine iThn ?_ | with_reducible refine iIfS ?_ | with_reducible refine iSet ?_ | with_reducible refine iSetB ?_ | with_reducible refine iSetO ?_ | with_reducible refine iRet ?_ | with_reducible refine iNx ?_ | with_reducible refine iThnR ?_
  | with_reducible refine iTest ?_ | with_reducible refine iOp2 ?_ | ((with_reducible refine' iPk ?h1 ?h2); (case h1 => rfl)) | with_reducible refine iV ?_ | with_reducible refine iC ?_ | ((with_reducible refine' iVar ?h1 ?h2); (case h1 => rfl))
  | with_reducible refine iCall ?_ | with_reducible refine iLs0 ?_ | with_reducible refine iLs ?_ | with_reducible refine iSub ?_ | with_reducible refine iSl ?_ | with_reducible refine iSome ?_ | with_reducible refine iNone ?_ | with_reducible refine iLst ?_ | with_reducible refine iTup ?_ | with_reducible refine iDs0 ?_ | with_reducible refine iDs ?_
  | with_reducible refine iAnd ?_ | with_reducible refine iOr ?_ | with_reducible refine iNot ?_ | with_reducible refine iBl ?_ | with_reducible refine iIf ?_ | with_reducible refine iDrop ?_ | with_reducible refine iYes ?_ | with_reducible refine iPar ?_
  | ((with_reducible refine' iAugS ?h1 ?h2); (case h1 => exact ⟨_, rfl⟩))
  | ((with_reducible refine' iPutE ?h1 ?h2 ?h3); (case h1 => rfl); (case h2 => rfl))
  | ((with_reducible refine' iOp2E ?h1 ?h2 ?h3 ?h4); (case h1 => rfl); (case h2 => rfl); (case h3 => walk_at "hf"))
  | ((with_reducible refine' iCallE ?h1 ?h2 ?h3); (case h1 => rfl); (case h2 => walk_at "hf"))
  | with_reducible refine ⟨sz0, ?_⟩ | with_reducible refine ⟨sz1, ?_⟩ | with_reducible refine ⟨sz2, ?_⟩ | with_reducible refine ⟨sz3, ?_⟩ | with_reducible refine ⟨sz4, ?_⟩ | with_reducible refine ⟨sz5, ?_⟩
  | (with_reducible refine ⟨_, rfl, ?_⟩)
  | ((with_reducible refine' ⟨_, ?h1, ?h2⟩); (case h1 => walk_at "hf"))
  | ((with_reducible refine' ⟨⟨_, ?h1⟩, ?h2⟩); (case h1 => rfl))
  | ((with_reducible refine' ⟨_, _, ?h1, ?h2, ?h3⟩); (case h1 => rfl); (case h2 => walk_at "hf"))
  | ((with_reducible refine' ⟨_, _, ?h1, ?h2, ?h3⟩); (case h1 => rfl); (case h2 => rfl))))

def keyO : Option Int → D
  | none => .tuple [.int 0, .int 0]
  | some v => .tuple [.int 1, .int v]
def leO : Option Int → Option Int → Bool
  | none, _ => true
  | some _, none => false
  | some a, some b => decide (a ≤ b)
theorem leO_key (a b : Option Int) : leO a b = PySem.W.dataLe false id (keyO a) (keyO b) := by
  show _ = !PySem.W.dataLt (keyO b) (keyO a)
  cases a <;> cases b <;> simp only [keyO, leO, PySem.W.dataLt_ii] <;> rw [Bool.eq_iff_iff] <;> simp
theorem keys_sort (os : List (Option Int)) : sortL false (os.map keyO) = (os.mergeSort leO).map keyO :=
  (PySem.W.sort_maps (s := PySem.W.dataLe false id) keyO fun a _ b _ => leO_key a b).symm
def nons (os : List (Option Int)) : Nat := (os.filter (·.isNone)).length
theorem os_perm : ∀ os : List (Option Int), (List.replicate (nons os) none ++ (os.filterMap id).map some).Perm os
  | [] => by simp [nons]
  | none :: os => by
    have ih := os_perm os
    have e : nons (none :: os) = nons os + 1 := by simp [nons]
    rw [e, List.replicate_succ]
    exact ih.cons none
  | some v :: os => by
    have ih := os_perm os
    have e : nons (some v :: os) = nons os := by simp [nons]
    rw [e]
    have : (List.filterMap id (some v :: os)).map some = some v :: (os.filterMap id).map some := by simp
    rw [this]
    exact List.perm_middle.trans (ih.cons (some v))
theorem os_sort (os : List (Option Int)) : os.mergeSort leO = List.replicate (nons os) none ++ (ascI (os.filterMap id)).map some := by
  have tr : ∀ a b c : Option Int, leO a b = true → leO b c = true → leO a c = true := by
    intro a b c h1 h2
    cases a <;> cases b <;> cases c <;> simp [leO] at * <;> omega
  have tot : ∀ a b : Option Int, (leO a b || leO b a) = true := by
    intro a b
    cases a <;> cases b <;> simp [leO] <;> omega
  refine List.Perm.eq_of_pairwise (le := fun a b => leO a b = true) (fun a b _ _ h1 h2 => ?_) (List.pairwise_mergeSort tr tot os) ?_ ?_
  · cases a <;> cases b <;> simp [leO] at * <;> omega
  · rw [List.pairwise_append]
    refine ⟨?_, ?_, ?_⟩
    · rw [List.pairwise_replicate]
      exact .inr rfl
    · rw [List.pairwise_map]
      exact (asc_pw _).imp fun {a b} h => by simp [leO]; exact h
    · intro a ha b _
      rw [(List.mem_replicate.mp ha).2]
      rfl
  · exact (List.mergeSort_perm _ _).trans ((os_perm os).symm.trans (List.Perm.append_left _ ((asc_perm _).symm.map some)))
theorem os_len (os : List (Option Int)) : nons os + (os.filterMap id).length = os.length := by
  have := (os_perm os).length_eq
  rw [List.length_append, List.length_replicate, List.length_map] at this
  exact this
/-- the key that stands for the k-th from above -/
theorem os_at {os : List (Option Int)} {q : Int} (q0 : 1 ≤ q) (q1 : q ≤ os.length) : (os.mergeSort leO)[os.length - q.toNat]? = some (kthI (os.filterMap id) q) := by
  obtain ⟨j, hj⟩ := Int.eq_ofNat_of_zero_le (by omega : 0 ≤ q)
  subst hj
  rw [os_sort, Int.toNat_natCast]
  have hl := os_len os
  unfold kthI
  by_cases h : (j : Int) ≤ (os.filterMap id).length
  · rw [if_pos h, List.getElem?_append_right (by rw [List.length_replicate]; omega), List.length_replicate, List.getElem?_map]
    have hd : (descI (os.filterMap id))[((j : Int) - 1).toNat]? = (ascI (os.filterMap id))[(os.filterMap id).length - j]? := by
      rw [desc_rev, List.getElem?_reverse (by rw [(asc_perm _).length_eq]; omega), (asc_perm _).length_eq]
      congr 1
      omega
    rw [hd, show os.length - j - nons os = (os.filterMap id).length - j by omega]
    have hb : (os.filterMap id).length - j < (ascI (os.filterMap id)).length := by rw [(asc_perm _).length_eq]; omega
    rw [List.getElem?_eq_getElem hb]
    rfl
  · rw [if_neg h, List.getElem?_append_left (by rw [List.length_replicate]; omega), List.getElem?_replicate, if_pos (by omega)]
def b_key : MS :=
  (mRet (mIf (mTest (mOp2 isND (mPk 0) (mV (mC .none)))) (mTup [(mC (.int 0)), (mC (.int 0))]) (mTup [(mC (.int 1)), (mVar 0)])))
def g_key : FM := runF false 1 0 [] b_key

theorem key_fn (o : Option Int) : pureFn g_key [optD o] (· = keyO o) := by
  cases o with
  | none =>
    show gives (runF false 1 0 [] b_key) [.dat .none] _
    refine run_gives rfl ?_
    unfold b_key
    repeat walk_at "m1"
    refine iteT ?_
    repeat walk_at "m1"
    exact ⟨rfl, rfl⟩
  | some v =>
    show gives (runF false 1 0 [] b_key) [.dat (.int v)] _
    refine run_gives rfl ?_
    unfold b_key
    repeat walk_at "m1"
    refine iteF ?_
    repeat walk_at "m1"
    exact ⟨rfl, rfl⟩
theorem canSort_keys (os : List (Option Int)) : canSort (os.map keyO) = true := by
  have k : ∀ d ∈ os.map keyO, ∃ a b : Int, d = .tuple [.int a, .int b] := fun d hd => by
    obtain ⟨o, _, rfl⟩ := List.mem_map.mp hd
    cases o with
    | none => exact ⟨0, 0, rfl⟩
    | some v => exact ⟨1, v, rfl⟩
  unfold canSort
  rw [Bool.and_eq_true, Bool.and_eq_true, Bool.or_eq_true]
  refine ⟨⟨?_, .inl ?_⟩, ?_⟩ <;> rw [List.all_eq_true]
  · intro d hd
    rw [List.all_eq_true]
    intro e he
    obtain ⟨a, b, rfl⟩ := k d hd
    obtain ⟨a2, b2, rfl⟩ := k e he
    simp [PySem.W.alike, PySem.W.alikeAll]
  · intro d hd
    obtain ⟨a, b, rfl⟩ := k d hd
    rfl
  · intro d hd
    obtain ⟨a, b, rfl⟩ := k d hd
    rfl
theorem asc_at {ns : List Int} {k : Int} (h0 : 1 ≤ k) (h1 : k ≤ ns.length) : ixD (.list ((ascI ns).map PyData.int)) (.int ((ns.length : Int) - k)) = some (optD (kthI ns k)) := by
  obtain ⟨j, hj⟩ := Int.eq_ofNat_of_zero_le (by omega : 0 ≤ k)
  subst hj
  have hl : ns.length - j < (ascI ns).length := by rw [(asc_perm ns).length_eq]; omega
  rw [show ((ns.length : Int) - (j : Int)) = ((ns.length - j : Nat) : Int) by omega]
  have e : kthI ns j = some (ascI ns)[ns.length - j] := by
    unfold kthI
    rw [if_pos h1, desc_rev, List.getElem?_reverse (by rw [(asc_perm _).length_eq]; omega), (asc_perm _).length_eq, show ns.length - 1 - ((j : Int) - 1).toNat = ns.length - j by omega, List.getElem?_eq_getElem hl]
  rw [e]
  refine L2.atI_nat ?_
  rw [List.getElem?_map, List.getElem?_eq_getElem hl]
  rfl
theorem flat_rows {es : List (D × D)} : ∀ ls : List D, (ls.map fun l => (rowI es l).map PyData.int).flatten = (allR es ls).map PyData.int
  | [] => rfl
  | l :: ls => by
    rw [List.map_cons, List.flatten_cons, flat_rows ls]
    unfold allR
    rw [List.map_cons, List.flatten_cons, List.map_append]
theorem rows_of (es : List (D × D)) (ls : List D) : (ls.map fun l => PyData.list ((rowI es l).map PyData.int)).map rowOf = (ls.map fun l => (rowI es l).map PyData.int).map some := by
  rw [List.map_map, List.map_map]
  rfl
/-- the law's own flattening of a lot's rows -/
theorem flat_lot {es : List (D × D)} {ls : List D} (h : RowsOf es ls) (hl : ls.length ≤ 1000) : pureFn g_flat [.list (ls.map fun l => PyData.list ((rowI es l).map PyData.int))] (· = .list ((allR es ls).map PyData.int)) := by
  have hlen := allR_len h
  have f := flat_fn (t := .list (ls.map fun l => PyData.list ((rowI es l).map PyData.int))) rfl (rows_of es ls) (by rw [flat_rows, List.length_map, sizeLine_eq]; omega)
  rw [flat_rows] at f
  exact f
def b_lvalue (r_lvalue : FM) : MS :=
  (mSq (mIfS (mTest (mOp2 eqD (mV (mOp2 ixD (mPk 1) (mV (mC (.int 0))))) (mV (mC (.str (Str.ofString "rank"))))))
    (mSq (mSet 2 (mCall sortedC [(mV (mFn [] g_flat [(mV (mLC [3] (mIt (mOp2 ixD (mPk 1) (mV (mC (.int 1))))) (setS 3) mYes (mCall listC [(mV (mOp2 ixD (mPk 0) (mPk 3)))])))]))]))
  (mRet (mIf (mTest (mOp2 geD (mV (mCall lenC [(mPk 2)])) (mV (mOp2 ixD (mPk 1) (mV (mC (.int 2))))))) (mOp2 ixD (mPk 2) (mV (mOp2 subD (mV (mCall lenC [(mPk 2)])) (mV (mOp2 ixD (mPk 1) (mV (mC (.int 2)))))))) (mC .none))))
    mNx)
  (mSq (mSet 4 (mCall sortedC [(mV (mLC [5] (mIt (mOp2 ixD (mPk 1) (mV (mC (.int 2))))) (setS 5) mYes (mFn [] g_key [(mV (mFn [] r_lvalue [(mPk 0), (mPk 5)]))])))]))
  (mSq (mSet 6 (mOp2 ixD (mPk 4) (mV (mOp2 subD (mV (mCall lenC [(mPk 4)])) (mV (mOp2 ixD (mPk 1) (mV (mC (.int 1)))))))))
  (mRet (mIf (mTest (mOp2 eqD (mV (mOp2 ixD (mPk 6) (mV (mC (.int 0))))) (mV (mC (.int 0))))) (mC .none) (mOp2 ixD (mPk 6) (mV (mC (.int 1)))))))))
def g_lvalue : Nat → FM
  | 0 => fm0
  | n + 1 => runF false 2 5 [] (b_lvalue (g_lvalue n))
theorem lvalue_fn {es : List (D × D)} {ss : List D} {w : Nat} (ht : TabFor es ss) (h2 : ss.length ≤ 1000) (hw : w ≤ 1000) : ∀ (n k : Nat) (d : D), FormOk ss w k d → k < n → pureFn (g_lvalue n) [.dict es, d] (· = optD (evalN es n d)) := by
  intro n
  induction n with
  | zero => intro k d _ hk; omega
  | succ n ih =>
    intro k d hf hk
    show gives (runF false 2 5 [] _) _ _
    refine run_gives rfl ?_
    unfold b_lvalue
    cases hf with
    | rank hr =>
      obtain ⟨ls, q, rfl, hl, hn, q1, q2⟩ := hr
      have hro := ht.rows hn
      repeat walk_at "m1"
      refine iteD (fun _ => ?_) (fun h => absurd rfl h)
      refine iSq (iSet (iCall (iLs (iV (iFn (iLs (iV (iLC (wIt ?_)))))))))
      repeat walk_at "m1"
      refine ⟨by rw [sizeLine_eq]; omega, rfl, fun ρ => ∃ s, ρ = [.dat (.dict es), .dat (.tuple [.str (Str.ofString "rank"), .tuple ls, .int q]), .un, s, .un, .un, .un], fun d r => r = .list ((rowI es d).map PyData.int), ⟨_, rfl⟩, ?_, ?_⟩
      · rintro d hd ρ ⟨s, rfl⟩
        refine ⟨_, rfl, ?_⟩
        repeat walk_at "m1"
        refine iOp2E rfl rfl (rowI_at hro hd).1 ?_
        repeat walk_at "m1"
        exact ⟨rfl, _, rfl⟩
      · rintro rs ρ hlr hpr ⟨s, rfl⟩
        have er := map_of (f := fun d => PyData.list ((rowI es d).map PyData.int)) hlr hpr
        subst er
        repeat walk_at "m1"
        refine iFnP rfl (flat_lot hro (by omega)) ?_
        rintro _ rfl
        repeat walk_at "m1"
        refine iCallE rfl (sortedC_of (canSort_ints int_I)) ?_
        rw [sort_asc]
        repeat walk_at "m1"
        rw [List.length_map, (asc_perm _).length_eq]
        refine iteD (fun h => ?_) (fun h => ?_)
        · repeat walk_at "m1"
          rw [List.length_map, (asc_perm _).length_eq]
          refine iOp2E rfl rfl (asc_at q1 h) ?_
          refine ⟨_, rfl, rfl, ?_⟩
          show _ = optD (evalN es (n + 1) (.tuple [.str sRank, .tuple ls, .int q]))
          rw [eval_rank]
        · repeat walk_at "m1"
          refine ⟨rfl, ?_⟩
          show _ = optD (evalN es (n + 1) (.tuple [.str sRank, .tuple ls, .int q]))
          rw [eval_rank]
          unfold kthI
          rw [if_neg h]
          rfl
    | @kth k q ps q0 q1 hpl hp =>
      repeat walk_at "m1"
      refine iteD (fun h => absurd h (by decide)) (fun _ => ?_)
      repeat walk_at "m1"
      refine iLC (wIt ?_)
      repeat walk_at "m1"
      refine ⟨by rw [sizeLine_eq]; omega, rfl, fun ρ => ∃ s, ρ = [.dat (.dict es), .dat (.tuple [.str (Str.ofString "kth"), .int q, .tuple ps]), .un, .un, .un, s, .un], fun d r => r = keyO (evalN es n d), ⟨_, rfl⟩, ?_, ?_⟩
      · rintro d hd ρ ⟨s, rfl⟩
        refine ⟨_, rfl, ?_⟩
        refine iFn (iLs (iV (iFn ?_)))
        repeat walk_at "m1"
        refine iFnP rfl (ih k d (hp d hd) (by omega)) ?_
        rintro _ rfl
        repeat walk_at "m1"
        refine iFnP rfl (key_fn _) ?_
        rintro _ rfl
        exact ⟨rfl, _, rfl⟩
      · rintro rs ρ hl hpr ⟨s, rfl⟩
        have er : rs = (ps.map (evalN es n)).map keyO := by
          rw [List.map_map]
          exact map_of (f := fun d => keyO (evalN es n d)) hl hpr
        subst er
        repeat walk_at "m1"
        refine iCallE rfl (sortedC_of (canSort_keys _)) ?_
        rw [keys_sort]
        repeat walk_at "m1"
        rw [List.length_map, List.length_mergeSort, List.length_map]
        have hq : q ≤ ((ps.map (evalN es n)).length : Int) := by rw [List.length_map]; exact q1
        have hx : ixD (.list (((ps.map (evalN es n)).mergeSort leO).map keyO)) (.int ((ps.length : Int) - q)) = some (keyO (kthI ((ps.map (evalN es n)).filterMap id) q)) := by
          have e := os_at (os := ps.map (evalN es n)) q0 hq
          obtain ⟨j, hj⟩ := Int.eq_ofNat_of_zero_le (by omega : 0 ≤ q)
          subst hj
          rw [Int.toNat_natCast, List.length_map] at e
          rw [show ((ps.length : Int) - (j : Int)) = ((ps.length - j : Nat) : Int) by omega]
          refine L2.atI_nat ?_
          rw [List.getElem?_map, e]
          rfl
        refine iOp2E rfl rfl hx ?_
        have fin : optD (evalN es (n + 1) (.tuple [.str sKth, .int q, .tuple ps])) = optD (kthI ((ps.map (evalN es n)).filterMap id) q) := by rw [eval_kth]
        show wp _ _ _
        generalize kthI ((ps.map (evalN es n)).filterMap id) q = o at fin
        cases o with
        | none =>
          repeat walk_at "m1"
          refine iOp2E rfl rfl (show ixD (keyO none) (.int 0) = some (.int 0) from rfl) ?_
          repeat walk_at "m1"
          refine iteD (fun _ => ?_) (fun h => absurd rfl h)
          repeat walk_at "m1"
          exact ⟨rfl, fin.symm⟩
        | some v =>
          repeat walk_at "m1"
          refine iOp2E rfl rfl (show ixD (keyO (some v)) (.int 0) = some (.int 1) from rfl) ?_
          repeat walk_at "m1"
          refine iteD (fun h => absurd h (by decide)) (fun _ => ?_)
          repeat walk_at "m1"
          refine iOp2E rfl rfl (show ixD (keyO (some v)) (.int 1) = some (.int v) from rfl) ?_
          exact ⟨_, rfl, rfl, fin.symm⟩
end CF
end
section
/-! CF, part z6: counts, sizes, the numbers that occur. -/
namespace CF
open PySem
local macro_rules | `(tactic| walk_at "hf") => `(tactic| (first
  | with_reducible exact eqD_int | with_reducible exact eqD_str | with_reducible exact neD_int | with_reducible exact addD_int | with_reducible exact addI_int | with_reducible exact subD_int | with_reducible exact geD_int | with_reducible exact gtD_int | with_reducible exact leD_int | with_reducible exact ltD_int | with_reducible exact modD_of (by decide) | with_reducible exact mulD_r (by decide) | with_reducible exact mulD_l (by decide) | with_reducible exact powD_of (by decide) | with_reducible exact ix0 | ((with_reducible show ixD (.list _) (.int _) = _); rfl) | ((with_reducible show ixD (.tuple _) (.int _) = _); rfl)
  | with_reducible exact intC_int | with_reducible exact lenC_list | with_reducible exact lenC_tuple | with_reducible exact tupleC_list | with_reducible exact listC_tuple | with_reducible exact listC_dict | with_reducible exact isN_none | with_reducible exact isN_int | with_reducible exact notN_none | with_reducible exact notN_int | with_reducible exact min2_int | with_reducible exact max2_int | with_reducible exact slD_list | with_reducible exact slD_tuple))
local macro_rules | `(tactic| walk_at "m1") => `(tactic| (first
  | with_reducible refine iSq ?_ | with_reducible refine iThn ?_ | with_reducible refine iIfS ?_ | with_reducible refine iSet ?_ | with_reducible refine iSetB ?_ | with_reducible refine iSetO ?_ | with_reducible refine iRet ?_ | with_reducible refine iNx ?_ | with_reducible refine iThnR ?_
  | with_reducible refine iTest ?_ | with_reducible refine iOp2 ?_ | ((with_reducible refine' iPk ?h1 ?h2); (case h1 => rfl)) | with_reducible refine iV ?_ | with_reducible refine iC ?_ | ((with_reducible refine' iVar ?h1 ?h2); (case h1 => rfl))
  | with_reducible refine iCall ?_ | with_reducible refine iLs0 ?_ | with_reducible refine iLs ?_ | with_reducible refine iSub ?_ | with_reducible refine iSl ?_ | with_reducible refine iSome ?_ | with_reducible refine iNone ?_ | with_reducible refine iLst ?_ | with_reducible refine iTup ?_ | with_reducible refine iDs0 ?_ | with_reducible refine iDs ?_
  | with_reducible refine iAnd ?_ | with_reducible refine iOr ?_ | with_reducible refine iNot ?_ | with_reducible refine iBl ?_ | with_reducible refine iIf ?_ | with_reducible refine iDrop ?_ | with_reducible refine iYes ?_ | with_reducible refine iPar ?_
  | ((with_reducible refine' iAugS ?h1 ?h2); (case h1 => exact ⟨_, rfl⟩))
  | ((with_reducible refine' iPutE ?h1 ?h2 ?h3); (case h1 => rfl); (case h2 => rfl))
  | ((with_reducible refine' iOp2E ?h1 ?h2 ?h3 ?h4); (case h1 => rfl); (case h2 => rfl); (case h3 => walk_at "hf"))
  | ((with_reducible refine' iCallE ?h1 ?h2 ?h3); (case h1 => rfl); (case h2 => walk_at "hf"))
  | with_reducible refine ⟨sz0, ?_⟩ | with_reducible refine ⟨sz1, ?_⟩ | with_reducible refine ⟨sz2, ?_⟩ | with_reducible refine ⟨sz3, ?_⟩ | with_reducible refine ⟨sz4, ?_⟩ | with_reducible refine ⟨sz5, ?_⟩
  | (with_reducible refine ⟨_, rfl, ?_⟩)
  | ((with_reducible refine' ⟨_, ?h1, ?h2⟩); (case h1 => walk_at "hf"))
  | ((with_reducible refine' ⟨⟨_, ?h1⟩, ?h2⟩); (case h1 => rfl))
  | ((with_reducible refine' ⟨_, _, ?h1, ?h2, ?h3⟩); (case h1 => rfl); (case h2 => walk_at "hf"))
  | ((with_reducible refine' ⟨_, _, ?h1, ?h2, ?h3⟩); (case h1 => rfl); (case h2 => rfl))))

def isGe (n : Int) : D → Bool
  | .int x => decide (n ≤ x)
  | _ => false
theorem fil_ge (n : Int) : ∀ ns : List Int, (((ns.map PyData.int).filter (isGe n)).map fun d => d) = (ns.filter fun x => decide (n ≤ x)).map PyData.int
  | [] => rfl
  | x :: ns => by
    have ih := fil_ge n ns
    rw [List.map_cons, List.filter_cons, List.filter_cons]
    by_cases h : n ≤ x
    · rw [if_pos (show isGe n (.int x) = true from decide_eq_true h), if_pos (decide_eq_true h), List.map_cons, List.map_cons, ih]
    · rw [if_neg (by show ¬ decide (n ≤ x) = true; simpa using h), if_neg (by simpa using h), ih]
def cntI (ns : List Int) (n : Int) : Int := ((ns.filter fun x => decide (n ≤ x)).length : Int)
def b_lcount : MS :=
  (mRet (mCall lenC [(mV (mLC [3] (mIt (mFn [] g_flat [(mV (mLC [4] (mIt (mVar 1)) (setS 4) mYes (mCall listC [(mV (mOp2 ixD (mPk 0) (mPk 4)))])))])) (setS 3) (mTest (mOp2 geD (mPk 3) (mPk 2))) (mVar 3)))]))
def g_lcount : FM := runF false 3 2 [] b_lcount

theorem lcount_fn {es : List (D × D)} {ls : List D} {n : Int} (h : RowsOf es ls) (hl : ls.length ≤ 1000) : pureFn g_lcount [.dict es, .tuple ls, .int n] (· = .int (cntI (allR es ls) n)) := by
  unfold g_lcount pureFn
  refine run_gives rfl ?_
  unfold b_lcount
  have hlen := allR_len h
  refine iRet (iCall (iLs (iV (iLCF (wIt (iFn (iLs (iV (iLC (wIt ?_)))))))))) 
  repeat walk_at "m1"
  refine ⟨by rw [sizeLine_eq]; omega, rfl, fun ρ => ∃ s, ρ = [.dat (.dict es), .dat (.tuple ls), .dat (.int n), .un, s], fun d r => r = .list ((rowI es d).map PyData.int), ⟨_, rfl⟩, ?_, ?_⟩
  · rintro d hd ρ ⟨s, rfl⟩
    refine ⟨_, rfl, ?_⟩
    repeat walk_at "m1"
    refine iOp2E rfl rfl (rowI_at h hd).1 ?_
    repeat walk_at "m1"
    exact ⟨rfl, _, rfl⟩
  · rintro rs ρ hlr hpr ⟨s, rfl⟩
    have er := map_of (f := fun d => PyData.list ((rowI es d).map PyData.int)) hlr hpr
    subst er
    repeat walk_at "m1"
    refine iFnP rfl (flat_lot h hl) ?_
    rintro _ rfl
    refine ⟨_, rfl, by rw [List.length_map, sizeLine_eq]; omega, rfl, fun ρ => ∃ s, ρ = [.dat (.dict es), .dat (.tuple ls), .dat (.int n), s, .un], isGe n, fun d => d, ⟨_, rfl⟩, ?_, ?_⟩
    · rintro d hd ρ ⟨s, rfl⟩
      obtain ⟨x, _, rfl⟩ := List.mem_map.mp hd
      refine ⟨_, rfl, ?_⟩
      repeat walk_at "m1"
      refine ⟨rfl, ?_⟩
      split
      · repeat walk_at "m1"
        exact ⟨rfl, _, rfl⟩
      · exact ⟨_, rfl⟩
    · rintro ρ ⟨s, rfl⟩
      rw [fil_ge]
      repeat walk_at "m1"
      refine ⟨rfl, ?_⟩
      rw [List.length_map]
      rfl
/-! ### the numbers that occur -/
theorem sset_le {ns pool : List Int} (h : ∀ n ∈ ns, n ∈ pool) : (sset ns).length ≤ pool.length :=
  (pw_nodup (pw_sset ns)).length_le_of_subset fun k hk => h k (mem_sset.mp hk)
theorem sortSet_of {ns : List Int} (h1 : ns.length + 1 < scanBound) (h2 : (sset ns).length < 64) : sortSetC [.list (ns.map PyData.int)] = some (.list ((sset ns).map PyData.int)) := by
  unfold sortSetC
  simp only [intsD_map]
  exact if_pos ⟨h1, h2⟩
def keysOf (es : List (D × D)) : List D := es.map (·.1)
def b_lknown : MS :=
  (mRet (mCall sortSetC [(mV (mFn [] g_flat [(mV (mLC [1] (mIt (mVar 0)) (setS 1) mYes (mCall listC [(mV (mOp2 ixD (mPk 0) (mPk 1)))])))]))]))
def g_lknown : FM := runF false 1 1 [] b_lknown

theorem lknown_fn {es : List (D × D)} {pool : List Int} (h : RowsOf es (keysOf es)) (hl : es.length ≤ 40) (hp : ∀ n ∈ allR es (keysOf es), n ∈ pool) (hz : pool.length < 64) : pureFn g_lknown [.dict es] (· = .list ((sset (allR es (keysOf es))).map PyData.int)) := by
  unfold g_lknown pureFn
  refine run_gives rfl ?_
  unfold b_lknown
  have hkl : (keysOf es).length ≤ 40 := by unfold keysOf; rw [List.length_map]; exact hl
  have hlen := allR_len h
  have hb : scanBound = 4096 := rfl
  refine iRet (iCall (iLs (iV (iFn (iLs (iV (iLC (wIt ?_))))))))
  repeat walk_at "m1"
  refine ⟨by show (keysOf es).length ≤ sizeLine; rw [sizeLine_eq]; omega, rfl, fun ρ => ∃ s, ρ = [.dat (.dict es), s], fun d r => r = .list ((rowI es d).map PyData.int), ⟨_, rfl⟩, ?_, ?_⟩
  · rintro d hd ρ ⟨s, rfl⟩
    refine ⟨_, rfl, ?_⟩
    repeat walk_at "m1"
    refine iOp2E rfl rfl (rowI_at h hd).1 ?_
    repeat walk_at "m1"
    exact ⟨rfl, _, rfl⟩
  · rintro rs ρ hlr hpr ⟨s, rfl⟩
    have er := map_of (f := fun d => PyData.list ((rowI es d).map PyData.int)) hlr hpr
    subst er
    repeat walk_at "m1"
    refine iFnP rfl (flat_lot (ls := keysOf es) h (by omega)) ?_
    rintro _ rfl
    repeat walk_at "m1"
    refine iCallE rfl (sortSet_of (ns := allR es (keysOf es)) (by omega) (Nat.lt_of_le_of_lt (sset_le hp) hz)) ?_
    exact ⟨_, rfl, rfl, rfl⟩
/-! ### sizes -/
end CF
end
section
/-! CG, part 1: sum, all, any, max, min of a list; in. -/
namespace CF
open PySem PySem.Spec PyProof.Rows L2
/-! ### one list -/
def maxI : List Int → Option Int
  | [] => none
  | n :: ns => some (ns.foldl (fun a b => if a < b then b else a) n)
theorem foldmax_spec : ∀ (ns : List Int) (n : Int), (ns.foldl (fun a b => if a < b then b else a) n ∈ n :: ns) ∧ ∀ y ∈ n :: ns, y ≤ ns.foldl (fun a b => if a < b then b else a) n
  | [], n => ⟨List.mem_cons_self .., fun y hy => by rw [List.mem_singleton.mp hy]; exact Int.le_refl _⟩
  | b :: ns, n => by
    have ih := foldmax_spec ns (if n < b then b else n)
    rw [List.foldl_cons]
    refine ⟨?_, fun y hy => ?_⟩
    · rcases List.mem_cons.mp ih.1 with h | h
      · rw [h]; split <;> simp
      · exact List.mem_cons_of_mem _ (List.mem_cons_of_mem _ h)
    · have h0 := ih.2 _ (List.mem_cons_self ..)
      have h1 := fun y hy => ih.2 y (List.mem_cons_of_mem _ hy)
      generalize List.foldl _ _ ns = m at h0 h1 ⊢
      rcases List.mem_cons.mp hy with e | hy
      · subst e; split at h0 <;> omega
      · rcases List.mem_cons.mp hy with e | hy
        · subst e; split at h0 <;> omega
        · exact h1 y hy
theorem maxI_of {ns : List Int} {m : Int} (h1 : m ∈ ns) (h2 : ∀ y ∈ ns, y ≤ m) : maxI ns = some m := by
  cases ns with
  | nil => nomatch h1
  | cons n ns =>
    have s := foldmax_spec ns n
    show some _ = _
    congr 1
    have a := h2 _ s.1
    have b := s.2 m h1
    omega
def maxLC : List D → Option D
  | [.list ds] => (intsD ds).bind fun ns => (maxI ns).map PyData.int
  | _ => none
section
variable {X : Cx}
open PySem.W PyProof.V in
theorem cr_maxLD (hc : X.calm = true) : CallR X (.builtin "max") (rC X.K maxLC) := by
  intro pins s σ H xs us Q I rx ⟨W, ds, r, tr, hx, hf, q⟩
  unfold maxLC at hf
  split at hf
  · rename_i ds
    obtain ⟨ns, h1, h2⟩ := Option.bind_eq_some_iff.mp hf
    obtain ⟨m, h3, rfl⟩ := Option.map_eq_some_iff.mp h2
    obtain ⟨x, rfl, h⟩ := hx.one
    obtain ⟨a, vs, rfl, sa, la⟩ := h.list
    have := intsD_of h1
    subst this
    have := rxl_ints la
    subst this
    refine cr_max hc pins s σ H _ us Q I rx ⟨a, ns, rfl, .inl sa, ?_, fun m' a1 a2 => ?_⟩
    · cases ns with
      | nil => cases h3
      | cons _ _ => simp
    · rw [maxI_of a1 a2] at h3
      cases h3
      exact q _ _ (Same.refl H) (.int _)
  · cases hf
end
/-! ### in -/
section
variable {X : Cx}
end
end CF
end
section
/-! CG, part 2: zip of lists and tuples, mixed, two or three. -/
namespace CF
open PySem PySem.Spec PyProof.Rows L2
variable [Tb]
/-- what is walked: a list (true), a tuple (false) -/
def SqB (K : PySem.W.Frag) (H : Hp) (a : Addr) (xs : List V) : Bool → Prop
  | true => SqL K H a xs
  | false => SqT K H a xs
def atB (h : Heap) (a : Addr) (items : Array Value) : Bool → Prop
  | true => h.IsList a items
  | false => h.IsTuple a items
def itB (h : Heap) (it a : Addr) (i : Nat) : Bool → Prop
  | true => h.IsListIter it a i
  | false => h.IsTupleIter it a i
def oB (a : Addr) : Bool → Obj
  | true => { cls := .type "list_iterator", data := .fields #[.ref a, .int 0 0] }
  | false => { cls := .type "tuple_iterator", data := .fields #[.ref a, .int 0 0] }
theorem begB (a : Addr) (items : Array Value) (b : Bool) : Begins (.ref a) (oB a b) fun h => atB h a items b := by
  cases b
  · exact begins_tuple a items
  · exact begins_list a items
theorem drawB {prog : Program} {w : World} {A : Around} (hh : A.handled = none) (it a : Addr) (hne : a ≠ it) (items : Array Value) (b : Bool) :
    Draws prog w A it [it, a] items.size (fun i v => items[i]? = some v) (fun i h => itB h it a i b ∧ atB h a items b) := by
  cases b
  · exact .tuple hh it a hne items
  · exact .list hh it a hne items
theorem itB_at {h h' : Heap} {it a : Addr} {i : Nat} {b : Bool} (x : itB h it a i b) (e : ∀ o, h.get? it = some o → h'.get? it = some o) : itB h' it a i b := by
  cases b
  · exact Heap.IsTupleIter.at x e
  · exact Heap.IsListIter.at x e
theorem itB_obj {h : Heap} {it a : Addr} {i : Nat} {b : Bool} (x : itB h it a i b) : ∃ o, h.get? it = some o ∧ ∀ v, o.data ≠ .cell v := by
  cases b <;> (obtain ⟨o, e, _, d⟩ := x; exact ⟨o, e, fun v q => by rw [d] at q; cases q⟩)
theorem itB_new {h : Heap} {it a : Addr} {b : Bool} (e : h.get? it = some (oB a b)) : itB h it a 0 b := by
  cases b <;> exact ⟨_, e, rfl, rfl⟩
section
variable {X : Cx} {pins : List (Addr × Obj)} {σ : L2.St} {H : Hp} {s : Shared}
theorem sqB_rd (I : Inv X pins σ H s) {a : Addr} {xs : List V} {b : Bool} (h : SqB X.K H a xs b) : ∃ its : List Value, Vals xs its ∧ atB s.heap a its.toArray b ∧ a < s.heap.objs.size := by
  cases b
  · obtain ⟨its, rv, p, _⟩ := I.tuple h
    refine ⟨its, rv, p, ?_⟩
    obtain ⟨o, ho, _⟩ := id p
    exact Heap.lt_size ho
  · obtain ⟨its, rv, p, _⟩ := I.list h
    exact ⟨its, rv, p.isList, p.lt⟩
theorem sqB_inj (I : Inv X pins σ H s) {a : Addr} {xs ys : List V} {b : Bool} (h : SqB X.K H a xs b) (h' : SqB X.K H a ys b) : xs = ys := by
  cases b
  · exact I.tuple_inj h h'
  · exact I.list_inj h h'
end
/-- the sequences at a and b as they stand at each turn, the items in new pairs -/
def ItzG (K : PySem.W.Frag) (k1 k2 : Bool) (a b : Addr) : It :=
  ⟨fun i H => ∃ (xs ys : List V) (x y : V), SqB K H a xs k1 ∧ SqB K H b ys k2 ∧ xs[i]? = some x ∧ ys[i]? = some y,
    fun i H v H' => ∃ T x y, v = .ref T ∧ H T = none ∧ H' = upd H T (.tup [x, y]) ∧ (∀ xs, SqB K H a xs k1 → xs[i]? = some x) ∧ ∀ ys, SqB K H b ys k2 → ys[i]? = some y,
    fun i H => ∃ xs ys : List V, SqB K H a xs k1 ∧ SqB K H b ys k2 ∧ i ≤ xs.length ∧ i ≤ ys.length ∧ (i = xs.length ∨ i = ys.length)⟩
section
variable {P : Program} {w : World} {K : PySem.W.Frag} {elts : List Expr} {kk : Nat} {tpos : Pos} {k1 k2 : Bool} {a b z TI TO i1 i2 : Addr}
/-- the zip's own cells, two iterators at place i -/
def zst2 (k1 k2 : Bool) (a b z TI TO i1 i2 : Addr) (i : Nat) (h : Heap) : Prop := IsZip h z TI TO .none ∧ IsTupOf2 h TI (.ref i1) (.ref i2) ∧ (∃ x y, IsTupOf2 h TO x y) ∧ itB h i1 a i k1 ∧ itB h i2 b i k2
theorem turn_zipG (S : ZipSep2 z TI TO i1 i2 [i1, a] [i2, b]) (n1 : a ≠ i1) (n2 : b ≠ i2) : Turn P w K (.Tuple elts kk tpos) (ItzG K k1 k2 a b) [z, TI, TO, i1, i2] z (zst2 k1 k2 a b z TI TO i1 i2) := by
  have cs : ∀ {c : Addr}, c ∈ [z, TI, TO, i1, i2] → c = z ∨ c = TI ∨ c = TO ∨ c = i1 ∨ c = i2 := fun hc => by simpa using hc
  have inz : z ∈ [z, TI, TO, i1, i2] := by simp
  have inI : TI ∈ [z, TI, TO, i1, i2] := by simp
  have inO : TO ∈ [z, TI, TO, i1, i2] := by simp
  have in1 : i1 ∈ [z, TI, TO, i1, i2] := by simp
  have in2 : i2 ∈ [z, TI, TO, i1, i2] := by simp
  have oth : ∀ {c : Addr}, c ∉ [z, TI, TO, i1, i2] → c ≠ z ∧ c ≠ TO ∧ c ≠ i1 ∧ c ≠ i2 := fun hc => ⟨fun q => hc (q ▸ inz), fun q => hc (q ▸ inO), fun q => hc (q ▸ in1), fun q => hc (q ▸ in2)⟩
  refine ⟨inz, fun i h st c hc => ?_, fun i h h' st k => ?_, ?_, ?_, fun A i s Q E st h => wpAny_pyIter_zip st.1 h⟩
  · obtain ⟨hz, hTI, ⟨x, y, hTO⟩, h1, h2⟩ := st
    rcases cs hc with q | q | q | q | q <;> rw [q]
    · exact ⟨_, hz, fun v q => nomatch q⟩
    · exact ⟨_, hTI, fun v q => nomatch q⟩
    · exact ⟨_, hTO, fun v q => nomatch q⟩
    · exact itB_obj h1
    · exact itB_obj h2
  · obtain ⟨hz, hTI, ⟨x, y, hTO⟩, h1, h2⟩ := st
    exact ⟨k z inz _ hz, k TI inI _ hTI, ⟨x, y, k TO inO _ hTO⟩, itB_at h1 fun o q => k i1 in1 o q, itB_at h2 fun o q => k i2 in2 o q⟩
  · intro X hP hw hK hc i pins s σ H E I hf st hg
    subst hP hw hK
    obtain ⟨hz, hTI, ⟨x0, y0, hTO⟩, h1, h2⟩ := st
    obtain ⟨xs, ys, x, y, hqx, hqy, hx, hy⟩ := hg
    obtain ⟨its, rv, p, _⟩ := sqB_rd I hqx
    obtain ⟨its2, rv2, p2, _⟩ := sqB_rd I hqy
    obtain ⟨u, hu, ru⟩ := rv.get hx
    obtain ⟨u2, hu2, ru2⟩ := rv2.get hy
    have l1 : i < its.toArray.size := by
      obtain ⟨q, _⟩ := List.getElem?_eq_some_iff.mp hu
      simpa using q
    have l2 : i < its2.toArray.size := by
      obtain ⟨q, _⟩ := List.getElem?_eq_some_iff.mp hu2
      simpa using q
    have hzl : z < s.heap.objs.size := Heap.lt_size hz
    have hh : X.A.in1.handled = none := I.ok.hd hc
    refine wpAny_pyNext_zipD2_item S (drawB hh i1 a n1 its.toArray k1) (drawB hh i2 b n2 its2.toArray k2) hz hTI hTO ⟨h1, p⟩ ⟨h2, p2⟩ l1 l2 fun v1 v2 h' tk y1 y2 hz' hTO' st1 st2 hT hsz hk => ?_
    have e1 : v1 = u := by
      have y1 : its.toArray[i]? = some v1 := y1
      have : its.toArray[i]? = some u := by simpa using hu
      rw [y1] at this; exact Option.some.inj this
    have e2 : v2 = u2 := by
      have y2 : its2.toArray[i]? = some v2 := y2
      have : its2.toArray[i]? = some u2 := by simpa using hu2
      rw [y2] at this; exact Option.some.inj this
    subst e1 e2
    refine ⟨_, rfl, wpAny_letOwnedTupleGo_zip (s := { s with heap := h', toks := tk }) hz' fun h'' z'' sb => ?_⟩
    have hT2 : h''.get? s.heap.objs.size = some { cls := .type "tuple", data := .seq #[v1, v2] } := (sb.2 _ (Nat.ne_of_gt hzl)).trans hT
    have new : ObjOk X.prog X.w (upd H s.heap.objs.size (.tup [x, y])) h'' s.heap.objs.size (.tup [x, y]) := ⟨by show 2 ≤ sizeLine; decide, [v1, v2], .cons ru (.cons ru2 .nil), ⟨_, hT2, rfl, _, rfl⟩⟩
    have I1 : Inv X pins σ (upd H s.heap.objs.size (.tup [x, y])) { s with heap := h'', toks := tk } :=
      I.turnedNew (t' := tk) (ch := [z, TI, TO, i1, i2]) (fun c o hb q => (sb.2 c (oth hb).1).trans (hk c o (oth hb).1 (oth hb).2.1 (oth hb).2.2.1 (oth hb).2.2.2 q)) hf (Nat.le_refl _) new
    refine ⟨.ref s.heap.objs.size, _, I1, rfl, ⟨_, x, y, rfl, I.hok.fresh (Nat.le_refl _), rfl, fun l hl => by rw [sqB_inj I hl hqx]; exact hx, fun l hl => by rw [sqB_inj I hl hqy]; exact hy⟩, ⟨z'', ?_, ⟨v1, v2, ?_⟩, ?_, ?_⟩, fun c hcm => ?_⟩
    · exact (sb.2 _ S.TIz).trans (hk _ _ S.TIz S.TITO S.TIi1 S.TIi2 hTI)
    · exact (sb.2 _ S.TOz).trans hTO'
    · exact itB_at st1.1 fun o q => (sb.2 _ S.zi1.symm).trans q
    · exact itB_at st2.1 fun o q => (sb.2 _ S.zi2.symm).trans q
    · have hlt : c < s.heap.objs.size := by
        rcases cs hcm with q | q | q | q | q <;> rw [q]
        · exact hzl
        · exact Heap.lt_size hTI
        · exact Heap.lt_size hTO
        · obtain ⟨_, e1, _⟩ := itB_obj h1; exact Heap.lt_size e1
        · obtain ⟨_, e2, _⟩ := itB_obj h2; exact Heap.lt_size e2
      rw [upd_ne (Nat.ne_of_lt hlt)]
      exact (hf c hcm).1
  · intro X hP hw hK hc i pins s σ H E I hf st hg
    subst hP hw hK
    obtain ⟨hz, hTI, ⟨x0, y0, hTO⟩, h1, h2⟩ := st
    obtain ⟨xs, ys, hqx, hqy, le1, le2, hend⟩ := hg
    obtain ⟨its, rv, p, _⟩ := sqB_rd I hqx
    obtain ⟨its2, rv2, p2, _⟩ := sqB_rd I hqy
    have l1 := rv.length
    have l2 := rv2.length
    have hh : X.A.in1.handled = none := I.ok.hd hc
    have s1 : its.toArray.size = its.length := by simp
    have s2 : its2.toArray.size = its2.length := by simp
    exact wpAny_pyNext_zipD2_end S (drawB hh i1 a n1 its.toArray k1) (drawB hh i2 b n2 its2.toArray k2) hz hTI hTO ⟨h1, p⟩ ⟨h2, p2⟩ (by omega) (by omega) (by omega) fun h' tk hk => ⟨rfl, I.turnedL (t' := tk) (ch := [z, TI, TO, i1, i2]) (fun c o hb q =>
      hk c o (oth hb).1 (oth hb).2.1 (oth hb).2.2.1 (oth hb).2.2.2 q) hf⟩
end
def iZipB (K : PySem.W.Frag) (ta : TA) : TI := fun σ H R => ta σ H fun vs H1 => ∃ a b xs ys k1 k2, vs = [.ref a, .ref b] ∧ SqB K H1 a xs k1 ∧ SqB K H1 b ys k2 ∧ R (ItzG K k1 k2 a b) H1
theorem pi_zipB {X : Cx} {e e2 : Expr} {ta : TA} {p pos tpos : Pos} {elts : List Expr} {kk : Nat} (hg : Gl X "zip") (hm : X.mg "zip" = none) (ha : PA X [e, e2] ta)
    (hs : starEach [e, e2] X.env = (false, eval e X.env) :: starEach [e2] X.env := by rfl) (hpl : (backTo pos (starEach [e2] X.env)).any (·.1) = false := by rfl) :
    PI X (.Tuple elts kk tpos) (.Call (.Name "zip" p) [e, e2] [] pos) (iZipB X.K ta) := by
  refine ⟨fun pins s σ H R I h => ?_⟩
  refine Call_ (ld_blt I hg hm PyProof.Rows.boot_zip (PyProof.Rows.callWith_type1 (thn (ha.run pos pins s σ H _ I h) fun us s1 ⟨vs, H1, I1, r1, q1⟩ => ?_) hs hpl))
  obtain ⟨a, b, xs, ys, k1, k2, ex, hqx, hqy, q⟩ := q1
  subst ex
  cases r1 with
  | cons r rr =>
    cases rr with
    | cons r' rr =>
      cases rr
      cases r
      cases r'
      obtain ⟨its, rv, p1, la⟩ := sqB_rd I1 hqx
      obtain ⟨its2, rv2, p2, lb⟩ := sqB_rd I1 hqy
      refine zip_begins2 (begB a its.toArray k1) (begB b its2.toArray k2) p1 p2 fun h' hz hTI hTO g1 g2 hsz hk => wpAny_pyIter_zip hz ?_
      have I2 : Inv X pins σ H1 { s1 with heap := h' } := I1.kept (t' := s1.toks) hk
      have S : ZipSep2 (s1.heap.objs.size + 4) (s1.heap.objs.size + 2) (s1.heap.objs.size + 3) s1.heap.objs.size (s1.heap.objs.size + 1) [s1.heap.objs.size, a] [s1.heap.objs.size + 1, b] :=
        zip_sep2 (fun c hc => by rw [List.mem_singleton.mp hc]; exact la) (fun c hc => by rw [List.mem_singleton.mp hc]; exact lb)
      refine ⟨s1.heap.objs.size + 4, [s1.heap.objs.size + 4, s1.heap.objs.size + 2, s1.heap.objs.size + 3, s1.heap.objs.size, s1.heap.objs.size + 1], _, _, H1, rfl, I2, turn_zipG S (Nat.ne_of_lt la) (Nat.ne_of_lt (Nat.lt_succ_of_lt lb)), ⟨hz, hTI, ⟨_, _, hTO⟩, itB_new g1, itB_new g2⟩, fun c hcm => ?_, q⟩
      have hle : s1.heap.objs.size ≤ c := by
        have e' : c = s1.heap.objs.size + 4 ∨ c = s1.heap.objs.size + 2 ∨ c = s1.heap.objs.size + 3 ∨ c = s1.heap.objs.size ∨ c = s1.heap.objs.size + 1 := by simpa using hcm
        rcases e' with z | z | z | z | z <;> rw [z] <;> first | exact Nat.le_add_right _ _ | exact Nat.le_refl _
      exact I1.fpOk hle (I1.hok.fresh hle)
/-! ### over trees -/
def seqD : D → Option (Bool × List D)
  | .list xs => some (true, xs)
  | .tuple xs => some (false, xs)
  | _ => none
def mZp (m m2 : M D) : M (List D) := do
  let d ← m
  let e ← m2
  lift ((seqD d).bind fun x => (seqD e).map fun y => zipD x.2 y.2)
section
variable {K : PySem.W.Frag} {W O : Addr → Prop} {H0 : Hp}
theorem sq_rx {v : V} {d : D} {k : Bool} {ds : List D} (h : Rx K W H0 v d) (e : seqD d = some (k, ds)) : ∃ a xs, v = .ref a ∧ SqB K H0 a xs k ∧ RxL K W H0 xs ds ∧ ∀ H, KeepO W O H0 H → SqB K H a xs k := by
  unfold seqD at e
  split at e
  · cases e
    cases h with
    | lst n hr hl => exact ⟨_, _, rfl, .inl hr, hl, fun H k => sqL_keep k n hr⟩
  · cases e
    obtain ⟨a, xs, rfl, hx, _⟩ := h.tuple
    obtain ⟨ys, h1, l, k⟩ := sqT_rx (O := O) h hx
    exact ⟨a, ys, rfl, h1, l, k⟩
  · cases e
theorem src_zipB {a b : Addr} {k1 k2 : Bool} {xs ys : List V} {ds es : List D} (la : RxL K W H0 xs ds) (ka : ∀ H, KeepO W O H0 H → SqB K H a xs k1) (lb : RxL K W H0 ys es) (kb : ∀ H, KeepO W O H0 H → SqB K H b ys k2) : Src K (ItzG K k1 k2 a b) W O H0 (zipD ds es) := by
  have l1 := la.length
  have l2 := lb.length
  have lz : (zipD ds es).length = min ds.length es.length := by simp [zipD]
  refine ⟨fun i H k hi => ?_, fun i H v H' dd k e y => ?_, fun H k => ?_⟩
  · exact ⟨xs, ys, xs[i]'(by omega), ys[i]'(by omega), ka H k, kb H k, List.getElem?_eq_getElem _, List.getElem?_eq_getElem _⟩
  · obtain ⟨T, x, y, rfl, hT, rfl, y1, y2⟩ := y
    obtain ⟨d1, d2, e1, e2, rfl⟩ := zipD_at e
    have r1 := la.same_at (y1 xs (ka _ k)) e1
    have r2 := lb.same_at (y2 ys (kb _ k)) e2
    exact ⟨Same.upd hT, fun W' w1 w2 => tup_at hT w2 (.cons ((r1.later k w1).same (Same.upd hT)) (.cons ((r2.later k w1).same (Same.upd hT)) .nil))⟩
  · exact ⟨xs, ys, ka H k, kb H k, by omega, by omega, by omega⟩
end
section
variable {X : Cx} {Ew : WX} {e e2 : Expr} {md me : M D} {pos p tpos : Pos} {elts : List Expr} {kk : Nat}
theorem iZp (hm : X.mg "zip" = none) (ha : PE X e (tD X.K Ew md)) (hb : PE X e2 (tD X.K Ew me)) (hg : Gl X "zip" := by rfl) (hs : starEach [e, e2] X.env = (false, eval e X.env) :: starEach [e2] X.env := by rfl) (hs2 : starEach [e2] X.env = (false, eval e2 X.env) :: starEach [] X.env := by rfl) (hpl : (backTo pos (starEach [e2] X.env)).any (·.1) = false := by rfl) :
    PI X (.Tuple elts kk tpos) (.Call (.Name "zip" p) [e, e2] [] pos) (tI X.K Ew (mZp md me)) := by
  refine PI.imp (pi_zipB (ta := tCons (tD X.K Ew md) (tCons (tD X.K Ew me) L2.tNil)) hg hm (pa_cons ha (pa_cons hb pa_nil hs2) hs) hs hpl) fun σ H R ⟨W, O, ρ, R0, h⟩ => ⟨W, O, ρ, R0, (Out.bind h).mono fun d ρ1 H1 k1 R1 h1 v rv => ⟨W, O, ρ1, R1, (Out.bind h1).mono fun d2 ρ2 H2 k2 R2 h2 v2 rv2 => ?_⟩⟩
  obtain ⟨r, hf, q⟩ := Out.lift h2 R2
  have rv := rv.keepO R1 k2
  obtain ⟨⟨b1, ds⟩, e1, hf⟩ := Option.bind_eq_some_iff.mp hf
  obtain ⟨⟨b2, es⟩, e2, rfl⟩ := Option.map_eq_some_iff.mp hf
  obtain ⟨a, xs, rfl, hx, lx, kx⟩ := sq_rx (O := fun _ => True) rv e1
  obtain ⟨b, ys, rfl, hy, ly, ky⟩ := sq_rx (O := fun _ => True) rv2 e2
  exact ⟨_, _, _, _, _, _, rfl, hx, hy, q H2 KeepO.refl R2 _ (src_zipB lx kx ly ky)⟩
end
end CF
end
section
/-! CG3: dict comprehensions, dict(pairs), index, update, displays. -/
namespace CF
open PySem PySem.Spec PyProof.Rows L2
variable [Tb]

section
variable {K : PySem.W.Frag} {Ew : WX} {σ : L2.St} {H : Hp} {Q : VK} {vs is : List Nat} {src : M (List D)} {b : D → M Unit} {t : M Bool} {ek ev : M D}
end
section
variable {X : Cx} {Ew : WX} {e kx vx tg : Expr} {ifs : List Expr} {scope : Scope} {pos : Pos} {src : M (List D)} {b : D → M Unit} {t : M Bool} {mk mv : M D}
end

/-! ### x = {..} on one line -/
section
variable {X : Cx} {pins : List (Addr × Obj)}
end
section
variable {X : Cx} {Ew : WX} {e kx vx tg : Expr} {ifs : List Expr} {scope : Scope} {pos : Pos} {src : M (List D)} {b : D → M Unit} {t : M Bool} {mk mv : M D}
end

/-! ### dict(pairs) -/
def mergeE (es more : List (D × D)) : List (D × D) := more.foldl (fun acc p => CF.putL acc p.1 p.2) es
section
variable {K : PySem.W.Frag} {W : Addr → Prop} {H : Hp}
theorem RxK.merge : ∀ {more : List (Key × V)} {es2 : List (D × D)} {kvs : List (Key × V)} {es : List (D × D)}, RxK K W H kvs es → RxK K W H more es2 → RxK K W H (mergeK kvs more) (mergeE es es2)
  | _, [], _, _, h, g => by cases g; exact h
  | _, (_, _) :: es2, _, _, h, g => by
    cases g with
    | @cons k v _ d _ r t =>
      have z := RxK.merge (RxK.put (k := k) h r) t
      exact z
end
/-! ### index -/
section
variable {X : Cx} {Ew : WX} {e o : Expr} {ma mb : M LV}
end

/-! ### update -/
abbrev MutE := List (D × D) → List D → Option (D × List (D × D))
section
variable {X : Cx} {Ew : WX} {e : Expr} {es : List Expr} {ma : M (List D)}
end

/-! ### displays -/
abbrev PairRx (K : PySem.W.Frag) (W : Addr → Prop) (H : Hp) : List (V × V) → List (D × D) → Prop := Paired fun p q => Rx K W H p.1 q.1 ∧ Rx K W H p.2 q.2
section
variable {K : PySem.W.Frag} {W O : Addr → Prop} {H : Hp} {Ew : WX} {σ : L2.St}
end
section
variable {X : Cx} {Ew : WX} {pos : Pos}
end
end CF
end
section
/-! CG4: a, b = e1, e2 where one of them is an object of its own. -/
namespace CF
open PySem PySem.Spec PyProof.Rows L2
variable [Tb]

section
variable {K : PySem.W.Frag} {W O W1 O1 : Addr → Prop} {H H1 : Hp} {σ : L2.St} {ρ ρ1 : List Slot} {a : Addr}
theorem Step.more (s : Step W O H W1 O1 H1) (n : H a = Option.none) : Step W O H W1 (plus O1 a) H1 :=
  ⟨s.keep, s.dom, fun b z => z.elim (s.ow b) fun q => .inr (by rw [q]; exact n), s.wi, s.wo⟩
theorem SRel.hold (R1 : SRel K W O H1 σ ρ1) (R2 : SRel K (CF.plus W a) (CF.plus O a) H1 σ ρ1) : SRel K (CF.plus W a) O H1 σ ρ1 :=
  R2.less (fun _ z => z) (fun b o => .inl (R1.ow b o)) (fun i b d e1 e2 => by
    obtain ⟨b', e', o, _⟩ := R1.own e1
    rw [e2] at e'
    cases e'
    exact o) (fun i b d e1 e2 => by
    obtain ⟨b', e', o, _⟩ := R1.ob e1
    rw [e2] at e'
    cases e'
    exact o) fun _ z => R1.tb.sub z
end
section
variable {X : Cx} {fr : Bool} {F : List Nat} {Ew : WX} {e e2 : Expr} {pos : Pos} {md me : M D}
end
end CF
end
section
/-! CG5: a, b = e1, e2 where one of them is an object of its own and a name is a cell's. -/
namespace CF
open PySem PySem.Spec PyProof.Rows L2
variable [Tb]
section
variable {X : Cx} {fr : Bool} {F : List Nat} {Ew : WX} {e e2 : Expr} {pos : Pos} {md me : M D}
end
end CF
end
section
/-! CG6: zip of three; a target within a target. -/
namespace CF
open PySem PySem.Spec PyProof.Rows L2
variable [Tb]
section
variable {P : Program} {w : World} {K : PySem.W.Frag} {elts : List Expr} {kk : Nat} {tpos : Pos} {k1 k2 k3 : Bool} {a b c z TI TO i1 i2 i3 : Addr}
end
/-! ### over trees -/
section
variable {K : PySem.W.Frag} {W O : Addr → Prop} {H0 : Hp}
end
section
variable {X : Cx} {Ew : WX} {e e2 e3 : Expr} {md me mf : M D} {pos p tpos : Pos} {elts : List Expr} {kk : Nat}
end
/-! ### a target within a target -/
section
variable {X : Cx} {pos : Pos}
end
end CF
end
section
/-! CG7: isinstance of one class, and of a row of classes. -/
namespace CF
open PySem PySem.Spec PyProof.Rows L2
variable [Tb]
def tyN : D → String
  | .none => "NoneType"
  | .bool _ => "bool"
  | .int _ => "int"
  | .str _ => "str"
  | .list _ => "list"
  | .tuple _ => "tuple"
  | .dict _ => "dict"
def isiD (T : String) (d : D) : Option D := (kitB (tyN d) T).map PyData.bool
section
variable {K : PySem.W.Frag} {W O : Addr → Prop} {H : Hp}
end
def mIsi (T : String) (m : M LV) : M D := do
  let x ← m
  let d ← x.get
  lift (isiD T d)
section
variable {X : Cx} {Ew : WX} {e e2 : Expr} {ma : M LV} {pos p p2 tpos : Pos}
end
end CF
end
section
/-! CG8: x[::-1]. -/
namespace CF
open PySem PySem.Spec PyProof.Rows L2
variable [Tb]
section
variable {prog : Program} {w : World} {A : Around} {E : Value → Shared → Prop} {s : Shared}
end
section
variable {X : Cx}
/-! ### over trees -/
def revD : D → Option D
  | .list xs => some (.list xs.reverse)
  | .tuple xs => some (.tuple xs.reverse)
  | _ => none
def mRevS (m : M LV) : M D := do
  let x ← m
  let d ← x.get
  lift (revD d)
variable {Ew : WX}
end
end CF
end
section
/-! CG9: a < b < c. -/
namespace CF
open PySem PySem.Spec PyProof.Rows L2
variable [Tb]
section
variable {X : Cx} {Ew : WX} {a b c : Expr} {ma mb mc : M LV} {op op' : CmpOp} {f g : D → D → Option D} {pos : Pos}
end
end CF
end
section
/-! CX, part 1: defs that may raise; raise; try with several clauses, with names and without. -/
namespace CF
open PySem PySem.Spec PyProof.Rows L2
variable [Tb]
abbrev WEx (E : XK) : WX := fun c dx _ H' => E c dx H'
/-- a def of the text that may be called by its name, and may raise -/
structure CalX (P : Program) (w : World) (K : PySem.W.Frag) (mg : Str → Option Value) (base : Heap) (k : Nat) (x : Str) (fr : Bool) (F : List Nat) (g : FM) : Prop where
  ex : ∃ (f : Addr) (fd : FuncData) (ps : List Str), FnG P w K mg base (L2.CX P w) k f fd ps (spF fr F K g) ∧ mg x = some (.ref f) ∧ PySem.W.keepIn K (.ref f) = true ∧ Binds K fd ps []
section
variable {P : Program} {w : World} {K : PySem.W.Frag} {mg : Str → Option Value} {base : Heap} {k nl : Nat} {x : Str} {st : Stmt} {ps N : List Str} {fr : Bool} {F : List Nat} {m : MS} {g : FM}
theorem CalX.toG (C : CalX P w K mg base k x fr F g) : CalG P w K mg base k x fr F g := by
  obtain ⟨f, fd, ps, Fn, a, b, c⟩ := C.ex
  refine ⟨f, fd, ps, ⟨fun vs H Q E h => Fn.ln vs H Q E0 h, fun hr hg e0 hb rv h => ?_⟩, a, b, c⟩
  refine codeAny_mono (Fn.go hr hg e0 hb rv h) fun r s' q => ?_
  cases r with
  | ok fl => cases fl <;> exact q
  | error e =>
    obtain ⟨_, _, _, _, _, _, _, _, _, _, _, _, z⟩ := q
    exact z.elim
theorem CalX.up {j : Nat} (C : CalX P w K mg base j x fr F g) (h : j ≤ k) : CalX P w K mg base k x fr F g := by
  obtain ⟨f, fd, ps, Fn, a, b, c⟩ := C.ex
  exact ⟨f, fd, ps, Fn.up h, a, b, c⟩
end
/-! ### calls -/
section
variable {X : Cx} {F : List Nat} {g : FM} {as : List (M LV)} {Ew : WX}
end
section
variable {X : Cx} {k j : Nat} {f : Addr} {fd : FuncData} {ps : List Str} {sp : Sp} {x : Str} {p pos : Pos} {e : Expr} {es : List Expr} {t : TA} {Ew : WX} {F : List Nat} {g : FM} {as : List (M LV)}
end
/-! ### raise -/
/-- the promise of an __init__ that keeps its argument under one name -/
def spI (C : Addr) (f : Str) : Sp := fun vs H Q _ => ∃ (a : Addr) (y : V), vs = [.ref a, y] ∧ H a = some (exo a C none) ∧ ∀ dx, H dx = none → dx ≠ a → Q .non (upd (upd H dx (exd dx [(f, y)])) a (exo a C (some dx)))
/-- an own exception class with one field -/
structure ClsX (P : Program) (w : World) (K : PySem.W.Frag) (mg : Str → Option Value) (base : Heap) (x f : Str) : Prop where
  ex : ∃ (C fI : Addr) (fd : FuncData) (ps : List Str), OexC K C ∧ XfC K C ∧ PySem.W.findIn K (.ref C) f = some none ∧ PySem.W.findIn K (.ref C) "__init__" = some (some (.ref fI)) ∧ PySem.W.typeIn K (.ref fI) = some (.type "function") ∧ FnOk P w K mg base CX0 1 fI fd ps (spI C f) ∧ Binds K fd ps [] ∧ mg x = some (.ref C) ∧ PySem.W.nsIn K mainGlobals x = some (some (.ref C))
section
variable {X : Cx} {fr : Bool} {F : List Nat} {Ew : WX} {x f : Str} {e : Expr} {p pos pos2 : Pos} {k : Nat} {as : M (List D)}
end
/-! ### try -/
/-- a suite, whatever exception it holds -/
def SuiteOk (X : Cx) (suite : List Stmt) (ts : Addr → Value → Option Addr → TS) : Prop :=
  ∀ (a : Addr) (oe : Obj) (cls : Value) (d : Option Addr) (pn : List (Addr × Obj)), Zc cls d oe → (∃ vs, oe.data = .fields vs) → PSs (X.suite a ((a, oe) :: pn)) suite (ts a cls d)
inductive MixOk (X : Cx) : List ExceptHandler → List (Value × Option Nat × (Addr → Value → Option Addr → TS)) → Prop
  | nil : MixOk X [] []
  | bare {x : Str} {c : Value} {ts : Addr → Value → Option Addr → TS} {s0 : Stmt} {sts : List Stmt} {np hp : Pos} {hds : List ExceptHandler} {l : List (Value × Option Nat × (Addr → Value → Option Addr → TS))} (hc : Names X x c) (hs : SuiteOk X (s0 :: sts) ts) (r : MixOk X hds l) :
      MixOk X (.ExceptHandler (some (.Name x np)) none (s0 :: sts) hp :: hds) ((c, none, ts) :: l)
  | named {x n : Str} {i : Nat} {c : Value} {ts : Addr → Value → Option Addr → TS} {s0 : Stmt} {sts : List Stmt} {np hp : Pos} {hds : List ExceptHandler} {l : List (Value × Option Nat × (Addr → Value → Option Addr → TS))} (hi : X.N[i]? = some n) (hn : X.env.kindOf n = some .local) (hc : Names X x c)
      (hs : SuiteOk X (s0 :: sts) ts) (r : MixOk X hds l) : MixOk X (.ExceptHandler (some (.Name x np)) (some n) (s0 :: sts) hp :: hds) ((c, some i, ts) :: l)
section
variable {X : Cx} {body : List Stmt} {h0 : ExceptHandler} {hds : List ExceptHandler} {l : List (Value × Option Nat × (Addr → Value → Option Addr → TS))} {pos : Pos} {tb : WX → TS} {Wout : WX}
end
end CF
end
section
/-! CX, part 2: the mirror of try. -/
namespace CF
open PySem PySem.Spec PyProof.Rows L2
/-- one clause: the class, the slot of its name, what it does with the fields -/
abbrev Clause := Str × Option Nat × (List D → MS)
def isSub (c h : Str) : Bool := decide (c = h) || decide (h = Str.ofString "CountError")
section
variable [Tb]
/-- what a suite knows of the exception that it holds -/
def ExDat (K : PySem.W.Frag) (W : Addr → Prop) (H : Hp) (x : Str) (C : Addr) (cls : Value) (d : Option Addr) (ds : List D) : Prop :=
  x = Str.ofString "CountError" ∨ (cls = .ref C ∧ ((d = none ∧ ds = []) ∨ ∃ dd f v y, d = some dd ∧ H dd = some (.xd [(f, v)]) ∧ exFields.lookup x = some f ∧ ds = [y] ∧ Rx K W H v y))
def tH (fr : Bool) (F : List Nat) (K : PySem.W.Frag) (x : Str) (C : Addr) (io : Option Nat) (m : List D → MS) : Addr → Value → Option Addr → TS := fun a cls d D σ H => ∃ W O ρ ds, SRel K W O H σ ρ ∧ ExDat K W H x C cls d ds ∧ (∀ i, io = some i → σ[i]? = none ∨ σ[i]? = some (some (.ref a))) ∧ OutS fr F K WF W O σ H D (m ds ρ)
def SubOk (K : PySem.W.Frag) (tab : List Str) (h : Str) (C : Addr) : Prop := PySem.W.nsIn K mainGlobals h = some (some (.ref C)) ∧ ∀ c ∈ tab, ∀ a, PySem.W.nsIn K mainGlobals c = some (some (.ref a)) → PySem.W.exmOne K (.ref a) (.ref C) = some (isSub c h)
inductive HdC (X : Cx) (fr : Bool) (F : List Nat) (tab : List Str) : List ExceptHandler → List Clause → Prop
  | nil : HdC X fr F tab [] []
  | bare {x : Str} {C : Addr} {m : List D → MS} {s0 : Stmt} {sts : List Stmt} {np hp : Pos} {hds : List ExceptHandler} {l : List Clause} (hc : Names X x (.ref C)) (sb : SubOk X.K tab x C) (hs : SuiteOk X (s0 :: sts) (tH fr F X.K x C none m)) (r : HdC X fr F tab hds l) :
      HdC X fr F tab (.ExceptHandler (some (.Name x np)) none (s0 :: sts) hp :: hds) ((x, none, m) :: l)
  | named {x n : Str} {i : Nat} {C : Addr} {m : List D → MS} {s0 : Stmt} {sts : List Stmt} {np hp : Pos} {hds : List ExceptHandler} {l : List Clause} (hi : X.N[i]? = some n) (hn : X.env.kindOf n = some .local) (hF : F.contains i = false) (hc : Names X x (.ref C)) (sb : SubOk X.K tab x C)
      (hs : SuiteOk X (s0 :: sts) (tH fr F X.K x C (some i) m)) (r : HdC X fr F tab hds l) : HdC X fr F tab (.ExceptHandler (some (.Name x np)) (some n) (s0 :: sts) hp :: hds) ((x, some i, m) :: l)
section
variable {K : PySem.W.Frag} {W O : Addr → Prop} {H : Hp} {σ : L2.St} {ρ : List Slot}
theorem SRel.off (R : SRel K W O H σ ρ) (i : Nat) (x : Option V) : SRel K W O H (σ.set i x) (ρ.set i .un) := by
  have own : ∀ (j : Nat) (e : D), (ρ.set i Slot.un)[j]? = some (.own e) → j ≠ i ∧ ρ[j]? = some (.own e) := fun j e h => by
    by_cases q : j = i
    · subst q
      rw [List.getElem?_set] at h
      simp at h
    · rw [List.getElem?_set_ne (Ne.symm q)] at h
      exact ⟨q, h⟩
  refine ⟨by rw [List.length_set, List.length_set, R.len], R.ow, R.tr, fun j y s h1 h2 => ?_, fun j k a d1 d2 n e1 e2 f1 f2 => ?_, R.tb⟩
  · by_cases q : j = i
    · subst q
      rw [List.getElem?_set] at h2
      simp only [if_true] at h2
      split at h2
      · cases h2; trivial
      · cases h2
    · rw [List.getElem?_set_ne (Ne.symm q)] at h1 h2
      exact R.sl j y s h1 h2
  · obtain ⟨n1, e1⟩ := own j d1 e1
    obtain ⟨n2, e2⟩ := own k d2 e2
    rw [List.getElem?_set_ne (Ne.symm n1)] at f1
    rw [List.getElem?_set_ne (Ne.symm n2)] at f2
    exact R.ne j k a d1 d2 n e1 e2 f1 f2
end
section
variable {X : Cx} {fr : Bool} {F : List Nat} {tab : List Str} {Ew : WX}
end
end
end CF
end
section
/-! CX, part 3: what suites do; own classes. -/
namespace CF
open PySem PySem.Spec PyProof.Rows L2
section
variable [Tb]
section
variable {X : Cx} {fr : Bool} {F : List Nat} {x f n : Str} {C : Addr} {i : Nat} {e : Expr} {g : D → D}
end
/-! ### own classes: __init__ -/
section
variable {P : Program} {w : World} {K : PySem.W.Frag} {mg : Str → Option Value} {base : Heap}
/-- def __init__(self, f): self.f = f -/
theorem init_ok {st : Stmt} {qual f : Str} {C fI : Addr} {fd : FuncData} {ps : List Str} {p1 p2 p3 p4 : Pos} (Fn : Fun K "__init__" qual st fI fd) (hps : ps = [Str.ofString "self", f]) (S : FnScope [Str.ofString "self", f] ps (defScope st)) (T : OexC K C) (hno : PySem.W.findIn K (.ref C) f = some none)
    (hbd : defBody st = [.Assign [.Attribute (.Name "self" p1) f p2] (.Name f p3) p4]) (hv1 : Vis (defScope st) "self") (hv2 : Vis (defScope st) f) (d1 : (f == ("__debug__" : Str)) = false) (d2 : (f == ("__classdict__" : Str)) = false)
    (hsw : ∀ env : Env, swapsWith (.Name f p3) (some (.Attribute (.Name "self" p1) f p2)) p4.line env = pure false) : FnOk P w K mg base CX0 1 fI fd ps (spI C f) := by
  subst hps
  refine Fn.ok S (fun vs H Q E ⟨a, y, e, _⟩ => by rw [e]; rfl) fun cdv A outer s H vs Q E hr h => ?_
  obtain ⟨a, y, rfl, ha, q⟩ := h
  rw [hbd]
  refine ⟨_, pss_one (ps_ost (pe_var (i := 0) rfl hv1) (pe_var (i := 1) rfl hv2 d1 d2) (hsw _)), ?_⟩
  exact ⟨y, rfl, .ref a, rfl, a, C, rfl, T, hno, .inl ⟨ha, fun dx n ne => q dx n ne⟩⟩
end
end
end CF
end
section
/-! CX, part 4: own classes as the text has them; clauses; calls that make an object and may raise. -/
namespace CF
open PySem PySem.Spec PyProof.Rows L2
variable [Tb]
section
variable {X : Cx} {F : List Nat} {g : FM} {as : List (M LV)} {Ew : WX}
end
section
variable {X : Cx} {k j : Nat} {x : Str} {p pos : Pos} {e : Expr} {es : List Expr} {Ew : WX} {F : List Nat} {g : FM} {as : List (M LV)}
end
/-! ### own classes -/
structure InitG (K : PySem.W.Frag) (mg : Str → Option Value) (x f qual : Str) (st : Stmt) : Prop where
  ex : ∃ (C fI : Addr) (fd : FuncData), OexC K C ∧ XfC K C ∧ PySem.W.findIn K (.ref C) f = some none ∧ PySem.W.findIn K (.ref C) "__init__" = some (some (.ref fI)) ∧ PySem.W.typeIn K (.ref fI) = some (.type "function") ∧ Fun K "__init__" qual st fI fd ∧ Binds K fd ["self", f] [] ∧ mg x = some (.ref C) ∧ PySem.W.nsIn K mainGlobals x = some (some (.ref C))
section
variable {P : Program} {w : World} {K : PySem.W.Frag} {mg : Str → Option Value} {base : Heap} {x f qual : Str} {st : Stmt}
theorem InitG.cls (I : InitG K mg x f qual st) {p1 p2 p3 p4 : Pos} (hbd : defBody st = [.Assign [.Attribute (.Name "self" p1) f p2] (.Name f p3) p4]) (S : FnScope [Str.ofString "self", f] [Str.ofString "self", f] (defScope st)) (hv1 : Vis (defScope st) "self") (hv2 : Vis (defScope st) f) (d1 : (f == ("__debug__" : Str)) = false) (d2 : (f == ("__classdict__" : Str)) = false)
    (hsw : ∀ env : Env, swapsWith (.Name f p3) (some (.Attribute (.Name "self" p1) f p2)) p4.line env = pure false) : ClsX P w K mg base x f := by
  obtain ⟨C, fI, fd, h1, h2, h3, h4, h5, Fn, hb, hm, hn⟩ := I.ex
  exact ⟨C, fI, fd, _, h1, h2, h3, h4, h5, init_ok Fn rfl S h1 h3 hbd hv1 hv2 d1 d2 hsw, hb, hm, hn⟩
end
section
variable {X : Cx} {fr : Bool} {F : List Nat} {tab : List Str} {x f n : Str} {i : Nat} {m : List D → MS} {s0 : Stmt} {sts : List Stmt} {np hp : Pos} {hds : List ExceptHandler} {l : List Clause}
end
end CF
namespace CF
open PySem PySem.Spec PyProof.Rows L2
variable [Tb]
section
variable {X : Cx} {Ew : WX} {x : Str} {pos : Pos}
end
end CF
end
section
/-! CX, part 5: a lambda without parameters, handed to a def that calls it in a try. -/
namespace CF
open PySem PySem.Spec PyProof.Rows L2 LamX
variable [Tb]
theorem among_more {pos : Pos} {cv : Value} (l more : List Value) (h : codeAmong pos l = some cv) : codeAmong pos (l ++ more) = some cv := by
  fun_induction codeAmong pos l with
  | case1 line t col t' c rest hc =>
    simp only [List.cons_append, codeAmong]
    rw [if_pos hc]
    exact h
  | case2 line t col t' c rest hc ih =>
    simp only [List.cons_append, codeAmong]
    rw [if_neg hc]
    exact ih h
  | case3 l hno => cases h
theorem among_new {pos : Pos} {c : Value} (l : List Value) (h : TriplesOk l) (hn : codeAmong pos l = none) : codeAmong pos (l ++ [rawInt pos.line, rawInt pos.col, c]) = some c := by
  fun_induction TriplesOk l with
  | case1 =>
    simp [rawInt, codeAmong]
  | case2 a t b u x rest ih =>
    simp only [List.cons_append, codeAmong] at hn ⊢
    split at hn
    · cases hn
    · rename_i q
      rw [if_neg q]
      exact ih h hn
  | case3 l h1 h2 => exact h.elim
/-- all but the table at P stays -/
def ExtT (P : Addr) (H H' : Hp) : Prop := ∀ b o, H b = some o → b ≠ P → H' b = some o
section
variable {X : Cx} {pins : List (Addr × Obj)} {σ : L2.St} {H : Hp} {s : Shared}
abbrev lamObj (X : Cx) (params : Arguments) (body : Expr) (scope : Scope) (pm : Value) (c' : Addr) (ctv : Value) : Obj := PySem.W.kla_obj "<lambda>" (X.env.qual ++ "<lambda>") params body scope (cloFrom X.env.cells scope.names []) pm c' ctv
theorem lam_new {c P : Addr} {params : Arguments} {body : Expr} {scope : Scope} {pos : Pos} {E Q : Value → Shared → Prop} (I : Inv X pins σ H s) (TB : TabB X.base X.mg c P) (hcode : X.env.code = .ref c) (hm : (P, X.env.qual ++ "<lambda>") ∈ Tb.T)
    (hu : ∀ p ∈ Tb.T, p.1 = P → p.2 = X.env.qual ++ "<lambda>") (hT : Tabs Tb.T H) (hdef : defaultsOf params X.env = ([], [])) (hfree : ∀ y ∈ scope.names, y.2 = .free → ∃ c, X.env.cells.lookup y.1 = some c)
    (k : ∀ (f c' : Addr) (pm ctv : Value) (H1 : Hp) (s' : Shared), Inv X pins σ H1 s' → ExtT P H H1 → Tabs Tb.T H1 → s'.heap.get? f = some (lamObj X params body scope pm c' ctv) → H1 f = none → f ∉ frs X.stack → H1 c' = some (CodeO c' (X.env.qual ++ "<lambda>")) → (∃ tab : Array Value, H1 P = some (.tbl tab) ∧ codeAmong pos tab.toList = some (.ref c')) → Q (.ref f) s') :
    wpAny (model X.prog X.w) X.A (eval (.Lambda params body scope pos) X.env) Q E s := by
  obtain ⟨tab, atP, trip, named⟩ := hT _ hm
  have inP : s.heap.get? P = some { cls := .none, data := .fields tab } := I.hok P _ atP
  have bP := TB.bm.keeps I.bk
  have far : ∀ g : Addr, s.heap.objs.size ≤ g → g ∉ frs X.stack := fun g hg z => by
    rcases List.mem_cons.mp (I.stkSub _ z) with q | q
    · exact Nat.lt_irrefl g (Nat.lt_of_lt_of_le (q ▸ I.lt) hg)
    · exact I.nofs hg q
  refine PySem.W.kla_eval hdef ?_
  cases found : codeAmong pos tab.toList with
  | some cv =>
    obtain ⟨c', rfl, hc'⟩ := named pos cv found
    refine PySem.W.kla_makeFunctionHit (mg := X.mg) (c := c) (P := P) (ps := tab) (closure_ok hfree) I.ok.glob (I.mod.glob.keeps I.bk) hcode (TB.code.keeps I.bk) inP trip found bP ?_
    intro ctv h' tk ext size
    refine k h'.objs.size c' ((X.mg "__name__").getD .none) ctv H _ (I.kept fun b o q => Heap.get?_push_of_some _ (ext b o q)) (fun _ _ q _ => q) hT (Heap.get?_push_size _ rfl) (I.hok.fresh size) (far _ size) hc' ⟨tab, atP, found⟩
  | none =>
    refine PySem.W.kla_makeFunction (mg := X.mg) (c := c) (P := P) (ps := tab) (closure_ok hfree) I.ok.glob (I.mod.glob.keeps I.bk) hcode (TB.code.keeps I.bk) inP trip found TB.gP bP ?_
    intro c' ctv h' tk ext low high isCode newTab
    obtain ⟨_, oc, fields, tn, e, hoc, hd, hv⟩ := isCode
    cases e
    have size : s.heap.objs.size ≤ h'.objs.size := Nat.le_trans low (Nat.le_of_lt high)
    have fresh' : H c' = none := I.hok.fresh low
    have neP : P ≠ c' := ne_of_none atP fresh'
    let row : Array Value := #[rawInt pos.line, rawInt pos.col, .ref c']
    have J := inv_table (t' := tk) (more := row) (h' := h'.push (lamObj X params body scope ((X.mg "__name__").getD .none) c' ctv)) I atP (fun b o hb q => Heap.get?_push_of_some _ (ext b o hb q)) (Heap.get?_push_of_some _ newTab) low ⟨oc, fields, tn, Heap.get?_push_of_some _ hoc, hd, hv⟩
    have keepT : ExtT P H (upd (upd H P (.tbl (tab ++ row))) c' (CodeO c' (X.env.qual ++ "<lambda>"))) := fun b o q hb => by rw [upd_ne (ne_of_none q fresh'), upd_ne hb]; exact q
    have keepC : ∀ b q', H b = some (CodeO b q') → upd (upd H P (.tbl (tab ++ row))) c' (CodeO c' (X.env.qual ++ "<lambda>")) b = some (CodeO b q') := fun b q' q => keepT b _ q fun z => by
      rw [z, atP] at q
      exact codeO_ne tab (Option.some.inj q).symm
    have asList : (tab ++ row).toList = tab.toList ++ [rawInt pos.line, rawInt pos.col, .ref c'] := by simp [row]
    refine k h'.objs.size c' ((X.mg "__name__").getD .none) ctv _ _ J keepT ?_ (Heap.get?_push_size _ rfl) ?_ (far _ size) upd_same ⟨_, by rw [upd_ne neP, upd_same], by rw [asList]; exact among_new _ trip found⟩
    · intro p hp
      by_cases same : p.1 = P
      · rw [hu p hp same, same]
        refine ⟨_, by rw [upd_ne neP, upd_same], by rw [asList]; exact PySem.TriplesOk_snoc _ _ _ _ trip, fun p' cv hc => ?_⟩
        rw [asList] at hc
        rcases among_app _ trip hc with z | z
        · obtain ⟨c0, q1, q2⟩ := named p' cv z
          exact ⟨c0, q1, keepC _ _ q2⟩
        · exact ⟨c', z, upd_same⟩
      · obtain ⟨tab2, q1, q2, q3⟩ := hT p hp
        refine ⟨tab2, keepT _ _ q1 same, q2, fun p' cv hc => ?_⟩
        obtain ⟨c0, z1, z2⟩ := q3 p' cv hc
        exact ⟨c0, z1, keepC _ _ z2⟩
    · rw [upd_ne (Nat.ne_of_gt high), upd_ne (Nat.ne_of_gt (Nat.lt_of_lt_of_le (Heap.lt_size inP) size))]
      exact I.hok.fresh size
end
/-! ### the lambda called, in the def that got it -/
section
variable {X : Cx} {pins : List (Addr × Obj)} {σ : L2.St} {H : Hp} {s : Shared}
end
section
variable {X : Cx}
end
/-! ### heard: try: return (s, act()) / except ..: .. -/
section
variable {X : Cx} {Ng : List Str} {x a s q : Str} {sg : Scope} {g : Addr} {cdg : Value} {tab : List Str} {l : List Clause} {h0 : ExceptHandler} {hds : List ExceptHandler} {j k : Nat} {p1 p2 p3 p4 p5 p6 : Pos}
end
end CF
end
section
/-! CX, part 6: the law's end where defs make lambdas. -/
namespace CF
open PySem PySem.Spec PyProof.Rows L2 LamX
section
variable {P : Program} {w : World} {K : PySem.W.Frag} {mg mb : Str → Option Value} {k : Nat} {fa a : Addr} {fd : FuncData} {x : Str} {sp : Sp} {s1 : Shared} {vs : List Value} {ns : List Int} {cs : List (Addr × Addr)}
abbrev emptyTab : Obj := { cls := .none, data := .fields #[] }
theorem law_atT {H : Hp} (KX : K.In s1.heap) (hns : s1.heap.Ns mainGlobals mg) (hb : s1.heap.Ns builtinsNs mb) (hbb : ∀ y : Str, y ≠ "__name__" → mb y = bootBuiltins y) (hlim : s1.heap.NoLimit) (hg : s1.gens = #[])
    (hbm : ∃ (bm : Addr) (ob : Obj), mg "__builtins__" = some (.ref bm) ∧ bm ≠ builtinsNs ∧ s1.heap.get? bm = some ob ∧ ob.cls = .type "module" ∧ ob.dict = some builtinsNs ∧ ob.data = .plain)
    (tabs : ∀ p ∈ cs, s1.heap.get? p.2 = some emptyTab) (out : ∀ p ∈ cs, K.lookup p.2 = none) (heads : ∀ p ∈ cs, PySem.W.CodeHd s1.heap p.1 p.2)
    (ha : s1.heap.get? a = some { cls := .type "list", data := .seq vs.toArray }) (hr : Room k callerA) (F : ∀ base : Heap, K.In base → base.Ns mainGlobals mg → (∀ p ∈ cs, TabB base mg p.1 p.2) → FnG P w K mg base CX0 k fa fd [x] sp)
    (hbind : ∀ (s : Shared) (u : Value), BindsTo s fd ⟨[u], []⟩ [(x, u)]) (hsp : sp [.ref a] H (fun v _ => v = .bl true) E0) (hO : ∀ b, H b = none ∨ b ∈ cs.map (·.2) ∨ ∃ o xs, H b = some (.frz o (.lst xs))) (hH : ∀ p ∈ cs, H p.2 = some (.tbl #[])) (hok : HOk P w H s1.heap)
    (hA : ∀ b, H b ≠ none → b = a ∨ b ∈ cs.map (·.2)) (hK : H a ≠ none → K.lookup a = none) :
    codeAny (model P w) callerA (.call (.ref fa) ⟨[.ref a], []⟩) (wants s1) s1 := by
  have tabOf : ∀ {b : Addr}, b ∈ cs.map (·.2) → s1.heap.get? b = some emptyTab := fun {b} hb => by
    obtain ⟨p, hp, rfl⟩ := List.mem_map.mp hb
    exact tabs p hp
  have see : ∀ {b : Addr} {o : Obj}, s1.heap.get? b = some o → o ≠ { cls := .type "list", data := .seq vs.toArray } → o ≠ emptyTab → (hidT s1.heap H).get? b = some o := fun {b o} e n1 n2 => by
    refine hidT_get e ?_
    cases q : H b with
    | none => rfl
    | some u =>
      rcases hA b (by rw [q]; simp) with z | z
      · subst z
        rw [ha] at e
        exact (n1 (Option.some.inj e).symm).elim
      · rw [tabOf z] at e
        exact (n2 (Option.some.inj e).symm).elim
  have plainNs : ∀ {b : Addr} {m : Str → Option Value}, s1.heap.Ns b m → (hidT s1.heap H).Ns b m := by
    rintro b m ⟨o, es, ep, e, d, r⟩
    exact ⟨o, es, ep, see e (fun z => by rw [z] at d; cases d) (fun z => by rw [z] at d; cases d), d, r⟩
  have kin : K.In (hidT s1.heap H) := by
    intro b o e
    refine hidT_get (KX b o e) ?_
    cases q : H b with
    | none => rfl
    | some u =>
      rcases hA b (by rw [q]; simp) with z | z
      · subst z
        rw [hK (by rw [q]; simp)] at e
        cases e
      · obtain ⟨p, hp, rfl⟩ := List.mem_map.mp z
        rw [out p hp] at e
        cases e
  obtain ⟨mc, l1, l2⟩ := hlim
  have md : Mod K mg (hidT s1.heap H) := ⟨kin, plainNs hns, ⟨mb, plainNs hb, hbb⟩, ⟨mc, plainNs l1, l2⟩⟩
  have TB : ∀ p ∈ cs, TabB (hidT s1.heap H) mg p.1 p.2 := fun p hp => by
    obtain ⟨on, ens, eep, g1, g2, _⟩ := hns
    have gP : mainGlobals ≠ p.2 := fun z => by
      rw [z, tabs p hp] at g1
      cases g1
      cases g2
    refine ⟨?_, ?_, gP⟩
    · obtain ⟨o, us, file, tf, flags, tg, inF, text, tt, e1, r1, r2, r3, rest⟩ := heads p hp
      exact ⟨o, us, file, tf, flags, tg, inF, text, tt, see e1 (fun z => by rw [z] at r2; cases r2) (fun z => by rw [z] at r2; cases r2; simp at r3), r1, r2, r3, rest⟩
    · obtain ⟨bm, ob, b1, b2, b3, b4, b5, b6⟩ := hbm
      refine ⟨bm, ob, b1, b2, fun z => ?_, fun z => ?_, see b3 (fun z => by rw [z] at b6; cases b6) (fun z => by rw [z] at b6; cases b6), b4, b5, b6⟩
      · rw [z, g1] at b3
        cases b3
        rw [g2] at b6
        cases b6
      · rw [z, tabs p hp] at b3
        cases b3
        cases b6
  have nf : ∀ b ∈ frs [], H b = none := fun b z => absurd (show b ∈ ([] : List Addr) from z) (by simp)
  have e0 : Env0 P w K mg (hidT s1.heap H) callerA [] s1 H := ⟨rfl, md, fun _ _ e => of_hidT e, Nat.le_of_eq (hidT_size _ _), trivial, nf, hok, .of_eq hg⟩
  refine codeAny_mono ((F _ kin (plainNs hns) TB).go (us := [.ref a]) (vs := [.ref a]) hr rfl e0 (hbind s1 (.ref a)) (.cons rfl .nil) hsp) ?_
  intro r s' h
  match r, h with
  | .error e, h => exact h.elim
  | .ok (.ret u), h =>
    obtain ⟨v, H', os, bare, un, hok', rv, rfl⟩ := h
    cases (show u = Value.bool true from rv)
    have same : ∀ b o, b ∉ cs.map (·.2) → s1.heap.get? b = some o → s'.heap.get? b = some o := by
      intro b o nb e
      rcases hO b with z | z | ⟨ob, xs, z⟩
      · exact un.keep b o e z (fun q => absurd (show b ∈ ([] : List Addr) from q) (by simp)) (by simp)
      · exact absurd z nb
      · have e1 := (hok b _ z).1
        rw [e] at e1
        cases e1
        exact (hok' b _ (un.frzs b _ _ z)).1
    have more : ∀ p ∈ cs, ∃ ps : Array Value, s'.heap.get? p.2 = some { cls := .none, data := .fields ps } := fun p hp => by
      obtain ⟨ps, z⟩ := un.tbls p.2 #[] (hH p hp)
      exact ⟨_, hok' p.2 _ z⟩
    refine ⟨rfl, ⟨fun b o e => ?_, fun b o e => ?_⟩, os, bare⟩
    · by_cases z : b ∈ cs.map (·.2)
      · obtain ⟨p, hp, rfl⟩ := List.mem_map.mp z
        obtain ⟨ps, hps⟩ := more p hp
        rw [tabs p hp] at e
        cases e
        exact .inr (.inl ⟨((heads p hp).tab (tabs p hp)).isCodeTable, rfl, #[], ps, rfl, by rw [Array.empty_append]; exact hps⟩)
      · exact .inl (same b o z e)
    · by_cases z : b ∈ cs.map (·.2)
      · obtain ⟨p, hp, rfl⟩ := List.mem_map.mp z
        obtain ⟨ps, hps⟩ := more p hp
        exact ⟨_, hps⟩
      · exact ⟨o, same b o z e⟩
/-- THE HEAD, with tables -/
theorem law_topT (KX : K.In s1.heap) (hns : s1.heap.Ns mainGlobals mg) (hb : s1.heap.Ns builtinsNs mb) (hbb : ∀ y : Str, y ≠ "__name__" → mb y = bootBuiltins y) (hlim : s1.heap.NoLimit) (hg : s1.gens = #[])
    (hbm : ∃ (bm : Addr) (ob : Obj), mg "__builtins__" = some (.ref bm) ∧ bm ≠ builtinsNs ∧ s1.heap.get? bm = some ob ∧ ob.cls = .type "module" ∧ ob.dict = some builtinsNs ∧ ob.data = .plain)
    (tabs : ∀ p ∈ cs, s1.heap.get? p.2 = some emptyTab) (out : ∀ p ∈ cs, K.lookup p.2 = none) (heads : ∀ p ∈ cs, PySem.W.CodeHd s1.heap p.1 p.2)
    (ha : s1.heap.get? a = some { cls := .type "list", data := .seq vs.toArray }) (hi : IntsAre vs ns) (hl : ns.length ≤ sizeLine) (hr : Room k callerA) (F : ∀ base : Heap, K.In base → base.Ns mainGlobals mg → (∀ p ∈ cs, TabB base mg p.1 p.2) → FnG P w K mg base CX0 k fa fd [x] sp)
    (hbind : ∀ (s : Shared) (u : Value), BindsTo s fd ⟨[u], []⟩ [(x, u)]) (hsp : ∀ H : Hp, (∀ p ∈ cs, H p.2 = some (.tbl #[])) → SqL K H a (ns.map V.int) → sp [.ref a] H (fun v _ => v = .bl true) E0) :
    codeAny (model P w) callerA (.call (.ref fa) ⟨[.ref a], []⟩) (wants s1) s1 := by
  have rv := CF.vals_ints hi
  have lv := hi.length
  have aT : a ∉ cs.map (·.2) := fun z => by
    obtain ⟨p, hp, e⟩ := List.mem_map.mp z
    have q := tabs p hp
    rw [e, ha] at q
    cases q
  let T : Hp := fun b => if b ∈ cs.map (·.2) then some (.tbl #[]) else none
  have tIn : ∀ b, b ∈ cs.map (·.2) → T b = some (.tbl #[]) := fun b h => if_pos h
  have tOff : ∀ b, b ∉ cs.map (·.2) → T b = none := fun b h => if_neg h
  have tabOf : ∀ {b : Addr}, b ∈ cs.map (·.2) → s1.heap.get? b = some emptyTab := fun {b} hb => by
    obtain ⟨p, hp, rfl⟩ := List.mem_map.mp hb
    exact tabs p hp
  have inT : ∀ p ∈ cs, p.2 ∈ cs.map (·.2) := fun p hp => List.mem_map.mpr ⟨p, hp, rfl⟩
  cases hk : K.lookup a with
  | some o =>
    have e := KX a o hk
    rw [ha] at e
    cases e
    have hS : SqL K T a (ns.map V.int) := .inr ⟨_, vs.toArray, _, hk, rfl, rfl, rfl, by rw [List.size_toArray, lv]; exact hl, by simpa using rv⟩
    refine law_atT (H := T) KX hns hb hbb hlim hg hbm tabs out heads ha hr F hbind (hsp _ (fun p hp => tIn _ (inT p hp)) hS) (fun b => ?_) (fun p hp => tIn _ (inT p hp)) (fun b u z => ?_) (fun b z => ?_) fun z => absurd (tOff a aT) z
    · by_cases h : b ∈ cs.map (·.2)
      · exact .inr (.inl h)
      · exact .inl (tOff b h)
    · by_cases h : b ∈ cs.map (·.2)
      · rw [tIn b h] at z
        cases z
        exact tabOf h
      · rw [tOff b h] at z
        cases z
    · by_cases h : b ∈ cs.map (·.2)
      · exact .inr h
      · exact absurd (tOff b h) z
  | none =>
    let ob : Obj := { cls := .type "list", data := .seq vs.toArray }
    let H : Hp := fun b => if b = a then some (.frz ob (.lst (ns.map V.int))) else T b
    have at_a : H a = some (.frz ob (.lst (ns.map V.int))) := if_pos rfl
    have off : ∀ b, b ≠ a → H b = T b := fun b h => if_neg h
    have neA : ∀ b, b ∈ cs.map (·.2) → b ≠ a := fun b h z => aT (z ▸ h)
    have hH : ∀ p ∈ cs, H p.2 = some (.tbl #[]) := fun p hp => (off _ (neA _ (inT p hp))).trans (tIn _ (inT p hp))
    refine law_atT (H := H) KX hns hb hbb hlim hg hbm tabs out heads ha hr F hbind (hsp H hH (.inl (.inr ⟨ob, at_a⟩))) (fun b => ?_) hH ?_ (fun b z => ?_) fun _ => hk
    · by_cases h : b = a
      · exact .inr (.inr ⟨ob, ns.map V.int, by rw [h]; exact at_a⟩)
      · by_cases h2 : b ∈ cs.map (·.2)
        · exact .inr (.inl h2)
        · exact .inl ((off b h).trans (tOff b h2))
    · intro b u z
      by_cases h : b = a
      · subst h
        rw [at_a] at z
        cases z
        exact ⟨ha, by rw [List.length_map]; exact hl, vs, _, rv, ha⟩
      · rw [off b h] at z
        by_cases h2 : b ∈ cs.map (·.2)
        · rw [tIn b h2] at z
          cases z
          exact tabOf h2
        · rw [tOff b h2] at z
          cases z
    · by_cases h : b = a
      · exact .inl h
      · rw [off b h] at z
        by_cases h2 : b ∈ cs.map (·.2)
        · exact .inr h2
        · exact absurd (tOff b h2) z
end
/-- what the top's end tells of a def's table -/
def TabK (q : Program) (K : PySem.W.Frag) (p : Addr × Addr) : Prop := K.lookup p.2 = none ∧ ∃ (d : DefRec) (y : Str), (recsOf q).find? (fun e => e.name == y) = some d ∧ PySem.W.tabIn K y = some p
theorem walkGT {l : PySem.W.OpenLaw} {n k : Nat} {q : Program} {loose : List Str} {XP : (Str → Option Value) → Heap → Prop} {YP : World → Heap → Prop} {d : DefRec} {K : Params → PySem.W.Frag} {x : Str}
    (hn : l.most = some n) (hn2 : n ≤ sizeLine) (hdf : d.params.defaults = []) (hr : Room k callerA) (hY : ∀ (w : World) (h : Heap), YP w h → (K w.params).In h)
    (F : ∀ (w : World) (mg : Str → Option Value) (fa : Addr) (h : Heap), (K w.params).In h → h.Ns mainGlobals mg → mg d.name = some (.ref fa) →
      ∃ (cs : List (Addr × Addr)) (fd : FuncData) (sp : Sp), (∀ p ∈ cs, TabK q (K w.params) p) ∧ (∀ (s : Shared) (u : Value), BindsTo s fd ⟨[u], []⟩ [(x, u)]) ∧
        (∀ base : Heap, (K w.params).In base → base.Ns mainGlobals mg → (∀ p ∈ cs, TabB base mg p.1 p.2) → FnG l.prog w (K w.params) mg base CX0 k fa fd [x] sp) ∧
        ∀ (H : Hp) (a : Addr) (ns : List Int), ns.length ≤ n → (∀ p ∈ cs, H p.2 = some (.tbl #[])) → SqL (K w.params) H a (ns.map V.int) → sp [.ref a] H (fun v _ => v = .bl true) E0) :
    PySem.W.WalkO q loose XP YP l.row.toRowW d [] (fun f vs => PySem.call f vs) := by
  refine Att.attach_call hn hdf ?_
  intro w s0 s1 mg mb fa o pm cd doc a vs ns G Y ho hd hcd hmg hobj hints hlen hg
  obtain ⟨cs, fd, sp, hc, hbd, hF, hsp⟩ := F w mg fa _ (hY w _ Y) G.T.g hmg
  have tb : ∀ p ∈ cs, PySem.W.CodeHd s1.heap p.1 p.2 ∧ s1.heap.get? p.2 = some emptyTab := fun p hp => by
    obtain ⟨_, dr, y, h1, h2⟩ := hc p hp
    exact PySem.W.tab_of G.T (hY w _ Y) h1 h2
  exact law_topT (hY w _ Y) G.T.g G.T.b G.T.builtins G.T.nolimit hg G.T.bmain (fun p hp => (tb p hp).2) (fun p hp => (hc p hp).1) (fun p hp => (tb p hp).1) hobj hints (Nat.le_trans hlen hn2) hr hF hbd fun H hH hS => hsp H a ns hlen hH hS
end CF
end
section
/-! CX, part 7: defs that make lambdas. -/
namespace CF
open PySem PySem.Spec PyProof.Rows L2 LamX
/-- a def whose code object stands at c -/
structure DefT (K : PySem.W.Frag) (mg : Str → Option Value) (x : Str) (st : Stmt) (ps : List Str) (c : Addr) : Prop where
  ex : ∃ (f : Addr) (oc : Value) (od : Option Addr) (kV doc pm : Value) (an : Option Addr) (ct : Value) (osl : Array (Option Value)), K.lookup f = some ⟨oc, od, .func (PySem.W.fnOf x x (defArgs st) (defBody st) (defScope st) .none kV doc pm an (.ref c) ct), osl⟩ ∧ PySem.W.codeIn K (.ref c) x = true ∧
    PySem.W.keepIn K (.ref f) = true ∧ mg x = some (.ref f) ∧ Binds K (PySem.W.fnOf x x (defArgs st) (defBody st) (defScope st) .none kV doc pm an (.ref c) ct) ps []
/-- the table at P of the code object at c: lambdas made there bear the name q -/
structure Tbs [Tb] (base : Heap) (mg : Str → Option Value) (c P : Addr) (q : Str) : Prop where
  tb : TabB base mg c P
  mem : (P, q) ∈ Tb.T
  one : ∀ p ∈ Tb.T, p.1 = P → p.2 = q
variable [Tb]
section
variable {P : Program} {w : World} {K : PySem.W.Frag} {mg : Str → Option Value} {base : Heap} {k nl : Nat} {x : Str} {st : Stmt} {ps N : List Str} {fr : Bool} {F : List Nat} {m : MS} {c : Addr} {CX : CXT} {sp : Sp}
theorem DefT.fn (D : DefT K mg x st ps c) (S : FnScope N ps (defScope st)) (ln : ∀ vs H Q E, sp vs H Q E → vs.length = ps.length)
    (hb : ∀ (f : Addr) (A : Around) (outer : List Env) (s : Shared) (H : Hp) (vs : List V) (Q : VK) (E : XK), Room k (A.deeper (envOfC x (defScope st) s.heap.objs.size f (.ref c))) → A.guards = some [] → sp vs H Q E →
      ∃ t, PSs (cxOf CX P w K mg base N x (defScope st) f (.ref c) A outer s H E) (defBody st) t ∧ t { nx := fun _ H' => Q .non H', rt := Q } (start N vs) H) :
    ∃ (f : Addr) (fd : FuncData), FnG P w K mg base CX (k + 1) f fd ps sp ∧ mg x = some (.ref f) ∧ PySem.W.keepIn K (.ref f) = true ∧ Binds K fd ps [] ∧ Fun K x x st f fd := by
  obtain ⟨f, oc, od, kV, doc, pm, an, ct, osl, lk, hcd, hk, hm, hbi⟩ := D.ex
  refine ⟨f, _, ⟨ln, ?_⟩, hm, hk, hbi, fun_mk lk hcd hk⟩
  intro A outer s H args us vs Q E hr hgd e0 hbn rv hsp
  have hn := ln _ _ _ _ hsp
  have old : ∀ b o, base.get? b = some o → s.heap.get? b = some o := fun b o e => (e0.bs b o e).1
  have hin : K.In s.heap := e0.mod.kin.keeps old
  have hlim : s.heap.NoLimit := e0.mod.nolimit.keeps old
  have slots : ∀ y ∈ ps.zip us, (defScope st).names.lookup y.1 = some .local ∨ ((defScope st).names.lookup y.1 = some .cell ∧ ((cellsFrom (s.heap.objs.size + 1) (defScope st).names []).lookup y.1).isSome = true) := by
    rintro ⟨z, v⟩ hz
    exact (S.par z (List.of_mem_zip hz).1).imp id fun c => ⟨c, PySem.W.cellsFrom_some _ _ _ (.inl c)⟩
  refine codeAny_call_function hr.depth (hin _ _ lk) rfl S.co S.gen rfl (PySem.W.codeRec_of hin hcd) (hbn _ _ _ _ ?_)
  refine wpAny_newFunctionEnv_cells S.kind slots ?_
  rintro env rfl s1 y
  refine ⟨hlim.keeps y.toInCall.keep, codeAny_func ?_⟩
  obtain ⟨t, run, q⟩ := hb f A outer s H vs Q E (hr.deeper _) hgd hsp
  refine wpAny_mono (run.run [] s1 (start N vs) H _ (inv_start (CX := CX) (E := E) (N := N) S hr.hd e0 hn rv y) q) ?_ fun _ _ z => z
  intro fl s' z
  match fl, z with
  | .next, ⟨_, H1, J, z⟩ => exact ⟨.non, H1, J.os, J.bare, J.base, J.hok, rfl, z⟩
  | .ret u, ⟨v, _, H1, J, r1, z⟩ => exact ⟨v, H1, J.os, J.bare, J.base, J.hok, r1, z⟩
  | .brk, ⟨_, _, _, z⟩ => exact z.elim
  | .cont, ⟨_, _, _, z⟩ => exact z.elim
theorem DefT.cal (nl : Nat) (D : DefT K mg x st ps c) (S : FnScope N ps (defScope st)) (hF : (F.all fun i => decide (i < ps.length)) = true) (hN : N.length = ps.length + nl)
    (hb : ∀ (f : Addr) (A : Around) (outer : List Env) (s : Shared) (H : Hp) (E : XK), Room k (A.deeper (envOfC x (defScope st) s.heap.objs.size f (.ref c))) → A.guards = some [] →
      PSs (cxOf CX0 P w K mg base N x (defScope st) f (.ref c) A outer s H E).nox (defBody st) (tS fr F K WF m)) : CalG P w K mg base (k + 1) x fr F (runF fr ps.length nl F m) := by
  obtain ⟨f, fd, Fn, hm, hk, hbi, _⟩ := D.fn (P := P) (w := w) (base := base) (k := k) (CX := CX0) (sp := sp0 fr F K (runF fr ps.length nl F m)) S (fun vs H Q E h => spF_len h) fun f A outer s H vs Q E hr hg h => by
    have hv := spF_len h
    obtain ⟨W, O, qs, R, h⟩ := h
    refine ⟨_, (hb f A outer s H E hr hg).nox, ?_⟩
    have e : N.length - vs.length = nl := by rw [hN, hv]; omega
    unfold L2.start
    rw [e]
    exact run_start hF R h
  exact ⟨f, fd, ps, Fn, hm, hk, hbi⟩
theorem DefT.law {n : Nat} (D : DefT K mg x st ps c) (S : FnScope N ps (defScope st)) (hp : ps.length = 1) (hN : N.length = n + 2)
    (hb : ∀ (f : Addr) (A : Around) (outer : List Env) (s : Shared) (H : Hp) (E : XK), Room k (A.deeper (envOfC x (defScope st) s.heap.objs.size f (.ref c))) → A.guards = some [] →
      PSs (cxOf CX0 P w K mg base N x (defScope st) f (.ref c) A outer s H E).nox (defBody st) (tTop K m)) : ∃ f fd, mg x = some (.ref f) ∧ Fun K x x st f fd ∧ FnG P w K mg base CX0 (k + 1) f fd ps (spTop K n m) := by
  obtain ⟨f, fd, Fn, hm, hk, hbi, hf⟩ := D.fn (P := P) (w := w) (base := base) (k := k) (CX := CX0) (sp := spTop K n m) S (fun vs H Q E h => by obtain ⟨a, ns, rfl, _⟩ := h; rw [hp]; rfl) fun f A outer s H vs Q E hr hg h => ⟨_, (hb f A outer s H E hr hg).nox, top_read hN h⟩
  exact ⟨f, fd, hm, hf, Fn⟩
theorem defT_mk {h : Heap} {f : Addr} {oc : Value} {od an : Option Addr} {osl : Array (Option Value)} {kV doc pm ct : Value} (X : K.In h) (G : h.Ns mainGlobals mg) (a : PySem.W.nsIn K mainGlobals x = some (some (.ref f)))
    (l : K.lookup f = some ⟨oc, od, .func (PySem.W.fnOf x x (defArgs st) (defBody st) (defScope st) .none kV doc pm an (.ref c) ct), osl⟩) (cd : PySem.W.codeIn K (.ref c) x = true) (k : PySem.W.keepIn K (.ref f) = true)
    (b : ∀ (kV doc pm : Value) (an : Option Addr) (cdv ct : Value) (us : List Value), us.length = ps.length → bindArgs (PySem.W.fnOf x x (defArgs st) (defBody st) (defScope st) .none kV doc pm an cdv ct) ⟨us, []⟩ = pure (ps.zip us)) : DefT K mg x st ps c :=
  ⟨f, _, _, _, _, _, _, _, _, l, cd, k, PySem.W.mg_of X G a, (fun_mk (st := st) l cd k).binds b⟩
end
section
variable {X : Cx} {Ng : List Str} {x a q : Str} {st : Stmt} {c T : Addr} {tab : List Str} {l : List Clause} {h0 : ExceptHandler} {hds : List ExceptHandler} {j k : Nat} {p1 p2 p3 p4 p5 p6 p pos lpos : Pos} {i : Nat} {md : M D} {params : Arguments} {body : Expr} {scope : Scope}
end
end CF
end
section
/-! CX, part 8: displays with stars; comprehensions with two walks. -/
namespace CF
open PySem PySem.Spec PyProof.Rows L2 StX
/-! ### stars -/
def itemsOf : D → Option (List D)
  | .list xs => some xs
  | .tuple xs => some xs
  | _ => none
/-- a row of trees, some of them poured out -/
def mDsS : List (Bool × M D) → M (List D)
  | [] => pure []
  | (false, a) :: as => do
    let d ← a
    let ds ← mDsS as
    pure (d :: ds)
  | (true, a) :: as => do
    let d ← a
    let xs ← lift (itemsOf d)
    let ds ← mDsS as
    pure (xs ++ ds)
def mLstS (as : List (Bool × M D)) : M D := do
  let ds ← mDsS as
  lift (if ds.length ≤ sizeLine then some (.list ds) else none)
variable [Tb]
section
variable {X : Cx} {Ew : WX} {e : Expr} {es : List Expr} {pos p : Pos} {md : M D} {as : List (Bool × M D)}
theorem bsNil : PA X [] (tDs X.K Ew (mDsS [])) := PA.imp pa_nil fun σ H Q ⟨W, O, ρ, R, h⟩ => h H KeepO.refl R [] .nil
theorem bsCons (ha : PE X e (tD X.K Ew md)) (hr : PA X es (tDs X.K Ew (mDsS as))) (hs : starEach (e :: es) X.env = (false, eval e X.env) :: starEach es X.env := by rfl) : PA X (e :: es) (tDs X.K Ew (mDsS ((false, md) :: as))) :=
  PA.imp (pa_cons ha hr hs) fun σ H Q ⟨W, O, ρ, R, h⟩ => ⟨W, O, ρ, R, (Out.bind h).mono fun x ρ1 H1 k1 R1 h1 v rv =>
    ⟨W, O, ρ1, R1, (Out.bind h1).mono fun xs ρ2 H2 k2 R2 h2 vs rvs => h2 H2 KeepO.refl R2 (v :: vs) (.cons (rv.keepO R1 k2) rvs)⟩⟩
theorem RxL.app {K : PySem.W.Frag} {W : Addr → Prop} {H : Hp} : ∀ {xs ys : List V} {ds es : List D}, RxL K W H xs ds → RxL K W H ys es → RxL K W H (xs ++ ys) (ds ++ es)
  | _, _, [], _, h, k => by cases h; exact k
  | _, _, _ :: _, _, h, k => by
    cases h with
    | cons a b => exact .cons a (RxL.app b k)
theorem bsStar (ha : PE X e (tD X.K Ew md)) (hr : PA X es (tDs X.K Ew (mDsS as))) (hs : starEach (.Starred e p :: es) X.env = (true, eval e X.env) :: starEach es X.env := by rfl) : PA X (.Starred e p :: es) (tDs X.K Ew (mDsS ((true, md) :: as))) :=
  PA.imp (pa_star ha hr hs) fun σ H Q ⟨W, O, ρ, R, h⟩ => ⟨W, O, ρ, R, (Out.bind h).mono fun d ρ1 H1 k1 R1 h1 v rv => by
    obtain ⟨xs, hx, h2⟩ := Out.lift (Out.bind h1) R1
    have h3 := h2 H1 KeepO.refl R1
    have go : ∀ {vs : List V}, RxL X.K W H1 vs xs → tDs X.K Ew (mDsS as) σ H1 fun ys H2 => Q (vs ++ ys) H2 := fun {vs} rx =>
      ⟨W, O, ρ1, R1, (Out.bind h3).mono fun ys ρ2 H2 k2 R2 h4 ws rws => h4 H2 KeepO.refl R2 _ ((rx.keepO R1 k2).app rws)⟩
    unfold itemsOf at hx
    split at hx
    · cases hx
      obtain ⟨a, vs, rfl, sa, la⟩ := (show Tx X.K W H1 v (.list xs) from .inl rv).list
      exact ⟨a, vs, rfl, .inr (.inl sa), go la⟩
    · cases hx
      obtain ⟨a, vs, rfl, sa, la⟩ := rv.tuple
      exact ⟨a, vs, rfl, .inl sa, go la⟩
    · cases hx⟩
theorem fLstS (h : PA X es (tDs X.K Ew (mDsS as))) : PE X (.List es pos) (tF X.K Ew (mLstS as)) := by
  refine PE.imp (pe_lst h) fun σ H Q ⟨W, O, ρ, R, h⟩ => ⟨W, O, ρ, R, (Out.bind h).mono fun xs ρ1 H1 k1 R1 h1 vs rvs => ?_⟩
  obtain ⟨r, hf, q⟩ := Out.lift h1 R1
  split at hf
  · rename_i hz
    cases hf
    refine ⟨by rw [rvs.length]; exact hz, fun p n => ?_⟩
    obtain ⟨g1, g2, g3, g4⟩ := fresh_end k1 R1 (Same.upd n) n (own_new n rvs)
    exact q _ g3 g4 p g1 g2 (own_new n rvs)
  · cases hf
end
/-! ### two walks -/
section
variable {K : PySem.W.Frag} {Ew : WX} {σ : L2.St} {H : Hp} {vs is vs1 is1 : List Nat} {src src1 : M (List D)} {b b1 : D → M Unit} {t t1 : M Bool} {elt : M D}
end
section
variable {X : Cx} {Ew : WX} {e e1 elt tg tg1 : Expr} {ifs ifs1 : List Expr} {scope : Scope} {pos : Pos} {src src1 : M (List D)} {b b1 : D → M Unit} {t t1 : M Bool} {me : M D}
end
end CF
end
section
/-! CX, part 9: a, b, c = e1, e2, e3 -/
namespace CF
open PySem PySem.Spec PyProof.Rows L2
variable [Tb]
section
variable {X : Cx} {Ew : WX} {fr : Bool} {F : List Nat} {e e2 e3 : Expr} {md me mf : M D} {pos : Pos}
end
end CF
end
section
/-! CX, part 10: list(range(..)) -/
namespace CF
open PySem PySem.Spec PyProof.Rows L2
variable [Tb]
section
variable {X : Cx} {Ew : WX} {e e2 : Expr} {ma mb : M LV} {p p2 pos pos2 : Pos}
end
end CF
end
section
/-! CX, part 11: a set of rows in a variable: x = set(e), y in x -/
namespace CF
open PySem PySem.Spec PyProof.Rows L2
variable [Tb]
section
variable {K : PySem.W.Frag} {W O : Addr → Prop} {H : Hp} {σ : L2.St} {ρ : List Slot}
theorem SRel.setB (R : SRel K W O H σ ρ) (i : Nat) {a : Addr} {o : OB} (oa : O a) (h : ObAt K W H a o) : SRel K W O H (σ.set i (some (.ref a))) (ρ.set i (.ob o)) := by
  have own : ∀ (j : Nat) (e : D), (ρ.set i (.ob o))[j]? = some (.own e) → j ≠ i ∧ ρ[j]? = some (.own e) := fun j e h => by
    by_cases q : j = i
    · subst q
      rw [List.getElem?_set] at h
      simp only [if_true] at h
      split at h <;> cases h
    · rw [List.getElem?_set_ne (Ne.symm q)] at h
      exact ⟨q, h⟩
  refine ⟨by rw [List.length_set, List.length_set, R.len], R.ow, R.tr, fun j x s h1 h2 => ?_, fun j k b d1 d2 n e1 e2 f1 f2 => ?_, R.tb⟩
  · by_cases q : j = i
    · subst q
      rw [List.getElem?_set] at h1 h2
      simp only [if_true] at h1 h2
      split at h1 <;> split at h2 <;> first | (cases h1; done) | (cases h2; done) | (cases h1; cases h2; exact ⟨a, rfl, oa, h⟩)
    · rw [List.getElem?_set_ne (Ne.symm q)] at h1 h2
      exact R.sl j x s h1 h2
  · obtain ⟨q1, g1⟩ := own j d1 e1
    obtain ⟨q2, g2⟩ := own k d2 e2
    rw [List.getElem?_set_ne (Ne.symm q1)] at f1
    rw [List.getElem?_set_ne (Ne.symm q2)] at f2
    exact R.ne j k b d1 d2 n g1 g2 f1 f2
end
section
variable {X : Cx} {Ew : WX} {fr : Bool} {F : List Nat} {e : Expr} {ma : M LV} {p p2 pos pos2 : Pos}
end
end CF
end
section
/-! CX, part 12: sorted(xs, key=lambda x: ..). -/
namespace CF
open PySem PySem.Spec PyProof.Rows L2 LamX
/-! ### records that nobody tracks -/
section
variable {fs : List Addr} {H0 H : Hp} {h0 h h' : Heap} {P : Program} {w : World} {a c : Addr} {o : HO}
theorem un_later (u : Un fs [] H0 H h0 h) (k : ∀ b o, b < h0.objs.size → h.get? b = some o → h'.get? b = some o) : Un fs [] H0 H h0 h' where
  keep := fun b o e n hf hx => k b o (Heap.lt_size e) (u.keep b o e n hf hx)
  slot := fun b o e n hf hx => by
    obtain ⟨sl, q⟩ := u.slot b o e n hf hx
    exact ⟨sl, k b _ (Heap.lt_size e) q⟩
  free := u.free
  there := fun b o e hx => by
    obtain ⟨o', q⟩ := u.there b o e hx
    exact ⟨o', k b o' (Heap.lt_size e) q⟩
  tups := u.tups
  frzs := u.frzs
  tbls := u.tbls
theorem un_adopt (u : Un fs [] H0 H h0 h) (ha : h0.objs.size ≤ a) (n : H a = none) : Un fs [] H0 (upd H a o) h0 h where
  keep := u.keep
  slot := u.slot
  free := fun b o e nb hx => by
    rw [upd_ne (Nat.ne_of_lt (Nat.lt_of_lt_of_le (Heap.lt_size e) ha))]
    exact u.free b o e nb hx
  there := u.there
  tups := fun b xs e => by
    have q := u.tups b xs e
    rw [upd_ne (ne_of_none q n)]
    exact q
  frzs := fun b ob xs e => by
    have q := u.frzs b ob xs e
    rw [upd_ne (ne_of_none q n)]
    exact q
  tbls := fun b ps e => by
    obtain ⟨more, q⟩ := u.tbls b ps e
    exact ⟨more, by rw [upd_ne (ne_of_none q n)]; exact q⟩
theorem hok_but (x : HOk P w H h) (n : H c = none) (k : ∀ b o, b ≠ c → h.get? b = some o → h'.get? b = some o) : HOk P w H h' := fun b u e => by
  refine (x b u e).stay (fun d v hd q => k d v (fun z => ?_) q) (fun _ q => q) fun _ _ q => q
  subst z
  rcases hd with z | z
  · subst z
    rw [n] at e
    cases e
  · rw [n] at z
    cases z
theorem hok_adopt (x : HOk P w H h) (n : H a = none) (new : ObjOk P w (upd H a o) h a o) : HOk P w (upd H a o) h := fun b u e => by
  by_cases hb : b = a
  · subst hb
    rw [upd_same] at e
    cases e
    exact new
  · rw [upd_ne hb] at e
    refine (x b u e).stay (fun _ _ _ q => q) (fun d q => ?_) fun d xs q => ?_
    · rw [upd_ne (ne_of_none q n)]
      exact q
    · rw [upd_ne (ne_of_none q n)]
      exact q
end
/-! ### a lambda of one parameter -/
structure LamS1 (p : Str) (sc scope : Scope) : Prop where
  kind : scope.kind = .function
  co : scope.isCoroutine = false
  gen : scope.isGenerator = false
  own : ∀ y ∈ scope.names, (y.2 = .local → y.1 = p) ∧ y.2 ≠ .cell
  par : scope.names.lookup p = some .local
  free : ∀ y ∈ scope.names, y.2 = .free → sc.names.lookup y.1 = some .cell ∨ sc.names.lookup y.1 = some .free
def lamS1B (p : Str) (sc scope : Scope) : Bool :=
  decide (scope.kind = .function) && !scope.isCoroutine && !scope.isGenerator && (scope.names.all fun y => (!decide (y.2 = .local) || decide (y.1 = p)) && !decide (y.2 = .cell) && (!decide (y.2 = .free) || decide (sc.names.lookup y.1 = some .cell) || decide (sc.names.lookup y.1 = some .free))) && decide (scope.names.lookup p = some .local)
theorem lamS1_by {p : Str} {sc scope : Scope} (h : lamS1B p sc scope = true) : LamS1 p sc scope := by
  unfold lamS1B at h
  simp only [Bool.and_eq_true, Bool.or_eq_true, Bool.not_eq_true', decide_eq_true_eq, decide_eq_false_iff_not, List.all_eq_true] at h
  obtain ⟨⟨⟨⟨h1, h2⟩, h3⟩, h4⟩, h5⟩ := h
  refine ⟨h1, h2, h3, fun y hy => ⟨fun e => (h4 y hy).1.1.resolve_left fun z => z e, (h4 y hy).1.2⟩, h5, fun y hy e => ?_⟩
  rcases (h4 y hy).2 with (z | z) | z
  · exact absurd e z
  · exact .inl z
  · exact .inr z
section
variable {X : Cx} {pins : List (Addr × Obj)} {σ : L2.St} {H : Hp} {s : Shared} {p : Str} {scope : Scope}
theorem lam1_start {A : Around} {E : XK} {f c' : Addr} {h1 : Heap} {tk i : Nat} {v : V} {u : Value} (I : Inv X pins σ H s) (L : LamS1 p X.env.scope scope) (fr : A.frames = some X.stack) (hd : A.handled = none) (ns : h1.Ns s.heap.objs.size fun y => [(p, u)].reverse.lookup y)
    (kp : ∀ b o, s.heap.get? b = some o → h1.get? b = some o) (hN : X.N[i]? = some p) (nd : X.N.Nodup) (rv : RelV v u) :
    Inv (lamCx X A X.stack s H E scope f c') [] (σ.set i (some v)) H { s with heap := h1, toks := tk } := by
  have e0 := I.env0
  have hfree : ∀ y ∈ scope.names, y.2 = .free → ∃ c, X.env.cells.lookup y.1 = some c := fun y hy e => (L.free y hy e).elim (fun k => I.ok.has _ (.inl k)) fun k => I.ok.has _ (.inr k)
  have old : ∀ {y : Str} {c : Addr}, (cloFrom X.env.cells scope.names []).lookup y = some c → X.env.cells.lookup y = some c := by
    intro y c e
    rcases cloFrom_mem (PySem.mem_of_lookup e) with hm | ⟨q1, q2⟩
    · cases hm
    · obtain ⟨c1, hc⟩ := hfree _ q1 rfl
      have hc : X.env.cells.lookup y = some c1 := hc
      rw [hc] at q2
      have q2 : c = c1 := q2
      rw [q2]
      exact hc
  have look : ∀ {y : Str}, scope.names.lookup y = some .free → ∃ c, (cloFrom X.env.cells scope.names []).lookup y = some c := by
    intro y hl
    exact mem_lookup (cloFrom_has (cells := X.env.cells) (acc := []) (PySem.mem_of_lookup hl))
  have cellK : ∀ {c : Addr} {v : Option Value}, s.heap.IsCell c v → h1.IsCell c v := by
    rintro c v ⟨o, ho, hd⟩
    exact ⟨o, kp _ _ ho, hd⟩
  have nil : ∀ b : Addr, b ∉ (lamCx X A X.stack s H E scope f c').ex := fun b z => nomatch (show b ∈ ([] : List Addr) from z)
  have nilP : ∀ q : Addr × Obj, q ∉ (lamCx X A X.stack s H E scope f c').pn ++ [] := fun q z => nomatch (show q ∈ ([] : List (Addr × Obj)) from z)
  have hi : i < σ.length := by
    rw [I.len]
    exact (List.getElem?_eq_some_iff.mp hN).1
  constructor
  · constructor
    · exact e0.mod
    · exact L.kind
    · rfl
    · rfl
    · exact Nat.le_refl _
    · exact fun y z c q1 q2 => I.ok.inj y z c (old q1) (old q2)
    · intro y hy
      have hy : scope.names.lookup y = some .cell ∨ scope.names.lookup y = some .free := hy
      rcases hy with hy | hy
      · exact absurd rfl (L.own _ (PySem.mem_of_lookup hy)).2
      · exact look hy
    · intro y c z _
      exact nomatch (show false = true from z)
    · exact fun _ => hd
    · exact Around.frames_deeper fr
    · exact .inr ⟨rfl, rfl⟩
    · exact fun b z => absurd z (nil b)
    · exact e0.bs
    · exact e0.bsz
    · exact fun b _ _ => nil b
    · exact fun b z => absurd z (nil b)
    · exact e0.funs
    · exact e0.frf
  · rfl
  · exact e0.bare
  · exact Un.kept kp
  · refine ⟨_, ns, fun j y x q1 q2 q3 => ?_⟩
    have q3 : Vis scope y := q3
    have q1 : X.N[j]? = some y := q1
    have other : scope.names.lookup y = some .free → ∃ z, RelV x z ∧ Look (lamEnv X scope s.heap.objs.size f c') h1 (fun y => [(p, u)].reverse.lookup y) y z := by
      intro k
      have ji : i ≠ j := by
        rintro rfl
        rw [hN] at q1
        cases q1
        rw [L.par] at k
        cases k
      rw [List.getElem?_set_ne ji] at q2
      obtain ⟨m, hn, hl⟩ := I.loc
      have vis : Vis X.env.scope y := (L.free _ (PySem.mem_of_lookup k) rfl).elim (fun k => .inr (.inl k)) fun k => .inr (.inr k)
      obtain ⟨z, r, q⟩ := hl j y x q1 q2 vis
      obtain ⟨c2, h2⟩ := look k
      refine ⟨z, r, .inr ⟨.inr k, c2, h2, ?_⟩⟩
      have c1 := old h2
      rcases q with ⟨k', _⟩ | ⟨_, c3, e', q⟩
      · have k' : X.env.scope.names.lookup y = some .local := k'
        rcases L.free _ (PySem.mem_of_lookup k) rfl with k2 | k2
        · rw [show X.env.scope.names.lookup y = _ from k2] at k'
          cases k'
        · rw [show X.env.scope.names.lookup y = _ from k2] at k'
          cases k'
      · rw [c1] at e'
        cases e'
        exact cellK q
    rcases q3 with k | k | k
    · have ey : y = p := (L.own _ (PySem.mem_of_lookup k)).1 rfl
      subst ey
      have ij : i = j := by
        have a1 := List.getElem?_eq_some_iff.mp hN
        have a2 := List.getElem?_eq_some_iff.mp q1
        obtain ⟨b1, c1⟩ := a1
        obtain ⟨b2, c2⟩ := a2
        exact (List.getElem_inj nd).mp (c1.trans c2.symm)
      subst ij
      rw [List.getElem?_set_self hi] at q2
      cases q2
      exact ⟨u, rv, .inl ⟨L.par, by simp⟩⟩
    · exact absurd rfl (L.own _ (PySem.mem_of_lookup k)).2
    · exact other k
  · intro y c e
    obtain ⟨z, q⟩ := I.cell y c (old e)
    exact ⟨z, cellK q⟩
  · exact e0.hok.fresh (Nat.le_refl _)
  · intro y c e
    exact I.freeC y c (old e)
  · exact fun q hq => absurd hq (nilP q)
  · exact e0.hok.kept kp
  · rw [List.length_set]
    exact I.len
/-- f(u), f the lambda -/
theorem lam1_call {params : Arguments} {body : Expr} {f c' : Addr} {pm ctv : Value} {i k : Nat} {v : V} {u : Value} {tb : TE} {Q : VK} (I : Inv X pins σ H s) (L : LamS1 p X.env.scope scope)
    (atf : s.heap.get? f = some (lamObj X params body scope pm c' ctv)) (code : H c' = some (CodeO c' (X.env.qual ++ "<lambda>")))
    (hbind : bindArgs (PySem.W.kla_fn "<lambda>" (X.env.qual ++ "<lambda>") params body scope (cloFrom X.env.cells scope.names []) pm (.ref c') ctv) ⟨[u], []⟩ = pure [(p, u)])
    (hr : Room (k + 3) X.A) (hgd : X.A.guards = some [])
    (hbody : ∀ (A : Around) (outer : List Env) (s : Shared) (H : Hp), Room k (lamCx X A outer s H E0 scope f c').A → (lamCx X A outer s H E0 scope f c').A.guards = some [] → PE (lamCx X A outer s H E0 scope f c') body tb)
    (hN : X.N[i]? = some p) (nd : X.N.Nodup) (rv : RelV v u) (ht : tb (σ.set i (some v)) H Q) :
    wpAny (model X.prog X.w) X.A.in1.in1 (call (.ref f) [u]) (fun r s' => CE X.stack X.prog X.w H s Q r s') (fun _ _ => False) s := by
  have hr2 : Room (k + 1) X.A.in1.in1 := Room.in1 (Room.in1 hr)
  obtain ⟨⟨oc, vs, t, hoc, hdc, hvc⟩, _, _⟩ := I.hok c' _ code
  have run : codeAny (model X.prog X.w) X.A.in1.in1 (.call (.ref f) ⟨[u], []⟩) (CR (L2.CX X.prog X.w) X.stack X.prog X.w H s Q E0) s := by
    refine PySem.W.kla_callFunE hr2.depth atf rfl L.co L.gen rfl ⟨c', oc, vs, t, rfl, hoc, hdc, hvc⟩ ?_
    rw [hbind]
    refine wpAny_pure (wpAny_newFunctionEnv (fun y hy => (L.own y hy).2) ?_ ?_ L.kind)
    · intro y hy
      rw [List.mem_singleton.mp hy]
      exact L.par
    intro h1 ns but
    refine ⟨I.nolimit.fresh _ but, ?_⟩
    show codeAny _ _ (.expr body (lamEnv X scope s.heap.objs.size f c')) _ _
    have J : Inv (lamCx X X.A.in1.in1 X.stack s H E0 scope f c') [] (σ.set i (some v)) H { s with heap := h1, toks := s.toks + [(p, u)].length } :=
      lam1_start I L I.ok.frames hr2.hd ns (fun b o e => but.extBut b o (Nat.ne_of_lt (Heap.lt_size e)) (Heap.get?_push_of_some _ e)) hN nd rv
    refine PySem.W.kla_codeExpr (wpAny_mono ((hbody X.A.in1.in1 X.stack s H (hr2.deeper _) hgd).run [] _ _ H Q J ht) ?_ fun _ _ q => q)
    rintro v s' ⟨w', H', J', r, q⟩
    exact ⟨w', H', J'.os, J'.bare, J'.base, J'.hok, r, q⟩
  refine wpAny_call (codeAny_mono run ?_)
  intro r s' q
  match r, q with
  | .error e, q =>
    obtain ⟨_, _, _, _, _, _, _, _, _, _, _, _, z⟩ := q
    exact z.elim
  | .ok (.ret u), q => exact q
end
end CF
end
section
/-! CX, part 13: sorted(xs, key=lambda x: ..), its mirror and its rule. -/
namespace CF
open PySem PySem.Spec PyProof.Rows L2 LamX
/-- the keys, one after the other; the lambda's name stands in slot i meanwhile -/
def keysGo (mb : M D) (i : Nat) : List D → M (List D)
  | [] => fun ρ => some (.ok [] ρ)
  | x :: xs => fun ρ => match mb (ρ.set i (.dat x)) with
    | some (.ok k ρ') => match keysGo mb i xs (ρ'.set i .un) with
      | some (.ok ks ρ'') => some (.ok (k :: ks) ρ'')
      | _ => none
    | _ => none
def sortBy (ds ks : List D) : List D := ((ds.zip ks).mergeSort (PySem.W.dataLe false Prod.snd)).map (·.1)
def sortKof (mb : M D) (i : Nat) (d : D) : M D := match d with
  | .list ds => fun ρ => match keysGo mb i ds ρ with
    | some (.ok ks ρ') => if canSort ks = true then some (.ok (.list (sortBy ds ks)) ρ') else none
    | _ => none
  | _ => fun _ => none
def mSortK (m : M D) (i : Nat) (mb : M D) : M D := m >>= sortKof mb i
theorem keysGo_len {mb : M D} {i : Nat} : ∀ {ds ks : List D} {ρ ρ' : List Slot}, keysGo mb i ds ρ = some (.ok ks ρ') → ks.length = ds.length
  | [], ks, ρ, ρ', h => by
    cases h
    rfl
  | d :: ds, ks, ρ, ρ', h => by
    unfold keysGo at h
    split at h
    · split at h
      · rename_i h2
        cases h
        rw [List.length_cons, List.length_cons, keysGo_len h2]
      · cases h
    · cases h
section
variable {K : PySem.W.Frag} {W : Addr → Prop} {H : Hp}
theorem rxl_map {α : Type} {f : α → V} {g : α → D} : ∀ {ts : List α}, (∀ t ∈ ts, Rx K W H (f t) (g t)) → RxL K W H (ts.map f) (ts.map g)
  | [], _ => .nil
  | t :: ts, h => .cons (h t (List.mem_cons_self ..)) (rxl_map fun u hu => h u (List.mem_cons_of_mem _ hu))
theorem rxl_zip {α : Type} : ∀ {xs : List V} {ds : List D} {ks : List α}, RxL K W H xs ds → ∀ t ∈ xs.zip (ds.zip ks), Rx K W H t.1 t.2.1
  | _, [], _, h, t, ht => by
    cases h
    simp at ht
  | _, _ :: _, [], h, t, ht => by simp at ht
  | _, _ :: _, _ :: _, h, t, ht => by
    cases h with
    | cons h1 h2 =>
      rw [List.zip_cons_cons, List.zip_cons_cons] at ht
      rcases List.mem_cons.mp ht with e | e
      · rw [e]; exact h1
      · exact rxl_zip h2 t e
theorem zip3_fst {α β γ : Type} : ∀ {xs : List α} {ds : List β} {ks : List γ}, xs.length = ds.length → (xs.zip (ds.zip ks)).map (fun t => (t.1, t.2.2)) = xs.zip ks
  | [], _, _, _ => by simp
  | _ :: _, [], _, h => by simp at h
  | _ :: _, _ :: _, [], _ => by simp
  | _ :: _, _ :: _, _ :: _, h => by
    simp only [List.zip_cons_cons, List.map_cons]
    rw [zip3_fst (by simpa using h)]
theorem zip3_snd {α β γ : Type} : ∀ {xs : List α} {ds : List β} {ks : List γ}, xs.length = ds.length → (xs.zip (ds.zip ks)).map (·.2) = ds.zip ks
  | [], [], _, _ => by simp
  | [], _ :: _, _, h => by simp at h
  | _ :: _, [], _, h => by simp at h
  | _ :: _, _ :: _, [], _ => by simp
  | _ :: _, _ :: _, _ :: _, h => by
    simp only [List.zip_cons_cons, List.map_cons]
    rw [zip3_snd (by simpa using h)]
theorem rxl_sortBy {xs : List V} {ds ks : List D} (h : RxL K W H xs ds) : RxL K W H (((xs.zip ks).mergeSort (PySem.W.dataLe false Prod.snd)).map (·.1)) (sortBy ds ks) := by
  have hl := h.length
  have e1 : (xs.zip ks).mergeSort (PySem.W.dataLe false Prod.snd) = ((xs.zip (ds.zip ks)).mergeSort (PySem.W.dataLe false fun t => t.2.2)).map fun t => (t.1, t.2.2) := by
    have e3 : ((xs.zip (ds.zip ks)).map fun t => (t.1, t.2.2)).mergeSort (PySem.W.dataLe false Prod.snd) = ((xs.zip (ds.zip ks)).mergeSort (PySem.W.dataLe false fun t => t.2.2)).map fun t => (t.1, t.2.2) := (PySem.W.sort_maps (fun t : V × D × D => (t.1, t.2.2)) fun a _ b _ => rfl).symm
    rw [zip3_fst hl] at e3
    exact e3
  have e2 : (ds.zip ks).mergeSort (PySem.W.dataLe false Prod.snd) = ((xs.zip (ds.zip ks)).mergeSort (PySem.W.dataLe false fun t => t.2.2)).map (·.2) := by
    have e3 : ((xs.zip (ds.zip ks)).map (·.2)).mergeSort (PySem.W.dataLe false Prod.snd) = ((xs.zip (ds.zip ks)).mergeSort (PySem.W.dataLe false fun t => t.2.2)).map (·.2) := (PySem.W.sort_maps (fun t : V × D × D => t.2) fun a _ b _ => rfl).symm
    rw [zip3_snd hl] at e3
    exact e3
  unfold sortBy
  rw [e1, e2, List.map_map, List.map_map]
  exact rxl_map fun t ht => rxl_zip h t ((List.mergeSort_perm _ _).mem_iff.mp ht)
theorem vals_zip {α : Type} : ∀ {xs : List V} {us : List Value} {ks : List α}, Vals xs us → xs.length ≤ ks.length → PySem.W.EachIs (fun u (b : V × α) => RelV b.1 u) us (xs.zip ks)
  | _, _, _, .nil, _ => .nil
  | _, _, [], .cons _ _, h => by simp at h
  | _, _, _ :: _, .cons r t, h => .cons r (vals_zip t (by simpa using h))
theorem each_vals {α : Type} : ∀ {us : List Value} {bs : List (V × α)}, PySem.W.EachIs (fun u (b : V × α) => RelV b.1 u) us bs → Vals (bs.map (·.1)) us
  | _, _, .nil => .nil
  | _, _, .cons r t => .cons r (each_vals t)
theorem vals_snoc {v : V} {u : Value} (r : RelV v u) : ∀ {vs : List V} {us : List Value}, Vals vs us → Vals (vs ++ [v]) (us ++ [u])
  | _, _, .nil => .cons r .nil
  | _, _, .cons r' t => .cons r' (vals_snoc r t)
theorem vals_at : ∀ {vs : List V} {us : List Value} {j : Nat} {u : Value}, Vals vs us → us[j]? = some u → ∃ v, vs[j]? = some v ∧ RelV v u
  | _, _, _, _, .nil, h => by simp at h
  | _, _, 0, _, .cons r t, h => by
    simp at h
    subst h
    exact ⟨_, rfl, r⟩
  | _, _, j + 1, _, .cons r t, h => by
    obtain ⟨v, e, r'⟩ := vals_at (j := j) t (by simpa using h)
    exact ⟨v, by simpa using e, r'⟩
end
variable [Tb]
theorem ext_keep {K : PySem.W.Frag} {W O : Addr → Prop} {σ : L2.St} {ρ : List Slot} {H H1 : Hp} {P : Addr} {z : Str} (R : SRel K W O H σ ρ) (hz : (P, z) ∈ Tb.T) (ext : ExtT P H H1) (hT : Tabs Tb.T H1) : KeepO W O H H1 ∧ SRel K W O H1 σ ρ := by
  have oP : O P := (R.tb _ hz).1
  have nW : ∀ b, ¬ W b → b ≠ P := fun b n e => n (e ▸ R.ow P oP)
  have kp : KeepO W O H H1 := ⟨fun a o e w n => ext a o e fun z => n (z ▸ oP), fun a u e n => e.elim (fun e => .inl (ext a _ e (nW a n))) fun ⟨o, e⟩ => .inr ⟨o, ext a _ e (nW a n)⟩, fun a o u e n => ext a _ e (nW a n), fun a xs e n => ext a _ e (nW a n)⟩
  have notP : ∀ b u, H b = some u → PlainO u → b ≠ P := fun b u e p z => (R.tb.not e p) (z ▸ ⟨_, hz, rfl⟩)
  refine ⟨kp, R.len, R.ow, fun a w => ?_, fun i x r h1 h2 => ?_, R.ne, fun y hy => ⟨(R.tb y hy).1, hT y hy⟩⟩
  · by_cases e : a = P
    · obtain ⟨ps, q1, _⟩ := hT _ hz
      exact ⟨_, e ▸ q1⟩
    · obtain ⟨o, q1⟩ := R.tr a w
      exact ⟨o, ext a o q1 e⟩
  · have q := R.sl i x r h1 h2
    cases r with
    | un => trivial
    | dat d => obtain ⟨v, e, r⟩ := q; exact ⟨v, e, Rx.go (fun a u e n => kp.rest a u e n) (fun _ _ _ z => z) d v r⟩
    | own d =>
      obtain ⟨a, e, oa, ob⟩ := q
      obtain ⟨u, hu, pu⟩ := ob.plain
      exact ⟨a, e, oa, ob.go (fun a u e n => kp.rest a u e n) (fun _ _ _ z => z) fun o eo => ext a o eo (notP a u hu pu)⟩
    | ob d =>
      obtain ⟨a, e, oa, ob⟩ := q
      obtain ⟨f, hf⟩ := ob.ext
      exact ⟨a, e, oa, ob.go (fun a u e n => kp.rest a u e n) (fun _ _ _ z => z) fun o eo => ext a o eo fun z => (R.tb.notE hf) (z ▸ ⟨_, hz, rfl⟩)⟩
section
variable {X : Cx} {pins : List (Addr × Obj)} {σ : L2.St} {H : Hp} {s : Shared} {p : Str} {scope : Scope} {W O : Addr → Prop} {ρ ρe : List Slot}
theorem set_same {σ : L2.St} {i : Nat} (hi : i < σ.length) (v : Option V) : (σ.set i v).set i σ[i] = σ := by
  rw [List.set_set, List.set_getElem_self]
theorem sortK_run {params : Arguments} {body : Expr} {lpos : Pos} {f c' P l : Addr} {pm ctv : Value} {i k : Nat} {mb : M D} {its : List Value} {xs : List V} {ds ks : List D} {tab0 : Array Value} {Q : VK}
    (I : Inv X pins σ H s) (R : SRel X.K W O H σ ρ) (hl : s.heap.IsList l its.toArray) (rv : Vals xs its) (la : RxL X.K W H xs ds) (hz : its.length ≤ sizeLine)
    (L : LamS1 p X.env.scope scope) (atf : s.heap.get? f = some (lamObj X params body scope pm c' ctv)) (hfn : H f = none) (hfr : f ∉ frs X.stack)
    (atP : H P = some (.tbl tab0)) (found : codeAmong lpos tab0.toList = some (.ref c')) (hP : (P, X.env.qual ++ "<lambda>") ∈ Tb.T)
    (hbind : ∀ u : Value, bindArgs (PySem.W.kla_fn "<lambda>" (X.env.qual ++ "<lambda>") params body scope (cloFrom X.env.cells scope.names []) pm (.ref c') ctv) ⟨[u], []⟩ = pure [(p, u)])
    (hr : Room (k + 3) X.A) (hgd : X.A.guards = some [])
    (hbody : ∀ (A : Around) (outer : List Env) (s : Shared) (H : Hp), Room k (lamCx X A outer s H E0 scope f c').A → (lamCx X A outer s H E0 scope f c').A.guards = some [] → PE (lamCx X A outer s H E0 scope f c') body (tD X.K WF mb))
    (hN : X.N[i]? = some p) (nd : X.N.Nodup) (go : keysGo mb i ds ρ = some (.ok ks ρe)) (hc : canSort ks = true)
    (q : ∀ (H1 : Hp) (a : Addr) (out : List V), KeepO W O H H1 → SRel X.K W O H1 σ ρe → H1 a = none → RxL X.K W H1 out (sortBy ds ks) → Q (.ref a) (upd H1 a (.lst out))) :
    wpAny (model X.prog X.w) X.A (call (.builtin "sorted") [.ref l] [(Str.ofString "key", .ref f)]) (EP X pins σ Q) X.xe s := by
  have lx := la.length
  have lk := keysGo_len go
  have lv : xs.length = its.length := rv.length
  obtain ⟨hal, hsk, hdp⟩ := canSort_of hc
  have hi : i < σ.length := by rw [I.len]; exact (List.getElem?_eq_some_iff.mp hN).1
  have far : ∀ g : Addr, s.heap.objs.size ≤ g → g ∉ frs X.stack := fun g hg z => by
    rcases List.mem_cons.mp (I.stkSub _ z) with q | q
    · exact Nat.lt_irrefl g (Nat.lt_of_lt_of_le (q ▸ I.lt) hg)
    · exact I.nofs hg q
  refine PySem.W.sorted_of_sort hl hz (ksk_s1 _ _) (fun _ => ksk_l1 _ _) fun E' => ?_
  rw [ksk_t1]
  obtain ⟨a, ea⟩ : ∃ a, a = s.heap.objs.size + 1 := ⟨_, rfl⟩
  have ho := PySem.W.copyHeap_at s.heap its
  rw [← ea] at ho ⊢
  obtain ⟨hA, ehA⟩ : ∃ hA, hA = PySem.W.copyHeap s.heap its := ⟨_, rfl⟩
  have oldA : ∀ b o, s.heap.get? b = some o → hA.get? b = some o := fun b o e => by rw [ehA]; exact PySem.W.copyHeap_old e
  rw [← ehA] at ho ⊢
  have hasz : a < hA.objs.size := Heap.lt_size ho
  obtain ⟨e1, ho1⟩ : ∃ e1, (hA.update a (Obj.mapSeq fun _ => (#[] : Array Value))).get? a = some (seqObj "list" #[] e1) := ⟨_, get?_update_seq ho fun _ => #[]⟩
  unfold ksk_tree
  refine wpAny_bind (listItems_at ho rfl ?_)
  refine wpAny_bind (listUpdate_at ho rfl ?_ (by rw [List.size_toArray]; exact hz) (Nat.zero_le _))
  refine wpAny_bind (seqEpoch_at ho1 rfl ?_)
  refine wpAny_bind (wpAny_newTuple ?_ (by show its.length ≤ _; exact hz))
  refine wpAny_bind (wpAny_newList ?_ (Nat.zero_le _))
  refine wpAny_holding ?_
  obtain ⟨kS, ekS⟩ : ∃ kS, kS = ((hA.update a (Obj.mapSeq fun _ => (#[] : Array Value))).push (seqObj "tuple" its.toArray 0)).objs.size := ⟨_, rfl⟩
  obtain ⟨hB, ehB⟩ : ∃ hB, hB = ((hA.update a (Obj.mapSeq fun _ => (#[] : Array Value))).push (seqObj "tuple" its.toArray 0)).push (seqObj "list" #[] 0) := ⟨_, rfl⟩
  have kSn : kS = hA.objs.size + 1 := by rw [ekS, size_push', Heap.size_update]
  have nk0 : hB.get? kS = some (seqObj "list" #[] 0) := by rw [ehB, ekS]; exact Heap.get?_push_size _ rfl
  have na0 : hB.get? a = some (seqObj "list" #[] e1) := by rw [ehB]; exact Heap.get?_push_of_some _ (Heap.get?_push_of_some _ ho1)
  have oldB : ∀ b o, s.heap.get? b = some o → hB.get? b = some o := fun b o e => by
    have hb : b ≠ a := by
      exact Nat.ne_of_lt (Nat.lt_of_lt_of_le (Heap.lt_size e) (by rw [ea]; exact Nat.le_succ _))
    rw [ehB]
    exact PySem.W.sortingHeap_old hb (oldA b o e)
  show wpAny (model X.prog X.w) X.A.in1.in1 (ksk_rest a (.ref f) false its.toArray e1 (.ref ((hA.update a (Obj.mapSeq fun _ => (#[] : Array Value))).push (seqObj "tuple" its.toArray 0)).objs.size)) _ E' { s with heap := ((hA.update a (Obj.mapSeq fun _ => (#[] : Array Value))).push (seqObj "tuple" its.toArray 0)).push (seqObj "list" #[] 0) }
  rw [← ekS, ← ehB]
  have sz1 : s.heap.objs.size ≤ a := by omega
  have sz2 : s.heap.objs.size ≤ kS := by omega
  have hka : kS ≠ a := by omega
  unfold ksk_rest
  refine wpAny_bind (wpAny_rule ?_)
  first
    | rw [List.forIn_toArray]
    | (rw [← Array.forIn_toList]; simp only [List.toList_toArray])
    | rw [← Array.forIn_toList]
  refine wpAny_bind (ksk_fold (fun j s' => ∃ (H' : Hp) (ρ' : List Slot) (tab kA : Array Value) (e : Nat) (kv : List V),
      (s'.os = s.os ∧ AllBare s'.gens ∧ HOk X.prog X.w H' s'.heap ∧ Un (frs X.stack) [] H H' s.heap s'.heap) ∧ (H' kS = none ∧ H' a = none ∧ s'.heap.get? kS = some (seqObj "list" kA e) ∧ s'.heap.get? a = some (seqObj "list" #[] e1)) ∧
      (s'.heap.get? f = some (lamObj X params body scope pm c' ctv) ∧ H' f = none ∧ H' P = some (.tbl tab) ∧ codeAmong lpos tab.toList = some (.ref c')) ∧
      KeepO W O H H' ∧ SRel X.K W O H' σ ρ' ∧ keysGo mb i (ds.drop j) ρ' = some (.ok (ks.drop j) ρe) ∧ Vals kv kA.toList ∧ RxL X.K W H' kv (ks.take j)) its 0 _ ?start ?step ?done)
  case start =>
    refine ⟨H, ρ, tab0, #[], 0, [], ⟨rfl, I.bare, I.hok.kept oldB, Un.kept oldB⟩, ⟨I.hok.fresh sz2, I.hok.fresh sz1, nk0, na0⟩, ⟨oldB _ _ atf, hfn, atP, found⟩, KeepO.refl, R, ?_, .nil, ?_⟩
    · rw [List.drop_zero, List.drop_zero]
      exact go
    · rw [List.take_zero]
      exact .nil
  case step =>
    rintro j u s' hu ⟨H', ρ', tab, kA, e, kv, ⟨os, bare, hok, un⟩, ⟨nS, nA, atS, atA⟩, ⟨ff, nf, tP, fd⟩, kp, R', go', vk, rk⟩
    simp only [Nat.zero_add] at go' rk ⊢
    have hj : j < its.length := (List.getElem?_eq_some_iff.mp hu).1
    obtain ⟨v, ev, ru⟩ := vals_at rv hu
    have hjd : j < ds.length := by omega
    have hjk : j < ks.length := by omega
    have rx : Rx X.K W H v ds[j] := by
      obtain ⟨d, ed, rd⟩ := la.get' ev
      rw [List.getElem?_eq_getElem hjd] at ed
      rw [Option.some.inj ed]
      exact rd
    have rx' : Rx X.K W H' v ds[j] := rx.keepO R kp
    rw [List.drop_eq_getElem_cons hjd] at go'
    unfold keysGo at go'
    split at go'
    case h_2 => cases go'
    rename_i kd ρ2 hmb
    split at go'
    case h_2 => cases go'
    rename_i ks' ρ3 hrest
    have go2 := Option.some.inj go'
    injection go2 with ek eρ
    rw [List.drop_eq_getElem_cons hjk] at ek
    injection ek with ek1 ek2
    subst eρ
    have I' : Inv X pins σ H' s' := I.call' os un hok bare (fun b z => nomatch z)
    have tb := (R'.tb _ hP).2
    obtain ⟨tab', at', _, cod⟩ := tb
    rw [tP] at at'
    cases at'
    obtain ⟨c2, ec2, atc⟩ := cod _ _ fd
    cases ec2
    refine wpAny_bind (wpAny_attempt (wpAny_mono (lam1_call (tb := tD X.K WF mb) (Q := fun y H2 => Rx X.K W H2 y kd ∧ KeepO W O H' H2 ∧ SRel X.K W O H2 (σ.set i (some v)) ρ2) I' L ff atc (hbind u) hr hgd hbody hN nd ru
      ⟨W, O, ρ'.set i (.dat ds[j]), R'.set i rx', by rw [hmb]; exact fun H2 k2 R2 y ry => ⟨ry, k2, R2⟩⟩) ?_ fun _ _ z => z.elim))
    rintro r s2 ⟨y, H2, os2, bare2, un2, hok2, ry, rk2, kp2, R2⟩
    try dsimp only
    have nS2 : H2 kS = none := un2.free kS _ atS nS (by simp)
    have nA2 : H2 a = none := un2.free a _ atA nA (by simp)
    have nf2 : H2 f = none := un2.free f _ ff nf (by simp)
    have atS2 : s2.heap.get? kS = some (seqObj "list" kA e) := un2.keep kS _ atS nS (far kS sz2) (by simp)
    have atA2 : s2.heap.get? a = some (seqObj "list" #[] e1) := un2.keep a _ atA nA (far a sz1) (by simp)
    have ff2 : s2.heap.get? f = _ := un2.keep f _ ff nf hfr (by simp)
    obtain ⟨more, tP2⟩ := un2.tbls P tab tP
    have s1 := Heap.SameBut.update s2.heap kS (Obj.mapSeq (·.push r))
    obtain ⟨c3, hc3⟩ : ∃ c3, (s2.heap.update kS (Obj.mapSeq (·.push r))).get? kS = some (seqObj "list" (kA.push r) c3) := ⟨_, get?_update_seq atS2 (·.push r)⟩
    have hsz : kA.size ≤ its.length := by
      have h1 : kA.size = kv.length := by have z := vk.length; simpa using z.symm
      have h2 := rk.length
      rw [List.length_take, ← h1] at h2
      omega
    have fk : f ≠ kS := fun z => by
      rw [z, atS2] at ff2
      have ff3 : Value.type "list" = Value.type "function" := congrArg Obj.cls (Option.some.inj ff2)
      injection ff3 with z
      exact absurd z (by decide)
    refine wpAny_bind (listUpdate_at atS2 rfl ?_ (Nat.le_trans hsz hz) (Nat.le_trans (Nat.le_of_eq (Array.size_push ..)) (Nat.succ_le_succ (Nat.le_trans hsz hz))))
    refine wpAny_pure ⟨rfl, H2, ρ2.set i .un, tab ++ more, kA.push r, c3, kv ++ [y], ⟨os2.trans os, bare2, hok_but hok2 nS2 fun b o hb q => (s1.2 b hb).trans q, ?_⟩, ⟨nS2, nA2, hc3, (s1.2 a hka.symm).trans atA2⟩, ⟨(s1.2 f fk).trans ff2, nf2, tP2, ?_⟩, kp.trans kp2, ?_, ?_, ?_, ?_⟩
    · exact un_later (un.trans un2) fun b o hb q => (s1.2 b (Nat.ne_of_lt (by omega))).trans q
    · rw [Array.toList_append]
      exact among_more _ _ fd
    · have z := SRel.off R2 i σ[i]
      rw [set_same hi] at z
      exact z
    · rw [ek2] at hrest
      exact hrest
    · rw [Array.toList_push]
      exact vals_snoc ry vk
    · rw [List.take_add_one, List.getElem?_eq_getElem hjk]
      refine (rk.keepO R' kp2).append ?_
      rw [← ek1]
      exact .cons rk2 .nil
  case done =>
    rintro s' ⟨H', ρ', tab, kA, e, kv, ⟨os, bare, hok, un⟩, ⟨nS, nA, atS, atA⟩, _, kp, R', go', vk, rk⟩
    simp only [Nat.zero_add] at go' rk
    rw [List.drop_of_length_le (by omega)] at go'
    have eρ : ρ' = ρe := by
      have z := Option.some.inj go'
      injection z
    subst eρ
    rw [List.take_of_length_le (by omega)] at rk
    have I' : Inv X pins σ H' s' := I.call' os un hok bare (fun b z => nomatch z)
    have rds : PySem.W.EachIs (fun v k => ∃ as, Reads s'.heap v k as) kA.toList ks := by
      obtain ⟨as, ra⟩ := rk.reads I' ks kv kA.toList vk
      exact PySem.W.readsAll_each id (by rw [List.map_id]; exact ra)
    have hsz : kA.size = its.length := by
      have h1 : kA.size = kv.length := by have z := vk.length; simpa using z.symm
      have h2 := rk.length
      rw [← h1] at h2
      omega
    try dsimp only
    refine wpAny_bind (listItems_at atS rfl ?_)
    have kb : PySem.W.KeepsBut a (PySem.W.hideAll s'.heap [kS]) s'.heap := fun b o _ q => PySem.W.of_hideAll _ q
    have hun := hr.un
    refine PySem.W.keyH_end (κ := PySem.W.dataKind s'.heap ks) (h₁ := PySem.W.hideAll s'.heap [kS]) kb (PySem.W.hideAll_none _ (by simp)) atS atA hka (PySem.W.SortsAt.data (s := s') rds hal hsk fun d hd => ?_) hsz hz fun h3 tk3 c k3 n3 => ⟨rfl, ?_⟩
    · have := hdp d hd
      show X.A.units + 1 + 1 + d.depth < cLine
      omega
    have keep3 : ∀ b o, b ≠ a → b ≠ kS → s'.heap.get? b = some o → h3.get? b = some o := fun b o h1 h2 q => k3 b o h1 (PySem.W.hideAll_get _ q (by simpa using h2))
    have ko : PySem.W.KeyedOut false ((xs.zip ks).map Prod.snd) its (PySem.W.sortVals (PySem.W.dataKind s'.heap ks) false kA.toList its) := by
      have e : (xs.zip ks).map Prod.snd = ks := List.map_snd_zip (by omega)
      rw [e]
      exact ⟨s'.heap, kA.toList, hal, rfl, rds⟩
    have eo := PySem.W.keyedOut_each (R := fun u (b : V × D) => RelV b.1 u) Prod.snd ko (vals_zip rv (by omega))
    generalize PySem.W.sortVals (PySem.W.dataKind s'.heap ks) false kA.toList its = out at n3 eo
    have vo := each_vals eo
    have ro := rxl_sortBy (ks := ks) (la.keepO R kp)
    generalize ((xs.zip ks).mergeSort (PySem.W.dataLe false Prod.snd)).map (·.1) = outV at vo ro
    have lo : outV.length ≤ sizeLine := by
      have h1 := ro.length
      unfold sortBy at h1
      rw [List.length_map, List.length_mergeSort, List.length_zip] at h1
      omega
    have hok3 : HOk X.prog X.w H' h3 := fun b u e => by
      refine (hok b u e).stay (fun d v hd q => keep3 d v (fun z => ?_) (fun z => ?_) q) (fun _ q => q) fun _ _ q => q
      · subst z
        rcases hd with z | z
        · subst z; rw [nA] at e; cases e
        · rw [nA] at z; cases z
      · subst z
        rcases hd with z | z
        · subst z; rw [nS] at e; cases e
        · rw [nS] at z; cases z
    refine ⟨.ref a, upd H' a (.lst outV), I.call' (s' := { s' with heap := h3, toks := tk3 }) os (un_adopt (un_later un fun b o hb q => keep3 b o (Nat.ne_of_lt (by omega)) (Nat.ne_of_lt (by omega)) q) sz1 nA) (hok_adopt hok3 nA ⟨lo, out, c, vo, n3⟩) bare (fun b z => nomatch z), rfl, ?_⟩
    exact q H' a outV kp R' nA ro
/-- sorted(e, key=lambda p: body) -/
theorem fSortK {Ew : WX} {params : Arguments} {body e : Expr} {lpos p1 kpos pos : Pos} {c T : Addr} {i k : Nat} {m mb : M D} (hr : Room (k + 3) X.A) (hgd : X.A.guards = some []) (hm : X.mg "sorted" = none) (B : Tbs X.base X.mg c T (X.env.qual ++ "<lambda>")) (hcode : X.env.code = .ref c)
    (L : LamS1 p X.env.scope scope) (nd : X.N.Nodup) (ha : PE X e (tD X.K Ew m))
    (hbody : ∀ (A : Around) (outer : List Env) (s : Shared) (H : Hp) (f c' : Addr), Room k (lamCx X A outer s H E0 scope f c').A → (lamCx X A outer s H E0 scope f c').A.guards = some [] → PE (lamCx X A outer s H E0 scope f c') body (tD X.K WF mb))
    (hN : X.N[i]? = some p := by rfl) (hdef : defaultsOf params X.env = ([], []) := by rfl)
    (hbind : ∀ (u : Value) (q : Str) (cl : List (Str × Addr)) (pm cv ctv : Value), bindArgs (PySem.W.kla_fn "<lambda>" q params body scope cl pm cv ctv) ⟨[u], []⟩ = pure [(p, u)] := by intro _ _ _ _ _ _; rfl) (hg : Gl X "sorted" := by rfl)
    (he : backTo pos (starEach [e] X.env) = (false, eval e X.env) :: backTo pos (starEach [] X.env) := by rfl) (hs : starEach [e] X.env = (false, eval e X.env) :: starEach [] X.env := by rfl) (hpl : (backTo pos (starEach [e] X.env)).any (·.1) = false := by rfl)
    (hall : (backToKw pos (keywordEach [⟨some (Str.ofString "key"), .Lambda params body scope lpos, kpos⟩] X.env)).all (·.1.isSome) = true := by rfl) (hnone : (backToKw pos (keywordEach [⟨some (Str.ofString "key"), .Lambda params body scope lpos, kpos⟩] X.env)).any (·.1.isNone) = false := by rfl)
    (hks : (backToKw pos (keywordEach [⟨some (Str.ofString "key"), .Lambda params body scope lpos, kpos⟩] X.env)).filterMap (·.1) = [Str.ofString "key"] := by rfl) :
    PE X (.Call (.Name "sorted" p1) [e] [⟨some (Str.ofString "key"), .Lambda params body scope lpos, kpos⟩] pos) (tF X.K Ew (mSortK m i mb)) := by
  constructor
  rintro pins s σ H Q I ⟨W, O, ρ, R, h⟩
  have h1 := Out.bind h
  have hv : bootBuiltins "sorted" = some (.builtin "sorted") := by decide +kernel
  refine wpAny_Call_Name_kw (ld_blt I hg hm hv ?_ (by decide) (by decide))
  refine PyProof.Rows.callWith_kw (thn ((pa_cons ha pa_nil hs).run pos pins s σ H (fun vs H1 => ∃ v d ρ1, vs = [v] ∧ Rx X.K W H1 v d ∧ KeepO W O H H1 ∧ SRel X.K W O H1 σ ρ1 ∧ Out X.K Ew W O σ H1 (fun d ρ' H' => ∀ a, SRel X.K (plus W a) (plus O a) H' σ ρ' → H a = none → OwnAt X.K (plus W a) H' a d → Q (.ref a) H') (sortKof mb i d ρ1)) I ⟨W, O, ρ, R, h1.mono fun d ρ1 H1 k1 R1 q v rv => ⟨v, d, ρ1, rfl, rv, k1, R1, q⟩⟩) ?_) he hpl hall hnone
  rintro us s1 ⟨vs, H1, I1, r1, v, d, ρ1, rfl, rv, k1, R1, q⟩
  obtain ⟨u, rfl, ru⟩ := vals1 r1
  rw [hks]
  show wpAny _ _ (evalAll ((do let v ← eval (.Lambda params body scope lpos) X.env; standAt pos; pure v) :: [])) _ _ s1
  have hT : Tabs Tb.T H1 := fun y hy => (R1.tb y hy).2
  have lfree : ∀ y ∈ scope.names, y.2 = .free → ∃ c, X.env.cells.lookup y.1 = some c := fun y hy e => (L.free y hy e).elim (fun k => I.ok.has _ (.inl k)) fun k => I.ok.has _ (.inr k)
  refine wpAny_evalAll_cons (wpAny_bind (lam_new I1 B.tb hcode B.mem B.one hT hdef lfree ?_))
  rintro f c' pm' ctv H2 s2 I2 eT T2 atf hfn hfr _ ⟨tab, atP, found⟩
  refine wpAny_bind (wpAny_standAt (wpAny_pure (wpAny_evalAll_nil ?_)))
  obtain ⟨k2, R2⟩ := ext_keep R1 B.mem eT T2
  have rv2 := rv.keepO R1 k2
  cases d with
  | list ds =>
    have q := Out.shift q k2
    unfold sortKof at q
    dsimp only at q
    generalize hgo : keysGo mb i ds ρ1 = go at q
    match go, q with
    | none, q => exact q.elim
    | some (.ex _ _), q => exact q.elim
    | some (.ok ks ρe), q =>
      dsimp only at q
      split at q
      case isFalse => exact q.elim
      rename_i hc
      obtain ⟨a, xs, rfl, sa, la⟩ := Tx.list (.inl rv2)
      cases ru
      obtain ⟨hz, its, n, rvl, e⟩ := sa.ok I2.hok
      have lz : its.length ≤ sizeLine := by
        have z := rvl.length
        omega
      exact sortK_run I2 R2 ⟨_, e, rfl, n, rfl⟩ rvl la lz L atf hfn hfr atP found B.mem (fun u => hbind _ _ _ _ _ _) hr hgd (fun A outer s H r g => hbody A outer s H f c' r g) hN nd hgo hc fun H3 a out k3 R3 n3 ro =>
        let ⟨g1, g2, g3, g4⟩ := fresh_end ((k1.trans k2).trans k3) R3 (Same.upd n3) n3 (own_new n3 ro)
        q _ (k3.trans g3) g4 a g1 g2 (own_new n3 ro)
  | _ => exact q.elim
end
end CF
end
section
/-! CX, part 15: sets of whole numbers in variables. -/
namespace CF
open PySem PySem.Spec PyProof.Rows L2
variable [Tb]
def isOb : Slot → Bool
  | .ob _ => true
  | _ => false
theorem some_heap : ∀ c : Nat, ∃ h : Heap, h.objs.size = c
  | 0 => ⟨{ objs := #[] }, rfl⟩
  | c + 1 => by
    obtain ⟨h, e⟩ := some_heap c
    exact ⟨h.push { cls := .none, data := .fields #[] }, by rw [Heap.size_push, e]⟩
theorem codeO_set {w : World} {a : Addr} {S : Int → Bool} {n : Nat} {q : Str} : SetIO w a S n ≠ LamX.CodeO a q := fun z => by
  have z := HO.ext.inj z
  obtain ⟨h, rfl⟩ := some_heap a
  obtain ⟨ob, eob⟩ : ∃ ob : Obj, ob = { cls := .none, data := .fields #[.none, .str q default] } := ⟨_, rfl⟩
  have get : (h.push ob).get? h.objs.size = some ob := Heap.get?_push_size h (by rw [eob]; rfl)
  have yes := (congrFun z (h.push ob)).mpr ⟨ob, #[.none, .str q default], default, get, by rw [eob], rfl⟩
  obtain ⟨o, es, ep, t, ho, _, hd, _⟩ := yes
  rw [get] at ho
  cases ho
  rw [eob] at hd
  cases hd
/-- another object in slot i, the only one that is no tree -/
theorem SRel.updB {K : PySem.W.Frag} {W O : Addr → Prop} {H : Hp} {σ : L2.St} {ρ : List Slot} {a : Addr} {o : HO} {i : Nat} {b b' : OB} (R : SRel K W O H σ ρ) (h : ρ[i]? = some (.ob b)) (e : σ[i]? = some (some (.ref a))) (oa : O a) (n : ObAt K W (upd H a o) a b') (nc : ∀ q, H a ≠ some (LamX.CodeO a q)) (al : ((ρ.set i .un).all fun s => !isOb s) = true) :
    SRel K W O (upd H a o) σ (ρ.set i (.ob b')) := by
  obtain ⟨a', e', _, ob⟩ := R.ob h
  rw [e] at e'
  cases e'
  have k : KeepO W O H (upd H a o) := keepW (R.ow a oa) oa
  obtain ⟨f, hf⟩ := ob.ext
  have nt : ∀ y ∈ Tb.T, y.1 ≠ a := fun y hy z => (R.tb.notE hf) ⟨y, hy, z.symm⟩
  refine ⟨by rw [List.length_set, R.len], R.ow, fun b wb => ?_, fun j x s h1 h2 => ?_, fun j l c d1 d2 n e1 e2 f1 f2 => ?_, fun y hy => ⟨(R.tb y hy).1, ?_⟩⟩
  · by_cases q : b = a
    · subst q; exact ⟨o, upd_same⟩
    · obtain ⟨ob, e⟩ := R.tr b wb
      exact ⟨ob, by rw [upd_ne q]; exact e⟩
  · by_cases q : j = i
    · subst q
      rw [List.getElem?_set] at h2
      simp only [if_true] at h2
      split at h2
      · cases h2
        rw [e] at h1
        cases h1
        exact ⟨a, rfl, oa, n⟩
      · cases h2
    · have h2' := h2
      rw [List.getElem?_set_ne (Ne.symm q)] at h2
      have r := R.sl j x s h1 h2
      cases s with
      | un => trivial
      | dat d =>
        obtain ⟨v, e, r⟩ := r
        exact ⟨v, e, Rx.go (fun a u e n => k.rest a u e n) (fun _ _ _ z => z) d v r⟩
      | own d =>
        obtain ⟨c, e, oc, r⟩ := r
        have hc : c ≠ a := by
          obtain ⟨u, hu, pu⟩ := r.plain
          rintro rfl
          rw [hf] at hu
          exact pu.2 f (Option.some.inj hu).symm
        exact ⟨c, e, oc, r.go (fun a u e n => k.rest a u e n) (fun _ _ _ z => z) fun o eo => by rw [upd_ne hc]; exact eo⟩
      | ob d =>
        have hx : (ρ.set i .un)[j]? = some (.ob d) := by rw [List.getElem?_set_ne (Ne.symm q)]; exact h2
        have := List.all_eq_true.mp al _ (List.mem_of_getElem? hx)
        exact nomatch this
  · have ne : ∀ {m : Nat} {d : D}, (ρ.set i (.ob b'))[m]? = some (.own d) → ρ[m]? = some (.own d) := fun {m d} z => by
      by_cases q : m = i
      · subst q
        rw [List.getElem?_set] at z
        simp only [if_true] at z
        split at z <;> cases z
      · rw [List.getElem?_set_ne (Ne.symm q)] at z
        exact z
    exact R.ne j l c d1 d2 n (ne e1) (ne e2) f1 f2
  · obtain ⟨ps, t1, t2, t3⟩ := (R.tb y hy).2
    refine ⟨ps, by rw [upd_ne (nt y hy)]; exact t1, t2, fun pos cv hc => ?_⟩
    obtain ⟨c, z1, z2⟩ := t3 pos cv hc
    refine ⟨c, z1, ?_⟩
    by_cases q : c = a
    · subst q
      exact absurd z2 (nc _)
    · rw [upd_ne q]
      exact z2
theorem iset_code {K : PySem.W.Frag} {W : Addr → Prop} {H : Hp} {a : Addr} {ns : List Int} (h : ObAt K W H a (.iset ns)) : ∀ q, H a ≠ some (LamX.CodeO a q) := fun q z => by
  obtain ⟨P, w, S, n, _, e, _⟩ := h
  rw [e] at z
  exact codeO_set (Option.some.inj z)
/-- x = set() -/
def mSetI0 (i : Nat) : MS := fun ρ => some (.ok .nx (ρ.set i (.ob (.iset []))))
/-- x.add(e) -/
def addGo (i : Nat) (d : D) : M D := fun ρ => match d, ρ[i]? with
  | .int k, some (.ob (.iset ns)) => if ns.length + 2 < scanBound ∧ ((ρ.set i .un).all fun s => !isOb s) = true then some (.ok .none (ρ.set i (.ob (.iset (k :: ns))))) else none
  | _, _ => none
def isIs : Option Slot → Bool
  | some (.ob (.iset _)) => true
  | _ => false
def mAddI (i : Nat) (m : M D) : M D := fun ρ => if isIs ρ[i]? = true then (m >>= addGo i) ρ else none
/-- sorted(x) -/
def mSortI (i : Nat) : M D := fun ρ => match ρ[i]? with
  | some (.ob (.iset ns)) => if ns.length < 64 then some (.ok (.list ((sset ns).map PyData.int)) ρ) else none
  | _ => none
section
variable {X : Cx} {Ew : WX} {fr : Bool} {F : List Nat} {p p1 p2 pos pos2 apos cpos : Pos} {e : Expr} {m : M D}
theorem sSetI0 (i : Nat) {x : Str} (hF : F.contains i = false) (hN : X.N.Nodup) (hp : Tb.pw = some (X.prog, X.w)) (hm2 : X.mg "set" = none) (hg2 : Gl X "set" := by rfl)
    (hi : X.N[i]? = some x := by rfl) (hx : Loc X.env.scope x := by first | exact Or.inl rfl | exact Or.inr rfl) (hs : swapsWith (.Call (.Name "set" p2) [] [] pos2) (some (.Name x p)) pos.line X.env = pure false := by rfl)
    (hf : X.fn x = true ∨ X.env.scope.names.lookup x = some .local := by first | exact .inl rfl | exact .inr rfl) : PS X (.Assign [.Name x p] (.Call (.Name "set" p2) [] [] pos2) pos) (tS fr F X.K Ew (mSetI0 i)) := by
  refine PS.imp (ps_set hN hi hx (pe_callTy0 cr_set0 hg2 hm2 (by decide +kernel)) hs hf) fun D σ H ⟨W, O, ρ, R, h⟩ => ?_
  refine ⟨rfl, fun a na => ?_⟩
  have s1 : Same H (upd H a (SetO X.w a (fun _ => false) 0)) := Same.upd na
  have ob : ObAt X.K (plus W a) (upd H a (SetO X.w a (fun _ => false) 0)) a (.iset []) := ⟨_, _, _, _, hp, upd_same, Nat.le_refl _, fun i => by simp⟩
  exact h _ _ _ _ (fresh_step R (KeepO.of s1) (R.same s1) na) ((R.plus na upd_same s1).setB i (.inr rfl) ob) (Fx.set hF)
theorem dAddI (i : Nat) {x : Str} (hp : Tb.pw = some (X.prog, X.w)) (ha : PE X e (tD X.K Ew m)) (hi : X.N[i]? = some x := by rfl) (hv : Vis X.env.scope x := by first | exact Or.inl rfl | exact Or.inr (Or.inl rfl) | exact Or.inr (Or.inr rfl))
    (hd : (x == ("__debug__" : Str)) = false := by decide) (hcd : (x == ("__classdict__" : Str)) = false := by decide) (hbase : attributeBase (.Name x p) "add" X.env (eval (.Name x p) X.env) = eval (.Name x p) X.env := by rfl)
    (hfew : ((backTo cpos (starEach [e] X.env)).all (fun x => !x.1) && (backToKw cpos (keywordEach [] X.env)).all (fun x => x.1.isSome)
      && decide ([e].length + ([] : List Keyword).length + (if ([] : List Keyword).isEmpty then 0 else 1) < 30)) = true := by rfl)
    (hline : (apos.endLine == cpos.line) = true := by rfl) (hs : starEach [e] X.env = (false, eval e X.env) :: starEach [] X.env := by rfl) (hplain : (backTo cpos (starEach [] X.env)).any (·.1) = false := by rfl) :
    PE X (.Call (.Attribute (.Name x p) "add" apos) [e] [] cpos) (tD X.K Ew (mAddI i m)) := by
  refine PE.imp (pe_sadd (pe_var hi hv hd hcd) (pa_cons ha pa_nil hs) hbase hfew hline hs hplain) ?_
  rintro σ H Q ⟨W, O, ρ, R, h⟩
  unfold mAddI at h
  split at h
  case isFalse => exact h.elim
  rename_i hi0
  obtain ⟨ns0, e0⟩ : ∃ ns, ρ[i]? = some (.ob (.iset ns)) := by
    unfold isIs at hi0
    split at hi0
    · rename_i ns q
      exact ⟨ns, q⟩
    · cases hi0
  obtain ⟨a, ea, oa, P, w', S, n, ew, eh, _⟩ := R.ob e0
  rw [hp] at ew
  cases ew
  refine ⟨.ref a, ea, ⟨a, S, n, rfl, eh⟩, W, O, ρ, R, (Out.bind h).mono fun d ρ1 H1 k1 R1 h1 v rv => ?_⟩
  unfold addGo at h1
  split at h1
  case h_2 => exact h1.elim
  rename_i k ns e1
  split at h1
  case isFalse => exact h1.elim
  rename_i hc
  obtain ⟨a', ea', _, ob⟩ := R1.ob e1
  rw [ea] at ea'
  cases ea'
  have ob0 := ob
  obtain ⟨P', w', S', n', ew, eh', hn, hS⟩ := ob
  rw [hp] at ew
  cases ew
  cases rv
  refine ⟨a, k, S', n', rfl, rfl, eh', by omega, ?_⟩
  have nb : ObAt X.K W (upd H1 a (SetO X.w a (fun j => S' j || decide (j = k)) (if S' k = true then n' else n' + 1))) a (.iset (k :: ns)) := by
    refine ⟨_, _, _, _, hp, upd_same, ?_, fun j => ?_⟩
    · rw [List.length_cons]
      split <;> omega
    · show (S' j || decide (j = k)) = _
      rw [hS j, Bool.eq_iff_iff, Bool.or_eq_true, decide_eq_true_eq, decide_eq_true_eq, decide_eq_true_eq, List.mem_cons]
      exact ⟨fun z => z.symm, fun z => z.symm⟩
  exact h1 _ (upd_keep R1 oa) (R1.updB e1 ea oa nb (iset_code ob0) hc.2) _ .non
/-- sorted(x) -/
theorem fSortI (i : Nat) {x : Str} (hc : X.calm = true) (hp : Tb.pw = some (X.prog, X.w)) (hm : X.mg "sorted" = none) (hi : X.N[i]? = some x := by rfl) (hv : Vis X.env.scope x := by first | exact Or.inl rfl | exact Or.inr (Or.inl rfl) | exact Or.inr (Or.inr rfl))
    (hd : (x == ("__debug__" : Str)) = false := by decide) (hcd : (x == ("__classdict__" : Str)) = false := by decide) (hg : Gl X "sorted" := by rfl)
    (h1 : starEach [.Name x p] X.env = (false, eval (.Name x p) X.env) :: starEach [] X.env := by rfl) (h3 : (backTo pos (starEach [] X.env)).any (·.1) = false := by rfl) :
    PE X (.Call (.Name "sorted" p1) [.Name x p] [] pos) (tF X.K Ew (mSortI i)) := by
  refine PE.imp (pe_callB (cr_sortedSet hc) hg hm (by decide +kernel) (pa_cons (pe_var hi hv hd hcd) pa_nil h1) (by decide) (by decide) h1 h3) ?_
  rintro σ H Q ⟨W, O, ρ, R, h⟩
  unfold mSortI at h
  split at h
  case h_2 => exact h.elim
  rename_i ns e0
  split at h
  case isFalse => exact h.elim
  rename_i hl
  obtain ⟨a, ea, oa, P, w', S, n, ew, eh, hn, hS⟩ := R.ob e0
  rw [hp] at ew
  cases ew
  refine ⟨.ref a, ea, a, S, n, rfl, eh, by omega, fun ns' b pw hm _ nb => ?_⟩
  have e : ns' = sset ns := pw_unique pw (pw_sset ns) fun k => by rw [hm, hS, decide_eq_true_iff, mem_sset]
  subst e
  have s : Same H (upd H b (.lst ((sset ns).map V.int))) := Same.upd nb
  have o : OwnAt X.K (plus W b) (upd H b (.lst ((sset ns).map V.int))) b (.list ((sset ns).map PyData.int)) := own_new nb (ints_rxl _)
  obtain ⟨g1, g2, g3, g4⟩ := fresh_end KeepO.refl R s nb o
  exact h _ g3 g4 b g1 g2 o
end
end CF
end
section
/-! CX, part 16: x or y, x a whole number or None. -/
namespace CF
open PySem PySem.Spec PyProof.Rows L2
variable [Tb]
def truD : D → Option Bool
  | .none => some false
  | .int i => some (i != 0)
  | .bool b => some b
  | _ => none
def mOrV (a b : M D) : M D := a >>= fun d => match truD d with
  | some true => pure d
  | some false => b
  | none => fun _ => none
theorem iOrV {ρ : List CF.Slot} {a b : M D} {Q : D → List CF.Slot → Prop} (h : wp a ρ fun d ρ1 => ∃ k, truD d = some k ∧ if k = true then Q d ρ1 else wp b ρ1 Q) : wp (mOrV a b) ρ Q := by
  unfold mOrV
  refine wp_bind.mpr (h.mono ?_)
  rintro d ρ1 ⟨k, e, q⟩
  rw [e]
  cases k with
  | true => exact ⟨d, ρ1, rfl, q⟩
  | false => exact q
section
variable {X : Cx} {Ew : WX} {a b : Expr} {ma mb : M D} {pos : Pos}
theorem dOrV (ha : PE X a (tD X.K Ew ma)) (hb : PE X b (tD X.K Ew mb)) : PE X (.BoolOp .Or [a, b] pos) (tD X.K Ew (mOrV ma mb)) := by
  refine PE.imp (pe_orT ha (pe_one hb)) ?_
  rintro σ H Q ⟨W, O, ρ, R, h⟩
  refine ⟨W, O, ρ, R, (Out.bind h).mono fun d ρ1 H1 k1 R1 h1 v rv => ?_⟩
  cases d with
  | none =>
    cases rv
    exact ⟨false, rfl, W, O, ρ1, R1, h1⟩
  | int i =>
    cases rv
    refine ⟨i != 0, rfl, ?_⟩
    simp only [truD] at h1
    cases hi : (i != 0) with
    | true =>
      rw [hi] at h1
      exact h1 H1 KeepO.refl R1 _ (.int i)
    | false =>
      rw [hi] at h1
      exact ⟨W, O, ρ1, R1, h1⟩
  | bool b =>
    cases rv
    refine ⟨b, rfl, ?_⟩
    cases b with
    | true => exact h1 H1 KeepO.refl R1 _ (.bl true)
    | false => exact ⟨W, O, ρ1, R1, h1⟩
  | _ => exact h1.elim
end
end CF
end
section
/-! CX, part 17: a list of one's own, reversed in place. -/
namespace CF
open PySem PySem.Spec PyProof.Rows L2
variable [Tb]
def revG : MutF
  | xs, [] => if xs.length ≤ sizeLine then some (.none, xs.reverse) else none
  | _, _ => none
section
variable {X : Cx} {K : PySem.W.Frag} {W : Addr → Prop} {H : Hp}
theorem RxL.rev {vs : List V} {ds : List D} (h : RxL K W H vs ds) : RxL K W H vs.reverse ds.reverse := by
  induction vs generalizing ds with
  | nil => cases h; exact .nil
  | cons v vs ih =>
    cases h with
    | cons r t => rw [List.reverse_cons, List.reverse_cons]; exact (ih t).append (RxL.one r)
theorem mt_rev : MtR X "list.reverse" (rM X.K revG) := by
  intro pins s σ H x vs v us Q I rx rv h
  obtain ⟨W, l, xs, ys, ds, r, zs, rfl, hl, h1, h2, hg, q⟩ := h
  unfold revG at hg
  split at hg
  · split at hg
    · rename_i hz
      cases hg
      cases h2
      cases rv
      cases rx
      obtain ⟨z, its, n, rr, hn, e⟩ := I.lstM hl
      have hz2 : xs.length ≤ sizeLine := by rw [h1.length]; exact hz
      have e1 := rr.length
      refine call_meets F.slot_list_reverse ⟨_, e, rfl⟩ F.entry_list_reverse (F.args_list_reverse_1 _) (AutoSeq1.list_reverse_list_0 l its.toArray n (by rw [List.size_toArray]; omega)) ⟨e, ?_⟩
      refine ⟨.non, _, I.lset (its' := its.reverse) hl e (by simp) rr.reverse ?_, rfl, q _ _ .non (RxL.rev h1)⟩
      rw [List.length_reverse]
      omega
    · cases hg
  · cases hg
end
section
variable {X : Cx} {Ew : WX}
theorem t_mut0 {g : MutF} {i : Nat} {σ : L2.St} {H : Hp} {Q : VK} (h : tD X.K Ew (mMut i g (mDs [])) σ H Q) : tBM0 X.K "list" (rM X.K g) (L2.tVar i) σ H Q := by
  obtain ⟨a, e, ty, W, O, ρ, R, o⟩ := t_mut h
  exact ⟨a, e, ty, Out.pure o H (KeepO.refl ..) R [] .nil⟩
theorem dMut0 (i : Nat) {x name : Str} {p apos cpos : Pos} {id : String} {g : MutF} (slot : PySem.Slot "list" name id) (hty : typeOf (.builtin id) = pure (.type "method_descriptor")) (hm : MtR X id (rM X.K g))
    (hi : X.N[i]? = some x := by rfl) (hv : Vis X.env.scope x := by first | exact Or.inl rfl | exact Or.inr (Or.inl rfl) | exact Or.inr (Or.inr rfl))
    (hd : (x == ("__debug__" : Str)) = false := by decide) (hcd : (x == ("__classdict__" : Str)) = false := by decide)
    (hbase : attributeBase (.Name x p) name X.env (eval (.Name x p) X.env) = eval (.Name x p) X.env := by rfl)
    (hline : (apos.endLine == cpos.line) = true := by rfl) :
    PE X (.Call (.Attribute (.Name x p) name apos) [] [] cpos) (tD X.K Ew (mMut i g (mDs []))) :=
  PE.imp (pe_bm0 PySem.F.plainAttrs_list slot hty hm (pe_var hi hv hd hcd) hbase hline) fun _ _ _ h => t_mut0 h
end
end CF
end
section
/-! CT, part 0: steps for typed promises. -/
namespace CF
open PySem
/-! ### lists side by side -/
inductive Zip2 {α β : Type} (R : α → β → Prop) : List α → List β → Prop
  | nil : Zip2 R [] []
  | cons {a : α} {b : β} {as : List α} {bs : List β} : R a b → Zip2 R as bs → Zip2 R (a :: as) (b :: bs)
section
variable {α β γ : Type} {R : α → β → Prop}
theorem Zip2.len : ∀ {as : List α} {bs : List β}, Zip2 R as bs → bs.length = as.length
  | _, _, .nil => rfl
  | _, _, .cons _ t => by rw [List.length_cons, List.length_cons, t.len]
theorem Zip2.mono {S : α → β → Prop} (f : ∀ a b, R a b → S a b) : ∀ {as : List α} {bs : List β}, Zip2 R as bs → Zip2 S as bs
  | _, _, .nil => .nil
  | _, _, .cons h t => .cons (f _ _ h) (t.mono f)
theorem Zip2.right {p : β → Prop} (f : ∀ a b, R a b → p b) : ∀ {as : List α} {bs : List β}, Zip2 R as bs → ∀ b ∈ bs, p b
  | _, _, .cons h t, b, hb => by
    rcases List.mem_cons.mp hb with q | q
    · rw [q]; exact f _ _ h
    · exact t.right f b q
/-- the second ones are images -/
theorem Zip2.typed {e : γ → β} {S : α → γ → Prop} (f : ∀ a b, R a b → ∃ c, b = e c ∧ S a c) : ∀ {as : List α} {bs : List β}, Zip2 R as bs → ∃ cs : List γ, bs = cs.map e ∧ Zip2 S as cs
  | _, _, .nil => ⟨[], rfl, .nil⟩
  | _, _, .cons h t => by
    obtain ⟨c, rfl, s⟩ := f _ _ h
    obtain ⟨cs, rfl, z⟩ := t.typed f
    exact ⟨c :: cs, rfl, .cons s z⟩
theorem Zip2.map_eq {f : β → γ} {g : α → γ} (h : ∀ a b, R a b → f b = g a) : ∀ {as : List α} {bs : List β}, Zip2 R as bs → bs.map f = as.map g
  | _, _, .nil => rfl
  | _, _, .cons x t => by rw [List.map_cons, List.map_cons, t.map_eq h, h _ _ x]
end
/-! ### calls -/
theorem iFnQ {ρ : List Slot} {g : FM} {xs : List LV} {Q : D → List Slot → Prop} {ds : List D} {r : D} (h1 : argD ρ xs = some ds) (h2 : pureFn g ds (· = r)) (k : Q r ρ) : fnE g xs Q ρ := iFnP h1 h2 fun d e => by rw [e]; exact k
theorem pureQ {g : FM} {args : List D} {r r' : D} (h : pureFn g args (· = r)) (e : r = r') : pureFn g args (· = r') := e ▸ h
/-! ### comprehensions -/
theorem wipe_back {ρ ρ' : List Slot} {vs : List Nat} (h : wipeS ρ' vs = wipeS ρ vs) : backS ρ ρ' vs = ρ := by
  have hl : ρ'.length = ρ.length := by rw [← wipeS_len ρ' vs, h, wipeS_len]
  apply List.ext_getElem?
  intro i
  by_cases hi : i ∈ vs
  · by_cases hb : i < ρ.length
    · obtain ⟨x, hx⟩ : ∃ x, (backS ρ ρ' vs)[i]? = some x := ⟨_, List.getElem?_eq_getElem (by rw [backS_len, hl]; exact hb)⟩
      have := backS_in ρ ρ' vs i hi x hx
      rw [hx, this, List.getElem?_eq_getElem hb]
      simp [hb]
    · rw [List.getElem?_eq_none (by rw [backS_len, hl]; omega), List.getElem?_eq_none (by omega)]
  · rw [backS_at ρ ρ' vs i hi, ← wipeS_at ρ' vs i hi, h, wipeS_at ρ vs i hi]
section
variable {ρ : List Slot} {Q : D → List Slot → Prop} {vs : List Nat} {src : M (List D)} {b : D → M Unit} {elt : M D} {t : M Bool}
theorem lc_filter {ds : List D} {ρ1 : List Slot} (hl : ds.length ≤ sizeLine) (I : List Slot → Prop) (P : D → D → Prop) (p : D → Bool) (i0 : I ρ1)
    (it : ∀ d ∈ ds, ∀ ρ2, I ρ2 → ∃ ρ3, b d (wipeS ρ2 vs) = some (.ok () ρ3) ∧ wp t ρ3 fun c ρ4 => c = p d ∧ if p d = true then wp elt ρ4 fun y ρ5 => P d y ∧ I ρ5 else I ρ4) :
    ∃ rs ρ3, lcGo vs b t elt ds [] ρ1 = some (.ok rs ρ3) ∧ Zip2 P (ds.filter p) rs ∧ I ρ3 := by
  have go : ∀ (ds' acc : List D) (ρ2 : List Slot), (∀ d ∈ ds', d ∈ ds) → acc.length + ds'.length ≤ sizeLine → I ρ2 → ∃ rs ρ3, lcGo vs b t elt ds' acc ρ2 = some (.ok (acc ++ rs) ρ3) ∧ Zip2 P (ds'.filter p) rs ∧ I ρ3 := by
    intro ds'
    induction ds' with
    | nil => exact fun acc ρ2 _ _ i => ⟨[], ρ2, by rw [List.append_nil]; rfl, .nil, i⟩
    | cons d ds' ih =>
      intro acc ρ2 hm hz i
      rw [List.length_cons] at hz
      obtain ⟨ρ3, e3, c, ρ4, e4, ec, q4⟩ := it d (hm d (List.mem_cons_self ..)) ρ2 i
      have body : ∀ {rs : List D} {ρ6 : List Slot}, ((if c = true then (do
        let y ← elt
        if acc.length < sizeLine then lcGo vs b t elt ds' (acc ++ [y]) else fun _ => none : M (List D)) else lcGo vs b t elt ds' acc) ρ4 = some (.ok rs ρ6)) → lcGo vs b t elt (d :: ds') acc ρ2 = some (.ok rs ρ6) := by
        intro rs ρ6 hb
        have hw : wp (lcGo vs b t elt (d :: ds') acc) ρ2 (fun r ρ' => r = rs ∧ ρ' = ρ6) := by
          show wp ((fun ρ => some (.ok () (wipeS ρ vs)) : M Unit) >>= _) ρ2 _
          refine wp_bind.mpr ⟨(), _, rfl, ?_⟩
          refine wp_bind.mpr ⟨(), ρ3, e3, ?_⟩
          refine wp_bind.mpr ⟨c, ρ4, e4, ?_⟩
          exact ⟨_, _, hb, rfl, rfl⟩
        obtain ⟨r, ρ', e, rfl, rfl⟩ := hw
        exact e
      cases hp : p d with
      | true =>
        rw [hp] at ec q4
        rw [if_pos rfl] at q4
        obtain ⟨y, ρ5, e5, py, i5⟩ := q4
        obtain ⟨rs, ρ6, e6, z6, i6⟩ := ih (acc ++ [y]) ρ5 (fun d' h => hm d' (List.mem_cons_of_mem _ h)) (by rw [List.length_append, List.length_singleton]; omega) i5
        refine ⟨y :: rs, ρ6, body ?_, by rw [List.filter_cons, if_pos hp]; exact .cons py z6, i6⟩
        rw [if_pos ec]
        have hw : wp (do let y ← elt; if acc.length < sizeLine then lcGo vs b t elt ds' (acc ++ [y]) else fun _ => none : M (List D)) ρ4 (fun r ρ' => r = acc ++ y :: rs ∧ ρ' = ρ6) := by
          refine wp_bind.mpr ⟨y, ρ5, e5, ?_⟩
          have e7 : (if acc.length < sizeLine then lcGo vs b t elt ds' (acc ++ [y]) else fun _ => none) ρ5 = some (.ok ((acc ++ [y]) ++ rs) ρ6) := by rw [if_pos (by omega)]; exact e6
          refine ⟨_, _, e7, ?_, rfl⟩
          rw [List.append_assoc]
          rfl
        obtain ⟨r, ρ', e, rfl, rfl⟩ := hw
        exact e
      | false =>
        rw [hp] at ec q4
        rw [if_neg Bool.false_ne_true] at q4
        obtain ⟨rs, ρ6, e6, z6, i6⟩ := ih acc ρ4 (fun d' h => hm d' (List.mem_cons_of_mem _ h)) (by omega) q4
        refine ⟨rs, ρ6, body ?_, by rw [List.filter_cons, if_neg (by rw [hp]; exact Bool.false_ne_true)]; exact z6, i6⟩
        rw [if_neg (by rw [ec]; exact Bool.false_ne_true), e6]
  obtain ⟨rs, ρ3, e, z, i3⟩ := go ds [] ρ1 (fun _ h => h) (by simpa using hl) i0
  rw [List.nil_append] at e
  exact ⟨rs, ρ3, e, z, i3⟩
theorem Zip2.unmap {α β γ : Type} {R : β → γ → Prop} {e : α → β} : ∀ {as : List α} {cs : List γ}, Zip2 R (as.map e) cs → Zip2 (fun a c => R (e a) c) as cs
  | [], _, h => by cases h; exact .nil
  | a :: as, _, h => by
    cases h with
    | cons x t => exact .cons x t.unmap
/-- each item's image, nothing else is changed -/
theorem iLCm (h : wp src ρ fun ds ρ1 => ∃ (α : Type) (xs : List α) (e f : α → D), ds = xs.map e ∧ xs.length ≤ sizeLine ∧ (vs.all fun v => !isOwn (ρ1.getD v .un)) = true ∧
    (∀ x ∈ xs, ∃ ρ3, b (e x) (wipeS ρ1 vs) = some (.ok () ρ3) ∧ wp elt ρ3 fun y ρ4 => y = f x ∧ wipeS ρ4 vs = wipeS ρ1 vs) ∧ Q (.list (xs.map f)) ρ1) : wp (mLC vs src b mYes elt) ρ Q := by
  unfold mLC
  refine wp_bind.mpr (h.mono fun ds ρ1 ⟨α, xs, e, f, hd, hl, hv, it, q⟩ => ?_)
  subst hd
  obtain ⟨rs, ρ3, e3, z, i3⟩ := lc_filter (vs := vs) (b := b) (t := mYes) (elt := elt) (ds := xs.map e) (ρ1 := ρ1) (by rw [List.length_map]; exact hl) (fun ρ2 => wipeS ρ2 vs = wipeS ρ1 vs) (fun d y => ∀ x ∈ xs, d = e x → y = f x) (fun _ => true) rfl fun d hd ρ2 i2 => by
    obtain ⟨x, hx, rfl⟩ := List.mem_map.mp hd
    obtain ⟨ρ3, e3, q3⟩ := it x hx
    refine ⟨ρ3, by rw [i2]; exact e3, true, ρ3, rfl, rfl, ?_⟩
    rw [if_pos rfl]
    refine q3.mono fun y ρ4 ⟨h1, h2⟩ => ⟨fun x' hx' ex => ?_, h2⟩
    obtain ⟨ρ3', e3', q3'⟩ := it x' hx'
    rw [← ex, e3] at e3'
    cases e3'
    obtain ⟨y1, ρa, r1, s1⟩ := q3
    obtain ⟨y2, ρb, r2, s2⟩ := q3'
    rw [r1] at r2
    cases r2
    rw [h1, ← s1.1, s2.1]
  refine ⟨.list rs, backS ρ1 ρ3 vs, ?_, ?_⟩
  · simp only
    rw [if_pos hv, e3]
  · rw [wipe_back i3]
    have : rs = xs.map f := by
      rw [List.filter_eq_self.mpr fun _ _ => rfl] at z
      have z' := z.unmap
      have go : ∀ {as : List α} {rs : List D}, (∀ a ∈ as, a ∈ xs) → Zip2 (fun x y => ∀ x' ∈ xs, e x = e x' → y = f x') as rs → rs = as.map f := by
        intro as
        induction as with
        | nil => intro rs _ h; cases h; rfl
        | cons a as ih =>
          intro rs hm h
          cases h with
          | cons h t => rw [List.map_cons, ← ih (fun x hx => hm x (List.mem_cons_of_mem _ hx)) t, h a (hm a (List.mem_cons_self ..)) rfl]
      exact go (fun _ h => h) z'
    rw [this]
    exact q
/-- .. of those items that pass the test -/
theorem iLCf (h : wp src ρ fun ds ρ1 => ∃ (α : Type) (xs : List α) (e : α → D) (p : α → Bool) (f : α → D), ds = xs.map e ∧ xs.length ≤ sizeLine ∧ (vs.all fun v => !isOwn (ρ1.getD v .un)) = true ∧
    (∀ x ∈ xs, ∃ ρ3, b (e x) (wipeS ρ1 vs) = some (.ok () ρ3) ∧ wp t ρ3 fun c ρ4 => c = p x ∧ if p x = true then wp elt ρ4 fun y ρ5 => y = f x ∧ wipeS ρ5 vs = wipeS ρ1 vs else wipeS ρ4 vs = wipeS ρ1 vs) ∧ Q (.list ((xs.filter p).map f)) ρ1) : wp (mLC vs src b t elt) ρ Q := by
  unfold mLC
  refine wp_bind.mpr (h.mono fun ds ρ1 ⟨α, xs, e, p, f, hd, hl, hv, it, q⟩ => ?_)
  subst hd
  have go : ∀ (xs' : List α) (acc : List D) (ρ2 : List Slot), (∀ x ∈ xs', x ∈ xs) → acc.length + xs'.length ≤ sizeLine → wipeS ρ2 vs = wipeS ρ1 vs → ∃ ρ3, lcGo vs b t elt (xs'.map e) acc ρ2 = some (.ok (acc ++ (xs'.filter p).map f) ρ3) ∧ wipeS ρ3 vs = wipeS ρ1 vs := by
    intro xs'
    induction xs' with
    | nil => exact fun acc ρ2 _ _ i => ⟨ρ2, by simp; rfl, i⟩
    | cons d ds' ih =>
      intro acc ρ2 hm hz i
      rw [List.length_cons] at hz
      obtain ⟨ρ3, e3, c, ρ4, e4, ec, q4⟩ := it d (hm d (List.mem_cons_self ..))
      rw [← i] at e3
      have body : ∀ {rs : List D} {ρ6 : List Slot}, ((if c = true then (do
        let y ← elt
        if acc.length < sizeLine then lcGo vs b t elt (ds'.map e) (acc ++ [y]) else fun _ => none : M (List D)) else lcGo vs b t elt (ds'.map e) acc) ρ4 = some (.ok rs ρ6)) → lcGo vs b t elt (e d :: ds'.map e) acc ρ2 = some (.ok rs ρ6) := by
        intro rs ρ6 hb
        have hw : wp (lcGo vs b t elt (e d :: ds'.map e) acc) ρ2 (fun r ρ' => r = rs ∧ ρ' = ρ6) := by
          show wp ((fun ρ => some (.ok () (wipeS ρ vs)) : M Unit) >>= _) ρ2 _
          refine wp_bind.mpr ⟨(), _, rfl, ?_⟩
          refine wp_bind.mpr ⟨(), ρ3, e3, ?_⟩
          refine wp_bind.mpr ⟨c, ρ4, e4, ?_⟩
          exact ⟨_, _, hb, rfl, rfl⟩
        obtain ⟨r, ρ', e, rfl, rfl⟩ := hw
        exact e
      rw [List.map_cons]
      cases hp : p d with
      | true =>
        rw [hp] at ec q4
        rw [if_pos rfl] at q4
        obtain ⟨y, ρ5, e5, py, i5⟩ := q4
        obtain ⟨ρ6, e6, i6⟩ := ih (acc ++ [y]) ρ5 (fun d' h => hm d' (List.mem_cons_of_mem _ h)) (by rw [List.length_append, List.length_singleton]; omega) i5
        refine ⟨ρ6, body ?_, i6⟩
        rw [if_pos ec]
        have hw : wp (do let y ← elt; if acc.length < sizeLine then lcGo vs b t elt (ds'.map e) (acc ++ [y]) else fun _ => none : M (List D)) ρ4 (fun r ρ' => r = acc ++ ((d :: ds').filter p).map f ∧ ρ' = ρ6) := by
          refine wp_bind.mpr ⟨y, ρ5, e5, ?_⟩
          have e7 : (if acc.length < sizeLine then lcGo vs b t elt (ds'.map e) (acc ++ [y]) else fun _ => none) ρ5 = some (.ok ((acc ++ [y]) ++ (ds'.filter p).map f) ρ6) := by rw [if_pos (by omega)]; exact e6
          refine ⟨_, _, e7, ?_, rfl⟩
          rw [List.filter_cons, if_pos hp, List.map_cons, py, List.append_assoc]
          rfl
        obtain ⟨r, ρ', e, rfl, rfl⟩ := hw
        exact e
      | false =>
        rw [hp] at ec q4
        rw [if_neg Bool.false_ne_true] at q4
        obtain ⟨ρ6, e6, i6⟩ := ih acc ρ4 (fun d' h => hm d' (List.mem_cons_of_mem _ h)) (by omega) q4
        refine ⟨ρ6, body ?_, i6⟩
        rw [if_neg (by rw [ec]; exact Bool.false_ne_true), e6, List.filter_cons, if_neg (by rw [hp]; exact Bool.false_ne_true)]
  obtain ⟨ρ3, e3, i3⟩ := go xs [] ρ1 (fun _ h => h) (by simpa using hl) rfl
  rw [List.nil_append] at e3
  refine ⟨_, backS ρ1 ρ3 vs, ?_, by rw [wipe_back i3]; exact q⟩
  simp only
  rw [if_pos hv, e3]
/-- .. drawn from the bag in slot k -/
theorem iLCb (h : wp src ρ fun ds ρ1 => ∃ (k : Nat) (α : Type) (xs : List α) (e : α → D) (P : α → D → Prop), ds = xs.map e ∧ xs.length ≤ sizeLine ∧ (vs.all fun v => !isOwn (ρ1.getD v .un)) = true ∧ k ∉ vs ∧ (∃ bag, ρ1[k]? = some (.own bag) ∧ BagOk bag) ∧
    (∀ x ∈ xs, ∀ bag, BagOk bag → ∃ ρ3, b (e x) (wipeS (ρ1.set k (.own bag)) vs) = some (.ok () ρ3) ∧ wp elt ρ3 fun y ρ4 => P x y ∧ ∃ bag', BagOk bag' ∧ wipeS ρ4 vs = wipeS (ρ1.set k (.own bag')) vs) ∧
    ∀ ys bag, Zip2 P xs ys → BagOk bag → Q (.list ys) (ρ1.set k (.own bag))) : wp (mLC vs src b mYes elt) ρ Q := by
  unfold mLC
  refine wp_bind.mpr (h.mono fun ds ρ1 ⟨k, α, xs, e, P, hd, hl, hv, hk, ⟨bag0, h0, ok0⟩, it, q⟩ => ?_)
  subst hd
  have go : ∀ (xs' : List α) (acc : List D) (ρ2 : List Slot), (∀ x ∈ xs', x ∈ xs) → acc.length + xs'.length ≤ sizeLine → (∃ bag, BagOk bag ∧ wipeS ρ2 vs = wipeS (ρ1.set k (.own bag)) vs) → ∃ rs ρ3, lcGo vs b mYes elt (xs'.map e) acc ρ2 = some (.ok (acc ++ rs) ρ3) ∧ Zip2 P xs' rs ∧ ∃ bag, BagOk bag ∧ wipeS ρ3 vs = wipeS (ρ1.set k (.own bag)) vs := by
    intro xs'
    induction xs' with
    | nil => exact fun acc ρ2 _ _ i => ⟨[], ρ2, by simp; rfl, .nil, i⟩
    | cons d ds' ih =>
      intro acc ρ2 hm hz i
      rw [List.length_cons] at hz
      obtain ⟨bag, okb, eb⟩ := i
      obtain ⟨ρ3, e3, y, ρ4, e4, py, i4⟩ := it d (hm d (List.mem_cons_self ..)) bag okb
      rw [← eb] at e3
      obtain ⟨rs, ρ5, e5, z5, i5⟩ := ih (acc ++ [y]) ρ4 (fun d' h => hm d' (List.mem_cons_of_mem _ h)) (by rw [List.length_append, List.length_singleton]; omega) i4
      refine ⟨y :: rs, ρ5, ?_, .cons py z5, i5⟩
      have hw : wp (lcGo vs b mYes elt (e d :: ds'.map e) acc) ρ2 (fun r ρ' => r = acc ++ y :: rs ∧ ρ' = ρ5) := by
        show wp ((fun ρ => some (.ok () (wipeS ρ vs)) : M Unit) >>= _) ρ2 _
        refine wp_bind.mpr ⟨(), _, rfl, ?_⟩
        refine wp_bind.mpr ⟨(), ρ3, e3, ?_⟩
        refine wp_bind.mpr ⟨true, ρ3, rfl, ?_⟩
        show wp (elt >>= _) ρ3 _
        refine wp_bind.mpr ⟨y, ρ4, e4, ?_⟩
        have e6 : (if acc.length < sizeLine then lcGo vs b mYes elt (ds'.map e) (acc ++ [y]) else fun _ => none) ρ4 = some (.ok ((acc ++ [y]) ++ rs) ρ5) := by rw [if_pos (by omega)]; exact e5
        refine ⟨_, _, e6, ?_, rfl⟩
        rw [List.append_assoc]
        rfl
      obtain ⟨r, ρ', e, rfl, rfl⟩ := hw
      exact e
  have hs : ρ1.set k (.own bag0) = ρ1 := by
    apply List.ext_getElem?
    intro i
    rw [List.getElem?_set]
    split
    · rename_i h; subst h
      split
      · rw [h0]
      · rename_i hb; rw [List.getElem?_eq_none (by omega)]
    · rfl
  obtain ⟨rs, ρ3, e3, z, bag, okb, i3⟩ := go xs [] ρ1 (fun _ h => h) (by simpa using hl) ⟨bag0, ok0, by rw [hs]⟩
  rw [List.nil_append] at e3
  refine ⟨.list rs, backS ρ1 ρ3 vs, ?_, ?_⟩
  · simp only
    rw [if_pos hv, e3]
  · have : backS ρ1 ρ3 vs = backS (ρ1.set k (.own bag)) ρ3 vs := by
      have gen : ∀ us : List Nat, k ∉ us → backS ρ1 ρ3 us = backS (ρ1.set k (.own bag)) ρ3 us := by
        intro us
        induction us with
        | nil => exact fun _ => rfl
        | cons v us ih =>
          intro hn
          rw [List.mem_cons, not_or] at hn
          show (backS ρ1 ρ3 us).set v (ρ1.getD v .un) = (backS (ρ1.set k (.own bag)) ρ3 us).set v ((ρ1.set k (.own bag)).getD v .un)
          rw [ih hn.2]
          congr 1
          simp [List.getD, List.getElem?_set_ne hn.1]
      exact gen vs hk
    rw [this, wipe_back i3]
    exact q rs bag z okb
end
/-! ### loops -/
section
variable {ρ : List Slot} {src : M (List D)} {b : D → M Unit} {body : MS} {QS : RS → List Slot → Prop}
/-- a for loop over typed items -/
theorem iForT (h : wp src ρ fun ds ρ1 => ∃ (α : Type) (xs : List α) (e : α → D) (I : List α → List Slot → Prop), ds = xs.map e ∧ I xs ρ1 ∧ (∀ ρ2, I [] ρ2 → QS .nx ρ2) ∧ ∀ x rest ρ2, x ∈ xs → I (x :: rest) ρ2 → ∃ ρ3, b (e x) ρ2 = some (.ok () ρ3) ∧
    wp body ρ3 fun f ρ4 => match f with
      | .nx => I rest ρ4
      | .ct => I rest ρ4
      | .bk => QS .nx ρ4
      | .rt r => QS (.rt r) ρ4) : wp (mFor src b body) ρ QS := by
  refine iFor (h.mono fun ds ρ1 ⟨α, xs, e, I, hd, i0, ie, it⟩ => ?_)
  subst hd
  refine ⟨fun ds ρ2 => ∃ rest, ds = rest.map e ∧ (∀ x ∈ rest, x ∈ xs) ∧ I rest ρ2, ⟨xs, rfl, fun _ h => h, i0⟩, ?_, ?_⟩
  · rintro ρ2 ⟨rest, e1, _, i⟩
    cases rest with
    | nil => exact ie ρ2 i
    | cons x r => simp at e1
  · rintro d ds ρ2 ⟨rest, e1, hm, i⟩
    cases rest with
    | nil => simp at e1
    | cons x r =>
      rw [List.map_cons, List.cons.injEq] at e1
      obtain ⟨rfl, rfl⟩ := e1
      obtain ⟨ρ3, e3, q⟩ := it x r ρ2 (hm x (List.mem_cons_self ..)) i
      refine ⟨ρ3, e3, q.mono fun f ρ4 q => ?_⟩
      cases f with
      | nx => exact ⟨r, rfl, fun y hy => hm y (List.mem_cons_of_mem _ hy), q⟩
      | ct => exact ⟨r, rfl, fun y hy => hm y (List.mem_cons_of_mem _ hy), q⟩
      | bk => exact q
      | rt _ => exact q
end
theorem iTmp {i : Nat} {t : M Bool} {ρ : List Slot} {ds : List D} {Q : Bool → List Slot → Prop} (hi : ρ[i]? = some (.own (.list ds))) (h : wp t (tmpS i ds ρ) fun c _ => Q c ρ) : wp (mTmp i t) ρ Q := by
  obtain ⟨c, ρ', e, q⟩ := h
  refine ⟨c, ρ, ?_, q⟩
  unfold mTmp
  rw [hi]
  simp only [e]
end CF
namespace CF
open PySem
theorem iZpL {ρ : List Slot} {m m2 : M D} {Q : List D → List Slot → Prop} (h : wp m ρ fun d ρ1 => wp m2 ρ1 fun e ρ2 => ∃ b1 xs b2 ys, seqD d = some (b1, xs) ∧ seqD e = some (b2, ys) ∧ Q (zipD xs ys) ρ2) : wp (mZp m m2) ρ Q := by
  unfold mZp
  refine wp_bind.mpr (h.mono fun d ρ1 q => wp_bind.mpr (q.mono fun e ρ2 ⟨b1, xs, b2, ys, h1, h2, q⟩ => wp_lift.mpr ⟨_, ?_, q⟩))
  rw [h1, h2]
  rfl
theorem zipD_map {α β : Type} (e : α → D) (f : β → D) : ∀ (xs : List α) (ys : List β), zipD (xs.map e) (ys.map f) = (xs.zip ys).map fun p => .tuple [e p.1, f p.2]
  | [], _ => rfl
  | _ :: _, [] => rfl
  | x :: xs, y :: ys => by
    have ih := zipD_map e f xs ys
    unfold zipD at ih ⊢
    rw [List.map_cons, List.map_cons, List.zip_cons_cons, List.map_cons, ih, List.zip_cons_cons, List.map_cons]
theorem rangeD_map (lo : Int) (n : Nat) : rangeD lo n = (List.range n).map fun i => PyData.int (lo + (i : Nat)) := rfl
end CF
end
section
/-! CT, part 1: houses, tables, formulas as data of their own. -/
namespace CF
open PySem
/-! ### texts in order -/
def strLe (a b : Str) : Prop := a.cps.toList ≤ b.cps.toList
def strLt (a b : Str) : Prop := a.cps.toList < b.cps.toList
instance : DecidableRel strLe := fun a b => inferInstanceAs (Decidable (a.cps.toList ≤ b.cps.toList))
instance : DecidableRel strLt := fun a b => inferInstanceAs (Decidable (a.cps.toList < b.cps.toList))
theorem str_ext {a b : Str} (h : a.cps.toList = b.cps.toList) : a = b := by
  obtain ⟨x⟩ := a
  obtain ⟨y⟩ := b
  congr 1
  exact Array.toList_inj.mp h
theorem strLe_trans {a b c : Str} (h1 : strLe a b) (h2 : strLe b c) : strLe a c := List.le_trans h1 h2
theorem strLe_total (a b : Str) : strLe a b ∨ strLe b a := List.le_total _ _
theorem strLe_anti {a b : Str} (h1 : strLe a b) (h2 : strLe b a) : a = b := str_ext (List.le_antisymm h1 h2)
theorem strLt_of {a b : Str} (h : strLe a b) (n : a ≠ b) : strLt a b := by
  by_cases q : a.cps.toList < b.cps.toList
  · exact q
  · exact absurd (strLe_anti h (List.not_lt.mp q)) n
theorem strLt_ne {a b : Str} (h : strLt a b) : a ≠ b := fun e => by subst e; exact List.lt_irrefl _ h
def ascS (xs : List Str) : List Str := xs.mergeSort fun a b => decide (strLe a b)
theorem sort_strs (xs : List Str) : sortL false (xs.map PyData.str) = (ascS xs).map PyData.str :=
  (PySem.W.sort_maps (s := PySem.W.dataLe false id) PyData.str fun a _ b _ => (congrFun (congrFun (PySem.W.dataLe_str (β := Str) id) a) b).symm).symm
theorem ascS_perm (xs : List Str) : (ascS xs).Perm xs := List.mergeSort_perm _ _
theorem ascS_pw (xs : List Str) : (ascS xs).Pairwise strLe := by
  have h := List.pairwise_mergeSort (le := fun a b : Str => decide (strLe a b)) (fun a b c h1 h2 => decide_eq_true (strLe_trans (of_decide_eq_true h1) (of_decide_eq_true h2))) (fun a b => by
    rcases strLe_total a b with h | h
    · rw [decide_eq_true h]; rfl
    · rw [decide_eq_true h, Bool.or_true]) xs
  exact h.imp fun {a b} z => of_decide_eq_true z
theorem pw_strict {xs : List Str} (h : xs.Pairwise strLe) (n : xs.Nodup) : xs.Pairwise strLt := by
  have := h.and n
  exact this.imp fun {a b} z => strLt_of z.1 z.2
theorem ascS_strict {xs : List Str} (n : xs.Nodup) : (ascS xs).Pairwise strLt := pw_strict (ascS_pw xs) ((ascS_perm xs).nodup_iff.mpr n)
theorem pw_nodupS {xs : List Str} (h : xs.Pairwise strLt) : xs.Nodup := h.imp fun {a b} z => strLt_ne z
theorem canSort_str (xs : List Str) : canSort (xs.map PyData.str) = true := canSort_strs fun d hd => by obtain ⟨x, _, rfl⟩ := List.mem_map.mp hd; rfl
/-! ### data -/
structure Srt where
  nm : Str
  lo : Nat
  hi : Option Nat
def hiD : Option Nat → D
  | none => .none
  | some h => .int h
def Srt.d (s : Srt) : D := .tuple [.str s.nm, .int s.lo, hiD s.hi]
abbrev House := List Srt
def House.d (h : House) : D := .tuple (h.map Srt.d)
def House.nms (h : House) : List Str := h.map Srt.nm
def lotD (l : List Str) : D := .tuple (l.map PyData.str)
def rowD (ns : List Int) : D := .tuple (ns.map PyData.int)
def listD (ns : List Int) : D := .list (ns.map PyData.int)
def cntD (c : List Nat) : D := .tuple (c.map fun n => PyData.int (n : Nat))
abbrev Tbl := List (Str × List Int)
def entD (p : Str × List Int) : D × D := (.str p.1, rowD p.2)
def Tbl.d (t : Tbl) : D := .dict (t.map entD)
def Tbl.row (t : Tbl) (x : Str) : List Int := (t.lookup x).getD []
def Tbl.rows (t : Tbl) (l : List Str) : List Int := (l.map t.row).flatten
inductive Fm where
  | rank (l : List Str) (k : Nat)
  | kth (k : Nat) (ps : List Fm)
mutual
def Fm.d : Fm → D
  | .rank l k => .tuple [.str sRank, lotD l, .int k]
  | .kth k ps => .tuple [.str sKth, .int k, .tuple (Fm.dL ps)]
def Fm.dL : List Fm → List D
  | [] => []
  | p :: ps => Fm.d p :: Fm.dL ps
end
theorem Fm.dL_map : ∀ ps : List Fm, Fm.dL ps = ps.map Fm.d
  | [] => rfl
  | p :: ps => by rw [Fm.dL, Fm.dL_map ps]; rfl
mutual
def Fm.dep : Fm → Nat
  | .rank _ _ => 0
  | .kth _ ps => Fm.depL ps + 1
def Fm.depL : List Fm → Nat
  | [] => 0
  | p :: ps => max (Fm.dep p) (Fm.depL ps)
end
theorem Fm.dep_mem : ∀ {ps : List Fm} {p : Fm}, p ∈ ps → p.dep ≤ Fm.depL ps
  | q :: ps, p, h => by
    rw [Fm.depL]
    rcases List.mem_cons.mp h with e | e
    · rw [e]; exact Nat.le_max_left _ _
    · exact Nat.le_trans (Fm.dep_mem e) (Nat.le_max_right _ _)
mutual
def Fm.val (t : Tbl) : Fm → Option Int
  | .rank l k => kthI (t.rows l) k
  | .kth k ps => kthI ((Fm.valL t ps).filterMap id) k
def Fm.valL (t : Tbl) : List Fm → List (Option Int)
  | [] => []
  | p :: ps => Fm.val t p :: Fm.valL t ps
end
theorem Fm.valL_map (t : Tbl) : ∀ ps : List Fm, Fm.valL t ps = ps.map (Fm.val t)
  | [] => rfl
  | p :: ps => by rw [Fm.valL, Fm.valL_map t ps]; rfl
/-- the counts of a lot's sorts together -/
def House.sum (h : House) (c : List Nat) (l : List Str) : Nat := (((h.zip c).filter fun p => decide (p.1.nm ∈ l)).map (·.2)).sum
mutual
def Fm.hold (h : House) (c : List Nat) : Fm → Bool
  | .rank l k => decide (k ≤ h.sum c l)
  | .kth k ps => decide (k ≤ ((Fm.holdL h c ps).filter id).length)
def Fm.holdL (h : House) (c : List Nat) : List Fm → List Bool
  | [] => []
  | p :: ps => Fm.hold h c p :: Fm.holdL h c ps
end
/-! ### what is as described -/
def menuS : List Str := [Str.ofString "a", Str.ofString "b", Str.ofString "c", Str.ofString "ab", Str.ofString "rank", Str.ofString "kth", Str.ofString "open", Str.ofString "sort", Str.ofString "rows", Str.ofString "is", Str.ofString "at", Str.ofString "count", Str.ofString "fact", Str.ofString "zzzzzz", Str.ofString "x", Str.ofString "gym", Str.ofString "jvl"]
structure HOk (h : House) : Prop where
  asc : h.nms.Pairwise strLt
  nm : ∀ x ∈ h.nms, x ∈ menuS
  lo : ∀ s ∈ h, s.lo ≤ 6
  hi : ∀ s ∈ h, ∀ m, s.hi = some m → s.lo ≤ m ∧ m ≤ 9
  l1 : 1 ≤ h.length
  l5 : h.length ≤ 5
structure LOk (h : House) (l : List Str) : Prop where
  asc : l.Pairwise strLt
  ne : l ≠ []
  sub : ∀ x ∈ l, x ∈ h.nms
inductive FOk (h : House) (w : Nat) : Nat → Fm → Prop
  | rank {n : Nat} {l : List Str} {k : Nat} : LOk h l → 1 ≤ k → k ≤ 99 → FOk h w n (.rank l k)
  | kth {n k : Nat} {ps : List Fm} : 1 ≤ k → k ≤ ps.length → ps.length ≤ w → (∀ p ∈ ps, FOk h w n p) → FOk h w (n + 1) (.kth k ps)
structure TOk (h : House) (pool : List Int) (t : Tbl) : Prop where
  nms : (t.map (·.1)).Perm h.nms
  asc : ∀ p ∈ t, p.2.Pairwise (· ≤ ·)
  sz : ∀ s ∈ h, s.lo ≤ (t.row s.nm).length ∧ ∀ m, s.hi = some m → (t.row s.nm).length ≤ m
  l9 : ∀ p ∈ t, p.2.length ≤ 9
  num : ∀ p ∈ t, ∀ n ∈ p.2, n ∈ pool
theorem HOk.nodup {h : House} (o : HOk h) : h.nms.Nodup := pw_nodupS o.asc
theorem FOk.dep {h : House} {w n : Nat} {f : Fm} (o : FOk h w n f) : f.dep ≤ n := by
  induction o with
  | rank => rw [Fm.dep]; exact Nat.zero_le _
  | kth _ _ _ _ ih =>
    rename_i ps _ _ _ hps
    rw [Fm.dep]
    refine Nat.succ_le_succ ?_
    clear hps
    rename_i q1 q2 q3
    clear q1 q2 q3
    induction ps with
    | nil => rw [Fm.depL]; exact Nat.zero_le _
    | cons p ps ih2 =>
      rw [Fm.depL]
      exact Nat.max_le.mpr ⟨ih p (List.mem_cons_self ..), ih2 fun q hq => ih q (List.mem_cons_of_mem _ hq)⟩
theorem FOk.mono {h : House} {w w' n : Nat} {f : Fm} (hw : w ≤ w') (o : FOk h w n f) : ∀ {n' : Nat}, n ≤ n' → FOk h w' n' f := by
  induction o with
  | rank a b c => exact fun _ => .rank a b c
  | kth a b c _ ih =>
    intro n' hn
    obtain ⟨j, rfl⟩ : ∃ j, n' = j + 1 := ⟨n' - 1, by omega⟩
    exact .kth a b (by omega) fun p hp => ih p hp (by omega)
/-! ### tables looked up -/
theorem keyEq_str (a b : Str) : keyEq (.str a) (.str b) = decide (a = b) := by
  show (decide (a = b) : Bool) = _
  rfl
theorem look_t {t : Tbl} {x : Str} : lookD (t.map entD) (.str x) = (t.lookup x).map rowD := by
  induction t with
  | nil => rfl
  | cons p t ih =>
    obtain ⟨a, ns⟩ := p
    rw [List.map_cons]
    show (if keyEq (.str a) (.str x) = true then some (rowD ns) else lookD (t.map entD) (.str x)) = _
    rw [List.lookup_cons, ih, keyEq_str]
    by_cases h : a = x
    · subst h
      simp
    · have h2 : (x == a) = false := by simpa using fun e => h e.symm
      rw [h2]
      simp [h]
theorem look_some {t : Tbl} {x : Str} (h : x ∈ t.map (·.1)) : ∃ ns, t.lookup x = some ns ∧ (x, ns) ∈ t := by
  induction t with
  | nil => simp at h
  | cons p t ih =>
    obtain ⟨a, ns⟩ := p
    rw [List.lookup_cons]
    by_cases e : x = a
    · subst e
      exact ⟨ns, by simp, List.mem_cons_self ..⟩
    · have h2 : (x == a) = false := by simpa using e
      rw [h2]
      rw [List.map_cons, List.mem_cons] at h
      obtain ⟨ms, q1, q2⟩ := ih (h.resolve_left e)
      exact ⟨ms, q1, List.mem_cons_of_mem _ q2⟩
theorem TOk.row_mem {h : House} {pool : List Int} {t : Tbl} (o : TOk h pool t) {x : Str} (hx : x ∈ h.nms) : t.lookup x = some (t.row x) ∧ (x, t.row x) ∈ t := by
  obtain ⟨ns, e, m⟩ := look_some (o.nms.mem_iff.mpr hx)
  have er : t.row x = ns := by unfold Tbl.row; rw [e]; rfl
  rw [er]
  exact ⟨e, m⟩
theorem TOk.ix {h : House} {pool : List Int} {t : Tbl} (o : TOk h pool t) {x : Str} (hx : x ∈ h.nms) : ixD t.d (.str x) = some (rowD (t.row x)) := by
  show (if isKey (.str x) = true then lookD (t.map entD) (.str x) else none) = _
  rw [if_pos (show isKey (.str x) = true from rfl), look_t, (o.row_mem hx).1]
  rfl
theorem TOk.len {h : House} {pool : List Int} {t : Tbl} (o : TOk h pool t) {x : Str} (hx : x ∈ h.nms) : (t.row x).length ≤ 9 := o.l9 _ (o.row_mem hx).2
theorem TOk.mem {h : House} {pool : List Int} {t : Tbl} (o : TOk h pool t) {x : Str} (hx : x ∈ h.nms) : ∀ n ∈ t.row x, n ∈ pool := o.num _ (o.row_mem hx).2
theorem TOk.nodup {h : House} {pool : List Int} {t : Tbl} (oh : HOk h) (o : TOk h pool t) : (t.map (·.1)).Nodup := o.nms.nodup_iff.mpr oh.nodup
theorem rows_pool {h : House} {pool : List Int} {t : Tbl} (o : TOk h pool t) {l : List Str} (hl : ∀ x ∈ l, x ∈ h.nms) : ∀ n ∈ t.rows l, n ∈ pool := by
  intro n hn
  unfold Tbl.rows at hn
  obtain ⟨r, hr, hv⟩ := List.mem_flatten.mp hn
  obtain ⟨x, hx, rfl⟩ := List.mem_map.mp hr
  exact o.mem (hl x hx) n hv
end CF
end
section
/-! CT, part 2: what the laws' own defs draw: names, sorts, houses, numbers, tables. -/
namespace CF
open PySem
local macro_rules | `(tactic| walk_at "hf") => `(tactic| (first
  | with_reducible exact eqD_int | with_reducible exact eqD_str | with_reducible exact neD_int | with_reducible exact addD_int | with_reducible exact addI_int | with_reducible exact subD_int | with_reducible exact geD_int | with_reducible exact gtD_int | with_reducible exact leD_int | with_reducible exact ltD_int | with_reducible exact modD_of (by decide) | with_reducible exact mulD_r (by decide) | with_reducible exact mulD_l (by decide) | with_reducible exact powD_of (by decide) | with_reducible exact ix0 | ((with_reducible show ixD (.list _) (.int _) = _); rfl) | ((with_reducible show ixD (.tuple _) (.int _) = _); rfl)
  | with_reducible exact intC_int | with_reducible exact lenC_list | with_reducible exact lenC_tuple | with_reducible exact tupleC_list | with_reducible exact listC_tuple | with_reducible exact listC_dict | with_reducible exact isN_none | with_reducible exact isN_int | with_reducible exact notN_none | with_reducible exact notN_int | with_reducible exact min2_int | with_reducible exact max2_int | with_reducible exact slD_list | with_reducible exact slD_tuple | with_reducible exact neD_str | with_reducible exact max2_int))
local macro_rules | `(tactic| walk_at "m1") => `(tactic| (first
  | with_reducible refine iSq ?_ | with_reducible refine iThn ?_ | with_reducible refine iIfS ?_ | with_reducible refine iSet ?_ | with_reducible refine iSetB ?_ | with_reducible refine iSetO ?_ | with_reducible refine iRet ?_ | with_reducible refine iNx ?_ | with_reducible refine iThnR ?_
  | with_reducible refine iTest ?_ | with_reducible refine iOp2 ?_ | ((with_reducible refine' iPk ?h1 ?h2); (case h1 => rfl)) | with_reducible refine iV ?_ | with_reducible refine iC ?_ | ((with_reducible refine' iVar ?h1 ?h2); (case h1 => rfl))
  | with_reducible refine iCall ?_ | with_reducible refine iLs0 ?_ | with_reducible refine iLs ?_ | with_reducible refine iSub ?_ | with_reducible refine iSl ?_ | with_reducible refine iSome ?_ | with_reducible refine iNone ?_ | with_reducible refine iLst ?_ | with_reducible refine iTup ?_ | with_reducible refine iDs0 ?_ | with_reducible refine iDs ?_
  | with_reducible refine iAnd ?_ | with_reducible refine iOr ?_ | with_reducible refine iNot ?_ | with_reducible refine iBl ?_ | with_reducible refine iIf ?_ | with_reducible refine iDrop ?_ | with_reducible refine iYes ?_ | with_reducible refine iPar ?_
  | ((with_reducible refine' iAugS ?h1 ?h2); (case h1 => exact ⟨_, rfl⟩))
  | ((with_reducible refine' iPutE ?h1 ?h2 ?h3); (case h1 => rfl); (case h2 => rfl))
  | ((with_reducible refine' iOp2E ?h1 ?h2 ?h3 ?h4); (case h1 => rfl); (case h2 => rfl); (case h3 => walk_at "hf"))
  | ((with_reducible refine' iCallE ?h1 ?h2 ?h3); (case h1 => rfl); (case h2 => walk_at "hf"))
  | with_reducible refine ⟨sz0, ?_⟩ | with_reducible refine ⟨sz1, ?_⟩ | with_reducible refine ⟨sz2, ?_⟩ | with_reducible refine ⟨sz3, ?_⟩ | with_reducible refine ⟨sz4, ?_⟩ | with_reducible refine ⟨sz5, ?_⟩
  | (with_reducible refine ⟨_, rfl, ?_⟩)
  | ((with_reducible refine' ⟨_, ?h1, ?h2⟩); (case h1 => walk_at "hf"))
  | ((with_reducible refine' ⟨⟨_, ?h1⟩, ?h2⟩); (case h1 => rfl))
  | ((with_reducible refine' ⟨_, _, ?h1, ?h2, ?h3⟩); (case h1 => rfl); (case h2 => walk_at "hf"))
  | ((with_reducible refine' ⟨_, _, ?h1, ?h2, ?h3⟩); (case h1 => rfl); (case h2 => rfl))))
local macro_rules | `(tactic| walk_at "m2") => `(tactic| (first
  | walk_at "m1" | with_reducible refine iFn ?_ | ((with_reducible refine' iBag ?h1 ?h2); (case h1 => rfl)) | with_reducible refine iRng1 ?_ | with_reducible refine iRng2 ?_ | with_reducible refine wIt ?_ | ((with_reducible refine' iMut ?h1 ?h2); (case h1 => rfl)) | with_reducible refine iRel rfl ?_
  | with_reducible refine iRevS ?_ | with_reducible refine iIsi ?_ | with_reducible refine iOp1 ?_ | with_reducible refine iThn ?_))
theorem perm_unmap {α β : Type} {e : α → β} {ys zs : List β} (h : ys.Perm zs) : ∀ as : List α, zs = as.map e → ∃ bs : List α, ys = bs.map e ∧ bs.Perm as := by
  induction h with
  | nil => exact fun as h => ⟨as, h, .refl _⟩
  | cons x _ ih =>
    intro as h
    cases as with
    | nil => cases h
    | cons a as =>
      rw [List.map_cons, List.cons.injEq] at h
      obtain ⟨bs, e1, p⟩ := ih as h.2
      exact ⟨a :: bs, by rw [List.map_cons, e1, h.1], p.cons a⟩
  | swap x y l =>
    intro as h
    match as, h with
    | a :: b :: as, h =>
      rw [List.map_cons, List.map_cons, List.cons.injEq, List.cons.injEq] at h
      exact ⟨b :: a :: as, by rw [List.map_cons, List.map_cons, h.1, h.2.1, h.2.2], .swap a b as⟩
  | trans _ _ ih1 ih2 =>
    intro as h
    obtain ⟨bs, e1, p1⟩ := ih2 as h
    obtain ⟨cs, e2, p2⟩ := ih1 bs e1
    exact ⟨cs, e2, p2.trans p1⟩
/-- a shuffled row -/
theorem mixed_t {α : Type} {t : D} {e : α → D} {as : List α} (ht : t = .list (as.map e) ∨ t = .tuple (as.map e)) (h1 : as.length < 1048576) : bagFn g_mixed [t] fun d => ∃ bs : List α, d = .list (bs.map e) ∧ bs.Perm as :=
  (mixed_fn ht (by rw [List.length_map]; exact h1)).mono fun d ⟨ys, e1, p⟩ => by
    obtain ⟨bs, rfl, q⟩ := perm_unmap p as rfl
    exact ⟨bs, e1, q⟩
theorem one_t {α : Type} {t : D} {e : α → D} {as : List α} (ht : t = .list (as.map e) ∨ t = .tuple (as.map e)) (h0 : 0 < as.length) (h1 : as.length < 1073741824) : bagFn g_one [t] fun d => ∃ a ∈ as, d = e a :=
  (one_fn ht (by rw [List.length_map]; exact h0) (by rw [List.length_map]; exact h1)).mono fun d h => by
    obtain ⟨a, ha, rfl⟩ := List.mem_map.mp h
    exact ⟨a, ha, rfl⟩
theorem one_i (xs : List Int) (h0 : 0 < xs.length) (h1 : xs.length < 1073741824) : bagFn g_one [.list (xs.map PyData.int)] fun d => ∃ v, d = .int v ∧ v ∈ xs :=
  (one_t (.inl rfl) h0 h1).mono fun d ⟨a, ha, e⟩ => ⟨a, e, ha⟩
/-! ### names -/
def NamesOk (many : Int) (d : D) : Prop := ∃ xs, d = lotD xs ∧ xs.Pairwise strLt ∧ (∀ x ∈ xs, x ∈ menuS) ∧ 1 ≤ xs.length ∧ (xs.length : Int) ≤ many
theorem names_end {many : Nat} {bs menu : List Str} (hm : ∀ x ∈ menu, x ∈ menuS) (hn : menu.Nodup) (h1 : 1 ≤ menu.length) (hp : bs.Perm menu) (m1 : 1 ≤ many) : NamesOk many (lotD (ascS (bs.take many))) := by
  have hl := (ascS_perm (bs.take many)).length_eq
  rw [List.length_take, hp.length_eq] at hl
  refine ⟨_, rfl, ascS_strict ((hp.nodup_iff.mpr hn).sublist (List.take_sublist _ _)), fun x hx => hm x (hp.mem_iff.mp (List.mem_of_mem_take ((ascS_perm _).mem_iff.mp hx))), ?_, ?_⟩
  · omega
  · omega
theorem sort_take (bs : List Str) (many : Int) (h0 : 0 ≤ many) : sortedC [.list (cutL (bs.map PyData.str) none (some many))] = some (.list ((ascS (bs.take many.toNat)).map PyData.str)) := by
  obtain ⟨k, rfl⟩ := Int.eq_ofNat_of_zero_le h0
  rw [cut_to, ← List.map_take, sortedC_of (canSort_str _), sort_strs, Int.toNat_natCast]
def menu15 : List Str := [Str.ofString "a", Str.ofString "b", Str.ofString "c", Str.ofString "ab", Str.ofString "rank", Str.ofString "kth", Str.ofString "open", Str.ofString "sort", Str.ofString "rows", Str.ofString "is", Str.ofString "at", Str.ofString "count", Str.ofString "fact", Str.ofString "zzzzzz", Str.ofString "x"]
theorem menu15_sub : ∀ x ∈ menu15, x ∈ menuS := by
  have h : menu15.all (fun x => decide (x ∈ menuS)) = true := by decide +kernel
  exact fun x hx => of_decide_eq_true (List.all_eq_true.mp h x hx)
theorem menu15_nodup : menu15.Nodup := by decide +kernel
def b_names1 : MS :=
  (mSq (mSet 2 (mLst [(mC (.str (Str.ofString "a"))), (mC (.str (Str.ofString "b"))), (mC (.str (Str.ofString "c"))), (mC (.str (Str.ofString "ab"))), (mC (.str (Str.ofString "rank"))), (mC (.str (Str.ofString "kth"))), (mC (.str (Str.ofString "open"))), (mC (.str (Str.ofString "sort"))), (mC (.str (Str.ofString "rows"))), (mC (.str (Str.ofString "is"))), (mC (.str (Str.ofString "at"))), (mC (.str (Str.ofString "count"))), (mC (.str (Str.ofString "fact"))), (mC (.str (Str.ofString "zzzzzz"))), (mC (.str (Str.ofString "x")))]))
  (mRet (mCall tupleC [(mV (mCall sortedC [(mV (mSl slD (mV (mFn [0] g_mixed [(mPk 0), (mPk 2)])) noneP (someP (mVar 1))))]))])))
def g_names1 : FM := runF false 2 1 [0] b_names1
theorem names1_t {many : Int} (h0 : 1 ≤ many) : bagFn g_names1 [.int many] (NamesOk many) := fun bag ok => by
  unfold g_names1
  refine run_gives rfl ?_
  unfold b_names1
  repeat walk_at "m1"
  refine ⟨by decide, ?_⟩
  repeat walk_at "m1"
  refine iBag rfl ?_
  repeat walk_at "m1"
  refine iBagE rfl rfl ok (mixed_t (as := menu15) (e := PyData.str) (.inl rfl) (by decide)) ?_
  rintro d bag2 ⟨bs, rfl, hp⟩ ok2
  repeat walk_at "m1"
  refine iCallE rfl (sort_take bs many (by omega)) ?_
  repeat walk_at "m1"
  have := names_end (many := many.toNat) menu15_sub menu15_nodup (by decide) hp (by omega)
  rw [Int.toNat_of_nonneg (by omega)] at this
  exact ⟨rfl, this, bag2, ok2, rfl⟩
/-! ### a sort -/
structure SOk (s : Srt) : Prop where
  lo : s.lo ≤ 6
  hi : ∀ m, s.hi = some m → s.lo ≤ m ∧ m ≤ 9
theorem sort_t (x : Str) : bagFn g_sort [.str x] fun d => ∃ s : Srt, d = s.d ∧ s.nm = x ∧ SOk s := fun bag ok => by
  unfold g_sort
  refine run_gives rfl ?_
  unfold b_sort
  repeat walk_at "m1"
  refine iBag rfl ?_
  repeat walk_at "m1"
  refine iBagE rfl rfl ok (take_fn (by decide) (by decide)) ?_
  rintro way bag2 ⟨w, rfl, w0, w1⟩ ok2
  repeat walk_at "m1"
  refine iBag rfl ?_
  repeat walk_at "m1"
  refine iBagE rfl rfl ok2 (one_fn (xs := [.int 0, .int 1, .int 2, .int 1, .int 3]) (.inl rfl) (by decide) (by decide)) ?_
  intro few bag3 hf ok3
  obtain ⟨n, rfl, n0, n1⟩ := int_mem (lo := 0) (hi := 3) rfl hf
  obtain ⟨n, rfl⟩ := Int.eq_ofNat_of_zero_le n0
  have some_ok : ∀ {lo m : Nat}, lo ≤ 3 → lo ≤ m → m ≤ 9 → SOk ⟨x, lo, some m⟩ := fun a b c => ⟨Nat.le_trans a (by decide), fun k hk => by cases hk; exact ⟨b, c⟩⟩
  repeat walk_at "m1"
  refine iteD (fun h => ?_) (fun h => ?_)
  · repeat walk_at "m1"
    exact ⟨rfl, ⟨⟨x, 1, some 1⟩, rfl, rfl, some_ok (by decide) (by decide) (by decide)⟩, bag3, ok3, rfl⟩
  repeat walk_at "m1"
  refine iteD (fun h => ?_) (fun h => ?_)
  · repeat walk_at "m1"
    exact ⟨rfl, ⟨⟨x, n, some n⟩, rfl, rfl, some_ok (by omega) (by omega) (by omega)⟩, bag3, ok3, rfl⟩
  repeat walk_at "m1"
  refine iteD (fun h => ?_) (fun h => ?_)
  · repeat walk_at "m1"
    refine iBag rfl ?_
    repeat walk_at "m1"
    refine iBagE rfl rfl ok3 (take_fn (by decide) (by decide)) ?_
    rintro z bag4 ⟨v, rfl, v0, v1⟩ ok4
    obtain ⟨v, rfl⟩ := Int.eq_ofNat_of_zero_le v0
    repeat walk_at "m1"
    exact ⟨rfl, ⟨⟨x, 0, some (1 + v)⟩, rfl, rfl, some_ok (by omega) (by omega) (by omega)⟩, bag4, ok4, rfl⟩
  repeat walk_at "m1"
  refine iteD (fun h => ?_) (fun h => ?_)
  · repeat walk_at "m1"
    refine iBag rfl ?_
    repeat walk_at "m1"
    refine iBagE rfl rfl ok3 (one_fn (xs := [.int 1, .int 2, .int 0, .int 6]) (.inl rfl) (by decide) (by decide)) ?_
    intro z bag4 hz ok4
    obtain ⟨v, rfl, v0, v1⟩ := int_mem (lo := 0) (hi := 6) rfl hz
    obtain ⟨v, rfl⟩ := Int.eq_ofNat_of_zero_le v0
    repeat walk_at "m1"
    exact ⟨rfl, ⟨⟨x, n, some (n + v)⟩, rfl, rfl, some_ok (by omega) (by omega) (by omega)⟩, bag4, ok4, rfl⟩
  repeat walk_at "m1"
  exact ⟨rfl, ⟨⟨x, n, none⟩, rfl, rfl, ⟨by show n ≤ 6; omega, fun m h => by cases h⟩⟩, bag3, ok3, rfl⟩
/-! ### a house -/
def b_houseG (g : FM) : MS :=
  (mRet (mCall tupleC [(mV (mLC [2] (mIt (mFn [0] g [(mPk 0), (mV (mOp2 addD (mV (mC (.int 1))) (mV (mFn [0] g_take [(mPk 0), (mPk 1)]))))])) (setS 2) mYes (mFn [0] g_sort [(mPk 0), (mPk 2)])))]))
def HouseIs (most : Int) (d : D) : Prop := ∃ h : House, d = h.d ∧ HOk h ∧ (h.length : Int) ≤ most
theorem house_of {xs : List Str} {h : House} (z : Zip2 (fun x s => s.nm = x ∧ SOk s) xs h) (asc : xs.Pairwise strLt) (sub : ∀ x ∈ xs, x ∈ menuS) (l1 : 1 ≤ xs.length) (l5 : xs.length ≤ 5) : HOk h := by
  have e : h.nms = xs := by
    have := z.map_eq (f := Srt.nm) (g := id) fun a b q => q.1
    rw [List.map_id] at this
    exact this
  have o : ∀ s ∈ h, SOk s := z.right fun a b q => q.2
  exact ⟨by rw [e]; exact asc, by rw [e]; exact sub, fun s hs => (o s hs).lo, fun s hs => (o s hs).hi, by rw [z.len]; exact l1, by rw [z.len]; exact l5⟩
theorem house_t {g : FM} (hg : ∀ many : Int, 1 ≤ many → bagFn g [.int many] (NamesOk many)) {most : Int} (h0 : 0 < most) (h1 : most ≤ 5) : bagFn (runF false 2 1 [0] (b_houseG g)) [.int most] (HouseIs most) := fun bag ok => by
  refine run_gives rfl ?_
  unfold b_houseG
  refine iRet (iCall (iLs (iV (iLCb (wIt ?_)))))
  refine iBag rfl ?_
  repeat walk_at "m1"
  refine iBag rfl ?_
  repeat walk_at "m1"
  refine iBagE rfl rfl ok (take_fn h0 (by omega)) ?_
  rintro z bag2 ⟨v, rfl, v0, v1⟩ ok2
  repeat walk_at "m1"
  refine iBagE rfl rfl ok2 (hg _ (by omega)) ?_
  rintro z bag3 ⟨xs, rfl, asc, sub, l1, l2⟩ ok3
  refine ⟨_, rfl, 0, Str, xs, PyData.str, (fun x y => ∃ s : Srt, y = s.d ∧ s.nm = x ∧ SOk s), rfl, by rw [sizeLine_eq]; omega, rfl, by decide, ⟨bag3, rfl, ok3⟩, ?_, ?_⟩
  · intro x hx bag4 ok4
    refine ⟨_, rfl, ?_⟩
    refine iBag rfl ?_
    repeat walk_at "m1"
    refine iBagE rfl rfl ok4 (sort_t x) ?_
    intro r bag5 hr ok5
    exact ⟨hr, bag5, ok5, rfl⟩
  · intro ys bag4 z ok4
    obtain ⟨h, rfl, z2⟩ := z.typed (e := Srt.d) (S := fun x s => s.nm = x ∧ SOk s) fun a b q => q
    repeat walk_at "m1"
    refine ⟨rfl, ⟨h, rfl, house_of z2 asc sub l1 (by omega), by rw [z2.len]; omega⟩, bag4, ok4, rfl⟩
end CF
end
section
/-! CT, part 3: firm houses, cells, numbers, tables, lots, formulas drawn. -/
namespace CF
open PySem
local macro_rules | `(tactic| walk_at "hf") => `(tactic| (first
  | with_reducible exact eqD_int | with_reducible exact eqD_str | with_reducible exact neD_int | with_reducible exact addD_int | with_reducible exact addI_int | with_reducible exact subD_int | with_reducible exact geD_int | with_reducible exact gtD_int | with_reducible exact leD_int | with_reducible exact ltD_int | with_reducible exact modD_of (by decide) | with_reducible exact mulD_r (by decide) | with_reducible exact mulD_l (by decide) | with_reducible exact powD_of (by decide) | with_reducible exact ix0 | ((with_reducible show ixD (.list _) (.int _) = _); rfl) | ((with_reducible show ixD (.tuple _) (.int _) = _); rfl)
  | with_reducible exact intC_int | with_reducible exact lenC_list | with_reducible exact lenC_tuple | with_reducible exact tupleC_list | with_reducible exact listC_tuple | with_reducible exact listC_dict | with_reducible exact isN_none | with_reducible exact isN_int | with_reducible exact notN_none | with_reducible exact notN_int | with_reducible exact min2_int | with_reducible exact max2_int | with_reducible exact slD_list | with_reducible exact slD_tuple | with_reducible exact neD_str | with_reducible exact max2_int))
local macro_rules | `(tactic| walk_at "m1") => `(tactic| (first
  | with_reducible refine iSq ?_ | with_reducible refine iThn ?_ | with_reducible refine iIfS ?_ | with_reducible refine iSet ?_ | with_reducible refine iSetB ?_ | with_reducible refine iSetO ?_ | with_reducible refine iRet ?_ | with_reducible refine iNx ?_ | with_reducible refine iThnR ?_
  | with_reducible refine iTest ?_ | with_reducible refine iOp2 ?_ | ((with_reducible refine' iPk ?h1 ?h2); (case h1 => rfl)) | with_reducible refine iV ?_ | with_reducible refine iC ?_ | ((with_reducible refine' iVar ?h1 ?h2); (case h1 => rfl))
  | with_reducible refine iCall ?_ | with_reducible refine iLs0 ?_ | with_reducible refine iLs ?_ | with_reducible refine iSub ?_ | with_reducible refine iSl ?_ | with_reducible refine iSome ?_ | with_reducible refine iNone ?_ | with_reducible refine iLst ?_ | with_reducible refine iTup ?_ | with_reducible refine iDs0 ?_ | with_reducible refine iDs ?_
  | with_reducible refine iAnd ?_ | with_reducible refine iOr ?_ | with_reducible refine iNot ?_ | with_reducible refine iBl ?_ | with_reducible refine iIf ?_ | with_reducible refine iDrop ?_ | with_reducible refine iYes ?_ | with_reducible refine iPar ?_
  | ((with_reducible refine' iAugS ?h1 ?h2); (case h1 => exact ⟨_, rfl⟩))
  | ((with_reducible refine' iPutE ?h1 ?h2 ?h3); (case h1 => rfl); (case h2 => rfl))
  | ((with_reducible refine' iOp2E ?h1 ?h2 ?h3 ?h4); (case h1 => rfl); (case h2 => rfl); (case h3 => walk_at "hf"))
  | ((with_reducible refine' iCallE ?h1 ?h2 ?h3); (case h1 => rfl); (case h2 => walk_at "hf"))
  | with_reducible refine ⟨sz0, ?_⟩ | with_reducible refine ⟨sz1, ?_⟩ | with_reducible refine ⟨sz2, ?_⟩ | with_reducible refine ⟨sz3, ?_⟩ | with_reducible refine ⟨sz4, ?_⟩ | with_reducible refine ⟨sz5, ?_⟩
  | (with_reducible refine ⟨_, rfl, ?_⟩)
  | ((with_reducible refine' ⟨_, ?h1, ?h2⟩); (case h1 => walk_at "hf"))
  | ((with_reducible refine' ⟨⟨_, ?h1⟩, ?h2⟩); (case h1 => rfl))
  | ((with_reducible refine' ⟨_, _, ?h1, ?h2, ?h3⟩); (case h1 => rfl); (case h2 => walk_at "hf"))
  | ((with_reducible refine' ⟨_, _, ?h1, ?h2, ?h3⟩); (case h1 => rfl); (case h2 => rfl))))
local macro_rules | `(tactic| walk_at "m2") => `(tactic| (first
  | walk_at "m1" | with_reducible refine iFn ?_ | ((with_reducible refine' iBag ?h1 ?h2); (case h1 => rfl)) | with_reducible refine iRng1 ?_ | with_reducible refine iRng2 ?_ | with_reducible refine wIt ?_ | ((with_reducible refine' iMut ?h1 ?h2); (case h1 => rfl)) | with_reducible refine iRel rfl ?_
  | with_reducible refine iRevS ?_ | with_reducible refine iIsi ?_ | with_reducible refine iOp1 ?_ | with_reducible refine iThn ?_))
theorem zip2_map {α β : Type} {f : α → β} {R : α → β → Prop} (h : ∀ a, R a (f a)) : ∀ {as : List α}, Zip2 R as (as.map f)
  | [] => .nil
  | a :: _ => .cons (h a) (zip2_map h)
def b_cellG (g : FM) : MS :=
  (mRet (mCall tupleC [(mV (mLC [2] (mIt (mFn [0] g [(mPk 0), (mV (mOp2 addD (mV (mC (.int 1))) (mV (mFn [0] g_take [(mPk 0), (mPk 1)]))))])) (setS 2) mYes (mTup [(mVar 2), (mC (.int 1)), (mC (.int 1))])))]))
theorem cell_t {g : FM} (hg : ∀ many : Int, 1 ≤ many → bagFn g [.int many] (NamesOk many)) {most : Int} (h0 : 0 < most) (h1 : most ≤ 5) : bagFn (runF false 2 1 [0] (b_cellG g)) [.int most] fun d => HouseIs most d ∧ ∃ h : House, d = h.d ∧ ∀ s ∈ h, s.lo = 1 ∧ s.hi = some 1 := fun bag ok => by
  refine run_gives rfl ?_
  unfold b_cellG
  refine iRet (iCall (iLs (iV (iLCm (wIt ?_)))))
  refine iBag rfl ?_
  repeat walk_at "m1"
  refine iBag rfl ?_
  repeat walk_at "m1"
  refine iBagE rfl rfl ok (take_fn h0 (by omega)) ?_
  rintro z bag2 ⟨v, rfl, v0, v1⟩ ok2
  repeat walk_at "m1"
  refine iBagE rfl rfl ok2 (hg _ (by omega)) ?_
  rintro z bag3 ⟨xs, rfl, asc, sub, l1, l2⟩ ok3
  refine ⟨_, rfl, Str, xs, PyData.str, fun x => (Srt.mk x 1 (some 1)).d, rfl, by rw [sizeLine_eq]; omega, rfl, ?_, ?_⟩
  · intro x hx
    refine ⟨_, rfl, ?_⟩
    repeat walk_at "m1"
    exact ⟨rfl, rfl⟩
  · repeat walk_at "m1"
    have z : Zip2 (fun x s => s.nm = x ∧ SOk s) xs (xs.map fun x => Srt.mk x 1 (some 1)) := by
      refine zip2_map fun x => ⟨rfl, ⟨by show 1 ≤ 6; decide, fun m h => by cases h; exact ⟨Nat.le_refl 1, by decide⟩⟩⟩
    have e : PyData.tuple (xs.map fun x => (Srt.mk x 1 (some 1)).d) = House.d (xs.map fun x => Srt.mk x 1 (some 1)) := by unfold House.d; rw [List.map_map]; rfl
    refine ⟨rfl, ⟨⟨_, e, house_of z asc sub l1 (by omega), by rw [List.length_map]; omega⟩, _, e, ?_⟩, bag3, ok3, rfl⟩
    intro s hs
    obtain ⟨x, _, rfl⟩ := List.mem_map.mp hs
    exact ⟨rfl, rfl⟩
def b_firmG (g : FM) : MS :=
  (mSq (mSet 3 (mFn [0] g [(mPk 0), (mV (mOp2 addD (mV (mC (.int 1))) (mV (mFn [0] g_take [(mPk 0), (mPk 1)]))))]))
  (mSq (mSet 4 (mLC [5] (mIt (mVar 3)) (setS 5) mYes (mFn [0] g_one [(mPk 0), (mV (mLst [(mC (.int 1)), (mC (.int 1)), (mVar 2), (mFn [0] g_take [(mPk 0), (mV (mOp2 addD (mPk 2) (mV (mC (.int 1)))))])]))])))
  (mRet (mCall tupleC [(mV (mLC [5, 6] (mZp (mVar 3) (mVar 4)) (bTup [5, 6]) mYes (mTup [(mVar 5), (mVar 6), (mVar 6)])))]))))
theorem firm_t {g : FM} (hg : ∀ many : Int, 1 ≤ many → bagFn g [.int many] (NamesOk many)) {most rows : Int} (h0 : 0 < most) (h1 : most ≤ 5) (r0 : 0 ≤ rows) (r3 : rows ≤ 3) : bagFn (runF false 3 4 [0] (b_firmG g)) [.int most, .int rows] fun d => HouseIs most d ∧ ∃ h : House, d = h.d ∧ ∀ s ∈ h, s.hi = some s.lo := fun bag ok => by
  refine run_gives rfl ?_
  unfold b_firmG
  refine iSq (iSet (iBag rfl ?_))
  repeat walk_at "m1"
  refine iBag rfl ?_
  repeat walk_at "m1"
  refine iBagE rfl rfl ok (take_fn h0 (by omega)) ?_
  rintro z bag2 ⟨v, rfl, v0, v1⟩ ok2
  repeat walk_at "m1"
  refine iBagE rfl rfl ok2 (hg _ (by omega)) ?_
  rintro z bag3 ⟨xs, rfl, asc, sub, l1, l2⟩ ok3
  refine iThn (iSq (iSet (iLCb (wIt (iVar rfl ?_)))))
  refine ⟨_, rfl, 0, Str, xs, PyData.str, (fun _ y => ∃ n : Nat, y = .int n ∧ n ≤ 3), rfl, by rw [sizeLine_eq]; omega, rfl, by decide, ⟨bag3, rfl, ok3⟩, ?_, ?_⟩
  · intro x hx bag4 ok4
    refine ⟨_, rfl, ?_⟩
    refine iBag rfl ?_
    repeat walk_at "m1"
    refine iBag rfl ?_
    repeat walk_at "m1"
    refine iBagE rfl rfl ok4 (take_fn (by omega) (by omega)) ?_
    rintro z bag5 ⟨v, rfl, v0, v1⟩ ok5
    repeat walk_at "m1"
    refine iBagE rfl rfl ok5 (one_i [1, 1, rows, v] (by show 0 < 4; decide) (by show 4 < 1073741824; decide)) ?_
    rintro r bag6 ⟨w, rfl, hw⟩ ok6
    have w2 : 0 ≤ w ∧ w ≤ 3 := by
      simp only [List.mem_cons, List.not_mem_nil, or_false] at hw
      omega
    obtain ⟨w, rfl⟩ := Int.eq_ofNat_of_zero_le w2.1
    exact ⟨⟨w, rfl, by omega⟩, bag6, ok6, rfl⟩
  intro ys bag4 z ok4
  obtain ⟨ns, rfl, z2⟩ := z.typed (e := fun n : Nat => PyData.int n) (S := fun _ n => n ≤ 3) fun a b q => q
  refine iThn (iRet (iCall (iLs (iV (iLCm (iZpL (iVar rfl (iVar rfl ?_))))))))
  refine ⟨_, _, _, _, rfl, rfl, Str × Nat, xs.zip ns, (fun p => .tuple [.str p.1, .int p.2]), (fun p => (Srt.mk p.1 p.2 (some p.2)).d), zipD_map _ _ xs ns, ?_, rfl, ?_, ?_⟩
  · rw [List.length_zip, sizeLine_eq]; omega
  · intro p hp
    refine ⟨_, rfl, ?_⟩
    repeat walk_at "m1"
    exact ⟨rfl, rfl⟩
  · repeat walk_at "m1"
    have z3 : Zip2 (fun x s => s.nm = x ∧ SOk s) xs ((xs.zip ns).map fun p => Srt.mk p.1 p.2 (some p.2)) := by
      have go : ∀ {xs : List Str} {ns : List Nat}, Zip2 (fun _ n => n ≤ 3) xs ns → Zip2 (fun x s => s.nm = x ∧ SOk s) xs ((xs.zip ns).map fun p => Srt.mk p.1 p.2 (some p.2)) := by
        intro xs ns h
        induction h with
        | nil => exact .nil
        | @cons a b _ _ h t ih =>
          rw [List.zip_cons_cons, List.map_cons]
          exact .cons ⟨rfl, ⟨by show b ≤ 6; omega, fun m e => by cases e; exact ⟨Nat.le_refl _, by show b ≤ 9; omega⟩⟩⟩ ih
      exact go z2
    have e : PyData.tuple ((xs.zip ns).map fun p => (Srt.mk p.1 p.2 (some p.2)).d) = House.d ((xs.zip ns).map fun p => Srt.mk p.1 p.2 (some p.2)) := by unfold House.d; rw [List.map_map]; rfl
    refine ⟨rfl, ⟨⟨_, e, house_of z3 asc sub l1 (by omega), by rw [z3.len]; omega⟩, _, e, ?_⟩, bag4, ok4, rfl⟩
    intro s hs
    obtain ⟨x, _, rfl⟩ := List.mem_map.mp hs
    rfl
/-! ### a house of one of the kinds -/
def b_onehG (gh gf gc : FM) : MS :=
  (mSq (mSet 1 (mFn [0] g_take [(mPk 0), (mV (mC (.int 6)))]))
  (mSq (mIfS (mTest (mOp2 ltD (mPk 1) (mV (mC (.int 4)))))
    (mRet (mFn [0] gh [(mPk 0), (mV (mFn [0] g_one [(mPk 0), (mV (mLst [(mC (.int 4)), (mC (.int 3)), (mC (.int 5))]))]))]))
    mNx)
  (mRet (mIf (mTest (mOp2 eqD (mPk 1) (mV (mC (.int 4))))) (mFn [0] gf [(mPk 0), (mV (mC (.int 3))), (mV (mC (.int 3)))]) (mFn [0] gc [(mPk 0), (mV (mC (.int 4)))])))))
theorem oneh_t {gh gf gc : FM} (hh : ∀ most : Int, 0 < most → most ≤ 5 → bagFn gh [.int most] (HouseIs most)) (hf : bagFn gf [.int 3, .int 3] fun d => HouseIs 3 d) (hc : bagFn gc [.int 4] fun d => HouseIs 4 d) :
    bagFn (runF false 1 1 [0] (b_onehG gh gf gc)) [] fun d => HouseIs 5 d := fun bag ok => by
  refine run_gives rfl ?_
  unfold b_onehG
  have up : ∀ {m : Int} {d : D}, m ≤ 5 → HouseIs m d → HouseIs 5 d := fun h ⟨a, b, c, e⟩ => ⟨a, b, c, by omega⟩
  refine iSq (iSet (iBag rfl ?_))
  repeat walk_at "m1"
  refine iBagE rfl rfl ok (take_fn (by decide) (by decide)) ?_
  rintro z bag2 ⟨v, rfl, v0, v1⟩ ok2
  repeat walk_at "m1"
  refine iteD (fun h => ?_) (fun h => ?_)
  · refine iRet (iBag rfl ?_)
    repeat walk_at "m1"
    refine iBag rfl ?_
    repeat walk_at "m1"
    refine iBagE rfl rfl ok2 (one_i [4, 3, 5] (by decide) (by decide)) ?_
    rintro r bag3 ⟨w, rfl, hw⟩ ok3
    have w2 : 3 ≤ w ∧ w ≤ 5 := by
      simp only [List.mem_cons, List.not_mem_nil, or_false] at hw
      omega
    repeat walk_at "m1"
    refine iBagE rfl rfl ok3 (hh w (by omega) (by omega)) ?_
    intro d bag4 hd ok4
    exact ⟨d, rfl, rfl, up w2.2 hd, bag4, ok4, rfl⟩
  repeat walk_at "m1"
  refine iteD (fun h => ?_) (fun h => ?_)
  · refine iBag rfl ?_
    repeat walk_at "m1"
    refine iBagE rfl rfl ok2 hf ?_
    intro d bag4 hd ok4
    exact ⟨d, rfl, rfl, up (by decide) hd, bag4, ok4, rfl⟩
  · refine iBag rfl ?_
    repeat walk_at "m1"
    refine iBagE rfl rfl ok2 hc ?_
    intro d bag4 hd ok4
    exact ⟨d, rfl, rfl, up (by decide) hd, bag4, ok4, rfl⟩
end CF
end
section
/-! CT, part 4: numbers, tables, lots, formulas drawn. -/
namespace CF
open PySem
local macro_rules | `(tactic| walk_at "hf") => `(tactic| (first
  | with_reducible exact eqD_int | with_reducible exact eqD_str | with_reducible exact neD_int | with_reducible exact addD_int | with_reducible exact addI_int | with_reducible exact subD_int | with_reducible exact geD_int | with_reducible exact gtD_int | with_reducible exact leD_int | with_reducible exact ltD_int | with_reducible exact modD_of (by decide) | with_reducible exact mulD_r (by decide) | with_reducible exact mulD_l (by decide) | with_reducible exact powD_of (by decide) | with_reducible exact ix0 | ((with_reducible show ixD (.list _) (.int _) = _); rfl) | ((with_reducible show ixD (.tuple _) (.int _) = _); rfl)
  | with_reducible exact intC_int | with_reducible exact lenC_list | with_reducible exact lenC_tuple | with_reducible exact tupleC_list | with_reducible exact listC_tuple | with_reducible exact listC_dict | with_reducible exact isN_none | with_reducible exact isN_int | with_reducible exact notN_none | with_reducible exact notN_int | with_reducible exact min2_int | with_reducible exact max2_int | with_reducible exact slD_list | with_reducible exact slD_tuple | with_reducible exact neD_str | with_reducible exact max2_int))
local macro_rules | `(tactic| walk_at "m1") => `(tactic| (first
  | with_reducible refine iSq ?_ | with_reducible refine iThn ?_ | with_reducible refine iIfS ?_ | with_reducible refine iSet ?_ | with_reducible refine iSetB ?_ | with_reducible refine iSetO ?_ | with_reducible refine iRet ?_ | with_reducible refine iNx ?_ | with_reducible refine iThnR ?_
  | with_reducible refine iTest ?_ | with_reducible refine iOp2 ?_ | ((with_reducible refine' iPk ?h1 ?h2); (case h1 => rfl)) | with_reducible refine iV ?_ | with_reducible refine iC ?_ | ((with_reducible refine' iVar ?h1 ?h2); (case h1 => rfl))
  | with_reducible refine iCall ?_ | with_reducible refine iLs0 ?_ | with_reducible refine iLs ?_ | with_reducible refine iSub ?_ | with_reducible refine iSl ?_ | with_reducible refine iSome ?_ | with_reducible refine iNone ?_ | with_reducible refine iLst ?_ | with_reducible refine iTup ?_ | with_reducible refine iDs0 ?_ | with_reducible refine iDs ?_
  | with_reducible refine iAnd ?_ | with_reducible refine iOr ?_ | with_reducible refine iNot ?_ | with_reducible refine iBl ?_ | with_reducible refine iIf ?_ | with_reducible refine iDrop ?_ | with_reducible refine iYes ?_ | with_reducible refine iPar ?_
  | ((with_reducible refine' iAugS ?h1 ?h2); (case h1 => exact ⟨_, rfl⟩))
  | ((with_reducible refine' iPutE ?h1 ?h2 ?h3); (case h1 => rfl); (case h2 => rfl))
  | ((with_reducible refine' iOp2E ?h1 ?h2 ?h3 ?h4); (case h1 => rfl); (case h2 => rfl); (case h3 => walk_at "hf"))
  | ((with_reducible refine' iCallE ?h1 ?h2 ?h3); (case h1 => rfl); (case h2 => walk_at "hf"))
  | with_reducible refine ⟨sz0, ?_⟩ | with_reducible refine ⟨sz1, ?_⟩ | with_reducible refine ⟨sz2, ?_⟩ | with_reducible refine ⟨sz3, ?_⟩ | with_reducible refine ⟨sz4, ?_⟩ | with_reducible refine ⟨sz5, ?_⟩
  | (with_reducible refine ⟨_, rfl, ?_⟩)
  | ((with_reducible refine' ⟨_, ?h1, ?h2⟩); (case h1 => walk_at "hf"))
  | ((with_reducible refine' ⟨⟨_, ?h1⟩, ?h2⟩); (case h1 => rfl))
  | ((with_reducible refine' ⟨_, _, ?h1, ?h2, ?h3⟩); (case h1 => rfl); (case h2 => walk_at "hf"))
  | ((with_reducible refine' ⟨_, _, ?h1, ?h2, ?h3⟩); (case h1 => rfl); (case h2 => rfl))))
local macro_rules | `(tactic| walk_at "m2") => `(tactic| (first
  | walk_at "m1" | with_reducible refine iFn ?_ | ((with_reducible refine' iBag ?h1 ?h2); (case h1 => rfl)) | with_reducible refine iRng1 ?_ | with_reducible refine iRng2 ?_ | with_reducible refine wIt ?_ | ((with_reducible refine' iMut ?h1 ?h2); (case h1 => rfl)) | with_reducible refine iRel rfl ?_
  | with_reducible refine iRevS ?_ | with_reducible refine iIsi ?_ | with_reducible refine iOp1 ?_ | with_reducible refine iThn ?_))
def PoolOk (ns : List Int) : Prop := 1 ≤ ns.length ∧ ns.length ≤ 7 ∧ (∀ n ∈ ns, n.natAbs ≤ 10 ^ 30) ∧ ns.Pairwise (· < ·)
theorem numbers_t : bagFn g_numbers [] fun d => ∃ ns, d = listD ns ∧ PoolOk ns := fun bag ok => by
  unfold g_numbers
  refine run_gives rfl ?_
  unfold b_numbers
  repeat walk_at "m1"
  refine iBag rfl ?_
  repeat walk_at "m1"
  refine iOp1 ?_
  repeat walk_at "m1"
  refine iBagE rfl rfl ok (one_i [0, -2, 5, 0, 1 - 10 ^ 30] (by decide) (by decide)) ?_
  rintro low bag2 ⟨lo, rfl, hlow⟩ ok2
  have lo01 : 1 - 10 ^ 30 ≤ lo ∧ lo ≤ 5 := by
    simp only [List.mem_cons, List.not_mem_nil, or_false] at hlow
    omega
  repeat walk_at "m1"
  refine iBag rfl ?_
  repeat walk_at "m1"
  refine iBagE rfl rfl ok2 (one_i [1, 2, 1, 3, 10 ^ 29] (by decide) (by decide)) ?_
  rintro step bag3 ⟨st, rfl, hstep⟩ ok3
  have st01 : 1 ≤ st ∧ st ≤ 10 ^ 29 := by
    simp only [List.mem_cons, List.not_mem_nil, or_false] at hstep
    omega
  repeat walk_at "m1"
  refine iLCm (iRng1 ?_)
  repeat walk_at "m1"
  refine iBag rfl ?_
  repeat walk_at "m1"
  refine iBagE rfl rfl ok3 (take_fn (by decide) (by decide)) ?_
  rintro z bag4 ⟨v, rfl, v0, v1⟩ ok4
  repeat walk_at "m1"
  have hv : (1 + v).toNat ≤ 7 := by omega
  refine ⟨okR_of (by omega) (by omega), Nat, List.range (1 + v).toNat, (fun i => .int (0 + (i : Nat))), (fun i => .int (lo + st * (0 + (i : Nat)))), rangeD_map _ _, by rw [List.length_range, sizeLine_eq]; omega, rfl, ?_, ?_⟩
  · intro j hj
    have hj := List.mem_range.mp hj
    refine ⟨_, rfl, ?_⟩
    repeat walk_at "m1"
    refine iOp2E rfl rfl (mulD_r (small_of (by omega) (by omega))) ?_
    repeat walk_at "m1"
    exact ⟨rfl, rfl⟩
  · have e : PyData.list ((List.range (1 + v).toNat).map fun i => PyData.int (lo + st * (0 + (i : Nat)))) = listD ((List.range (1 + v).toNat).map fun i : Nat => lo + st * (0 + (i : Int))) := by
      unfold listD
      rw [List.map_map]
      rfl
    refine ⟨_, rfl, rfl, ⟨_, e, ?_, ?_, ?_, ?_⟩, bag4, ok4, rfl⟩
    · rw [List.length_map, List.length_range]; omega
    · rw [List.length_map, List.length_range]; omega
    · intro n hn
      obtain ⟨i, hi, rfl⟩ := List.mem_map.mp hn
      have hi := List.mem_range.mp hi
      have b1 : st * (0 + (i : Int)) ≤ 10 ^ 29 * 6 := Int.mul_le_mul st01.2 (by omega) (by omega) (by decide)
      have b0 : 0 ≤ st * (0 + (i : Int)) := Int.mul_nonneg (by omega) (by omega)
      generalize st * (0 + (i : Int)) = q at b0 b1
      omega
    · rw [List.pairwise_map]
      refine (List.pairwise_lt_range (n := (1 + v).toNat)).imp fun {a b} h => ?_
      have : st * (0 + (a : Int)) < st * (0 + (b : Int)) := Int.mul_lt_mul_of_pos_left (by omega) (by omega)
      omega
/-! ### sizes -/
theorem size_t {s : Srt} {more : Int} (hs : SOk s) (m0 : 0 ≤ more) (m1 : more ≤ 3) : bagFn g_size [s.d, .int more] fun d => ∃ v : Nat, d = .int v ∧ s.lo ≤ v ∧ (∀ m, s.hi = some m → v ≤ m) ∧ v ≤ 9 ∧ (v : Int) ≤ s.lo + more := fun bag ok => by
  obtain ⟨nm, lo, hi⟩ := s
  have h3 : lo ≤ 6 := hs.lo
  unfold g_size
  refine run_gives rfl ?_
  unfold b_size
  refine iSqM (fun ρ => ∃ top : Int, lo ≤ top ∧ top ≤ lo + more ∧ (∀ m : Nat, hi = some m → top ≤ m) ∧ ρ = [.own bag, .dat (Srt.mk nm lo hi).d, .dat (.int more), .dat (.int top)]) ?_ ?_
  · cases hi with
    | none =>
      show wp _ [.own bag, .dat (.tuple [.str nm, .int lo, .none]), .dat (.int more), .un] _
      repeat walk_at "m1"
      refine iteT ?_
      repeat walk_at "m1"
      exact ⟨rfl, _, (by omega : (lo : Int) ≤ lo + more), by omega, (fun m h => by cases h), rfl⟩
    | some h =>
      have hh : lo ≤ h := (hs.hi h rfl).1
      show wp _ [.own bag, .dat (.tuple [.str nm, .int lo, .int h]), .dat (.int more), .un] _
      repeat walk_at "m1"
      refine iteF ?_
      repeat walk_at "m1"
      refine ⟨rfl, _, ?_, ?_, fun m e => ?_, rfl⟩
      · show (lo : Int) ≤ if lo + more < h then lo + more else h
        split <;> omega
      · show (if lo + more < h then lo + more else (h : Int)) ≤ lo + more
        split <;> omega
      · cases e
        show (if lo + more < h then lo + more else (h : Int)) ≤ h
        split <;> omega
  · rintro ρ ⟨top, t0, t1, t2, rfl⟩
    show wp _ [.own bag, .dat (.tuple [.str nm, .int lo, hiD hi]), .dat (.int more), .dat (.int top)] _
    repeat walk_at "m1"
    refine iBag rfl ?_
    repeat walk_at "m1"
    refine iBagE rfl rfl ok (take_fn (by omega) (by omega)) ?_
    rintro z bag4 ⟨v, rfl, v0, v1⟩ ok4
    repeat walk_at "m1"
    refine ⟨rfl, ⟨(lo + v).toNat, ?_, by show lo ≤ _; omega, fun m e => ?_, by omega, by show _ ≤ (lo : Int) + more; omega⟩, bag4, ok4, rfl⟩
    · rw [Int.toNat_of_nonneg (by omega)]
    · have := t2 m e
      omega
/-! ### tables -/
theorem menu_strD {x : Str} (h : x ∈ menuS) : PyData.str x ∈ menuD := by
  have e : menuD = menuS.map PyData.str := rfl
  rw [e]; exact List.mem_map_of_mem h
theorem any_keys (t : Tbl) (x : Str) : ((t.map entD).any fun p => keyEq p.1 (.str x)) = decide (x ∈ t.map (·.1)) := by
  induction t with
  | nil => rfl
  | cons p t ih =>
    rw [List.map_cons, List.any_cons, ih, List.map_cons]
    show (keyEq (.str p.1) (.str x) || _) = _
    rw [keyEq_str, Bool.eq_iff_iff]
    simp only [Bool.or_eq_true, decide_eq_true_eq, List.mem_cons]
    exact ⟨fun q => q.imp Eq.symm id, fun q => q.imp Eq.symm id⟩
theorem putL_new {t : Tbl} {x : Str} {ns : List Int} (h : x ∉ t.map (·.1)) : putL (t.map entD) (.str x) (rowD ns) = (t ++ [(x, ns)]).map entD := by
  unfold putL
  rw [any_keys, decide_eq_false h]
  simp [entD]
theorem ascI_pool {ns pool : List Int} (h : ∀ n ∈ ns, n ∈ pool) : ∀ n ∈ ascI ns, n ∈ pool := fun n hn => h n ((asc_perm ns).mem_iff.mp hn)
theorem sort_ints (ns : List Int) : sortedC [.list (ns.map PyData.int)] = some (.list ((ascI ns).map PyData.int)) := by rw [sortedC_of (canSort_ints int_I), sort_asc]
theorem table_t {h : House} {pool : List Int} {more : Int} (oh : HOk h) (hp : 1 ≤ pool.length) (hp2 : pool.length ≤ 1000) (m0 : 0 ≤ more) (m1 : more ≤ 3) : bagFn g_table [h.d, listD pool, .int more] fun d => ∃ t : Tbl, d = t.d ∧ TOk h pool t ∧ ∀ s ∈ h, ((t.row s.nm).length : Int) ≤ s.lo + more := fun bag ok => by
  have l5 := oh.l5
  unfold g_table
  refine run_gives rfl ?_
  unfold b_table
  refine iSq (iSetO (iC ?_))
  refine iThn (iSq (iForT (wIt (iBag rfl ?_))))
  repeat walk_at "m1"
  refine iBagE rfl rfl ok (mixed_t (as := h) (e := Srt.d) (.inr rfl) (by omega)) ?_
  rintro d bag2 ⟨ys, rfl, hperm⟩ ok2
  have hyn : (ys.map Srt.nm).Nodup := (hperm.map Srt.nm).nodup_iff.mpr oh.nodup
  refine ⟨_, rfl, Srt, ys, Srt.d, fun rest ρ => ∃ (done : List Srt) (t : Tbl) (bag : D) (s5 s6 : Slot), ys = done ++ rest ∧ t.map (·.1) = done.map Srt.nm ∧ (∀ p ∈ t, p.2.Pairwise (· ≤ ·)) ∧ (∀ p ∈ t, ∀ n ∈ p.2, n ∈ pool) ∧ (∀ p ∈ t, p.2.length ≤ 9) ∧
      (∀ s ∈ done, ∀ ns, (s.nm, ns) ∈ t → s.lo ≤ ns.length ∧ (∀ m, s.hi = some m → ns.length ≤ m) ∧ (ns.length : Int) ≤ s.lo + more) ∧ BagOk bag ∧ isOwn s6 = false ∧ ρ = [.own bag, .dat h.d, .dat (listD pool), .dat (.int more), .own t.d, s5, s6],
    rfl, ⟨[], [], bag2, .un, .un, rfl, rfl, (fun _ h => nomatch h), (fun _ h => nomatch h), (fun _ h => nomatch h), (fun _ h => nomatch h), ok2, rfl, rfl⟩, ?_, ?_⟩
  · rintro ρ ⟨done, t, bag3, s5, s6, e, t1, t2, t3, t4, t5, ok3, n6, rfl⟩
    rw [List.append_nil] at e
    subst e
    refine iThn (iSq (iRel rfl ?_))
    repeat walk_at "m1"
    have oT : TOk h pool t ∧ ∀ s ∈ h, ((t.row s.nm).length : Int) ≤ s.lo + more := by
      have nms : (t.map (·.1)).Perm h.nms := by rw [t1]; exact hperm.map Srt.nm
      have row : ∀ s ∈ h, (s.nm, t.row s.nm) ∈ t := fun s hs => by
        obtain ⟨ns, e, m⟩ := look_some (t := t) (x := s.nm) (nms.mem_iff.mpr (List.mem_map_of_mem hs))
        have er : t.row s.nm = ns := by unfold Tbl.row; rw [e]; rfl
        rw [er]; exact m
      have q := fun s (hs : s ∈ h) => t5 s (hperm.mem_iff.mpr hs) _ (row s hs)
      exact ⟨⟨nms, t2, fun s hs => ⟨(q s hs).1, (q s hs).2.1⟩, t4, t3⟩, fun s hs => (q s hs).2.2⟩
    exact ⟨rfl, ⟨t, rfl, oT.1, oT.2⟩, bag3, ok3, rfl⟩
  · rintro s rest ρ hsy ⟨done, t, bag3, s5, s6, e, t1, t2, t3, t4, t5, ok3, n6, rfl⟩
    have hs : s ∈ h := hperm.mem_iff.mp hsy
    have so : SOk s := ⟨oh.lo s hs, oh.hi s hs⟩
    have hdl : done.length ≤ 5 := by
      have a := congrArg List.length e
      have b := hperm.length_eq
      rw [List.length_append] at a
      omega
    have tl : t.length = done.length := by
      have := congrArg List.length t1
      rwa [List.length_map, List.length_map] at this
    have hnew : s.nm ∉ t.map (·.1) := by
      rw [t1]
      intro hm
      rw [e, List.map_append, List.nodup_append] at hyn
      exact hyn.2.2 _ hm _ (List.mem_map_of_mem (List.mem_cons_self ..)) rfl
    refine ⟨_, rfl, ?_⟩
    refine iSub (iCall (iLs (iV (iCall (iLs (iV (iLCb (iRng1 (iV (iBag rfl ?_)))))))))) 
    repeat walk_at "m1"
    refine iBagE rfl rfl ok3 (size_t so m0 m1) ?_
    rintro z bag4 ⟨v, rfl, v0, v1, v9, v2⟩ ok4
    refine ⟨v, rfl, okR_of (by omega) (by omega), 0, Nat, List.range v, (fun i => .int (0 + (i : Nat))), (fun _ y => ∃ n : Int, y = .int n ∧ n ∈ pool), rangeD_map _ _, by rw [List.length_range, sizeLine_eq]; omega, (by show (!isOwn s6 && true) = true; rw [n6]; rfl), by decide, ⟨bag4, rfl, ok4⟩, ?_, ?_⟩
    · intro j hj bag5 ok5
      refine ⟨_, rfl, ?_⟩
      refine iBag rfl ?_
      repeat walk_at "m1"
      refine iBagE rfl rfl ok5 (one_i pool (by omega) (by omega)) ?_
      rintro r bag6 ⟨n, rfl, hn⟩ ok6
      exact ⟨⟨n, rfl, hn⟩, bag6, ok6, rfl⟩
    · intro zs bag5 z ok5
      obtain ⟨ns, rfl, z2⟩ := z.typed (e := PyData.int) (S := fun _ n => n ∈ pool) fun a b q => q
      have nl : ns.length = v := by rw [z2.len, List.length_range]
      have np := z2.right (p := fun n => n ∈ pool) fun _ n q => q
      repeat walk_at "m1"
      refine iCallE rfl (sort_ints ns) ?_
      repeat walk_at "m1"
      refine iOp2E rfl rfl (show ixD s.d (.int 0) = some (.str s.nm) from rfl) ?_
      have al : (ascI ns).length = v := by rw [(asc_perm ns).length_eq, nl]
      refine iPutE rfl (put_some (menu_strD (oh.nm _ (List.mem_map_of_mem hs))) (by rw [List.length_map]; omega)) ?_
      have eput : putL (t.map entD) (.str s.nm) (.tuple ((ascI ns).map PyData.int)) = (t ++ [(s.nm, ascI ns)]).map entD := putL_new hnew
      rw [eput]
      refine ⟨done ++ [s], t ++ [(s.nm, ascI ns)], bag5, _, s6, by rw [e, List.append_assoc]; rfl, by rw [List.map_append, List.map_append, t1]; rfl, ?_, ?_, ?_, ?_, ok5, n6, rfl⟩
      · intro p hp
        rcases List.mem_append.mp hp with q | q
        · exact t2 p q
        · rw [List.mem_singleton.mp q]; exact asc_pw ns
      · intro p hp
        rcases List.mem_append.mp hp with q | q
        · exact t3 p q
        · rw [List.mem_singleton.mp q]; exact ascI_pool np
      · intro p hp
        rcases List.mem_append.mp hp with q | q
        · exact t4 p q
        · rw [List.mem_singleton.mp q]; show (ascI ns).length ≤ 9; omega
      · intro s' hs' ms hm
        rcases List.mem_append.mp hm with q | q
        · rcases List.mem_append.mp hs' with q' | q'
          · exact t5 s' q' ms q
          · rw [List.mem_singleton.mp q'] at q
            exact absurd (List.mem_map_of_mem (f := (·.1)) q) hnew
        · have q := List.mem_singleton.mp q
          have e1 : ms = ascI ns := (Prod.mk.inj q).2
          have e2 : s'.nm = s.nm := (Prod.mk.inj q).1
          have e3 : s' = s := by
            rcases List.mem_append.mp hs' with q' | q'
            · exfalso
              apply hnew
              rw [t1, ← e2]
              exact List.mem_map_of_mem q'
            · exact List.mem_singleton.mp q'
          subst e3
          rw [e1, al]
          exact ⟨v0, v1, v2⟩
end CF
end
section
/-! CT, part 5: lots, ranks, formulas drawn. -/
namespace CF
open PySem
local macro_rules | `(tactic| walk_at "hf") => `(tactic| (first
  | with_reducible exact eqD_int | with_reducible exact eqD_str | with_reducible exact neD_int | with_reducible exact addD_int | with_reducible exact addI_int | with_reducible exact subD_int | with_reducible exact geD_int | with_reducible exact gtD_int | with_reducible exact leD_int | with_reducible exact ltD_int | with_reducible exact modD_of (by decide) | with_reducible exact mulD_r (by decide) | with_reducible exact mulD_l (by decide) | with_reducible exact powD_of (by decide) | with_reducible exact ix0 | ((with_reducible show ixD (.list _) (.int _) = _); rfl) | ((with_reducible show ixD (.tuple _) (.int _) = _); rfl)
  | with_reducible exact intC_int | with_reducible exact lenC_list | with_reducible exact lenC_tuple | with_reducible exact tupleC_list | with_reducible exact listC_tuple | with_reducible exact listC_dict | with_reducible exact isN_none | with_reducible exact isN_int | with_reducible exact notN_none | with_reducible exact notN_int | with_reducible exact min2_int | with_reducible exact max2_int | with_reducible exact slD_list | with_reducible exact slD_tuple | with_reducible exact neD_str | with_reducible exact max2_int))
local macro_rules | `(tactic| walk_at "m1") => `(tactic| (first
  | with_reducible refine iSq ?_ | with_reducible refine iThn ?_ | with_reducible refine iIfS ?_ | with_reducible refine iSet ?_ | with_reducible refine iSetB ?_ | with_reducible refine iSetO ?_ | with_reducible refine iRet ?_ | with_reducible refine iNx ?_ | with_reducible refine iThnR ?_
  | with_reducible refine iTest ?_ | with_reducible refine iOp2 ?_ | ((with_reducible refine' iPk ?h1 ?h2); (case h1 => rfl)) | with_reducible refine iV ?_ | with_reducible refine iC ?_ | ((with_reducible refine' iVar ?h1 ?h2); (case h1 => rfl))
  | with_reducible refine iCall ?_ | with_reducible refine iLs0 ?_ | with_reducible refine iLs ?_ | with_reducible refine iSub ?_ | with_reducible refine iSl ?_ | with_reducible refine iSome ?_ | with_reducible refine iNone ?_ | with_reducible refine iLst ?_ | with_reducible refine iTup ?_ | with_reducible refine iDs0 ?_ | with_reducible refine iDs ?_
  | with_reducible refine iAnd ?_ | with_reducible refine iOr ?_ | with_reducible refine iNot ?_ | with_reducible refine iBl ?_ | with_reducible refine iIf ?_ | with_reducible refine iDrop ?_ | with_reducible refine iYes ?_ | with_reducible refine iPar ?_
  | ((with_reducible refine' iAugS ?h1 ?h2); (case h1 => exact ⟨_, rfl⟩))
  | ((with_reducible refine' iPutE ?h1 ?h2 ?h3); (case h1 => rfl); (case h2 => rfl))
  | ((with_reducible refine' iOp2E ?h1 ?h2 ?h3 ?h4); (case h1 => rfl); (case h2 => rfl); (case h3 => walk_at "hf"))
  | ((with_reducible refine' iCallE ?h1 ?h2 ?h3); (case h1 => rfl); (case h2 => walk_at "hf"))
  | with_reducible refine ⟨sz0, ?_⟩ | with_reducible refine ⟨sz1, ?_⟩ | with_reducible refine ⟨sz2, ?_⟩ | with_reducible refine ⟨sz3, ?_⟩ | with_reducible refine ⟨sz4, ?_⟩ | with_reducible refine ⟨sz5, ?_⟩
  | (with_reducible refine ⟨_, rfl, ?_⟩)
  | ((with_reducible refine' ⟨_, ?h1, ?h2⟩); (case h1 => walk_at "hf"))
  | ((with_reducible refine' ⟨⟨_, ?h1⟩, ?h2⟩); (case h1 => rfl))
  | ((with_reducible refine' ⟨_, _, ?h1, ?h2, ?h3⟩); (case h1 => rfl); (case h2 => walk_at "hf"))
  | ((with_reducible refine' ⟨_, _, ?h1, ?h2, ?h3⟩); (case h1 => rfl); (case h2 => rfl))))
theorem lot_t {h : House} (oh : HOk h) : bagFn g_lot [h.d] fun d => ∃ l, d = lotD l ∧ LOk h l := fun bag ok => by
  have l1 := oh.l1
  have l5 := oh.l5
  unfold g_lot
  refine run_gives rfl ?_
  unfold b_lot
  refine iSq (iSet (iLCm (wIt (iVar rfl ?_))))
  refine ⟨_, rfl, Srt, h, Srt.d, (fun s => .str s.nm), rfl, by rw [sizeLine_eq]; omega, rfl, ?_, ?_⟩
  · intro s hs
    refine ⟨_, rfl, ?_⟩
    repeat walk_at "m1"
    exact iOp2E rfl rfl (show ixD s.d (.int 0) = some (.str s.nm) from rfl) ⟨rfl, rfl⟩
  have en : (h.map fun s => PyData.str s.nm) = h.nms.map PyData.str := by unfold House.nms; rw [List.map_map]; rfl
  have nl : h.nms.length = h.length := by unfold House.nms; rw [List.length_map]
  rw [en]
  repeat walk_at "m1"
  refine iBag rfl ?_
  repeat walk_at "m1"
  refine iBagE rfl rfl ok (mixed_t (as := h.nms) (e := PyData.str) (.inl rfl) (by omega)) ?_
  rintro d bag2 ⟨bs, rfl, hp⟩ ok2
  repeat walk_at "m1"
  refine iBag rfl ?_
  repeat walk_at "m1"
  rw [List.length_map]
  refine iBagE rfl rfl ok2 (take_fn (by omega) (by omega)) ?_
  rintro z bag3 ⟨v, rfl, v0, v1⟩ ok3
  repeat walk_at "m1"
  refine iCallE rfl (sort_take bs (1 + v) (by omega)) ?_
  repeat walk_at "m1"
  have hl := (ascS_perm (bs.take (1 + v).toNat)).length_eq
  rw [List.length_take, hp.length_eq] at hl
  refine ⟨rfl, ⟨_, rfl, ascS_strict ((hp.nodup_iff.mpr oh.nodup).sublist (List.take_sublist _ _)), fun e => ?_, fun x hx => hp.mem_iff.mp (List.mem_of_mem_take ((ascS_perm _).mem_iff.mp hx))⟩, bag3, ok3, rfl⟩
  rw [e, List.length_nil] at hl
  omega
theorem rank_t {h : House} {most : Int} (oh : HOk h) (m0 : 0 < most) (m1 : most ≤ 9) : bagFn g_rank [h.d, .int most] fun d => ∃ l k, d = (Fm.rank l k).d ∧ LOk h l ∧ 1 ≤ k ∧ (k : Int) ≤ most := fun bag ok => by
  unfold g_rank
  refine run_gives rfl ?_
  unfold b_rank
  repeat walk_at "m1"
  refine iBag rfl ?_
  repeat walk_at "m1"
  refine iBagE rfl rfl ok (lot_t oh) ?_
  rintro z bag2 ⟨l, rfl, ol⟩ ok2
  repeat walk_at "m1"
  refine iBag rfl ?_
  repeat walk_at "m1"
  refine iBag rfl ?_
  repeat walk_at "m1"
  refine iBagE rfl rfl ok2 (take_fn m0 (by omega)) ?_
  rintro z bag3 ⟨v, rfl, v0, v1⟩ ok3
  repeat walk_at "m1"
  refine iBagE rfl rfl ok3 (one_i [0, 0, v] (by show 0 < 3; decide) (by show 3 < 1073741824; decide)) ?_
  rintro r bag4 ⟨k, rfl, hk⟩ ok4
  have k2 : 0 ≤ k ∧ k < most := by
    simp only [List.mem_cons, List.not_mem_nil, or_false] at hk
    omega
  repeat walk_at "m1"
  refine ⟨rfl, ⟨l, (1 + k).toNat, ?_, ol, by omega, by omega⟩, bag4, ok4, rfl⟩
  rw [Fm.d, Int.toNat_of_nonneg (by omega)]
  rfl
/-! ### formulas -/
theorem formula_t {h : House} {most : Int} (oh : HOk h) (m0 : 0 < most) (m1 : most ≤ 9) : ∀ (n k : Nat) (deep : Int), deep ≤ (n : Int) + 1 → deep ≤ (k : Int) + 1 → ∀ bag left, BagOk bag → gives (g_formula (n + 1)) [.own bag, .dat h.d, .dat (.int deep), .dat (.int most), .own (.list [.int left])]
    fun d ps' => (∃ f : Fm, d = f.d ∧ FOk h 3 k f) ∧ ∃ bag' n', BagOk bag' ∧ ps'.getD 0 .un = .own bag' ∧ ps'.getD 4 .un = .own (.list [.int n']) := by
  have ret : ∀ (k : Nat) (rest : MS) (bag : D) (left deep : Int), BagOk bag → wp (mRet (mFn [0] g_rank [(mPk 0), (mPk 1), (mPk 3)])) [.own bag, .dat h.d, .dat (.int deep), .dat (.int most), .own (.list [.int left]), .un, .un] (thnS rest fun f ρ' => ∃ d, retv false f = some d ∧ allOwn [0, 4] ρ' = true ∧ (∃ f : Fm, d = f.d ∧ FOk h 3 k f) ∧ ∃ bag' n', BagOk bag' ∧ (ρ'.take 5).getD 0 .un = .own bag' ∧ (ρ'.take 5).getD 4 .un = .own (.list [.int n'])) := by
    intro k rest bag left deep ok
    repeat walk_at "m1"
    refine iBag rfl ?_
    repeat walk_at "m1"
    refine iBagE rfl rfl ok (rank_t oh m0 m1) ?_
    rintro d bag2 ⟨l, k2, rfl, ol, k0, k1⟩ ok2
    repeat walk_at "m1"
    exact ⟨rfl, ⟨_, rfl, .rank ol k0 (by omega)⟩, bag2, left, ok2, rfl, rfl⟩
  intro n
  induction n with
  | zero =>
    intro k deep hdeep hk bag left ok
    show gives (runF false 5 2 [0, 4] _) _ _
    refine run_gives rfl ?_
    unfold b_formula
    repeat walk_at "m1"
    refine iteD (fun h => ?_) (fun h => by omega)
    refine iteT ?_
    exact ret k _ bag (left - 1) deep ok
  | succ n ih =>
    intro k deep hdeep hk bag left ok
    show gives (runF false 5 2 [0, 4] _) _ _
    refine run_gives rfl ?_
    unfold b_formula
    repeat walk_at "m1"
    refine iteD (fun hA => ?_) (fun hA => ?_)
    · refine iteT ?_
      exact ret k _ bag (left - 1) deep ok
    repeat walk_at "m1"
    refine iteD (fun h' => ?_) (fun h' => ?_)
    · refine iteT ?_
      exact ret k _ bag (left - 1) deep ok
    repeat walk_at "m1"
    refine iBag rfl ?_
    repeat walk_at "m1"
    refine iBagE rfl rfl ok (take_fn (by decide) (by decide)) ?_
    rintro z bag2 ⟨v, rfl, v0, v1⟩ ok2
    repeat walk_at "m1"
    refine iteD (fun h5 => ?_) (fun h5 => ?_)
    · exact ret k _ bag2 (left - 1) deep ok2
    repeat walk_at "m1"
    obtain ⟨k, rfl⟩ : ∃ j, k = j + 1 := ⟨k - 1, by omega⟩
    refine iFor (iRng1 ?_)
    repeat walk_at "m1"
    refine iBag rfl ?_
    repeat walk_at "m1"
    refine iBagE rfl rfl ok2 (one_fn (xs := [.int 1, .int 1, .int 0, .int 2]) (.inl rfl) (by decide) (by decide)) ?_
    intro z bag3 hz ok3
    obtain ⟨w, rfl, w0, w1⟩ := int_mem (lo := 0) (hi := 2) rfl hz
    repeat walk_at "m1"
    refine ⟨okR_of (by omega) (by omega), fun rest ρ => ∃ (bag : D) (lf : Int) (parts : List Fm) (s6 : Slot), BagOk bag ∧ (parts = [] → 2 ≤ lf ∧ 1 ≤ rest.length) ∧ parts.length + rest.length ≤ 3 ∧ (∀ p ∈ parts, FOk h 3 k p) ∧ ρ = [.own bag, .dat h.d, .dat (.int deep), .dat (.int most), .own (.list [.int lf]), .own (.list (parts.map Fm.d)), s6],
      ⟨bag3, left - 1, [], .un, ok3, fun _ => ⟨by omega, by rw [range_len]; omega⟩, by rw [range_len, List.length_nil]; omega, (fun _ h => absurd h (by simp)), rfl⟩, ?_, ?_⟩
    · rintro ρ ⟨bag4, lf, parts, s6, ok4, hne, hl, hp, rfl⟩
      have hpl : 1 ≤ parts.length := by
        cases parts with
        | nil => have := (hne rfl).2; simp at this
        | cons _ _ => simp
      rw [List.length_nil] at hl
      have el : lenC [.list (parts.map Fm.d)] = some (.int parts.length) := by rw [lenC_list, List.length_map]
      refine iThn (iRet (iTup ?_))
      repeat walk_at "m1"
      refine iBag rfl ?_
      repeat walk_at "m1"
      refine iBag rfl ?_
      repeat walk_at "m1"
      rw [List.length_map]
      refine iBagE rfl rfl ok4 (take_fn (by omega) (by omega)) ?_
      rintro z bag5 ⟨v, rfl, v0, v1⟩ ok5
      repeat walk_at "m1"
      refine iBagE rfl rfl ok5 (one_i [1, (parts.length : Int), 1 + v] (by show 0 < 3; decide) (by show 3 < 1073741824; decide)) ?_
      rintro r bag6 ⟨q, rfl, hq⟩ ok6
      have q2 : 1 ≤ q ∧ q ≤ parts.length := by
        simp only [List.mem_cons, List.not_mem_nil, or_false] at hq
        omega
      repeat walk_at "m1"
      refine ⟨rfl, ⟨.kth q.toNat parts, ?_, .kth (by omega) (by omega) (by omega) hp⟩, bag6, lf, ok6, rfl, rfl⟩
      rw [Fm.d, Fm.dL_map, Int.toNat_of_nonneg (by omega)]
      rfl
    · rintro d ds ρ ⟨bag4, lf, parts, s6, ok4, hne, hl, hp, rfl⟩
      refine ⟨_, rfl, ?_⟩
      rw [List.length_cons] at hl
      repeat walk_at "m1"
      refine iteD (fun hlf => ?_) (fun hlf => ?_)
      · repeat walk_at "m1"
        refine iMut rfl ?_
        repeat walk_at "m1"
        refine iFn2 (by decide) rfl ?_
        repeat walk_at "m1"
        refine ⟨rfl, _, _, _, _, _, rfl, rfl, rfl, ?_⟩
        obtain ⟨r, ps', e, ⟨f, rfl, hf⟩, bag5, n5, ok5, g0, g4⟩ := ih k (deep - 1) (by omega) (by omega) bag4 lf ok4
        refine ⟨_, ps', e, ?_⟩
        simp only [g0, g4]
        repeat walk_at "m1"
        refine iMutE rfl (app_ok (by rw [List.length_map]; omega)) ?_
        refine ⟨bag5, n5, parts ++ [f], .dat d, ok5, fun h => absurd h (by simp), by rw [List.length_append, List.length_singleton]; omega, ?_, ?_⟩
        · intro p hp'
          rcases List.mem_append.mp hp' with h | h
          · exact hp p h
          · rw [List.mem_singleton.mp h]; exact hf
        · rw [List.map_append]
          rfl
      · repeat walk_at "m1"
        refine ⟨bag4, lf, parts, _, ok4, fun h => ?_, by omega, hp, rfl⟩
        have := (hne h).1
        omega
theorem any_t {h : House} (oh : HOk h) : bagFn g_any_formula [h.d] fun d => ∃ f : Fm, d = f.d ∧ FOk h 3 3 f := fun bag ok => by
  unfold g_any_formula
  refine run_gives rfl ?_
  unfold b_any_formula
  repeat walk_at "m1"
  refine iFnT2 rfl ?_
  repeat walk_at "m1"
  refine iBag rfl ?_
  repeat walk_at "m1"
  refine iBagE rfl rfl ok (one_fn (xs := [.int 1, .int 2, .int 2, .int 3, .int 4]) (.inl rfl) (by decide) (by decide)) ?_
  intro z bag2 hz ok2
  obtain ⟨deep, rfl, d0, d1⟩ := int_mem (lo := 1) (hi := 4) rfl hz
  repeat walk_at "m1"
  refine iBag rfl ?_
  repeat walk_at "m1"
  refine iBagE rfl rfl ok2 (one_fn (xs := [.int 2, .int 3, .int 2, .int 9]) (.inl rfl) (by decide) (by decide)) ?_
  intro z bag3 hz ok3
  obtain ⟨most, rfl, m0, m1⟩ := int_mem (lo := 2) (hi := 9) rfl hz
  repeat walk_at "m1"
  refine ⟨show (0 : Nat) ≠ 2 by decide, _, _, _, _, _, rfl, rfl, rfl, ?_⟩
  obtain ⟨r, ps', e, hf, bag5, n5, ok5, g0, g4⟩ := formula_t (most := most) oh (by omega) (by omega) 19 3 deep (by omega) (by omega) bag3 12 ok3
  refine ⟨r, ps', e, ?_⟩
  simp only [g0, g4]
  exact ⟨r, rfl, rfl, hf, bag5, ok5, rfl⟩
end CF
end
section
/-! CT, part 6: values, counts, what holds. -/
namespace CF
open PySem
local macro_rules | `(tactic| walk_at "hf") => `(tactic| (first
  | with_reducible exact eqD_int | with_reducible exact eqD_str | with_reducible exact neD_int | with_reducible exact addD_int | with_reducible exact addI_int | with_reducible exact subD_int | with_reducible exact geD_int | with_reducible exact gtD_int | with_reducible exact leD_int | with_reducible exact ltD_int | with_reducible exact modD_of (by decide) | with_reducible exact mulD_r (by decide) | with_reducible exact mulD_l (by decide) | with_reducible exact powD_of (by decide) | with_reducible exact ix0 | ((with_reducible show ixD (.list _) (.int _) = _); rfl) | ((with_reducible show ixD (.tuple _) (.int _) = _); rfl)
  | with_reducible exact intC_int | with_reducible exact lenC_list | with_reducible exact lenC_tuple | with_reducible exact tupleC_list | with_reducible exact listC_tuple | with_reducible exact listC_dict | with_reducible exact isN_none | with_reducible exact isN_int | with_reducible exact notN_none | with_reducible exact notN_int | with_reducible exact min2_int | with_reducible exact max2_int | with_reducible exact slD_list | with_reducible exact slD_tuple | with_reducible exact neD_str | with_reducible exact max2_int))
local macro_rules | `(tactic| walk_at "m1") => `(tactic| (first
  | with_reducible refine iSq ?_ | with_reducible refine iThn ?_ | with_reducible refine iIfS ?_ | with_reducible refine iSet ?_ | with_reducible refine iSetB ?_ | with_reducible refine iSetO ?_ | with_reducible refine iRet ?_ | with_reducible refine iNx ?_ | with_reducible refine iThnR ?_
  | with_reducible refine iTest ?_ | with_reducible refine iOp2 ?_ | ((with_reducible refine' iPk ?h1 ?h2); (case h1 => rfl)) | with_reducible refine iV ?_ | with_reducible refine iC ?_ | ((with_reducible refine' iVar ?h1 ?h2); (case h1 => rfl))
  | with_reducible refine iCall ?_ | with_reducible refine iLs0 ?_ | with_reducible refine iLs ?_ | with_reducible refine iSub ?_ | with_reducible refine iSl ?_ | with_reducible refine iSome ?_ | with_reducible refine iNone ?_ | with_reducible refine iLst ?_ | with_reducible refine iTup ?_ | with_reducible refine iDs0 ?_ | with_reducible refine iDs ?_
  | with_reducible refine iAnd ?_ | with_reducible refine iOr ?_ | with_reducible refine iNot ?_ | with_reducible refine iBl ?_ | with_reducible refine iIf ?_ | with_reducible refine iDrop ?_ | with_reducible refine iYes ?_ | with_reducible refine iPar ?_
  | ((with_reducible refine' iAugS ?h1 ?h2); (case h1 => exact ⟨_, rfl⟩))
  | ((with_reducible refine' iPutE ?h1 ?h2 ?h3); (case h1 => rfl); (case h2 => rfl))
  | ((with_reducible refine' iOp2E ?h1 ?h2 ?h3 ?h4); (case h1 => rfl); (case h2 => rfl); (case h3 => walk_at "hf"))
  | ((with_reducible refine' iCallE ?h1 ?h2 ?h3); (case h1 => rfl); (case h2 => walk_at "hf"))
  | with_reducible refine ⟨sz0, ?_⟩ | with_reducible refine ⟨sz1, ?_⟩ | with_reducible refine ⟨sz2, ?_⟩ | with_reducible refine ⟨sz3, ?_⟩ | with_reducible refine ⟨sz4, ?_⟩ | with_reducible refine ⟨sz5, ?_⟩
  | (with_reducible refine ⟨_, rfl, ?_⟩)
  | ((with_reducible refine' ⟨_, ?h1, ?h2⟩); (case h1 => walk_at "hf"))
  | ((with_reducible refine' ⟨⟨_, ?h1⟩, ?h2⟩); (case h1 => rfl))
  | ((with_reducible refine' ⟨_, _, ?h1, ?h2, ?h3⟩); (case h1 => rfl); (case h2 => walk_at "hf"))
  | ((with_reducible refine' ⟨_, _, ?h1, ?h2, ?h3⟩); (case h1 => rfl); (case h2 => rfl))))
/-! ### houses of the menu of fifteen -/
def b_house1 : MS :=
  (mRet (mCall tupleC [(mV (mLC [2] (mIt (mFn [0] g_names1 [(mPk 0), (mV (mOp2 addD (mV (mC (.int 1))) (mV (mFn [0] g_take [(mPk 0), (mPk 1)]))))])) (setS 2) mYes (mFn [0] g_sort [(mPk 0), (mPk 2)])))]))
def g_house1 : FM := runF false 2 1 [0] b_house1
def b_cell1 : MS :=
  (mRet (mCall tupleC [(mV (mLC [2] (mIt (mFn [0] g_names1 [(mPk 0), (mV (mOp2 addD (mV (mC (.int 1))) (mV (mFn [0] g_take [(mPk 0), (mPk 1)]))))])) (setS 2) mYes (mTup [(mVar 2), (mC (.int 1)), (mC (.int 1))])))]))
def g_cell1 : FM := runF false 2 1 [0] b_cell1
def b_firm1 : MS :=
  (mSq (mSet 3 (mFn [0] g_names1 [(mPk 0), (mV (mOp2 addD (mV (mC (.int 1))) (mV (mFn [0] g_take [(mPk 0), (mPk 1)]))))]))
  (mSq (mSet 4 (mLC [5] (mIt (mVar 3)) (setS 5) mYes (mFn [0] g_one [(mPk 0), (mV (mLst [(mC (.int 1)), (mC (.int 1)), (mVar 2), (mFn [0] g_take [(mPk 0), (mV (mOp2 addD (mPk 2) (mV (mC (.int 1)))))])]))])))
  (mRet (mCall tupleC [(mV (mLC [5, 6] (mZp (mVar 3) (mVar 4)) (bTup [5, 6]) mYes (mTup [(mVar 5), (mVar 6), (mVar 6)])))]))))
def g_firm1 : FM := runF false 3 4 [0] b_firm1
def b_oneh1 : MS :=
  (mSq (mSet 1 (mFn [0] g_take [(mPk 0), (mV (mC (.int 6)))]))
  (mSq (mIfS (mTest (mOp2 ltD (mPk 1) (mV (mC (.int 4)))))
    (mRet (mFn [0] g_house1 [(mPk 0), (mV (mFn [0] g_one [(mPk 0), (mV (mLst [(mC (.int 4)), (mC (.int 3)), (mC (.int 5))]))]))]))
    mNx)
  (mRet (mIf (mTest (mOp2 eqD (mPk 1) (mV (mC (.int 4))))) (mFn [0] g_firm1 [(mPk 0), (mV (mC (.int 3))), (mV (mC (.int 3)))]) (mFn [0] g_cell1 [(mPk 0), (mV (mC (.int 4)))])))))
def g_oneh1 : FM := runF false 1 1 [0] b_oneh1

theorem house1_t {most : Int} (h0 : 0 < most) (h1 : most ≤ 5) : bagFn g_house1 [.int most] (HouseIs most) := house_t (fun _ h => names1_t h) h0 h1
theorem cell1_t {most : Int} (h0 : 0 < most) (h1 : most ≤ 5) : bagFn g_cell1 [.int most] fun d => HouseIs most d ∧ ∃ h : House, d = h.d ∧ ∀ s ∈ h, s.lo = 1 ∧ s.hi = some 1 := cell_t (fun _ h => names1_t h) h0 h1
theorem firm1_t {most rows : Int} (h0 : 0 < most) (h1 : most ≤ 5) (r0 : 0 ≤ rows) (r3 : rows ≤ 3) : bagFn g_firm1 [.int most, .int rows] fun d => HouseIs most d ∧ ∃ h : House, d = h.d ∧ ∀ s ∈ h, s.hi = some s.lo := firm_t (fun _ h => names1_t h) h0 h1 r0 r3
theorem oneh1_t : bagFn g_oneh1 [] fun d => HouseIs 5 d := oneh_t (fun _ h0 h1 => house1_t h0 h1) ((firm1_t (by decide) (by decide) (by decide) (by decide)).mono fun _ q => q.1) ((cell1_t (by decide) (by decide)).mono fun _ q => q.1)
/-! ### the elder words -/
theorem nameIn_of {h : House} (oh : HOk h) {x : Str} (hx : x ∈ h.nms) : NameIn (h.map Srt.d) (.str x) := by
  refine ⟨menu_strD (oh.nm x hx), ?_⟩
  obtain ⟨s, hs, rfl⟩ := List.mem_map.mp hx
  exact ⟨.int s.lo, hiD s.hi, List.mem_map.mpr ⟨s, hs, rfl⟩⟩
theorem form_of {h : House} (oh : HOk h) {w n : Nat} {f : Fm} (o : FOk h w n f) : FormOk (h.map Srt.d) w n f.d := by
  induction o with
  | @rank n l k ol k0 k1 =>
    rw [Fm.d]
    refine .rank ⟨l.map PyData.str, k, rfl, ?_, ?_, by omega, by omega⟩
    · rw [List.length_map, List.length_map]
      have e : h.length = h.nms.length := by unfold House.nms; rw [List.length_map]
      rw [e]
      exact (pw_nodupS ol.asc).length_le_of_subset ol.sub
    · intro d hd
      obtain ⟨x, hx, rfl⟩ := List.mem_map.mp hd
      exact nameIn_of oh (ol.sub x hx)
  | @kth n k ps k0 k1 kw _ ih =>
    rw [Fm.d, Fm.dL_map]
    refine .kth (by omega) (by rw [List.length_map]; omega) (by rw [List.length_map]; exact kw) fun d hd => ?_
    obtain ⟨p, hp, rfl⟩ := List.mem_map.mp hd
    exact ih p hp
theorem tab_of {h : House} {pool : List Int} {t : Tbl} (o : TOk h pool t) : TabFor (t.map entD) (h.map Srt.d) := by
  rintro l ⟨_, lo, hi, hm⟩
  obtain ⟨s, hs, e⟩ := List.mem_map.mp hm
  unfold Srt.d at e
  cases e
  have q := o.row_mem (x := s.nm) (List.mem_map_of_mem hs)
  refine ⟨rfl, t.row s.nm, ?_, Nat.le_trans (o.l9 _ q.2) (by decide)⟩
  rw [look_t, q.1]
  rfl
theorem rowI_t (t : Tbl) (x : Str) : rowI (t.map entD) (.str x) = t.row x := by
  unfold rowI Tbl.row
  rw [look_t]
  cases t.lookup x with
  | none => rfl
  | some ns => show (intsD (ns.map PyData.int)).getD [] = ns; rw [intsD_map]; rfl
theorem allR_t (t : Tbl) (l : List Str) : allR (t.map entD) (l.map PyData.str) = t.rows l := by
  unfold allR Tbl.rows
  rw [List.map_map]
  congr 1
  exact List.map_congr_left fun x _ => rowI_t t x
theorem evalN_t (t : Tbl) : ∀ (n : Nat) (f : Fm), f.dep < n → evalN (t.map entD) n f.d = f.val t := by
  intro n
  induction n with
  | zero => intro f h; omega
  | succ n ih =>
    intro f h
    cases f with
    | rank l k =>
      rw [Fm.d, Fm.val]
      exact eval_rank.trans (by rw [allR_t])
    | kth k ps =>
      rw [Fm.d, Fm.val, Fm.dL_map, Fm.valL_map]
      refine eval_kth.trans ?_
      rw [List.map_map]
      have e : ps.map (evalN (t.map entD) n ∘ Fm.d) = ps.map (Fm.val t) := List.map_congr_left fun p hp => ih p (by
        have := Fm.dep_mem hp
        rw [Fm.dep] at h
        omega)
      rw [e]
section
variable {h : House} {pool : List Int} {t : Tbl} {house : D}
theorem hlen (oh : HOk h) : (h.map Srt.d).length ≤ 1000 := by rw [List.length_map]; have := oh.l5; omega
theorem lvalue_t (oh : HOk h) (o : TOk h pool t) {w n : Nat} {f : Fm} (of : FOk h w n f) (hw : w ≤ 1000) (hn : n < 20) : pureFn (g_lvalue 20) [t.d, f.d] (· = optD (f.val t)) :=
  pureQ (lvalue_fn (tab_of o) (hlen oh) hw 20 n f.d (form_of oh of) hn) (by rw [evalN_t t 20 f (by have := of.dep; omega)])
theorem rowsOf_t (o : TOk h pool t) {l : List Str} (hl : ∀ x ∈ l, x ∈ h.nms) : RowsOf (t.map entD) (l.map PyData.str) := by
  intro d hd
  obtain ⟨x, hx, rfl⟩ := List.mem_map.mp hd
  have q := o.row_mem (hl x hx)
  refine ⟨rfl, t.row x, ?_, Nat.le_trans (o.l9 _ q.2) (by decide)⟩
  rw [look_t, q.1]
  rfl
/-- how many of some numbers are n or greater -/
def geN (ns : List Int) (n : Int) : Nat := (ns.filter fun x => decide (n ≤ x)).length
theorem lcount_t (o : TOk h pool t) {l : List Str} (hl : ∀ x ∈ l, x ∈ h.nms) (h5 : l.length ≤ 1000) (n : Int) : pureFn g_lcount [t.d, lotD l, .int n] (· = .int (geN (t.rows l) n)) :=
  pureQ (lcount_fn (rowsOf_t o hl) (by rw [List.length_map]; exact h5)) (by rw [allR_t]; rfl)
def Tbl.sizes (t : Tbl) (h : House) : List Nat := h.map fun s => (t.row s.nm).length
def Tbl.at (t : Tbl) (h : House) (n : Int) : List Nat := h.map fun s => geN (t.row s.nm) n
end
end CF
end
section
/-! CT, part 7: counts at numbers, what holds. -/
namespace CF
open PySem
local macro_rules | `(tactic| walk_at "hf") => `(tactic| (first
  | with_reducible exact eqD_int | with_reducible exact eqD_str | with_reducible exact neD_int | with_reducible exact addD_int | with_reducible exact addI_int | with_reducible exact subD_int | with_reducible exact geD_int | with_reducible exact gtD_int | with_reducible exact leD_int | with_reducible exact ltD_int | with_reducible exact modD_of (by decide) | with_reducible exact mulD_r (by decide) | with_reducible exact mulD_l (by decide) | with_reducible exact powD_of (by decide) | with_reducible exact ix0 | ((with_reducible show ixD (.list _) (.int _) = _); rfl) | ((with_reducible show ixD (.tuple _) (.int _) = _); rfl)
  | with_reducible exact intC_int | with_reducible exact lenC_list | with_reducible exact lenC_tuple | with_reducible exact tupleC_list | with_reducible exact listC_tuple | with_reducible exact listC_dict | with_reducible exact isN_none | with_reducible exact isN_int | with_reducible exact notN_none | with_reducible exact notN_int | with_reducible exact min2_int | with_reducible exact max2_int | with_reducible exact slD_list | with_reducible exact slD_tuple | with_reducible exact neD_str | with_reducible exact max2_int))
local macro_rules | `(tactic| walk_at "m1") => `(tactic| (first
  | with_reducible refine iSq ?_ | with_reducible refine iThn ?_ | with_reducible refine iIfS ?_ | with_reducible refine iSet ?_ | with_reducible refine iSetB ?_ | with_reducible refine iSetO ?_ | with_reducible refine iRet ?_ | with_reducible refine iNx ?_ | with_reducible refine iThnR ?_
  | with_reducible refine iTest ?_ | with_reducible refine iOp2 ?_ | ((with_reducible refine' iPk ?h1 ?h2); (case h1 => rfl)) | with_reducible refine iV ?_ | with_reducible refine iC ?_ | ((with_reducible refine' iVar ?h1 ?h2); (case h1 => rfl))
  | with_reducible refine iCall ?_ | with_reducible refine iLs0 ?_ | with_reducible refine iLs ?_ | with_reducible refine iSub ?_ | with_reducible refine iSl ?_ | with_reducible refine iSome ?_ | with_reducible refine iNone ?_ | with_reducible refine iLst ?_ | with_reducible refine iTup ?_ | with_reducible refine iDs0 ?_ | with_reducible refine iDs ?_
  | with_reducible refine iAnd ?_ | with_reducible refine iOr ?_ | with_reducible refine iNot ?_ | with_reducible refine iBl ?_ | with_reducible refine iIf ?_ | with_reducible refine iDrop ?_ | with_reducible refine iYes ?_ | with_reducible refine iPar ?_
  | ((with_reducible refine' iAugS ?h1 ?h2); (case h1 => exact ⟨_, rfl⟩))
  | ((with_reducible refine' iPutE ?h1 ?h2 ?h3); (case h1 => rfl); (case h2 => rfl))
  | ((with_reducible refine' iOp2E ?h1 ?h2 ?h3 ?h4); (case h1 => rfl); (case h2 => rfl); (case h3 => walk_at "hf"))
  | ((with_reducible refine' iCallE ?h1 ?h2 ?h3); (case h1 => rfl); (case h2 => walk_at "hf"))
  | with_reducible refine ⟨sz0, ?_⟩ | with_reducible refine ⟨sz1, ?_⟩ | with_reducible refine ⟨sz2, ?_⟩ | with_reducible refine ⟨sz3, ?_⟩ | with_reducible refine ⟨sz4, ?_⟩ | with_reducible refine ⟨sz5, ?_⟩
  | (with_reducible refine ⟨_, rfl, ?_⟩)
  | ((with_reducible refine' ⟨_, ?h1, ?h2⟩); (case h1 => walk_at "hf"))
  | ((with_reducible refine' ⟨⟨_, ?h1⟩, ?h2⟩); (case h1 => rfl))
  | ((with_reducible refine' ⟨_, _, ?h1, ?h2, ?h3⟩); (case h1 => rfl); (case h2 => walk_at "hf"))
  | ((with_reducible refine' ⟨_, _, ?h1, ?h2, ?h3⟩); (case h1 => rfl); (case h2 => rfl))))
/-! ### in -/
theorem strOk_menu : ∀ x ∈ menuS, PyData.strOk x = true := by
  have q : menuS.all PyData.strOk = true := by decide +kernel
  exact fun x hx => List.all_eq_true.mp q x hx
theorem HOk.strOk {h : House} (oh : HOk h) : ∀ x ∈ h.nms, PyData.strOk x = true := fun x hx => strOk_menu x (oh.nm x hx)
/-! ### sums -/
/-! ### counts -/
section
variable {h : House} {pool : List Int} {t : Tbl}
end
end CF
end
section
/-! CT, part 8: numbers that occur, drawn counts, numbers near; thresholds. -/
namespace CF
open PySem
local macro_rules | `(tactic| walk_at "hf") => `(tactic| (first
  | with_reducible exact eqD_int | with_reducible exact eqD_str | with_reducible exact neD_int | with_reducible exact addD_int | with_reducible exact addI_int | with_reducible exact subD_int | with_reducible exact geD_int | with_reducible exact gtD_int | with_reducible exact leD_int | with_reducible exact ltD_int | with_reducible exact modD_of (by decide) | with_reducible exact mulD_r (by decide) | with_reducible exact mulD_l (by decide) | with_reducible exact powD_of (by decide) | with_reducible exact ix0 | ((with_reducible show ixD (.list _) (.int _) = _); rfl) | ((with_reducible show ixD (.tuple _) (.int _) = _); rfl)
  | with_reducible exact intC_int | with_reducible exact lenC_list | with_reducible exact lenC_tuple | with_reducible exact tupleC_list | with_reducible exact listC_tuple | with_reducible exact listC_dict | with_reducible exact isN_none | with_reducible exact isN_int | with_reducible exact notN_none | with_reducible exact notN_int | with_reducible exact min2_int | with_reducible exact max2_int | with_reducible exact slD_list | with_reducible exact slD_tuple | with_reducible exact neD_str | with_reducible exact max2_int))
local macro_rules | `(tactic| walk_at "m1") => `(tactic| (first
  | with_reducible refine iSq ?_ | with_reducible refine iThn ?_ | with_reducible refine iIfS ?_ | with_reducible refine iSet ?_ | with_reducible refine iSetB ?_ | with_reducible refine iSetO ?_ | with_reducible refine iRet ?_ | with_reducible refine iNx ?_ | with_reducible refine iThnR ?_
  | with_reducible refine iTest ?_ | with_reducible refine iOp2 ?_ | ((with_reducible refine' iPk ?h1 ?h2); (case h1 => rfl)) | with_reducible refine iV ?_ | with_reducible refine iC ?_ | ((with_reducible refine' iVar ?h1 ?h2); (case h1 => rfl))
  | with_reducible refine iCall ?_ | with_reducible refine iLs0 ?_ | with_reducible refine iLs ?_ | with_reducible refine iSub ?_ | with_reducible refine iSl ?_ | with_reducible refine iSome ?_ | with_reducible refine iNone ?_ | with_reducible refine iLst ?_ | with_reducible refine iTup ?_ | with_reducible refine iDs0 ?_ | with_reducible refine iDs ?_
  | with_reducible refine iAnd ?_ | with_reducible refine iOr ?_ | with_reducible refine iNot ?_ | with_reducible refine iBl ?_ | with_reducible refine iIf ?_ | with_reducible refine iDrop ?_ | with_reducible refine iYes ?_ | with_reducible refine iPar ?_
  | ((with_reducible refine' iAugS ?h1 ?h2); (case h1 => exact ⟨_, rfl⟩))
  | ((with_reducible refine' iPutE ?h1 ?h2 ?h3); (case h1 => rfl); (case h2 => rfl))
  | ((with_reducible refine' iOp2E ?h1 ?h2 ?h3 ?h4); (case h1 => rfl); (case h2 => rfl); (case h3 => walk_at "hf"))
  | ((with_reducible refine' iCallE ?h1 ?h2 ?h3); (case h1 => rfl); (case h2 => walk_at "hf"))
  | with_reducible refine ⟨sz0, ?_⟩ | with_reducible refine ⟨sz1, ?_⟩ | with_reducible refine ⟨sz2, ?_⟩ | with_reducible refine ⟨sz3, ?_⟩ | with_reducible refine ⟨sz4, ?_⟩ | with_reducible refine ⟨sz5, ?_⟩
  | (with_reducible refine ⟨_, rfl, ?_⟩)
  | ((with_reducible refine' ⟨_, ?h1, ?h2⟩); (case h1 => walk_at "hf"))
  | ((with_reducible refine' ⟨⟨_, ?h1⟩, ?h2⟩); (case h1 => rfl))
  | ((with_reducible refine' ⟨_, _, ?h1, ?h2, ?h3⟩); (case h1 => rfl); (case h2 => walk_at "hf"))
  | ((with_reducible refine' ⟨_, _, ?h1, ?h2, ?h3⟩); (case h1 => rfl); (case h2 => rfl))))
section
variable {h : House} {pool : List Int} {t : Tbl}
/-- the numbers that occur, each once, ascending -/
def Tbl.known (t : Tbl) : List Int := sset (t.rows (t.map (·.1)))
theorem keys_t (t : Tbl) : keysOf (t.map entD) = (t.map (·.1)).map PyData.str := by
  unfold keysOf
  rw [List.map_map, List.map_map]
  rfl
theorem names_sub (o : TOk h pool t) : ∀ x ∈ t.map (·.1), x ∈ h.nms := fun x hx => o.nms.mem_iff.mp hx
theorem tlen (oh : HOk h) (o : TOk h pool t) : t.length ≤ 5 := by
  have a := o.nms.length_eq
  have e : h.nms.length = h.length := by unfold House.nms; rw [List.length_map]
  have := oh.l5
  rw [List.length_map] at a
  omega
theorem known_pool (o : TOk h pool t) : ∀ n ∈ t.known, n ∈ pool := fun n hn => rows_pool o (names_sub o) n (mem_sset.mp hn)
theorem known_len (o : TOk h pool t) : t.known.length ≤ pool.length := sset_le (rows_pool o (names_sub o))
theorem known_t (oh : HOk h) (o : TOk h pool t) (hp : pool.length < 64) : pureFn g_lknown [t.d] (· = listD t.known) := by
  have l := tlen oh o
  have e : allR (t.map entD) (keysOf (t.map entD)) = t.rows (t.map (·.1)) := by rw [keys_t, allR_t]
  refine pureQ (lknown_fn (es := t.map entD) (pool := pool) ?_ (by rw [List.length_map]; omega) ?_ hp) ?_
  · rw [keys_t]; exact rowsOf_t o (names_sub o)
  · rw [e]; exact rows_pool o (names_sub o)
  · rw [e]; rfl
/-- counts of the house -/
structure COk (h : House) (c : List Nat) : Prop where
  len : c.length = h.length
  most : ∀ p ∈ h.zip c, ∀ m, p.1.hi = some m → p.2 ≤ m
  nine : ∀ n ∈ c, n ≤ 9
end
def b_l_near : MS :=
  (mSq (mSet 1 (mOp2 addL (mV (mOp2 addL (mV (mOp2 addL (mPk 0) (mV (mLC [2] (mIt (mVar 0)) (setS 2) mYes (mOp2 addD (mPk 2) (mV (mC (.int 1)))))))) (mV (mLC [2] (mIt (mVar 0)) (setS 2) mYes (mOp2 subD (mPk 2) (mV (mC (.int 1)))))))) (mV (mLst [(mC (.int 0))]))))
  (mRet (mLC [2] (mIt (mCall sortSetC [(mPk 1)])) (setS 2) (mTest (mOp2 leD (mV (mCall absC [(mPk 2)])) (mV (mOp2 powD (mV (mC (.int 10))) (mV (mC (.int 30))))))) (mVar 2))))
def g_l_near : FM := runF false 1 2 [] b_l_near
def nearL (ns : List Int) : List Int := sset (ns ++ ns.map (· + 1) ++ ns.map (· - 1) ++ [0])
def nearI (ns : List Int) : List Int := (nearL ns).filter fun n => decide ((n.natAbs : Int) ≤ 10 ^ 30)
theorem abs_eq (n : Int) : (if n < 0 then -n else n) = (n.natAbs : Int) := by split <;> omega
end CF
end
section
/-! CM, part 1: a formula's value and the counts at which it holds. -/
namespace CF
open PySem
/-! ### ascending rows of names -/
/-! ### thresholds -/
/-- how many rows of each sort are so -/
def Tbl.atP (t : Tbl) (h : House) (q : Int → Bool) : List Nat := h.map fun s => (t.row s.nm).countP q
/-- values lie among the table's numbers -/
theorem val_mem {h : House} {pool : List Int} {t : Tbl} (o : TOk h pool t) {w n : Nat} {f : Fm} (of : FOk h w n f) : ∀ v, f.val t = some v → v ∈ pool := by
  induction of with
  | @rank n l k ol k0 k1 =>
    intro v hv
    rw [Fm.val] at hv
    unfold kthI at hv
    split at hv
    · exact rows_pool o ol.sub v ((desc_perm _).mem_iff.mp (List.mem_of_getElem? hv))
    · cases hv
  | @kth n k ps k0 k1 kw _ ih =>
    intro v hv
    rw [Fm.val, Fm.valL_map] at hv
    unfold kthI at hv
    split at hv
    · have := (desc_perm _).mem_iff.mp (List.mem_of_getElem? hv)
      obtain ⟨o, ho, e⟩ := List.mem_filterMap.mp this
      obtain ⟨p, hp, rfl⟩ := List.mem_map.mp ho
      exact ih p hp v e
    · cases hv
end CF
end
section
/-! CT, part 9: what may be shown and compared. -/
namespace CF
open PySem
local macro_rules | `(tactic| walk_at "hf") => `(tactic| (first
  | with_reducible exact eqD_int | with_reducible exact eqD_str | with_reducible exact neD_int | with_reducible exact addD_int | with_reducible exact addI_int | with_reducible exact subD_int | with_reducible exact geD_int | with_reducible exact gtD_int | with_reducible exact leD_int | with_reducible exact ltD_int | with_reducible exact modD_of (by decide) | with_reducible exact mulD_r (by decide) | with_reducible exact mulD_l (by decide) | with_reducible exact powD_of (by decide) | with_reducible exact ix0 | ((with_reducible show ixD (.list _) (.int _) = _); rfl) | ((with_reducible show ixD (.tuple _) (.int _) = _); rfl)
  | with_reducible exact intC_int | with_reducible exact lenC_list | with_reducible exact lenC_tuple | with_reducible exact tupleC_list | with_reducible exact listC_tuple | with_reducible exact listC_dict | with_reducible exact isN_none | with_reducible exact isN_int | with_reducible exact notN_none | with_reducible exact notN_int | with_reducible exact min2_int | with_reducible exact max2_int | with_reducible exact slD_list | with_reducible exact slD_tuple | with_reducible exact neD_str | with_reducible exact max2_int))
local macro_rules | `(tactic| walk_at "m1") => `(tactic| (first
  | with_reducible refine iSq ?_ | with_reducible refine iThn ?_ | with_reducible refine iIfS ?_ | with_reducible refine iSet ?_ | with_reducible refine iSetB ?_ | with_reducible refine iSetO ?_ | with_reducible refine iRet ?_ | with_reducible refine iNx ?_ | with_reducible refine iThnR ?_
  | with_reducible refine iTest ?_ | with_reducible refine iOp2 ?_ | ((with_reducible refine' iPk ?h1 ?h2); (case h1 => rfl)) | with_reducible refine iV ?_ | with_reducible refine iC ?_ | ((with_reducible refine' iVar ?h1 ?h2); (case h1 => rfl))
  | with_reducible refine iCall ?_ | with_reducible refine iLs0 ?_ | with_reducible refine iLs ?_ | with_reducible refine iSub ?_ | with_reducible refine iSl ?_ | with_reducible refine iSome ?_ | with_reducible refine iNone ?_ | with_reducible refine iLst ?_ | with_reducible refine iTup ?_ | with_reducible refine iDs0 ?_ | with_reducible refine iDs ?_
  | with_reducible refine iAnd ?_ | with_reducible refine iOr ?_ | with_reducible refine iNot ?_ | with_reducible refine iBl ?_ | with_reducible refine iIf ?_ | with_reducible refine iDrop ?_ | with_reducible refine iYes ?_ | with_reducible refine iPar ?_
  | ((with_reducible refine' iAugS ?h1 ?h2); (case h1 => exact ⟨_, rfl⟩))
  | ((with_reducible refine' iPutE ?h1 ?h2 ?h3); (case h1 => rfl); (case h2 => rfl))
  | ((with_reducible refine' iOp2E ?h1 ?h2 ?h3 ?h4); (case h1 => rfl); (case h2 => rfl); (case h3 => walk_at "hf"))
  | ((with_reducible refine' iCallE ?h1 ?h2 ?h3); (case h1 => rfl); (case h2 => walk_at "hf"))
  | with_reducible refine ⟨sz0, ?_⟩ | with_reducible refine ⟨sz1, ?_⟩ | with_reducible refine ⟨sz2, ?_⟩ | with_reducible refine ⟨sz3, ?_⟩ | with_reducible refine ⟨sz4, ?_⟩ | with_reducible refine ⟨sz5, ?_⟩
  | (with_reducible refine ⟨_, rfl, ?_⟩)
  | ((with_reducible refine' ⟨_, ?h1, ?h2⟩); (case h1 => walk_at "hf"))
  | ((with_reducible refine' ⟨⟨_, ?h1⟩, ?h2⟩); (case h1 => rfl))
  | ((with_reducible refine' ⟨_, _, ?h1, ?h2, ?h3⟩); (case h1 => rfl); (case h2 => walk_at "hf"))
  | ((with_reducible refine' ⟨_, _, ?h1, ?h2, ?h3⟩); (case h1 => rfl); (case h2 => rfl))))
local macro_rules | `(tactic| walk_at "m2") => `(tactic| (first
  | walk_at "m1" | with_reducible refine iFn ?_ | ((with_reducible refine' iBag ?h1 ?h2); (case h1 => rfl)) | with_reducible refine iRng1 ?_ | with_reducible refine iRng2 ?_ | with_reducible refine wIt ?_ | ((with_reducible refine' iMut ?h1 ?h2); (case h1 => rfl)) | with_reducible refine iRel rfl ?_
  | with_reducible refine iRevS ?_ | with_reducible refine iIsi ?_ | with_reducible refine iOp1 ?_ | with_reducible refine iThn ?_))
theorem canLayAll_of {ds : List D} (h : ∀ d ∈ ds, d.canLay0 = true) : PyData.canLayAll0 ds = true := by
  induction ds with
  | nil => rw [PyData.canLayAll0]
  | cons d ds ih => rw [PyData.canLayAll0, h d (List.mem_cons_self ..), ih fun x hx => h x (List.mem_cons_of_mem _ hx)]; rfl
theorem nice_list {n k m : Nat} {ds : List D} (h : ∀ d ∈ ds, Fine n k d ∧ d.canLay0 = true) (hm : ds.length ≤ m) (hz : m * (n + 2) + 4 ≤ 16777216) (hk : k + 1 ≤ 60) : Nice (.list ds) := by
  have f := fine_list (fun d hd => (h d hd).1) hm
  exact ⟨by rw [PyData.canLay0]; exact canLayAll_of fun d hd => (h d hd).2, Nat.le_trans f.dp hk, f.can (by rw [sizeLine_eq]; exact hz) hk⟩
theorem fine_opt {o : Option Int} (h : ∀ v, o = some v → v.natAbs < 10 ^ 40) : Fine 41 0 (optD o) ∧ (optD o).canLay0 = true := by
  cases o with
  | none => exact ⟨fine_none.mono (by decide) (Nat.le_refl _), rfl⟩
  | some v => exact ⟨fine_int (h v rfl), rfl⟩
theorem nice_int {i : Int} (h : i.natAbs < 10 ^ 40) : Nice (.int i) := by
  have f := fine_int (k := 0) h
  exact ⟨rfl, Nat.le_trans f.dp (by decide), f.can (by rw [sizeLine_eq]; decide) (by decide)⟩
/-! ### what is shown -/
theorem fine_menu : ∀ d ∈ menuD, Fine 8 0 d := by
  intro d h
  have q : menuD.all (fun d => d.showable && decide (d.shown.length ≤ 8) && decide (d.depth ≤ 0)) = true := by decide +kernel
  have := List.all_eq_true.mp q d h
  simp only [Bool.and_eq_true, decide_eq_true_eq] at this
  exact ⟨this.1.1, this.1.2, this.2⟩
def pF : Nat → Nat
  | 0 => 172
  | k + 1 => 3 * (5 * (pF k + 2) + 4 + 2) + 4
theorem pF_ge : ∀ k, 172 ≤ pF k
  | 0 => Nat.le_refl _
  | k + 1 => by have := pF_ge k; show 172 ≤ 3 * (5 * (pF k + 2) + 4 + 2) + 4; omega
theorem fine_name {ss : List PyData} {l : PyData} (h : NameIn ss l) : Fine 8 0 l := fine_menu l h.1
theorem fine_str (x : Str) (h : (PyData.str x).shown.length ≤ 8) : Fine 8 0 (.str x) := ⟨rfl, h, Nat.le_refl _⟩
theorem fine_form {ss : List PyData} (h5 : ss.length ≤ 5) : ∀ (k : Nat) (d : PyData), FormOk ss 5 k d → Fine (pF k) (2 + 2 * k) d := by
  intro k
  have rk : ∀ (k : Nat) (d : PyData), RankOk ss d → Fine (pF k) (2 + 2 * k) d := by
    rintro k d ⟨ls, q, rfl, hl, hn, q1, q2⟩
    have lot : Fine 54 1 (.tuple ls) := fine_tuple (n := 8) (k := 0) (m := 5) (fun l h => fine_name (hn l h)) (by omega)
    have r : Fine 172 2 (.tuple [.str (Str.ofString "rank"), .tuple ls, .int q]) := fine_tuple (n := 54) (k := 1) (m := 3) (fun x hx => by
      rcases List.mem_cons.mp hx with rfl | hx
      · exact (fine_str _ (by decide +kernel)).mono (by decide) (by decide)
      rcases List.mem_cons.mp hx with rfl | hx
      · exact lot
      · rw [List.mem_singleton.mp hx]
        exact (fine_int (k := 1) (Nat.lt_of_le_of_lt (show q.natAbs ≤ 100 by omega) (by decide))).mono (by decide) (Nat.le_refl _)) (Nat.le_refl 3)
    exact r.mono (pF_ge k) (by omega)
  induction k with
  | zero =>
    intro d hf
    cases hf with
    | rank hr => exact rk 0 d hr
  | succ k ih =>
    intro d hf
    cases hf with
    | rank hr => exact rk (k + 1) d hr
    | @kth _ q ps q0 q1 hpl hps =>
      have parts : Fine (5 * (pF k + 2) + 4) (2 + 2 * k + 1) (.tuple ps) := fine_tuple (m := 5) (fun p hp => ih p (hps p hp)) hpl
      have g := pF_ge k
      have r : Fine (3 * (5 * (pF k + 2) + 4 + 2) + 4) (2 + 2 * k + 1 + 1) (.tuple [.str (Str.ofString "kth"), .int q, .tuple ps]) := fine_tuple (m := 3) (fun x hx => by
        rcases List.mem_cons.mp hx with rfl | hx
        · exact (fine_str _ (by decide +kernel)).mono (by omega) (by omega)
        rcases List.mem_cons.mp hx with rfl | hx
        · exact (fine_int (k := 1) (Nat.lt_of_le_of_lt (show q.natAbs ≤ 100 by omega) (by decide))).mono (by omega) (by omega)
        · rw [List.mem_singleton.mp hx]; exact parts) (Nat.le_refl 3)
      exact r.mono (Nat.le_refl _) (by omega)
theorem fine_H {h : House} (oh : HOk h) : Fine 679 2 h.d := fine_tuple (n := 133) (k := 1) (m := 5) (fun d hd => by
  obtain ⟨s, hs, rfl⟩ := List.mem_map.mp hd
  refine fine_tuple (n := 41) (k := 0) (m := 3) (fun x hx => ?_) (Nat.le_refl 3)
  rcases List.mem_cons.mp hx with rfl | hx
  · exact (fine_menu _ (menu_strD (oh.nm _ (List.mem_map_of_mem hs)))).mono (by decide) (Nat.le_refl _)
  rcases List.mem_cons.mp hx with rfl | hx
  · have := oh.lo s hs
    exact fine_int (Nat.lt_of_le_of_lt (show _ ≤ 6 by omega) (by decide))
  · rw [List.mem_singleton.mp hx]
    have hi := oh.hi s hs
    generalize s.hi = o at hi
    cases o with
    | none => exact fine_none.mono (by decide) (Nat.le_refl _)
    | some m =>
      have := hi m rfl
      exact fine_int (Nat.lt_of_le_of_lt (show _ ≤ 9 by omega) (by decide))) (by rw [List.length_map]; exact oh.l5)
theorem fine_F {h : House} (oh : HOk h) {w n : Nat} {f : Fm} (hw : w ≤ 5) (o : FOk h w n f) : Fine (pF n) (2 + 2 * n) f.d :=
  fine_form (ss := h.map Srt.d) (by rw [List.length_map]; exact oh.l5) n f.d (form_of oh (o.mono hw (Nat.le_refl n)))
theorem nice_of {n k : Nat} {d : D} (f : Fine n k d) (l : d.canLay0 = true) (hn : n ≤ 16777216) (hk : k ≤ 60) : Nice d :=
  ⟨l, Nat.le_trans f.dp hk, f.can (by rw [sizeLine_eq]; exact hn) hk⟩
theorem notN_opt (o : Option Int) : notND (optD o) .none = some (.bool o.isSome) := by cases o <;> rfl
end CF
end
section
/-! CT, part 10: dicts. -/
namespace CF
open PySem
section
variable {ρ : List Slot} {Q : D → List Slot → Prop} {vs : List Nat} {src : M (List D)} {b : D → M Unit} {ek ev : M D} {t : M Bool}
end
section
variable {ρ : List Slot} {Q : D → List Slot → Prop}
end
/-! ### merging dicts -/
def keysApart : List (D × D) → Prop
  | [] => True
  | p :: r => (∀ q ∈ r, keyEq p.1 q.1 = false) ∧ keysApart r
end CF
end
section
/-! CT, part 11: numbers replaced in tables. -/
namespace CF
open PySem
local macro_rules | `(tactic| walk_at "hf") => `(tactic| (first
  | with_reducible exact eqD_int | with_reducible exact eqD_str | with_reducible exact neD_int | with_reducible exact addD_int | with_reducible exact addI_int | with_reducible exact subD_int | with_reducible exact geD_int | with_reducible exact gtD_int | with_reducible exact leD_int | with_reducible exact ltD_int | with_reducible exact modD_of (by decide) | with_reducible exact mulD_r (by decide) | with_reducible exact mulD_l (by decide) | with_reducible exact powD_of (by decide) | with_reducible exact ix0 | ((with_reducible show ixD (.list _) (.int _) = _); rfl) | ((with_reducible show ixD (.tuple _) (.int _) = _); rfl)
  | with_reducible exact intC_int | with_reducible exact lenC_list | with_reducible exact lenC_tuple | with_reducible exact tupleC_list | with_reducible exact listC_tuple | with_reducible exact listC_dict | with_reducible exact isN_none | with_reducible exact isN_int | with_reducible exact notN_none | with_reducible exact notN_int | with_reducible exact min2_int | with_reducible exact max2_int | with_reducible exact slD_list | with_reducible exact slD_tuple | with_reducible exact neD_str | with_reducible exact max2_int))
local macro_rules | `(tactic| walk_at "m1") => `(tactic| (first
  | with_reducible refine iSq ?_ | with_reducible refine iThn ?_ | with_reducible refine iIfS ?_ | with_reducible refine iSet ?_ | with_reducible refine iSetB ?_ | with_reducible refine iSetO ?_ | with_reducible refine iRet ?_ | with_reducible refine iNx ?_ | with_reducible refine iThnR ?_
  | with_reducible refine iTest ?_ | with_reducible refine iOp2 ?_ | ((with_reducible refine' iPk ?h1 ?h2); (case h1 => rfl)) | with_reducible refine iV ?_ | with_reducible refine iC ?_ | ((with_reducible refine' iVar ?h1 ?h2); (case h1 => rfl))
  | with_reducible refine iCall ?_ | with_reducible refine iLs0 ?_ | with_reducible refine iLs ?_ | with_reducible refine iSub ?_ | with_reducible refine iSl ?_ | with_reducible refine iSome ?_ | with_reducible refine iNone ?_ | with_reducible refine iLst ?_ | with_reducible refine iTup ?_ | with_reducible refine iDs0 ?_ | with_reducible refine iDs ?_
  | with_reducible refine iAnd ?_ | with_reducible refine iOr ?_ | with_reducible refine iNot ?_ | with_reducible refine iBl ?_ | with_reducible refine iIf ?_ | with_reducible refine iDrop ?_ | with_reducible refine iYes ?_ | with_reducible refine iPar ?_
  | ((with_reducible refine' iAugS ?h1 ?h2); (case h1 => exact ⟨_, rfl⟩))
  | ((with_reducible refine' iPutE ?h1 ?h2 ?h3); (case h1 => rfl); (case h2 => rfl))
  | ((with_reducible refine' iOp2E ?h1 ?h2 ?h3 ?h4); (case h1 => rfl); (case h2 => rfl); (case h3 => walk_at "hf"))
  | ((with_reducible refine' iCallE ?h1 ?h2 ?h3); (case h1 => rfl); (case h2 => walk_at "hf"))
  | with_reducible refine ⟨sz0, ?_⟩ | with_reducible refine ⟨sz1, ?_⟩ | with_reducible refine ⟨sz2, ?_⟩ | with_reducible refine ⟨sz3, ?_⟩ | with_reducible refine ⟨sz4, ?_⟩ | with_reducible refine ⟨sz5, ?_⟩
  | (with_reducible refine ⟨_, rfl, ?_⟩)
  | ((with_reducible refine' ⟨_, ?h1, ?h2⟩); (case h1 => walk_at "hf"))
  | ((with_reducible refine' ⟨⟨_, ?h1⟩, ?h2⟩); (case h1 => rfl))
  | ((with_reducible refine' ⟨_, _, ?h1, ?h2, ?h3⟩); (case h1 => rfl); (case h2 => walk_at "hf"))
  | ((with_reducible refine' ⟨_, _, ?h1, ?h2, ?h3⟩); (case h1 => rfl); (case h2 => rfl))))
/-! ### keys apart -/
/-! ### dicts compared -/
theorem dic_eqB {es fs : List (D × D)} (h1 : ∀ p ∈ es, valOk p.2 = true) (h2 : ∀ p ∈ fs, valOk p.2 = true) : eqB (.dict es) (.dict fs) = some (es.length == fs.length && eqKs es fs) := by
  unfold eqB
  have e : stxD (.dict es) (.dict fs) = none := rfl
  have s : SeqAt.shaped (.dict es) = false := by unfold SeqAt.shaped; rw [PyData.canLay0]; rfl
  rw [e]
  simp only
  rw [s, Bool.false_and, if_neg Bool.false_ne_true]
  show dicB (.dict es) (.dict fs) = _
  unfold dicB
  simp only
  rw [if_pos]
  rw [Bool.and_eq_true, List.all_eq_true, List.all_eq_true]
  exact ⟨h1, h2⟩
theorem eqKs_of {es fs : List (D × D)} (h : ∀ p ∈ es, lookD fs p.1 = some p.2 ∧ valOk p.2 = true) : eqKs es fs = true := by
  unfold eqKs
  rw [List.all_eq_true]
  intro p hp
  obtain ⟨h1, h2⟩ := h p hp
  rw [h1]
  unfold valOk at h2
  rw [Bool.and_eq_true] at h2
  exact SeqAt.eqv_refl _ (SeqAt.canLay_of_shaped h2.1)
theorem look_apart : ∀ {es : List (D × D)}, keysApart es → (∀ p ∈ es, isKey p.1 = true) → ∀ p ∈ es, lookD es p.1 = some p.2
  | q :: es, ka, hk, p, hp => by
    obtain ⟨k, d⟩ := q
    unfold lookD
    rcases List.mem_cons.mp hp with rfl | hp
    · have : keyEq k k = true := by
        have := hk (k, d) (List.mem_cons_self ..)
        cases k <;> first | (cases this; done) | simp [keyEq]
      rw [if_pos this]
    · have h1 : keyEq k p.1 = false := ka.1 p hp
      rw [h1, if_neg Bool.false_ne_true]
      exact look_apart ka.2 (fun x hx => hk x (List.mem_cons_of_mem _ hx)) p hp
/-- a dict that may be compared and shown -/
structure NiceE (es : List (D × D)) : Prop where
  ap : keysApart es
  ke : ∀ p ∈ es, isKey p.1 = true
  va : ∀ p ∈ es, valOk p.2 = true
  sh : canShow (.dict es) = true
theorem NiceE.eq {es : List (D × D)} (h : NiceE es) : eqD (.dict es) (.dict es) = some (.bool true) := by
  unfold eqD
  rw [dic_eqB h.va h.va, eqKs_of fun p hp => ⟨look_apart h.ap h.ke p hp, h.va p hp⟩]
  simp
section
variable {h : House} {pool : List Int} {t : Tbl}
/-! ### numbers replaced -/
def MonoOn (φ : Int → Int) (pool : List Int) : Prop := ∀ a ∈ pool, ∀ b ∈ pool, a ≤ b → φ a ≤ φ b
theorem MonoOn.sub {φ : Int → Int} {ns : List Int} (m : MonoOn φ pool) (s : ∀ n ∈ ns, n ∈ pool) : MonoOn φ ns := fun a ha b hb => m a (s a ha) b (s b hb)
end
end CF
end
section
/-! CM2: rows of patterns: mathematics. -/
namespace CF
open PySem
local macro_rules | `(tactic| walk_at "hf") => `(tactic| (first
  | with_reducible exact eqD_int | with_reducible exact eqD_str | with_reducible exact neD_int | with_reducible exact addD_int | with_reducible exact addI_int | with_reducible exact subD_int | with_reducible exact geD_int | with_reducible exact gtD_int | with_reducible exact leD_int | with_reducible exact ltD_int | with_reducible exact modD_of (by decide) | with_reducible exact mulD_r (by decide) | with_reducible exact mulD_l (by decide) | with_reducible exact powD_of (by decide) | with_reducible exact ix0 | ((with_reducible show ixD (.list _) (.int _) = _); rfl) | ((with_reducible show ixD (.tuple _) (.int _) = _); rfl)
  | with_reducible exact intC_int | with_reducible exact lenC_list | with_reducible exact lenC_tuple | with_reducible exact tupleC_list | with_reducible exact listC_tuple | with_reducible exact listC_dict | with_reducible exact isN_none | with_reducible exact isN_int | with_reducible exact notN_none | with_reducible exact notN_int | with_reducible exact min2_int | with_reducible exact max2_int | with_reducible exact slD_list | with_reducible exact slD_tuple | with_reducible exact neD_str | with_reducible exact max2_int))
local macro_rules | `(tactic| walk_at "m1") => `(tactic| (first
  | with_reducible refine iSq ?_ | with_reducible refine iThn ?_ | with_reducible refine iIfS ?_ | with_reducible refine iSet ?_ | with_reducible refine iSetB ?_ | with_reducible refine iSetO ?_ | with_reducible refine iRet ?_ | with_reducible refine iNx ?_ | with_reducible refine iThnR ?_
  | with_reducible refine iTest ?_ | with_reducible refine iOp2 ?_ | ((with_reducible refine' iPk ?h1 ?h2); (case h1 => rfl)) | with_reducible refine iV ?_ | with_reducible refine iC ?_ | ((with_reducible refine' iVar ?h1 ?h2); (case h1 => rfl))
  | with_reducible refine iCall ?_ | with_reducible refine iLs0 ?_ | with_reducible refine iLs ?_ | with_reducible refine iSub ?_ | with_reducible refine iSl ?_ | with_reducible refine iSome ?_ | with_reducible refine iNone ?_ | with_reducible refine iLst ?_ | with_reducible refine iTup ?_ | with_reducible refine iDs0 ?_ | with_reducible refine iDs ?_
  | with_reducible refine iAnd ?_ | with_reducible refine iOr ?_ | with_reducible refine iNot ?_ | with_reducible refine iBl ?_ | with_reducible refine iIf ?_ | with_reducible refine iDrop ?_ | with_reducible refine iYes ?_ | with_reducible refine iPar ?_
  | ((with_reducible refine' iAugS ?h1 ?h2); (case h1 => exact ⟨_, rfl⟩))
  | ((with_reducible refine' iPutE ?h1 ?h2 ?h3); (case h1 => rfl); (case h2 => rfl))
  | ((with_reducible refine' iOp2E ?h1 ?h2 ?h3 ?h4); (case h1 => rfl); (case h2 => rfl); (case h3 => walk_at "hf"))
  | ((with_reducible refine' iCallE ?h1 ?h2 ?h3); (case h1 => rfl); (case h2 => walk_at "hf"))
  | with_reducible refine ⟨sz0, ?_⟩ | with_reducible refine ⟨sz1, ?_⟩ | with_reducible refine ⟨sz2, ?_⟩ | with_reducible refine ⟨sz3, ?_⟩ | with_reducible refine ⟨sz4, ?_⟩ | with_reducible refine ⟨sz5, ?_⟩
  | (with_reducible refine ⟨_, rfl, ?_⟩)
  | ((with_reducible refine' ⟨_, ?h1, ?h2⟩); (case h1 => walk_at "hf"))
  | ((with_reducible refine' ⟨⟨_, ?h1⟩, ?h2⟩); (case h1 => rfl))
  | ((with_reducible refine' ⟨_, _, ?h1, ?h2, ?h3⟩); (case h1 => rfl); (case h2 => walk_at "hf"))
  | ((with_reducible refine' ⟨_, _, ?h1, ?h2, ?h3⟩); (case h1 => rfl); (case h2 => rfl))))
/-! ### pressed rows -/
def Stair (m : Nat) : Nat → List Nat → Prop
  | j, [] => j = m
  | j, k :: ks => (k = j ∨ k = j + 1) ∧ Stair m k ks
theorem Stair.le {m : Nat} : ∀ {js : List Nat} {j : Nat}, Stair m j js → j ≤ m
  | [], _, h => Nat.le_of_eq h
  | k :: ks, j, h => by
    have := Stair.le h.2
    rcases h.1 with e | e <;> omega
/-! ### values in order -/
section
variable {A : Type} (as : List A) (v : A → Option Int)
variable {as v}
end
section
variable {A : Type} {as : List A} {v v' : A → Option Int}
end
end CF
end
section
/-! CT, part 12: further steps. -/
namespace CF
open PySem
local macro_rules | `(tactic| walk_at "hf") => `(tactic| (first
  | with_reducible exact eqD_int | with_reducible exact eqD_str | with_reducible exact neD_int | with_reducible exact addD_int | with_reducible exact addI_int | with_reducible exact subD_int | with_reducible exact geD_int | with_reducible exact gtD_int | with_reducible exact leD_int | with_reducible exact ltD_int | with_reducible exact modD_of (by decide) | with_reducible exact mulD_r (by decide) | with_reducible exact mulD_l (by decide) | with_reducible exact powD_of (by decide) | with_reducible exact ix0 | ((with_reducible show ixD (.list _) (.int _) = _); rfl) | ((with_reducible show ixD (.tuple _) (.int _) = _); rfl)
  | with_reducible exact intC_int | with_reducible exact lenC_list | with_reducible exact lenC_tuple | with_reducible exact tupleC_list | with_reducible exact listC_tuple | with_reducible exact listC_dict | with_reducible exact isN_none | with_reducible exact isN_int | with_reducible exact notN_none | with_reducible exact notN_int | with_reducible exact min2_int | with_reducible exact max2_int | with_reducible exact slD_list | with_reducible exact slD_tuple | with_reducible exact neD_str | with_reducible exact max2_int))
local macro_rules | `(tactic| walk_at "m1") => `(tactic| (first
  | with_reducible refine iSq ?_ | with_reducible refine iThn ?_ | with_reducible refine iIfS ?_ | with_reducible refine iSet ?_ | with_reducible refine iSetB ?_ | with_reducible refine iSetO ?_ | with_reducible refine iRet ?_ | with_reducible refine iNx ?_ | with_reducible refine iThnR ?_
  | with_reducible refine iTest ?_ | with_reducible refine iOp2 ?_ | ((with_reducible refine' iPk ?h1 ?h2); (case h1 => rfl)) | with_reducible refine iV ?_ | with_reducible refine iC ?_ | ((with_reducible refine' iVar ?h1 ?h2); (case h1 => rfl))
  | with_reducible refine iCall ?_ | with_reducible refine iLs0 ?_ | with_reducible refine iLs ?_ | with_reducible refine iSub ?_ | with_reducible refine iSl ?_ | with_reducible refine iSome ?_ | with_reducible refine iNone ?_ | with_reducible refine iLst ?_ | with_reducible refine iTup ?_ | with_reducible refine iDs0 ?_ | with_reducible refine iDs ?_
  | with_reducible refine iAnd ?_ | with_reducible refine iOr ?_ | with_reducible refine iNot ?_ | with_reducible refine iBl ?_ | with_reducible refine iIf ?_ | with_reducible refine iDrop ?_ | with_reducible refine iYes ?_ | with_reducible refine iPar ?_
  | ((with_reducible refine' iAugS ?h1 ?h2); (case h1 => exact ⟨_, rfl⟩))
  | ((with_reducible refine' iPutE ?h1 ?h2 ?h3); (case h1 => rfl); (case h2 => rfl))
  | ((with_reducible refine' iOp2E ?h1 ?h2 ?h3 ?h4); (case h1 => rfl); (case h2 => rfl); (case h3 => walk_at "hf"))
  | ((with_reducible refine' iCallE ?h1 ?h2 ?h3); (case h1 => rfl); (case h2 => walk_at "hf"))
  | with_reducible refine ⟨sz0, ?_⟩ | with_reducible refine ⟨sz1, ?_⟩ | with_reducible refine ⟨sz2, ?_⟩ | with_reducible refine ⟨sz3, ?_⟩ | with_reducible refine ⟨sz4, ?_⟩ | with_reducible refine ⟨sz5, ?_⟩
  | (with_reducible refine ⟨_, rfl, ?_⟩)
  | ((with_reducible refine' ⟨_, ?h1, ?h2⟩); (case h1 => walk_at "hf"))
  | ((with_reducible refine' ⟨⟨_, ?h1⟩, ?h2⟩); (case h1 => rfl))
  | ((with_reducible refine' ⟨_, _, ?h1, ?h2, ?h3⟩); (case h1 => rfl); (case h2 => walk_at "hf"))
  | ((with_reducible refine' ⟨_, _, ?h1, ?h2, ?h3⟩); (case h1 => rfl); (case h2 => rfl))))
/-! ### steps -/
section
variable {ρ : List Slot} {Q : D → List Slot → Prop} {m : M LV}
theorem iIsi {T : String} (h : wp m ρ fun x ρ1 => ∃ d r, lv x ρ1 = some d ∧ isiD T d = some r ∧ Q r ρ1) : wp (mIsi T m) ρ Q := by
  unfold mIsi
  simp only [wp_bind, wp_get, wp_lift]
  exact h.mono fun x ρ1 ⟨d, r, h1, h2, q⟩ => ⟨d, h1, r, h2, q⟩
theorem iRevS (h : wp m ρ fun x ρ1 => ∃ d r, lv x ρ1 = some d ∧ revD d = some r ∧ Q r ρ1) : wp (mRevS m) ρ Q := by
  unfold mRevS
  simp only [wp_bind, wp_get, wp_lift]
  exact h.mono fun x ρ1 ⟨d, r, h1, h2, q⟩ => ⟨d, h1, r, h2, q⟩
end
end CF
end
section
namespace CF
open PySem
local macro_rules | `(tactic| walk_at "hf") => `(tactic| (first
  | with_reducible exact eqD_int | with_reducible exact eqD_str | with_reducible exact neD_int | with_reducible exact addD_int | with_reducible exact addI_int | with_reducible exact subD_int | with_reducible exact geD_int | with_reducible exact gtD_int | with_reducible exact leD_int | with_reducible exact ltD_int | with_reducible exact modD_of (by decide) | with_reducible exact mulD_r (by decide) | with_reducible exact mulD_l (by decide) | with_reducible exact powD_of (by decide) | with_reducible exact ix0 | ((with_reducible show ixD (.list _) (.int _) = _); rfl) | ((with_reducible show ixD (.tuple _) (.int _) = _); rfl)
  | with_reducible exact intC_int | with_reducible exact lenC_list | with_reducible exact lenC_tuple | with_reducible exact tupleC_list | with_reducible exact listC_tuple | with_reducible exact listC_dict | with_reducible exact isN_none | with_reducible exact isN_int | with_reducible exact notN_none | with_reducible exact notN_int | with_reducible exact min2_int | with_reducible exact max2_int | with_reducible exact slD_list | with_reducible exact slD_tuple | with_reducible exact neD_str | with_reducible exact max2_int))
local macro_rules | `(tactic| walk_at "m1") => `(tactic| (first
  | with_reducible refine iSq ?_ | with_reducible refine iThn ?_ | with_reducible refine iIfS ?_ | with_reducible refine iSet ?_ | with_reducible refine iSetB ?_ | with_reducible refine iSetO ?_ | with_reducible refine iRet ?_ | with_reducible refine iNx ?_ | with_reducible refine iThnR ?_
  | with_reducible refine iTest ?_ | with_reducible refine iOp2 ?_ | ((with_reducible refine' iPk ?h1 ?h2); (case h1 => rfl)) | with_reducible refine iV ?_ | with_reducible refine iC ?_ | ((with_reducible refine' iVar ?h1 ?h2); (case h1 => rfl))
  | with_reducible refine iCall ?_ | with_reducible refine iLs0 ?_ | with_reducible refine iLs ?_ | with_reducible refine iSub ?_ | with_reducible refine iSl ?_ | with_reducible refine iSome ?_ | with_reducible refine iNone ?_ | with_reducible refine iLst ?_ | with_reducible refine iTup ?_ | with_reducible refine iDs0 ?_ | with_reducible refine iDs ?_
  | with_reducible refine iAnd ?_ | with_reducible refine iOr ?_ | with_reducible refine iNot ?_ | with_reducible refine iBl ?_ | with_reducible refine iIf ?_ | with_reducible refine iDrop ?_ | with_reducible refine iYes ?_ | with_reducible refine iPar ?_
  | ((with_reducible refine' iAugS ?h1 ?h2); (case h1 => exact ⟨_, rfl⟩))
  | ((with_reducible refine' iPutE ?h1 ?h2 ?h3); (case h1 => rfl); (case h2 => rfl))
  | ((with_reducible refine' iOp2E ?h1 ?h2 ?h3 ?h4); (case h1 => rfl); (case h2 => rfl); (case h3 => walk_at "hf"))
  | ((with_reducible refine' iCallE ?h1 ?h2 ?h3); (case h1 => rfl); (case h2 => walk_at "hf"))
  | with_reducible refine ⟨sz0, ?_⟩ | with_reducible refine ⟨sz1, ?_⟩ | with_reducible refine ⟨sz2, ?_⟩ | with_reducible refine ⟨sz3, ?_⟩ | with_reducible refine ⟨sz4, ?_⟩ | with_reducible refine ⟨sz5, ?_⟩
  | (with_reducible refine ⟨_, rfl, ?_⟩)
  | ((with_reducible refine' ⟨_, ?h1, ?h2⟩); (case h1 => walk_at "hf"))
  | ((with_reducible refine' ⟨⟨_, ?h1⟩, ?h2⟩); (case h1 => rfl))
  | ((with_reducible refine' ⟨_, _, ?h1, ?h2, ?h3⟩); (case h1 => rfl); (case h2 => walk_at "hf"))
  | ((with_reducible refine' ⟨_, _, ?h1, ?h2, ?h3⟩); (case h1 => rfl); (case h2 => rfl))))
theorem iNorm {α : Type} {m : M α} {ρ ρ' : List CF.Slot} {Q : α → List CF.Slot → Prop} (e : ρ = ρ') (h : wp m ρ' Q) : wp m ρ Q := e ▸ h
def part (n : Nat) : D → Bool
  | .tuple ds => ds.length == n && ds.all isI
  | _ => false
end CF
end
section
namespace CF
open PySem
local macro_rules | `(tactic| walk_at "hf") => `(tactic| (first
  | with_reducible exact eqD_int | with_reducible exact eqD_str | with_reducible exact neD_int | with_reducible exact addD_int | with_reducible exact addI_int | with_reducible exact subD_int | with_reducible exact geD_int | with_reducible exact gtD_int | with_reducible exact leD_int | with_reducible exact ltD_int | with_reducible exact modD_of (by decide) | with_reducible exact mulD_r (by decide) | with_reducible exact mulD_l (by decide) | with_reducible exact powD_of (by decide) | with_reducible exact ix0 | ((with_reducible show ixD (.list _) (.int _) = _); rfl) | ((with_reducible show ixD (.tuple _) (.int _) = _); rfl)
  | with_reducible exact intC_int | with_reducible exact lenC_list | with_reducible exact lenC_tuple | with_reducible exact tupleC_list | with_reducible exact listC_tuple | with_reducible exact listC_dict | with_reducible exact isN_none | with_reducible exact isN_int | with_reducible exact notN_none | with_reducible exact notN_int | with_reducible exact min2_int | with_reducible exact max2_int | with_reducible exact slD_list | with_reducible exact slD_tuple | with_reducible exact neD_str | with_reducible exact max2_int))
local macro_rules | `(tactic| walk_at "m1") => `(tactic| (first
  | with_reducible refine iSq ?_ | with_reducible refine iThn ?_ | with_reducible refine iIfS ?_ | with_reducible refine iSet ?_ | with_reducible refine iSetB ?_ | with_reducible refine iSetO ?_ | with_reducible refine iRet ?_ | with_reducible refine iNx ?_ | with_reducible refine iThnR ?_
  | with_reducible refine iTest ?_ | with_reducible refine iOp2 ?_ | ((with_reducible refine' iPk ?h1 ?h2); (case h1 => rfl)) | with_reducible refine iV ?_ | with_reducible refine iC ?_ | ((with_reducible refine' iVar ?h1 ?h2); (case h1 => rfl))
  | with_reducible refine iCall ?_ | with_reducible refine iLs0 ?_ | with_reducible refine iLs ?_ | with_reducible refine iSub ?_ | with_reducible refine iSl ?_ | with_reducible refine iSome ?_ | with_reducible refine iNone ?_ | with_reducible refine iLst ?_ | with_reducible refine iTup ?_ | with_reducible refine iDs0 ?_ | with_reducible refine iDs ?_
  | with_reducible refine iAnd ?_ | with_reducible refine iOr ?_ | with_reducible refine iNot ?_ | with_reducible refine iBl ?_ | with_reducible refine iIf ?_ | with_reducible refine iDrop ?_ | with_reducible refine iYes ?_ | with_reducible refine iPar ?_
  | ((with_reducible refine' iAugS ?h1 ?h2); (case h1 => exact ⟨_, rfl⟩))
  | ((with_reducible refine' iPutE ?h1 ?h2 ?h3); (case h1 => rfl); (case h2 => rfl))
  | ((with_reducible refine' iOp2E ?h1 ?h2 ?h3 ?h4); (case h1 => rfl); (case h2 => rfl); (case h3 => walk_at "hf"))
  | ((with_reducible refine' iCallE ?h1 ?h2 ?h3); (case h1 => rfl); (case h2 => walk_at "hf"))
  | with_reducible refine ⟨sz0, ?_⟩ | with_reducible refine ⟨sz1, ?_⟩ | with_reducible refine ⟨sz2, ?_⟩ | with_reducible refine ⟨sz3, ?_⟩ | with_reducible refine ⟨sz4, ?_⟩ | with_reducible refine ⟨sz5, ?_⟩
  | (with_reducible refine ⟨_, rfl, ?_⟩)
  | ((with_reducible refine' ⟨_, ?h1, ?h2⟩); (case h1 => walk_at "hf"))
  | ((with_reducible refine' ⟨⟨_, ?h1⟩, ?h2⟩); (case h1 => rfl))
  | ((with_reducible refine' ⟨_, _, ?h1, ?h2, ?h3⟩); (case h1 => rfl); (case h2 => walk_at "hf"))
  | ((with_reducible refine' ⟨_, _, ?h1, ?h2, ?h3⟩); (case h1 => rfl); (case h2 => rfl))))
end CF
end
section
namespace CF
open PySem
local macro_rules | `(tactic| walk_at "hf") => `(tactic| (first
  | with_reducible exact eqD_int | with_reducible exact eqD_str | with_reducible exact neD_int | with_reducible exact addD_int | with_reducible exact addI_int | with_reducible exact subD_int | with_reducible exact geD_int | with_reducible exact gtD_int | with_reducible exact leD_int | with_reducible exact ltD_int | with_reducible exact modD_of (by decide) | with_reducible exact mulD_r (by decide) | with_reducible exact mulD_l (by decide) | with_reducible exact powD_of (by decide) | with_reducible exact ix0 | ((with_reducible show ixD (.list _) (.int _) = _); rfl) | ((with_reducible show ixD (.tuple _) (.int _) = _); rfl)
  | with_reducible exact intC_int | with_reducible exact lenC_list | with_reducible exact lenC_tuple | with_reducible exact tupleC_list | with_reducible exact listC_tuple | with_reducible exact listC_dict | with_reducible exact isN_none | with_reducible exact isN_int | with_reducible exact notN_none | with_reducible exact notN_int | with_reducible exact min2_int | with_reducible exact max2_int | with_reducible exact slD_list | with_reducible exact slD_tuple | with_reducible exact neD_str | with_reducible exact max2_int))
local macro_rules | `(tactic| walk_at "m1") => `(tactic| (first
  | with_reducible refine iSq ?_ | with_reducible refine iThn ?_ | with_reducible refine iIfS ?_ | with_reducible refine iSet ?_ | with_reducible refine iSetB ?_ | with_reducible refine iSetO ?_ | with_reducible refine iRet ?_ | with_reducible refine iNx ?_ | with_reducible refine iThnR ?_
  | with_reducible refine iTest ?_ | with_reducible refine iOp2 ?_ | ((with_reducible refine' iPk ?h1 ?h2); (case h1 => rfl)) | with_reducible refine iV ?_ | with_reducible refine iC ?_ | ((with_reducible refine' iVar ?h1 ?h2); (case h1 => rfl))
  | with_reducible refine iCall ?_ | with_reducible refine iLs0 ?_ | with_reducible refine iLs ?_ | with_reducible refine iSub ?_ | with_reducible refine iSl ?_ | with_reducible refine iSome ?_ | with_reducible refine iNone ?_ | with_reducible refine iLst ?_ | with_reducible refine iTup ?_ | with_reducible refine iDs0 ?_ | with_reducible refine iDs ?_
  | with_reducible refine iAnd ?_ | with_reducible refine iOr ?_ | with_reducible refine iNot ?_ | with_reducible refine iBl ?_ | with_reducible refine iIf ?_ | with_reducible refine iDrop ?_ | with_reducible refine iYes ?_ | with_reducible refine iPar ?_
  | ((with_reducible refine' iAugS ?h1 ?h2); (case h1 => exact ⟨_, rfl⟩))
  | ((with_reducible refine' iPutE ?h1 ?h2 ?h3); (case h1 => rfl); (case h2 => rfl))
  | ((with_reducible refine' iOp2E ?h1 ?h2 ?h3 ?h4); (case h1 => rfl); (case h2 => rfl); (case h3 => walk_at "hf"))
  | ((with_reducible refine' iCallE ?h1 ?h2 ?h3); (case h1 => rfl); (case h2 => walk_at "hf"))
  | with_reducible refine ⟨sz0, ?_⟩ | with_reducible refine ⟨sz1, ?_⟩ | with_reducible refine ⟨sz2, ?_⟩ | with_reducible refine ⟨sz3, ?_⟩ | with_reducible refine ⟨sz4, ?_⟩ | with_reducible refine ⟨sz5, ?_⟩
  | (with_reducible refine ⟨_, rfl, ?_⟩)
  | ((with_reducible refine' ⟨_, ?h1, ?h2⟩); (case h1 => walk_at "hf"))
  | ((with_reducible refine' ⟨⟨_, ?h1⟩, ?h2⟩); (case h1 => rfl))
  | ((with_reducible refine' ⟨_, _, ?h1, ?h2, ?h3⟩); (case h1 => rfl); (case h2 => walk_at "hf"))
  | ((with_reducible refine' ⟨_, _, ?h1, ?h2, ?h3⟩); (case h1 => rfl); (case h2 => rfl))))
theorem lay_rowD (ns : List Int) : (rowD ns).canLay0 = true := by
  unfold rowD
  rw [PyData.canLay0]
  exact canLayAll_of fun d hd => by obtain ⟨n, _, rfl⟩ := List.mem_map.mp hd; rfl
theorem dep_rowD (ns : List Int) : (rowD ns).depth ≤ 1 := by
  unfold rowD
  rw [PyData.depth]
  refine Nat.succ_le_succ (depthAll_le fun d hd => ?_)
  obtain ⟨b, _, rfl⟩ := List.mem_map.mp hd
  exact Nat.le_refl _
theorem sh_rowsT (ws : List (List Int)) : SeqAt.shaped (.tuple (ws.map rowD)) = true := by
  have l : (PyData.tuple (ws.map rowD)).canLay0 = true := by
    rw [PyData.canLay0]
    exact canLayAll_of fun d hd => by obtain ⟨n, _, rfl⟩ := List.mem_map.mp hd; exact lay_rowD n
  have d : (PyData.tuple (ws.map rowD)).depth ≤ 2 := by
    rw [PyData.depth]
    refine Nat.succ_le_succ (depthAll_le fun d hd => ?_)
    obtain ⟨b, _, rfl⟩ := List.mem_map.mp hd
    exact dep_rowD b
  unfold SeqAt.shaped
  rw [l, decide_eq_true (Nat.le_trans d (by decide))]
  rfl
theorem eqB_shT {d e : D} (hs : stxD d e = none) (h1 : SeqAt.shaped d = true) (h2 : SeqAt.shaped e = true) : eqB d e = some (PyData.eqv d e) := by
  unfold eqB
  rw [hs]
  simp only
  rw [if_pos (by rw [h1, h2]; rfl)]
/-! ### sorted rows -/
theorem cutL_fromT {α : Type} (xs : List α) (k : Nat) : cutL xs (some (k : Int)) none = xs.drop k := by
  unfold cutL
  rw [HT.sIx_nat, HT.sIx_none]
  rcases Nat.le_total k xs.length with h | h
  · rw [Nat.min_eq_left h]
    exact List.take_of_length_le (by rw [List.length_drop]; exact Nat.le_refl _)
  · rw [Nat.min_eq_right h, Nat.sub_self, List.take_zero, List.drop_eq_nil_of_le h]
theorem addD_tup {a b : List D} (h : a.length + b.length ≤ 1000) : addD (.tuple a) (.tuple b) = some (.tuple (a ++ b)) := if_pos (by rw [sizeLine_eq]; omega)
end CF
end
section
namespace CF
open PySem
local macro_rules | `(tactic| walk_at "hf") => `(tactic| (first
  | with_reducible exact eqD_int | with_reducible exact eqD_str | with_reducible exact neD_int | with_reducible exact addD_int | with_reducible exact addI_int | with_reducible exact subD_int | with_reducible exact geD_int | with_reducible exact gtD_int | with_reducible exact leD_int | with_reducible exact ltD_int | with_reducible exact modD_of (by decide) | with_reducible exact mulD_r (by decide) | with_reducible exact mulD_l (by decide) | with_reducible exact powD_of (by decide) | with_reducible exact ix0 | ((with_reducible show ixD (.list _) (.int _) = _); rfl) | ((with_reducible show ixD (.tuple _) (.int _) = _); rfl)
  | with_reducible exact intC_int | with_reducible exact lenC_list | with_reducible exact lenC_tuple | with_reducible exact tupleC_list | with_reducible exact listC_tuple | with_reducible exact listC_dict | with_reducible exact isN_none | with_reducible exact isN_int | with_reducible exact notN_none | with_reducible exact notN_int | with_reducible exact min2_int | with_reducible exact max2_int | with_reducible exact slD_list | with_reducible exact slD_tuple | with_reducible exact neD_str | with_reducible exact max2_int))
local macro_rules | `(tactic| walk_at "m1") => `(tactic| (first
  | with_reducible refine iSq ?_ | with_reducible refine iThn ?_ | with_reducible refine iIfS ?_ | with_reducible refine iSet ?_ | with_reducible refine iSetB ?_ | with_reducible refine iSetO ?_ | with_reducible refine iRet ?_ | with_reducible refine iNx ?_ | with_reducible refine iThnR ?_
  | with_reducible refine iTest ?_ | with_reducible refine iOp2 ?_ | ((with_reducible refine' iPk ?h1 ?h2); (case h1 => rfl)) | with_reducible refine iV ?_ | with_reducible refine iC ?_ | ((with_reducible refine' iVar ?h1 ?h2); (case h1 => rfl))
  | with_reducible refine iCall ?_ | with_reducible refine iLs0 ?_ | with_reducible refine iLs ?_ | with_reducible refine iSub ?_ | with_reducible refine iSl ?_ | with_reducible refine iSome ?_ | with_reducible refine iNone ?_ | with_reducible refine iLst ?_ | with_reducible refine iTup ?_ | with_reducible refine iDs0 ?_ | with_reducible refine iDs ?_
  | with_reducible refine iAnd ?_ | with_reducible refine iOr ?_ | with_reducible refine iNot ?_ | with_reducible refine iBl ?_ | with_reducible refine iIf ?_ | with_reducible refine iDrop ?_ | with_reducible refine iYes ?_ | with_reducible refine iPar ?_
  | ((with_reducible refine' iAugS ?h1 ?h2); (case h1 => exact ⟨_, rfl⟩))
  | ((with_reducible refine' iPutE ?h1 ?h2 ?h3); (case h1 => rfl); (case h2 => rfl))
  | ((with_reducible refine' iOp2E ?h1 ?h2 ?h3 ?h4); (case h1 => rfl); (case h2 => rfl); (case h3 => walk_at "hf"))
  | ((with_reducible refine' iCallE ?h1 ?h2 ?h3); (case h1 => rfl); (case h2 => walk_at "hf"))
  | with_reducible refine ⟨sz0, ?_⟩ | with_reducible refine ⟨sz1, ?_⟩ | with_reducible refine ⟨sz2, ?_⟩ | with_reducible refine ⟨sz3, ?_⟩ | with_reducible refine ⟨sz4, ?_⟩ | with_reducible refine ⟨sz5, ?_⟩
  | (with_reducible refine ⟨_, rfl, ?_⟩)
  | ((with_reducible refine' ⟨_, ?h1, ?h2⟩); (case h1 => walk_at "hf"))
  | ((with_reducible refine' ⟨⟨_, ?h1⟩, ?h2⟩); (case h1 => rfl))
  | ((with_reducible refine' ⟨_, _, ?h1, ?h2, ?h3⟩); (case h1 => rfl); (case h2 => walk_at "hf"))
  | ((with_reducible refine' ⟨_, _, ?h1, ?h2, ?h3⟩); (case h1 => rfl); (case h2 => rfl))))
end CF
end
section
namespace CF
open PySem
local macro_rules | `(tactic| walk_at "hf") => `(tactic| (first
  | with_reducible exact eqD_int | with_reducible exact eqD_str | with_reducible exact neD_int | with_reducible exact addD_int | with_reducible exact addI_int | with_reducible exact subD_int | with_reducible exact geD_int | with_reducible exact gtD_int | with_reducible exact leD_int | with_reducible exact ltD_int | with_reducible exact modD_of (by decide) | with_reducible exact mulD_r (by decide) | with_reducible exact mulD_l (by decide) | with_reducible exact powD_of (by decide) | with_reducible exact ix0 | ((with_reducible show ixD (.list _) (.int _) = _); rfl) | ((with_reducible show ixD (.tuple _) (.int _) = _); rfl)
  | with_reducible exact intC_int | with_reducible exact lenC_list | with_reducible exact lenC_tuple | with_reducible exact tupleC_list | with_reducible exact listC_tuple | with_reducible exact listC_dict | with_reducible exact isN_none | with_reducible exact isN_int | with_reducible exact notN_none | with_reducible exact notN_int | with_reducible exact min2_int | with_reducible exact max2_int | with_reducible exact slD_list | with_reducible exact slD_tuple | with_reducible exact neD_str | with_reducible exact max2_int))
local macro_rules | `(tactic| walk_at "m1") => `(tactic| (first
  | with_reducible refine iSq ?_ | with_reducible refine iThn ?_ | with_reducible refine iIfS ?_ | with_reducible refine iSet ?_ | with_reducible refine iSetB ?_ | with_reducible refine iSetO ?_ | with_reducible refine iRet ?_ | with_reducible refine iNx ?_ | with_reducible refine iThnR ?_
  | with_reducible refine iTest ?_ | with_reducible refine iOp2 ?_ | ((with_reducible refine' iPk ?h1 ?h2); (case h1 => rfl)) | with_reducible refine iV ?_ | with_reducible refine iC ?_ | ((with_reducible refine' iVar ?h1 ?h2); (case h1 => rfl))
  | with_reducible refine iCall ?_ | with_reducible refine iLs0 ?_ | with_reducible refine iLs ?_ | with_reducible refine iSub ?_ | with_reducible refine iSl ?_ | with_reducible refine iSome ?_ | with_reducible refine iNone ?_ | with_reducible refine iLst ?_ | with_reducible refine iTup ?_ | with_reducible refine iDs0 ?_ | with_reducible refine iDs ?_
  | with_reducible refine iAnd ?_ | with_reducible refine iOr ?_ | with_reducible refine iNot ?_ | with_reducible refine iBl ?_ | with_reducible refine iIf ?_ | with_reducible refine iDrop ?_ | with_reducible refine iYes ?_ | with_reducible refine iPar ?_
  | ((with_reducible refine' iAugS ?h1 ?h2); (case h1 => exact ⟨_, rfl⟩))
  | ((with_reducible refine' iPutE ?h1 ?h2 ?h3); (case h1 => rfl); (case h2 => rfl))
  | ((with_reducible refine' iOp2E ?h1 ?h2 ?h3 ?h4); (case h1 => rfl); (case h2 => rfl); (case h3 => walk_at "hf"))
  | ((with_reducible refine' iCallE ?h1 ?h2 ?h3); (case h1 => rfl); (case h2 => walk_at "hf"))
  | with_reducible refine ⟨sz0, ?_⟩ | with_reducible refine ⟨sz1, ?_⟩ | with_reducible refine ⟨sz2, ?_⟩ | with_reducible refine ⟨sz3, ?_⟩ | with_reducible refine ⟨sz4, ?_⟩ | with_reducible refine ⟨sz5, ?_⟩
  | (with_reducible refine ⟨_, rfl, ?_⟩)
  | ((with_reducible refine' ⟨_, ?h1, ?h2⟩); (case h1 => walk_at "hf"))
  | ((with_reducible refine' ⟨⟨_, ?h1⟩, ?h2⟩); (case h1 => rfl))
  | ((with_reducible refine' ⟨_, _, ?h1, ?h2, ?h3⟩); (case h1 => rfl); (case h2 => walk_at "hf"))
  | ((with_reducible refine' ⟨_, _, ?h1, ?h2, ?h3⟩); (case h1 => rfl); (case h2 => rfl))))
end CF
end
section
/-! CT18: steps of the mirrors of sets and ranges -/
namespace CF
open PySem
end CF
end
section
/-! CT, part 19: steps for sets of whole numbers and for sorting by keys. -/
namespace CF
open PySem
theorem iSetI0 {ρ : List CF.Slot} {i : Nat} {Q : RS → List CF.Slot → Prop} (h : Q .nx (ρ.set i (.ob (.iset [])))) : wp (mSetI0 i) ρ Q := ⟨_, _, rfl, h⟩
theorem iAddI {ρ : List CF.Slot} {i : Nat} {m : M D} {Q : D → List CF.Slot → Prop} (h0 : isIs ρ[i]? = true) (h : wp m ρ fun d ρ1 => ∃ k ns, d = .int k ∧ ρ1[i]? = some (.ob (.iset ns)) ∧ ns.length + 2 < scanBound ∧ ((ρ1.set i .un).all fun s => !isOb s) = true ∧ Q .none (ρ1.set i (.ob (.iset (k :: ns))))) : wp (mAddI i m) ρ Q := by
  suffices z : wp (m >>= addGo i) ρ Q by
    obtain ⟨a, ρ', e, q⟩ := z
    exact ⟨a, ρ', (if_pos h0).trans e, q⟩
  refine wp_bind.mpr (h.mono ?_)
  rintro d ρ1 ⟨k, ns, rfl, e, h1, h2, q⟩
  refine ⟨_, _, ?_, q⟩
  unfold addGo
  rw [e]
  exact if_pos ⟨h1, h2⟩
theorem iSortI {ρ : List CF.Slot} {i : Nat} {ns : List Int} {Q : D → List CF.Slot → Prop} (e : ρ[i]? = some (.ob (.iset ns))) (hl : ns.length < 64) (h : Q (.list ((sset ns).map PyData.int)) ρ) : wp (mSortI i) ρ Q := by
  refine ⟨_, _, ?_, h⟩
  unfold mSortI
  rw [e]
  exact if_pos hl
theorem keysGo_of {α : Type} {mb : M D} {i : Nat} {e kf : α → D} {ρ : List CF.Slot} (un : ρ[i]? = some .un) : ∀ {xs : List α}, (∀ x ∈ xs, wp mb (ρ.set i (.dat (e x))) fun k ρ2 => k = kf x ∧ ρ2 = ρ.set i (.dat (e x))) → keysGo mb i (xs.map e) ρ = some (.ok (xs.map kf) ρ)
  | [], _ => rfl
  | x :: xs, h => by
    obtain ⟨k, ρ2, e1, rfl, rfl⟩ := h x (List.mem_cons_self ..)
    have ih := keysGo_of (mb := mb) un (xs := xs) fun y hy => h y (List.mem_cons_of_mem _ hy)
    have back : (ρ.set i (.dat (e x))).set i .un = ρ := by
      rw [List.set_set]
      obtain ⟨hi, q⟩ := List.getElem?_eq_some_iff.mp un
      rw [← q, List.set_getElem_self]
    rw [List.map_cons, List.map_cons]
    unfold keysGo
    rw [e1]
    simp only
    rw [back, ih]
theorem sortBy_map {α : Type} {e kf : α → D} (xs : List α) : sortBy (xs.map e) (xs.map kf) = (xs.mergeSort (PySem.W.dataLe false kf)).map e := by
  unfold sortBy
  have z : (xs.map e).zip (xs.map kf) = xs.map fun x => (e x, kf x) := by
    induction xs with
    | nil => rfl
    | cons x xs ih => rw [List.map_cons, List.map_cons, List.zip_cons_cons, ih]; rfl
  have s : (xs.map fun x => (e x, kf x)).mergeSort (PySem.W.dataLe false Prod.snd) = (xs.mergeSort (PySem.W.dataLe false kf)).map fun x => (e x, kf x) := (PySem.W.sort_maps (fun x => (e x, kf x)) fun a _ b _ => rfl).symm
  rw [z, s, List.map_map]
  rfl
/-- the items by their keys -/
theorem iSortK {α : Type} {xs : List α} {e kf : α → D} {ρ : List CF.Slot} {i : Nat} {m mb : M D} {Q : D → List CF.Slot → Prop}
    (h : wp m ρ fun d ρ1 => d = .list (xs.map e) ∧ ρ1[i]? = some .un ∧ (∀ x ∈ xs, wp mb (ρ1.set i (.dat (e x))) fun k ρ2 => k = kf x ∧ ρ2 = ρ1.set i (.dat (e x))) ∧ canSort (xs.map kf) = true ∧ Q (.list ((xs.mergeSort (PySem.W.dataLe false kf)).map e)) ρ1) : wp (mSortK m i mb) ρ Q := by
  unfold mSortK
  refine wp_bind.mpr (h.mono ?_)
  rintro d ρ1 ⟨rfl, un, hk, hc, q⟩
  refine ⟨_, _, ?_, q⟩
  unfold sortKof
  simp only
  rw [keysGo_of un hk]
  simp only
  rw [if_pos hc, sortBy_map]
end CF
end
section
/-! CT, part 20: facts, answers, cases. -/
namespace CF
open PySem
local macro_rules | `(tactic| walk_at "hf") => `(tactic| (first
  | with_reducible exact eqD_int | with_reducible exact eqD_str | with_reducible exact neD_int | with_reducible exact addD_int | with_reducible exact addI_int | with_reducible exact subD_int | with_reducible exact geD_int | with_reducible exact gtD_int | with_reducible exact leD_int | with_reducible exact ltD_int | with_reducible exact modD_of (by decide) | with_reducible exact mulD_r (by decide) | with_reducible exact mulD_l (by decide) | with_reducible exact powD_of (by decide) | with_reducible exact ix0 | ((with_reducible show ixD (.list _) (.int _) = _); rfl) | ((with_reducible show ixD (.tuple _) (.int _) = _); rfl)
  | with_reducible exact intC_int | with_reducible exact lenC_list | with_reducible exact lenC_tuple | with_reducible exact tupleC_list | with_reducible exact listC_tuple | with_reducible exact listC_dict | with_reducible exact isN_none | with_reducible exact isN_int | with_reducible exact notN_none | with_reducible exact notN_int | with_reducible exact min2_int | with_reducible exact max2_int | with_reducible exact slD_list | with_reducible exact slD_tuple | with_reducible exact neD_str | with_reducible exact max2_int))
local macro_rules | `(tactic| walk_at "m1") => `(tactic| (first
  | with_reducible refine iSq ?_ | with_reducible refine iThn ?_ | with_reducible refine iIfS ?_ | with_reducible refine iSet ?_ | with_reducible refine iSetB ?_ | with_reducible refine iSetO ?_ | with_reducible refine iRet ?_ | with_reducible refine iNx ?_ | with_reducible refine iThnR ?_
  | with_reducible refine iTest ?_ | with_reducible refine iOp2 ?_ | ((with_reducible refine' iPk ?h1 ?h2); (case h1 => rfl)) | with_reducible refine iV ?_ | with_reducible refine iC ?_ | ((with_reducible refine' iVar ?h1 ?h2); (case h1 => rfl))
  | with_reducible refine iCall ?_ | with_reducible refine iLs0 ?_ | with_reducible refine iLs ?_ | with_reducible refine iSub ?_ | with_reducible refine iSl ?_ | with_reducible refine iSome ?_ | with_reducible refine iNone ?_ | with_reducible refine iLst ?_ | with_reducible refine iTup ?_ | with_reducible refine iDs0 ?_ | with_reducible refine iDs ?_
  | with_reducible refine iAnd ?_ | with_reducible refine iOr ?_ | with_reducible refine iNot ?_ | with_reducible refine iBl ?_ | with_reducible refine iIf ?_ | with_reducible refine iDrop ?_ | with_reducible refine iYes ?_ | with_reducible refine iPar ?_
  | ((with_reducible refine' iAugS ?h1 ?h2); (case h1 => exact ⟨_, rfl⟩))
  | ((with_reducible refine' iPutE ?h1 ?h2 ?h3); (case h1 => rfl); (case h2 => rfl))
  | ((with_reducible refine' iOp2E ?h1 ?h2 ?h3 ?h4); (case h1 => rfl); (case h2 => rfl); (case h3 => walk_at "hf"))
  | ((with_reducible refine' iCallE ?h1 ?h2 ?h3); (case h1 => rfl); (case h2 => walk_at "hf"))
  | with_reducible refine ⟨sz0, ?_⟩ | with_reducible refine ⟨sz1, ?_⟩ | with_reducible refine ⟨sz2, ?_⟩ | with_reducible refine ⟨sz3, ?_⟩ | with_reducible refine ⟨sz4, ?_⟩ | with_reducible refine ⟨sz5, ?_⟩
  | (with_reducible refine ⟨_, rfl, ?_⟩)
  | ((with_reducible refine' ⟨_, ?h1, ?h2⟩); (case h1 => walk_at "hf"))
  | ((with_reducible refine' ⟨⟨_, ?h1⟩, ?h2⟩); (case h1 => rfl))
  | ((with_reducible refine' ⟨_, _, ?h1, ?h2, ?h3⟩); (case h1 => rfl); (case h2 => walk_at "hf"))
  | ((with_reducible refine' ⟨_, _, ?h1, ?h2, ?h3⟩); (case h1 => rfl); (case h2 => rfl))))
local macro_rules | `(tactic| walk_at "m2") => `(tactic| (first
  | walk_at "m1" | with_reducible refine iFn ?_ | ((with_reducible refine' iBag ?h1 ?h2); (case h1 => rfl)) | with_reducible refine iRng1 ?_ | with_reducible refine iRng2 ?_ | with_reducible refine wIt ?_ | ((with_reducible refine' iMut ?h1 ?h2); (case h1 => rfl)) | with_reducible refine iRel rfl ?_
  | with_reducible refine iRevS ?_ | with_reducible refine iIsi ?_ | with_reducible refine iOp1 ?_ | with_reducible refine iThn ?_))
/-! ### data -/
inductive An where
  | is (f : Fm) (v : Option Int)
  | cnt (l : List Str) (n : Int) (k : Nat)
def sIs : Str := Str.ofString "is"
def sCount : Str := Str.ofString "count"
def An.d : An → D
  | .is f v => .tuple [.str sIs, f.d, optD v]
  | .cnt l n k => .tuple [.str sCount, lotD l, .int n, .int k]
abbrev Fct := Fm × Fm
def fctD (p : Fct) : D := .tuple [p.1.d, p.2.d]
def fctsD (fs : List Fct) : D := .tuple (fs.map fctD)
def ansD (as : List An) : D := .tuple (as.map An.d)
structure Cse where
  h : House
  fs : List Fct
  as : List An
def Cse.d (c : Cse) : D := .tuple [c.h.d, fctsD c.fs, ansD c.as]
/-- numbers of answers lie within the bound -/
def Nm (n : Int) : Prop := n.natAbs ≤ 10 ^ 31
inductive AOk (h : House) : An → Prop
  | is {f : Fm} {v : Option Int} : FOk h 5 3 f → (∀ n, v = some n → Nm n) → AOk h (.is f v)
  | cnt {l : List Str} {n : Int} {k : Nat} : LOk h l → Nm n → k ≤ 9 → AOk h (.cnt l n k)
def FcOk (h : House) (p : Fct) : Prop := FOk h 5 3 p.1 ∧ FOk h 5 3 p.2
structure CsOk (c : Cse) : Prop where
  h : HOk c.h
  fs : ∀ p ∈ c.fs, FcOk c.h p
  as : ∀ a ∈ c.as, AOk c.h a
  fl : c.fs.length ≤ 4
  al : c.as.length ≤ 10
/-- the table keeps a fact, an answer is right of it -/
def Fct.kept (t : Tbl) (p : Fct) : Bool := leO (p.1.val t) (p.2.val t)
def An.right (t : Tbl) : An → Bool
  | .is f v => decide (f.val t = v)
  | .cnt l n k => decide ((geN (t.rows l) n : Int) = k)
theorem ixIs0 (f : Fm) (v : Option Int) : ixD (An.is f v).d (.int 0) = some (.str sIs) := rfl
theorem ixIs1 (f : Fm) (v : Option Int) : ixD (An.is f v).d (.int 1) = some f.d := rfl
theorem ixIs2 (f : Fm) (v : Option Int) : ixD (An.is f v).d (.int 2) = some (optD v) := rfl
theorem ixC0 (l : List Str) (n : Int) (k : Nat) : ixD (An.cnt l n k).d (.int 0) = some (.str sCount) := rfl
theorem ixC2 (l : List Str) (n : Int) (k : Nat) : ixD (An.cnt l n k).d (.int 2) = some (.int n) := rfl
theorem ixC3 (l : List Str) (n : Int) (k : Nat) : ixD (An.cnt l n k).d (.int 3) = some (.int k) := rfl
theorem LOk.len {h : House} {l : List Str} (ol : LOk h l) (oh : HOk h) : l.length ≤ 5 := by
  have l5 := oh.l5
  have nd := pw_nodupS ol.asc
  have := List.Nodup.length_le_of_subset nd ol.sub
  unfold House.nms at this
  rw [List.length_map] at this
  omega
/-! ### the program's words -/
section
variable {h : House} {pool : List Int} {t : Tbl}
/-! ### the law's words -/
theorem ixCs0 (c : Cse) : ixD c.d (.int 0) = some c.h.d := rfl
theorem ixCs2 (c : Cse) : ixD c.d (.int 2) = some (ansD c.as) := rfl
end
end CF
end
section
/-! CT, part 21: answers, facts, cases drawn. -/
namespace CF
open PySem
local macro_rules | `(tactic| walk_at "hf") => `(tactic| (first
  | with_reducible exact eqD_int | with_reducible exact eqD_str | with_reducible exact neD_int | with_reducible exact addD_int | with_reducible exact addI_int | with_reducible exact subD_int | with_reducible exact geD_int | with_reducible exact gtD_int | with_reducible exact leD_int | with_reducible exact ltD_int | with_reducible exact modD_of (by decide) | with_reducible exact mulD_r (by decide) | with_reducible exact mulD_l (by decide) | with_reducible exact powD_of (by decide) | with_reducible exact ix0 | ((with_reducible show ixD (.list _) (.int _) = _); rfl) | ((with_reducible show ixD (.tuple _) (.int _) = _); rfl)
  | with_reducible exact intC_int | with_reducible exact lenC_list | with_reducible exact lenC_tuple | with_reducible exact tupleC_list | with_reducible exact listC_tuple | with_reducible exact listC_dict | with_reducible exact isN_none | with_reducible exact isN_int | with_reducible exact notN_none | with_reducible exact notN_int | with_reducible exact min2_int | with_reducible exact max2_int | with_reducible exact slD_list | with_reducible exact slD_tuple | with_reducible exact neD_str | with_reducible exact max2_int))
local macro_rules | `(tactic| walk_at "m1") => `(tactic| (first
  | with_reducible refine iSq ?_ | with_reducible refine iThn ?_ | with_reducible refine iIfS ?_ | with_reducible refine iSet ?_ | with_reducible refine iSetB ?_ | with_reducible refine iSetO ?_ | with_reducible refine iRet ?_ | with_reducible refine iNx ?_ | with_reducible refine iThnR ?_
  | with_reducible refine iTest ?_ | with_reducible refine iOp2 ?_ | ((with_reducible refine' iPk ?h1 ?h2); (case h1 => rfl)) | with_reducible refine iV ?_ | with_reducible refine iC ?_ | ((with_reducible refine' iVar ?h1 ?h2); (case h1 => rfl))
  | with_reducible refine iCall ?_ | with_reducible refine iLs0 ?_ | with_reducible refine iLs ?_ | with_reducible refine iSub ?_ | with_reducible refine iSl ?_ | with_reducible refine iSome ?_ | with_reducible refine iNone ?_ | with_reducible refine iLst ?_ | with_reducible refine iTup ?_ | with_reducible refine iDs0 ?_ | with_reducible refine iDs ?_
  | with_reducible refine iAnd ?_ | with_reducible refine iOr ?_ | with_reducible refine iNot ?_ | with_reducible refine iBl ?_ | with_reducible refine iIf ?_ | with_reducible refine iDrop ?_ | with_reducible refine iYes ?_ | with_reducible refine iPar ?_
  | ((with_reducible refine' iAugS ?h1 ?h2); (case h1 => exact ⟨_, rfl⟩))
  | ((with_reducible refine' iPutE ?h1 ?h2 ?h3); (case h1 => rfl); (case h2 => rfl))
  | ((with_reducible refine' iOp2E ?h1 ?h2 ?h3 ?h4); (case h1 => rfl); (case h2 => rfl); (case h3 => walk_at "hf"))
  | ((with_reducible refine' iCallE ?h1 ?h2 ?h3); (case h1 => rfl); (case h2 => walk_at "hf"))
  | with_reducible refine ⟨sz0, ?_⟩ | with_reducible refine ⟨sz1, ?_⟩ | with_reducible refine ⟨sz2, ?_⟩ | with_reducible refine ⟨sz3, ?_⟩ | with_reducible refine ⟨sz4, ?_⟩ | with_reducible refine ⟨sz5, ?_⟩
  | (with_reducible refine ⟨_, rfl, ?_⟩)
  | ((with_reducible refine' ⟨_, ?h1, ?h2⟩); (case h1 => walk_at "hf"))
  | ((with_reducible refine' ⟨⟨_, ?h1⟩, ?h2⟩); (case h1 => rfl))
  | ((with_reducible refine' ⟨_, _, ?h1, ?h2, ?h3⟩); (case h1 => rfl); (case h2 => walk_at "hf"))
  | ((with_reducible refine' ⟨_, _, ?h1, ?h2, ?h3⟩); (case h1 => rfl); (case h2 => rfl))))
local macro_rules | `(tactic| walk_at "m2") => `(tactic| (first
  | walk_at "m1" | with_reducible refine iFn ?_ | ((with_reducible refine' iBag ?h1 ?h2); (case h1 => rfl)) | with_reducible refine iRng1 ?_ | with_reducible refine iRng2 ?_ | with_reducible refine wIt ?_ | ((with_reducible refine' iMut ?h1 ?h2); (case h1 => rfl)) | with_reducible refine iRel rfl ?_
  | with_reducible refine iRevS ?_ | with_reducible refine iIsi ?_ | with_reducible refine iOp1 ?_ | with_reducible refine iThn ?_))
section
variable {h : House} {pool : List Int} {t : Tbl}
def b_l_answer : MS :=
  (mSq (mPar 4 5 (mFn [0] g_lot [(mPk 0), (mPk 1)]) (mOp2 addL (mV (mFn [] g_lknown [(mPk 2)])) (mV (mLst [(mC (.int 0))]))))
  (mSq (mSet 6 (mCall max2C [(mV (mOp2 subD (mV (mC (.int 1))) (mV (mOp2 powD (mV (mC (.int 10))) (mV (mC (.int 30))))))), (mV (mOp2 addD (mV (mFn [0] g_one [(mPk 0), (mPk 5)])) (mV (mFn [0] g_one [(mPk 0), (mV (mLst [(mC (.int 0)), (mC (.int 1)), (mC (.int 0)), (mOp1 negD (mV (mC (.int 1))))]))]))))]))
  (mSq (mSet 7 (mFn [] g_lcount [(mPk 2), (mPk 4), (mPk 6)]))
  (mSq (mIfS (mOr (mTest (mOp2 gtD (mV (mFn [0] g_take [(mPk 0), (mV (mC (.int 3)))])) (mV (mC (.int 0))))) (mTest (mOp2 gtD (mPk 7) (mV (mC (.int 9))))))
    (mRet (mTup [(mC (.str (Str.ofString "is"))), (mVar 3), (mFn [] (g_lvalue 20) [(mPk 2), (mPk 3)])]))
    mNx)
  (mRet (mTup [(mC (.str (Str.ofString "count"))), (mVar 4), (mVar 6), (mVar 7)]))))))
def g_l_answer : FM := runF false 4 4 [0] b_l_answer
def Small30 (pool : List Int) : Prop := ∀ n ∈ pool, n.natAbs ≤ 10 ^ 30
theorem answer_t (oh : HOk h) (o : TOk h pool t) (hp : pool.length < 64) (hb : Small30 pool) {f : Fm} (of : FOk h 5 3 f) : bagFn g_l_answer [h.d, t.d, f.d] fun d => ∃ a : An, d = a.d ∧ AOk h a ∧ a.right t = true := fun bag ok => by
  have kl := known_len o
  have km := known_pool o
  unfold g_l_answer
  refine run_gives rfl ?_
  unfold b_l_answer
  repeat walk_at "m2"
  refine iBagE rfl rfl ok (lot_t oh) ?_
  rintro _ bag2 ⟨l, rfl, ol⟩ ok2
  have ll := ol.len oh
  repeat walk_at "m2"
  refine iFnQ rfl (known_t oh o hp) ?_
  repeat walk_at "m2"
  refine iOp2E rfl rfl (addL_list (xs := t.known.map PyData.int) (ys := [.int 0]) (by rw [List.length_map, List.length_singleton, sizeLine_eq]; omega)) ?_
  have ek : t.known.map PyData.int ++ [PyData.int 0] = (t.known ++ [0]).map PyData.int := by rw [List.map_append]; rfl
  rw [ek]
  repeat walk_at "m2"
  refine iBagE rfl rfl ok2 (one_i (t.known ++ [0]) (by simp) (by rw [List.length_append, List.length_singleton]; omega)) ?_
  rintro _ bag3 ⟨n, rfl, hn⟩ ok3
  have nb : n.natAbs ≤ 10 ^ 30 := by
    rcases List.mem_append.mp hn with q | q
    · exact hb n (km n q)
    · rw [List.mem_singleton.mp q]; decide
  repeat walk_at "m2"
  refine iBagE rfl rfl ok3 (one_i [0, 1, 0, -1] (by decide) (by decide)) ?_
  rintro _ bag4 ⟨m, rfl, hm⟩ ok4
  have mb : -1 ≤ m ∧ m ≤ 1 := by
    simp only [List.mem_cons, List.not_mem_nil, or_false] at hm
    omega
  repeat walk_at "m2"
  have nm : Nm (if n + m > 1 - 10 ^ Int.toNat 30 then n + m else 1 - 10 ^ Int.toNat 30) := by
    unfold Nm
    have e : (10 : Int) ^ Int.toNat 30 = 10 ^ 30 := rfl
    rw [e]
    split <;> omega
  generalize (if n + m > 1 - 10 ^ Int.toNat 30 then n + m else 1 - 10 ^ Int.toNat 30) = N at nm
  refine iFnQ rfl (lcount_t o ol.sub (by omega) N) ?_
  repeat walk_at "m2"
  refine iBagE rfl rfl ok4 (take_fn (by decide) (by decide)) ?_
  rintro _ bag5 ⟨v, rfl, v0, v1⟩ ok5
  repeat walk_at "m2"
  have isEnd : ∀ bag', BagOk bag' → wp (mRet (mTup [mC (PyData.str (Str.ofString "is")), mVar 3, mFn [] (g_lvalue 20) [mPk 2, mPk 3]])) [.own bag', .dat h.d, .dat t.d, .dat f.d, .dat (lotD l), .dat (.list ((t.known ++ [0]).map PyData.int)), .dat (.int N), .dat (.int (geN (t.rows l) N))]
      (thnS (mRet (mTup [mC (PyData.str (Str.ofString "count")), mVar 4, mVar 6, mVar 7])) fun f1 ρ' => ∃ d, retv false f1 = some d ∧ allOwn [0] ρ' = true ∧ (fun d => ∃ a : An, d = a.d ∧ AOk h a ∧ a.right t = true) d ∧ ∃ bag', BagOk bag' ∧ (List.take 4 ρ').getD 0 Slot.un = Slot.own bag') := by
    intro bag' ok'
    repeat walk_at "m2"
    refine iFnQ rfl (lvalue_t oh o of (by decide) (by decide)) ?_
    repeat walk_at "m2"
    refine ⟨rfl, ⟨.is f (f.val t), rfl, .is of fun n e => ?_, by unfold An.right; simp⟩, bag', ok', rfl⟩
    have := hb n (val_mem o of n e)
    unfold Nm
    omega
  by_cases hv : 0 < v
  · rw [decide_eq_true hv]
    refine iteT ?_
    refine iteT ?_
    exact isEnd bag5 ok5
  · rw [decide_eq_false hv]
    refine iteF ?_
    repeat walk_at "m2"
    by_cases h9 : (9 : Int) < geN (t.rows l) N
    · rw [decide_eq_true h9]
      refine iteT ?_
      exact isEnd bag5 ok5
    · rw [decide_eq_false h9]
      refine iteF ?_
      repeat walk_at "m2"
      exact ⟨rfl, ⟨.cnt l N (geN (t.rows l) N), rfl, .cnt ol nm (by omega), by unfold An.right; simp⟩, bag5, ok5, rfl⟩
def b_l_case : MS :=
  (mRet (mTup [(mVar 1), (mVar 4), (mCall tupleC [(mV (mLC [5] (mIt (mVar 3)) (setS 5) mYes (mFn [0] g_l_answer [(mPk 0), (mPk 1), (mPk 2), (mPk 5)])))])]))
def g_l_case : FM := runF false 5 1 [0] b_l_case
theorem case_t (oh : HOk h) (o : TOk h pool t) (hp : pool.length < 64) (hb : Small30 pool) {fs : List Fct} {gs : List Fm} (og : ∀ f ∈ gs, FOk h 5 3 f) (gl : gs.length ≤ 10) :
    bagFn g_l_case [h.d, t.d, .list (gs.map Fm.d), fctsD fs] fun d => ∃ as : List An, d = (Cse.mk h fs as).d ∧ (∀ a ∈ as, AOk h a ∧ a.right t = true) ∧ as.length = gs.length := fun bag ok => by
  unfold g_l_case
  refine run_gives rfl ?_
  unfold b_l_case
  refine iRet (iTup (iDs (iVar rfl (iDs (iVar rfl (iDs (iCall (iLs (iV (iLCb (wIt (iVar rfl ?_))))))))))))
  refine ⟨_, rfl, 0, Fm, gs, Fm.d, (fun _ y => ∃ a : An, y = a.d ∧ AOk h a ∧ a.right t = true), rfl, by rw [sizeLine_eq]; omega, rfl, by decide, ⟨bag, rfl, ok⟩, ?_, ?_⟩
  · intro f hf bag2 ok2
    refine ⟨_, rfl, ?_⟩
    repeat walk_at "m2"
    refine iBagE rfl rfl ok2 (answer_t oh o hp hb (og f hf)) ?_
    rintro _ bag3 q ok3
    exact ⟨q, bag3, ok3, rfl⟩
  · intro ys bag2 z ok2
    obtain ⟨as, rfl, z2⟩ := z.typed (e := An.d) (S := fun _ a => AOk h a ∧ a.right t = true) fun a b q => q
    repeat walk_at "m2"
    exact ⟨rfl, ⟨as, rfl, z2.right (p := fun a => AOk h a ∧ a.right t = true) (fun _ _ q => q), z2.len⟩, bag2, ok2, rfl⟩
/-- the table of facts: one not above the other -/
theorem sort_two {α : Type} (r : α → α → Bool) (a b : α) : [a, b].mergeSort r = if r a b = true then [a, b] else [b, a] := by
  by_cases h : r a b = true
  · rw [if_pos h]
    exact List.mergeSort_of_pairwise (by simp [h])
  · rw [if_neg h]
    have hp := List.mergeSort_perm [a, b] r
    unfold List.mergeSort
    simp [List.MergeSort.Internal.splitInTwo, List.merge, h]
theorem leO_total (a b : Option Int) : leO a b = true ∨ leO b a = true := by
  cases a <;> cases b <;> simp [leO] <;> omega
end
end CF
end
section
/-! CT, part 22: facts drawn, answers and cases turned. -/
namespace CF
open PySem
local macro_rules | `(tactic| walk_at "hf") => `(tactic| (first
  | with_reducible exact eqD_int | with_reducible exact eqD_str | with_reducible exact neD_int | with_reducible exact addD_int | with_reducible exact addI_int | with_reducible exact subD_int | with_reducible exact geD_int | with_reducible exact gtD_int | with_reducible exact leD_int | with_reducible exact ltD_int | with_reducible exact modD_of (by decide) | with_reducible exact mulD_r (by decide) | with_reducible exact mulD_l (by decide) | with_reducible exact powD_of (by decide) | with_reducible exact ix0 | ((with_reducible show ixD (.list _) (.int _) = _); rfl) | ((with_reducible show ixD (.tuple _) (.int _) = _); rfl)
  | with_reducible exact intC_int | with_reducible exact lenC_list | with_reducible exact lenC_tuple | with_reducible exact tupleC_list | with_reducible exact listC_tuple | with_reducible exact listC_dict | with_reducible exact isN_none | with_reducible exact isN_int | with_reducible exact notN_none | with_reducible exact notN_int | with_reducible exact min2_int | with_reducible exact max2_int | with_reducible exact slD_list | with_reducible exact slD_tuple | with_reducible exact neD_str | with_reducible exact max2_int))
local macro_rules | `(tactic| walk_at "m1") => `(tactic| (first
  | with_reducible refine iSq ?_ | with_reducible refine iThn ?_ | with_reducible refine iIfS ?_ | with_reducible refine iSet ?_ | with_reducible refine iSetB ?_ | with_reducible refine iSetO ?_ | with_reducible refine iRet ?_ | with_reducible refine iNx ?_ | with_reducible refine iThnR ?_
  | with_reducible refine iTest ?_ | with_reducible refine iOp2 ?_ | ((with_reducible refine' iPk ?h1 ?h2); (case h1 => rfl)) | with_reducible refine iV ?_ | with_reducible refine iC ?_ | ((with_reducible refine' iVar ?h1 ?h2); (case h1 => rfl))
  | with_reducible refine iCall ?_ | with_reducible refine iLs0 ?_ | with_reducible refine iLs ?_ | with_reducible refine iSub ?_ | with_reducible refine iSl ?_ | with_reducible refine iSome ?_ | with_reducible refine iNone ?_ | with_reducible refine iLst ?_ | with_reducible refine iTup ?_ | with_reducible refine iDs0 ?_ | with_reducible refine iDs ?_
  | with_reducible refine iAnd ?_ | with_reducible refine iOr ?_ | with_reducible refine iNot ?_ | with_reducible refine iBl ?_ | with_reducible refine iIf ?_ | with_reducible refine iDrop ?_ | with_reducible refine iYes ?_ | with_reducible refine iPar ?_
  | ((with_reducible refine' iAugS ?h1 ?h2); (case h1 => exact ⟨_, rfl⟩))
  | ((with_reducible refine' iPutE ?h1 ?h2 ?h3); (case h1 => rfl); (case h2 => rfl))
  | ((with_reducible refine' iOp2E ?h1 ?h2 ?h3 ?h4); (case h1 => rfl); (case h2 => rfl); (case h3 => walk_at "hf"))
  | ((with_reducible refine' iCallE ?h1 ?h2 ?h3); (case h1 => rfl); (case h2 => walk_at "hf"))
  | with_reducible refine ⟨sz0, ?_⟩ | with_reducible refine ⟨sz1, ?_⟩ | with_reducible refine ⟨sz2, ?_⟩ | with_reducible refine ⟨sz3, ?_⟩ | with_reducible refine ⟨sz4, ?_⟩ | with_reducible refine ⟨sz5, ?_⟩
  | (with_reducible refine ⟨_, rfl, ?_⟩)
  | ((with_reducible refine' ⟨_, ?h1, ?h2⟩); (case h1 => walk_at "hf"))
  | ((with_reducible refine' ⟨⟨_, ?h1⟩, ?h2⟩); (case h1 => rfl))
  | ((with_reducible refine' ⟨_, _, ?h1, ?h2, ?h3⟩); (case h1 => rfl); (case h2 => walk_at "hf"))
  | ((with_reducible refine' ⟨_, _, ?h1, ?h2, ?h3⟩); (case h1 => rfl); (case h2 => rfl))))
local macro_rules | `(tactic| walk_at "m2") => `(tactic| (first
  | walk_at "m1" | with_reducible refine iFn ?_ | ((with_reducible refine' iBag ?h1 ?h2); (case h1 => rfl)) | with_reducible refine iRng1 ?_ | with_reducible refine iRng2 ?_ | with_reducible refine wIt ?_ | ((with_reducible refine' iMut ?h1 ?h2); (case h1 => rfl)) | with_reducible refine iRel rfl ?_
  | with_reducible refine iRevS ?_ | with_reducible refine iIsi ?_ | with_reducible refine iOp1 ?_ | with_reducible refine iThn ?_))
section
variable {h : House} {pool : List Int} {t : Tbl}
def b_l_facts : MS :=
  (mSq (mSetO 5 (mLst []))
  (mSq (mFor (mRng1 (mPk 3)) (setS 6)
    (mSq (mSet 7 (mLC [8] (mRng1 (mV (mC (.int 2)))) (setS 8) mYes (mFnT [0, 4] (g_formula 20) [(mPk 0), (mPk 1), (mV (mC (.int 2))), (mPk 4)] (mLst [(mC (.int 4))]))))
  (mSq (mSet 7 (mSortK (mVar 7) 9 (mFn [] g_key [(mV (mFn [] (g_lvalue 20) [(mPk 2), (mPk 9)]))])))
  (mDrop (mMut 5 appG (mDs [(mCall tupleC [(mPk 7)])]))))))
  (mRet (mCall tupleC [(mPk 5)]))))
def g_l_facts : FM := runF false 5 5 [0] b_l_facts
theorem key_le (a b : Fm) : PySem.W.dataLe false (fun f : Fm => keyO (f.val t)) a b = leO (a.val t) (b.val t) := (leO_key _ _).symm
theorem two_kept (a b : Fm) (oa : FOk h 5 3 a) (ob : FOk h 5 3 b) : ∃ p : Fct, ([a, b].mergeSort (PySem.W.dataLe false fun f : Fm => keyO (f.val t))) = [p.1, p.2] ∧ FcOk h p ∧ p.kept t = true := by
  rw [sort_two, key_le]
  by_cases e : leO (a.val t) (b.val t) = true
  · rw [if_pos e]
    exact ⟨(a, b), rfl, ⟨oa, ob⟩, e⟩
  · rw [if_neg e]
    exact ⟨(b, a), rfl, ⟨ob, oa⟩, (leO_total _ _).resolve_left e⟩
theorem sortK_facts (oh : HOk h) (o : TOk h pool t) {gs : List Fm} (og : ∀ f ∈ gs, FOk h 5 3 f) {ρ : List CF.Slot} {i k : Nat} {m : M D} {Q : D → List CF.Slot → Prop}
    (hk : ∀ d : D, (ρ.set i (.dat d))[k]? = some (.dat t.d) ∧ (ρ.set i (.dat d))[i]? = some (.dat d))
    (h1 : wp m ρ fun d ρ1 => d = .list (gs.map Fm.d) ∧ ρ1 = ρ) (un : ρ[i]? = some .un) (q : Q (.list ((gs.mergeSort (PySem.W.dataLe false fun f : Fm => keyO (f.val t))).map Fm.d)) ρ) :
    wp (mSortK m i (mFn [] g_key [(mV (mFn [] (g_lvalue 20) [(mPk k), (mPk i)]))])) ρ Q := by
  refine iSortK (xs := gs) (e := Fm.d) (kf := fun f => keyO (f.val t)) (h1.mono ?_)
  rintro d ρ1 ⟨rfl, rfl⟩
  refine ⟨rfl, un, fun f hf => ?_, ?_, q⟩
  · obtain ⟨e1, e2⟩ := hk f.d
    refine iFn (iLs (iV (iFn (iLs (iPk (by rw [e1]; rfl) (iLs (iPk (by rw [e2]; rfl) (iLs0 ?_))))))))
    refine iFnQ (by rw [argD_slot, e1, argD1_dat, argD_slot, e2, argD1_dat]; rfl) (lvalue_t oh o (og f hf) (by decide) (by decide)) ?_
    refine iLs0 (iFnQ rfl (key_fn _) ⟨rfl, rfl⟩)
  · have := canSort_keys (gs.map (Fm.val t))
    rw [List.map_map] at this
    exact this
theorem form_b (oh : HOk h) {deep most : Int} (d1 : deep ≤ 4) (m0 : 0 < most) (m1 : most ≤ 9) {bag : D} (ok : BagOk bag) (left : Int) : ∃ (f : Fm) (ps' : List CF.Slot) (bag' : D) (n' : Int), g_formula 20 [.own bag, .dat h.d, .dat (.int deep), .dat (.int most), .own (.list [.int left])] = some (.ok f.d ps') ∧ FOk h 5 3 f ∧ BagOk bag' ∧ ps'.getD 0 .un = .own bag' ∧ ps'.getD 4 .un = .own (.list [.int n']) := by
  obtain ⟨r, ps', e, ⟨f, rfl, of⟩, bag5, n5, ok5, g0, g4⟩ := formula_t (most := most) oh m0 m1 19 3 deep (by omega) (by omega) bag left ok
  exact ⟨f, ps', bag5, n5, e, of.mono (by decide) (by decide), ok5, g0, g4⟩
theorem len2 {α : Type} {gs : List α} (h : gs.length = 2) : ∃ a b, gs = [a, b] := by
  match gs, h with
  | [a, b], _ => exact ⟨a, b, rfl⟩
theorem facts_t (oh : HOk h) (o : TOk h pool t) {many most : Int} (n0 : 0 ≤ many) (n4 : many ≤ 4) (m0 : 0 < most) (m9 : most ≤ 9) :
    bagFn g_l_facts [h.d, t.d, .int many, .int most] fun d => ∃ fs : List Fct, d = fctsD fs ∧ (∀ p ∈ fs, FcOk h p ∧ p.kept t = true) ∧ (fs.length : Int) = many := fun bag ok => by
  unfold g_l_facts
  refine run_gives rfl ?_
  unfold b_l_facts
  repeat walk_at "m2"
  refine iForT (iRng1 (iPk rfl ?_))
  refine ⟨many, rfl, okR_of n0 (by omega), Nat, List.range many.toNat, (fun i => .int (0 + (i : Nat))), fun rest ρ => ∃ (bag : D) (fs : List Fct) (s6 s7 : CF.Slot), BagOk bag ∧ (∀ p ∈ fs, FcOk h p ∧ p.kept t = true) ∧ fs.length + rest.length = many.toNat ∧ isOwn s7 = false ∧
    ρ = [.own bag, .dat h.d, .dat t.d, .dat (.int many), .dat (.int most), .own (.list (fs.map fctD)), s6, s7, .un, .un], rangeD_map _ _, ⟨bag, [], _, _, ok, fun _ h => (nomatch h), by rw [List.length_range]; exact Nat.zero_add _, rfl, rfl⟩, ?_, ?_⟩
  · rintro ρ ⟨bag, fs, s6, s7, ok, of, hl, _, rfl⟩
    repeat walk_at "m2"
    refine ⟨rfl, ⟨fs, rfl, of, ?_⟩, bag, ok, rfl⟩
    rw [List.length_nil] at hl
    omega
  · rintro i rest ρ hi ⟨bag, fs, s6, s7, ok, of, hl, hs7, rfl⟩
    rw [List.length_cons] at hl
    refine ⟨_, rfl, ?_⟩
    refine iSq (iSet (iLCb (iRng1 (iV (iC ?_)))))
    refine ⟨2, rfl, rfl, 0, Nat, List.range 2, (fun i => .int (0 + (i : Nat))), (fun _ y => ∃ f : Fm, y = f.d ∧ FOk h 5 3 f), rangeD_map _ _, by rw [List.length_range, sizeLine_eq]; omega, rfl, by decide, ⟨bag, rfl, ok⟩, ?_, ?_⟩
    · intro j hj bag2 ok2
      refine ⟨_, rfl, ?_⟩
      refine iFnT2 rfl ?_
      repeat walk_at "m2"
      refine ⟨by show (0 : Nat) ≠ 10; decide, _, _, _, _, _, rfl, rfl, rfl, ?_⟩
      obtain ⟨f, ps', bag5, n5, e, of5, ok5, g0, g4⟩ := form_b oh (deep := 2) (by decide) m0 m9 ok2 4
      refine ⟨_, ps', e, ?_⟩
      simp only [g0, g4]
      exact ⟨⟨f, rfl, of5⟩, bag5, ok5, rfl⟩
    intro ys bag2 z ok2
    obtain ⟨gs, rfl, z2⟩ := z.typed (e := Fm.d) (S := fun _ f => FOk h 5 3 f) fun a b q => q
    have gl : gs.length = 2 := z2.len.trans (List.length_range ..)
    have og := z2.right (p := fun f => FOk h 5 3 f) (fun _ _ q => q)
    clear z2 z
    obtain ⟨a, b, rfl⟩ := len2 gl
    refine iThn (iSq (iSet (sortK_facts oh o og (fun d => ⟨rfl, rfl⟩) (iVar rfl ⟨rfl, rfl⟩) rfl ?_)))
    obtain ⟨p, ep, op, hk⟩ := two_kept (t := t) a b (og a (by simp)) (og b (by simp))
    rw [ep]
    repeat walk_at "m2"
    refine iMutE rfl (app_ok (by rw [List.length_map]; omega)) ?_
    refine ⟨bag2, fs ++ [p], .dat (.int (0 + (i : Nat))), .dat (.list ([p.1, p.2].map Fm.d)), ok2, ?_, by rw [List.length_append, List.length_singleton]; omega, rfl, ?_⟩
    · intro q hq
      rcases List.mem_append.mp hq with hq | hq
      · exact of q hq
      · rw [List.mem_singleton.mp hq]; exact ⟨op, hk⟩
    · rw [List.map_append]
      rfl
def b_l_turned_answer : MS :=
  (mSq (mIfS (mTest (mOp2 eqD (mV (mOp2 ixD (mPk 1) (mV (mC (.int 0))))) (mV (mC (.str (Str.ofString "count"))))))
    (mRet (mOp2 addD (mV (mSl slD (mPk 1) noneP (someP (mC (.int 3))))) (mV (mTup [(mCall min2C [(mV (mC (.int 9))), (mV (mCall max2C [(mV (mC (.int 0))), (mV (mOp2 addD (mV (mOp2 ixD (mPk 1) (mV (mC (.int 3))))) (mV (mFn [0] g_one [(mPk 0), (mV (mLst [(mC (.int 1)), (mOp1 negD (mV (mC (.int 1))))]))]))))]))])]))))
    mNx)
  (mSq (mSet 2 (mOp2 ixD (mPk 1) (mV (mC (.int 2)))))
  (mRet (mOp2 addD (mV (mSl slD (mPk 1) noneP (someP (mC (.int 2))))) (mV (mTup [(mFn [0] g_one [(mPk 0), (mV (mLst [(mC .none), (mOp2 addD (mV (mC (.int 1))) (mV (mOrV (mVar 2) (mC (.int 0))))), (mCall max2C [(mV (mOp1 negD (mV (mOp2 powD (mV (mC (.int 10))) (mV (mC (.int 30))))))), (mV (mOp2 subD (mV (mOrV (mVar 2) (mC (.int 0)))) (mV (mC (.int 1)))))]), (mVar 2)]))])]))))))
def g_l_turned_answer : FM := runF false 2 1 [0] b_l_turned_answer
theorem or0 {ρ : List CF.Slot} {i : Nat} {v : Option Int} {Q : D → List CF.Slot → Prop} (e : ρ[i]? = some (.dat (optD v))) (q : Q (.int (v.getD 0)) ρ) : wp (mOrV (mVar i) (mC (.int 0))) ρ Q := by
  refine iOrV (iVar e ?_)
  cases v with
  | none => exact ⟨false, rfl, iC q⟩
  | some x =>
    refine ⟨x != 0, rfl, ?_⟩
    by_cases hx : x = 0
    · subst hx
      exact iC q
    · rw [show (x != 0) = true from by simpa using hx]
      exact q
/-- values of "is" are at most B -/
def VB (B : Nat) (a : An) : Prop := ∀ f v, a = .is f (some v) → v.natAbs ≤ B
theorem turned_t (oh : HOk h) {a : An} (oa : AOk h a) {B : Nat} (b0 : 10 ^ 30 ≤ B) (b1 : B + 2 ≤ 10 ^ 31) (hv : VB B a) : bagFn g_l_turned_answer [a.d] fun d => ∃ a : An, d = a.d ∧ AOk h a ∧ VB (B + 1) a := fun bag ok => by
  unfold g_l_turned_answer
  refine run_gives rfl ?_
  unfold b_l_turned_answer
  cases oa with
  | @cnt l n k ol hn hk =>
    repeat walk_at "m2"
    refine iOp2E rfl rfl (ixC0 l n k) ?_
    repeat walk_at "m2"
    rw [show (decide (sCount = Str.ofString "count")) = true from rfl]
    refine iteT ?_
    refine iRet (iOp2 (iV (iSl (iPk rfl (iNone (iSome (iC ⟨3, rfl, _, _, rfl, show slD (An.cnt l n k).d none (some 3) = some (.tuple [.str sCount, lotD l, .int n]) from rfl, ?_⟩)))))))
    repeat walk_at "m2"
    refine iOp2E rfl rfl (ixC3 l n k) ?_
    repeat walk_at "m2"
    refine iBagE rfl rfl ok (one_i [1, -1] (by decide) (by decide)) ?_
    rintro _ bag2 ⟨m, rfl, hm⟩ ok2
    have mb : -1 ≤ m ∧ m ≤ 1 := by
      simp only [List.mem_cons, List.not_mem_nil, or_false] at hm
      omega
    repeat walk_at "m2"
    have kb : ∃ j : Nat, (if (if (k : Int) + m > 0 then (k : Int) + m else 0) < 9 then (if (k : Int) + m > 0 then (k : Int) + m else 0) else 9) = (j : Int) ∧ j ≤ 9 := by
      refine ⟨(if (if (k : Int) + m > 0 then (k : Int) + m else 0) < 9 then (if (k : Int) + m > 0 then (k : Int) + m else 0) else 9).toNat, ?_, ?_⟩
      · split <;> split <;> omega
      · split <;> split <;> omega
    obtain ⟨j, ej, j9⟩ := kb
    rw [ej]
    refine iOp2E rfl rfl (addD_tup (by show 3 + 1 ≤ 1000; decide)) ?_
    exact ⟨_, rfl, rfl, ⟨.cnt l n j, rfl, .cnt ol hn j9, fun _ _ e => nomatch e⟩, bag2, ok2, rfl⟩
  | @is f v of hn =>
    repeat walk_at "m2"
    refine iOp2E rfl rfl (ixIs0 f v) ?_
    repeat walk_at "m2"
    rw [show (decide (sIs = Str.ofString "count")) = false from rfl]
    refine iteF ?_
    repeat walk_at "m2"
    refine iOp2E rfl rfl (ixIs2 f v) ?_
    refine iThn (iRet (iOp2 (iV (iSl (iPk rfl (iNone (iSome (iC ⟨2, rfl, _, _, rfl, show slD (An.is f v).d none (some 2) = some (.tuple [.str sIs, f.d]) from rfl, ?_⟩))))))))
    refine iV (iTup (iDs (iBag rfl (iLs (iV (iLst (iDs (iC (iDs (iOp2 (iV (iC (iV (or0 (v := v) rfl ?_))))))))))))))
    repeat walk_at "m2"
    refine or0 (v := v) rfl ?_
    repeat walk_at "m2"
    have vb : (v.getD 0).natAbs ≤ B := by
      cases v with
      | none => exact Nat.zero_le _
      | some x => exact hv f x rfl
    have e : (10 : Int) ^ Int.toNat 30 = 10 ^ 30 := rfl
    rw [e]
    generalize hm : (if v.getD 0 - 1 > -10 ^ 30 then v.getD 0 - 1 else -10 ^ 30) = m
    have mb : m.natAbs ≤ B + 1 := by
      rw [← hm]
      split <;> omega
    refine iBagE rfl rfl ok (one_t (α := Option Int) (e := optD) (as := [none, some (1 + v.getD 0), some m, v]) (.inl rfl) (by show 0 < 4; decide) (by show 4 < 1073741824; decide)) ?_
    rintro _ bag2 ⟨u, hu, rfl⟩ ok2
    have ub : ∀ n, u = some n → n.natAbs ≤ B + 1 := by
      intro n en
      simp only [List.mem_cons, List.not_mem_nil, or_false] at hu
      rcases hu with q | q | q | q
      · rw [q] at en; cases en
      · rw [q] at en; cases en; omega
      · rw [q] at en; cases en; omega
      · rw [q] at en; subst en; have : n.natAbs ≤ B := vb; omega
    repeat walk_at "m2"
    refine iOp2E rfl rfl (addD_tup (by show 2 + 1 ≤ 1000; decide)) ?_
    exact ⟨_, rfl, rfl, ⟨.is f u, rfl, .is of fun n e => by have := ub n e; unfold Nm; omega, fun f' n e => by cases e; exact ub n rfl⟩, bag2, ok2, rfl⟩
def b_l_turned_case : MS :=
  (mSq (mIfS (mTest (mOp2 eqD (mV (mOp2 ixD (mPk 1) (mV (mC (.int 2))))) (mV (mTup []))))
    (mRet (mVar 1))
    mNx)
  (mSq (mSet 2 (mFn [0] g_take [(mPk 0), (mV (mCall lenC [(mV (mOp2 ixD (mPk 1) (mV (mC (.int 2)))))]))]))
  (mRet (mOp2 addD (mV (mSl slD (mPk 1) noneP (someP (mC (.int 2))))) (mV (mTup [(mOp2 addD (mV (mOp2 addD (mV (mSl slD (mV (mOp2 ixD (mPk 1) (mV (mC (.int 2))))) noneP (someP (mVar 2)))) (mV (mTup [(mFn [0] g_l_turned_answer [(mPk 0), (mV (mOp2 ixD (mV (mOp2 ixD (mPk 1) (mV (mC (.int 2))))) (mPk 2)))])])))) (mV (mSl slD (mV (mOp2 ixD (mPk 1) (mV (mC (.int 2))))) (someP (mOp2 addD (mPk 2) (mV (mC (.int 1))))) noneP)))]))))))
def g_l_turned_case : FM := runF false 2 1 [0] b_l_turned_case
theorem lay_tup (ds : List D) : (PyData.tuple ds).canLay0 = PyData.canLayAll0 ds := by rw [PyData.canLay0]
theorem lay_str {x : Str} (hx : x ∈ menuS) : (PyData.str x).canLay0 = true := strOk_menu x hx
theorem lay_lot {h : House} (oh : HOk h) {l : List Str} (ol : LOk h l) : (lotD l).canLay0 = true := by
  unfold lotD
  rw [lay_tup]
  refine canLayAll_of fun d hd => ?_
  obtain ⟨x, hx, rfl⟩ := List.mem_map.mp hd
  exact lay_str (oh.nm x (ol.sub x hx))
theorem lay_opt (o : Option Int) : (optD o).canLay0 = true := by cases o <;> rfl
theorem lay_F {h : House} (oh : HOk h) {w n : Nat} {f : Fm} (o : FOk h w n f) : f.d.canLay0 = true := by
  induction o with
  | @rank n l k ol k0 k1 =>
    rw [Fm.d, lay_tup]
    refine canLayAll_of fun d hd => ?_
    simp only [List.mem_cons, List.not_mem_nil, or_false] at hd
    rcases hd with rfl | rfl | rfl
    · exact lay_str (by decide +kernel)
    · exact lay_lot oh ol
    · rfl
  | @kth n k ps k0 k1 kw _ ih =>
    rw [Fm.d, lay_tup]
    refine canLayAll_of fun d hd => ?_
    simp only [List.mem_cons, List.not_mem_nil, or_false] at hd
    rcases hd with rfl | rfl | rfl
    · exact lay_str (by decide +kernel)
    · rfl
    · rw [lay_tup, Fm.dL_map]
      refine canLayAll_of fun d hd => ?_
      obtain ⟨p, hp, rfl⟩ := List.mem_map.mp hd
      exact ih p hp
theorem lay_A {h : House} (oh : HOk h) {a : An} (o : AOk h a) : a.d.canLay0 = true := by
  cases o with
  | @is f v of hv =>
    show (PyData.tuple [.str sIs, f.d, optD v]).canLay0 = true
    rw [lay_tup]
    refine canLayAll_of fun d hd => ?_
    simp only [List.mem_cons, List.not_mem_nil, or_false] at hd
    rcases hd with rfl | rfl | rfl
    · exact lay_str (by decide +kernel)
    · exact lay_F oh of
    · exact lay_opt v
  | @cnt l n k ol hn hk =>
    show (PyData.tuple [.str sCount, lotD l, .int n, .int k]).canLay0 = true
    rw [lay_tup]
    refine canLayAll_of fun d hd => ?_
    simp only [List.mem_cons, List.not_mem_nil, or_false] at hd
    rcases hd with rfl | rfl | rfl | rfl
    · exact lay_str (by decide +kernel)
    · exact lay_lot oh ol
    · rfl
    · rfl
theorem fine_A {h : House} (oh : HOk h) {a : An} (o : AOk h a) : Fine (4 * (pF 3 + 2) + 4) 9 a.d := by
  have pf := pF_ge 3
  cases o with
  | @is f v of hv =>
    refine fine_tuple (n := pF 3) (k := 8) (m := 4) (ds := [.str sIs, f.d, optD v]) (fun d hd => ?_) (by show 3 ≤ 4; decide)
    simp only [List.mem_cons, List.not_mem_nil, or_false] at hd
    rcases hd with rfl | rfl | rfl
    · exact (fine_str sIs (by decide +kernel)).mono (by omega) (by decide)
    · exact fine_F oh (by decide) of
    · exact (fine_opt fun n e => by have := hv n e; unfold Nm at this; omega).1.mono (by omega) (by decide)
  | @cnt l n k ol hn hk =>
    refine fine_tuple (n := pF 3) (k := 8) (m := 4) (ds := [.str sCount, lotD l, .int n, .int k]) (fun d hd => ?_) (Nat.le_refl 4)
    unfold Nm at hn
    simp only [List.mem_cons, List.not_mem_nil, or_false] at hd
    rcases hd with rfl | rfl | rfl | rfl
    · exact (fine_str sCount (by decide +kernel)).mono (by omega) (by decide)
    · have ll := ol.len oh
      refine (fine_tuple (n := 8) (k := 0) (m := 5) (ds := l.map PyData.str) (fun d hd => ?_) (by rw [List.length_map]; exact ll)).mono (by omega) (by decide)
      obtain ⟨x, hx, rfl⟩ := List.mem_map.mp hd
      exact fine_name (nameIn_of oh (ol.sub x hx))
    · exact (fine_int (k := 0) (by omega)).mono (by omega) (by decide)
    · exact (fine_int (k := 0) (by omega)).mono (by omega) (by decide)
theorem fine_ans {h : House} (oh : HOk h) {as : List An} (o : ∀ a ∈ as, AOk h a) (al : as.length ≤ 10) : Fine (10 * (4 * (pF 3 + 2) + 4 + 2) + 4) 10 (ansD as) := fine_tuple (n := 4 * (pF 3 + 2) + 4) (k := 9) (m := 10) (fun d hd => by
  obtain ⟨a, ha, rfl⟩ := List.mem_map.mp hd
  exact fine_A oh (o a ha)) (by rw [List.length_map]; exact al)
theorem sh_ans {h : House} (oh : HOk h) {as : List An} (o : ∀ a ∈ as, AOk h a) (al : as.length ≤ 10) : SeqAt.shaped (ansD as) = true := by
  have d := (fine_ans oh o al).dp
  have l : (ansD as).canLay0 = true := by
    unfold ansD
    rw [lay_tup]
    refine canLayAll_of fun d hd => ?_
    obtain ⟨a, ha, rfl⟩ := List.mem_map.mp hd
    exact lay_A oh (o a ha)
  unfold SeqAt.shaped
  rw [l, decide_eq_true (Nat.le_trans d (by decide))]
  rfl
theorem eq_ans0 {h : House} (oh : HOk h) {as : List An} (o : ∀ a ∈ as, AOk h a) (al : as.length ≤ 10) : eqD (ansD as) (.tuple []) = some (.bool (as.isEmpty)) := by
  unfold eqD
  rw [eqB_shT rfl (sh_ans oh o al) (show SeqAt.shaped (.tuple []) = true from sh_rowsT [])]
  cases as with
  | nil => simp [ansD, PyData.eqv, PyData.eqvAll]
  | cons a as => simp [ansD, PyData.eqv, PyData.eqvAll]
theorem tcase_t {c : Cse} (oc : CsOk c) {B : Nat} (b0 : 10 ^ 30 ≤ B) (b1 : B + 2 ≤ 10 ^ 31) (hv : ∀ a ∈ c.as, VB B a) : bagFn g_l_turned_case [c.d] fun d => ∃ as : List An, d = (Cse.mk c.h c.fs as).d ∧ (∀ a ∈ as, AOk c.h a ∧ VB (B + 1) a) ∧ as.length = c.as.length := fun bag ok => by
  unfold g_l_turned_case
  refine run_gives rfl ?_
  unfold b_l_turned_case
  repeat walk_at "m2"
  refine iOp2E rfl rfl (ixCs2 c) ?_
  repeat walk_at "m2"
  refine iOp2E rfl rfl (eq_ans0 oc.h oc.as oc.al) ⟨_, rfl, ?_⟩
  by_cases hc : c.as = []
  · rw [show c.as.isEmpty = true from by rw [hc]; rfl]
    refine iteT ?_
    repeat walk_at "m2"
    exact ⟨rfl, ⟨c.as, rfl, fun a ha => ⟨oc.as a ha, fun f v e => Nat.le_succ_of_le (hv a ha f v e)⟩, rfl⟩, bag, ok, rfl⟩
  rw [show c.as.isEmpty = false from by simpa using hc]
  refine iteF ?_
  have cl : 1 ≤ c.as.length := by
    cases q : c.as with
    | nil => exact absurd q hc
    | cons => simp
  have al := oc.al
  repeat walk_at "m2"
  refine iOp2E rfl rfl (ixCs2 c) ?_
  repeat walk_at "m2"
  refine iCallE rfl (show lenC [ansD c.as] = some (.int (c.as.length : Nat)) from by unfold ansD; rw [lenC_tuple, List.length_map]) ?_
  repeat walk_at "m2"
  refine iBagE rfl rfl ok (take_fn (by omega) (by omega)) ?_
  rintro _ bag2 ⟨v, rfl, v0, v1⟩ ok2
  obtain ⟨v, rfl⟩ := Int.eq_ofNat_of_zero_le v0
  have hv1 : v < c.as.length := by omega
  repeat walk_at "m2"
  refine iOp2E rfl rfl (ixCs2 c) ?_
  refine iNone (iSome (iVar rfl ⟨_, rfl, _, _, rfl, show slD (ansD c.as) none (some (v : Int)) = some (.tuple ((c.as.take v).map An.d)) from by unfold ansD; rw [slD_tuple, cut_to, List.map_take], ?_⟩))
  repeat walk_at "m2"
  refine iOp2E rfl rfl (ixCs2 c) ?_
  repeat walk_at "m2"
  have hix : ixD (ansD c.as) (.int v) = some c.as[v].d := by
    refine L2.atI_nat ?_
    rw [List.getElem?_map, List.getElem?_eq_getElem hv1]
    rfl
  refine iOp2E rfl rfl hix ?_
  repeat walk_at "m2"
  have om := oc.as _ (List.getElem_mem hv1)
  refine iBagE rfl rfl ok2 (turned_t oc.h om b0 b1 (hv _ (List.getElem_mem hv1))) ?_
  rintro _ bag3 ⟨a, rfl, oa⟩ ok3
  repeat walk_at "m2"
  refine iOp2E rfl rfl (addD_tup (by rw [List.length_map, List.length_take, List.length_singleton]; omega)) ?_
  repeat walk_at "m2"
  refine iOp2E rfl rfl (ixCs2 c) ?_
  repeat walk_at "m2"
  rw [show cutL (c.as.map An.d) (some ((v : Int) + 1)) none = (c.as.drop (v + 1)).map An.d from by rw [show ((v : Int) + 1) = ((v + 1 : Nat) : Int) from rfl, cutL_fromT, List.map_drop]]
  refine iOp2E rfl rfl (addD_tup (by simp only [List.length_append, List.length_map, List.length_take, List.length_drop, List.length_singleton]; omega)) ?_
  repeat walk_at "m2"
  refine iOp2E rfl rfl (show addD (.tuple [c.h.d, fctsD c.fs]) (.tuple [.tuple ((c.as.take v).map An.d ++ [a.d] ++ (c.as.drop (v + 1)).map An.d)]) = some (.tuple [c.h.d, fctsD c.fs, .tuple ((c.as.take v).map An.d ++ [a.d] ++ (c.as.drop (v + 1)).map An.d)]) from addD_tup (by show 2 + 1 ≤ 1000; decide)) ?_
  refine ⟨_, rfl, rfl, ⟨c.as.take v ++ [a] ++ c.as.drop (v + 1), ?_, ?_, ?_⟩, bag3, ok3, rfl⟩
  · unfold Cse.d ansD
    simp only [List.map_append, List.map_cons, List.map_nil]
  · intro x hx
    rcases List.mem_append.mp hx with hx | hx
    · rcases List.mem_append.mp hx with hx | hx
      · have := List.mem_of_mem_take hx
        exact ⟨oc.as x this, fun f v e => Nat.le_succ_of_le (hv x this f v e)⟩
      · rw [List.mem_singleton.mp hx]; exact oa
    · have := List.mem_of_mem_drop hx
      exact ⟨oc.as x this, fun f v e => Nat.le_succ_of_le (hv x this f v e)⟩
  · simp only [List.length_append, List.length_take, List.length_drop, List.length_singleton]
    omega
end
end CF
end
section
/-! CT, part 23: how long cases are when shown. -/
namespace CF
open PySem
local macro_rules | `(tactic| walk_at "hf") => `(tactic| (first
  | with_reducible exact eqD_int | with_reducible exact eqD_str | with_reducible exact neD_int | with_reducible exact addD_int | with_reducible exact addI_int | with_reducible exact subD_int | with_reducible exact geD_int | with_reducible exact gtD_int | with_reducible exact leD_int | with_reducible exact ltD_int | with_reducible exact modD_of (by decide) | with_reducible exact mulD_r (by decide) | with_reducible exact mulD_l (by decide) | with_reducible exact powD_of (by decide) | with_reducible exact ix0 | ((with_reducible show ixD (.list _) (.int _) = _); rfl) | ((with_reducible show ixD (.tuple _) (.int _) = _); rfl)
  | with_reducible exact intC_int | with_reducible exact lenC_list | with_reducible exact lenC_tuple | with_reducible exact tupleC_list | with_reducible exact listC_tuple | with_reducible exact listC_dict | with_reducible exact isN_none | with_reducible exact isN_int | with_reducible exact notN_none | with_reducible exact notN_int | with_reducible exact min2_int | with_reducible exact max2_int | with_reducible exact slD_list | with_reducible exact slD_tuple | with_reducible exact neD_str | with_reducible exact max2_int))
local macro_rules | `(tactic| walk_at "m1") => `(tactic| (first
  | with_reducible refine iSq ?_ | with_reducible refine iThn ?_ | with_reducible refine iIfS ?_ | with_reducible refine iSet ?_ | with_reducible refine iSetB ?_ | with_reducible refine iSetO ?_ | with_reducible refine iRet ?_ | with_reducible refine iNx ?_ | with_reducible refine iThnR ?_
  | with_reducible refine iTest ?_ | with_reducible refine iOp2 ?_ | ((with_reducible refine' iPk ?h1 ?h2); (case h1 => rfl)) | with_reducible refine iV ?_ | with_reducible refine iC ?_ | ((with_reducible refine' iVar ?h1 ?h2); (case h1 => rfl))
  | with_reducible refine iCall ?_ | with_reducible refine iLs0 ?_ | with_reducible refine iLs ?_ | with_reducible refine iSub ?_ | with_reducible refine iSl ?_ | with_reducible refine iSome ?_ | with_reducible refine iNone ?_ | with_reducible refine iLst ?_ | with_reducible refine iTup ?_ | with_reducible refine iDs0 ?_ | with_reducible refine iDs ?_
  | with_reducible refine iAnd ?_ | with_reducible refine iOr ?_ | with_reducible refine iNot ?_ | with_reducible refine iBl ?_ | with_reducible refine iIf ?_ | with_reducible refine iDrop ?_ | with_reducible refine iYes ?_ | with_reducible refine iPar ?_
  | ((with_reducible refine' iAugS ?h1 ?h2); (case h1 => exact ⟨_, rfl⟩))
  | ((with_reducible refine' iPutE ?h1 ?h2 ?h3); (case h1 => rfl); (case h2 => rfl))
  | ((with_reducible refine' iOp2E ?h1 ?h2 ?h3 ?h4); (case h1 => rfl); (case h2 => rfl); (case h3 => walk_at "hf"))
  | ((with_reducible refine' iCallE ?h1 ?h2 ?h3); (case h1 => rfl); (case h2 => walk_at "hf"))
  | with_reducible refine ⟨sz0, ?_⟩ | with_reducible refine ⟨sz1, ?_⟩ | with_reducible refine ⟨sz2, ?_⟩ | with_reducible refine ⟨sz3, ?_⟩ | with_reducible refine ⟨sz4, ?_⟩ | with_reducible refine ⟨sz5, ?_⟩
  | (with_reducible refine ⟨_, rfl, ?_⟩)
  | ((with_reducible refine' ⟨_, ?h1, ?h2⟩); (case h1 => walk_at "hf"))
  | ((with_reducible refine' ⟨⟨_, ?h1⟩, ?h2⟩); (case h1 => rfl))
  | ((with_reducible refine' ⟨_, _, ?h1, ?h2, ?h3⟩); (case h1 => rfl); (case h2 => walk_at "hf"))
  | ((with_reducible refine' ⟨_, _, ?h1, ?h2, ?h3⟩); (case h1 => rfl); (case h2 => rfl))))
local macro_rules | `(tactic| walk_at "m2") => `(tactic| (first
  | walk_at "m1" | with_reducible refine iFn ?_ | ((with_reducible refine' iBag ?h1 ?h2); (case h1 => rfl)) | with_reducible refine iRng1 ?_ | with_reducible refine iRng2 ?_ | with_reducible refine wIt ?_ | ((with_reducible refine' iMut ?h1 ?h2); (case h1 => rfl)) | with_reducible refine iRel rfl ?_
  | with_reducible refine iRevS ?_ | with_reducible refine iIsi ?_ | with_reducible refine iOp1 ?_ | with_reducible refine iThn ?_))
theorem piled_sum : ∀ ts : List Str, piled ts = (ts.map fun t => t.length + 2).sum
  | [] => rfl
  | t :: ts => by
    rw [List.map_cons, List.sum_cons, ← piled_sum ts]
    rfl
theorem fine_tupP {N k : Nat} {ds : List D} (h : ∀ d ∈ ds, d.showable = true ∧ d.depth ≤ k) (hl : (ds.map fun d => d.shown.length + 2).sum ≤ N) : Fine (N + 4) (k + 1) (.tuple ds) := by
  refine ⟨by rw [PyData.showable]; exact showableAll_of fun d hd => (h d hd).1, ?_, by rw [PyData.depth]; exact Nat.succ_le_succ (depthAll_le fun d hd => (h d hd).2)⟩
  rw [PyData.shown, shownAll_map]
  unfold tupleText
  rw [strLen_append, strLen_append]
  have q : (Str.join ", " (ds.map PyData.shown)).length ≤ N := by
    cases ds with
    | nil => exact Nat.zero_le _
    | cons t r =>
      have e := join_length_add ((t :: r).map PyData.shown) (by simp)
      rw [piled_sum, List.map_map] at e
      have e2 : ((t :: r).map ((fun t : Str => t.length + 2) ∘ PyData.shown)).sum = ((t :: r).map fun d => d.shown.length + 2).sum := rfl
      omega
  have e1 : (("(" : String) : Str).length = 1 := rfl
  have e2 : ∀ b : Bool, ((if b then ",)" else ")" : String) : Str).length ≤ 2 := fun b => by cases b <;> decide
  have := e2 ((ds.map PyData.shown).length == 1)
  omega
theorem fine_tup2 {a b : D} {na nb k : Nat} (ha : Fine na k a) (hb : Fine nb k b) : Fine (na + nb + 8) (k + 1) (.tuple [a, b]) := by
  refine (fine_tupP (N := na + nb + 4) (k := k) (ds := [a, b]) (fun d hd => ?_) ?_).mono (by omega) (Nat.le_refl _)
  · simp only [List.mem_cons, List.not_mem_nil, or_false] at hd
    rcases hd with rfl | rfl
    · exact ⟨ha.sh, ha.dp⟩
    · exact ⟨hb.sh, hb.dp⟩
  · have := ha.ln
    have := hb.ln
    simp only [List.map_cons, List.map_nil, List.sum_cons, List.sum_nil]
    omega
theorem fine_tup3 {a b c : D} {na nb nc k : Nat} (ha : Fine na k a) (hb : Fine nb k b) (hc : Fine nc k c) : Fine (na + nb + nc + 10) (k + 1) (.tuple [a, b, c]) := by
  refine (fine_tupP (N := na + nb + nc + 6) (k := k) (ds := [a, b, c]) (fun d hd => ?_) ?_).mono (by omega) (Nat.le_refl _)
  · simp only [List.mem_cons, List.not_mem_nil, or_false] at hd
    rcases hd with rfl | rfl | rfl
    · exact ⟨ha.sh, ha.dp⟩
    · exact ⟨hb.sh, hb.dp⟩
    · exact ⟨hc.sh, hc.dp⟩
  · have := ha.ln
    have := hb.ln
    have := hc.ln
    simp only [List.map_cons, List.map_nil, List.sum_cons, List.sum_nil]
    omega
theorem fine_tup4 {a b c e : D} {na nb nc ne k : Nat} (ha : Fine na k a) (hb : Fine nb k b) (hc : Fine nc k c) (he : Fine ne k e) : Fine (na + nb + nc + ne + 12) (k + 1) (.tuple [a, b, c, e]) := by
  refine (fine_tupP (N := na + nb + nc + ne + 8) (k := k) (ds := [a, b, c, e]) (fun d hd => ?_) ?_).mono (by omega) (Nat.le_refl _)
  · simp only [List.mem_cons, List.not_mem_nil, or_false] at hd
    rcases hd with rfl | rfl | rfl | rfl
    · exact ⟨ha.sh, ha.dp⟩
    · exact ⟨hb.sh, hb.dp⟩
    · exact ⟨hc.sh, hc.dp⟩
    · exact ⟨he.sh, he.dp⟩
  · have := ha.ln
    have := hb.ln
    have := hc.ln
    have := he.ln
    simp only [List.map_cons, List.map_nil, List.sum_cons, List.sum_nil]
    omega
theorem fine_lot {h : House} (oh : HOk h) {l : List Str} (ol : LOk h l) : Fine 54 1 (lotD l) := by
  refine fine_tuple (n := 8) (k := 0) (m := 5) (ds := l.map PyData.str) (fun d hd => ?_) (by rw [List.length_map]; exact ol.len oh)
  obtain ⟨x, hx, rfl⟩ := List.mem_map.mp hd
  exact fine_name (nameIn_of oh (ol.sub x hx))
def qF : Nat → Nat
  | 0 => 172
  | k + 1 => 5 * qF k + 80
theorem qF_ge : ∀ k, 172 ≤ qF k
  | 0 => Nat.le_refl _
  | k + 1 => by have := qF_ge k; show 172 ≤ 5 * qF k + 80; omega
theorem fine_F2 {h : House} (oh : HOk h) {n : Nat} {f : Fm} (o : FOk h 5 n f) : Fine (qF n) (2 + 2 * n) f.d := by
  induction o with
  | @rank n l k ol k0 k1 =>
    rw [Fm.d]
    have q := qF_ge n
    exact (fine_tup3 (fine_str sRank (by decide +kernel) |>.mono (Nat.le_refl 8) (Nat.zero_le 1)) (fine_lot oh ol) (fine_int (k := 1) (i := (k : Int)) (by omega))).mono (by omega) (by omega)
  | @kth n k ps k0 k1 kw _ ih =>
    rw [Fm.d, Fm.dL_map]
    have parts : Fine (5 * (qF n + 2) + 4) (2 + 2 * n + 1) (.tuple (ps.map Fm.d)) := fine_tuple (n := qF n) (k := 2 + 2 * n) (m := 5) (fun d hd => by
      obtain ⟨p, hp, rfl⟩ := List.mem_map.mp hd
      exact ih p hp) (by rw [List.length_map]; exact kw)
    refine (fine_tup3 (fine_str sKth (by decide +kernel) |>.mono (Nat.le_refl 8) (Nat.zero_le _)) (fine_int (i := (k : Int)) (by omega)) parts).mono ?_ (by omega)
    show 8 + 41 + (5 * (qF n + 2) + 4) + 10 ≤ 5 * qF n + 80
    omega
theorem fine_A2 {h : House} (oh : HOk h) {a : An} (o : AOk h a) : Fine 24200 9 a.d := by
  cases o with
  | @is f v of hv =>
    refine (fine_tup3 (a := .str sIs) (b := f.d) (c := optD v) (fine_str sIs (by decide +kernel) |>.mono (Nat.le_refl 8) (Nat.zero_le 8)) (fine_F2 oh of) ((fine_opt fun n e => by have := hv n e; unfold Nm at this; omega).1.mono (Nat.le_refl 41) (Nat.zero_le 8))).mono (by decide) (by decide)
  | @cnt l n k ol hn hk =>
    unfold Nm at hn
    exact (fine_tup4 (fine_str sCount (by decide +kernel) |>.mono (Nat.le_refl 8) (Nat.zero_le 1)) (fine_lot oh ol) (fine_int (k := 1) (i := n) (by omega)) (fine_int (k := 1) (i := (k : Int)) (by omega))).mono (by decide) (by decide)
theorem fine_fct {h : House} (oh : HOk h) {p : Fct} (o : FcOk h p) : Fine 48000 9 (fctD p) := (fine_tup2 (fine_F2 oh o.1) (fine_F2 oh o.2)).mono (by decide) (by decide)
theorem fine_fcts {h : House} (oh : HOk h) {fs : List Fct} (o : ∀ p ∈ fs, FcOk h p) (fl : fs.length ≤ 4) : Fine 192100 10 (fctsD fs) := (fine_tuple (n := 48000) (k := 9) (m := 4) (fun d hd => by
  obtain ⟨a, ha, rfl⟩ := List.mem_map.mp hd
  exact fine_fct oh (o a ha)) (by rw [List.length_map]; exact fl)).mono (by decide) (by decide)
theorem fine_ans2 {h : House} (oh : HOk h) {as : List An} (o : ∀ a ∈ as, AOk h a) (al : as.length ≤ 10) : Fine 242100 10 (ansD as) := (fine_tuple (n := 24200) (k := 9) (m := 10) (fun d hd => by
  obtain ⟨a, ha, rfl⟩ := List.mem_map.mp hd
  exact fine_A2 oh (o a ha)) (by rw [List.length_map]; exact al)).mono (by decide) (by decide)
theorem fine_cse {c : Cse} (o : CsOk c) : Fine 500000 11 c.d := (fine_tup3 ((fine_H o.h).mono (Nat.le_refl 679) (by decide)) (fine_fcts o.h o.fs o.fl) (fine_ans2 o.h o.as o.al)).mono (by decide) (by decide)
end CF
end
section
/-! CT, part 24: rungs, levels, depth, caps. -/
namespace CF
open PySem
local macro_rules | `(tactic| walk_at "hf") => `(tactic| (first
  | with_reducible exact eqD_int | with_reducible exact eqD_str | with_reducible exact neD_int | with_reducible exact addD_int | with_reducible exact addI_int | with_reducible exact subD_int | with_reducible exact geD_int | with_reducible exact gtD_int | with_reducible exact leD_int | with_reducible exact ltD_int | with_reducible exact modD_of (by decide) | with_reducible exact mulD_r (by decide) | with_reducible exact mulD_l (by decide) | with_reducible exact powD_of (by decide) | with_reducible exact ix0 | ((with_reducible show ixD (.list _) (.int _) = _); rfl) | ((with_reducible show ixD (.tuple _) (.int _) = _); rfl)
  | with_reducible exact intC_int | with_reducible exact lenC_list | with_reducible exact lenC_tuple | with_reducible exact tupleC_list | with_reducible exact listC_tuple | with_reducible exact listC_dict | with_reducible exact isN_none | with_reducible exact isN_int | with_reducible exact notN_none | with_reducible exact notN_int | with_reducible exact min2_int | with_reducible exact max2_int | with_reducible exact slD_list | with_reducible exact slD_tuple | with_reducible exact neD_str | with_reducible exact max2_int))
local macro_rules | `(tactic| walk_at "m1") => `(tactic| (first
  | with_reducible refine iSq ?_ | with_reducible refine iThn ?_ | with_reducible refine iIfS ?_ | with_reducible refine iSet ?_ | with_reducible refine iSetB ?_ | with_reducible refine iSetO ?_ | with_reducible refine iRet ?_ | with_reducible refine iNx ?_ | with_reducible refine iThnR ?_
  | with_reducible refine iTest ?_ | with_reducible refine iOp2 ?_ | ((with_reducible refine' iPk ?h1 ?h2); (case h1 => rfl)) | with_reducible refine iV ?_ | with_reducible refine iC ?_ | ((with_reducible refine' iVar ?h1 ?h2); (case h1 => rfl))
  | with_reducible refine iCall ?_ | with_reducible refine iLs0 ?_ | with_reducible refine iLs ?_ | with_reducible refine iSub ?_ | with_reducible refine iSl ?_ | with_reducible refine iSome ?_ | with_reducible refine iNone ?_ | with_reducible refine iLst ?_ | with_reducible refine iTup ?_ | with_reducible refine iDs0 ?_ | with_reducible refine iDs ?_
  | with_reducible refine iAnd ?_ | with_reducible refine iOr ?_ | with_reducible refine iNot ?_ | with_reducible refine iBl ?_ | with_reducible refine iIf ?_ | with_reducible refine iDrop ?_ | with_reducible refine iYes ?_ | with_reducible refine iPar ?_
  | ((with_reducible refine' iAugS ?h1 ?h2); (case h1 => exact ⟨_, rfl⟩))
  | ((with_reducible refine' iPutE ?h1 ?h2 ?h3); (case h1 => rfl); (case h2 => rfl))
  | ((with_reducible refine' iOp2E ?h1 ?h2 ?h3 ?h4); (case h1 => rfl); (case h2 => rfl); (case h3 => walk_at "hf"))
  | ((with_reducible refine' iCallE ?h1 ?h2 ?h3); (case h1 => rfl); (case h2 => walk_at "hf"))
  | with_reducible refine ⟨sz0, ?_⟩ | with_reducible refine ⟨sz1, ?_⟩ | with_reducible refine ⟨sz2, ?_⟩ | with_reducible refine ⟨sz3, ?_⟩ | with_reducible refine ⟨sz4, ?_⟩ | with_reducible refine ⟨sz5, ?_⟩
  | (with_reducible refine ⟨_, rfl, ?_⟩)
  | ((with_reducible refine' ⟨_, ?h1, ?h2⟩); (case h1 => walk_at "hf"))
  | ((with_reducible refine' ⟨⟨_, ?h1⟩, ?h2⟩); (case h1 => rfl))
  | ((with_reducible refine' ⟨_, _, ?h1, ?h2, ?h3⟩); (case h1 => rfl); (case h2 => walk_at "hf"))
  | ((with_reducible refine' ⟨_, _, ?h1, ?h2, ?h3⟩); (case h1 => rfl); (case h2 => rfl))))
local macro_rules | `(tactic| walk_at "m2") => `(tactic| (first
  | walk_at "m1" | with_reducible refine iFn ?_ | ((with_reducible refine' iBag ?h1 ?h2); (case h1 => rfl)) | with_reducible refine iRng1 ?_ | with_reducible refine iRng2 ?_ | with_reducible refine wIt ?_ | ((with_reducible refine' iMut ?h1 ?h2); (case h1 => rfl)) | with_reducible refine iRel rfl ?_
  | with_reducible refine iRevS ?_ | with_reducible refine iIsi ?_ | with_reducible refine iOp1 ?_ | with_reducible refine iThn ?_))
/-! ### rungs -/
def An.rung : An → List Int
  | .is _ none => []
  | .is _ (some v) => [v]
  | .cnt _ n _ => [n - 1, n]
def rungsOf (as : List An) : List Int := sset (as.map An.rung).flatten
theorem sset_ext {as bs : List Int} (h : ∀ k, k ∈ as ↔ k ∈ bs) : sset as = sset bs := pw_unique (pw_sset as) (pw_sset bs) fun k => by rw [mem_sset, mem_sset, h]
theorem rung_len : ∀ as : List An, (as.map An.rung).flatten.length ≤ 2 * as.length
  | [] => Nat.le_refl _
  | a :: as => by
    have ih := rung_len as
    have h1 : a.rung.length ≤ 2 := by
      cases a with
      | is f v => cases v <;> simp [An.rung]
      | cnt l n k => simp [An.rung]
    rw [List.map_cons, List.flatten_cons, List.length_append, List.length_cons]
    omega
theorem sset_len (as : List Int) : (sset as).length ≤ as.length := sset_le (pool := as) fun _ h => h
theorem rungs_len {as : List An} (al : as.length ≤ 10) : (rungsOf as).length ≤ 20 := by
  have h1 := sset_len (as.map An.rung).flatten
  have h2 := rung_len as
  unfold rungsOf
  omega
theorem extL_ok {xs ys : List D} (h : xs.length + ys.length < 1000000) : extG xs [.list ys] = some (.none, xs ++ ys) := if_pos (by rw [sizeLine_eq]; omega)
def b_l_rungs : MS :=
  (mSq (mSetO 1 (mLC [2] (mIt (mVar 0)) (setS 2) (mAnd (mTest (mOp2 eqD (mV (mOp2 ixD (mPk 2) (mV (mC (.int 0))))) (mV (mC (.str (Str.ofString "is")))))) (mTest (mOp2 notND (mV (mOp2 ixD (mPk 2) (mV (mC (.int 2))))) (mV (mC .none))))) (mOp2 ixD (mPk 2) (mV (mC (.int 2))))))
  (mSq (mFor (mIt (mLC [3] (mIt (mVar 0)) (setS 3) (mTest (mOp2 eqD (mV (mOp2 ixD (mPk 3) (mV (mC (.int 0))))) (mV (mC (.str (Str.ofString "count")))))) (mVar 3))) (setS 2)
    (mDrop (mMut 1 extG (mDs [(mLst [(mOp2 subD (mV (mOp2 ixD (mPk 2) (mV (mC (.int 2))))) (mV (mC (.int 1)))), (mOp2 ixD (mPk 2) (mV (mC (.int 2))))])]))))
  (mRet (mCall sortSetC [(mPk 1)]))))
def g_l_rungs : FM := runF false 1 3 [] b_l_rungs
def An.told : An → Bool
  | .is _ (some _) => true
  | _ => false
def An.isC : An → Bool
  | .cnt _ _ _ => true
  | _ => false
def An.num : An → Int
  | .is _ (some v) => v
  | .is _ none => 0
  | .cnt _ n _ => n
theorem mem_rungs (as : List An) (k : Int) : k ∈ (as.map An.rung).flatten ↔ k ∈ (as.filter An.told).map An.num ∨ k ∈ ((as.filter An.isC).map An.rung).flatten := by
  induction as with
  | nil => simp
  | cons a as ih =>
    rw [List.map_cons, List.flatten_cons, List.mem_append, ih]
    cases a with
    | is f v =>
      cases v with
      | none => simp [An.told, An.isC, An.rung]
      | some v =>
        simp only [An.rung, An.told, An.isC, List.filter_cons, if_true, List.map_cons, List.mem_cons, An.num, List.not_mem_nil, or_false, Bool.false_eq_true, if_false]
        constructor
        · rintro (h | h | h)
          · exact .inl (.inl h)
          · exact .inl (.inr h)
          · exact .inr h
        · rintro ((h | h) | h)
          · exact .inl h
          · exact .inr (.inl h)
          · exact .inr (.inr h)
    | cnt l n j =>
      simp only [An.rung, An.told, An.isC, List.filter_cons, if_true, List.map_cons, List.mem_cons, List.flatten_cons, List.mem_append, Bool.false_eq_true, if_false]
      constructor
      · rintro (h | h | h)
        · exact .inr (.inl h)
        · exact .inl h
        · exact .inr (.inr h)
      · rintro (h | h | h)
        · exact .inr (.inl h)
        · exact .inl h
        · exact .inr (.inr h)
theorem lrungs_t {h : House} {as : List An} (oa : ∀ a ∈ as, AOk h a) (al : as.length ≤ 10) : pureFn g_l_rungs [ansD as] (· = listD (rungsOf as)) := by
  have sb : scanBound = 4096 := rfl
  unfold g_l_rungs pureFn
  refine run_gives rfl ?_
  unfold b_l_rungs
  refine iSq (iSetO (iLCf (wIt (iVar rfl ?_))))
  refine ⟨_, rfl, An, as, An.d, An.told, (fun a => .int a.num), rfl, by rw [sizeLine_eq]; omega, rfl, ?_, ?_⟩
  · intro a ha
    refine ⟨_, rfl, ?_⟩
    cases a with
    | cnt l n k =>
      repeat walk_at "m2"
      refine iOp2E rfl rfl (ixC0 l n k) ?_
      repeat walk_at "m2"
      rw [show (decide (sCount = Str.ofString "is")) = false from rfl]
      refine iteF ?_
      exact ⟨rfl, rfl⟩
    | is f v =>
      repeat walk_at "m2"
      refine iOp2E rfl rfl (ixIs0 f v) ?_
      repeat walk_at "m2"
      rw [show (decide (sIs = Str.ofString "is")) = true from rfl]
      refine iteT ?_
      repeat walk_at "m2"
      refine iOp2E rfl rfl (ixIs2 f v) ?_
      repeat walk_at "m2"
      refine iOp2E rfl rfl (notN_opt v) ⟨_, rfl, ?_⟩
      cases v with
      | none => exact ⟨rfl, rfl⟩
      | some x =>
        refine ⟨rfl, ?_⟩
        rw [if_pos (show (An.is f (some x)).told = true from rfl)]
        refine iOp2 ?_
        repeat walk_at "m2"
        refine iOp2E rfl rfl (ixIs2 f (some x)) ⟨rfl, rfl⟩
  have e1 : ((as.filter An.told).map fun a => PyData.int a.num) = ((as.filter An.told).map An.num).map PyData.int := by rw [List.map_map]; rfl
  rw [e1]
  refine iThn (iSq (iForT (wIt (iLCf (wIt (iVar rfl ?_))))))
  refine ⟨_, rfl, An, as, An.d, An.isC, An.d, rfl, by rw [sizeLine_eq]; omega, rfl, ?_, ?_⟩
  · intro a ha
    refine ⟨_, rfl, ?_⟩
    cases a with
    | cnt l n k =>
      repeat walk_at "m2"
      refine iOp2E rfl rfl (ixC0 l n k) ?_
      repeat walk_at "m2"
      rw [show (decide (sCount = Str.ofString "count")) = true from rfl]
      refine ⟨rfl, ?_⟩
      rw [if_pos (show (An.cnt l n k).isC = true from rfl)]
      exact iVar rfl ⟨rfl, rfl⟩
    | is f v =>
      repeat walk_at "m2"
      refine iOp2E rfl rfl (ixIs0 f v) ?_
      repeat walk_at "m2"
      rw [show (decide (sIs = Str.ofString "count")) = false from rfl]
      exact ⟨rfl, rfl⟩
  have fl : (as.filter An.isC).length ≤ 10 := Nat.le_trans (List.length_filter_le ..) al
  have tl : (as.filter An.told).length ≤ 10 := Nat.le_trans (List.length_filter_le ..) al
  refine ⟨_, rfl, An, as.filter An.isC, An.d, fun rest ρ => ∃ (ns : List Int) (s2 : CF.Slot), ρ = [.dat (ansD as), .own (.list (ns.map PyData.int)), s2, .un] ∧ ns.length + 2 * rest.length ≤ 30 ∧ ∀ k, (k ∈ ns ∨ k ∈ (rest.map An.rung).flatten) ↔ k ∈ (as.map An.rung).flatten, rfl, ⟨_, _, rfl, by rw [List.length_map]; omega, fun k => (mem_rungs as k).symm⟩, ?_, ?_⟩
  · rintro ρ ⟨ns, s2, rfl, hl, hk⟩
    rw [List.length_nil] at hl
    repeat walk_at "m2"
    have sl := sset_len ns
    refine iCallE rfl (sortSet_of (by omega) (by omega)) ⟨_, rfl, rfl, ?_⟩
    have e : sset ns = rungsOf as := sset_ext fun k => by rw [← hk k]; simp
    rw [e]
    rfl
  · rintro a rest ρ ha ⟨ns, s2, rfl, hl, hk⟩
    rw [List.length_cons] at hl
    refine ⟨_, rfl, ?_⟩
    have hc : a.isC = true := (List.mem_filter.mp ha).2
    cases a with
    | is f v => cases hc
    | cnt l n k =>
      refine iDrop (iMut rfl (iDs (iLst (iDs (iOp2 (iV (iOp2 ?_)))))))
      repeat walk_at "m2"
      refine iOp2E rfl rfl (ixC2 l n k) ?_
      repeat walk_at "m2"
      refine iOp2E rfl rfl (ixC2 l n k) ?_
      repeat walk_at "m2"
      refine iMutE rfl (extL_ok (by rw [List.length_map]; show ns.length + 2 < 1000000; omega)) ?_
      refine ⟨ns ++ [n - 1, n], .dat (An.cnt l n k).d, ?_, by rw [List.length_append]; show ns.length + 2 + _ ≤ 30; omega, fun j => ?_⟩
      · rw [List.map_append]
        rfl
      · rw [← hk j]
        simp only [List.mem_append, List.map_cons, List.flatten_cons, An.rung]
        constructor
        · rintro ((h | h) | h)
          · exact .inl h
          · exact .inr (.inl h)
          · exact .inr (.inr h)
        · rintro (h | h | h)
          · exact .inl (.inl h)
          · exact .inl (.inr h)
          · exact .inr h
/-! ### levels -/
def lvl (rs : List Int) (n : Int) : Nat := (rs.filter fun r => decide (r < n)).length
def b_level_of : MS :=
  (mRet (mCall lenC [(mV (mLC [2] (mIt (mVar 0)) (setS 2) (mTest (mOp2 ltD (mPk 2) (mPk 1))) (mVar 2)))]))
def g_level_of : FM := runF false 2 1 [] b_level_of
theorem level_t {rs : List Int} (rl : rs.length ≤ 1000) (n : Int) : pureFn g_level_of [listD rs, .int n] (· = .int (lvl rs n)) := by
  unfold g_level_of pureFn
  refine run_gives rfl ?_
  unfold b_level_of
  refine iRet (iCall (iLs (iV (iLCf (wIt (iVar rfl ?_))))))
  refine ⟨_, rfl, Int, rs, PyData.int, (fun r => decide (r < n)), PyData.int, rfl, by rw [sizeLine_eq]; omega, rfl, ?_, ?_⟩
  · intro r hr
    refine ⟨_, rfl, ?_⟩
    repeat walk_at "m2"
    refine ⟨rfl, ?_⟩
    split
    · repeat walk_at "m2"
      exact ⟨rfl, rfl⟩
    · rfl
  repeat walk_at "m2"
  rw [List.length_map]
  (first | exact ⟨_, rfl, rfl, rfl⟩ | exact ⟨rfl, rfl⟩ | exact ⟨_, rfl, rfl⟩ | exact ⟨rfl, rfl, rfl⟩ | exact ⟨_, rfl, _, rfl, rfl, rfl⟩ | exact ⟨rfl, _, rfl, rfl, rfl⟩ | rfl)
end CF
end
section
/-! CT, part 25: what a case asks of counts. -/
namespace CF
open PySem
local macro_rules | `(tactic| walk_at "hf") => `(tactic| (first
  | with_reducible exact eqD_int | with_reducible exact eqD_str | with_reducible exact neD_int | with_reducible exact addD_int | with_reducible exact addI_int | with_reducible exact subD_int | with_reducible exact geD_int | with_reducible exact gtD_int | with_reducible exact leD_int | with_reducible exact ltD_int | with_reducible exact modD_of (by decide) | with_reducible exact mulD_r (by decide) | with_reducible exact mulD_l (by decide) | with_reducible exact powD_of (by decide) | with_reducible exact ix0 | ((with_reducible show ixD (.list _) (.int _) = _); rfl) | ((with_reducible show ixD (.tuple _) (.int _) = _); rfl)
  | with_reducible exact intC_int | with_reducible exact lenC_list | with_reducible exact lenC_tuple | with_reducible exact tupleC_list | with_reducible exact listC_tuple | with_reducible exact listC_dict | with_reducible exact isN_none | with_reducible exact isN_int | with_reducible exact notN_none | with_reducible exact notN_int | with_reducible exact min2_int | with_reducible exact max2_int | with_reducible exact slD_list | with_reducible exact slD_tuple | with_reducible exact neD_str | with_reducible exact max2_int))
local macro_rules | `(tactic| walk_at "m1") => `(tactic| (first
  | with_reducible refine iSq ?_ | with_reducible refine iThn ?_ | with_reducible refine iIfS ?_ | with_reducible refine iSet ?_ | with_reducible refine iSetB ?_ | with_reducible refine iSetO ?_ | with_reducible refine iRet ?_ | with_reducible refine iNx ?_ | with_reducible refine iThnR ?_
  | with_reducible refine iTest ?_ | with_reducible refine iOp2 ?_ | ((with_reducible refine' iPk ?h1 ?h2); (case h1 => rfl)) | with_reducible refine iV ?_ | with_reducible refine iC ?_ | ((with_reducible refine' iVar ?h1 ?h2); (case h1 => rfl))
  | with_reducible refine iCall ?_ | with_reducible refine iLs0 ?_ | with_reducible refine iLs ?_ | with_reducible refine iSub ?_ | with_reducible refine iSl ?_ | with_reducible refine iSome ?_ | with_reducible refine iNone ?_ | with_reducible refine iLst ?_ | with_reducible refine iTup ?_ | with_reducible refine iDs0 ?_ | with_reducible refine iDs ?_
  | with_reducible refine iAnd ?_ | with_reducible refine iOr ?_ | with_reducible refine iNot ?_ | with_reducible refine iBl ?_ | with_reducible refine iIf ?_ | with_reducible refine iDrop ?_ | with_reducible refine iYes ?_ | with_reducible refine iPar ?_
  | ((with_reducible refine' iAugS ?h1 ?h2); (case h1 => exact ⟨_, rfl⟩))
  | ((with_reducible refine' iPutE ?h1 ?h2 ?h3); (case h1 => rfl); (case h2 => rfl))
  | ((with_reducible refine' iOp2E ?h1 ?h2 ?h3 ?h4); (case h1 => rfl); (case h2 => rfl); (case h3 => walk_at "hf"))
  | ((with_reducible refine' iCallE ?h1 ?h2 ?h3); (case h1 => rfl); (case h2 => walk_at "hf"))
  | with_reducible refine ⟨sz0, ?_⟩ | with_reducible refine ⟨sz1, ?_⟩ | with_reducible refine ⟨sz2, ?_⟩ | with_reducible refine ⟨sz3, ?_⟩ | with_reducible refine ⟨sz4, ?_⟩ | with_reducible refine ⟨sz5, ?_⟩
  | (with_reducible refine ⟨_, rfl, ?_⟩)
  | ((with_reducible refine' ⟨_, ?h1, ?h2⟩); (case h1 => walk_at "hf"))
  | ((with_reducible refine' ⟨⟨_, ?h1⟩, ?h2⟩); (case h1 => rfl))
  | ((with_reducible refine' ⟨_, _, ?h1, ?h2, ?h3⟩); (case h1 => rfl); (case h2 => walk_at "hf"))
  | ((with_reducible refine' ⟨_, _, ?h1, ?h2, ?h3⟩); (case h1 => rfl); (case h2 => rfl))))
local macro_rules | `(tactic| walk_at "m2") => `(tactic| (first
  | walk_at "m1" | with_reducible refine iFn ?_ | ((with_reducible refine' iBag ?h1 ?h2); (case h1 => rfl)) | with_reducible refine iRng1 ?_ | with_reducible refine iRng2 ?_ | with_reducible refine wIt ?_ | ((with_reducible refine' iMut ?h1 ?h2); (case h1 => rfl)) | with_reducible refine iRel rfl ?_
  | with_reducible refine iRevS ?_ | with_reducible refine iIsi ?_ | with_reducible refine iOp1 ?_ | with_reducible refine iThn ?_))
section
variable {h : House}
/-- facts at counts: where one holds, the other does -/
def Fct.holdF (h : House) (c : List Nat) (p : Fct) : Bool := p.2.hold h c || !(p.1.hold h c)
/-- what an answer sees at counts -/
inductive Sn where
  | b (x : Bool)
  | n (x : Nat)
def Sn.d : Sn → D
  | .b x => .bool x
  | .n x => .int x
def An.seen (h : House) (c : List Nat) : An → Sn
  | .is f _ => .b (f.hold h c)
  | .cnt l _ _ => .n (h.sum c l)
/-- whether an answer lets what is seen at a level -/
def An.due (rs : List Int) (i : Nat) : An → Sn → Bool
  | .is _ v, .b x => decide (x = (v.any fun n => decide (i ≤ lvl rs n)))
  | .cnt _ n k, .n x => !decide (i = lvl rs n) || decide (x = k)
  | _, _ => false
/-- what the case lets at a level -/
def Cse.let (k : Cse) (i : Nat) (c : List Nat) : Bool := (k.as.all fun a => a.due (rungsOf k.as) i (a.seen k.h c)) && k.fs.all (Fct.holdF k.h c)
end
end CF
end
section
/-! CT, part 26: what a case asks of counts at a number; the law's own words. -/
namespace CF
open PySem
local macro_rules | `(tactic| walk_at "hf") => `(tactic| (first
  | with_reducible exact eqD_int | with_reducible exact eqD_str | with_reducible exact neD_int | with_reducible exact addD_int | with_reducible exact addI_int | with_reducible exact subD_int | with_reducible exact geD_int | with_reducible exact gtD_int | with_reducible exact leD_int | with_reducible exact ltD_int | with_reducible exact modD_of (by decide) | with_reducible exact mulD_r (by decide) | with_reducible exact mulD_l (by decide) | with_reducible exact powD_of (by decide) | with_reducible exact ix0 | ((with_reducible show ixD (.list _) (.int _) = _); rfl) | ((with_reducible show ixD (.tuple _) (.int _) = _); rfl)
  | with_reducible exact intC_int | with_reducible exact lenC_list | with_reducible exact lenC_tuple | with_reducible exact tupleC_list | with_reducible exact listC_tuple | with_reducible exact listC_dict | with_reducible exact isN_none | with_reducible exact isN_int | with_reducible exact notN_none | with_reducible exact notN_int | with_reducible exact min2_int | with_reducible exact max2_int | with_reducible exact slD_list | with_reducible exact slD_tuple | with_reducible exact neD_str | with_reducible exact max2_int))
local macro_rules | `(tactic| walk_at "m1") => `(tactic| (first
  | with_reducible refine iSq ?_ | with_reducible refine iThn ?_ | with_reducible refine iIfS ?_ | with_reducible refine iSet ?_ | with_reducible refine iSetB ?_ | with_reducible refine iSetO ?_ | with_reducible refine iRet ?_ | with_reducible refine iNx ?_ | with_reducible refine iThnR ?_
  | with_reducible refine iTest ?_ | with_reducible refine iOp2 ?_ | ((with_reducible refine' iPk ?h1 ?h2); (case h1 => rfl)) | with_reducible refine iV ?_ | with_reducible refine iC ?_ | ((with_reducible refine' iVar ?h1 ?h2); (case h1 => rfl))
  | with_reducible refine iCall ?_ | with_reducible refine iLs0 ?_ | with_reducible refine iLs ?_ | with_reducible refine iSub ?_ | with_reducible refine iSl ?_ | with_reducible refine iSome ?_ | with_reducible refine iNone ?_ | with_reducible refine iLst ?_ | with_reducible refine iTup ?_ | with_reducible refine iDs0 ?_ | with_reducible refine iDs ?_
  | with_reducible refine iAnd ?_ | with_reducible refine iOr ?_ | with_reducible refine iNot ?_ | with_reducible refine iBl ?_ | with_reducible refine iIf ?_ | with_reducible refine iDrop ?_ | with_reducible refine iYes ?_ | with_reducible refine iPar ?_
  | ((with_reducible refine' iAugS ?h1 ?h2); (case h1 => exact ⟨_, rfl⟩))
  | ((with_reducible refine' iPutE ?h1 ?h2 ?h3); (case h1 => rfl); (case h2 => rfl))
  | ((with_reducible refine' iOp2E ?h1 ?h2 ?h3 ?h4); (case h1 => rfl); (case h2 => rfl); (case h3 => walk_at "hf"))
  | ((with_reducible refine' iCallE ?h1 ?h2 ?h3); (case h1 => rfl); (case h2 => walk_at "hf"))
  | with_reducible refine ⟨sz0, ?_⟩ | with_reducible refine ⟨sz1, ?_⟩ | with_reducible refine ⟨sz2, ?_⟩ | with_reducible refine ⟨sz3, ?_⟩ | with_reducible refine ⟨sz4, ?_⟩ | with_reducible refine ⟨sz5, ?_⟩
  | (with_reducible refine ⟨_, rfl, ?_⟩)
  | ((with_reducible refine' ⟨_, ?h1, ?h2⟩); (case h1 => walk_at "hf"))
  | ((with_reducible refine' ⟨⟨_, ?h1⟩, ?h2⟩); (case h1 => rfl))
  | ((with_reducible refine' ⟨_, _, ?h1, ?h2, ?h3⟩); (case h1 => rfl); (case h2 => walk_at "hf"))
  | ((with_reducible refine' ⟨_, _, ?h1, ?h2, ?h3⟩); (case h1 => rfl); (case h2 => rfl))))
local macro_rules | `(tactic| walk_at "m2") => `(tactic| (first
  | walk_at "m1" | with_reducible refine iFn ?_ | ((with_reducible refine' iBag ?h1 ?h2); (case h1 => rfl)) | with_reducible refine iRng1 ?_ | with_reducible refine iRng2 ?_ | with_reducible refine wIt ?_ | ((with_reducible refine' iMut ?h1 ?h2); (case h1 => rfl)) | with_reducible refine iRel rfl ?_
  | with_reducible refine iRevS ?_ | with_reducible refine iIsi ?_ | with_reducible refine iOp1 ?_ | with_reducible refine iThn ?_))
/-! ### plain: levels and numbers -/
theorem lvl_len (rs : List Int) (n : Int) : lvl rs n ≤ rs.length := List.length_filter_le ..
/-- an answer at a number -/
def An.at (h : House) (n : Int) (c : List Nat) : An → Bool
  | .is f v => decide (f.hold h c = (v.any fun m => decide (n ≤ m)))
  | .cnt l m j => !(decide (m = n) && !decide (h.sum c l = j))
def Fct.atF (h : House) (c : List Nat) (p : Fct) : Bool := !(p.1.hold h c && !p.2.hold h c)
def Cse.at (k : Cse) (n : Int) (c : List Nat) : Bool := (k.as.all (An.at k.h n c)) && k.fs.all (Fct.atF k.h c)
end CF
end
section
/-! CT, part 27: the law's own words for what is let. -/
namespace CF
open PySem
local macro_rules | `(tactic| walk_at "hf") => `(tactic| (first
  | with_reducible exact eqD_int | with_reducible exact eqD_str | with_reducible exact neD_int | with_reducible exact addD_int | with_reducible exact addI_int | with_reducible exact subD_int | with_reducible exact geD_int | with_reducible exact gtD_int | with_reducible exact leD_int | with_reducible exact ltD_int | with_reducible exact modD_of (by decide) | with_reducible exact mulD_r (by decide) | with_reducible exact mulD_l (by decide) | with_reducible exact powD_of (by decide) | with_reducible exact ix0 | ((with_reducible show ixD (.list _) (.int _) = _); rfl) | ((with_reducible show ixD (.tuple _) (.int _) = _); rfl)
  | with_reducible exact intC_int | with_reducible exact lenC_list | with_reducible exact lenC_tuple | with_reducible exact tupleC_list | with_reducible exact listC_tuple | with_reducible exact listC_dict | with_reducible exact isN_none | with_reducible exact isN_int | with_reducible exact notN_none | with_reducible exact notN_int | with_reducible exact min2_int | with_reducible exact max2_int | with_reducible exact slD_list | with_reducible exact slD_tuple | with_reducible exact neD_str | with_reducible exact max2_int))
local macro_rules | `(tactic| walk_at "m1") => `(tactic| (first
  | with_reducible refine iSq ?_ | with_reducible refine iThn ?_ | with_reducible refine iIfS ?_ | with_reducible refine iSet ?_ | with_reducible refine iSetB ?_ | with_reducible refine iSetO ?_ | with_reducible refine iRet ?_ | with_reducible refine iNx ?_ | with_reducible refine iThnR ?_
  | with_reducible refine iTest ?_ | with_reducible refine iOp2 ?_ | ((with_reducible refine' iPk ?h1 ?h2); (case h1 => rfl)) | with_reducible refine iV ?_ | with_reducible refine iC ?_ | ((with_reducible refine' iVar ?h1 ?h2); (case h1 => rfl))
  | with_reducible refine iCall ?_ | with_reducible refine iLs0 ?_ | with_reducible refine iLs ?_ | with_reducible refine iSub ?_ | with_reducible refine iSl ?_ | with_reducible refine iSome ?_ | with_reducible refine iNone ?_ | with_reducible refine iLst ?_ | with_reducible refine iTup ?_ | with_reducible refine iDs0 ?_ | with_reducible refine iDs ?_
  | with_reducible refine iAnd ?_ | with_reducible refine iOr ?_ | with_reducible refine iNot ?_ | with_reducible refine iBl ?_ | with_reducible refine iIf ?_ | with_reducible refine iDrop ?_ | with_reducible refine iYes ?_ | with_reducible refine iPar ?_
  | ((with_reducible refine' iAugS ?h1 ?h2); (case h1 => exact ⟨_, rfl⟩))
  | ((with_reducible refine' iPutE ?h1 ?h2 ?h3); (case h1 => rfl); (case h2 => rfl))
  | ((with_reducible refine' iOp2E ?h1 ?h2 ?h3 ?h4); (case h1 => rfl); (case h2 => rfl); (case h3 => walk_at "hf"))
  | ((with_reducible refine' iCallE ?h1 ?h2 ?h3); (case h1 => rfl); (case h2 => walk_at "hf"))
  | with_reducible refine ⟨sz0, ?_⟩ | with_reducible refine ⟨sz1, ?_⟩ | with_reducible refine ⟨sz2, ?_⟩ | with_reducible refine ⟨sz3, ?_⟩ | with_reducible refine ⟨sz4, ?_⟩ | with_reducible refine ⟨sz5, ?_⟩
  | (with_reducible refine ⟨_, rfl, ?_⟩)
  | ((with_reducible refine' ⟨_, ?h1, ?h2⟩); (case h1 => walk_at "hf"))
  | ((with_reducible refine' ⟨⟨_, ?h1⟩, ?h2⟩); (case h1 => rfl))
  | ((with_reducible refine' ⟨_, _, ?h1, ?h2, ?h3⟩); (case h1 => rfl); (case h2 => walk_at "hf"))
  | ((with_reducible refine' ⟨_, _, ?h1, ?h2, ?h3⟩); (case h1 => rfl); (case h2 => rfl))))
local macro_rules | `(tactic| walk_at "m2") => `(tactic| (first
  | walk_at "m1" | with_reducible refine iFn ?_ | ((with_reducible refine' iBag ?h1 ?h2); (case h1 => rfl)) | with_reducible refine iRng1 ?_ | with_reducible refine iRng2 ?_ | with_reducible refine wIt ?_ | ((with_reducible refine' iMut ?h1 ?h2); (case h1 => rfl)) | with_reducible refine iRel rfl ?_
  | with_reducible refine iRevS ?_ | with_reducible refine iIsi ?_ | with_reducible refine iOp1 ?_ | with_reducible refine iThn ?_))
section
variable {h : House} {pool : List Int} {t : Tbl}
end
end CF
end
section
/-! CT, part 28: numbers of a level. -/
namespace CF
open PySem
local macro_rules | `(tactic| walk_at "hf") => `(tactic| (first
  | with_reducible exact eqD_int | with_reducible exact eqD_str | with_reducible exact neD_int | with_reducible exact addD_int | with_reducible exact addI_int | with_reducible exact subD_int | with_reducible exact geD_int | with_reducible exact gtD_int | with_reducible exact leD_int | with_reducible exact ltD_int | with_reducible exact modD_of (by decide) | with_reducible exact mulD_r (by decide) | with_reducible exact mulD_l (by decide) | with_reducible exact powD_of (by decide) | with_reducible exact ix0 | ((with_reducible show ixD (.list _) (.int _) = _); rfl) | ((with_reducible show ixD (.tuple _) (.int _) = _); rfl)
  | with_reducible exact intC_int | with_reducible exact lenC_list | with_reducible exact lenC_tuple | with_reducible exact tupleC_list | with_reducible exact listC_tuple | with_reducible exact listC_dict | with_reducible exact isN_none | with_reducible exact isN_int | with_reducible exact notN_none | with_reducible exact notN_int | with_reducible exact min2_int | with_reducible exact max2_int | with_reducible exact slD_list | with_reducible exact slD_tuple | with_reducible exact neD_str | with_reducible exact max2_int))
local macro_rules | `(tactic| walk_at "m1") => `(tactic| (first
  | with_reducible refine iSq ?_ | with_reducible refine iThn ?_ | with_reducible refine iIfS ?_ | with_reducible refine iSet ?_ | with_reducible refine iSetB ?_ | with_reducible refine iSetO ?_ | with_reducible refine iRet ?_ | with_reducible refine iNx ?_ | with_reducible refine iThnR ?_
  | with_reducible refine iTest ?_ | with_reducible refine iOp2 ?_ | ((with_reducible refine' iPk ?h1 ?h2); (case h1 => rfl)) | with_reducible refine iV ?_ | with_reducible refine iC ?_ | ((with_reducible refine' iVar ?h1 ?h2); (case h1 => rfl))
  | with_reducible refine iCall ?_ | with_reducible refine iLs0 ?_ | with_reducible refine iLs ?_ | with_reducible refine iSub ?_ | with_reducible refine iSl ?_ | with_reducible refine iSome ?_ | with_reducible refine iNone ?_ | with_reducible refine iLst ?_ | with_reducible refine iTup ?_ | with_reducible refine iDs0 ?_ | with_reducible refine iDs ?_
  | with_reducible refine iAnd ?_ | with_reducible refine iOr ?_ | with_reducible refine iNot ?_ | with_reducible refine iBl ?_ | with_reducible refine iIf ?_ | with_reducible refine iDrop ?_ | with_reducible refine iYes ?_ | with_reducible refine iPar ?_
  | ((with_reducible refine' iAugS ?h1 ?h2); (case h1 => exact ⟨_, rfl⟩))
  | ((with_reducible refine' iPutE ?h1 ?h2 ?h3); (case h1 => rfl); (case h2 => rfl))
  | ((with_reducible refine' iOp2E ?h1 ?h2 ?h3 ?h4); (case h1 => rfl); (case h2 => rfl); (case h3 => walk_at "hf"))
  | ((with_reducible refine' iCallE ?h1 ?h2 ?h3); (case h1 => rfl); (case h2 => walk_at "hf"))
  | with_reducible refine ⟨sz0, ?_⟩ | with_reducible refine ⟨sz1, ?_⟩ | with_reducible refine ⟨sz2, ?_⟩ | with_reducible refine ⟨sz3, ?_⟩ | with_reducible refine ⟨sz4, ?_⟩ | with_reducible refine ⟨sz5, ?_⟩
  | (with_reducible refine ⟨_, rfl, ?_⟩)
  | ((with_reducible refine' ⟨_, ?h1, ?h2⟩); (case h1 => walk_at "hf"))
  | ((with_reducible refine' ⟨⟨_, ?h1⟩, ?h2⟩); (case h1 => rfl))
  | ((with_reducible refine' ⟨_, _, ?h1, ?h2, ?h3⟩); (case h1 => rfl); (case h2 => walk_at "hf"))
  | ((with_reducible refine' ⟨_, _, ?h1, ?h2, ?h3⟩); (case h1 => rfl); (case h2 => rfl))))
local macro_rules | `(tactic| walk_at "m2") => `(tactic| (first
  | walk_at "m1" | with_reducible refine iFn ?_ | ((with_reducible refine' iBag ?h1 ?h2); (case h1 => rfl)) | with_reducible refine iRng1 ?_ | with_reducible refine iRng2 ?_ | with_reducible refine wIt ?_ | ((with_reducible refine' iMut ?h1 ?h2); (case h1 => rfl)) | with_reducible refine iRel rfl ?_
  | with_reducible refine iRevS ?_ | with_reducible refine iIsi ?_ | with_reducible refine iOp1 ?_ | with_reducible refine iThn ?_))
section
variable {h : House} {pool : List Int} {t : Tbl}
end
end CF
end
section
/-! CT, part 29: small and great cases. -/
namespace CF
open PySem
local macro_rules | `(tactic| walk_at "hf") => `(tactic| (first
  | with_reducible exact eqD_int | with_reducible exact eqD_str | with_reducible exact neD_int | with_reducible exact addD_int | with_reducible exact addI_int | with_reducible exact subD_int | with_reducible exact geD_int | with_reducible exact gtD_int | with_reducible exact leD_int | with_reducible exact ltD_int | with_reducible exact modD_of (by decide) | with_reducible exact mulD_r (by decide) | with_reducible exact mulD_l (by decide) | with_reducible exact powD_of (by decide) | with_reducible exact ix0 | ((with_reducible show ixD (.list _) (.int _) = _); rfl) | ((with_reducible show ixD (.tuple _) (.int _) = _); rfl)
  | with_reducible exact intC_int | with_reducible exact lenC_list | with_reducible exact lenC_tuple | with_reducible exact tupleC_list | with_reducible exact listC_tuple | with_reducible exact listC_dict | with_reducible exact isN_none | with_reducible exact isN_int | with_reducible exact notN_none | with_reducible exact notN_int | with_reducible exact min2_int | with_reducible exact max2_int | with_reducible exact slD_list | with_reducible exact slD_tuple | with_reducible exact neD_str | with_reducible exact max2_int))
local macro_rules | `(tactic| walk_at "m1") => `(tactic| (first
  | with_reducible refine iSq ?_ | with_reducible refine iThn ?_ | with_reducible refine iIfS ?_ | with_reducible refine iSet ?_ | with_reducible refine iSetB ?_ | with_reducible refine iSetO ?_ | with_reducible refine iRet ?_ | with_reducible refine iNx ?_ | with_reducible refine iThnR ?_
  | with_reducible refine iTest ?_ | with_reducible refine iOp2 ?_ | ((with_reducible refine' iPk ?h1 ?h2); (case h1 => rfl)) | with_reducible refine iV ?_ | with_reducible refine iC ?_ | ((with_reducible refine' iVar ?h1 ?h2); (case h1 => rfl))
  | with_reducible refine iCall ?_ | with_reducible refine iLs0 ?_ | with_reducible refine iLs ?_ | with_reducible refine iSub ?_ | with_reducible refine iSl ?_ | with_reducible refine iSome ?_ | with_reducible refine iNone ?_ | with_reducible refine iLst ?_ | with_reducible refine iTup ?_ | with_reducible refine iDs0 ?_ | with_reducible refine iDs ?_
  | with_reducible refine iAnd ?_ | with_reducible refine iOr ?_ | with_reducible refine iNot ?_ | with_reducible refine iBl ?_ | with_reducible refine iIf ?_ | with_reducible refine iDrop ?_ | with_reducible refine iYes ?_ | with_reducible refine iPar ?_
  | ((with_reducible refine' iAugS ?h1 ?h2); (case h1 => exact ⟨_, rfl⟩))
  | ((with_reducible refine' iPutE ?h1 ?h2 ?h3); (case h1 => rfl); (case h2 => rfl))
  | ((with_reducible refine' iOp2E ?h1 ?h2 ?h3 ?h4); (case h1 => rfl); (case h2 => rfl); (case h3 => walk_at "hf"))
  | ((with_reducible refine' iCallE ?h1 ?h2 ?h3); (case h1 => rfl); (case h2 => walk_at "hf"))
  | with_reducible refine ⟨sz0, ?_⟩ | with_reducible refine ⟨sz1, ?_⟩ | with_reducible refine ⟨sz2, ?_⟩ | with_reducible refine ⟨sz3, ?_⟩ | with_reducible refine ⟨sz4, ?_⟩ | with_reducible refine ⟨sz5, ?_⟩
  | (with_reducible refine ⟨_, rfl, ?_⟩)
  | ((with_reducible refine' ⟨_, ?h1, ?h2⟩); (case h1 => walk_at "hf"))
  | ((with_reducible refine' ⟨⟨_, ?h1⟩, ?h2⟩); (case h1 => rfl))
  | ((with_reducible refine' ⟨_, _, ?h1, ?h2, ?h3⟩); (case h1 => rfl); (case h2 => walk_at "hf"))
  | ((with_reducible refine' ⟨_, _, ?h1, ?h2, ?h3⟩); (case h1 => rfl); (case h2 => rfl))))
local macro_rules | `(tactic| walk_at "m2") => `(tactic| (first
  | walk_at "m1" | with_reducible refine iFn ?_ | ((with_reducible refine' iBag ?h1 ?h2); (case h1 => rfl)) | with_reducible refine iRng1 ?_ | with_reducible refine iRng2 ?_ | with_reducible refine wIt ?_ | ((with_reducible refine' iMut ?h1 ?h2); (case h1 => rfl)) | with_reducible refine iRel rfl ?_
  | with_reducible refine iRevS ?_ | with_reducible refine iIsi ?_ | with_reducible refine iOp1 ?_ | with_reducible refine iThn ?_))
/-- a case and a table of its house -/
def CaseT (d : D) : Prop := ∃ (k : Cse) (pool : List Int) (t : Tbl), d = .tuple [k.d, t.d] ∧ CsOk k ∧ TOk k.h pool t ∧ PoolOk pool
def b_great_case : MS :=
  (mSq (mSet 1 (mFn [0] g_cell1 [(mPk 0), (mV (mC (.int 4)))]))
  (mSq (mSet 2 (mFn [0] g_one [(mPk 0), (mV (mLst [(mTup [(mC (.int 1)), (mC (.int 1))]), (mTup [(mC (.int 6)), (mC (.int 6))]), (mTup [(mC (.int 5)), (mC .none)]), (mTup [(mC (.int 1)), (mC (.int 1))]), (mTup [(mC (.int 6)), (mC (.int 9))])]))]))
  (mSq (mSet 1 (mOp2 addD (mV (mSl slD (mPk 1) noneP (someP (mOp1 negD (mV (mC (.int 1))))))) (mV (mTup [(mOp2 addD (mV (mTup [(mOp2 ixD (mV (mOp2 ixD (mPk 1) (mV (mOp1 negD (mV (mC (.int 1))))))) (mV (mC (.int 0))))])) (mPk 2))]))))
  (mSq (mSet 3 (mFn [0] g_table [(mPk 0), (mPk 1), (mV (mFn [0] g_numbers [(mPk 0)])), (mV (mC (.int 2)))]))
  (mSq (mSet 4 (mFn [0] g_l_facts [(mPk 0), (mPk 1), (mPk 3), (mV (mOp2 addD (mV (mC (.int 3))) (mV (mFn [0] g_take [(mPk 0), (mV (mC (.int 2)))])))), (mV (mC (.int 2)))]))
  (mSq (mSetO 5 (mLst []))
  (mSq (mFor (mRng1 (mV (mOp2 addD (mV (mC (.int 7))) (mV (mFn [0] g_take [(mPk 0), (mV (mC (.int 4)))]))))) (setS 6)
    (mSq (mPar 7 8 (mFn [0] g_one [(mPk 0), (mV (mLst [(mC (.int 1)), (mC (.int 2)), (mC (.int 4))]))]) (mFn [0] g_one [(mPk 0), (mV (mLst [(mC (.int 1)), (mC (.int 2)), (mC (.int 1)), (mC (.int 9))]))]))
  (mDrop (mMut 5 appG (mDs [(mFnT [0, 4] (g_formula 20) [(mPk 0), (mPk 1), (mPk 7), (mPk 8)] (mLst [(mFn [0] g_one [(mPk 0), (mV (mLst [(mC (.int 5)), (mC (.int 12))]))])]))])))))
  (mSq (mSq (mRel 5) (mSet 9 (mFn [0] g_l_case [(mPk 0), (mPk 1), (mPk 3), (mPk 5), (mPk 4)])))
  (mSq (mIfS (mTest (mOp2 eqD (mV (mFn [0] g_take [(mPk 0), (mV (mC (.int 3)))])) (mV (mC (.int 0)))))
    (mSet 9 (mFn [0] g_l_turned_case [(mPk 0), (mPk 9)]))
    mNx)
  (mRet (mTup [(mVar 9), (mVar 3)])))))))))))
def g_great_case : FM := runF false 1 9 [0] b_great_case
theorem wide_ok {h : House} (oh : HOk h) {lo : Nat} {hi : Option Nat} (l6 : lo ≤ 6) (hh : ∀ m, hi = some m → lo ≤ m ∧ m ≤ 9) {zs : House} {z : Srt} (e : h = zs ++ [z]) : HOk (zs ++ [⟨z.nm, lo, hi⟩]) := by
  subst e
  have en : House.nms (zs ++ [⟨z.nm, lo, hi⟩]) = House.nms (zs ++ [z]) := by unfold House.nms; rw [List.map_append, List.map_append]; rfl
  refine ⟨en ▸ oh.asc, en ▸ oh.nm, ?_, ?_, ?_, ?_⟩
  · intro s hs
    rcases List.mem_append.mp hs with q | q
    · exact oh.lo s (List.mem_append_left _ q)
    · rw [List.mem_singleton.mp q]; exact l6
  · intro s hs
    rcases List.mem_append.mp hs with q | q
    · exact oh.hi s (List.mem_append_left _ q)
    · rw [List.mem_singleton.mp q]; exact hh
  · have := oh.l1; rw [List.length_append] at this ⊢; exact this
  · have := oh.l5; rw [List.length_append] at this ⊢; exact this
theorem cut_but (xs : List D) (x : D) : cutL (xs ++ [x]) none (some (-1)) = xs := by
  unfold cutL
  rw [HT.sIx_none, show HT.sIx (xs ++ [x]).length (xs ++ [x]).length (some (-1)) = xs.length from ?_, List.drop_zero, Nat.sub_zero]
  · exact List.take_left
  · show (if (-1 : Int) < 0 then ((-1 : Int) + ((xs ++ [x]).length : Int)).toNat else min (-1 : Int).toNat (xs ++ [x]).length) = _
    rw [if_pos (by decide), List.length_append]
    simp
    omega
theorem right_VB {pool : List Int} {t : Tbl} {k : Cse} (o : TOk k.h pool t) (hp : Small30 pool) (oc : CsOk k) (hr : ∀ a ∈ k.as, a.right t = true) : ∀ a ∈ k.as, VB (10 ^ 30) a := fun a ha f v e => by
  subst e
  have hr := hr _ ha
  unfold An.right at hr
  simp only [decide_eq_true_eq] at hr
  cases oc.as _ ha with
  | is of _ => exact hp v (val_mem o of v hr)
theorem CsOk.turn {k : Cse} (oc : CsOk k) {as : List An} (oa : ∀ a ∈ as, AOk k.h a) (al : as.length = k.as.length) : CsOk ⟨k.h, k.fs, as⟩ := ⟨oc.h, oc.fs, oa, oc.fl, by show as.length ≤ 10; rw [al]; exact oc.al⟩
theorem great_t : bagFn g_great_case [] CaseT := fun bag ok => by
  unfold g_great_case
  refine run_gives rfl ?_
  unfold b_great_case
  repeat walk_at "m2"
  refine iBagE rfl rfl ok (cell1_t (by decide) (by decide)) ?_
  rintro _ bag1 ⟨⟨h, rfl, oh, h5⟩, _⟩ ok1
  repeat walk_at "m2"
  refine iBagE rfl rfl ok1 (one_t (e := fun p : Nat × Option Nat => PyData.tuple [.int p.1, hiD p.2]) (as := [(1, some 1), (6, some 6), (5, none), (1, some 1), (6, some 9)]) (.inl rfl) (by decide) (by decide)) ?_
  rintro _ bag2 ⟨⟨lo, hi⟩, hm, rfl⟩ ok2
  obtain ⟨zs, z, e⟩ : ∃ zs z, h = zs ++ [z] := ⟨_, _, (List.dropLast_concat_getLast (l := h) (by have := oh.l1; intro q; rw [q] at this; exact absurd this (by decide))).symm⟩
  have oh2 : HOk (zs ++ [⟨z.nm, lo, hi⟩]) := wide_ok oh (by
    simp only [List.mem_cons, List.not_mem_nil, or_false, Prod.mk.injEq] at hm
    rcases hm with ⟨rfl, _⟩ | ⟨rfl, _⟩ | ⟨rfl, _⟩ | ⟨rfl, _⟩ | ⟨rfl, _⟩ <;> decide) (by
    simp only [List.mem_cons, List.not_mem_nil, or_false, Prod.mk.injEq] at hm
    rcases hm with ⟨rfl, rfl⟩ | ⟨rfl, rfl⟩ | ⟨rfl, rfl⟩ | ⟨rfl, rfl⟩ | ⟨rfl, rfl⟩ <;> intro m e <;> cases e <;> decide) e
  have hd : h.d = .tuple (zs.map Srt.d ++ [z.d]) := by rw [e]; unfold House.d; rw [List.map_append]; rfl
  have h5' := oh.l5
  refine iThn (iNorm (ρ' := [.own bag2, .dat h.d, .dat (.tuple [.int lo, hiD hi]), .un, .un, .un, .un, .un, .un, .un]) rfl ?_)
  repeat walk_at "m2"
  rw [show cutL (h.map Srt.d) none (some (-1)) = zs.map Srt.d from by rw [e, List.map_append]; exact cut_but _ _]
  refine iOp2E rfl rfl (show ixD h.d (.int (-1)) = some z.d from by rw [hd]; exact L2.atI_last _ _) ?_
  repeat walk_at "m2"
  refine iOp2E rfl rfl (show ixD z.d (.int 0) = some (.str z.nm) from rfl) ?_
  refine iDs0 ⟨sz1, ?_⟩
  refine iPk rfl ?_
  refine iOp2E rfl rfl (show addD (.tuple [.str z.nm]) (.tuple [.int lo, hiD hi]) = some (Srt.mk z.nm lo hi).d from addD_tup (by show 1 + 2 ≤ 1000; decide)) ?_
  refine iDs0 ⟨sz1, ?_⟩
  have zl : zs.length ≤ 4 := by rw [e, List.length_append] at h5'; have : [z].length = 1 := rfl; omega
  refine iOp2E rfl rfl (show addD (.tuple (zs.map Srt.d)) (.tuple [(Srt.mk z.nm lo hi).d]) = some (House.d (zs ++ [⟨z.nm, lo, hi⟩])) from by rw [addD_tup (by rw [List.length_map]; show zs.length + 1 ≤ _; omega)]; unfold House.d; rw [List.map_append]; rfl) ?_
  clear hd e h5' h5
  obtain ⟨h', eh⟩ : ∃ h' : House, zs ++ [⟨z.nm, lo, hi⟩] = h' := ⟨_, rfl⟩
  rw [eh] at oh2 ⊢
  clear eh
  refine iThn (iNorm (ρ' := [.own bag2, .dat h'.d, .dat (.tuple [.int lo, hiD hi]), .un, .un, .un, .un, .un, .un, .un]) rfl ?_)
  repeat walk_at "m2"
  refine iBagE rfl rfl ok2 numbers_t ?_
  rintro _ bag3 ⟨pool, rfl, hp⟩ ok3
  have p7 := hp.2.1
  repeat walk_at "m2"
  refine iBagE rfl rfl ok3 (table_t oh2 hp.1 (by omega) (by decide) (by decide)) ?_
  rintro _ bag4 ⟨t, rfl, o, _⟩ ok4
  repeat walk_at "m2"
  refine iBagE rfl rfl ok4 (take_fn (by decide) (by decide)) ?_
  rintro _ bag5 ⟨u, rfl, u0, u1⟩ ok5
  repeat walk_at "m2"
  refine iBagE rfl rfl ok5 (facts_t oh2 o (many := 3 + u) (by omega) (by omega) (by decide) (by decide)) ?_
  rintro _ bag6 ⟨fs, rfl, ofs, fl⟩ ok6
  refine iThn (iNorm (ρ' := [.own bag6, .dat h'.d, .dat (.tuple [.int lo, hiD hi]), .dat t.d, .dat (fctsD fs), .un, .un, .un, .un, .un]) rfl ?_)
  refine iSq (iSetO (iLst (iDs0 ⟨sz0, iThn (iSq (iForT (iRng1 (iV ?_))))⟩)))
  repeat walk_at "m2"
  refine iBagE rfl rfl ok6 (take_fn (by decide) (by decide)) ?_
  rintro _ bag7 ⟨v, rfl, v0, v1⟩ ok7
  refine iOp2E rfl rfl addD_int ?_
  refine ⟨7 + v, rfl, okR_of (by omega) (by omega), Nat, List.range (Int.toNat (7 + v)), (fun i => .int (0 + (i : Nat))), fun rest ρ => ∃ (bag : D) (gs : List Fm) (s6 s7 s8 : CF.Slot), BagOk bag ∧ (∀ f ∈ gs, FOk h' 5 3 f) ∧ gs.length + rest.length ≤ 10 ∧ isOwn s6 = false ∧ isOwn s7 = false ∧ isOwn s8 = false ∧ ρ = [.own bag, .dat h'.d, .dat (.tuple [.int lo, hiD hi]), .dat t.d, .dat (fctsD fs), .own (.list (gs.map Fm.d)), s6, s7, s8, .un], rangeD_map _ _, ⟨bag7, [], _, _, _, ok7, fun f hf => (nomatch hf), by rw [List.length_range]; show 0 + _ ≤ 10; omega, rfl, rfl, rfl, rfl⟩, ?_, ?_⟩
  · rintro ρ ⟨bag8, gs, s6, s7, s8, ok8, og, gl, _, _, _, rfl⟩
    rw [List.length_nil, Nat.add_zero] at gl
    refine iThn (iSq (iSq (iRel rfl (iThn (iSet (iBag rfl ?_))))))
    repeat walk_at "m2"
    refine iBagE rfl rfl ok8 (case_t oh2 o (by omega) hp.2.2.1 (fs := fs) og gl) ?_
    rintro _ bag9 ⟨as, rfl, oas, al⟩ ok9
    have oc : CsOk ⟨h', fs, as⟩ := ⟨oh2, fun p hp => (ofs p hp).1, fun a ha => (oas a ha).1, by show fs.length ≤ 4; omega, by show as.length ≤ 10; omega⟩
    refine iThn (iNorm (ρ' := [.own bag9, .dat h'.d, .dat (.tuple [.int lo, hiD hi]), .dat t.d, .dat (fctsD fs), .dat (.list (gs.map Fm.d)), s6, s7, s8, .dat (Cse.mk h' fs as).d]) rfl ?_)
    refine iSq (iIfS (iTest (iOp2 (iV (iBag rfl ?_)))))
    repeat walk_at "m2"
    refine iBagE rfl rfl ok9 (take_fn (by decide) (by decide)) ?_
    rintro _ bag10 ⟨w, rfl, w0, w1⟩ ok10
    repeat walk_at "m2"
    refine iteD (fun q => ?_) (fun q => ?_)
    · repeat walk_at "m2"
      refine iBagE rfl rfl ok10 (tcase_t oc (B := 10 ^ 30) (Nat.le_refl _) (by decide) (right_VB o hp.2.2.1 oc fun a ha => (oas a ha).2)) ?_
      rintro _ bag11 ⟨as2, rfl, oas2, al2⟩ ok11
      repeat walk_at "m2"
      exact ⟨rfl, ⟨⟨h', fs, as2⟩, pool, t, rfl, oc.turn (fun a ha => (oas2 a ha).1) al2, o, hp⟩, bag11, ok11, rfl⟩
    · repeat walk_at "m2"
      exact ⟨rfl, ⟨⟨h', fs, as⟩, pool, t, rfl, oc, o, hp⟩, bag10, ok10, rfl⟩
  · rintro i rest ρ hj ⟨bag8, gs, s6, s7, s8, ok8, og, gl, _, _, _, rfl⟩
    rw [List.length_cons] at gl
    refine ⟨_, rfl, ?_⟩
    refine iSq (iPar (iBag rfl ?_))
    repeat walk_at "m2"
    refine iBagE rfl rfl ok8 (one_i [1, 2, 4] (by decide) (by decide)) ?_
    rintro _ bag9 ⟨deep, rfl, hdp⟩ ok9
    repeat walk_at "m2"
    refine iBagE rfl rfl ok9 (one_i [1, 2, 1, 9] (by decide) (by decide)) ?_
    rintro _ bag10 ⟨most, rfl, hmo⟩ ok10
    have dd : 1 ≤ deep ∧ deep ≤ 4 := by
      simp only [List.mem_cons, List.not_mem_nil, or_false] at hdp
      omega
    have mm : 0 < most ∧ most ≤ 9 := by
      simp only [List.mem_cons, List.not_mem_nil, or_false] at hmo
      omega
    refine iThn (iNorm (ρ' := [.own bag10, .dat h'.d, .dat (.tuple [.int lo, hiD hi]), .dat t.d, .dat (fctsD fs), .own (.list (gs.map Fm.d)), .dat (.int (0 + (i : Nat))), .dat (.int deep), .dat (.int most), .un]) rfl ?_)
    refine iDrop (iMut rfl (iDs (iFnT2 rfl ?_)))
    repeat walk_at "m2"
    refine iBagE rfl rfl ok10 (one_i [5, 12] (by decide) (by decide)) ?_
    rintro _ bag11 ⟨left, rfl, _⟩ ok11
    repeat walk_at "m2"
    refine ⟨by show (0 : Nat) ≠ 10; decide, _, _, _, _, _, rfl, rfl, rfl, ?_⟩
    obtain ⟨f, ps', bag12, n5, e, of5, ok12, g0, g4⟩ := form_b oh2 (deep := deep) dd.2 mm.1 mm.2 ok11 left
    refine ⟨_, ps', e, ?_⟩
    simp only [g0, g4]
    repeat walk_at "m2"
    refine iMutE (xs := gs.map Fm.d) rfl (app_ok (by rw [List.length_map]; omega)) ?_
    refine ⟨bag12, gs ++ [f], .dat (.int (0 + (i : Nat))), .dat (.int deep), .dat (.int most), ok12, ?_, by rw [List.length_append, List.length_singleton]; omega, rfl, rfl, rfl, by rw [List.map_append]; rfl⟩
    intro q hq
    rcases List.mem_append.mp hq with hq | hq
    · exact og q hq
    · rw [List.mem_singleton.mp hq]; exact of5
def b_small_case : MS :=
  (mSq (mIfS (mTest (mOp2 eqD (mV (mFn [0] g_take [(mPk 0), (mV (mC (.int 4)))])) (mV (mC (.int 0)))))
    (mRet (mFn [0] g_great_case [(mPk 0)]))
    mNx)
  (mSq (mSet 1 (mFn [0] g_oneh1 [(mPk 0)]))
  (mSq (mSet 2 (mFn [0] g_table [(mPk 0), (mPk 1), (mV (mFn [0] g_numbers [(mPk 0)])), (mV (mC (.int 2)))]))
  (mSq (mSet 3 (mFn [0] g_l_facts [(mPk 0), (mPk 1), (mPk 2), (mV (mFn [0] g_one [(mPk 0), (mV (mLst [(mC (.int 0)), (mC (.int 0)), (mC (.int 1)), (mC (.int 2))]))])), (mV (mC (.int 3)))]))
  (mSq (mSetO 4 (mLst []))
  (mSq (mFor (mRng1 (mV (mFn [0] g_one [(mPk 0), (mV (mLst [(mC (.int 1)), (mC (.int 2)), (mC (.int 3)), (mC (.int 2)), (mC (.int 0)), (mC (.int 4)), (mC (.int 6))]))]))) (setS 5)
    (mDrop (mMut 4 appG (mDs [(mFnT [0, 4] (g_formula 20) [(mPk 0), (mPk 1), (mV (mFn [0] g_one [(mPk 0), (mV (mLst [(mC (.int 1)), (mC (.int 2)), (mC (.int 3))]))])), (mV (mFn [0] g_one [(mPk 0), (mV (mLst [(mC (.int 2)), (mC (.int 3)), (mC (.int 1))]))]))] (mLst [(mC (.int 5))]))]))))
  (mSq (mSq (mRel 4) (mSet 6 (mFn [0] g_l_case [(mPk 0), (mPk 1), (mPk 2), (mPk 4), (mPk 3)])))
  (mSq (mFor (mRng1 (mV (mFn [0] g_one [(mPk 0), (mV (mLst [(mC (.int 0)), (mC (.int 0)), (mC (.int 1)), (mC (.int 2))]))]))) (setS 5)
    (mSet 6 (mFn [0] g_l_turned_case [(mPk 0), (mPk 6)])))
  (mRet (mTup [(mVar 6), (mVar 2)]))))))))))
def g_small_case : FM := runF false 1 6 [0] b_small_case
theorem small_t : bagFn g_small_case [] CaseT := fun bag ok => by
  unfold g_small_case
  refine run_gives rfl ?_
  unfold b_small_case
  repeat walk_at "m2"
  refine iBagE rfl rfl ok (take_fn (by decide) (by decide)) ?_
  rintro _ bag0 ⟨w, rfl, w0, w1⟩ ok0
  repeat walk_at "m2"
  refine iteD (fun q => ?_) (fun q => ?_)
  · repeat walk_at "m2"
    refine iBagE rfl rfl ok0 great_t ?_
    intro d bag1 hd ok1
    exact ⟨d, rfl, rfl, hd, bag1, ok1, rfl⟩
  refine iNx (iThn ?_)
  repeat walk_at "m2"
  refine iBagE rfl rfl ok0 oneh1_t ?_
  rintro _ bag1 ⟨h, rfl, oh, h5⟩ ok1
  repeat walk_at "m2"
  refine iBagE rfl rfl ok1 numbers_t ?_
  rintro _ bag3 ⟨pool, rfl, hp⟩ ok3
  have p7 := hp.2.1
  repeat walk_at "m2"
  refine iBagE rfl rfl ok3 (table_t oh hp.1 (by omega) (by decide) (by decide)) ?_
  rintro _ bag4 ⟨t, rfl, o, _⟩ ok4
  repeat walk_at "m2"
  refine iBagE rfl rfl ok4 (one_i [0, 0, 1, 2] (by decide) (by decide)) ?_
  rintro _ bag5 ⟨u, rfl, hu⟩ ok5
  have uu : 0 ≤ u ∧ u ≤ 2 := by
    simp only [List.mem_cons, List.not_mem_nil, or_false] at hu
    omega
  repeat walk_at "m2"
  refine iBagE rfl rfl ok5 (facts_t oh o uu.1 (by omega) (by decide) (by decide)) ?_
  rintro _ bag6 ⟨fs, rfl, ofs, fl⟩ ok6
  refine iThn (iNorm (ρ' := [.own bag6, .dat h.d, .dat t.d, .dat (fctsD fs), .un, .un, .un]) rfl ?_)
  refine iSq (iSetO (iLst (iDs0 ⟨sz0, iThn (iSq (iForT (iRng1 (iV (iBag rfl ?_)))))⟩)))
  repeat walk_at "m2"
  refine ⟨by rw [sizeLine_eq]; show 7 ≤ _; decide, ?_⟩
  repeat walk_at "m2"
  refine iBagE rfl rfl ok6 (one_i [1, 2, 3, 2, 0, 4, 6] (by decide) (by decide)) ?_
  rintro _ bag7 ⟨v, rfl, hv⟩ ok7
  have vv : 0 ≤ v ∧ v ≤ 6 := by
    simp only [List.mem_cons, List.not_mem_nil, or_false] at hv
    omega
  refine ⟨v, rfl, okR_of (by omega) (by omega), Nat, List.range (Int.toNat v), (fun i => .int (0 + (i : Nat))), fun rest ρ => ∃ (bag : D) (gs : List Fm) (s5 : CF.Slot), BagOk bag ∧ (∀ f ∈ gs, FOk h 5 3 f) ∧ gs.length + rest.length ≤ 10 ∧ isOwn s5 = false ∧ ρ = [.own bag, .dat h.d, .dat t.d, .dat (fctsD fs), .own (.list (gs.map Fm.d)), s5, .un], rangeD_map _ _, ⟨bag7, [], _, ok7, fun f hf => (nomatch hf), by rw [List.length_range]; show 0 + _ ≤ 10; omega, rfl, rfl⟩, ?_, ?_⟩
  · rintro ρ ⟨bag8, gs, s5, ok8, og, gl, _, rfl⟩
    rw [List.length_nil, Nat.add_zero] at gl
    refine iThn (iSq (iSq (iRel rfl (iThn (iSet (iBag rfl ?_))))))
    repeat walk_at "m2"
    refine iBagE rfl rfl ok8 (case_t oh o (by omega) hp.2.2.1 (fs := fs) og gl) ?_
    rintro _ bag9 ⟨as, rfl, oas, al⟩ ok9
    have oc : CsOk ⟨h, fs, as⟩ := ⟨oh, fun p hp => (ofs p hp).1, fun a ha => (oas a ha).1, by show fs.length ≤ 4; omega, by show as.length ≤ 10; omega⟩
    refine iThn (iNorm (ρ' := [.own bag9, .dat h.d, .dat t.d, .dat (fctsD fs), .dat (.list (gs.map Fm.d)), s5, .dat (Cse.mk h fs as).d]) rfl ?_)
    refine iSq (iForT (iRng1 (iV (iBag rfl ?_))))
    repeat walk_at "m2"
    refine iBagE rfl rfl ok9 (one_i [0, 0, 1, 2] (by decide) (by decide)) ?_
    rintro _ bag10 ⟨w, rfl, hw⟩ ok10
    have ww : 0 ≤ w ∧ w ≤ 2 := by
      simp only [List.mem_cons, List.not_mem_nil, or_false] at hw
      omega
    refine ⟨w, rfl, okR_of (by omega) (by omega), Nat, List.range (Int.toNat w), (fun i => .int (0 + (i : Nat))), fun rest ρ => ∃ (bag : D) (as : List An) (s5 : CF.Slot) (B : Nat), BagOk bag ∧ CsOk ⟨h, fs, as⟩ ∧ 10 ^ 30 ≤ B ∧ B + rest.length ≤ 10 ^ 30 + 2 ∧ (∀ a ∈ as, VB B a) ∧ ρ = [.own bag, .dat h.d, .dat t.d, .dat (fctsD fs), .dat (.list (gs.map Fm.d)), s5, .dat (Cse.mk h fs as).d], rangeD_map _ _, ⟨bag10, as, s5, 10 ^ 30, ok10, oc, Nat.le_refl _, by rw [List.length_range]; omega, right_VB o hp.2.2.1 oc fun a ha => (oas a ha).2, rfl⟩, ?_, ?_⟩
    · rintro ρ ⟨bag11, as2, s5, B, ok11, oc2, _, _, _, rfl⟩
      repeat walk_at "m2"
      exact ⟨rfl, ⟨⟨h, fs, as2⟩, pool, t, rfl, oc2, o, hp⟩, bag11, ok11, rfl⟩
    · rintro i rest ρ hj ⟨bag11, as2, s5, B, ok11, oc2, b0, b1, hvb, rfl⟩
      rw [List.length_cons] at b1
      refine ⟨_, rfl, ?_⟩
      refine iSet (iBag rfl ?_)
      repeat walk_at "m2"
      refine iBagE rfl rfl ok11 (tcase_t oc2 b0 (by omega) hvb) ?_
      rintro _ bag12 ⟨as3, rfl, oas3, al3⟩ ok12
      exact ⟨bag12, as3, _, B + 1, ok12, oc2.turn (fun a ha => (oas3 a ha).1) al3, by omega, by omega, fun a ha => (oas3 a ha).2, rfl⟩
  · rintro i rest ρ hj ⟨bag8, gs, s5, ok8, og, gl, _, rfl⟩
    rw [List.length_cons] at gl
    refine ⟨_, rfl, ?_⟩
    refine iDrop (iMut rfl (iDs (iFnT2 rfl ?_)))
    repeat walk_at "m2"
    refine iBagE rfl rfl ok8 (one_i [1, 2, 3] (by decide) (by decide)) ?_
    rintro _ bag9 ⟨deep, rfl, hdp⟩ ok9
    repeat walk_at "m2"
    refine iBagE rfl rfl ok9 (one_i [2, 3, 1] (by decide) (by decide)) ?_
    rintro _ bag10 ⟨most, rfl, hmo⟩ ok10
    have dd : 1 ≤ deep ∧ deep ≤ 4 := by
      simp only [List.mem_cons, List.not_mem_nil, or_false] at hdp
      omega
    have mm : 0 < most ∧ most ≤ 9 := by
      simp only [List.mem_cons, List.not_mem_nil, or_false] at hmo
      omega
    repeat walk_at "m2"
    refine ⟨by show (0 : Nat) ≠ 7; decide, _, _, _, _, _, rfl, rfl, rfl, ?_⟩
    obtain ⟨f, ps', bag12, n5, e, of5, ok12, g0, g4⟩ := form_b oh (deep := deep) dd.2 mm.1 mm.2 ok10 5
    refine ⟨_, ps', e, ?_⟩
    simp only [g0, g4]
    repeat walk_at "m2"
    refine iMutE (xs := gs.map Fm.d) rfl (app_ok (by rw [List.length_map]; omega)) ?_
    refine ⟨bag12, gs ++ [f], .dat (.int (0 + (i : Nat))), ok12, ?_, by rw [List.length_append, List.length_singleton]; omega, rfl, by rw [List.map_append]; rfl⟩
    intro q hq
    rcases List.mem_append.mp hq with hq | hq
    · exact og q hq
    · rw [List.mem_singleton.mp hq]; exact of5
end CF
end
section
/-! CT, part 30: depths, caps, rungs as a list of one's own. -/
namespace CF
open PySem
local macro_rules | `(tactic| walk_at "hf") => `(tactic| (first
  | with_reducible exact eqD_int | with_reducible exact eqD_str | with_reducible exact neD_int | with_reducible exact addD_int | with_reducible exact addI_int | with_reducible exact subD_int | with_reducible exact geD_int | with_reducible exact gtD_int | with_reducible exact leD_int | with_reducible exact ltD_int | with_reducible exact modD_of (by decide) | with_reducible exact mulD_r (by decide) | with_reducible exact mulD_l (by decide) | with_reducible exact powD_of (by decide) | with_reducible exact ix0 | ((with_reducible show ixD (.list _) (.int _) = _); rfl) | ((with_reducible show ixD (.tuple _) (.int _) = _); rfl)
  | with_reducible exact intC_int | with_reducible exact lenC_list | with_reducible exact lenC_tuple | with_reducible exact tupleC_list | with_reducible exact listC_tuple | with_reducible exact listC_dict | with_reducible exact isN_none | with_reducible exact isN_int | with_reducible exact notN_none | with_reducible exact notN_int | with_reducible exact min2_int | with_reducible exact max2_int | with_reducible exact slD_list | with_reducible exact slD_tuple | with_reducible exact neD_str | with_reducible exact max2_int))
local macro_rules | `(tactic| walk_at "m1") => `(tactic| (first
  | with_reducible refine iSq ?_ | with_reducible refine iThn ?_ | with_reducible refine iIfS ?_ | with_reducible refine iSet ?_ | with_reducible refine iSetB ?_ | with_reducible refine iSetO ?_ | with_reducible refine iRet ?_ | with_reducible refine iNx ?_ | with_reducible refine iThnR ?_
  | with_reducible refine iTest ?_ | with_reducible refine iOp2 ?_ | ((with_reducible refine' iPk ?h1 ?h2); (case h1 => rfl)) | with_reducible refine iV ?_ | with_reducible refine iC ?_ | ((with_reducible refine' iVar ?h1 ?h2); (case h1 => rfl))
  | with_reducible refine iCall ?_ | with_reducible refine iLs0 ?_ | with_reducible refine iLs ?_ | with_reducible refine iSub ?_ | with_reducible refine iSl ?_ | with_reducible refine iSome ?_ | with_reducible refine iNone ?_ | with_reducible refine iLst ?_ | with_reducible refine iTup ?_ | with_reducible refine iDs0 ?_ | with_reducible refine iDs ?_
  | with_reducible refine iAnd ?_ | with_reducible refine iOr ?_ | with_reducible refine iNot ?_ | with_reducible refine iBl ?_ | with_reducible refine iIf ?_ | with_reducible refine iDrop ?_ | with_reducible refine iYes ?_ | with_reducible refine iPar ?_
  | ((with_reducible refine' iAugS ?h1 ?h2); (case h1 => exact ⟨_, rfl⟩))
  | ((with_reducible refine' iPutE ?h1 ?h2 ?h3); (case h1 => rfl); (case h2 => rfl))
  | ((with_reducible refine' iOp2E ?h1 ?h2 ?h3 ?h4); (case h1 => rfl); (case h2 => rfl); (case h3 => walk_at "hf"))
  | ((with_reducible refine' iCallE ?h1 ?h2 ?h3); (case h1 => rfl); (case h2 => walk_at "hf"))
  | with_reducible refine ⟨sz0, ?_⟩ | with_reducible refine ⟨sz1, ?_⟩ | with_reducible refine ⟨sz2, ?_⟩ | with_reducible refine ⟨sz3, ?_⟩ | with_reducible refine ⟨sz4, ?_⟩ | with_reducible refine ⟨sz5, ?_⟩
  | (with_reducible refine ⟨_, rfl, ?_⟩)
  | ((with_reducible refine' ⟨_, ?h1, ?h2⟩); (case h1 => walk_at "hf"))
  | ((with_reducible refine' ⟨⟨_, ?h1⟩, ?h2⟩); (case h1 => rfl))
  | ((with_reducible refine' ⟨_, _, ?h1, ?h2, ?h3⟩); (case h1 => rfl); (case h2 => walk_at "hf"))
  | ((with_reducible refine' ⟨_, _, ?h1, ?h2, ?h3⟩); (case h1 => rfl); (case h2 => rfl))))
local macro_rules | `(tactic| walk_at "m2") => `(tactic| (first
  | walk_at "m1" | with_reducible refine iFn ?_ | ((with_reducible refine' iBag ?h1 ?h2); (case h1 => rfl)) | with_reducible refine iRng1 ?_ | with_reducible refine iRng2 ?_ | with_reducible refine wIt ?_ | ((with_reducible refine' iMut ?h1 ?h2); (case h1 => rfl)) | with_reducible refine iRel rfl ?_
  | with_reducible refine iRevS ?_ | with_reducible refine iIsi ?_ | with_reducible refine iOp1 ?_ | with_reducible refine iThn ?_))
/-! ### the greatest of some numbers -/
def maxN (ns : List Nat) : Nat := ns.foldr max 0
theorem maxN_cons (n : Nat) (ns : List Nat) : maxN (n :: ns) = max n (maxN ns) := rfl
theorem maxN_app (as bs : List Nat) : maxN (as ++ bs) = max (maxN as) (maxN bs) := by
  induction as with
  | nil => show maxN bs = max 0 (maxN bs); omega
  | cons a as ih => rw [List.cons_append, maxN_cons, maxN_cons, ih]; omega
theorem maxN_ge {ns : List Nat} {n : Nat} (h : n ∈ ns) : n ≤ maxN ns := by
  induction ns with
  | nil => exact nomatch h
  | cons a as ih =>
    rw [maxN_cons]
    rcases List.mem_cons.mp h with e | e
    · omega
    · have := ih e; omega
theorem maxN_mem {ns : List Nat} (h : ns ≠ []) : maxN ns ∈ ns := by
  induction ns with
  | nil => exact absurd rfl h
  | cons a as ih =>
    rw [maxN_cons]
    cases as with
    | nil => show max a 0 ∈ [a]; simp
    | cons b bs =>
      have := ih (by simp)
      rcases Nat.le_total a (maxN (b :: bs)) with q | q
      · rw [Nat.max_eq_right q]; exact List.mem_cons_of_mem _ this
      · rw [Nat.max_eq_left q]; exact List.mem_cons_self ..
theorem maxN_le {ns : List Nat} {b : Nat} (h : ∀ n ∈ ns, n ≤ b) : maxN ns ≤ b := by
  induction ns with
  | nil => exact Nat.zero_le _
  | cons a as ih =>
    rw [maxN_cons]
    have := h a (List.mem_cons_self ..)
    have := ih fun n hn => h n (List.mem_cons_of_mem _ hn)
    omega
theorem maxN_flat (xss : List (List Nat)) : maxN (xss.map maxN) = maxN xss.flatten := by
  induction xss with
  | nil => rfl
  | cons a as ih => rw [List.map_cons, maxN_cons, List.flatten_cons, maxN_app, ih]
theorem maxLC_nats {ns : List Nat} (h : ns ≠ []) : maxLC [.list (ns.map fun n : Nat => PyData.int n)] = some (.int (maxN ns)) := by
  unfold maxLC
  have e : (ns.map fun n : Nat => PyData.int n) = (ns.map fun n : Nat => (n : Int)).map PyData.int := by rw [List.map_map]; rfl
  rw [e]
  show (intsD _).bind _ = _
  rw [intsD_map]
  show (maxI _).map _ = _
  rw [maxI_of (m := (maxN ns : Nat)) (List.mem_map.mpr ⟨_, maxN_mem h, rfl⟩) fun y hy => ?_]
  · rfl
  · obtain ⟨n, hn, rfl⟩ := List.mem_map.mp hy
    exact Int.ofNat_le.mpr (maxN_ge hn)
/-! ### the k of the ranks of a formula -/
mutual
def Fm.rks : Fm → List Nat
  | .rank _ k => [k]
  | .kth _ ps => Fm.rksL ps
def Fm.rksL : List Fm → List Nat
  | [] => []
  | p :: ps => Fm.rks p ++ Fm.rksL ps
end
theorem Fm.rksL_map : ∀ ps : List Fm, Fm.rksL ps = (ps.map Fm.rks).flatten
  | [] => rfl
  | p :: ps => by rw [Fm.rksL, Fm.rksL_map ps]; rfl
theorem flat_len {α : Type} {xss : List (List α)} {b : Nat} (h : ∀ xs ∈ xss, xs.length ≤ b) : xss.flatten.length ≤ xss.length * b := by
  induction xss with
  | nil => exact Nat.zero_le _
  | cons a as ih =>
    rw [List.flatten_cons, List.length_append, List.length_cons, Nat.add_mul, Nat.one_mul]
    have := h a (List.mem_cons_self ..)
    have := ih fun n hn => h n (List.mem_cons_of_mem _ hn)
    omega
theorem FOk.rks_ok {h : House} {n : Nat} {f : Fm} (o : FOk h 5 n f) : f.rks ≠ [] ∧ f.rks.length ≤ 5 ^ n ∧ ∀ k ∈ f.rks, k ≤ 99 := by
  induction o with
  | @rank n l k _ k0 k1 =>
    rw [Fm.rks]
    refine ⟨by simp, Nat.one_le_pow _ _ (by decide), fun x hx => ?_⟩
    rw [List.mem_singleton.mp hx]
    exact k1
  | @kth n k ps q0 q1 hpw hp ih =>
    rw [Fm.rks, Fm.rksL_map]
    refine ⟨?_, ?_, ?_⟩
    · cases ps with
      | nil => simp at q1; omega
      | cons p ps =>
        rw [List.map_cons, List.flatten_cons]
        intro e
        exact (ih p (List.mem_cons_self ..)).1 (List.append_eq_nil_iff.mp e).1
    · have := flat_len (xss := ps.map Fm.rks) (b := 5 ^ n) fun xs hx => by
        obtain ⟨p, hp, rfl⟩ := List.mem_map.mp hx
        exact (ih p hp).2.1
      rw [List.length_map] at this
      refine Nat.le_trans this ?_
      rw [Nat.pow_succ, Nat.mul_comm]
      exact Nat.mul_le_mul_left _ hpw
    · intro k hk
      obtain ⟨xs, hx, hk⟩ := List.mem_flatten.mp hk
      obtain ⟨p, hp, rfl⟩ := List.mem_map.mp hx
      exact (ih p hp).2.2 k hk
theorem FOk.rks125 {h : House} {n : Nat} {f : Fm} (o : FOk h 5 n f) (hn : n ≤ 3) : f.rks.length ≤ 125 :=
  Nat.le_trans o.rks_ok.2.1 (Nat.le_trans (Nat.pow_le_pow_right (by decide) hn) (by decide))
end CF
end
section
/-! CT, part 31: the walks of depths and caps. -/
namespace CF
open PySem
local macro_rules | `(tactic| walk_at "hf") => `(tactic| (first
  | with_reducible exact eqD_int | with_reducible exact eqD_str | with_reducible exact neD_int | with_reducible exact addD_int | with_reducible exact addI_int | with_reducible exact subD_int | with_reducible exact geD_int | with_reducible exact gtD_int | with_reducible exact leD_int | with_reducible exact ltD_int | with_reducible exact modD_of (by decide) | with_reducible exact mulD_r (by decide) | with_reducible exact mulD_l (by decide) | with_reducible exact powD_of (by decide) | with_reducible exact ix0 | ((with_reducible show ixD (.list _) (.int _) = _); rfl) | ((with_reducible show ixD (.tuple _) (.int _) = _); rfl)
  | with_reducible exact intC_int | with_reducible exact lenC_list | with_reducible exact lenC_tuple | with_reducible exact tupleC_list | with_reducible exact listC_tuple | with_reducible exact listC_dict | with_reducible exact isN_none | with_reducible exact isN_int | with_reducible exact notN_none | with_reducible exact notN_int | with_reducible exact min2_int | with_reducible exact max2_int | with_reducible exact slD_list | with_reducible exact slD_tuple | with_reducible exact neD_str | with_reducible exact max2_int))
local macro_rules | `(tactic| walk_at "m1") => `(tactic| (first
  | with_reducible refine iSq ?_ | with_reducible refine iThn ?_ | with_reducible refine iIfS ?_ | with_reducible refine iSet ?_ | with_reducible refine iSetB ?_ | with_reducible refine iSetO ?_ | with_reducible refine iRet ?_ | with_reducible refine iNx ?_ | with_reducible refine iThnR ?_
  | with_reducible refine iTest ?_ | with_reducible refine iOp2 ?_ | ((with_reducible refine' iPk ?h1 ?h2); (case h1 => rfl)) | with_reducible refine iV ?_ | with_reducible refine iC ?_ | ((with_reducible refine' iVar ?h1 ?h2); (case h1 => rfl))
  | with_reducible refine iCall ?_ | with_reducible refine iLs0 ?_ | with_reducible refine iLs ?_ | with_reducible refine iSub ?_ | with_reducible refine iSl ?_ | with_reducible refine iSome ?_ | with_reducible refine iNone ?_ | with_reducible refine iLst ?_ | with_reducible refine iTup ?_ | with_reducible refine iDs0 ?_ | with_reducible refine iDs ?_
  | with_reducible refine iAnd ?_ | with_reducible refine iOr ?_ | with_reducible refine iNot ?_ | with_reducible refine iBl ?_ | with_reducible refine iIf ?_ | with_reducible refine iDrop ?_ | with_reducible refine iYes ?_ | with_reducible refine iPar ?_
  | ((with_reducible refine' iAugS ?h1 ?h2); (case h1 => exact ⟨_, rfl⟩))
  | ((with_reducible refine' iPutE ?h1 ?h2 ?h3); (case h1 => rfl); (case h2 => rfl))
  | ((with_reducible refine' iOp2E ?h1 ?h2 ?h3 ?h4); (case h1 => rfl); (case h2 => rfl); (case h3 => walk_at "hf"))
  | ((with_reducible refine' iCallE ?h1 ?h2 ?h3); (case h1 => rfl); (case h2 => walk_at "hf"))
  | with_reducible refine ⟨sz0, ?_⟩ | with_reducible refine ⟨sz1, ?_⟩ | with_reducible refine ⟨sz2, ?_⟩ | with_reducible refine ⟨sz3, ?_⟩ | with_reducible refine ⟨sz4, ?_⟩ | with_reducible refine ⟨sz5, ?_⟩
  | (with_reducible refine ⟨_, rfl, ?_⟩)
  | ((with_reducible refine' ⟨_, ?h1, ?h2⟩); (case h1 => walk_at "hf"))
  | ((with_reducible refine' ⟨⟨_, ?h1⟩, ?h2⟩); (case h1 => rfl))
  | ((with_reducible refine' ⟨_, _, ?h1, ?h2, ?h3⟩); (case h1 => rfl); (case h2 => walk_at "hf"))
  | ((with_reducible refine' ⟨_, _, ?h1, ?h2, ?h3⟩); (case h1 => rfl); (case h2 => rfl))))
local macro_rules | `(tactic| walk_at "m2") => `(tactic| (first
  | walk_at "m1" | with_reducible refine iFn ?_ | ((with_reducible refine' iBag ?h1 ?h2); (case h1 => rfl)) | with_reducible refine iRng1 ?_ | with_reducible refine iRng2 ?_ | with_reducible refine wIt ?_ | ((with_reducible refine' iMut ?h1 ?h2); (case h1 => rfl)) | with_reducible refine iRel rfl ?_
  | with_reducible refine iRevS ?_ | with_reducible refine iIsi ?_ | with_reducible refine iOp1 ?_ | with_reducible refine iThn ?_))
section
variable {m : M D} {ρ : List CF.Slot}
theorem iDsS0 {Q : List D → List CF.Slot → Prop} (q : Q [] ρ) : wp (mDsS []) ρ Q := wp_pure.mpr q
theorem iDsSf {as : List (Bool × M D)} {Q : List D → List CF.Slot → Prop} (h : wp m ρ fun x ρ1 => wp (mDsS as) ρ1 fun xs ρ2 => Q (x :: xs) ρ2) : wp (mDsS ((false, m) :: as)) ρ Q := by
  rw [mDsS, wp_bind]
  refine h.mono fun x ρ1 q => ?_
  rw [wp_bind]
  exact q.mono fun xs ρ2 q => wp_pure.mpr q
theorem iDsSt {as : List (Bool × M D)} {Q : List D → List CF.Slot → Prop} (h : wp m ρ fun x ρ1 => ∃ ys, itemsOf x = some ys ∧ wp (mDsS as) ρ1 fun xs ρ2 => Q (ys ++ xs) ρ2) : wp (mDsS ((true, m) :: as)) ρ Q := by
  rw [mDsS, wp_bind]
  refine h.mono fun x ρ1 ⟨ys, e, q⟩ => ?_
  rw [wp_bind]
  refine wp_lift.mpr ⟨ys, e, ?_⟩
  rw [wp_bind]
  exact q.mono fun xs ρ2 q => wp_pure.mpr q
theorem iLstS {as : List (Bool × M D)} {Q : D → List CF.Slot → Prop} (h : wp (mDsS as) ρ fun ds ρ1 => ds.length ≤ sizeLine ∧ Q (.list ds) ρ1) : wp (mLstS as) ρ Q := by
  unfold mLstS
  rw [wp_bind]
  exact h.mono fun ds ρ1 q => wp_lift.mpr ⟨_, if_pos q.1, q.2⟩
end
section
variable {h : House} {pool : List Int} {t : Tbl}
theorem flat_nats {yss : List (List Nat)} (hl : yss.flatten.length ≤ 5000) : pureFn g_flat [.list (yss.map fun ys => PyData.list (ys.map fun n : Nat => PyData.int n))] (· = .list (yss.flatten.map fun n : Nat => PyData.int n)) := by
  have e : (yss.map fun ys => ys.map fun n : Nat => PyData.int n).flatten = yss.flatten.map fun n : Nat => PyData.int n := by rw [List.map_flatten]
  have f := flat_fn (t := .list (yss.map fun ys => PyData.list (ys.map fun n : Nat => PyData.int n))) (rows := yss.map fun ys => PyData.list (ys.map fun n : Nat => PyData.int n)) (xss := yss.map fun ys => ys.map fun n : Nat => PyData.int n) rfl (by rw [List.map_map, List.map_map]; rfl) (by rw [e, List.length_map, sizeLine_eq]; omega)
  rw [e] at f
  exact f
def b_rank_depth (r_rank_depth : FM) : MS :=
  (mSq (mIfS (mTest (mOp2 eqD (mV (mOp2 ixD (mPk 0) (mV (mC (.int 0))))) (mV (mC (.str (Str.ofString "rank"))))))
    (mRet (mOp2 ixD (mPk 0) (mV (mC (.int 2)))))
    mNx)
  (mRet (mCall maxLC [(mV (mLC [1] (mIt (mOp2 ixD (mPk 0) (mV (mC (.int 2))))) (setS 1) mYes (mFn [] r_rank_depth [(mPk 1)])))])))
def g_rank_depth : Nat → FM
  | 0 => fm0
  | n + 1 => runF false 1 1 [] (b_rank_depth (g_rank_depth n))
theorem rank_depth_t {h : House} : ∀ (n k : Nat) (f : Fm), FOk h 5 k f → k ≤ 3 → k < n → pureFn (g_rank_depth n) [f.d] (· = .int (maxN f.rks)) := by
  intro n
  induction n with
  | zero => intro k f _ _ hk; omega
  | succ n ih =>
    intro k f of k3 hk
    show gives (runF false 1 1 [] _) _ _
    refine run_gives rfl ?_
    unfold b_rank_depth
    cases of with
    | @rank _ l q ol q0 q1 =>
      repeat walk_at "m2"
      refine iOp2E rfl rfl (show ixD (Fm.rank l q).d (.int 0) = some (.str sRank) by rw [Fm.d]; rfl) ?_
      repeat walk_at "m2"
      refine iteT ?_
      repeat walk_at "m2"
      refine iOp2E rfl rfl (show ixD (Fm.rank l q).d (.int 2) = some (.int q) by rw [Fm.d]; rfl) ?_
      refine ⟨_, rfl, rfl, ?_⟩
      rw [Fm.rks]
      show PyData.int _ = PyData.int ((max q 0 : Nat) : Int)
      rw [Nat.max_eq_left (Nat.zero_le _)]
    | @kth k q ps q0 q1 hpl hp =>
      have hne : ps ≠ [] := fun e => by subst e; simp at q1; omega
      repeat walk_at "m2"
      refine iOp2E rfl rfl (show ixD (Fm.kth q ps).d (.int 0) = some (.str sKth) by rw [Fm.d]; rfl) ?_
      repeat walk_at "m2"
      refine iteF (iNx (iThn ?_))
      refine iRet (iCall (iLs (iV (iLCm (wIt (iOp2 ?_))))))
      repeat walk_at "m2"
      refine iOp2E rfl rfl (show ixD (Fm.kth q ps).d (.int 2) = some (.tuple (ps.map Fm.d)) by rw [Fm.d, Fm.dL_map]; rfl) ?_
      refine ⟨_, rfl, Fm, ps, Fm.d, (fun p => .int (maxN p.rks)), rfl, by rw [sizeLine_eq]; omega, rfl, ?_, ?_⟩
      · intro p hpm
        refine ⟨_, rfl, ?_⟩
        repeat walk_at "m2"
        refine iFnQ rfl (ih k p (hp p hpm) (by omega) (by omega)) ⟨rfl, rfl⟩
      · repeat walk_at "m2"
        have e : (ps.map fun p => PyData.int (maxN p.rks)) = (ps.map fun p => maxN p.rks).map fun n : Nat => PyData.int n := by rw [List.map_map]; rfl
        rw [e]
        refine iCallE rfl (maxLC_nats (by simpa using hne)) ?_
        refine ⟨_, rfl, rfl, ?_⟩
        rw [Fm.rks, Fm.rksL_map, ← maxN_flat, List.map_map]
        rfl
def b_l_ranks (r_l_ranks : FM) : MS :=
  (mSq (mIfS (mTest (mOp2 eqD (mV (mOp2 ixD (mPk 0) (mV (mC (.int 0))))) (mV (mC (.str (Str.ofString "rank"))))))
    (mRet (mLst [(mOp2 ixD (mPk 0) (mV (mC (.int 2))))]))
    mNx)
  (mRet (mFn [] g_flat [(mV (mLC [1] (mIt (mOp2 ixD (mPk 0) (mV (mC (.int 2))))) (setS 1) mYes (mFn [] r_l_ranks [(mPk 1)])))])))
def g_l_ranks : Nat → FM
  | 0 => fm0
  | n + 1 => runF false 1 1 [] (b_l_ranks (g_l_ranks n))
theorem lranks_t {h : House} : ∀ (n k : Nat) (f : Fm), FOk h 5 k f → k ≤ 3 → k < n → pureFn (g_l_ranks n) [f.d] (· = .list (f.rks.map fun n : Nat => PyData.int n)) := by
  intro n
  induction n with
  | zero => intro k f _ _ hk; omega
  | succ n ih =>
    intro k f of k3 hk
    have l125 := of.rks125 k3
    show gives (runF false 1 1 [] _) _ _
    refine run_gives rfl ?_
    unfold b_l_ranks
    cases of with
    | @rank _ l q ol q0 q1 =>
      repeat walk_at "m2"
      refine iOp2E rfl rfl (show ixD (Fm.rank l q).d (.int 0) = some (.str sRank) by rw [Fm.d]; rfl) ?_
      repeat walk_at "m2"
      refine iteT ?_
      repeat walk_at "m2"
      refine iOp2E rfl rfl (show ixD (Fm.rank l q).d (.int 2) = some (.int q) by rw [Fm.d]; rfl) ?_
      exact iDs0 ⟨sz1, _, rfl, rfl, by rw [Fm.rks]; rfl⟩
    | @kth k q ps q0 q1 hpl hp =>
      repeat walk_at "m2"
      refine iOp2E rfl rfl (show ixD (Fm.kth q ps).d (.int 0) = some (.str sKth) by rw [Fm.d]; rfl) ?_
      repeat walk_at "m2"
      refine iteF (iNx (iThn ?_))
      refine iRet (iFn (iLs (iV (iLCm (wIt (iOp2 ?_))))))
      repeat walk_at "m2"
      refine iOp2E rfl rfl (show ixD (Fm.kth q ps).d (.int 2) = some (.tuple (ps.map Fm.d)) by rw [Fm.d, Fm.dL_map]; rfl) ?_
      refine ⟨_, rfl, Fm, ps, Fm.d, (fun p => .list (p.rks.map fun n : Nat => PyData.int n)), rfl, by rw [sizeLine_eq]; omega, rfl, ?_, ?_⟩
      · intro p hpm
        refine ⟨_, rfl, ?_⟩
        repeat walk_at "m2"
        refine iFnQ rfl (ih k p (hp p hpm) (by omega) (by omega)) ⟨rfl, rfl⟩
      · repeat walk_at "m2"
        rw [Fm.rks, Fm.rksL_map] at l125
        have e : (ps.map fun p => PyData.list (p.rks.map fun n : Nat => PyData.int n)) = (ps.map Fm.rks).map fun ys => PyData.list (ys.map fun n : Nat => PyData.int n) := by rw [List.map_map]; rfl
        rw [e]
        refine iFnQ rfl (flat_nats (by omega)) ?_
        exact ⟨_, rfl, rfl, by rw [Fm.rks, Fm.rksL_map]⟩
/-- the numbers that an answer brings to the depth -/
def An.dks : An → List Nat
  | .is f _ => f.rks
  | .cnt _ _ k => [k + 1]
def depN (fs : List Fm) (as : List An) : Nat := maxN (1 :: ((fs.map Fm.rks).flatten ++ (as.map An.dks).flatten))
theorem AOk.dks_ok {a : An} (o : AOk h a) : a.dks ≠ [] ∧ a.dks.length ≤ 125 ∧ ∀ k ∈ a.dks, k ≤ 99 := by
  cases o with
  | is of _ => exact ⟨of.rks_ok.1, of.rks125 (Nat.le_refl _), of.rks_ok.2.2⟩
  | cnt _ _ k9 => exact ⟨by simp [An.dks], by simp [An.dks], fun k hk => by rw [List.mem_singleton.mp hk]; omega⟩
theorem dep_99 {fs : List Fm} {as : List An} (of : ∀ f ∈ fs, FOk h 5 3 f) (oa : ∀ a ∈ as, AOk h a) : depN fs as ≤ 99 := by
  refine maxN_le fun n hn => ?_
  rcases List.mem_cons.mp hn with e | hn
  · omega
  rcases List.mem_append.mp hn with hn | hn
  · obtain ⟨xs, hx, hn⟩ := List.mem_flatten.mp hn
    obtain ⟨f, hf, rfl⟩ := List.mem_map.mp hx
    exact (of f hf).rks_ok.2.2 n hn
  · obtain ⟨xs, hx, hn⟩ := List.mem_flatten.mp hn
    obtain ⟨a, ha, rfl⟩ := List.mem_map.mp hx
    exact (oa a ha).dks_ok.2.2 n hn
def b_depth_of : MS :=
  (mSq (mSetO 2 (mLstS [(false, (mC (.int 1))), (true, (mLC [3] (mIt (mVar 0)) (setS 3) mYes (mFn [] (g_rank_depth 20) [(mPk 3)])))]))
  (mSq (mFor (mIt (mVar 1)) (setS 4)
    (mDrop (mMut 2 appG (mDs [(mIf (mTest (mOp2 eqD (mV (mOp2 ixD (mPk 4) (mV (mC (.int 0))))) (mV (mC (.str (Str.ofString "count")))))) (mOp2 addD (mV (mOp2 ixD (mPk 4) (mV (mC (.int 3))))) (mV (mC (.int 1)))) (mFn [] (g_rank_depth 20) [(mV (mOp2 ixD (mPk 4) (mV (mC (.int 1)))))]))]))))
  (mRet (mCall maxLC [(mPk 2)]))))
def g_depth_of : FM := runF false 2 3 [] b_depth_of
theorem depth_t {fs : List Fm} {as : List An} (of : ∀ f ∈ fs, FOk h 5 3 f) (fl : fs.length ≤ 10) (oa : ∀ a ∈ as, AOk h a) (al : as.length ≤ 10) : pureFn g_depth_of [.tuple (fs.map Fm.d), ansD as] (· = .int (depN fs as)) := by
  unfold g_depth_of pureFn
  refine run_gives rfl ?_
  unfold b_depth_of
  refine iSq (iSetO (iLstS (iDsSf (iC (iDsSt (iLCm (wIt (iVar rfl ?_))))))))
  refine ⟨_, rfl, Fm, fs, Fm.d, (fun f => .int (maxN f.rks)), rfl, by rw [sizeLine_eq]; omega, rfl, ?_, ?_⟩
  · intro f hf
    refine ⟨_, rfl, ?_⟩
    repeat walk_at "m2"
    refine iFnQ rfl (rank_depth_t 20 3 f (of f hf) (Nat.le_refl _) (by decide)) ⟨rfl, rfl⟩
  refine ⟨_, rfl, iDsS0 ?_⟩
  have e : PyData.int 1 :: ((fs.map fun f => PyData.int (maxN f.rks)) ++ []) = (1 :: (fs.map fun f => maxN f.rks)).map fun n : Nat => PyData.int n := by rw [List.append_nil, List.map_cons, List.map_map]; rfl
  rw [e]
  refine ⟨by rw [List.length_map, List.length_cons, List.length_map, sizeLine_eq]; omega, ?_⟩
  refine iThn (iNorm (ρ' := [.dat (.tuple (fs.map Fm.d)), .dat (ansD as), .own (.list ((1 :: (fs.map fun f => maxN f.rks)).map fun n : Nat => PyData.int n)), .un, .un]) rfl ?_)
  refine iSq (iForT (wIt (iVar rfl ?_)))
  refine ⟨_, rfl, An, as, An.d, fun rest ρ => ∃ (ns : List Nat) (s4 : CF.Slot), isOwn s4 = false ∧ ns ≠ [] ∧ ns.length + rest.length ≤ 21 ∧ max (maxN ns) (maxN ((rest.map An.dks).map maxN)) = depN fs as ∧ ρ = [.dat (.tuple (fs.map Fm.d)), .dat (ansD as), .own (.list (ns.map fun n : Nat => PyData.int n)), .un, s4], rfl, ⟨_, _, rfl, by simp, by rw [List.length_cons, List.length_map]; omega, ?_, rfl⟩, ?_, ?_⟩
  · unfold depN
    have z : (fs.map fun f => maxN f.rks) = (fs.map Fm.rks).map maxN := by rw [List.map_map]; rfl
    rw [z, maxN_cons, maxN_cons, maxN_app, maxN_flat, maxN_flat]
    omega
  · rintro ρ ⟨ns, s4, _, ne, nl, em, rfl⟩
    repeat walk_at "m2"
    refine iCallE rfl (maxLC_nats ne) ?_
    refine ⟨_, rfl, rfl, ?_⟩
    rw [← em]
    show PyData.int _ = PyData.int _
    congr 1
    show ((maxN ns : Nat) : Int) = ((max (maxN ns) 0 : Nat) : Int)
    rw [Nat.max_eq_left (Nat.zero_le _)]
  · rintro a rest ρ ha ⟨ns, s4, _, ne, nl, em, rfl⟩
    rw [List.length_cons] at nl
    rw [List.map_cons, List.map_cons, maxN_cons] at em
    refine ⟨_, rfl, ?_⟩
    have fin : ∀ m : Nat, m = maxN a.dks → ∃ (ns2 : List Nat) (s4 : CF.Slot), isOwn s4 = false ∧ ns2 ≠ [] ∧ ns2.length + rest.length ≤ 21 ∧ max (maxN ns2) (maxN ((rest.map An.dks).map maxN)) = depN fs as ∧ [.dat (.tuple (fs.map Fm.d)), .dat (ansD as), .own (.list (ns.map (fun n : Nat => PyData.int n) ++ [PyData.int m])), .un, .dat a.d] = [CF.Slot.dat (.tuple (fs.map Fm.d)), .dat (ansD as), .own (.list (ns2.map fun n : Nat => PyData.int n)), .un, s4] := by
      rintro m rfl
      refine ⟨ns ++ [maxN a.dks], _, rfl, by simp, by rw [List.length_append, List.length_singleton]; omega, ?_, by rw [List.map_append]; rfl⟩
      rw [maxN_app, ← em]
      show max (max _ (max _ 0)) _ = _
      omega
    refine iDrop (iMut rfl (iDs (iIf (iTest (iOp2 (iV (iOp2 ?_)))))))
    cases oa a ha with
    | @is f v of' hv =>
      repeat walk_at "m2"
      refine iOp2E rfl rfl (ixIs0 f v) ?_
      repeat walk_at "m2"
      rw [show (decide (sIs = Str.ofString "count")) = false from rfl]
      refine iteF ?_
      repeat walk_at "m2"
      refine iOp2E rfl rfl (ixIs1 f v) ?_
      repeat walk_at "m2"
      refine iFnQ rfl (rank_depth_t 20 3 f of' (Nat.le_refl _) (by decide)) ?_
      refine iDs0 ?_
      refine iMutE rfl (app_ok (by rw [List.length_map]; omega)) ?_
      exact fin (maxN f.rks) rfl
    | @cnt l n j ol hn hk =>
      repeat walk_at "m2"
      refine iOp2E rfl rfl (ixC0 l n j) ?_
      repeat walk_at "m2"
      rw [show (decide (sCount = Str.ofString "count")) = true from rfl]
      refine iteT ?_
      repeat walk_at "m2"
      refine iOp2E rfl rfl (ixC3 l n j) ?_
      repeat walk_at "m2"
      refine iMutE rfl (app_ok (by rw [List.length_map]; omega)) ?_
      exact fin (j + 1) (by show _ = max (j + 1) 0; omega)
def b_l_depth : MS :=
  (mSq (mSetO 2 (mOp2 addL (mV (mLst [(mC (.int 1))])) (mV (mFn [] g_flat [(mV (mLC [3] (mIt (mVar 0)) (setS 3) mYes (mFn [] (g_l_ranks 20) [(mPk 3)])))]))))
  (mSq (mFor (mIt (mVar 1)) (setS 4)
    (mDrop (mMut 2 extG (mDs [(mIf (mTest (mOp2 eqD (mV (mOp2 ixD (mPk 4) (mV (mC (.int 0))))) (mV (mC (.str (Str.ofString "count")))))) (mLst [(mOp2 addD (mV (mOp2 ixD (mPk 4) (mV (mC (.int 3))))) (mV (mC (.int 1))))]) (mFn [] (g_l_ranks 20) [(mV (mOp2 ixD (mPk 4) (mV (mC (.int 1)))))]))]))))
  (mRet (mCall maxLC [(mPk 2)]))))
def g_l_depth : FM := runF false 2 3 [] b_l_depth
theorem ldepth_t {fs : List Fm} {as : List An} (of : ∀ f ∈ fs, FOk h 5 3 f) (fl : fs.length ≤ 10) (oa : ∀ a ∈ as, AOk h a) (al : as.length ≤ 10) : pureFn g_l_depth [.list (fs.map Fm.d), ansD as] (· = .int (depN fs as)) := by
  unfold g_l_depth pureFn
  refine run_gives rfl ?_
  unfold b_l_depth
  refine iSq (iSetO (iOp2 (iV (iLst (iDs (iC (iDs0 ⟨sz1, iV (iFn (iLs (iV (iLCm (wIt (iVar rfl ?_))))))⟩)))))))
  refine ⟨_, rfl, Fm, fs, Fm.d, (fun f => .list (f.rks.map fun n : Nat => PyData.int n)), rfl, by rw [sizeLine_eq]; omega, rfl, ?_, ?_⟩
  · intro f hf
    refine ⟨_, rfl, ?_⟩
    repeat walk_at "m2"
    refine iFnQ rfl (lranks_t 20 3 f (of f hf) (Nat.le_refl _) (by decide)) ⟨rfl, rfl⟩
  have l1 := flat_len (xss := fs.map Fm.rks) (b := 125) fun xs hx => by
    obtain ⟨p, hp, rfl⟩ := List.mem_map.mp hx
    exact (of p hp).rks125 (Nat.le_refl _)
  rw [List.length_map] at l1
  repeat walk_at "m2"
  have e : (fs.map fun p => PyData.list (p.rks.map fun n : Nat => PyData.int n)) = (fs.map Fm.rks).map fun ys => PyData.list (ys.map fun n : Nat => PyData.int n) := by rw [List.map_map]; rfl
  rw [e]
  refine iFnQ rfl (flat_nats (by omega)) ?_
  refine iOp2E rfl rfl (addL_list (xs := [.int 1]) (ys := (fs.map Fm.rks).flatten.map fun n : Nat => PyData.int n) (by rw [List.length_map, sizeLine_eq]; show 1 + _ ≤ _; omega)) ?_
  have e2 : [PyData.int 1] ++ ((fs.map Fm.rks).flatten.map fun n : Nat => PyData.int n) = (1 :: (fs.map Fm.rks).flatten).map fun n : Nat => PyData.int n := by rw [List.map_cons]; rfl
  rw [e2]
  refine iThn (iNorm (ρ' := [.dat (.list (fs.map Fm.d)), .dat (ansD as), .own (.list ((1 :: (fs.map Fm.rks).flatten).map fun n : Nat => PyData.int n)), .un, .un]) rfl ?_)
  refine iSq (iForT (wIt (iVar rfl ?_)))
  refine ⟨_, rfl, An, as, An.d, fun rest ρ => ∃ (ns : List Nat) (s4 : CF.Slot), isOwn s4 = false ∧ ns ≠ [] ∧ ns.length + rest.length * 125 ≤ 2501 ∧ max (maxN ns) (maxN (rest.map An.dks).flatten) = depN fs as ∧ ρ = [.dat (.list (fs.map Fm.d)), .dat (ansD as), .own (.list (ns.map fun n : Nat => PyData.int n)), .un, s4], rfl, ⟨_, _, rfl, by simp, by rw [List.length_cons]; omega, ?_, rfl⟩, ?_, ?_⟩
  · unfold depN
    rw [maxN_cons, maxN_cons, maxN_app]
    omega
  · rintro ρ ⟨ns, s4, _, ne, nl, em, rfl⟩
    repeat walk_at "m2"
    refine iCallE rfl (maxLC_nats ne) ?_
    refine ⟨_, rfl, rfl, ?_⟩
    rw [← em]
    show PyData.int ((maxN ns : Nat) : Int) = PyData.int ((max (maxN ns) 0 : Nat) : Int)
    rw [Nat.max_eq_left (Nat.zero_le _)]
  · rintro a rest ρ ha ⟨ns, s4, _, ne, nl, em, rfl⟩
    rw [List.length_cons] at nl
    rw [List.map_cons, List.flatten_cons, maxN_app] at em
    have d5 := (oa a ha).dks_ok.2.1
    refine ⟨_, rfl, ?_⟩
    have fin : ∃ (ns2 : List Nat) (s4 : CF.Slot), isOwn s4 = false ∧ ns2 ≠ [] ∧ ns2.length + rest.length * 125 ≤ 2501 ∧ max (maxN ns2) (maxN (rest.map An.dks).flatten) = depN fs as ∧ [.dat (.list (fs.map Fm.d)), .dat (ansD as), .own (.list (ns.map (fun n : Nat => PyData.int n) ++ a.dks.map fun n : Nat => PyData.int n)), .un, .dat a.d] = [CF.Slot.dat (.list (fs.map Fm.d)), .dat (ansD as), .own (.list (ns2.map fun n : Nat => PyData.int n)), .un, s4] := by
      refine ⟨ns ++ a.dks, _, rfl, by simp [ne], by rw [List.length_append]; omega, ?_, by rw [List.map_append]⟩
      rw [maxN_app, ← em]
      omega
    refine iDrop (iMut rfl (iDs (iIf (iTest (iOp2 (iV (iOp2 ?_)))))))
    cases oa a ha with
    | @is f v of' hv =>
      repeat walk_at "m2"
      refine iOp2E rfl rfl (ixIs0 f v) ?_
      repeat walk_at "m2"
      rw [show (decide (sIs = Str.ofString "count")) = false from rfl]
      refine iteF ?_
      repeat walk_at "m2"
      refine iOp2E rfl rfl (ixIs1 f v) ?_
      repeat walk_at "m2"
      refine iFnQ rfl (lranks_t 20 3 f of' (Nat.le_refl _) (by decide)) ?_
      refine iDs0 ?_
      refine iMutE rfl (extL_ok (by rw [List.length_map, List.length_map]; have : f.rks.length ≤ 125 := d5; omega)) ?_
      exact fin
    | @cnt l n j ol hn hk =>
      repeat walk_at "m2"
      refine iOp2E rfl rfl (ixC0 l n j) ?_
      repeat walk_at "m2"
      rw [show (decide (sCount = Str.ofString "count")) = true from rfl]
      refine iteT ?_
      repeat walk_at "m2"
      refine iOp2E rfl rfl (ixC3 l n j) ?_
      repeat walk_at "m2"
      refine iMutE rfl (extL_ok (by rw [List.length_map]; show _ + 1 < _; omega)) ?_
      exact fin
end
end CF
end
section
/-! CT, part 32: caps, rungs as a list of one's own, levels near them. -/
namespace CF
open PySem
local macro_rules | `(tactic| walk_at "hf") => `(tactic| (first
  | with_reducible exact eqD_int | with_reducible exact eqD_str | with_reducible exact neD_int | with_reducible exact addD_int | with_reducible exact addI_int | with_reducible exact subD_int | with_reducible exact geD_int | with_reducible exact gtD_int | with_reducible exact leD_int | with_reducible exact ltD_int | with_reducible exact modD_of (by decide) | with_reducible exact mulD_r (by decide) | with_reducible exact mulD_l (by decide) | with_reducible exact powD_of (by decide) | with_reducible exact ix0 | ((with_reducible show ixD (.list _) (.int _) = _); rfl) | ((with_reducible show ixD (.tuple _) (.int _) = _); rfl)
  | with_reducible exact intC_int | with_reducible exact lenC_list | with_reducible exact lenC_tuple | with_reducible exact tupleC_list | with_reducible exact listC_tuple | with_reducible exact listC_dict | with_reducible exact isN_none | with_reducible exact isN_int | with_reducible exact notN_none | with_reducible exact notN_int | with_reducible exact min2_int | with_reducible exact max2_int | with_reducible exact slD_list | with_reducible exact slD_tuple | with_reducible exact neD_str | with_reducible exact max2_int))
local macro_rules | `(tactic| walk_at "m1") => `(tactic| (first
  | with_reducible refine iSq ?_ | with_reducible refine iThn ?_ | with_reducible refine iIfS ?_ | with_reducible refine iSet ?_ | with_reducible refine iSetB ?_ | with_reducible refine iSetO ?_ | with_reducible refine iRet ?_ | with_reducible refine iNx ?_ | with_reducible refine iThnR ?_
  | with_reducible refine iTest ?_ | with_reducible refine iOp2 ?_ | ((with_reducible refine' iPk ?h1 ?h2); (case h1 => rfl)) | with_reducible refine iV ?_ | with_reducible refine iC ?_ | ((with_reducible refine' iVar ?h1 ?h2); (case h1 => rfl))
  | with_reducible refine iCall ?_ | with_reducible refine iLs0 ?_ | with_reducible refine iLs ?_ | with_reducible refine iSub ?_ | with_reducible refine iSl ?_ | with_reducible refine iSome ?_ | with_reducible refine iNone ?_ | with_reducible refine iLst ?_ | with_reducible refine iTup ?_ | with_reducible refine iDs0 ?_ | with_reducible refine iDs ?_
  | with_reducible refine iAnd ?_ | with_reducible refine iOr ?_ | with_reducible refine iNot ?_ | with_reducible refine iBl ?_ | with_reducible refine iIf ?_ | with_reducible refine iDrop ?_ | with_reducible refine iYes ?_ | with_reducible refine iPar ?_
  | ((with_reducible refine' iAugS ?h1 ?h2); (case h1 => exact ⟨_, rfl⟩))
  | ((with_reducible refine' iPutE ?h1 ?h2 ?h3); (case h1 => rfl); (case h2 => rfl))
  | ((with_reducible refine' iOp2E ?h1 ?h2 ?h3 ?h4); (case h1 => rfl); (case h2 => rfl); (case h3 => walk_at "hf"))
  | ((with_reducible refine' iCallE ?h1 ?h2 ?h3); (case h1 => rfl); (case h2 => walk_at "hf"))
  | with_reducible refine ⟨sz0, ?_⟩ | with_reducible refine ⟨sz1, ?_⟩ | with_reducible refine ⟨sz2, ?_⟩ | with_reducible refine ⟨sz3, ?_⟩ | with_reducible refine ⟨sz4, ?_⟩ | with_reducible refine ⟨sz5, ?_⟩
  | (with_reducible refine ⟨_, rfl, ?_⟩)
  | ((with_reducible refine' ⟨_, ?h1, ?h2⟩); (case h1 => walk_at "hf"))
  | ((with_reducible refine' ⟨⟨_, ?h1⟩, ?h2⟩); (case h1 => rfl))
  | ((with_reducible refine' ⟨_, _, ?h1, ?h2, ?h3⟩); (case h1 => rfl); (case h2 => walk_at "hf"))
  | ((with_reducible refine' ⟨_, _, ?h1, ?h2, ?h3⟩); (case h1 => rfl); (case h2 => rfl))))
local macro_rules | `(tactic| walk_at "m2") => `(tactic| (first
  | walk_at "m1" | with_reducible refine iFn ?_ | ((with_reducible refine' iBag ?h1 ?h2); (case h1 => rfl)) | with_reducible refine iRng1 ?_ | with_reducible refine iRng2 ?_ | with_reducible refine wIt ?_ | ((with_reducible refine' iMut ?h1 ?h2); (case h1 => rfl)) | with_reducible refine iRel rfl ?_
  | with_reducible refine iRevS ?_ | with_reducible refine iIsi ?_ | with_reducible refine iOp1 ?_ | with_reducible refine iThn ?_))
section
theorem near2_t {ns : List Int} (hl : ns.length ≤ 100) (hn : (nearL ns).length < 64) : pureFn g_l_near [listD ns] (· = listD (nearI ns)) := by
  unfold g_l_near pureFn
  refine run_gives rfl ?_
  unfold b_l_near
  refine iSq (iSet (iOp2 (iV (iOp2 (iV (iOp2 (iPk rfl (iV (iLCm (wIt (iVar rfl ?_)))))))))))
  refine ⟨_, rfl, Int, ns, PyData.int, (fun n => .int (n + 1)), rfl, by rw [sizeLine_eq]; omega, rfl, ?_, ?_⟩
  · intro n hn
    refine ⟨_, rfl, ?_⟩
    repeat walk_at "m1"
    exact ⟨rfl, rfl⟩
  refine iOp2E rfl rfl (addL_list (by rw [List.length_map, List.length_map, sizeLine_eq]; omega)) ?_
  refine iV (iLCm (wIt (iVar rfl ?_)))
  refine ⟨_, rfl, Int, ns, PyData.int, (fun n => .int (n - 1)), rfl, by rw [sizeLine_eq]; omega, rfl, ?_, ?_⟩
  · intro n hn
    refine ⟨_, rfl, ?_⟩
    repeat walk_at "m1"
    exact ⟨rfl, rfl⟩
  refine iOp2E rfl rfl (addL_list (by rw [List.length_append, List.length_map, List.length_map, List.length_map, sizeLine_eq]; omega)) ?_
  repeat walk_at "m1"
  refine iOp2E rfl rfl (addL_list (by rw [List.length_append, List.length_append, List.length_map, List.length_map, List.length_map, sizeLine_eq]; simp only [List.length_cons, List.length_nil]; omega)) ?_
  have e : (ns.map PyData.int ++ ns.map fun n => PyData.int (n + 1)) ++ (ns.map fun n => PyData.int (n - 1)) ++ [PyData.int 0] = (ns ++ ns.map (· + 1) ++ ns.map (· - 1) ++ [0]).map PyData.int := by
    simp [List.map_append, List.map_map, Function.comp_def]
  have hlen : (ns ++ ns.map (· + 1) ++ ns.map (· - 1) ++ [0]).length ≤ 301 := by simp; omega
  rw [e]
  have hb : scanBound = 4096 := rfl
  refine iThn (iRet (iLCf (wIt (iCall ?_))))
  repeat walk_at "m1"
  refine iCallE rfl (sortSet_of (by omega) (show (nearL ns).length < 64 by omega)) ?_
  refine ⟨_, rfl, Int, nearL ns, PyData.int, (fun n => decide ((n.natAbs : Int) ≤ 10 ^ 30)), PyData.int, rfl, by rw [sizeLine_eq]; omega, rfl, ?_, ?_⟩
  · intro n hn
    refine ⟨_, rfl, ?_⟩
    repeat walk_at "m1"
    refine iCallE rfl (show absC [.int n] = some (.int (if n < 0 then -n else n)) from rfl) ?_
    rw [abs_eq]
    repeat walk_at "m1"
    refine ⟨rfl, ?_⟩
    split
    · repeat walk_at "m1"
      exact ⟨rfl, rfl⟩
    · rfl
  · exact ⟨_, rfl, rfl, rfl⟩
def b_rungs_own : MS :=
  (mSq (mSetI0 1)
  (mSq (mFor (mIt (mVar 0)) (setS 2)
    (mIfS (mTest (mOp2 eqD (mV (mOp2 ixD (mPk 2) (mV (mC (.int 0))))) (mV (mC (.str (Str.ofString "count"))))))
    (mSq (mDrop (mAddI 1 (mOp2 ixD (mPk 2) (mV (mC (.int 2))))))
  (mDrop (mAddI 1 (mOp2 subD (mV (mOp2 ixD (mPk 2) (mV (mC (.int 2))))) (mV (mC (.int 1)))))))
    (mIfS (mTest (mOp2 notND (mV (mOp2 ixD (mPk 2) (mV (mC (.int 2))))) (mV (mC .none))))
    (mDrop (mAddI 1 (mOp2 ixD (mPk 2) (mV (mC (.int 2))))))
    mNx)))
  (mRetF [] (mSortI 1))))
def g_rungs_own : FM := runF true 1 2 [] b_rungs_own
theorem rungs_own_t {h : House} {as : List An} (oa : ∀ a ∈ as, AOk h a) (al : as.length ≤ 10) : pureFn g_rungs_own [ansD as] (· = listD (rungsOf as)) := by
  have sb : scanBound = 4096 := rfl
  unfold g_rungs_own pureFn
  refine run_gives rfl ?_
  unfold b_rungs_own
  refine iSq (iSetI0 (iThn (iSq (iForT (wIt (iVar rfl ?_))))))
  refine ⟨_, rfl, An, as, An.d, fun rest ρ => ∃ (ns : List Int) (s2 : CF.Slot), ρ = [.dat (ansD as), .ob (.iset ns), s2] ∧ isOb s2 = false ∧ ns.length + 2 * rest.length ≤ 20 ∧ ∀ k, (k ∈ ns ∨ k ∈ (rest.map An.rung).flatten) ↔ k ∈ (as.map An.rung).flatten, rfl, ⟨[], _, rfl, rfl, by rw [List.length_nil]; omega, fun k => by simp⟩, ?_, ?_⟩
  · rintro ρ ⟨ns, s2, rfl, hs, hl, hk⟩
    rw [List.length_nil] at hl
    refine iThn (iRetF (iSortI rfl (by omega) ⟨rfl, _, rfl, rfl, ?_⟩))
    have e : sset ns = rungsOf as := sset_ext fun k => by rw [← hk k]; simp
    rw [e]
    rfl
  · rintro a rest ρ ha ⟨ns, s2, rfl, hs, hl, hk⟩
    rw [List.length_cons] at hl
    refine ⟨_, rfl, ?_⟩
    cases a with
    | cnt l n k =>
      repeat walk_at "m2"
      refine iOp2E rfl rfl (ixC0 l n k) ?_
      repeat walk_at "m2"
      rw [show (decide (sCount = Str.ofString "count")) = true from rfl]
      refine iteT ?_
      refine iSq (iDrop (iAddI rfl (iOp2 ?_)))
      repeat walk_at "m2"
      refine iOp2E rfl rfl (ixC2 l n k) ⟨n, ns, rfl, rfl, by omega, rfl, ?_⟩
      refine iThn (iDrop (iAddI rfl (iOp2 (iV (iOp2 ?_)))))
      repeat walk_at "m2"
      refine iOp2E rfl rfl (ixC2 l n k) ?_
      repeat walk_at "m2"
      refine ⟨by rw [List.length_cons]; omega, rfl, ?_⟩
      refine ⟨(n - 1) :: n :: ns, .dat (An.cnt l n k).d, rfl, rfl, by rw [List.length_cons, List.length_cons]; omega, fun j => ?_⟩
      rw [← hk j]
      simp only [List.map_cons, List.flatten_cons, List.mem_append, List.mem_cons, An.rung, List.not_mem_nil, or_false]
      constructor
      · rintro ((h | h | h) | h)
        · exact .inr (.inl (.inl h))
        · exact .inr (.inl (.inr h))
        · exact .inl h
        · exact .inr (.inr h)
      · rintro (h | (h | h) | h)
        · exact .inl (.inr (.inr h))
        · exact .inl (.inl h)
        · exact .inl (.inr (.inl h))
        · exact .inr h
    | is f v =>
      repeat walk_at "m2"
      refine iOp2E rfl rfl (ixIs0 f v) ?_
      repeat walk_at "m2"
      rw [show (decide (sIs = Str.ofString "count")) = false from rfl]
      refine iteF ?_
      repeat walk_at "m2"
      refine iOp2E rfl rfl (ixIs2 f v) ?_
      repeat walk_at "m2"
      refine iOp2E rfl rfl (notN_opt v) ⟨_, rfl, ?_⟩
      cases v with
      | none =>
        refine iteF (iNx ?_)
        refine ⟨ns, .dat (An.is f none).d, rfl, rfl, by omega, fun j => ?_⟩
        rw [← hk j]
        simp [An.rung]
      | some n =>
        refine iteT (iDrop (iAddI rfl (iOp2 ?_)))
        repeat walk_at "m2"
        refine iOp2E rfl rfl (ixIs2 f (some n)) ⟨n, ns, rfl, rfl, by omega, rfl, ?_⟩
        refine ⟨n :: ns, .dat (An.is f (some n)).d, rfl, rfl, by rw [List.length_cons]; omega, fun j => ?_⟩
        rw [← hk j]
        simp only [List.map_cons, List.flatten_cons, List.mem_append, List.mem_cons, An.rung, List.not_mem_nil, or_false]
        constructor
        · rintro ((h | h) | h)
          · exact .inr (.inl h)
          · exact .inl h
          · exact .inr (.inr h)
        · rintro (h | h | h)
          · exact .inl (.inr h)
          · exact .inl (.inl h)
          · exact .inr h
theorem rev_ok {xs : List D} (h : xs.length ≤ 1000) : revG xs [] = some (.none, xs.reverse) := by
  unfold revG
  exact if_pos (by rw [sizeLine_eq]; omega)
theorem near_few {as : List An} (al : as.length ≤ 10) : (nearL (rungsOf as ++ [10 ^ 30, -(10 ^ 30)])).length < 64 := by
  have hp := sset_le (ns := (rungsOf as ++ [10 ^ 30, -(10 ^ 30)]) ++ (rungsOf as ++ [10 ^ 30, -(10 ^ 30)]).map (· + 1) ++ (rungsOf as ++ [10 ^ 30, -(10 ^ 30)]).map (· - 1) ++ [0])
    (pool := (as.map fun a => match a with
      | .cnt _ n _ => [n - 2, n - 1, n, n + 1]
      | .is _ (some v) => [v - 1, v, v + 1]
      | .is _ none => []).flatten ++ [10 ^ 30 - 1, 10 ^ 30, 10 ^ 30 + 1, -(10 ^ 30) - 1, -(10 ^ 30), -(10 ^ 30) + 1, 0]) ?_
  · refine Nat.lt_of_le_of_lt hp ?_
    rw [List.length_append]
    have := flat_len (xss := as.map fun a => match a with
      | .cnt _ n _ => [n - 2, n - 1, n, n + 1]
      | .is _ (some v) => [v - 1, v, v + 1]
      | .is _ none => []) (b := 4) fun xs hx => by
        obtain ⟨a, ha, rfl⟩ := List.mem_map.mp hx
        cases a with
        | cnt => exact Nat.le_refl 4
        | is f v => cases v with | none => exact Nat.zero_le _ | some => show 3 ≤ 4; decide
    rw [List.length_map] at this
    show _ + 7 < 64
    omega
  · have three : ∀ r ∈ rungsOf as ++ [10 ^ 30, -(10 ^ 30)], ∀ x, x = r ∨ x = r + 1 ∨ x = r - 1 → x ∈ (as.map fun a => match a with
      | .cnt _ n _ => [n - 2, n - 1, n, n + 1]
      | .is _ (some v) => [v - 1, v, v + 1]
      | .is _ none => []).flatten ++ [10 ^ 30 - 1, 10 ^ 30, 10 ^ 30 + 1, -(10 ^ 30) - 1, -(10 ^ 30), -(10 ^ 30) + 1, 0] := by
      intro r hr x hx
      rcases List.mem_append.mp hr with hr | hr
      · obtain ⟨xs, hxs, hr⟩ := List.mem_flatten.mp (mem_sset.mp hr)
        obtain ⟨a, ha, rfl⟩ := List.mem_map.mp hxs
        refine List.mem_append_left _ (List.mem_flatten.mpr ⟨_, List.mem_map_of_mem ha, ?_⟩)
        cases a with
        | cnt l n k =>
          simp only [An.rung, List.mem_cons, List.not_mem_nil, or_false] at hr ⊢
          omega
        | is f v =>
          cases v with
          | none => exact nomatch hr
          | some v =>
            simp only [An.rung, List.mem_cons, List.not_mem_nil, or_false] at hr ⊢
            omega
      · refine List.mem_append_right _ ?_
        simp only [List.mem_cons, List.not_mem_nil, or_false] at hr ⊢
        omega
    intro x hx
    rcases List.mem_append.mp hx with hx | hx
    · rcases List.mem_append.mp hx with hx | hx
      · rcases List.mem_append.mp hx with hx | hx
        · exact three x hx x (.inl rfl)
        · obtain ⟨r, hr, rfl⟩ := List.mem_map.mp hx
          exact three r hr _ (.inr (.inl rfl))
      · obtain ⟨r, hr, rfl⟩ := List.mem_map.mp hx
        exact three r hr _ (.inr (.inr rfl))
    · refine List.mem_append_right _ ?_
      rw [List.mem_singleton.mp hx]
      simp
theorem rungs_small {h : House} {as : List An} (oa : ∀ a ∈ as, AOk h a) : ∀ n ∈ rungsOf as, n.natAbs < 10 ^ 40 := by
  intro n hn
  obtain ⟨xs, hxs, hr⟩ := List.mem_flatten.mp (mem_sset.mp hn)
  obtain ⟨a, ha, rfl⟩ := List.mem_map.mp hxs
  cases oa a ha with
  | @is f v of hv =>
    cases v with
    | none => exact nomatch hr
    | some v =>
      have := hv v rfl
      unfold Nm at this
      simp only [An.rung, List.mem_cons, List.not_mem_nil, or_false] at hr
      omega
  | @cnt l m k ol hm hk =>
    unfold Nm at hm
    simp only [An.rung, List.mem_cons, List.not_mem_nil, or_false] at hr
    omega
theorem isN_hi (o : Option Nat) : isND (hiD o) .none = some (.bool o.isNone) := by cases o <;> rfl
def capN (s : Srt) (n : Nat) : Nat := match s.hi with
  | none => n
  | some m => if n < m then n else m
def b_caps_of : MS :=
  (mRet (mCall tupleC [(mV (mLC [2, 3, 4] (mIt (mVar 0)) (bTup [2, 3, 4]) mYes (mIf (mTest (mOp2 isND (mPk 4) (mV (mC .none)))) (mVar 1) (mCall min2C [(mPk 4), (mPk 1)]))))]))
def g_caps_of : FM := runF false 2 3 [] b_caps_of
theorem capN_le (s : Srt) (n : Nat) : capN s n ≤ n := by
  unfold capN
  split
  · exact Nat.le_refl _
  · split <;> omega
theorem caps_t {h : House} (oh : HOk h) (n : Nat) : pureFn g_caps_of [h.d, .int n] (· = cntD (h.map fun s => capN s n)) := by
  have l5 := oh.l5
  unfold g_caps_of pureFn
  refine run_gives rfl ?_
  unfold b_caps_of
  refine iRet (iCall (iLs (iV (iLCm (wIt (iVar rfl ?_))))))
  refine ⟨_, rfl, Srt, h, Srt.d, (fun s => .int (capN s n : Nat)), rfl, by rw [sizeLine_eq]; omega, rfl, ?_, ?_⟩
  · intro s hs
    refine ⟨_, rfl, ?_⟩
    repeat walk_at "m2"
    refine iOp2E rfl rfl (isN_hi s.hi) ⟨_, rfl, ?_⟩
    cases e : s.hi with
    | none =>
      refine iteT (iVar rfl ⟨?_, rfl⟩)
      show PyData.int _ = PyData.int _
      unfold capN
      rw [e]
    | some m =>
      refine iteF ?_
      repeat walk_at "m2"
      refine iCallE rfl (min2_int (i := m) (j := n)) ⟨?_, rfl⟩
      show PyData.int _ = PyData.int _
      unfold capN
      rw [e]
      show PyData.int (if (n : Int) < (m : Int) then (n : Int) else m) = PyData.int ((if n < m then n else m : Nat) : Int)
      congr 1
      split <;> split <;> omega
  repeat walk_at "m2"
  refine ⟨rfl, ?_⟩
  unfold cntD
  rw [List.map_map]
  rfl
def b_l_caps : MS :=
  (mRet (mCall tupleC [(mV (mLC [2] (mIt (mVar 0)) (setS 2) mYes (mIf (mTest (mOp2 isND (mV (mOp2 ixD (mPk 2) (mV (mC (.int 2))))) (mV (mC .none)))) (mVar 1) (mCall min2C [(mV (mOp2 ixD (mPk 2) (mV (mC (.int 2))))), (mPk 1)]))))]))
def g_l_caps : FM := runF false 2 1 [] b_l_caps
theorem lcaps_t {h : House} (oh : HOk h) (n : Nat) : pureFn g_l_caps [h.d, .int n] (· = cntD (h.map fun s => capN s n)) := by
  have l5 := oh.l5
  unfold g_l_caps pureFn
  refine run_gives rfl ?_
  unfold b_l_caps
  refine iRet (iCall (iLs (iV (iLCm (wIt (iVar rfl ?_))))))
  refine ⟨_, rfl, Srt, h, Srt.d, (fun s => .int (capN s n : Nat)), rfl, by rw [sizeLine_eq]; omega, rfl, ?_, ?_⟩
  · intro s hs
    refine ⟨_, rfl, ?_⟩
    repeat walk_at "m2"
    refine iOp2E rfl rfl (show ixD s.d (.int 2) = some (hiD s.hi) from rfl) ?_
    repeat walk_at "m2"
    refine iOp2E rfl rfl (isN_hi s.hi) ⟨_, rfl, ?_⟩
    cases e : s.hi with
    | none =>
      refine iteT (iVar rfl ⟨?_, rfl⟩)
      show PyData.int _ = PyData.int _
      unfold capN
      rw [e]
    | some m =>
      refine iteF ?_
      repeat walk_at "m2"
      refine iOp2E rfl rfl (show ixD s.d (.int 2) = some (hiD s.hi) from rfl) ?_
      repeat walk_at "m2"
      rw [e]
      refine iCallE rfl min2_int ⟨?_, rfl⟩
      show PyData.int _ = PyData.int _
      unfold capN
      rw [e]
      show PyData.int (if (n : Int) < (m : Int) then (n : Int) else m) = PyData.int ((if n < m then n else m : Nat) : Int)
      congr 1
      split <;> split <;> omega
  repeat walk_at "m2"
  refine ⟨rfl, ?_⟩
  unfold cntD
  rw [List.map_map]
  rfl
theorem lay_cnt (c : List Nat) : (cntD c).canLay0 = true := by
  unfold cntD
  rw [lay_tup]
  induction c with
  | nil => rfl
  | cons n c ih => rw [List.map_cons]; exact ih
theorem nice_cnt {c : List Nat} (hc : ∀ n ∈ c, n < 1000) (hl : c.length ≤ 10) : Nice (cntD c) := nice_of (k := 1) (n := 10 * (41 + 2) + 4) (fine_tuple (k := 0) (n := 41) (m := 10) (fun d hd => by
  obtain ⟨n, hn, rfl⟩ := List.mem_map.mp hd
  exact fine_int (by have := hc n hn; show n < 10 ^ 40; omega)) (by rw [List.length_map]; exact hl)) (lay_cnt c) (by decide) (by decide)
theorem nice_nums {ns : List Int} (hb : ∀ n ∈ ns, n.natAbs < 10 ^ 40) (hl : ns.length ≤ 1000) : Nice (listD ns) := nice_list (n := 41) (k := 0) (m := 1000) (fun d hd => by
  obtain ⟨n, hn, rfl⟩ := List.mem_map.mp hd
  exact ⟨fine_int (hb n hn), rfl⟩) (by rw [List.length_map]; exact hl) (by decide) (by decide)
def b_l_caps_right : MS :=
  (mSq (mSet 4 (mFn [] g_l_depth [(mPk 2), (mPk 3)]))
  (mSq (mIfS (mNot (mTest (mFn [] g_alike [(mV (mFn [] g_depth_of [(mV (mCall tupleC [(mPk 2)])), (mPk 3)])), (mPk 4)])))
    (mRet (mC (.bool false)))
    mNx)
  (mSq (mFor (mIt (mLst [(mVar 4), (mC (.int 1)), (mOp2 addD (mV (mC (.int 1))) (mV (mFn [0] g_take [(mPk 0), (mV (mC (.int 12)))]))), (mC (.int 9)), (mC (.int 10))])) (setS 5)
    (mIfS (mNot (mTest (mFn [] g_alike [(mV (mFn [] g_caps_of [(mPk 1), (mPk 5)])), (mV (mFn [] g_l_caps [(mPk 1), (mPk 5)]))])))
    (mRet (mC (.bool false)))
    mNx))
  (mRet (mC (.bool true))))))
def g_l_caps_right : FM := runF false 4 2 [0] b_l_caps_right
theorem caps_right_t {h : House} (oh : HOk h) {fs : List Fm} {as : List An} (of : ∀ f ∈ fs, FOk h 5 3 f) (fl : fs.length ≤ 10) (oa : ∀ a ∈ as, AOk h a) (al : as.length ≤ 10) : bagFn g_l_caps_right [h.d, .list (fs.map Fm.d), ansD as] (· = .bool true) := fun bag ok => by
  have l5 := oh.l5
  have d99 := dep_99 of oa
  unfold g_l_caps_right
  refine run_gives rfl ?_
  unfold b_l_caps_right
  repeat walk_at "m2"
  refine iFnQ rfl (ldepth_t of fl oa al) ?_
  obtain ⟨dn, ed⟩ : ∃ dn, depN fs as = dn := ⟨_, rfl⟩
  have dt := depth_t of fl oa al
  rw [ed] at d99 dt ⊢
  refine iThn (iNorm (ρ' := [.own bag, .dat h.d, .dat (.list (fs.map Fm.d)), .dat (ansD as), .dat (.int dn), .un]) rfl ?_)
  refine iSq (iIfS (iNot (iTest (iFn (iLs (iV ?_))))))
  repeat walk_at "m2"
  refine iFnQ rfl dt ?_
  repeat walk_at "m2"
  refine iFnQ rfl (alike_fn (nice_int (by show dn < 10 ^ 40; omega))) ⟨true, rfl, iteF (iNx (iThn ?_))⟩
  refine iSq (iForT (wIt (iLst (iDs (iVar rfl (iDs (iC (iDs (iOp2 (iV (iC ?_)))))))))))
  repeat walk_at "m2"
  refine iBagE rfl rfl ok (take_fn (by decide) (by decide)) ?_
  rintro _ bag2 ⟨u, rfl, u0, u1⟩ ok2
  obtain ⟨u', rfl⟩ := Int.eq_ofNat_of_zero_le u0
  refine iOp2E rfl rfl addD_int ?_
  refine iDs (iC (iDs (iC (iDs0 ⟨by show 5 ≤ sizeLine; rw [sizeLine_eq]; decide, ?_⟩))))
  have e5 : [PyData.int dn, .int 1, .int (1 + (u' : Nat)), .int 9, .int 10] = [dn, 1, 1 + u', 9, 10].map fun n : Nat => PyData.int n := rfl
  rw [e5]
  refine ⟨_, rfl, Nat, [dn, 1, 1 + u', 9, 10], (fun n => .int (n : Nat)), fun rest ρ => ∃ (s5 : CF.Slot), ρ = [.own bag2, .dat h.d, .dat (.list (fs.map Fm.d)), .dat (ansD as), .dat (.int dn), s5], rfl, ⟨_, rfl⟩, ?_, ?_⟩
  · rintro ρ ⟨s5, rfl⟩
    repeat walk_at "m2"
    exact ⟨rfl, rfl, bag2, ok2, rfl⟩
  · rintro n rest ρ hn ⟨s5, rfl⟩
    have n99 : n ≤ 99 := by
      simp only [List.mem_cons, List.not_mem_nil, or_false] at hn
      omega
    refine ⟨_, rfl, ?_⟩
    refine iIfS (iNot (iTest (iFn (iLs (iV ?_)))))
    repeat walk_at "m2"
    refine iFnQ rfl (caps_t oh n) ?_
    repeat walk_at "m2"
    refine iFnQ rfl (lcaps_t oh n) ?_
    repeat walk_at "m2"
    refine iFnQ rfl (alike_fn (nice_cnt (c := h.map fun s => capN s n) ?_ (by rw [List.length_map]; omega))) ⟨true, rfl, iteF (iNx ⟨_, rfl⟩)⟩
    intro m hm
    obtain ⟨s, hs, rfl⟩ := List.mem_map.mp hm
    have := capN_le s n
    omega
def b_l_levels_right : MS :=
  (mSq (mSet 1 (mFn [] g_l_rungs [(mPk 0)]))
  (mSq (mFor (mRng1 (mV (mC (.int 2)))) (setS 2)
    (mSq (mSetO 3 (mFn [] g_rungs_own [(mPk 0)]))
  (mSq (mIfS (mTmp 3 (mNot (mTest (mFn [] g_alike [(mPk 3), (mPk 1)]))))
    (mRet (mC (.bool false)))
    mNx)
  (mSq (mDrop (mMut 3 appG (mDs [(mC (.int 0))])))
  (mDrop (mMut 3 revG (mDs [])))))))
  (mSq (mFor (mIt (mFn [] g_l_near [(mV (mOp2 addL (mPk 1) (mV (mLst [(mOp2 powD (mV (mC (.int 10))) (mV (mC (.int 30)))), (mOp1 negD (mV (mOp2 powD (mV (mC (.int 10))) (mV (mC (.int 30))))))]))))])) (setS 4)
    (mIfS (mNot (mTest (mFn [] g_alike [(mV (mFn [] g_level_of [(mV (mCall listC [(mPk 1)])), (mPk 4)])), (mV (mFn [] g_level_of [(mPk 1), (mPk 4)]))])))
    (mRet (mC (.bool false)))
    mNx))
  (mRet (mC (.bool true))))))
def g_l_levels_right : FM := runF false 1 4 [] b_l_levels_right
theorem levels_right_t {h : House} {as : List An} (oa : ∀ a ∈ as, AOk h a) (al : as.length ≤ 10) : pureFn g_l_levels_right [ansD as] (· = .bool true) := by
  have rl := rungs_len al
  unfold g_l_levels_right pureFn
  refine run_gives rfl ?_
  unfold b_l_levels_right
  repeat walk_at "m2"
  refine iFnQ rfl (lrungs_t oa al) ?_
  have own := rungs_own_t oa al
  obtain ⟨rs, ers⟩ : ∃ rs, rungsOf as = rs := ⟨_, rfl⟩
  rw [ers] at rl own ⊢
  refine iThn (iNorm (ρ' := [.dat (ansD as), .dat (listD rs), .un, .un, .un]) rfl ?_)
  refine iSq (iForT (iRng1 (iV (iC ?_))))
  refine ⟨2, rfl, by decide, Nat, List.range (Int.toNat 2), (fun i => .int (0 + (i : Nat))), fun rest ρ => ∃ (s2 s3 : CF.Slot), ρ = [.dat (ansD as), .dat (listD rs), s2, s3, .un], rangeD_map _ _, ⟨_, _, rfl⟩, ?_, ?_⟩
  · rintro ρ ⟨s2, s3, rfl⟩
    refine iThn (iSq (iForT (wIt (iFn (iLs (iV (iOp2 (iPk rfl (iV (iLst (iDs ?_))))))))))) 
    repeat walk_at "m2"
    rw [show (10 : Int) ^ Int.toNat 30 = 10 ^ 30 from rfl]
    refine iOp2E rfl rfl (addL_list (xs := rs.map PyData.int) (ys := [.int (10 ^ 30), .int (-10 ^ 30)]) (by rw [List.length_map, sizeLine_eq]; show _ + 2 ≤ _; omega)) ?_
    rw [show rs.map PyData.int ++ [.int (10 ^ 30), .int (-10 ^ 30)] = (rs ++ [10 ^ 30, -(10 ^ 30)]).map PyData.int from by rw [List.map_append]; rfl]
    refine iLs0 (iFnQ rfl (near2_t (ns := rs ++ [10 ^ 30, -(10 ^ 30)]) (by rw [List.length_append]; show _ + 2 ≤ _; omega) (ers ▸ near_few al)) ?_)
    refine ⟨_, rfl, Int, nearI (rs ++ [10 ^ 30, -(10 ^ 30)]), (fun n => .int n), fun rest ρ => ∃ (s4 : CF.Slot), ρ = [.dat (ansD as), .dat (listD rs), s2, s3, s4], rfl, ⟨_, rfl⟩, ?_, ?_⟩
    · rintro ρ ⟨s4, rfl⟩
      repeat walk_at "m2"
      exact ⟨rfl, rfl⟩
    · rintro n rest ρ hn ⟨s4, rfl⟩
      refine ⟨_, rfl, ?_⟩
      refine iIfS (iNot (iTest (iFn (iLs (iV ?_)))))
      repeat walk_at "m2"
      refine iCallE rfl (show listC [listD rs] = some (listD rs) from rfl) ?_
      repeat walk_at "m2"
      refine iFnQ rfl (level_t (rs := rs) (by omega) n) ?_
      repeat walk_at "m2"
      refine iFnQ rfl (level_t (rs := rs) (by omega) n) ?_
      repeat walk_at "m2"
      refine iFnQ rfl (alike_fn (nice_int ?_)) ⟨true, rfl, iteF (iNx ⟨_, rfl⟩)⟩
      have := lvl_len rs n
      show lvl rs n < 10 ^ 40
      omega
  · rintro i rest ρ hi ⟨s2, s3, rfl⟩
    refine ⟨_, rfl, ?_⟩
    refine iSq (iSetO ?_)
    repeat walk_at "m2"
    refine iFnQ rfl own ?_
    refine iThn (iNorm (ρ' := [.dat (ansD as), .dat (listD rs), .dat (.int (0 + (i : Nat))), .own (listD rs), .un]) rfl ?_)
    refine iSq (iIfS (iTmp (ds := rs.map PyData.int) rfl ?_))
    refine iNot (iTest ?_)
    repeat walk_at "m2"
    refine iFnQ rfl (alike_fn (nice_nums (ns := rs) (ers ▸ rungs_small oa) (by omega))) ⟨true, rfl, iteF (iNx (iThn ?_))⟩
    refine iSq (iDrop (iMut rfl (iDs (iC (iDs0 ?_)))))
    refine iMutE (xs := rs.map PyData.int) rfl (app_ok (by rw [List.length_map]; omega)) ?_
    refine iThn (iDrop (iMut rfl (iDs0 ?_)))
    refine iMutE (xs := rs.map PyData.int ++ [PyData.int 0]) rfl (rev_ok (by rw [List.length_append, List.length_map]; show _ + 1 ≤ _; omega)) ?_
    exact ⟨_, _, rfl⟩
end
end CF
end
section
namespace Qk20
open PySem PySem.Spec PyProof.Rows L2 CF
def topS (i : Nat) : Stmt := PySem.Challenge.pw_countsfall_k20_rungs_levels_caps.main.body.getD i (.Pass ⟨0, 0, 0, 0⟩)
structure Facts (K : PySem.W.Frag) (mg : Str → Option Value) (c__law_facts : Addr) : Prop where
  d__law_take : DefG K mg "_law_take" (topS 9) ["_law_bag_here", "_law_many"]
  d__law_one : DefG K mg "_law_one" (topS 10) ["_law_bag_here", "_law_things"]
  d__law_mixed : DefG K mg "_law_mixed" (topS 11) ["_law_bag_here", "_law_things"]
  d__law_lot : DefG K mg "_law_lot" (topS 23) ["_law_bag_here", "_law_house_here"]
  d__law_rank : DefG K mg "_law_rank" (topS 24) ["_law_bag_here", "_law_house_here", "_law_most"]
  d__law_formula : DefG K mg "_law_formula" (topS 25) ["_law_bag_here", "_law_house_here", "_law_deep", "_law_most", "_law_left"]
  d__law_any_formula : DefG K mg "_law_any_formula" (topS 26) ["_law_bag_here", "_law_house_here"]
  d__law_alike : DefG K mg "_law_alike" (topS 12) ["_law_found", "_law_due"]
  d__law_caps : DefG K mg "_law_caps" (topS 37) ["_law_house_here", "_law_depth_here"]
  d__law_flat : DefG K mg "_law_flat" (topS 13) ["_law_rows"]
  d__law_ranks : DefG K mg "_law_ranks" (topS 29) ["_law_formula_here"]
  d__law_depth : DefG K mg "_law_depth" (topS 36) ["_law_formulas", "_law_answers"]
  d_caps_of : DefG K mg "caps_of" (topS 6) ["house", "depth"]
  d_rank_depth : DefG K mg "rank_depth" (topS 1) ["formula"]
  d_depth_of : DefG K mg "depth_of" (topS 5) ["formulas", "answers"]
  d__law_are_caps_right : DefG K mg "_law_are_caps_right" (topS 45) ["_law_bag_here", "_law_house_here", "_law_formulas", "_law_answers"]
  d__law_level : DefG K mg "_law_level" (topS 41) ["_law_rungs_here", "_law_number"]
  d__law_near : DefG K mg "_law_near" (topS 39) ["_law_numbers_here"]
  d__law_rungs : DefG K mg "_law_rungs" (topS 38) ["_law_answers"]
  d_level_of : DefG K mg "level_of" (topS 4) ["rungs", "number"]
  d_rungs_of : DefG K mg "rungs_of" (topS 3) ["answers"]
  d__law_are_levels_right : DefG K mg "_law_are_levels_right" (topS 44) ["_law_answers"]
  d__law_bag : DefG K mg "_law_bag" (topS 8) ["_law_script"]
  d__law_count : DefG K mg "_law_count" (topS 30) ["_law_table_here", "_law_lot_here", "_law_number"]
  d__law_known : DefG K mg "_law_known" (topS 22) ["_law_table_here"]
  d__law_key : DefG K mg "_law_key" (topS 27) ["_law_value_here"]
  d__law_value : DefG K mg "_law_value" (topS 28) ["_law_table_here", "_law_formula_here"]
  d__law_answer : DefG K mg "_law_answer" (topS 31) ["_law_bag_here", "_law_house_here", "_law_table_here", "_law_formula_here"]
  d__law_case : DefG K mg "_law_case" (topS 34) ["_law_bag_here", "_law_house_here", "_law_table_here", "_law_formulas", "_law_facts_here"]
  d__law_facts : DefT K mg "_law_facts" (topS 33) ["_law_bag_here", "_law_house_here", "_law_table_here", "_law_many", "_law_most"] c__law_facts
  d__law_names : DefG K mg "_law_names" (topS 14) ["_law_bag_here", "_law_many"]
  d__law_cell_house : DefG K mg "_law_cell_house" (topS 18) ["_law_bag_here", "_law_most"]
  d__law_numbers : DefG K mg "_law_numbers" (topS 19) ["_law_bag_here"]
  d__law_size : DefG K mg "_law_size" (topS 20) ["_law_bag_here", "_law_sort_here", "_law_more"]
  d__law_table : DefG K mg "_law_table" (topS 21) ["_law_bag_here", "_law_house_here", "_law_pool", "_law_more"]
  d__law_turned_answer : DefG K mg "_law_turned_answer" (topS 32) ["_law_bag_here", "_law_answer_here"]
  d__law_turned_case : DefG K mg "_law_turned_case" (topS 35) ["_law_bag_here", "_law_case_here"]
  d__law_great_case : DefG K mg "_law_great_case" (topS 43) ["_law_bag_here"]
  d__law_firm_house : DefG K mg "_law_firm_house" (topS 17) ["_law_bag_here", "_law_most", "_law_rows"]
  d__law_sort : DefG K mg "_law_sort" (topS 15) ["_law_bag_here", "_law_name"]
  d__law_house : DefG K mg "_law_house" (topS 16) ["_law_bag_here", "_law_most"]
  d__law_one_house : DefG K mg "_law_one_house" (topS 40) ["_law_bag_here"]
  d__law_small_case : DefG K mg "_law_small_case" (topS 42) ["_law_bag_here"]
  d_law : DefG K mg "law" (topS 46) ["_law_script"]
  z_abs : mg "abs" = none
  z_int : mg "int" = none
  z_len : mg "len" = none
  z_list : mg "list" = none
  z_max : mg "max" = none
  z_min : mg "min" = none
  z_range : mg "range" = none
  z_repr : mg "repr" = none
  z_set : mg "set" = none
  z_sorted : mg "sorted" = none
  z_tuple : mg "tuple" = none
  z_zip : mg "zip" = none
section
variable {P : Program} {w : World} {K : PySem.W.Frag} {mg : Str → Option Value} {base : Heap} {c__law_facts P__law_facts : Addr}
variable [Tb]
theorem sc__law_take : FnScope ["_law_bag_here", "_law_many", "_law_cell", "_law_stirred", "_law_value_here", "_law_begin", "_law_second"] ["_law_bag_here", "_law_many"] (defScope (topS 9)) := ⟨rfl, rfl, rfl, by decide +kernel, rfl, by decide +kernel, by decide +kernel⟩
theorem ok__law_take (Z : Facts K mg c__law_facts)  : CalG P w K mg base 1 "_law_take" false [0] g_take := by
  refine Z.d__law_take.cal (m := b_take) 5 sc__law_take rfl rfl fun f cdv A outer s H E hr hg => ?_
  unfold b_take
  exact (
  (sSq (sIf (qCmp (op_eqDD hr.units) (dl (dIx (hu_of hr) (dk 0) (dl dInt))) (dl dInt))
    (sSq (sSet 2 rfl sc__law_take.nd (dIx (hu_of hr) (dl (df (fOp op_addL (dl (dSl (dl (dIx (hu_of hr) (dk 0) (dl dInt))) (pSome (dIx (hu_of hr) (dk 0) (dl dInt))) pNone)) (dl (df (fLst (bCons dInt bNil))))))) (dl dInt)))
  (sSq (sAugS 0 (hu_of hr) ipAdd dInt dInt)
  (sSq (sIf (qCmp (op_geD hr.units) (dk 2) (dl (dOp op_powD (dl dInt) (dl dInt))))
    (sOne (sSub 0 (hu_of hr) dInt (dv 2)))
    sNx)
  (sSq (sSet 3 rfl sc__law_take.nd (dOp op_addD (dl (dOp op_addD (dl (dOp op_mulD (dl (dIx (hu_of hr) (dk 0) (dl dInt))) (dl dInt))) (dl (dOp op_modD (dl (dT cr_int Z.z_int (aCons (dk 2) aNil))) (dl dInt))))) (dl (dOp op_mulD (dl dInt) (dl (dIx (hu_of hr) (dk 0) (dl dInt)))))))
  (sOne (sSub 0 (hu_of hr) dInt (dOp op_modD (dl (dT cr_int Z.z_int (aCons (dk 3) aNil))) (dl dInt))))))))
    sNx)
  (sSq (sIf (qCmp (op_gtD hr.units) (dl (dIx (hu_of hr) (dk 0) (dl dInt))) (dl dInt))
    (sSq (sSet 4 rfl sc__law_take.nd (dOp op_modD (dl (dT cr_int Z.z_int (aCons (dl (dIx (hu_of hr) (dk 0) (dl dInt))) aNil))) (dk 1)))
  (sSq (sSub 0 (hu_of hr) dInt (dOp op_fdivD (dl (dT cr_int Z.z_int (aCons (dl (dIx (hu_of hr) (dk 0) (dl dInt))) aNil))) (dk 1)))
  (sOne (sRet (dv 4)))))
    sNx)
  (sSq (sSet 5 rfl sc__law_take.nd (dOp op_modD (dl (dT cr_int Z.z_int (aCons (dl (dOp op_mulD (dl (dOp op_addD (dl (dIx (hu_of hr) (dk 0) (dl dInt))) (dl dInt))) (dl dInt))) aNil))) (dl dInt)))
  (sSq (sSet 6 rfl sc__law_take.nd (dOp op_modD (dl (dT cr_int Z.z_int (aCons (dl (dOp op_mulD (dl (dOp op_modD (dl (dT cr_int Z.z_int (aCons (dl (dOp op_mulD (dk 5) (dk 5))) aNil))) (dl dInt))) (dl dInt))) aNil))) (dl dInt)))
  (sOne (sRet (dOp op_modD (dl (dT cr_int Z.z_int (aCons (dl (dOp op_fdivD (dk 6) (dl dInt))) aNil))) (dk 1)))))))))
theorem sc__law_one : FnScope ["_law_bag_here", "_law_things"] ["_law_bag_here", "_law_things"] (defScope (topS 10)) := ⟨rfl, rfl, rfl, by decide +kernel, rfl, by decide +kernel, by decide +kernel⟩
theorem ok__law_one (Z : Facts K mg c__law_facts) (C__law_take : CalG P w K mg base 1 "_law_take" false [0] g_take) : CalG P w K mg base 2 "_law_one" false [0] g_one := by
  refine Z.d__law_one.cal (m := b_one) 0 sc__law_one rfl rfl fun f cdv A outer s H E hr hg => ?_
  unfold b_one
  exact (
  (sOne (sRet (dIx (hu_of hr) (dk 1) (dl (dFn C__law_take hr (by omega) hg (aCons (dk 0) (aCons (dl (dB cr_len Z.z_len (aCons (dk 1) aNil))) aNil))))))))
theorem sc__law_mixed : FnScope ["_law_bag_here", "_law_things", "_law_found", "_law_thing"] ["_law_bag_here", "_law_things"] (defScope (topS 11)) := ⟨rfl, rfl, rfl, by decide +kernel, rfl, by decide +kernel, by decide +kernel⟩
theorem ok__law_mixed (Z : Facts K mg c__law_facts) (C__law_take : CalG P w K mg base 1 "_law_take" false [0] g_take) : CalG P w K mg base 2 "_law_mixed" false [0] g_mixed := by
  refine Z.d__law_mixed.cal (m := b_mixed) 2 sc__law_mixed rfl rfl fun f cdv A outer s H E hr hg => ?_
  unfold b_mixed
  exact (
  (sSq (sSetO 2 rfl sc__law_mixed.nd (fLst bNil))
  (sSq (sFor rfl PassesOwn.never rfl (iIt (dv 1)) (gN 3 sc__law_mixed.nd)
    (sOne (sDrop (dMut 2 F.slot_list_insert F.type_list_insert mt_ins (bCons (dFn C__law_take hr (by omega) hg (aCons (dk 0) (aCons (dl (dOp op_addD (dl (dB cr_len Z.z_len (aCons (dk 2) aNil))) (dl dInt))) aNil))) (bCons (dv 3) bNil))))))
  (sOne (sRel 2 (sRet (dv 2)))))))
theorem sc__law_lot : FnScope ["_law_bag_here", "_law_house_here", "_law_names_here", "_law_sort_here"] ["_law_bag_here", "_law_house_here"] (defScope (topS 23)) := ⟨rfl, rfl, rfl, by decide +kernel, rfl, by decide +kernel, by decide +kernel⟩
theorem ok__law_lot (Z : Facts K mg c__law_facts) (C__law_mixed : CalG P w K mg base 2 "_law_mixed" false [0] g_mixed) (C__law_take : CalG P w K mg base 1 "_law_take" false [0] g_take) : CalG P w K mg base 3 "_law_lot" false [0] g_lot := by
  refine Z.d__law_lot.cal (m := b_lot) 2 sc__law_lot rfl rfl fun f cdv A outer s H E hr hg => ?_
  unfold b_lot
  exact (
  (sSq (sSetLc 2 rfl rfl sc__law_lot.nd (vs := [3]) (is := [3]) (own := [((Str.ofString "_law_sort_here"), 3)]) rfl rfl (iIt (dv 1)) (blkOk_by (N := ["_law_bag_here", "_law_house_here", "_law_names_here", "_law_sort_here"]) (sc := defScope (topS 23)) (by decide +kernel)) (fun _ _ _ _ _ => (gN 3 sc__law_lot.nd)) (fun _ _ _ _ _ => (tNil _)) (fun _ _ _ _ _ => (dIx (hu_of hr) (dk 3) (dl dInt))))
  (sOne (sRet (dT cr_tuple Z.z_tuple (aCons (dl (df (fB (cr_sorted' rfl hr.units) Z.z_sorted (aCons (dl (dSl (dl (dFn C__law_mixed hr (by omega) hg (aCons (dk 0) (aCons (dk 2) aNil)))) pNone (pSome (dOp op_addD (dl dInt) (dl (dFn C__law_take hr (by omega) hg (aCons (dk 0) (aCons (dl (dB cr_len Z.z_len (aCons (dk 2) aNil))) aNil)))))))) aNil)))) aNil))))))
theorem sc__law_rank : FnScope ["_law_bag_here", "_law_house_here", "_law_most"] ["_law_bag_here", "_law_house_here", "_law_most"] (defScope (topS 24)) := ⟨rfl, rfl, rfl, by decide +kernel, rfl, by decide +kernel, by decide +kernel⟩
theorem ok__law_rank (Z : Facts K mg c__law_facts) (C__law_lot : CalG P w K mg base 3 "_law_lot" false [0] g_lot) (C__law_one : CalG P w K mg base 2 "_law_one" false [0] g_one) (C__law_take : CalG P w K mg base 1 "_law_take" false [0] g_take) : CalG P w K mg base 4 "_law_rank" false [0] g_rank := by
  refine Z.d__law_rank.cal (m := b_rank) 0 sc__law_rank rfl rfl fun f cdv A outer s H E hr hg => ?_
  unfold b_rank
  exact (
  (sOne (sRet (dTup (bCons dStr (bCons (dFn C__law_lot hr (by omega) hg (aCons (dk 0) (aCons (dk 1) aNil))) (bCons (dOp op_addD (dl dInt) (dl (dFn C__law_one hr (by omega) hg (aCons (dk 0) (aCons (dl (df (fLst (bCons dInt (bCons dInt (bCons (dFn C__law_take hr (by omega) hg (aCons (dk 0) (aCons (dk 2) aNil))) bNil)))))) aNil))))) bNil)))))))
theorem sc__law_formula : FnScope ["_law_bag_here", "_law_house_here", "_law_deep", "_law_most", "_law_left", "_law_parts", "_law_turn"] ["_law_bag_here", "_law_house_here", "_law_deep", "_law_most", "_law_left"] (defScope (topS 25)) := ⟨rfl, rfl, rfl, by decide +kernel, rfl, by decide +kernel, by decide +kernel⟩
theorem ok__law_formula (Z : Facts K mg c__law_facts) (C__law_one : CalG P w K mg base 2 "_law_one" false [0] g_one) (C__law_rank : CalG P w K mg base 4 "_law_rank" false [0] g_rank) (C__law_take : CalG P w K mg base 1 "_law_take" false [0] g_take) : ∀ n : Nat, CalG P w K mg base (5 + n) "_law_formula" false [0, 4] (g_formula n)
  | 0 => Z.d__law_formula.cal0
  | n + 1 => by
    have C__law_formula := ok__law_formula Z C__law_one C__law_rank C__law_take n
    refine Z.d__law_formula.cal (k := 5 + n) (m := b_formula (g_formula n)) 2 sc__law_formula rfl rfl fun f cdv A outer s H E hr hg => ?_
    unfold b_formula
    exact (
  (sSq (sAugS 4 (hu_of hr) ipSub dInt dInt)
  (sSq (sIf (qW (wOr (qCmp (op_ltD hr.units) (dk 2) (dl dInt)) (wOr (qCmp (op_ltD hr.units) (dl (dIx (hu_of hr) (dk 4) (dl dInt))) (dl dInt)) (wOr1 (qCmp (op_ltD hr.units) (dl (dFn C__law_take hr (by omega) hg (aCons (dk 0) (aCons (dl dInt) aNil)))) (dl dInt))))))
    (sOne (sRet (dFn C__law_rank hr (by omega) hg (aCons (dk 0) (aCons (dk 1) (aCons (dk 3) aNil))))))
    sNx)
  (sSq (sSetO 5 rfl sc__law_formula.nd (fLst bNil))
  (sSq (sFor rfl PassesOwn.never rfl (iRange1 Z.z_range (dl (dOp op_addD (dl dInt) (dl (dFn C__law_one hr (by omega) hg (aCons (dk 0) (aCons (dl (df (fLst (bCons dInt (bCons dInt (bCons dInt (bCons dInt bNil))))))) aNil))))))) (gN 6 sc__law_formula.nd)
    (sOne (sIf (qCmp (op_gtD hr.units) (dl (dIx (hu_of hr) (dk 4) (dl dInt))) (dl dInt))
    (sOne (sDrop (dMut 5 F.slot_list_append F.type_list_append mt_app (bCons (dFn C__law_formula hr (by omega) hg (aCons (dk 0) (aCons (dk 1) (aCons (dl (dOp op_subD (dk 2) (dl dInt))) (aCons (dk 3) (aCons (dk 4) aNil)))))) bNil))))
    sNx)))
  (sOne (sRet (dTup (bCons dStr (bCons (dFn C__law_one hr (by omega) hg (aCons (dk 0) (aCons (dl (df (fLst (bCons dInt (bCons (dB cr_len Z.z_len (aCons (dk 5) aNil)) (bCons (dOp op_addD (dl dInt) (dl (dFn C__law_take hr (by omega) hg (aCons (dk 0) (aCons (dl (dB cr_len Z.z_len (aCons (dk 5) aNil))) aNil))))) bNil)))))) aNil))) (bCons (dT cr_tuple Z.z_tuple (aCons (dk 5) aNil)) bNil)))))))))))
theorem sc__law_any_formula : FnScope ["_law_bag_here", "_law_house_here"] ["_law_bag_here", "_law_house_here"] (defScope (topS 26)) := ⟨rfl, rfl, rfl, by decide +kernel, rfl, by decide +kernel, by decide +kernel⟩
theorem ok__law_any_formula (Z : Facts K mg c__law_facts) (C__law_formula : CalG P w K mg base 25 "_law_formula" false [0, 4] (g_formula 20)) (C__law_one : CalG P w K mg base 2 "_law_one" false [0] g_one) : CalG P w K mg base 26 "_law_any_formula" false [0] g_any_formula := by
  refine Z.d__law_any_formula.cal (m := b_any_formula) 0 sc__law_any_formula rfl rfl fun f cdv A outer s H E hr hg => ?_
  unfold b_any_formula
  exact (
  (sOne (sRet (dFnT C__law_formula hr (by omega) hg (aTc (dk 0) (aTc (dk 1) (aTc (dl (dFn C__law_one hr (by omega) hg (aCons (dk 0) (aCons (dl (df (fLst (bCons dInt (bCons dInt (bCons dInt (bCons dInt (bCons dInt bNil)))))))) aNil)))) (aTc (dl (dFn C__law_one hr (by omega) hg (aCons (dk 0) (aCons (dl (df (fLst (bCons dInt (bCons dInt (bCons dInt (bCons dInt bNil))))))) aNil)))) (aT1 (fLst (bCons dInt bNil)))))))))))
theorem sc__law_alike : FnScope ["_law_found", "_law_due"] ["_law_found", "_law_due"] (defScope (topS 12)) := ⟨rfl, rfl, rfl, by decide +kernel, rfl, by decide +kernel, by decide +kernel⟩
theorem ok__law_alike (Z : Facts K mg c__law_facts)  : CalG P w K mg base 1 "_law_alike" false [] g_alike := by
  refine Z.d__law_alike.cal (m := b_alike) 0 sc__law_alike rfl rfl fun f cdv A outer s H E hr hg => ?_
  unfold b_alike
  exact (
  (sOne (sRet (dAnd (dBlOf (dCmp (op_eqDD hr.units) (dk 0) (dk 1))) (dAnd1 (dBlOf (dCmp (op_eqDD hr.units) (dl (dB (cr_repr hg hr.units) Z.z_repr (aCons (dk 0) aNil))) (dl (dB (cr_repr hg hr.units) Z.z_repr (aCons (dk 1) aNil))))))))))
theorem sc__law_caps : FnScope ["_law_house_here", "_law_depth_here", "_law_sort_here"] ["_law_house_here", "_law_depth_here"] (defScope (topS 37)) := ⟨rfl, rfl, rfl, by decide +kernel, rfl, by decide +kernel, by decide +kernel⟩
theorem ok__law_caps (Z : Facts K mg c__law_facts)  : CalG P w K mg base 1 "_law_caps" false [] g_l_caps := by
  refine Z.d__law_caps.cal (m := b_l_caps) 1 sc__law_caps rfl rfl fun f cdv A outer s H E hr hg => ?_
  unfold b_l_caps
  exact (
  (sOne (sRet (dT cr_tuple Z.z_tuple (aCons (dl (df (fLC rfl sc__law_caps.nd (vs := [2]) (is := [2]) (own := [((Str.ofString "_law_sort_here"), 2)]) rfl rfl (iIt (dv 0)) (blkOk_by (N := ["_law_house_here", "_law_depth_here", "_law_sort_here"]) (sc := defScope (topS 37)) (by decide +kernel)) (fun _ _ _ _ _ => (gN 2 sc__law_caps.nd)) (fun _ _ _ _ _ => (tNil _)) (fun _ _ _ _ _ => (dIf (qCmp op_isND (dl (dIx (hu_of hr) (dk 2) (dl dInt))) (dl dNon)) (dv 1) (dB (cr_min2 rfl) Z.z_min (aCons (dl (dIx (hu_of hr) (dk 2) (dl dInt))) (aCons (dk 1) aNil)))))))) aNil)))))
theorem sc__law_flat : FnScope ["_law_rows", "_law_found", "_law_row"] ["_law_rows"] (defScope (topS 13)) := ⟨rfl, rfl, rfl, by decide +kernel, rfl, by decide +kernel, by decide +kernel⟩
theorem ok__law_flat (Z : Facts K mg c__law_facts)  : CalG P w K mg base 1 "_law_flat" false [] g_flat := by
  refine Z.d__law_flat.cal (m := b_flat) 2 sc__law_flat rfl rfl fun f cdv A outer s H E hr hg => ?_
  unfold b_flat
  exact (
  (sSq (sSetO 1 rfl sc__law_flat.nd (fLst bNil))
  (sSq (sFor rfl PassesOwn.never rfl (iIt (dv 0)) (gN 2 sc__law_flat.nd)
    (sOne (sDrop (dMut 1 F.slot_list_extend F.type_list_extend mt_ext (bCons (dv 2) bNil)))))
  (sOne (sRel 1 (sRet (dv 1)))))))
theorem sc__law_ranks : FnScope ["_law_formula_here", "_law_part"] ["_law_formula_here"] (defScope (topS 29)) := ⟨rfl, rfl, rfl, by decide +kernel, rfl, by decide +kernel, by decide +kernel⟩
theorem ok__law_ranks (Z : Facts K mg c__law_facts) (C__law_flat : CalG P w K mg base 1 "_law_flat" false [] g_flat) : ∀ n : Nat, CalG P w K mg base (2 + n) "_law_ranks" false [] (g_l_ranks n)
  | 0 => Z.d__law_ranks.cal0
  | n + 1 => by
    have C__law_ranks := ok__law_ranks Z C__law_flat n
    refine Z.d__law_ranks.cal (k := 2 + n) (m := b_l_ranks (g_l_ranks n)) 1 sc__law_ranks rfl rfl fun f cdv A outer s H E hr hg => ?_
    unfold b_l_ranks
    exact (
  (sSq (sIf (qCmp (op_eqDD hr.units) (dl (dIx (hu_of hr) (dk 0) (dl dInt))) (dl dStr))
    (sOne (sRet (df (fLst (bCons (dIx (hu_of hr) (dk 0) (dl dInt)) bNil)))))
    sNx)
  (sOne (sRet (dFn C__law_flat hr (by omega) hg (aCons (dl (df (fLC rfl sc__law_ranks.nd (vs := [1]) (is := [1]) (own := [((Str.ofString "_law_part"), 1)]) rfl rfl (iIt (dIx (hu_of hr) (dk 0) (dl dInt))) (blkOk_by (N := ["_law_formula_here", "_law_part"]) (sc := defScope (topS 29)) (by decide +kernel)) (fun _ _ _ _ _ => (gN 1 sc__law_ranks.nd)) (fun _ _ _ _ _ => (tNil _)) (fun _ _ _ _ _ => (dFn C__law_ranks hr (by omega) hg (aCons (dk 1) aNil)))))) aNil))))))
theorem sc__law_depth : FnScope ["_law_formulas", "_law_answers", "_law_found", "_law_formula_here", "_law_answer_here"] ["_law_formulas", "_law_answers"] (defScope (topS 36)) := ⟨rfl, rfl, rfl, by decide +kernel, rfl, by decide +kernel, by decide +kernel⟩
theorem ok__law_depth (Z : Facts K mg c__law_facts) (C__law_flat : CalG P w K mg base 1 "_law_flat" false [] g_flat) (C__law_ranks : CalG P w K mg base 22 "_law_ranks" false [] (g_l_ranks 20)) : CalG P w K mg base 23 "_law_depth" false [] g_l_depth := by
  refine Z.d__law_depth.cal (m := b_l_depth) 3 sc__law_depth rfl rfl fun f cdv A outer s H E hr hg => ?_
  unfold b_l_depth
  exact (
  (sSq (sSetO 2 rfl sc__law_depth.nd (fOp op_addL (dl (df (fLst (bCons dInt bNil)))) (dl (dFn C__law_flat hr (by omega) hg (aCons (dl (df (fLC rfl sc__law_depth.nd (vs := [3]) (is := [3]) (own := [((Str.ofString "_law_formula_here"), 3)]) rfl rfl (iIt (dv 0)) (blkOk_by (N := ["_law_formulas", "_law_answers", "_law_found", "_law_formula_here", "_law_answer_here"]) (sc := defScope (topS 36)) (by decide +kernel)) (fun _ _ _ _ _ => (gN 3 sc__law_depth.nd)) (fun _ _ _ _ _ => (tNil _)) (fun _ _ _ _ _ => (dFn C__law_ranks hr (by omega) hg (aCons (dk 3) aNil)))))) aNil)))))
  (sSq (sFor rfl PassesOwn.never rfl (iIt (dv 1)) (gN 4 sc__law_depth.nd)
    (sOne (sDrop (dMut 2 F.slot_list_extend F.type_list_extend mt_ext (bCons (dIf (qCmp (op_eqDD hr.units) (dl (dIx (hu_of hr) (dk 4) (dl dInt))) (dl dStr)) (df (fLst (bCons (dOp op_addD (dl (dIx (hu_of hr) (dk 4) (dl dInt))) (dl dInt)) bNil))) (dFn C__law_ranks hr (by omega) hg (aCons (dl (dIx (hu_of hr) (dk 4) (dl dInt))) aNil))) bNil)))))
  (sOne (sRet (dB (cr_maxLD rfl) Z.z_max (aCons (dk 2) aNil)))))))
theorem sc_caps_of : FnScope ["house", "depth", "name", "least", "most"] ["house", "depth"] (defScope (topS 6)) := ⟨rfl, rfl, rfl, by decide +kernel, rfl, by decide +kernel, by decide +kernel⟩
theorem ok_caps_of (Z : Facts K mg c__law_facts)  : CalG P w K mg base 1 "caps_of" false [] g_caps_of := by
  refine Z.d_caps_of.cal (m := b_caps_of) 3 sc_caps_of rfl rfl fun f cdv A outer s H E hr hg => ?_
  unfold b_caps_of
  exact (
  (sOne (sRet (dT cr_tuple Z.z_tuple (aCons (dl (df (fLC rfl sc_caps_of.nd (vs := [2, 3, 4]) (is := [2, 3, 4]) (own := [((Str.ofString "name"), 2), ((Str.ofString "least"), 3), ((Str.ofString "most"), 4)]) rfl rfl (iIt (dv 0)) (blkOk_by (N := ["house", "depth", "name", "least", "most"]) (sc := defScope (topS 6)) (by decide +kernel)) (fun _ _ _ _ _ => (gT rfl (gsCons 2 sc_caps_of.nd (gsCons 3 sc_caps_of.nd (gsCons 4 sc_caps_of.nd gsNil))))) (fun _ _ _ _ _ => (tNil _)) (fun _ _ _ _ _ => (dIf (qCmp op_isND (dk 4) (dl dNon)) (dv 1) (dB (cr_min2 rfl) Z.z_min (aCons (dk 4) (aCons (dk 1) aNil)))))))) aNil)))))
theorem sc_rank_depth : FnScope ["formula", "part"] ["formula"] (defScope (topS 1)) := ⟨rfl, rfl, rfl, by decide +kernel, rfl, by decide +kernel, by decide +kernel⟩
theorem ok_rank_depth (Z : Facts K mg c__law_facts)  : ∀ n : Nat, CalG P w K mg base (1 + n) "rank_depth" false [] (g_rank_depth n)
  | 0 => Z.d_rank_depth.cal0
  | n + 1 => by
    have C_rank_depth := ok_rank_depth Z  n
    refine Z.d_rank_depth.cal (k := 1 + n) (m := b_rank_depth (g_rank_depth n)) 1 sc_rank_depth rfl rfl fun f cdv A outer s H E hr hg => ?_
    unfold b_rank_depth
    exact (
  (sSq (sIf (qCmp (op_eqDD hr.units) (dl (dIx (hu_of hr) (dk 0) (dl dInt))) (dl dStr))
    (sOne (sRet (dIx (hu_of hr) (dk 0) (dl dInt))))
    sNx)
  (sOne (sRet (dB (cr_maxLD rfl) Z.z_max (aCons (dl (df (fLC rfl sc_rank_depth.nd (vs := [1]) (is := [1]) (own := [((Str.ofString "part"), 1)]) rfl rfl (iIt (dIx (hu_of hr) (dk 0) (dl dInt))) (blkOk_by (N := ["formula", "part"]) (sc := defScope (topS 1)) (by decide +kernel)) (fun _ _ _ _ _ => (gN 1 sc_rank_depth.nd)) (fun _ _ _ _ _ => (tNil _)) (fun _ _ _ _ _ => (dFn C_rank_depth hr (by omega) hg (aCons (dk 1) aNil)))))) aNil))))))
theorem sc_depth_of : FnScope ["formulas", "answers", "found", "formula", "answer"] ["formulas", "answers"] (defScope (topS 5)) := ⟨rfl, rfl, rfl, by decide +kernel, rfl, by decide +kernel, by decide +kernel⟩
theorem ok_depth_of (Z : Facts K mg c__law_facts) (C_rank_depth : CalG P w K mg base 21 "rank_depth" false [] (g_rank_depth 20)) : CalG P w K mg base 22 "depth_of" false [] g_depth_of := by
  refine Z.d_depth_of.cal (m := b_depth_of) 3 sc_depth_of rfl rfl fun f cdv A outer s H E hr hg => ?_
  unfold b_depth_of
  exact (
  (sSq (sSetO 2 rfl sc_depth_of.nd (fLstS (bsCons dInt (bsStar (df (fLC rfl sc_depth_of.nd (vs := [3]) (is := [3]) (own := [((Str.ofString "formula"), 3)]) rfl rfl (iIt (dv 0)) (blkOk_by (N := ["formulas", "answers", "found", "formula", "answer"]) (sc := defScope (topS 5)) (by decide +kernel)) (fun _ _ _ _ _ => (gN 3 sc_depth_of.nd)) (fun _ _ _ _ _ => (tNil _)) (fun _ _ _ _ _ => (dFn C_rank_depth hr (by omega) hg (aCons (dk 3) aNil))))) bsNil))))
  (sSq (sFor rfl PassesOwn.never rfl (iIt (dv 1)) (gN 4 sc_depth_of.nd)
    (sOne (sDrop (dMut 2 F.slot_list_append F.type_list_append mt_app (bCons (dIf (qCmp (op_eqDD hr.units) (dl (dIx (hu_of hr) (dk 4) (dl dInt))) (dl dStr)) (dOp op_addD (dl (dIx (hu_of hr) (dk 4) (dl dInt))) (dl dInt)) (dFn C_rank_depth hr (by omega) hg (aCons (dl (dIx (hu_of hr) (dk 4) (dl dInt))) aNil))) bNil)))))
  (sOne (sRet (dB (cr_maxLD rfl) Z.z_max (aCons (dk 2) aNil)))))))
theorem sc__law_are_caps_right : FnScope ["_law_bag_here", "_law_house_here", "_law_formulas", "_law_answers", "_law_due", "_law_depth_here"] ["_law_bag_here", "_law_house_here", "_law_formulas", "_law_answers"] (defScope (topS 45)) := ⟨rfl, rfl, rfl, by decide +kernel, rfl, by decide +kernel, by decide +kernel⟩
theorem ok__law_are_caps_right (Z : Facts K mg c__law_facts) (C__law_alike : CalG P w K mg base 1 "_law_alike" false [] g_alike) (C__law_caps : CalG P w K mg base 1 "_law_caps" false [] g_l_caps) (C__law_depth : CalG P w K mg base 23 "_law_depth" false [] g_l_depth) (C__law_take : CalG P w K mg base 1 "_law_take" false [0] g_take) (C_caps_of : CalG P w K mg base 1 "caps_of" false [] g_caps_of) (C_depth_of : CalG P w K mg base 22 "depth_of" false [] g_depth_of) : CalG P w K mg base 24 "_law_are_caps_right" false [0] g_l_caps_right := by
  refine Z.d__law_are_caps_right.cal (m := b_l_caps_right) 2 sc__law_are_caps_right rfl rfl fun f cdv A outer s H E hr hg => ?_
  unfold b_l_caps_right
  exact (
  (sSq (sSet 4 rfl sc__law_are_caps_right.nd (dFn C__law_depth hr (by omega) hg (aCons (dk 2) (aCons (dk 3) aNil))))
  (sSq (sIf (qNot (qVal (dFn C__law_alike hr (by omega) hg (aCons (dl (dFn C_depth_of hr (by omega) hg (aCons (dl (dT cr_tuple Z.z_tuple (aCons (dk 2) aNil))) (aCons (dk 3) aNil)))) (aCons (dk 4) aNil)))))
    (sOne (sRet dBl))
    sNx)
  (sSq (sFor rfl PassesOwn.never rfl (iIt (df (fLst (bCons (dv 4) (bCons dInt (bCons (dOp op_addD (dl dInt) (dl (dFn C__law_take hr (by omega) hg (aCons (dk 0) (aCons (dl dInt) aNil))))) (bCons dInt (bCons dInt bNil)))))))) (gN 5 sc__law_are_caps_right.nd)
    (sOne (sIf (qNot (qVal (dFn C__law_alike hr (by omega) hg (aCons (dl (dFn C_caps_of hr (by omega) hg (aCons (dk 1) (aCons (dk 5) aNil)))) (aCons (dl (dFn C__law_caps hr (by omega) hg (aCons (dk 1) (aCons (dk 5) aNil)))) aNil)))))
    (sOne (sRet dBl))
    sNx)))
  (sOne (sRet dBl))))))
theorem sc__law_level : FnScope ["_law_rungs_here", "_law_number", "_law_rung"] ["_law_rungs_here", "_law_number"] (defScope (topS 41)) := ⟨rfl, rfl, rfl, by decide +kernel, rfl, by decide +kernel, by decide +kernel⟩
theorem ok__law_level (Z : Facts K mg c__law_facts)  : CalG P w K mg base 1 "_law_level" false [] g_level_of := by
  refine Z.d__law_level.cal (m := b_level_of) 1 sc__law_level rfl rfl fun f cdv A outer s H E hr hg => ?_
  unfold b_level_of
  exact (
  (sOne (sRet (dB cr_len Z.z_len (aCons (dl (df (fLC rfl sc__law_level.nd (vs := [2]) (is := [2]) (own := [((Str.ofString "_law_rung"), 2)]) rfl rfl (iIt (dv 0)) (blkOk_by (N := ["_law_rungs_here", "_law_number", "_law_rung"]) (sc := defScope (topS 41)) (by decide +kernel)) (fun _ _ _ _ _ => (gN 2 sc__law_level.nd)) (fun _ _ _ _ _ => (pts_one (qCmp (op_ltD hr.units) (dk 2) (dk 1)))) (fun _ _ _ _ _ => (dv 2))))) aNil)))))
theorem sc__law_near : FnScope ["_law_numbers_here", "_law_near_here", "_law_number"] ["_law_numbers_here"] (defScope (topS 39)) := ⟨rfl, rfl, rfl, by decide +kernel, rfl, by decide +kernel, by decide +kernel⟩
theorem ok__law_near (Z : Facts K mg c__law_facts)  : CalG P w K mg base 1 "_law_near" false [] g_l_near := by
  refine Z.d__law_near.cal (m := b_l_near) 2 sc__law_near rfl rfl fun f cdv A outer s H E hr hg => ?_
  unfold b_l_near
  exact (
  (sSq (sSet 1 rfl sc__law_near.nd (df (fOp op_addL (dl (df (fOp op_addL (dl (df (fOp op_addL (dk 0) (dl (df (fLC rfl sc__law_near.nd (vs := [2]) (is := [2]) (own := [((Str.ofString "_law_number"), 2)]) rfl rfl (iIt (dv 0)) (blkOk_by (N := ["_law_numbers_here", "_law_near_here", "_law_number"]) (sc := defScope (topS 39)) (by decide +kernel)) (fun _ _ _ _ _ => (gN 2 sc__law_near.nd)) (fun _ _ _ _ _ => (tNil _)) (fun _ _ _ _ _ => (dOp op_addD (dk 2) (dl dInt))))))))) (dl (df (fLC rfl sc__law_near.nd (vs := [2]) (is := [2]) (own := [((Str.ofString "_law_number"), 2)]) rfl rfl (iIt (dv 0)) (blkOk_by (N := ["_law_numbers_here", "_law_near_here", "_law_number"]) (sc := defScope (topS 39)) (by decide +kernel)) (fun _ _ _ _ _ => (gN 2 sc__law_near.nd)) (fun _ _ _ _ _ => (tNil _)) (fun _ _ _ _ _ => (dOp op_subD (dk 2) (dl dInt))))))))) (dl (df (fLst (bCons dInt bNil)))))))
  (sOne (sRet (df (fLC rfl sc__law_near.nd (vs := [2]) (is := [2]) (own := [((Str.ofString "_law_number"), 2)]) rfl rfl (iIt (df (fSortSet rfl hr.units Z.z_sorted Z.z_set (dk 1)))) (blkOk_by (N := ["_law_numbers_here", "_law_near_here", "_law_number"]) (sc := defScope (topS 39)) (by decide +kernel)) (fun _ _ _ _ _ => (gN 2 sc__law_near.nd)) (fun _ _ _ _ _ => (pts_one (qCmp (op_leD hr.units) (dl (dB cr_abs Z.z_abs (aCons (dk 2) aNil))) (dl (dOp op_powD (dl dInt) (dl dInt)))))) (fun _ _ _ _ _ => (dv 2))))))))
theorem sc__law_rungs : FnScope ["_law_answers", "_law_found", "_law_answer_here", "_law_one_here"] ["_law_answers"] (defScope (topS 38)) := ⟨rfl, rfl, rfl, by decide +kernel, rfl, by decide +kernel, by decide +kernel⟩
theorem ok__law_rungs (Z : Facts K mg c__law_facts)  : CalG P w K mg base 1 "_law_rungs" false [] g_l_rungs := by
  refine Z.d__law_rungs.cal (m := b_l_rungs) 3 sc__law_rungs rfl rfl fun f cdv A outer s H E hr hg => ?_
  unfold b_l_rungs
  exact (
  (sSq (sSetOLc 1 rfl rfl sc__law_rungs.nd (vs := [2]) (is := [2]) (own := [((Str.ofString "_law_answer_here"), 2)]) rfl rfl (iIt (dv 0)) (blkOk_by (N := ["_law_answers", "_law_found", "_law_answer_here", "_law_one_here"]) (sc := defScope (topS 38)) (by decide +kernel)) (fun _ _ _ _ _ => (gN 2 sc__law_rungs.nd)) (fun _ _ _ _ _ => (pts_one (qW (wAnd (qCmp (op_eqDD hr.units) (dl (dIx (hu_of hr) (dk 2) (dl dInt))) (dl dStr)) (wAnd1 (qCmp op_notND (dl (dIx (hu_of hr) (dk 2) (dl dInt))) (dl dNon))))))) (fun _ _ _ _ _ => (dIx (hu_of hr) (dk 2) (dl dInt))))
  (sSq (sFor rfl PassesOwn.never rfl (iIt (df (fLC rfl sc__law_rungs.nd (vs := [3]) (is := [3]) (own := [((Str.ofString "_law_one_here"), 3)]) rfl rfl (iIt (dv 0)) (blkOk_by (N := ["_law_answers", "_law_found", "_law_answer_here", "_law_one_here"]) (sc := defScope (topS 38)) (by decide +kernel)) (fun _ _ _ _ _ => (gN 3 sc__law_rungs.nd)) (fun _ _ _ _ _ => (pts_one (qCmp (op_eqDD hr.units) (dl (dIx (hu_of hr) (dk 3) (dl dInt))) (dl dStr)))) (fun _ _ _ _ _ => (dv 3))))) (gN 2 sc__law_rungs.nd)
    (sOne (sDrop (dMut 1 F.slot_list_extend F.type_list_extend mt_ext (bCons (df (fLst (bCons (dOp op_subD (dl (dIx (hu_of hr) (dk 2) (dl dInt))) (dl dInt)) (bCons (dIx (hu_of hr) (dk 2) (dl dInt)) bNil)))) bNil)))))
  (sOne (sRet (df (fSortSet rfl hr.units Z.z_sorted Z.z_set (dk 1))))))))
theorem sc_level_of : FnScope ["rungs", "number", "rung"] ["rungs", "number"] (defScope (topS 4)) := ⟨rfl, rfl, rfl, by decide +kernel, rfl, by decide +kernel, by decide +kernel⟩
theorem ok_level_of (Z : Facts K mg c__law_facts)  : CalG P w K mg base 1 "level_of" false [] g_level_of := by
  refine Z.d_level_of.cal (m := b_level_of) 1 sc_level_of rfl rfl fun f cdv A outer s H E hr hg => ?_
  unfold b_level_of
  exact (
  (sOne (sRet (dB cr_len Z.z_len (aCons (dl (df (fLC rfl sc_level_of.nd (vs := [2]) (is := [2]) (own := [((Str.ofString "rung"), 2)]) rfl rfl (iIt (dv 0)) (blkOk_by (N := ["rungs", "number", "rung"]) (sc := defScope (topS 4)) (by decide +kernel)) (fun _ _ _ _ _ => (gN 2 sc_level_of.nd)) (fun _ _ _ _ _ => (pts_one (qCmp (op_ltD hr.units) (dk 2) (dk 1)))) (fun _ _ _ _ _ => (dv 2))))) aNil)))))
theorem sc_rungs_of : FnScope ["answers", "found", "answer"] ["answers"] (defScope (topS 3)) := ⟨rfl, rfl, rfl, by decide +kernel, rfl, by decide +kernel, by decide +kernel⟩
theorem ok_rungs_of (Z : Facts K mg c__law_facts) (pw : Tb.pw = some (P, w))  : CalG P w K mg base 1 "rungs_of" true [] g_rungs_own := by
  refine Z.d_rungs_of.cal (m := b_rungs_own) 2 sc_rungs_of rfl rfl fun f cdv A outer s H E hr hg => ?_
  unfold b_rungs_own
  exact (
  (sSq (sSetI0 1 rfl sc_rungs_of.nd pw Z.z_set)
  (sSq (sFor rfl PassesOwn.never rfl (iIt (dv 0)) (gN 2 sc_rungs_of.nd)
    (sOne (sIf (qCmp (op_eqDD hr.units) (dl (dIx (hu_of hr) (dk 2) (dl dInt))) (dl dStr))
    (sSq (sDrop (dAddI 1 pw (dIx (hu_of hr) (dk 2) (dl dInt))))
  (sOne (sDrop (dAddI 1 pw (dOp op_subD (dl (dIx (hu_of hr) (dk 2) (dl dInt))) (dl dInt))))))
    (sOne (sIf (qCmp op_notND (dl (dIx (hu_of hr) (dk 2) (dl dInt))) (dl dNon))
    (sOne (sDrop (dAddI 1 pw (dIx (hu_of hr) (dk 2) (dl dInt)))))
    sNx)))))
  (sOne (sRetF (fSortI 1 rfl pw Z.z_sorted))))))
theorem sc__law_are_levels_right : FnScope ["_law_answers", "_law_due", "_law_again", "_law_found", "_law_number"] ["_law_answers"] (defScope (topS 44)) := ⟨rfl, rfl, rfl, by decide +kernel, rfl, by decide +kernel, by decide +kernel⟩
theorem ok__law_are_levels_right (Z : Facts K mg c__law_facts) (C__law_alike : CalG P w K mg base 1 "_law_alike" false [] g_alike) (C__law_level : CalG P w K mg base 1 "_law_level" false [] g_level_of) (C__law_near : CalG P w K mg base 1 "_law_near" false [] g_l_near) (C__law_rungs : CalG P w K mg base 1 "_law_rungs" false [] g_l_rungs) (C_level_of : CalG P w K mg base 1 "level_of" false [] g_level_of) (C_rungs_of : CalG P w K mg base 1 "rungs_of" true [] g_rungs_own) : CalG P w K mg base 2 "_law_are_levels_right" false [] g_l_levels_right := by
  refine Z.d__law_are_levels_right.cal (m := b_l_levels_right) 4 sc__law_are_levels_right rfl rfl fun f cdv A outer s H E hr hg => ?_
  unfold b_l_levels_right
  exact (
  (sSq (sSet 1 rfl sc__law_are_levels_right.nd (dFn C__law_rungs hr (by omega) hg (aCons (dk 0) aNil)))
  (sSq (sFor rfl PassesOwn.never rfl (iRange1 Z.z_range (dl dInt)) (gN 2 sc__law_are_levels_right.nd)
    (sSq (sSetO 3 rfl sc__law_are_levels_right.nd (fFn C_rungs_of hr (by omega) hg (aCons (dk 0) aNil)))
  (sSq (sIf (qTmp 3 (qNot (qVal (dFn C__law_alike hr (by omega) hg (aCons (dk 3) (aCons (dk 1) aNil))))))
    (sOne (sRet dBl))
    sNx)
  (sSq (sDrop (dMut 3 F.slot_list_append F.type_list_append mt_app (bCons dInt bNil)))
  (sOne (sDrop (dMut0 3 F.slot_list_reverse F.type_list_reverse mt_rev)))))))
  (sSq (sFor rfl PassesOwn.never rfl (iIt (dFn C__law_near hr (by omega) hg (aCons (dl (df (fOp op_addL (dk 1) (dl (df (fLst (bCons (dOp op_powD (dl dInt) (dl dInt)) (bCons (dNeg (dl (dOp op_powD (dl dInt) (dl dInt)))) bNil)))))))) aNil))) (gN 4 sc__law_are_levels_right.nd)
    (sOne (sIf (qNot (qVal (dFn C__law_alike hr (by omega) hg (aCons (dl (dFn C_level_of hr (by omega) hg (aCons (dl (df (fT (cr_list rfl) Z.z_list (aCons (dk 1) aNil)))) (aCons (dk 4) aNil)))) (aCons (dl (dFn C__law_level hr (by omega) hg (aCons (dk 1) (aCons (dk 4) aNil)))) aNil)))))
    (sOne (sRet dBl))
    sNx)))
  (sOne (sRet dBl))))))
theorem sc__law_bag : FnScope ["_law_script", "_law_cell"] ["_law_script"] (defScope (topS 8)) := ⟨rfl, rfl, rfl, by decide +kernel, rfl, by decide +kernel, by decide +kernel⟩
theorem ok__law_bag (Z : Facts K mg c__law_facts) : BagG P w K mg base 1 "_law_bag" :=
  Z.d__law_bag.bag sc__law_bag rfl rfl fun f cdv A outer s H E => pss_one (ps_ret (pe_lst (pa_cons pe_int (pa_cons pe_int (pa_cons pe_int (pa_cons (pe_lc (own := [((Str.ofString "_law_cell"), 1)]) rfl sc__law_bag.nd (pi_list (pe_slice sl_list (pv 0) po_none (po_some pe_int))) (blkOk_by (N := ["_law_script", "_law_cell"]) (sc := defScope (topS 8)) (by decide +kernel)) (fun _ _ _ _ _ => gN 1 sc__law_bag.nd) (fun _ _ _ _ _ => tNil _) (fun _ _ _ _ _ => dB cr_abs Z.z_abs (aCons (dk 1) aNil))) pa_nil))))))
theorem sc__law_count : FnScope ["_law_table_here", "_law_lot_here", "_law_number", "_law_row", "_law_name"] ["_law_table_here", "_law_lot_here", "_law_number"] (defScope (topS 30)) := ⟨rfl, rfl, rfl, by decide +kernel, rfl, by decide +kernel, by decide +kernel⟩
theorem ok__law_count (Z : Facts K mg c__law_facts) (C__law_flat : CalG P w K mg base 1 "_law_flat" false [] g_flat) : CalG P w K mg base 2 "_law_count" false [] g_lcount := by
  refine Z.d__law_count.cal (m := b_lcount) 2 sc__law_count rfl rfl fun f cdv A outer s H E hr hg => ?_
  unfold b_lcount
  exact (
  (sOne (sRet (dB cr_len Z.z_len (aCons (dl (df (fLC rfl sc__law_count.nd (vs := [3]) (is := [3]) (own := [((Str.ofString "_law_row"), 3)]) rfl rfl (iIt (dFn C__law_flat hr (by omega) hg (aCons (dl (df (fLC rfl sc__law_count.nd (vs := [4]) (is := [4]) (own := [((Str.ofString "_law_name"), 4)]) rfl rfl (iIt (dv 1)) (blkOk_by (N := ["_law_table_here", "_law_lot_here", "_law_number", "_law_row", "_law_name"]) (sc := defScope (topS 30)) (by decide +kernel)) (fun _ _ _ _ _ => (gN 4 sc__law_count.nd)) (fun _ _ _ _ _ => (tNil _)) (fun _ _ _ _ _ => (df (fT (cr_list rfl) Z.z_list (aCons (dl (dIx (hu_of hr) (dk 0) (dk 4))) aNil))))))) aNil))) (blkOk_by (N := ["_law_table_here", "_law_lot_here", "_law_number", "_law_row", "_law_name"]) (sc := defScope (topS 30)) (by decide +kernel)) (fun _ _ _ _ _ => (gN 3 sc__law_count.nd)) (fun _ _ _ _ _ => (pts_one (qCmp (op_geD hr.units) (dk 3) (dk 2)))) (fun _ _ _ _ _ => (dv 3))))) aNil)))))
theorem sc__law_known : FnScope ["_law_table_here", "_law_name"] ["_law_table_here"] (defScope (topS 22)) := ⟨rfl, rfl, rfl, by decide +kernel, rfl, by decide +kernel, by decide +kernel⟩
theorem ok__law_known (Z : Facts K mg c__law_facts) (C__law_flat : CalG P w K mg base 1 "_law_flat" false [] g_flat) : CalG P w K mg base 2 "_law_known" false [] g_lknown := by
  refine Z.d__law_known.cal (m := b_lknown) 1 sc__law_known rfl rfl fun f cdv A outer s H E hr hg => ?_
  unfold b_lknown
  exact (
  (sOne (sRet (df (fSortSet rfl hr.units Z.z_sorted Z.z_set (dl (dFn C__law_flat hr (by omega) hg (aCons (dl (df (fLC rfl sc__law_known.nd (vs := [1]) (is := [1]) (own := [((Str.ofString "_law_name"), 1)]) rfl rfl (iIt (dv 0)) (blkOk_by (N := ["_law_table_here", "_law_name"]) (sc := defScope (topS 22)) (by decide +kernel)) (fun _ _ _ _ _ => (gN 1 sc__law_known.nd)) (fun _ _ _ _ _ => (tNil _)) (fun _ _ _ _ _ => (df (fT (cr_list rfl) Z.z_list (aCons (dl (dIx (hu_of hr) (dk 0) (dk 1))) aNil))))))) aNil))))))))
theorem sc__law_key : FnScope ["_law_value_here"] ["_law_value_here"] (defScope (topS 27)) := ⟨rfl, rfl, rfl, by decide +kernel, rfl, by decide +kernel, by decide +kernel⟩
theorem ok__law_key (Z : Facts K mg c__law_facts)  : CalG P w K mg base 1 "_law_key" false [] g_key := by
  refine Z.d__law_key.cal (m := b_key) 0 sc__law_key rfl rfl fun f cdv A outer s H E hr hg => ?_
  unfold b_key
  exact (
  (sOne (sRet (dIf (qCmp op_isND (dk 0) (dl dNon)) (dTup (bCons dInt (bCons dInt bNil))) (dTup (bCons dInt (bCons (dv 0) bNil)))))))
theorem sc__law_value : FnScope ["_law_table_here", "_law_formula_here", "_law_rows", "_law_name", "_law_keys", "_law_part", "_law_key_here"] ["_law_table_here", "_law_formula_here"] (defScope (topS 28)) := ⟨rfl, rfl, rfl, by decide +kernel, rfl, by decide +kernel, by decide +kernel⟩
theorem ok__law_value (Z : Facts K mg c__law_facts) (C__law_flat : CalG P w K mg base 1 "_law_flat" false [] g_flat) (C__law_key : CalG P w K mg base 1 "_law_key" false [] g_key) : ∀ n : Nat, CalG P w K mg base (2 + n) "_law_value" false [] (g_lvalue n)
  | 0 => Z.d__law_value.cal0
  | n + 1 => by
    have C__law_value := ok__law_value Z C__law_flat C__law_key n
    refine Z.d__law_value.cal (k := 2 + n) (m := b_lvalue (g_lvalue n)) 5 sc__law_value rfl rfl fun f cdv A outer s H E hr hg => ?_
    unfold b_lvalue
    exact (
  (sSq (sIf (qCmp (op_eqDD hr.units) (dl (dIx (hu_of hr) (dk 1) (dl dInt))) (dl dStr))
    (sSq (sSet 2 rfl sc__law_value.nd (df (fB (cr_sorted' rfl hr.units) Z.z_sorted (aCons (dl (dFn C__law_flat hr (by omega) hg (aCons (dl (df (fLC rfl sc__law_value.nd (vs := [3]) (is := [3]) (own := [((Str.ofString "_law_name"), 3)]) rfl rfl (iIt (dIx (hu_of hr) (dk 1) (dl dInt))) (blkOk_by (N := ["_law_table_here", "_law_formula_here", "_law_rows", "_law_name", "_law_keys", "_law_part", "_law_key_here"]) (sc := defScope (topS 28)) (by decide +kernel)) (fun _ _ _ _ _ => (gN 3 sc__law_value.nd)) (fun _ _ _ _ _ => (tNil _)) (fun _ _ _ _ _ => (df (fT (cr_list rfl) Z.z_list (aCons (dl (dIx (hu_of hr) (dk 0) (dk 3))) aNil))))))) aNil))) aNil))))
  (sOne (sRet (dIf (qCmp (op_geD hr.units) (dl (dB cr_len Z.z_len (aCons (dk 2) aNil))) (dl (dIx (hu_of hr) (dk 1) (dl dInt)))) (dIx (hu_of hr) (dk 2) (dl (dOp op_subD (dl (dB cr_len Z.z_len (aCons (dk 2) aNil))) (dl (dIx (hu_of hr) (dk 1) (dl dInt)))))) dNon))))
    sNx)
  (sSq (sSet 4 rfl sc__law_value.nd (df (fB (cr_sorted' rfl hr.units) Z.z_sorted (aCons (dl (df (fLC rfl sc__law_value.nd (vs := [5]) (is := [5]) (own := [((Str.ofString "_law_part"), 5)]) rfl rfl (iIt (dIx (hu_of hr) (dk 1) (dl dInt))) (blkOk_by (N := ["_law_table_here", "_law_formula_here", "_law_rows", "_law_name", "_law_keys", "_law_part", "_law_key_here"]) (sc := defScope (topS 28)) (by decide +kernel)) (fun _ _ _ _ _ => (gN 5 sc__law_value.nd)) (fun _ _ _ _ _ => (tNil _)) (fun _ _ _ _ _ => (dFn C__law_key hr (by omega) hg (aCons (dl (dFn C__law_value hr (by omega) hg (aCons (dk 0) (aCons (dk 5) aNil)))) aNil)))))) aNil))))
  (sSq (sSet 6 rfl sc__law_value.nd (dIx (hu_of hr) (dk 4) (dl (dOp op_subD (dl (dB cr_len Z.z_len (aCons (dk 4) aNil))) (dl (dIx (hu_of hr) (dk 1) (dl dInt)))))))
  (sOne (sRet (dIf (qCmp (op_eqDD hr.units) (dl (dIx (hu_of hr) (dk 6) (dl dInt))) (dl dInt)) dNon (dIx (hu_of hr) (dk 6) (dl dInt)))))))))
theorem sc__law_answer : FnScope ["_law_bag_here", "_law_house_here", "_law_table_here", "_law_formula_here", "_law_lot_here", "_law_near_here", "_law_number", "_law_many"] ["_law_bag_here", "_law_house_here", "_law_table_here", "_law_formula_here"] (defScope (topS 31)) := ⟨rfl, rfl, rfl, by decide +kernel, rfl, by decide +kernel, by decide +kernel⟩
theorem ok__law_answer (Z : Facts K mg c__law_facts) (C__law_count : CalG P w K mg base 2 "_law_count" false [] g_lcount) (C__law_known : CalG P w K mg base 2 "_law_known" false [] g_lknown) (C__law_lot : CalG P w K mg base 3 "_law_lot" false [0] g_lot) (C__law_one : CalG P w K mg base 2 "_law_one" false [0] g_one) (C__law_take : CalG P w K mg base 1 "_law_take" false [0] g_take) (C__law_value : CalG P w K mg base 22 "_law_value" false [] (g_lvalue 20)) : CalG P w K mg base 23 "_law_answer" false [0] g_l_answer := by
  refine Z.d__law_answer.cal (m := b_l_answer) 4 sc__law_answer rfl rfl fun f cdv A outer s H E hr hg => ?_
  unfold b_l_answer
  exact (
  (sSq (sPar 4 5 rfl rfl sc__law_answer.nd (by decide) (dFn C__law_lot hr (by omega) hg (aCons (dk 0) (aCons (dk 1) aNil))) (df (fOp op_addL (dl (dFn C__law_known hr (by omega) hg (aCons (dk 2) aNil))) (dl (df (fLst (bCons dInt bNil)))))) (hw := by rfl))
  (sSq (sSet 6 rfl sc__law_answer.nd (dB (cr_max2 rfl) Z.z_max (aCons (dl (dOp op_subD (dl dInt) (dl (dOp op_powD (dl dInt) (dl dInt))))) (aCons (dl (dOp op_addD (dl (dFn C__law_one hr (by omega) hg (aCons (dk 0) (aCons (dk 5) aNil)))) (dl (dFn C__law_one hr (by omega) hg (aCons (dk 0) (aCons (dl (df (fLst (bCons dInt (bCons dInt (bCons dInt (bCons (dNeg (dl dInt)) bNil))))))) aNil)))))) aNil))))
  (sSq (sSet 7 rfl sc__law_answer.nd (dFn C__law_count hr (by omega) hg (aCons (dk 2) (aCons (dk 4) (aCons (dk 6) aNil)))))
  (sSq (sIf (qW (wOr (qCmp (op_gtD hr.units) (dl (dFn C__law_take hr (by omega) hg (aCons (dk 0) (aCons (dl dInt) aNil)))) (dl dInt)) (wOr1 (qCmp (op_gtD hr.units) (dk 7) (dl dInt)))))
    (sOne (sRet (dTup (bCons dStr (bCons (dv 3) (bCons (dFn C__law_value hr (by omega) hg (aCons (dk 2) (aCons (dk 3) aNil))) bNil))))))
    sNx)
  (sOne (sRet (dTup (bCons dStr (bCons (dv 4) (bCons (dv 6) (bCons (dv 7) bNil))))))))))))
theorem sc__law_case : FnScope ["_law_bag_here", "_law_house_here", "_law_table_here", "_law_formulas", "_law_facts_here", "_law_formula_here"] ["_law_bag_here", "_law_house_here", "_law_table_here", "_law_formulas", "_law_facts_here"] (defScope (topS 34)) := ⟨rfl, rfl, rfl, by decide +kernel, rfl, by decide +kernel, by decide +kernel⟩
theorem ok__law_case (Z : Facts K mg c__law_facts) (C__law_answer : CalG P w K mg base 23 "_law_answer" false [0] g_l_answer) : CalG P w K mg base 24 "_law_case" false [0] g_l_case := by
  refine Z.d__law_case.cal (m := b_l_case) 1 sc__law_case rfl rfl fun f cdv A outer s H E hr hg => ?_
  unfold b_l_case
  exact (
  (sOne (sRet (dTup (bCons (dv 1) (bCons (dv 4) (bCons (dT cr_tuple Z.z_tuple (aCons (dl (df (fLC rfl sc__law_case.nd (vs := [5]) (is := [5]) (own := [((Str.ofString "_law_formula_here"), 5)]) rfl rfl (iIt (dv 3)) (blkOk_by (N := ["_law_bag_here", "_law_house_here", "_law_table_here", "_law_formulas", "_law_facts_here", "_law_formula_here"]) (sc := defScope (topS 34)) (by decide +kernel)) (fun _ _ _ _ _ => (gN 5 sc__law_case.nd)) (fun _ _ _ _ _ => (tNil _)) (fun _ _ _ _ _ => (dFn C__law_answer hr (by omega) hg (aCons (dk 0) (aCons (dk 1) (aCons (dk 2) (aCons (dk 5) aNil))))))))) aNil)) bNil)))))))
theorem sc__law_facts : FnScope ["_law_bag_here", "_law_house_here", "_law_table_here", "_law_many", "_law_most", "_law_found", "_law_turn", "_law_two", "_law_k", "_law_formula_here"] ["_law_bag_here", "_law_house_here", "_law_table_here", "_law_many", "_law_most"] (defScope (topS 33)) := ⟨rfl, rfl, rfl, by decide +kernel, rfl, by decide +kernel, by decide +kernel⟩
theorem ok__law_facts (Z : Facts K mg c__law_facts) (T__law_facts : Tbs base mg c__law_facts P__law_facts ((envOfC "_law_facts" (defScope (topS 33)) 0 0 .none).qual ++ "<lambda>")) (C__law_formula : CalG P w K mg base 25 "_law_formula" false [0, 4] (g_formula 20)) (C__law_key : CalG P w K mg base 1 "_law_key" false [] g_key) (C__law_value : CalG P w K mg base 22 "_law_value" false [] (g_lvalue 20)) : CalG P w K mg base 29 "_law_facts" false [0] g_l_facts := by
  refine Z.d__law_facts.cal (m := b_l_facts) 5 sc__law_facts rfl rfl fun f A outer s H E hr hg => ?_
  unfold b_l_facts
  exact (
  (sSq (sSetO 5 rfl sc__law_facts.nd (fLst bNil))
  (sSq (sFor rfl PassesOwn.never rfl (iRange1 Z.z_range (dk 3)) (gN 6 sc__law_facts.nd)
    (sSq (sSetLc 7 rfl rfl sc__law_facts.nd (vs := [8]) (is := [8]) (own := [((Str.ofString "_law_k"), 8)]) rfl rfl (iRange1 Z.z_range (dl dInt)) (blkOk_by (N := ["_law_bag_here", "_law_house_here", "_law_table_here", "_law_many", "_law_most", "_law_found", "_law_turn", "_law_two", "_law_k", "_law_formula_here"]) (sc := defScope (topS 33)) (by decide +kernel)) (fun _ _ _ _ _ => (gN 8 sc__law_facts.nd)) (fun _ _ _ _ _ => (tNil _)) (fun _ _ _ _ _ => (dFnT C__law_formula hr (by omega) hg (aTc (dk 0) (aTc (dk 1) (aTc (dl dInt) (aTc (dk 4) (aT1 (fLst (bCons dInt bNil))))))))))
  (sSq (sSet 7 rfl sc__law_facts.nd (df (fSortK (i := 9) hr hg Z.z_sorted T__law_facts rfl (lamS1_by (p := (Str.ofString "_law_formula_here")) (sc := defScope (topS 33)) (by decide +kernel)) sc__law_facts.nd (dv 7) (fun A outer s H f c' hr hg => (dFn C__law_key hr (by omega) hg (aCons (dl (dFn C__law_value hr (by omega) hg (aCons (dk 2) (aCons (dk 9) aNil)))) aNil))))))
  (sOne (sDrop (dMut 5 F.slot_list_append F.type_list_append mt_app (bCons (dT cr_tuple Z.z_tuple (aCons (dk 7) aNil)) bNil)))))))
  (sOne (sRet (dT cr_tuple Z.z_tuple (aCons (dk 5) aNil)))))))
theorem sc__law_names : FnScope ["_law_bag_here", "_law_many", "_law_menu"] ["_law_bag_here", "_law_many"] (defScope (topS 14)) := ⟨rfl, rfl, rfl, by decide +kernel, rfl, by decide +kernel, by decide +kernel⟩
theorem ok__law_names (Z : Facts K mg c__law_facts) (C__law_mixed : CalG P w K mg base 2 "_law_mixed" false [0] g_mixed) : CalG P w K mg base 3 "_law_names" false [0] g_names1 := by
  refine Z.d__law_names.cal (m := b_names1) 1 sc__law_names rfl rfl fun f cdv A outer s H E hr hg => ?_
  unfold b_names1
  exact (
  (sSq (sSet 2 rfl sc__law_names.nd (df (fLst (bCons dStr (bCons dStr (bCons dStr (bCons dStr (bCons dStr (bCons dStr (bCons dStr (bCons dStr (bCons dStr (bCons dStr (bCons dStr (bCons dStr (bCons dStr (bCons dStr (bCons dStr bNil))))))))))))))))))
  (sOne (sRet (dT cr_tuple Z.z_tuple (aCons (dl (df (fB (cr_sorted' rfl hr.units) Z.z_sorted (aCons (dl (dSl (dl (dFn C__law_mixed hr (by omega) hg (aCons (dk 0) (aCons (dk 2) aNil)))) pNone (pSome (dv 1)))) aNil)))) aNil))))))
theorem sc__law_cell_house : FnScope ["_law_bag_here", "_law_most", "_law_name"] ["_law_bag_here", "_law_most"] (defScope (topS 18)) := ⟨rfl, rfl, rfl, by decide +kernel, rfl, by decide +kernel, by decide +kernel⟩
theorem ok__law_cell_house (Z : Facts K mg c__law_facts) (C__law_names : CalG P w K mg base 3 "_law_names" false [0] g_names1) (C__law_take : CalG P w K mg base 1 "_law_take" false [0] g_take) : CalG P w K mg base 4 "_law_cell_house" false [0] g_cell1 := by
  refine Z.d__law_cell_house.cal (m := b_cell1) 1 sc__law_cell_house rfl rfl fun f cdv A outer s H E hr hg => ?_
  unfold b_cell1
  exact (
  (sOne (sRet (dT cr_tuple Z.z_tuple (aCons (dl (df (fLC rfl sc__law_cell_house.nd (vs := [2]) (is := [2]) (own := [((Str.ofString "_law_name"), 2)]) rfl rfl (iIt (dFn C__law_names hr (by omega) hg (aCons (dk 0) (aCons (dl (dOp op_addD (dl dInt) (dl (dFn C__law_take hr (by omega) hg (aCons (dk 0) (aCons (dk 1) aNil)))))) aNil)))) (blkOk_by (N := ["_law_bag_here", "_law_most", "_law_name"]) (sc := defScope (topS 18)) (by decide +kernel)) (fun _ _ _ _ _ => (gN 2 sc__law_cell_house.nd)) (fun _ _ _ _ _ => (tNil _)) (fun _ _ _ _ _ => (dTup (bCons (dv 2) (bCons dInt (bCons dInt bNil)))))))) aNil)))))
theorem sc__law_numbers : FnScope ["_law_bag_here", "_law_low", "_law_step", "_law_place"] ["_law_bag_here"] (defScope (topS 19)) := ⟨rfl, rfl, rfl, by decide +kernel, rfl, by decide +kernel, by decide +kernel⟩
theorem ok__law_numbers (Z : Facts K mg c__law_facts) (C__law_one : CalG P w K mg base 2 "_law_one" false [0] g_one) (C__law_take : CalG P w K mg base 1 "_law_take" false [0] g_take) : CalG P w K mg base 3 "_law_numbers" false [0] g_numbers := by
  refine Z.d__law_numbers.cal (m := b_numbers) 3 sc__law_numbers rfl rfl fun f cdv A outer s H E hr hg => ?_
  unfold b_numbers
  exact (
  (sSq (sSetB rfl (dTup (bCons (dFn C__law_one hr (by omega) hg (aCons (dk 0) (aCons (dl (df (fLst (bCons dInt (bCons (dNeg (dl dInt)) (bCons dInt (bCons dInt (bCons (dOp op_subD (dl dInt) (dl (dOp op_powD (dl dInt) (dl dInt)))) bNil)))))))) aNil))) (bCons (dFn C__law_one hr (by omega) hg (aCons (dk 0) (aCons (dl (df (fLst (bCons dInt (bCons dInt (bCons dInt (bCons dInt (bCons (dOp op_powD (dl dInt) (dl dInt)) bNil)))))))) aNil))) bNil))) (gT rfl (gsCons 1 sc__law_numbers.nd (gsCons 2 sc__law_numbers.nd gsNil))))
  (sOne (sRet (df (fLC rfl sc__law_numbers.nd (vs := [3]) (is := [3]) (own := [((Str.ofString "_law_place"), 3)]) rfl rfl (iRange1 Z.z_range (dl (dOp op_addD (dl dInt) (dl (dFn C__law_take hr (by omega) hg (aCons (dk 0) (aCons (dl dInt) aNil))))))) (blkOk_by (N := ["_law_bag_here", "_law_low", "_law_step", "_law_place"]) (sc := defScope (topS 19)) (by decide +kernel)) (fun _ _ _ _ _ => (gN 3 sc__law_numbers.nd)) (fun _ _ _ _ _ => (tNil _)) (fun _ _ _ _ _ => (dOp op_addD (dk 1) (dl (dOp op_mulD (dk 2) (dk 3)))))))))))
theorem sc__law_size : FnScope ["_law_bag_here", "_law_sort_here", "_law_more", "_law_top"] ["_law_bag_here", "_law_sort_here", "_law_more"] (defScope (topS 20)) := ⟨rfl, rfl, rfl, by decide +kernel, rfl, by decide +kernel, by decide +kernel⟩
theorem ok__law_size (Z : Facts K mg c__law_facts) (C__law_take : CalG P w K mg base 1 "_law_take" false [0] g_take) : CalG P w K mg base 2 "_law_size" false [0] g_size := by
  refine Z.d__law_size.cal (m := b_size) 1 sc__law_size rfl rfl fun f cdv A outer s H E hr hg => ?_
  unfold b_size
  exact (
  (sSq (sSet 3 rfl sc__law_size.nd (dIf (qCmp op_isND (dl (dIx (hu_of hr) (dk 1) (dl dInt))) (dl dNon)) (dOp op_addD (dl (dIx (hu_of hr) (dk 1) (dl dInt))) (dk 2)) (dB (cr_min2 rfl) Z.z_min (aCons (dl (dIx (hu_of hr) (dk 1) (dl dInt))) (aCons (dl (dOp op_addD (dl (dIx (hu_of hr) (dk 1) (dl dInt))) (dk 2))) aNil)))))
  (sOne (sRet (dOp op_addD (dl (dIx (hu_of hr) (dk 1) (dl dInt))) (dl (dFn C__law_take hr (by omega) hg (aCons (dk 0) (aCons (dl (dOp op_addD (dl (dOp op_subD (dk 3) (dl (dIx (hu_of hr) (dk 1) (dl dInt))))) (dl dInt))) aNil)))))))))
theorem sc__law_table : FnScope ["_law_bag_here", "_law_house_here", "_law_pool", "_law_more", "_law_found", "_law_sort_here", "_law_row"] ["_law_bag_here", "_law_house_here", "_law_pool", "_law_more"] (defScope (topS 21)) := ⟨rfl, rfl, rfl, by decide +kernel, rfl, by decide +kernel, by decide +kernel⟩
theorem ok__law_table (Z : Facts K mg c__law_facts) (C__law_mixed : CalG P w K mg base 2 "_law_mixed" false [0] g_mixed) (C__law_one : CalG P w K mg base 2 "_law_one" false [0] g_one) (C__law_size : CalG P w K mg base 2 "_law_size" false [0] g_size) : CalG P w K mg base 3 "_law_table" false [0] g_table := by
  refine Z.d__law_table.cal (m := b_table) 3 sc__law_table rfl rfl fun f cdv A outer s H E hr hg => ?_
  unfold b_table
  exact (
  (sSq (sSetO 4 rfl sc__law_table.nd fDct0)
  (sSq (sFor rfl PassesOwn.never rfl (iIt (dFn C__law_mixed hr (by omega) hg (aCons (dk 0) (aCons (dk 1) aNil)))) (gN 5 sc__law_table.nd)
    (sOne (sSub 4 (hu_of hr) (dIx (hu_of hr) (dk 5) (dl dInt)) (dT cr_tuple Z.z_tuple (aCons (dl (df (fB (cr_sorted' rfl hr.units) Z.z_sorted (aCons (dl (df (fLC rfl sc__law_table.nd (vs := [6]) (is := [6]) (own := [((Str.ofString "_law_row"), 6)]) rfl rfl (iRange1 Z.z_range (dl (dFn C__law_size hr (by omega) hg (aCons (dk 0) (aCons (dk 5) (aCons (dk 3) aNil)))))) (blkOk_by (N := ["_law_bag_here", "_law_house_here", "_law_pool", "_law_more", "_law_found", "_law_sort_here", "_law_row"]) (sc := defScope (topS 21)) (by decide +kernel)) (fun _ _ _ _ _ => (gN 6 sc__law_table.nd)) (fun _ _ _ _ _ => (tNil _)) (fun _ _ _ _ _ => (dFn C__law_one hr (by omega) hg (aCons (dk 0) (aCons (dk 2) aNil))))))) aNil)))) aNil)))))
  (sOne (sRel 4 (sRet (dv 4)))))))
theorem sc__law_turned_answer : FnScope ["_law_bag_here", "_law_answer_here", "_law_value_here"] ["_law_bag_here", "_law_answer_here"] (defScope (topS 32)) := ⟨rfl, rfl, rfl, by decide +kernel, rfl, by decide +kernel, by decide +kernel⟩
theorem ok__law_turned_answer (Z : Facts K mg c__law_facts) (C__law_one : CalG P w K mg base 2 "_law_one" false [0] g_one) : CalG P w K mg base 3 "_law_turned_answer" false [0] g_l_turned_answer := by
  refine Z.d__law_turned_answer.cal (m := b_l_turned_answer) 1 sc__law_turned_answer rfl rfl fun f cdv A outer s H E hr hg => ?_
  unfold b_l_turned_answer
  exact (
  (sSq (sIf (qCmp (op_eqDD hr.units) (dl (dIx (hu_of hr) (dk 1) (dl dInt))) (dl dStr))
    (sOne (sRet (dOp op_addD (dl (dSl (dk 1) pNone (pSome dInt))) (dl (dTup (bCons (dB (cr_min2 rfl) Z.z_min (aCons (dl dInt) (aCons (dl (dB (cr_max2 rfl) Z.z_max (aCons (dl dInt) (aCons (dl (dOp op_addD (dl (dIx (hu_of hr) (dk 1) (dl dInt))) (dl (dFn C__law_one hr (by omega) hg (aCons (dk 0) (aCons (dl (df (fLst (bCons dInt (bCons (dNeg (dl dInt)) bNil))))) aNil)))))) aNil)))) aNil))) bNil))))))
    sNx)
  (sSq (sSet 2 rfl sc__law_turned_answer.nd (dIx (hu_of hr) (dk 1) (dl dInt)))
  (sOne (sRet (dOp op_addD (dl (dSl (dk 1) pNone (pSome dInt))) (dl (dTup (bCons (dFn C__law_one hr (by omega) hg (aCons (dk 0) (aCons (dl (df (fLst (bCons dNon (bCons (dOp op_addD (dl dInt) (dl (dOrV (dv 2) dInt))) (bCons (dB (cr_max2 rfl) Z.z_max (aCons (dl (dNeg (dl (dOp op_powD (dl dInt) (dl dInt))))) (aCons (dl (dOp op_subD (dl (dOrV (dv 2) dInt)) (dl dInt))) aNil))) (bCons (dv 2) bNil))))))) aNil))) bNil)))))))))
theorem sc__law_turned_case : FnScope ["_law_bag_here", "_law_case_here", "_law_at"] ["_law_bag_here", "_law_case_here"] (defScope (topS 35)) := ⟨rfl, rfl, rfl, by decide +kernel, rfl, by decide +kernel, by decide +kernel⟩
theorem ok__law_turned_case (Z : Facts K mg c__law_facts) (C__law_take : CalG P w K mg base 1 "_law_take" false [0] g_take) (C__law_turned_answer : CalG P w K mg base 3 "_law_turned_answer" false [0] g_l_turned_answer) : CalG P w K mg base 4 "_law_turned_case" false [0] g_l_turned_case := by
  refine Z.d__law_turned_case.cal (m := b_l_turned_case) 1 sc__law_turned_case rfl rfl fun f cdv A outer s H E hr hg => ?_
  unfold b_l_turned_case
  exact (
  (sSq (sIf (qCmp (op_eqDD hr.units) (dl (dIx (hu_of hr) (dk 1) (dl dInt))) (dl (dTup bNil)))
    (sOne (sRet (dv 1)))
    sNx)
  (sSq (sSet 2 rfl sc__law_turned_case.nd (dFn C__law_take hr (by omega) hg (aCons (dk 0) (aCons (dl (dB cr_len Z.z_len (aCons (dl (dIx (hu_of hr) (dk 1) (dl dInt))) aNil))) aNil))))
  (sOne (sRet (dOp op_addD (dl (dSl (dk 1) pNone (pSome dInt))) (dl (dTup (bCons (dOp op_addD (dl (dOp op_addD (dl (dSl (dl (dIx (hu_of hr) (dk 1) (dl dInt))) pNone (pSome (dv 2)))) (dl (dTup (bCons (dFn C__law_turned_answer hr (by omega) hg (aCons (dk 0) (aCons (dl (dIx (hu_of hr) (dl (dIx (hu_of hr) (dk 1) (dl dInt))) (dk 2))) aNil))) bNil))))) (dl (dSl (dl (dIx (hu_of hr) (dk 1) (dl dInt))) (pSome (dOp op_addD (dk 2) (dl dInt))) pNone))) bNil)))))))))
theorem sc__law_great_case : FnScope ["_law_bag_here", "_law_house_here", "_law_wide", "_law_table_here", "_law_facts_here", "_law_formulas", "_law_turn", "_law_deep", "_law_most", "_law_case_here"] ["_law_bag_here"] (defScope (topS 43)) := ⟨rfl, rfl, rfl, by decide +kernel, rfl, by decide +kernel, by decide +kernel⟩
theorem ok__law_great_case (Z : Facts K mg c__law_facts) (C__law_case : CalG P w K mg base 24 "_law_case" false [0] g_l_case) (C__law_cell_house : CalG P w K mg base 4 "_law_cell_house" false [0] g_cell1) (C__law_facts : CalG P w K mg base 29 "_law_facts" false [0] g_l_facts) (C__law_formula : CalG P w K mg base 25 "_law_formula" false [0, 4] (g_formula 20)) (C__law_numbers : CalG P w K mg base 3 "_law_numbers" false [0] g_numbers) (C__law_one : CalG P w K mg base 2 "_law_one" false [0] g_one) (C__law_table : CalG P w K mg base 3 "_law_table" false [0] g_table) (C__law_take : CalG P w K mg base 1 "_law_take" false [0] g_take) (C__law_turned_case : CalG P w K mg base 4 "_law_turned_case" false [0] g_l_turned_case) : CalG P w K mg base 30 "_law_great_case" false [0] g_great_case := by
  refine Z.d__law_great_case.cal (m := b_great_case) 9 sc__law_great_case rfl rfl fun f cdv A outer s H E hr hg => ?_
  unfold b_great_case
  exact (
  (sSq (sSet 1 rfl sc__law_great_case.nd (dFn C__law_cell_house hr (by omega) hg (aCons (dk 0) (aCons (dl dInt) aNil))))
  (sSq (sSet 2 rfl sc__law_great_case.nd (dFn C__law_one hr (by omega) hg (aCons (dk 0) (aCons (dl (df (fLst (bCons (dTup (bCons dInt (bCons dInt bNil))) (bCons (dTup (bCons dInt (bCons dInt bNil))) (bCons (dTup (bCons dInt (bCons dNon bNil))) (bCons (dTup (bCons dInt (bCons dInt bNil))) (bCons (dTup (bCons dInt (bCons dInt bNil))) bNil)))))))) aNil))))
  (sSq (sSet 1 rfl sc__law_great_case.nd (dOp op_addD (dl (dSl (dk 1) pNone (pSome (dNeg (dl dInt))))) (dl (dTup (bCons (dOp op_addD (dl (dTup (bCons (dIx (hu_of hr) (dl (dIx (hu_of hr) (dk 1) (dl (dNeg (dl dInt))))) (dl dInt)) bNil))) (dk 2)) bNil)))))
  (sSq (sSet 3 rfl sc__law_great_case.nd (dFn C__law_table hr (by omega) hg (aCons (dk 0) (aCons (dk 1) (aCons (dl (dFn C__law_numbers hr (by omega) hg (aCons (dk 0) aNil))) (aCons (dl dInt) aNil))))))
  (sSq (sSet 4 rfl sc__law_great_case.nd (dFn C__law_facts hr (by omega) hg (aCons (dk 0) (aCons (dk 1) (aCons (dk 3) (aCons (dl (dOp op_addD (dl dInt) (dl (dFn C__law_take hr (by omega) hg (aCons (dk 0) (aCons (dl dInt) aNil)))))) (aCons (dl dInt) aNil)))))))
  (sSq (sSetO 5 rfl sc__law_great_case.nd (fLst bNil))
  (sSq (sFor rfl PassesOwn.never rfl (iRange1 Z.z_range (dl (dOp op_addD (dl dInt) (dl (dFn C__law_take hr (by omega) hg (aCons (dk 0) (aCons (dl dInt) aNil))))))) (gN 6 sc__law_great_case.nd)
    (sSq (sPar 7 8 rfl rfl sc__law_great_case.nd (by decide) (dFn C__law_one hr (by omega) hg (aCons (dk 0) (aCons (dl (df (fLst (bCons dInt (bCons dInt (bCons dInt bNil)))))) aNil))) (dFn C__law_one hr (by omega) hg (aCons (dk 0) (aCons (dl (df (fLst (bCons dInt (bCons dInt (bCons dInt (bCons dInt bNil))))))) aNil))) (hw := by rfl))
  (sOne (sDrop (dMut 5 F.slot_list_append F.type_list_append mt_app (bCons (dFnT C__law_formula hr (by omega) hg (aTc (dk 0) (aTc (dk 1) (aTc (dk 7) (aTc (dk 8) (aT1 (fLst (bCons (dFn C__law_one hr (by omega) hg (aCons (dk 0) (aCons (dl (df (fLst (bCons dInt (bCons dInt bNil))))) aNil))) bNil)))))))) bNil))))))
  (sSq (sRel 5 (sSet 9 rfl sc__law_great_case.nd (dFn C__law_case hr (by omega) hg (aCons (dk 0) (aCons (dk 1) (aCons (dk 3) (aCons (dk 5) (aCons (dk 4) aNil))))))))
  (sSq (sIf (qCmp (op_eqDD hr.units) (dl (dFn C__law_take hr (by omega) hg (aCons (dk 0) (aCons (dl dInt) aNil)))) (dl dInt))
    (sOne (sSet 9 rfl sc__law_great_case.nd (dFn C__law_turned_case hr (by omega) hg (aCons (dk 0) (aCons (dk 9) aNil)))))
    sNx)
  (sOne (sRet (dTup (bCons (dv 9) (bCons (dv 3) bNil)))))))))))))))
theorem sc__law_firm_house : FnScope ["_law_bag_here", "_law_most", "_law_rows", "_law_names_here", "_law_sizes", "_law_name", "_law_size_here"] ["_law_bag_here", "_law_most", "_law_rows"] (defScope (topS 17)) := ⟨rfl, rfl, rfl, by decide +kernel, rfl, by decide +kernel, by decide +kernel⟩
theorem ok__law_firm_house (Z : Facts K mg c__law_facts) (C__law_names : CalG P w K mg base 3 "_law_names" false [0] g_names1) (C__law_one : CalG P w K mg base 2 "_law_one" false [0] g_one) (C__law_take : CalG P w K mg base 1 "_law_take" false [0] g_take) : CalG P w K mg base 4 "_law_firm_house" false [0] g_firm1 := by
  refine Z.d__law_firm_house.cal (m := b_firm1) 4 sc__law_firm_house rfl rfl fun f cdv A outer s H E hr hg => ?_
  unfold b_firm1
  exact (
  (sSq (sSet 3 rfl sc__law_firm_house.nd (dFn C__law_names hr (by omega) hg (aCons (dk 0) (aCons (dl (dOp op_addD (dl dInt) (dl (dFn C__law_take hr (by omega) hg (aCons (dk 0) (aCons (dk 1) aNil)))))) aNil))))
  (sSq (sSetLc 4 rfl rfl sc__law_firm_house.nd (vs := [5]) (is := [5]) (own := [((Str.ofString "_law_name"), 5)]) rfl rfl (iIt (dv 3)) (blkOk_by (N := ["_law_bag_here", "_law_most", "_law_rows", "_law_names_here", "_law_sizes", "_law_name", "_law_size_here"]) (sc := defScope (topS 17)) (by decide +kernel)) (fun _ _ _ _ _ => (gN 5 sc__law_firm_house.nd)) (fun _ _ _ _ _ => (tNil _)) (fun _ _ _ _ _ => (dFn C__law_one hr (by omega) hg (aCons (dk 0) (aCons (dl (df (fLst (bCons dInt (bCons dInt (bCons (dv 2) (bCons (dFn C__law_take hr (by omega) hg (aCons (dk 0) (aCons (dl (dOp op_addD (dk 2) (dl dInt))) aNil))) bNil))))))) aNil)))))
  (sOne (sRet (dT cr_tuple Z.z_tuple (aCons (dl (df (fLC rfl sc__law_firm_house.nd (vs := [5, 6]) (is := [5, 6]) (own := [((Str.ofString "_law_name"), 5), ((Str.ofString "_law_size_here"), 6)]) rfl rfl (iZp Z.z_zip (dv 3) (dv 4)) (blkOk_by (N := ["_law_bag_here", "_law_most", "_law_rows", "_law_names_here", "_law_sizes", "_law_name", "_law_size_here"]) (sc := defScope (topS 17)) (by decide +kernel)) (fun _ _ _ _ _ => (gT rfl (gsCons 5 sc__law_firm_house.nd (gsCons 6 sc__law_firm_house.nd gsNil)))) (fun _ _ _ _ _ => (tNil _)) (fun _ _ _ _ _ => (dTup (bCons (dv 5) (bCons (dv 6) (bCons (dv 6) bNil)))))))) aNil)))))))
theorem sc__law_sort : FnScope ["_law_bag_here", "_law_name", "_law_way", "_law_few"] ["_law_bag_here", "_law_name"] (defScope (topS 15)) := ⟨rfl, rfl, rfl, by decide +kernel, rfl, by decide +kernel, by decide +kernel⟩
theorem ok__law_sort (Z : Facts K mg c__law_facts) (C__law_one : CalG P w K mg base 2 "_law_one" false [0] g_one) (C__law_take : CalG P w K mg base 1 "_law_take" false [0] g_take) : CalG P w K mg base 3 "_law_sort" false [0] g_sort := by
  refine Z.d__law_sort.cal (m := b_sort) 2 sc__law_sort rfl rfl fun f cdv A outer s H E hr hg => ?_
  unfold b_sort
  exact (
  (sSq (sPar 2 3 rfl rfl sc__law_sort.nd (by decide) (dFn C__law_take hr (by omega) hg (aCons (dk 0) (aCons (dl dInt) aNil))) (dFn C__law_one hr (by omega) hg (aCons (dk 0) (aCons (dl (df (fLst (bCons dInt (bCons dInt (bCons dInt (bCons dInt (bCons dInt bNil)))))))) aNil))) (hw := by rfl))
  (sSq (sIf (qCmp (op_ltD hr.units) (dk 2) (dl dInt))
    (sOne (sRet (dTup (bCons (dv 1) (bCons dInt (bCons dInt bNil))))))
    sNx)
  (sSq (sIf (qCmp (op_eqDD hr.units) (dk 2) (dl dInt))
    (sOne (sRet (dTup (bCons (dv 1) (bCons (dv 3) (bCons (dv 3) bNil))))))
    sNx)
  (sSq (sIf (qCmp (op_eqDD hr.units) (dk 2) (dl dInt))
    (sOne (sRet (dTup (bCons (dv 1) (bCons dInt (bCons (dOp op_addD (dl dInt) (dl (dFn C__law_take hr (by omega) hg (aCons (dk 0) (aCons (dl dInt) aNil))))) bNil))))))
    sNx)
  (sSq (sIf (qCmp (op_eqDD hr.units) (dk 2) (dl dInt))
    (sOne (sRet (dTup (bCons (dv 1) (bCons (dv 3) (bCons (dOp op_addD (dk 3) (dl (dFn C__law_one hr (by omega) hg (aCons (dk 0) (aCons (dl (df (fLst (bCons dInt (bCons dInt (bCons dInt (bCons dInt bNil))))))) aNil))))) bNil))))))
    sNx)
  (sOne (sRet (dTup (bCons (dv 1) (bCons (dv 3) (bCons dNon bNil))))))))))))
theorem sc__law_house : FnScope ["_law_bag_here", "_law_most", "_law_name"] ["_law_bag_here", "_law_most"] (defScope (topS 16)) := ⟨rfl, rfl, rfl, by decide +kernel, rfl, by decide +kernel, by decide +kernel⟩
theorem ok__law_house (Z : Facts K mg c__law_facts) (C__law_names : CalG P w K mg base 3 "_law_names" false [0] g_names1) (C__law_sort : CalG P w K mg base 3 "_law_sort" false [0] g_sort) (C__law_take : CalG P w K mg base 1 "_law_take" false [0] g_take) : CalG P w K mg base 4 "_law_house" false [0] g_house1 := by
  refine Z.d__law_house.cal (m := b_house1) 1 sc__law_house rfl rfl fun f cdv A outer s H E hr hg => ?_
  unfold b_house1
  exact (
  (sOne (sRet (dT cr_tuple Z.z_tuple (aCons (dl (df (fLC rfl sc__law_house.nd (vs := [2]) (is := [2]) (own := [((Str.ofString "_law_name"), 2)]) rfl rfl (iIt (dFn C__law_names hr (by omega) hg (aCons (dk 0) (aCons (dl (dOp op_addD (dl dInt) (dl (dFn C__law_take hr (by omega) hg (aCons (dk 0) (aCons (dk 1) aNil)))))) aNil)))) (blkOk_by (N := ["_law_bag_here", "_law_most", "_law_name"]) (sc := defScope (topS 16)) (by decide +kernel)) (fun _ _ _ _ _ => (gN 2 sc__law_house.nd)) (fun _ _ _ _ _ => (tNil _)) (fun _ _ _ _ _ => (dFn C__law_sort hr (by omega) hg (aCons (dk 0) (aCons (dk 2) aNil))))))) aNil)))))
theorem sc__law_one_house : FnScope ["_law_bag_here", "_law_way"] ["_law_bag_here"] (defScope (topS 40)) := ⟨rfl, rfl, rfl, by decide +kernel, rfl, by decide +kernel, by decide +kernel⟩
theorem ok__law_one_house (Z : Facts K mg c__law_facts) (C__law_cell_house : CalG P w K mg base 4 "_law_cell_house" false [0] g_cell1) (C__law_firm_house : CalG P w K mg base 4 "_law_firm_house" false [0] g_firm1) (C__law_house : CalG P w K mg base 4 "_law_house" false [0] g_house1) (C__law_one : CalG P w K mg base 2 "_law_one" false [0] g_one) (C__law_take : CalG P w K mg base 1 "_law_take" false [0] g_take) : CalG P w K mg base 5 "_law_one_house" false [0] g_oneh1 := by
  refine Z.d__law_one_house.cal (m := b_oneh1) 1 sc__law_one_house rfl rfl fun f cdv A outer s H E hr hg => ?_
  unfold b_oneh1
  exact (
  (sSq (sSet 1 rfl sc__law_one_house.nd (dFn C__law_take hr (by omega) hg (aCons (dk 0) (aCons (dl dInt) aNil))))
  (sSq (sIf (qCmp (op_ltD hr.units) (dk 1) (dl dInt))
    (sOne (sRet (dFn C__law_house hr (by omega) hg (aCons (dk 0) (aCons (dl (dFn C__law_one hr (by omega) hg (aCons (dk 0) (aCons (dl (df (fLst (bCons dInt (bCons dInt (bCons dInt bNil)))))) aNil)))) aNil)))))
    sNx)
  (sOne (sRet (dIf (qCmp (op_eqDD hr.units) (dk 1) (dl dInt)) (dFn C__law_firm_house hr (by omega) hg (aCons (dk 0) (aCons (dl dInt) (aCons (dl dInt) aNil)))) (dFn C__law_cell_house hr (by omega) hg (aCons (dk 0) (aCons (dl dInt) aNil)))))))))
theorem sc__law_small_case : FnScope ["_law_bag_here", "_law_house_here", "_law_table_here", "_law_facts_here", "_law_formulas", "_law_turn", "_law_case_here"] ["_law_bag_here"] (defScope (topS 42)) := ⟨rfl, rfl, rfl, by decide +kernel, rfl, by decide +kernel, by decide +kernel⟩
theorem ok__law_small_case (Z : Facts K mg c__law_facts) (C__law_case : CalG P w K mg base 24 "_law_case" false [0] g_l_case) (C__law_facts : CalG P w K mg base 29 "_law_facts" false [0] g_l_facts) (C__law_formula : CalG P w K mg base 25 "_law_formula" false [0, 4] (g_formula 20)) (C__law_great_case : CalG P w K mg base 30 "_law_great_case" false [0] g_great_case) (C__law_numbers : CalG P w K mg base 3 "_law_numbers" false [0] g_numbers) (C__law_one : CalG P w K mg base 2 "_law_one" false [0] g_one) (C__law_one_house : CalG P w K mg base 5 "_law_one_house" false [0] g_oneh1) (C__law_table : CalG P w K mg base 3 "_law_table" false [0] g_table) (C__law_take : CalG P w K mg base 1 "_law_take" false [0] g_take) (C__law_turned_case : CalG P w K mg base 4 "_law_turned_case" false [0] g_l_turned_case) : CalG P w K mg base 31 "_law_small_case" false [0] g_small_case := by
  refine Z.d__law_small_case.cal (m := b_small_case) 6 sc__law_small_case rfl rfl fun f cdv A outer s H E hr hg => ?_
  unfold b_small_case
  exact (
  (sSq (sIf (qCmp (op_eqDD hr.units) (dl (dFn C__law_take hr (by omega) hg (aCons (dk 0) (aCons (dl dInt) aNil)))) (dl dInt))
    (sOne (sRet (dFn C__law_great_case hr (by omega) hg (aCons (dk 0) aNil))))
    sNx)
  (sSq (sSet 1 rfl sc__law_small_case.nd (dFn C__law_one_house hr (by omega) hg (aCons (dk 0) aNil)))
  (sSq (sSet 2 rfl sc__law_small_case.nd (dFn C__law_table hr (by omega) hg (aCons (dk 0) (aCons (dk 1) (aCons (dl (dFn C__law_numbers hr (by omega) hg (aCons (dk 0) aNil))) (aCons (dl dInt) aNil))))))
  (sSq (sSet 3 rfl sc__law_small_case.nd (dFn C__law_facts hr (by omega) hg (aCons (dk 0) (aCons (dk 1) (aCons (dk 2) (aCons (dl (dFn C__law_one hr (by omega) hg (aCons (dk 0) (aCons (dl (df (fLst (bCons dInt (bCons dInt (bCons dInt (bCons dInt bNil))))))) aNil)))) (aCons (dl dInt) aNil)))))))
  (sSq (sSetO 4 rfl sc__law_small_case.nd (fLst bNil))
  (sSq (sFor rfl PassesOwn.never rfl (iRange1 Z.z_range (dl (dFn C__law_one hr (by omega) hg (aCons (dk 0) (aCons (dl (df (fLst (bCons dInt (bCons dInt (bCons dInt (bCons dInt (bCons dInt (bCons dInt (bCons dInt bNil)))))))))) aNil))))) (gN 5 sc__law_small_case.nd)
    (sOne (sDrop (dMut 4 F.slot_list_append F.type_list_append mt_app (bCons (dFnT C__law_formula hr (by omega) hg (aTc (dk 0) (aTc (dk 1) (aTc (dl (dFn C__law_one hr (by omega) hg (aCons (dk 0) (aCons (dl (df (fLst (bCons dInt (bCons dInt (bCons dInt bNil)))))) aNil)))) (aTc (dl (dFn C__law_one hr (by omega) hg (aCons (dk 0) (aCons (dl (df (fLst (bCons dInt (bCons dInt (bCons dInt bNil)))))) aNil)))) (aT1 (fLst (bCons dInt bNil)))))))) bNil)))))
  (sSq (sRel 4 (sSet 6 rfl sc__law_small_case.nd (dFn C__law_case hr (by omega) hg (aCons (dk 0) (aCons (dk 1) (aCons (dk 2) (aCons (dk 4) (aCons (dk 3) aNil))))))))
  (sSq (sFor rfl PassesOwn.never rfl (iRange1 Z.z_range (dl (dFn C__law_one hr (by omega) hg (aCons (dk 0) (aCons (dl (df (fLst (bCons dInt (bCons dInt (bCons dInt (bCons dInt bNil))))))) aNil))))) (gN 5 sc__law_small_case.nd)
    (sOne (sSet 6 rfl sc__law_small_case.nd (dFn C__law_turned_case hr (by omega) hg (aCons (dk 0) (aCons (dk 6) aNil))))))
  (sOne (sRet (dTup (bCons (dv 6) (bCons (dv 2) bNil))))))))))))))
theorem sc_law : FnScope ["_law_script", "_law_bag_here", "_law_turn", "_law_case_here", "_law_formulas", "_law_shown", "_law_k"] ["_law_script"] (defScope (topS 46)) := ⟨rfl, rfl, rfl, by decide +kernel, rfl, by decide +kernel, by decide +kernel⟩
def b_law : MS :=
  (mSq (mFor (mRng1 (mV (mC (.int 3)))) (setS 2)
    (mSq (mSet 3 (mOp2 ixD (mV (mFn [0] g_small_case [(mPk 1)])) (mV (mC (.int 0)))))
  (mSq (mPar 4 5 (mLC [6] (mRng1 (mV (mFn [0] g_take [(mPk 1), (mV (mC (.int 3)))]))) (setS 6) mYes (mFn [0] g_any_formula [(mPk 1), (mV (mOp2 ixD (mPk 3) (mV (mC (.int 0)))))])) (mCall reprC [(mPk 3)]))
  (mSq (mIfS (mOr (mNot (mTest (mFn [] g_l_levels_right [(mV (mOp2 ixD (mPk 3) (mV (mC (.int 2)))))]))) (mNot (mTest (mFn [0] g_l_caps_right [(mPk 1), (mV (mOp2 ixD (mPk 3) (mV (mC (.int 0))))), (mPk 4), (mV (mOp2 ixD (mPk 3) (mV (mC (.int 2)))))]))))
    (mRet (mC (.bool false)))
    mNx)
  (mIfS (mOr (mNot (mTest (mFn [0] g_l_caps_right [(mPk 1), (mV (mOp2 ixD (mPk 3) (mV (mC (.int 0))))), (mV (mLst [])), (mV (mTup []))]))) (mOr (mNot (mTest (mFn [] g_l_levels_right [(mV (mTup []))]))) (mTest (mOp2 neD (mV (mCall reprC [(mPk 3)])) (mPk 5)))))
    (mRet (mC (.bool false)))
    mNx)))))
  (mRet (mC (.bool true))))
theorem ok_law (Z : Facts K mg c__law_facts) (C__law_any_formula : CalG P w K mg base 26 "_law_any_formula" false [0] g_any_formula) (C__law_are_caps_right : CalG P w K mg base 24 "_law_are_caps_right" false [0] g_l_caps_right) (C__law_are_levels_right : CalG P w K mg base 2 "_law_are_levels_right" false [] g_l_levels_right) (C__law_small_case : CalG P w K mg base 31 "_law_small_case" false [0] g_small_case) (C__law_take : CalG P w K mg base 1 "_law_take" false [0] g_take) (C_bag : BagG P w K mg base 1 "_law_bag") : ∃ f fd, mg "law" = some (.ref f) ∧ Fun K "law" "law" (topS 46) f fd ∧ FnG P w K mg base CX0 32 f fd ["_law_script"] (spTop K 5 b_law) := by
  refine Z.d_law.law sc_law rfl rfl fun f cdv A outer s H E hr hg => ?_
  unfold b_law
  exact sTop C_bag hr (by omega) hg sc_law.nd (pv 0) (
  (sSq (sFor rfl PassesOwn.never rfl (iRange1 Z.z_range (dl dInt)) (gN 2 sc_law.nd)
    (sSq (sSet 3 rfl sc_law.nd (dIx (hu_of hr) (dl (dFn C__law_small_case hr (by omega) hg (aCons (dk 1) aNil))) (dl dInt)))
  (sSq (sPar 4 5 rfl rfl sc_law.nd (by decide) (df (fLC rfl sc_law.nd (vs := [6]) (is := [6]) (own := [((Str.ofString "_law_k"), 6)]) rfl rfl (iRange1 Z.z_range (dl (dFn C__law_take hr (by omega) hg (aCons (dk 1) (aCons (dl dInt) aNil))))) (blkOk_by (N := ["_law_script", "_law_bag_here", "_law_turn", "_law_case_here", "_law_formulas", "_law_shown", "_law_k"]) (sc := defScope (topS 46)) (by decide +kernel)) (fun _ _ _ _ _ => (gN 6 sc_law.nd)) (fun _ _ _ _ _ => (tNil _)) (fun _ _ _ _ _ => (dFn C__law_any_formula hr (by omega) hg (aCons (dk 1) (aCons (dl (dIx (hu_of hr) (dk 3) (dl dInt))) aNil)))))) (dB (cr_repr hg hr.units) Z.z_repr (aCons (dk 3) aNil)) (hw := by rfl))
  (sSq (sIf (qW (wOr (qNot (qVal (dFn C__law_are_levels_right hr (by omega) hg (aCons (dl (dIx (hu_of hr) (dk 3) (dl dInt))) aNil)))) (wOr1 (qNot (qVal (dFn C__law_are_caps_right hr (by omega) hg (aCons (dk 1) (aCons (dl (dIx (hu_of hr) (dk 3) (dl dInt))) (aCons (dk 4) (aCons (dl (dIx (hu_of hr) (dk 3) (dl dInt))) aNil))))))))))
    (sOne (sRet dBl))
    sNx)
  (sOne (sIf (qW (wOr (qNot (qVal (dFn C__law_are_caps_right hr (by omega) hg (aCons (dk 1) (aCons (dl (dIx (hu_of hr) (dk 3) (dl dInt))) (aCons (dl (df (fLst bNil))) (aCons (dl (dTup bNil)) aNil))))))) (wOr (qNot (qVal (dFn C__law_are_levels_right hr (by omega) hg (aCons (dl (dTup bNil)) aNil)))) (wOr1 (qCmp (op_neDD hr.units) (dl (dB (cr_repr hg hr.units) Z.z_repr (aCons (dk 3) aNil))) (dk 5))))))
    (sOne (sRet dBl))
    sNx))))))
  (sOne (sRet dBl))))
theorem all_ok (Z : Facts K mg c__law_facts) (T__law_facts : Tbs base mg c__law_facts P__law_facts ((envOfC "_law_facts" (defScope (topS 33)) 0 0 .none).qual ++ "<lambda>")) (pw : Tb.pw = some (P, w)) : ∃ f fd, mg "law" = some (.ref f) ∧ Fun K "law" "law" (topS 46) f fd ∧ FnG P w K mg base CX0 32 f fd ["_law_script"] (spTop K 5 b_law) := by
  have C__law_take := ok__law_take (P := P) (w := w) (base := base) Z 
  have C__law_one := ok__law_one (P := P) (w := w) (base := base) Z C__law_take
  have C__law_mixed := ok__law_mixed (P := P) (w := w) (base := base) Z C__law_take
  have C__law_lot := ok__law_lot (P := P) (w := w) (base := base) Z C__law_mixed C__law_take
  have C__law_rank := ok__law_rank (P := P) (w := w) (base := base) Z C__law_lot C__law_one C__law_take
  have C__law_formula := ok__law_formula (P := P) (w := w) (base := base) Z C__law_one C__law_rank C__law_take 20
  have C__law_any_formula := ok__law_any_formula (P := P) (w := w) (base := base) Z C__law_formula C__law_one
  have C__law_alike := ok__law_alike (P := P) (w := w) (base := base) Z 
  have C__law_caps := ok__law_caps (P := P) (w := w) (base := base) Z 
  have C__law_flat := ok__law_flat (P := P) (w := w) (base := base) Z 
  have C__law_ranks := ok__law_ranks (P := P) (w := w) (base := base) Z C__law_flat 20
  have C__law_depth := ok__law_depth (P := P) (w := w) (base := base) Z C__law_flat C__law_ranks
  have C_caps_of := ok_caps_of (P := P) (w := w) (base := base) Z 
  have C_rank_depth := ok_rank_depth (P := P) (w := w) (base := base) Z  20
  have C_depth_of := ok_depth_of (P := P) (w := w) (base := base) Z C_rank_depth
  have C__law_are_caps_right := ok__law_are_caps_right (P := P) (w := w) (base := base) Z C__law_alike C__law_caps C__law_depth C__law_take C_caps_of C_depth_of
  have C__law_level := ok__law_level (P := P) (w := w) (base := base) Z 
  have C__law_near := ok__law_near (P := P) (w := w) (base := base) Z 
  have C__law_rungs := ok__law_rungs (P := P) (w := w) (base := base) Z 
  have C_level_of := ok_level_of (P := P) (w := w) (base := base) Z 
  have C_rungs_of := ok_rungs_of (P := P) (w := w) (base := base) Z pw 
  have C__law_are_levels_right := ok__law_are_levels_right (P := P) (w := w) (base := base) Z C__law_alike C__law_level C__law_near C__law_rungs C_level_of C_rungs_of
  have C_bag := ok__law_bag (P := P) (w := w) (base := base) Z
  have C__law_count := ok__law_count (P := P) (w := w) (base := base) Z C__law_flat
  have C__law_known := ok__law_known (P := P) (w := w) (base := base) Z C__law_flat
  have C__law_key := ok__law_key (P := P) (w := w) (base := base) Z 
  have C__law_value := ok__law_value (P := P) (w := w) (base := base) Z C__law_flat C__law_key 20
  have C__law_answer := ok__law_answer (P := P) (w := w) (base := base) Z C__law_count C__law_known C__law_lot C__law_one C__law_take C__law_value
  have C__law_case := ok__law_case (P := P) (w := w) (base := base) Z C__law_answer
  have C__law_facts := ok__law_facts (P := P) (w := w) (base := base) Z T__law_facts C__law_formula C__law_key C__law_value
  have C__law_names := ok__law_names (P := P) (w := w) (base := base) Z C__law_mixed
  have C__law_cell_house := ok__law_cell_house (P := P) (w := w) (base := base) Z C__law_names C__law_take
  have C__law_numbers := ok__law_numbers (P := P) (w := w) (base := base) Z C__law_one C__law_take
  have C__law_size := ok__law_size (P := P) (w := w) (base := base) Z C__law_take
  have C__law_table := ok__law_table (P := P) (w := w) (base := base) Z C__law_mixed C__law_one C__law_size
  have C__law_turned_answer := ok__law_turned_answer (P := P) (w := w) (base := base) Z C__law_one
  have C__law_turned_case := ok__law_turned_case (P := P) (w := w) (base := base) Z C__law_take C__law_turned_answer
  have C__law_great_case := ok__law_great_case (P := P) (w := w) (base := base) Z C__law_case C__law_cell_house C__law_facts C__law_formula C__law_numbers C__law_one C__law_table C__law_take C__law_turned_case
  have C__law_firm_house := ok__law_firm_house (P := P) (w := w) (base := base) Z C__law_names C__law_one C__law_take
  have C__law_sort := ok__law_sort (P := P) (w := w) (base := base) Z C__law_one C__law_take
  have C__law_house := ok__law_house (P := P) (w := w) (base := base) Z C__law_names C__law_sort C__law_take
  have C__law_one_house := ok__law_one_house (P := P) (w := w) (base := base) Z C__law_cell_house C__law_firm_house C__law_house C__law_one C__law_take
  have C__law_small_case := ok__law_small_case (P := P) (w := w) (base := base) Z C__law_case C__law_facts C__law_formula C__law_great_case C__law_numbers C__law_one C__law_one_house C__law_table C__law_take C__law_turned_case
  exact ok_law Z C__law_any_formula C__law_are_caps_right C__law_are_levels_right C__law_small_case C__law_take C_bag
end
theorem facts_mk {K : PySem.W.Frag} {mg : Str → Option Value} {h : Heap} (X : K.In h) (G : h.Ns mainGlobals mg) {f0 f1 f2 f3 f4 f5 f6 f7 f8 f9 f10 f11 f12 f13 f14 f15 f16 f17 f18 f19 f20 f21 f22 f23 f24 f25 f26 f27 f28 f29 f30 f31 f32 f33 f34 f35 f36 f37 f38 f39 f40 f41 f42 f43 : Addr} {od0 an0 od1 an1 od2 an2 od3 an3 od4 an4 od5 an5 od6 an6 od7 an7 od8 an8 od9 an9 od10 an10 od11 an11 od12 an12 od13 an13 od14 an14 od15 an15 od16 an16 od17 an17 od18 an18 od19 an19 od20 an20 od21 an21 od22 an22 od23 an23 od24 an24 od25 an25 od26 an26 od27 an27 od28 an28 od29 an29 od30 an30 od31 an31 od32 an32 od33 an33 od34 an34 od35 an35 od36 an36 od37 an37 od38 an38 od39 an39 od40 an40 od41 an41 od42 an42 od43 an43 : Option Addr} {sl0 sl1 sl2 sl3 sl4 sl5 sl6 sl7 sl8 sl9 sl10 sl11 sl12 sl13 sl14 sl15 sl16 sl17 sl18 sl19 sl20 sl21 sl22 sl23 sl24 sl25 sl26 sl27 sl28 sl29 sl30 sl31 sl32 sl33 sl34 sl35 sl36 sl37 sl38 sl39 sl40 sl41 sl42 sl43 : Array (Option Value)} {oc0 kV0 dc0 pm0 cd0 ct0 oc1 kV1 dc1 pm1 cd1 ct1 oc2 kV2 dc2 pm2 cd2 ct2 oc3 kV3 dc3 pm3 cd3 ct3 oc4 kV4 dc4 pm4 cd4 ct4 oc5 kV5 dc5 pm5 cd5 ct5 oc6 kV6 dc6 pm6 cd6 ct6 oc7 kV7 dc7 pm7 cd7 ct7 oc8 kV8 dc8 pm8 cd8 ct8 oc9 kV9 dc9 pm9 cd9 ct9 oc10 kV10 dc10 pm10 cd10 ct10 oc11 kV11 dc11 pm11 cd11 ct11 oc12 kV12 dc12 pm12 cd12 ct12 oc13 kV13 dc13 pm13 cd13 ct13 oc14 kV14 dc14 pm14 cd14 ct14 oc15 kV15 dc15 pm15 cd15 ct15 oc16 kV16 dc16 pm16 cd16 ct16 oc17 kV17 dc17 pm17 cd17 ct17 oc18 kV18 dc18 pm18 cd18 ct18 oc19 kV19 dc19 pm19 cd19 ct19 oc20 kV20 dc20 pm20 cd20 ct20 oc21 kV21 dc21 pm21 cd21 ct21 oc22 kV22 dc22 pm22 cd22 ct22 oc23 kV23 dc23 pm23 cd23 ct23 oc24 kV24 dc24 pm24 cd24 ct24 oc25 kV25 dc25 pm25 cd25 ct25 oc26 kV26 dc26 pm26 cd26 ct26 oc27 kV27 dc27 pm27 cd27 ct27 oc28 kV28 dc28 pm28 cd28 ct28 oc29 kV29 dc29 pm29 cd29 ct29 oc30 kV30 dc30 pm30 cd30 ct30 oc31 kV31 dc31 pm31 cd31 ct31 oc32 kV32 dc32 pm32 cd32 ct32 oc33 kV33 dc33 pm33 cd33 ct33 oc34 kV34 dc34 pm34 cd34 ct34 oc35 kV35 dc35 pm35 cd35 ct35 oc36 kV36 dc36 pm36 cd36 ct36 oc37 kV37 dc37 pm37 cd37 ct37 oc38 kV38 dc38 pm38 cd38 ct38 oc39 kV39 dc39 pm39 cd39 ct39 oc40 kV40 dc40 pm40 cd40 ct40 oc41 kV41 dc41 pm41 cd41 ct41 oc42 kV42 dc42 pm42 cd42 ct42 oc43 kV43 dc43 pm43 cd43 ct43 : Value}
    {c__law_facts : Addr}
    (a0 : PySem.W.nsIn K mainGlobals "_law_take" = some (some (.ref f0))) (l0 : K.lookup f0 = some ⟨oc0, od0, .func (PySem.W.fnOf "_law_take" "_law_take" (defArgs (topS 9)) (defBody (topS 9)) (defScope (topS 9)) .none kV0 dc0 pm0 an0 cd0 ct0), sl0⟩) (c0 : PySem.W.codeIn K cd0 "_law_take" = true) (k0 : PySem.W.keepIn K (.ref f0) = true)
    (a1 : PySem.W.nsIn K mainGlobals "_law_one" = some (some (.ref f1))) (l1 : K.lookup f1 = some ⟨oc1, od1, .func (PySem.W.fnOf "_law_one" "_law_one" (defArgs (topS 10)) (defBody (topS 10)) (defScope (topS 10)) .none kV1 dc1 pm1 an1 cd1 ct1), sl1⟩) (c1 : PySem.W.codeIn K cd1 "_law_one" = true) (k1 : PySem.W.keepIn K (.ref f1) = true)
    (a2 : PySem.W.nsIn K mainGlobals "_law_mixed" = some (some (.ref f2))) (l2 : K.lookup f2 = some ⟨oc2, od2, .func (PySem.W.fnOf "_law_mixed" "_law_mixed" (defArgs (topS 11)) (defBody (topS 11)) (defScope (topS 11)) .none kV2 dc2 pm2 an2 cd2 ct2), sl2⟩) (c2 : PySem.W.codeIn K cd2 "_law_mixed" = true) (k2 : PySem.W.keepIn K (.ref f2) = true)
    (a3 : PySem.W.nsIn K mainGlobals "_law_lot" = some (some (.ref f3))) (l3 : K.lookup f3 = some ⟨oc3, od3, .func (PySem.W.fnOf "_law_lot" "_law_lot" (defArgs (topS 23)) (defBody (topS 23)) (defScope (topS 23)) .none kV3 dc3 pm3 an3 cd3 ct3), sl3⟩) (c3 : PySem.W.codeIn K cd3 "_law_lot" = true) (k3 : PySem.W.keepIn K (.ref f3) = true)
    (a4 : PySem.W.nsIn K mainGlobals "_law_rank" = some (some (.ref f4))) (l4 : K.lookup f4 = some ⟨oc4, od4, .func (PySem.W.fnOf "_law_rank" "_law_rank" (defArgs (topS 24)) (defBody (topS 24)) (defScope (topS 24)) .none kV4 dc4 pm4 an4 cd4 ct4), sl4⟩) (c4 : PySem.W.codeIn K cd4 "_law_rank" = true) (k4 : PySem.W.keepIn K (.ref f4) = true)
    (a5 : PySem.W.nsIn K mainGlobals "_law_formula" = some (some (.ref f5))) (l5 : K.lookup f5 = some ⟨oc5, od5, .func (PySem.W.fnOf "_law_formula" "_law_formula" (defArgs (topS 25)) (defBody (topS 25)) (defScope (topS 25)) .none kV5 dc5 pm5 an5 cd5 ct5), sl5⟩) (c5 : PySem.W.codeIn K cd5 "_law_formula" = true) (k5 : PySem.W.keepIn K (.ref f5) = true)
    (a6 : PySem.W.nsIn K mainGlobals "_law_any_formula" = some (some (.ref f6))) (l6 : K.lookup f6 = some ⟨oc6, od6, .func (PySem.W.fnOf "_law_any_formula" "_law_any_formula" (defArgs (topS 26)) (defBody (topS 26)) (defScope (topS 26)) .none kV6 dc6 pm6 an6 cd6 ct6), sl6⟩) (c6 : PySem.W.codeIn K cd6 "_law_any_formula" = true) (k6 : PySem.W.keepIn K (.ref f6) = true)
    (a7 : PySem.W.nsIn K mainGlobals "_law_alike" = some (some (.ref f7))) (l7 : K.lookup f7 = some ⟨oc7, od7, .func (PySem.W.fnOf "_law_alike" "_law_alike" (defArgs (topS 12)) (defBody (topS 12)) (defScope (topS 12)) .none kV7 dc7 pm7 an7 cd7 ct7), sl7⟩) (c7 : PySem.W.codeIn K cd7 "_law_alike" = true) (k7 : PySem.W.keepIn K (.ref f7) = true)
    (a8 : PySem.W.nsIn K mainGlobals "_law_caps" = some (some (.ref f8))) (l8 : K.lookup f8 = some ⟨oc8, od8, .func (PySem.W.fnOf "_law_caps" "_law_caps" (defArgs (topS 37)) (defBody (topS 37)) (defScope (topS 37)) .none kV8 dc8 pm8 an8 cd8 ct8), sl8⟩) (c8 : PySem.W.codeIn K cd8 "_law_caps" = true) (k8 : PySem.W.keepIn K (.ref f8) = true)
    (a9 : PySem.W.nsIn K mainGlobals "_law_flat" = some (some (.ref f9))) (l9 : K.lookup f9 = some ⟨oc9, od9, .func (PySem.W.fnOf "_law_flat" "_law_flat" (defArgs (topS 13)) (defBody (topS 13)) (defScope (topS 13)) .none kV9 dc9 pm9 an9 cd9 ct9), sl9⟩) (c9 : PySem.W.codeIn K cd9 "_law_flat" = true) (k9 : PySem.W.keepIn K (.ref f9) = true)
    (a10 : PySem.W.nsIn K mainGlobals "_law_ranks" = some (some (.ref f10))) (l10 : K.lookup f10 = some ⟨oc10, od10, .func (PySem.W.fnOf "_law_ranks" "_law_ranks" (defArgs (topS 29)) (defBody (topS 29)) (defScope (topS 29)) .none kV10 dc10 pm10 an10 cd10 ct10), sl10⟩) (c10 : PySem.W.codeIn K cd10 "_law_ranks" = true) (k10 : PySem.W.keepIn K (.ref f10) = true)
    (a11 : PySem.W.nsIn K mainGlobals "_law_depth" = some (some (.ref f11))) (l11 : K.lookup f11 = some ⟨oc11, od11, .func (PySem.W.fnOf "_law_depth" "_law_depth" (defArgs (topS 36)) (defBody (topS 36)) (defScope (topS 36)) .none kV11 dc11 pm11 an11 cd11 ct11), sl11⟩) (c11 : PySem.W.codeIn K cd11 "_law_depth" = true) (k11 : PySem.W.keepIn K (.ref f11) = true)
    (a12 : PySem.W.nsIn K mainGlobals "caps_of" = some (some (.ref f12))) (l12 : K.lookup f12 = some ⟨oc12, od12, .func (PySem.W.fnOf "caps_of" "caps_of" (defArgs (topS 6)) (defBody (topS 6)) (defScope (topS 6)) .none kV12 dc12 pm12 an12 cd12 ct12), sl12⟩) (c12 : PySem.W.codeIn K cd12 "caps_of" = true) (k12 : PySem.W.keepIn K (.ref f12) = true)
    (a13 : PySem.W.nsIn K mainGlobals "rank_depth" = some (some (.ref f13))) (l13 : K.lookup f13 = some ⟨oc13, od13, .func (PySem.W.fnOf "rank_depth" "rank_depth" (defArgs (topS 1)) (defBody (topS 1)) (defScope (topS 1)) .none kV13 dc13 pm13 an13 cd13 ct13), sl13⟩) (c13 : PySem.W.codeIn K cd13 "rank_depth" = true) (k13 : PySem.W.keepIn K (.ref f13) = true)
    (a14 : PySem.W.nsIn K mainGlobals "depth_of" = some (some (.ref f14))) (l14 : K.lookup f14 = some ⟨oc14, od14, .func (PySem.W.fnOf "depth_of" "depth_of" (defArgs (topS 5)) (defBody (topS 5)) (defScope (topS 5)) .none kV14 dc14 pm14 an14 cd14 ct14), sl14⟩) (c14 : PySem.W.codeIn K cd14 "depth_of" = true) (k14 : PySem.W.keepIn K (.ref f14) = true)
    (a15 : PySem.W.nsIn K mainGlobals "_law_are_caps_right" = some (some (.ref f15))) (l15 : K.lookup f15 = some ⟨oc15, od15, .func (PySem.W.fnOf "_law_are_caps_right" "_law_are_caps_right" (defArgs (topS 45)) (defBody (topS 45)) (defScope (topS 45)) .none kV15 dc15 pm15 an15 cd15 ct15), sl15⟩) (c15 : PySem.W.codeIn K cd15 "_law_are_caps_right" = true) (k15 : PySem.W.keepIn K (.ref f15) = true)
    (a16 : PySem.W.nsIn K mainGlobals "_law_level" = some (some (.ref f16))) (l16 : K.lookup f16 = some ⟨oc16, od16, .func (PySem.W.fnOf "_law_level" "_law_level" (defArgs (topS 41)) (defBody (topS 41)) (defScope (topS 41)) .none kV16 dc16 pm16 an16 cd16 ct16), sl16⟩) (c16 : PySem.W.codeIn K cd16 "_law_level" = true) (k16 : PySem.W.keepIn K (.ref f16) = true)
    (a17 : PySem.W.nsIn K mainGlobals "_law_near" = some (some (.ref f17))) (l17 : K.lookup f17 = some ⟨oc17, od17, .func (PySem.W.fnOf "_law_near" "_law_near" (defArgs (topS 39)) (defBody (topS 39)) (defScope (topS 39)) .none kV17 dc17 pm17 an17 cd17 ct17), sl17⟩) (c17 : PySem.W.codeIn K cd17 "_law_near" = true) (k17 : PySem.W.keepIn K (.ref f17) = true)
    (a18 : PySem.W.nsIn K mainGlobals "_law_rungs" = some (some (.ref f18))) (l18 : K.lookup f18 = some ⟨oc18, od18, .func (PySem.W.fnOf "_law_rungs" "_law_rungs" (defArgs (topS 38)) (defBody (topS 38)) (defScope (topS 38)) .none kV18 dc18 pm18 an18 cd18 ct18), sl18⟩) (c18 : PySem.W.codeIn K cd18 "_law_rungs" = true) (k18 : PySem.W.keepIn K (.ref f18) = true)
    (a19 : PySem.W.nsIn K mainGlobals "level_of" = some (some (.ref f19))) (l19 : K.lookup f19 = some ⟨oc19, od19, .func (PySem.W.fnOf "level_of" "level_of" (defArgs (topS 4)) (defBody (topS 4)) (defScope (topS 4)) .none kV19 dc19 pm19 an19 cd19 ct19), sl19⟩) (c19 : PySem.W.codeIn K cd19 "level_of" = true) (k19 : PySem.W.keepIn K (.ref f19) = true)
    (a20 : PySem.W.nsIn K mainGlobals "rungs_of" = some (some (.ref f20))) (l20 : K.lookup f20 = some ⟨oc20, od20, .func (PySem.W.fnOf "rungs_of" "rungs_of" (defArgs (topS 3)) (defBody (topS 3)) (defScope (topS 3)) .none kV20 dc20 pm20 an20 cd20 ct20), sl20⟩) (c20 : PySem.W.codeIn K cd20 "rungs_of" = true) (k20 : PySem.W.keepIn K (.ref f20) = true)
    (a21 : PySem.W.nsIn K mainGlobals "_law_are_levels_right" = some (some (.ref f21))) (l21 : K.lookup f21 = some ⟨oc21, od21, .func (PySem.W.fnOf "_law_are_levels_right" "_law_are_levels_right" (defArgs (topS 44)) (defBody (topS 44)) (defScope (topS 44)) .none kV21 dc21 pm21 an21 cd21 ct21), sl21⟩) (c21 : PySem.W.codeIn K cd21 "_law_are_levels_right" = true) (k21 : PySem.W.keepIn K (.ref f21) = true)
    (a22 : PySem.W.nsIn K mainGlobals "_law_bag" = some (some (.ref f22))) (l22 : K.lookup f22 = some ⟨oc22, od22, .func (PySem.W.fnOf "_law_bag" "_law_bag" (defArgs (topS 8)) (defBody (topS 8)) (defScope (topS 8)) .none kV22 dc22 pm22 an22 cd22 ct22), sl22⟩) (c22 : PySem.W.codeIn K cd22 "_law_bag" = true) (k22 : PySem.W.keepIn K (.ref f22) = true)
    (a23 : PySem.W.nsIn K mainGlobals "_law_count" = some (some (.ref f23))) (l23 : K.lookup f23 = some ⟨oc23, od23, .func (PySem.W.fnOf "_law_count" "_law_count" (defArgs (topS 30)) (defBody (topS 30)) (defScope (topS 30)) .none kV23 dc23 pm23 an23 cd23 ct23), sl23⟩) (c23 : PySem.W.codeIn K cd23 "_law_count" = true) (k23 : PySem.W.keepIn K (.ref f23) = true)
    (a24 : PySem.W.nsIn K mainGlobals "_law_known" = some (some (.ref f24))) (l24 : K.lookup f24 = some ⟨oc24, od24, .func (PySem.W.fnOf "_law_known" "_law_known" (defArgs (topS 22)) (defBody (topS 22)) (defScope (topS 22)) .none kV24 dc24 pm24 an24 cd24 ct24), sl24⟩) (c24 : PySem.W.codeIn K cd24 "_law_known" = true) (k24 : PySem.W.keepIn K (.ref f24) = true)
    (a25 : PySem.W.nsIn K mainGlobals "_law_key" = some (some (.ref f25))) (l25 : K.lookup f25 = some ⟨oc25, od25, .func (PySem.W.fnOf "_law_key" "_law_key" (defArgs (topS 27)) (defBody (topS 27)) (defScope (topS 27)) .none kV25 dc25 pm25 an25 cd25 ct25), sl25⟩) (c25 : PySem.W.codeIn K cd25 "_law_key" = true) (k25 : PySem.W.keepIn K (.ref f25) = true)
    (a26 : PySem.W.nsIn K mainGlobals "_law_value" = some (some (.ref f26))) (l26 : K.lookup f26 = some ⟨oc26, od26, .func (PySem.W.fnOf "_law_value" "_law_value" (defArgs (topS 28)) (defBody (topS 28)) (defScope (topS 28)) .none kV26 dc26 pm26 an26 cd26 ct26), sl26⟩) (c26 : PySem.W.codeIn K cd26 "_law_value" = true) (k26 : PySem.W.keepIn K (.ref f26) = true)
    (a27 : PySem.W.nsIn K mainGlobals "_law_answer" = some (some (.ref f27))) (l27 : K.lookup f27 = some ⟨oc27, od27, .func (PySem.W.fnOf "_law_answer" "_law_answer" (defArgs (topS 31)) (defBody (topS 31)) (defScope (topS 31)) .none kV27 dc27 pm27 an27 cd27 ct27), sl27⟩) (c27 : PySem.W.codeIn K cd27 "_law_answer" = true) (k27 : PySem.W.keepIn K (.ref f27) = true)
    (a28 : PySem.W.nsIn K mainGlobals "_law_case" = some (some (.ref f28))) (l28 : K.lookup f28 = some ⟨oc28, od28, .func (PySem.W.fnOf "_law_case" "_law_case" (defArgs (topS 34)) (defBody (topS 34)) (defScope (topS 34)) .none kV28 dc28 pm28 an28 cd28 ct28), sl28⟩) (c28 : PySem.W.codeIn K cd28 "_law_case" = true) (k28 : PySem.W.keepIn K (.ref f28) = true)
    (a29 : PySem.W.nsIn K mainGlobals "_law_facts" = some (some (.ref f29))) (l29 : K.lookup f29 = some ⟨oc29, od29, .func (PySem.W.fnOf "_law_facts" "_law_facts" (defArgs (topS 33)) (defBody (topS 33)) (defScope (topS 33)) .none kV29 dc29 pm29 an29 (.ref c__law_facts) ct29), sl29⟩) (c29 : PySem.W.codeIn K (.ref c__law_facts) "_law_facts" = true) (k29 : PySem.W.keepIn K (.ref f29) = true)
    (a30 : PySem.W.nsIn K mainGlobals "_law_names" = some (some (.ref f30))) (l30 : K.lookup f30 = some ⟨oc30, od30, .func (PySem.W.fnOf "_law_names" "_law_names" (defArgs (topS 14)) (defBody (topS 14)) (defScope (topS 14)) .none kV30 dc30 pm30 an30 cd30 ct30), sl30⟩) (c30 : PySem.W.codeIn K cd30 "_law_names" = true) (k30 : PySem.W.keepIn K (.ref f30) = true)
    (a31 : PySem.W.nsIn K mainGlobals "_law_cell_house" = some (some (.ref f31))) (l31 : K.lookup f31 = some ⟨oc31, od31, .func (PySem.W.fnOf "_law_cell_house" "_law_cell_house" (defArgs (topS 18)) (defBody (topS 18)) (defScope (topS 18)) .none kV31 dc31 pm31 an31 cd31 ct31), sl31⟩) (c31 : PySem.W.codeIn K cd31 "_law_cell_house" = true) (k31 : PySem.W.keepIn K (.ref f31) = true)
    (a32 : PySem.W.nsIn K mainGlobals "_law_numbers" = some (some (.ref f32))) (l32 : K.lookup f32 = some ⟨oc32, od32, .func (PySem.W.fnOf "_law_numbers" "_law_numbers" (defArgs (topS 19)) (defBody (topS 19)) (defScope (topS 19)) .none kV32 dc32 pm32 an32 cd32 ct32), sl32⟩) (c32 : PySem.W.codeIn K cd32 "_law_numbers" = true) (k32 : PySem.W.keepIn K (.ref f32) = true)
    (a33 : PySem.W.nsIn K mainGlobals "_law_size" = some (some (.ref f33))) (l33 : K.lookup f33 = some ⟨oc33, od33, .func (PySem.W.fnOf "_law_size" "_law_size" (defArgs (topS 20)) (defBody (topS 20)) (defScope (topS 20)) .none kV33 dc33 pm33 an33 cd33 ct33), sl33⟩) (c33 : PySem.W.codeIn K cd33 "_law_size" = true) (k33 : PySem.W.keepIn K (.ref f33) = true)
    (a34 : PySem.W.nsIn K mainGlobals "_law_table" = some (some (.ref f34))) (l34 : K.lookup f34 = some ⟨oc34, od34, .func (PySem.W.fnOf "_law_table" "_law_table" (defArgs (topS 21)) (defBody (topS 21)) (defScope (topS 21)) .none kV34 dc34 pm34 an34 cd34 ct34), sl34⟩) (c34 : PySem.W.codeIn K cd34 "_law_table" = true) (k34 : PySem.W.keepIn K (.ref f34) = true)
    (a35 : PySem.W.nsIn K mainGlobals "_law_turned_answer" = some (some (.ref f35))) (l35 : K.lookup f35 = some ⟨oc35, od35, .func (PySem.W.fnOf "_law_turned_answer" "_law_turned_answer" (defArgs (topS 32)) (defBody (topS 32)) (defScope (topS 32)) .none kV35 dc35 pm35 an35 cd35 ct35), sl35⟩) (c35 : PySem.W.codeIn K cd35 "_law_turned_answer" = true) (k35 : PySem.W.keepIn K (.ref f35) = true)
    (a36 : PySem.W.nsIn K mainGlobals "_law_turned_case" = some (some (.ref f36))) (l36 : K.lookup f36 = some ⟨oc36, od36, .func (PySem.W.fnOf "_law_turned_case" "_law_turned_case" (defArgs (topS 35)) (defBody (topS 35)) (defScope (topS 35)) .none kV36 dc36 pm36 an36 cd36 ct36), sl36⟩) (c36 : PySem.W.codeIn K cd36 "_law_turned_case" = true) (k36 : PySem.W.keepIn K (.ref f36) = true)
    (a37 : PySem.W.nsIn K mainGlobals "_law_great_case" = some (some (.ref f37))) (l37 : K.lookup f37 = some ⟨oc37, od37, .func (PySem.W.fnOf "_law_great_case" "_law_great_case" (defArgs (topS 43)) (defBody (topS 43)) (defScope (topS 43)) .none kV37 dc37 pm37 an37 cd37 ct37), sl37⟩) (c37 : PySem.W.codeIn K cd37 "_law_great_case" = true) (k37 : PySem.W.keepIn K (.ref f37) = true)
    (a38 : PySem.W.nsIn K mainGlobals "_law_firm_house" = some (some (.ref f38))) (l38 : K.lookup f38 = some ⟨oc38, od38, .func (PySem.W.fnOf "_law_firm_house" "_law_firm_house" (defArgs (topS 17)) (defBody (topS 17)) (defScope (topS 17)) .none kV38 dc38 pm38 an38 cd38 ct38), sl38⟩) (c38 : PySem.W.codeIn K cd38 "_law_firm_house" = true) (k38 : PySem.W.keepIn K (.ref f38) = true)
    (a39 : PySem.W.nsIn K mainGlobals "_law_sort" = some (some (.ref f39))) (l39 : K.lookup f39 = some ⟨oc39, od39, .func (PySem.W.fnOf "_law_sort" "_law_sort" (defArgs (topS 15)) (defBody (topS 15)) (defScope (topS 15)) .none kV39 dc39 pm39 an39 cd39 ct39), sl39⟩) (c39 : PySem.W.codeIn K cd39 "_law_sort" = true) (k39 : PySem.W.keepIn K (.ref f39) = true)
    (a40 : PySem.W.nsIn K mainGlobals "_law_house" = some (some (.ref f40))) (l40 : K.lookup f40 = some ⟨oc40, od40, .func (PySem.W.fnOf "_law_house" "_law_house" (defArgs (topS 16)) (defBody (topS 16)) (defScope (topS 16)) .none kV40 dc40 pm40 an40 cd40 ct40), sl40⟩) (c40 : PySem.W.codeIn K cd40 "_law_house" = true) (k40 : PySem.W.keepIn K (.ref f40) = true)
    (a41 : PySem.W.nsIn K mainGlobals "_law_one_house" = some (some (.ref f41))) (l41 : K.lookup f41 = some ⟨oc41, od41, .func (PySem.W.fnOf "_law_one_house" "_law_one_house" (defArgs (topS 40)) (defBody (topS 40)) (defScope (topS 40)) .none kV41 dc41 pm41 an41 cd41 ct41), sl41⟩) (c41 : PySem.W.codeIn K cd41 "_law_one_house" = true) (k41 : PySem.W.keepIn K (.ref f41) = true)
    (a42 : PySem.W.nsIn K mainGlobals "_law_small_case" = some (some (.ref f42))) (l42 : K.lookup f42 = some ⟨oc42, od42, .func (PySem.W.fnOf "_law_small_case" "_law_small_case" (defArgs (topS 42)) (defBody (topS 42)) (defScope (topS 42)) .none kV42 dc42 pm42 an42 cd42 ct42), sl42⟩) (c42 : PySem.W.codeIn K cd42 "_law_small_case" = true) (k42 : PySem.W.keepIn K (.ref f42) = true)
    (a43 : PySem.W.nsIn K mainGlobals "law" = some (some (.ref f43))) (l43 : K.lookup f43 = some ⟨oc43, od43, .func (PySem.W.fnOf "law" "law" (defArgs (topS 46)) (defBody (topS 46)) (defScope (topS 46)) .none kV43 dc43 pm43 an43 cd43 ct43), sl43⟩) (c43 : PySem.W.codeIn K cd43 "law" = true) (k43 : PySem.W.keepIn K (.ref f43) = true)
    (z_abs : PySem.W.nsIn K mainGlobals "abs" = some none)
    (z_int : PySem.W.nsIn K mainGlobals "int" = some none)
    (z_len : PySem.W.nsIn K mainGlobals "len" = some none)
    (z_list : PySem.W.nsIn K mainGlobals "list" = some none)
    (z_max : PySem.W.nsIn K mainGlobals "max" = some none)
    (z_min : PySem.W.nsIn K mainGlobals "min" = some none)
    (z_range : PySem.W.nsIn K mainGlobals "range" = some none)
    (z_repr : PySem.W.nsIn K mainGlobals "repr" = some none)
    (z_set : PySem.W.nsIn K mainGlobals "set" = some none)
    (z_sorted : PySem.W.nsIn K mainGlobals "sorted" = some none)
    (z_tuple : PySem.W.nsIn K mainGlobals "tuple" = some none)
    (z_zip : PySem.W.nsIn K mainGlobals "zip" = some none)
    : Facts K mg c__law_facts where
  d__law_take := defG_mk X G a0 l0 c0 k0 fun _ _ _ _ _ _ us hl => match us, hl with | [_, _], _ => rfl
  d__law_one := defG_mk X G a1 l1 c1 k1 fun _ _ _ _ _ _ us hl => match us, hl with | [_, _], _ => rfl
  d__law_mixed := defG_mk X G a2 l2 c2 k2 fun _ _ _ _ _ _ us hl => match us, hl with | [_, _], _ => rfl
  d__law_lot := defG_mk X G a3 l3 c3 k3 fun _ _ _ _ _ _ us hl => match us, hl with | [_, _], _ => rfl
  d__law_rank := defG_mk X G a4 l4 c4 k4 fun _ _ _ _ _ _ us hl => match us, hl with | [_, _, _], _ => rfl
  d__law_formula := defG_mk X G a5 l5 c5 k5 fun _ _ _ _ _ _ us hl => match us, hl with | [_, _, _, _, _], _ => rfl
  d__law_any_formula := defG_mk X G a6 l6 c6 k6 fun _ _ _ _ _ _ us hl => match us, hl with | [_, _], _ => rfl
  d__law_alike := defG_mk X G a7 l7 c7 k7 fun _ _ _ _ _ _ us hl => match us, hl with | [_, _], _ => rfl
  d__law_caps := defG_mk X G a8 l8 c8 k8 fun _ _ _ _ _ _ us hl => match us, hl with | [_, _], _ => rfl
  d__law_flat := defG_mk X G a9 l9 c9 k9 fun _ _ _ _ _ _ us hl => match us, hl with | [_], _ => rfl
  d__law_ranks := defG_mk X G a10 l10 c10 k10 fun _ _ _ _ _ _ us hl => match us, hl with | [_], _ => rfl
  d__law_depth := defG_mk X G a11 l11 c11 k11 fun _ _ _ _ _ _ us hl => match us, hl with | [_, _], _ => rfl
  d_caps_of := defG_mk X G a12 l12 c12 k12 fun _ _ _ _ _ _ us hl => match us, hl with | [_, _], _ => rfl
  d_rank_depth := defG_mk X G a13 l13 c13 k13 fun _ _ _ _ _ _ us hl => match us, hl with | [_], _ => rfl
  d_depth_of := defG_mk X G a14 l14 c14 k14 fun _ _ _ _ _ _ us hl => match us, hl with | [_, _], _ => rfl
  d__law_are_caps_right := defG_mk X G a15 l15 c15 k15 fun _ _ _ _ _ _ us hl => match us, hl with | [_, _, _, _], _ => rfl
  d__law_level := defG_mk X G a16 l16 c16 k16 fun _ _ _ _ _ _ us hl => match us, hl with | [_, _], _ => rfl
  d__law_near := defG_mk X G a17 l17 c17 k17 fun _ _ _ _ _ _ us hl => match us, hl with | [_], _ => rfl
  d__law_rungs := defG_mk X G a18 l18 c18 k18 fun _ _ _ _ _ _ us hl => match us, hl with | [_], _ => rfl
  d_level_of := defG_mk X G a19 l19 c19 k19 fun _ _ _ _ _ _ us hl => match us, hl with | [_, _], _ => rfl
  d_rungs_of := defG_mk X G a20 l20 c20 k20 fun _ _ _ _ _ _ us hl => match us, hl with | [_], _ => rfl
  d__law_are_levels_right := defG_mk X G a21 l21 c21 k21 fun _ _ _ _ _ _ us hl => match us, hl with | [_], _ => rfl
  d__law_bag := defG_mk X G a22 l22 c22 k22 fun _ _ _ _ _ _ us hl => match us, hl with | [_], _ => rfl
  d__law_count := defG_mk X G a23 l23 c23 k23 fun _ _ _ _ _ _ us hl => match us, hl with | [_, _, _], _ => rfl
  d__law_known := defG_mk X G a24 l24 c24 k24 fun _ _ _ _ _ _ us hl => match us, hl with | [_], _ => rfl
  d__law_key := defG_mk X G a25 l25 c25 k25 fun _ _ _ _ _ _ us hl => match us, hl with | [_], _ => rfl
  d__law_value := defG_mk X G a26 l26 c26 k26 fun _ _ _ _ _ _ us hl => match us, hl with | [_, _], _ => rfl
  d__law_answer := defG_mk X G a27 l27 c27 k27 fun _ _ _ _ _ _ us hl => match us, hl with | [_, _, _, _], _ => rfl
  d__law_case := defG_mk X G a28 l28 c28 k28 fun _ _ _ _ _ _ us hl => match us, hl with | [_, _, _, _, _], _ => rfl
  d__law_facts := defT_mk X G a29 l29 c29 k29 fun _ _ _ _ _ _ us hl => match us, hl with | [_, _, _, _, _], _ => rfl
  d__law_names := defG_mk X G a30 l30 c30 k30 fun _ _ _ _ _ _ us hl => match us, hl with | [_, _], _ => rfl
  d__law_cell_house := defG_mk X G a31 l31 c31 k31 fun _ _ _ _ _ _ us hl => match us, hl with | [_, _], _ => rfl
  d__law_numbers := defG_mk X G a32 l32 c32 k32 fun _ _ _ _ _ _ us hl => match us, hl with | [_], _ => rfl
  d__law_size := defG_mk X G a33 l33 c33 k33 fun _ _ _ _ _ _ us hl => match us, hl with | [_, _, _], _ => rfl
  d__law_table := defG_mk X G a34 l34 c34 k34 fun _ _ _ _ _ _ us hl => match us, hl with | [_, _, _, _], _ => rfl
  d__law_turned_answer := defG_mk X G a35 l35 c35 k35 fun _ _ _ _ _ _ us hl => match us, hl with | [_, _], _ => rfl
  d__law_turned_case := defG_mk X G a36 l36 c36 k36 fun _ _ _ _ _ _ us hl => match us, hl with | [_, _], _ => rfl
  d__law_great_case := defG_mk X G a37 l37 c37 k37 fun _ _ _ _ _ _ us hl => match us, hl with | [_], _ => rfl
  d__law_firm_house := defG_mk X G a38 l38 c38 k38 fun _ _ _ _ _ _ us hl => match us, hl with | [_, _, _], _ => rfl
  d__law_sort := defG_mk X G a39 l39 c39 k39 fun _ _ _ _ _ _ us hl => match us, hl with | [_, _], _ => rfl
  d__law_house := defG_mk X G a40 l40 c40 k40 fun _ _ _ _ _ _ us hl => match us, hl with | [_, _], _ => rfl
  d__law_one_house := defG_mk X G a41 l41 c41 k41 fun _ _ _ _ _ _ us hl => match us, hl with | [_], _ => rfl
  d__law_small_case := defG_mk X G a42 l42 c42 k42 fun _ _ _ _ _ _ us hl => match us, hl with | [_], _ => rfl
  d_law := defG_mk X G a43 l43 c43 k43 fun _ _ _ _ _ _ us hl => match us, hl with | [_], _ => rfl
  z_abs := PySem.W.mg_none_of X G z_abs
  z_int := PySem.W.mg_none_of X G z_int
  z_len := PySem.W.mg_none_of X G z_len
  z_list := PySem.W.mg_none_of X G z_list
  z_max := PySem.W.mg_none_of X G z_max
  z_min := PySem.W.mg_none_of X G z_min
  z_range := PySem.W.mg_none_of X G z_range
  z_repr := PySem.W.mg_none_of X G z_repr
  z_set := PySem.W.mg_none_of X G z_set
  z_sorted := PySem.W.mg_none_of X G z_sorted
  z_tuple := PySem.W.mg_none_of X G z_tuple
  z_zip := PySem.W.mg_none_of X G z_zip
theorem top_mkT {l : PySem.W.OpenLaw} {q : Program} {w : World} {K : PySem.W.Frag} {mg : Str → Option Value} {fa : Addr} {c__law_facts P__law_facts : Addr} (hfa : mg "law" = some (.ref fa)) (Z : Facts K mg c__law_facts) (lt : ∀ ns : List Int, ns.length ≤ 63 → ∃ r', b_law (.un :: .own (bagT ns) :: List.replicate 5 .un) = some (.ok (.rt (.bool true)) r')) (tk__law_facts : TabK q K (c__law_facts, P__law_facts))  :
    ∃ (cs : List (Addr × Addr)) (fd : FuncData) (sp : Sp), (∀ p ∈ cs, TabK q K p) ∧ (∀ (s : Shared) (u : Value), BindsTo s fd ⟨[u], []⟩ [("_law_script", u)]) ∧ (∀ base : Heap, K.In base → base.Ns mainGlobals mg → (∀ p ∈ cs, LamX.TabB base mg p.1 p.2) → FnG l.prog w K mg base CX0 32 fa fd ["_law_script"] sp) ∧
      ∀ (H : Hp) (a : Addr) (ns : List Int), ns.length ≤ 63 → (∀ p ∈ cs, H p.2 = some (.tbl #[])) → SqL K H a (ns.map V.int) → sp [.ref a] H (fun v _ => v = .bl true) E0 := by
  letI : Tb := ⟨[(P__law_facts, ((envOfC "_law_facts" (defScope (topS 33)) 0 0 .none).qual ++ "<lambda>"))], some (l.prog, w)⟩
  obtain ⟨f, fd, Fn0, hm, _⟩ := Z.d_law.ex
  rw [hfa] at hm
  cases hm
  obtain ⟨oc, od, kV, doc, pm, an, cdv, ct, osl, rfl, lk, hcd⟩ := Fn0.ex
  refine ⟨[(c__law_facts, P__law_facts)], PySem.W.fnOf "law" "law" (defArgs (topS 46)) (defBody (topS 46)) (defScope (topS 46)) .none kV doc pm an cdv ct, spTop K 5 b_law, ?_, fun s v => .of_eq rfl, fun base _ _ hb => ?_, fun H a ns hl hH hS => ⟨a, ns, rfl, hS, hl, ?_, lt ns hl, fun _ => rfl⟩⟩
  · intro p hp
    rcases List.mem_cons.mp hp with e | hp
    · rw [e]; exact tk__law_facts
    cases hp
  · have T__law_facts : Tbs base mg c__law_facts P__law_facts ((envOfC "_law_facts" (defScope (topS 33)) 0 0 .none).qual ++ "<lambda>") := by
      refine ⟨hb (c__law_facts, P__law_facts) (by simp), ?_, ?_⟩
      · show (P__law_facts, ((envOfC "_law_facts" (defScope (topS 33)) 0 0 .none).qual ++ "<lambda>")) ∈ [(P__law_facts, ((envOfC "_law_facts" (defScope (topS 33)) 0 0 .none).qual ++ "<lambda>"))]
        simp
      · intro p hp e
        rcases List.mem_cons.mp hp with z | hp
        · rw [z]
        cases hp
    obtain ⟨f2, fd2, hm2, Fn2, G2⟩ := all_ok (P := l.prog) (w := w) (base := base) Z T__law_facts rfl
    rw [hfa] at hm2
    cases hm2
    obtain ⟨_, _, _, _, _, _, _, _, _, e2, lk2, _⟩ := Fn2.ex
    rw [lk] at lk2
    cases lk2
    exact G2
  · intro x hx
    rcases List.mem_cons.mp hx with e | hx
    · rw [e]; exact ⟨⟨_, by show (P__law_facts, ((envOfC "_law_facts" (defScope (topS 33)) 0 0 .none).qual ++ "<lambda>")) ∈ [(P__law_facts, ((envOfC "_law_facts" (defScope (topS 33)) 0 0 .none).qual ++ "<lambda>"))]; simp, rfl⟩, LamX.TabS.nil (hH (c__law_facts, P__law_facts) (by simp))⟩
    cases hx
end Qk20
end
section
namespace Qk20
open PySem CF
local macro_rules | `(tactic| walk_at "hf") => `(tactic| (first
  | with_reducible exact eqD_int | with_reducible exact eqD_str | with_reducible exact neD_int | with_reducible exact addD_int | with_reducible exact addI_int | with_reducible exact subD_int | with_reducible exact geD_int | with_reducible exact gtD_int | with_reducible exact leD_int | with_reducible exact ltD_int | with_reducible exact modD_of (by decide) | with_reducible exact mulD_r (by decide) | with_reducible exact mulD_l (by decide) | with_reducible exact powD_of (by decide) | with_reducible exact ix0 | ((with_reducible show ixD (.list _) (.int _) = _); rfl) | ((with_reducible show ixD (.tuple _) (.int _) = _); rfl)
  | with_reducible exact intC_int | with_reducible exact lenC_list | with_reducible exact lenC_tuple | with_reducible exact tupleC_list | with_reducible exact listC_tuple | with_reducible exact listC_dict | with_reducible exact isN_none | with_reducible exact isN_int | with_reducible exact notN_none | with_reducible exact notN_int | with_reducible exact min2_int | with_reducible exact max2_int | with_reducible exact slD_list | with_reducible exact slD_tuple | with_reducible exact neD_str | with_reducible exact max2_int))
local macro_rules | `(tactic| walk_at "m1") => `(tactic| (first
  | with_reducible refine iSq ?_ | with_reducible refine iThn ?_ | with_reducible refine iIfS ?_ | with_reducible refine iSet ?_ | with_reducible refine iSetB ?_ | with_reducible refine iSetO ?_ | with_reducible refine iRet ?_ | with_reducible refine iNx ?_ | with_reducible refine iThnR ?_
  | with_reducible refine iTest ?_ | with_reducible refine iOp2 ?_ | ((with_reducible refine' iPk ?h1 ?h2); (case h1 => rfl)) | with_reducible refine iV ?_ | with_reducible refine iC ?_ | ((with_reducible refine' iVar ?h1 ?h2); (case h1 => rfl))
  | with_reducible refine iCall ?_ | with_reducible refine iLs0 ?_ | with_reducible refine iLs ?_ | with_reducible refine iSub ?_ | with_reducible refine iSl ?_ | with_reducible refine iSome ?_ | with_reducible refine iNone ?_ | with_reducible refine iLst ?_ | with_reducible refine iTup ?_ | with_reducible refine iDs0 ?_ | with_reducible refine iDs ?_
  | with_reducible refine iAnd ?_ | with_reducible refine iOr ?_ | with_reducible refine iNot ?_ | with_reducible refine iBl ?_ | with_reducible refine iIf ?_ | with_reducible refine iDrop ?_ | with_reducible refine iYes ?_ | with_reducible refine iPar ?_
  | ((with_reducible refine' iAugS ?h1 ?h2); (case h1 => exact ⟨_, rfl⟩))
  | ((with_reducible refine' iPutE ?h1 ?h2 ?h3); (case h1 => rfl); (case h2 => rfl))
  | ((with_reducible refine' iOp2E ?h1 ?h2 ?h3 ?h4); (case h1 => rfl); (case h2 => rfl); (case h3 => walk_at "hf"))
  | ((with_reducible refine' iCallE ?h1 ?h2 ?h3); (case h1 => rfl); (case h2 => walk_at "hf"))
  | with_reducible refine ⟨sz0, ?_⟩ | with_reducible refine ⟨sz1, ?_⟩ | with_reducible refine ⟨sz2, ?_⟩ | with_reducible refine ⟨sz3, ?_⟩ | with_reducible refine ⟨sz4, ?_⟩ | with_reducible refine ⟨sz5, ?_⟩
  | (with_reducible refine ⟨_, rfl, ?_⟩)
  | ((with_reducible refine' ⟨_, ?h1, ?h2⟩); (case h1 => walk_at "hf"))
  | ((with_reducible refine' ⟨⟨_, ?h1⟩, ?h2⟩); (case h1 => rfl))
  | ((with_reducible refine' ⟨_, _, ?h1, ?h2, ?h3⟩); (case h1 => rfl); (case h2 => walk_at "hf"))
  | ((with_reducible refine' ⟨_, _, ?h1, ?h2, ?h3⟩); (case h1 => rfl); (case h2 => rfl))))
local macro_rules | `(tactic| walk_at "m2") => `(tactic| (first
  | walk_at "m1" | with_reducible refine iFn ?_ | ((with_reducible refine' iBag ?h1 ?h2); (case h1 => rfl)) | with_reducible refine iRng1 ?_ | with_reducible refine iRng2 ?_ | with_reducible refine wIt ?_ | ((with_reducible refine' iMut ?h1 ?h2); (case h1 => rfl)) | with_reducible refine iRel rfl ?_
  | with_reducible refine iRevS ?_ | with_reducible refine iIsi ?_ | with_reducible refine iOp1 ?_ | with_reducible refine iThn ?_))
theorem law_true (ns : List Int) (hl : ns.length ≤ 63) : ∃ r', b_law (.un :: .own (bagT ns) :: List.replicate 5 .un) = some (.ok (.rt (.bool true)) r') := by
  have ok : BagOk (bagT ns) := ⟨0, 1234567891, 0, ns.map absI, by unfold bagT bagD absN; rw [List.map_map]; rfl, by rw [List.length_map]; exact hl⟩
  have w : wp b_law (.un :: .own (bagT ns) :: List.replicate 5 .un) (fun f _ => f = .rt (.bool true)) := by
    generalize bagT ns = bag at ok
    unfold b_law
    refine iSq (iForT (iRng1 (iV (iC ?_))))
    refine ⟨3, rfl, by decide, Nat, List.range (Int.toNat 3), (fun i => .int (0 + (i : Nat))), fun rest ρ => ∃ bag s2 s3 s4 s5, BagOk bag ∧ ρ = [.un, .own bag, s2, s3, s4, s5, .un], rangeD_map _ _, ⟨_, _, _, _, _, ok, rfl⟩, ?_, ?_⟩
    · rintro ρ ⟨bag, s2, s3, s4, s5, ok, rfl⟩
      repeat walk_at "m2"
      exact rfl
    · rintro j rest ρ hj ⟨bag, s2, s3, s4, s5, ok, rfl⟩
      refine ⟨_, rfl, ?_⟩
      refine iSq (iSet (iOp2 (iV (iBag rfl ?_))))
      repeat walk_at "m2"
      refine iBagE rfl rfl ok small_t ?_
      rintro _ bag2 ⟨k, pool, t, rfl, oc, o, hp⟩ ok2
      have can : canShow k.d = true := (fine_cse oc).can (by rw [sizeLine_eq]; decide) (by decide)
      refine iV (iC (iOp2E rfl rfl (show ixD (.tuple [k.d, t.d]) (.int 0) = some k.d from rfl) ?_))
      refine iThn (iNorm (ρ' := [.un, .own bag2, .dat (.int (0 + (j : Nat))), .dat k.d, s4, s5, .un]) rfl ?_)
      refine iSq (iPar (iLCb (iRng1 (iV (iBag rfl ?_)))))
      repeat walk_at "m2"
      refine iBagE rfl rfl ok2 (take_fn (by decide) (by decide)) ?_
      rintro _ bag3 ⟨v, rfl, v0, v1⟩ ok3
      refine ⟨v, rfl, okR_of v0 (by omega), 1, Nat, List.range v.toNat, (fun i => .int (0 + (i : Nat))), (fun _ y => ∃ f : Fm, y = f.d ∧ FOk k.h 5 3 f), rangeD_map _ _, by rw [List.length_range, sizeLine_eq]; omega, rfl, by decide, ⟨bag3, rfl, ok3⟩, ?_, ?_⟩
      · intro i hi bagx okx
        refine ⟨_, rfl, ?_⟩
        refine iBag rfl ?_
        repeat walk_at "m2"
        refine iOp2E rfl rfl (ixCs0 k) ?_
        repeat walk_at "m2"
        refine iBagE rfl rfl okx (any_t oc.h) ?_
        rintro _ bagy ⟨f, rfl, of⟩ oky
        exact ⟨⟨f, rfl, of.mono (by decide) (Nat.le_refl _)⟩, bagy, oky, rfl⟩
      intro ys bag4 z ok4
      obtain ⟨gs, rfl, z2⟩ := z.typed (e := Fm.d) (S := fun _ f => FOk k.h 5 3 f) fun a b q => q
      have gl : gs.length = v.toNat := z2.len.trans (List.length_range ..)
      have og := z2.right (p := fun f => FOk k.h 5 3 f) (fun _ _ q => q)
      clear z2 z
      repeat walk_at "m2"
      refine iCallE rfl (repr_of can) ?_
      refine iThn (iNorm (ρ' := [.un, .own bag4, .dat (.int (0 + (j : Nat))), .dat k.d, .dat (.list (gs.map Fm.d)), .dat (.str k.d.shown), .un]) rfl ?_)
      refine iSq (iIfS (iOr (iNot (iTest (iFn (iLs (iV (iOp2 ?_))))))))
      repeat walk_at "m2"
      refine iOp2E rfl rfl (ixCs2 k) ?_
      repeat walk_at "m2"
      refine iFnQ rfl (levels_right_t oc.as oc.al) ⟨true, rfl, ?_⟩
      refine iteF (iNot (iTest (iBag rfl ?_)))
      repeat walk_at "m2"
      refine iOp2E rfl rfl (ixCs0 k) ?_
      repeat walk_at "m2"
      refine iOp2E rfl rfl (ixCs2 k) ?_
      repeat walk_at "m2"
      refine iBagE rfl rfl ok4 (caps_right_t oc.h og (by omega) oc.as oc.al) ?_
      rintro _ bag5 rfl ok5
      refine ⟨true, rfl, iteF (iNx (iThn ?_))⟩
      refine iNorm (ρ' := [.un, .own bag5, .dat (.int (0 + (j : Nat))), .dat k.d, .dat (.list (gs.map Fm.d)), .dat (.str k.d.shown), .un]) rfl ?_
      refine iIfS (iOr (iNot (iTest (iBag rfl ?_))))
      repeat walk_at "m2"
      refine iOp2E rfl rfl (ixCs0 k) ?_
      repeat walk_at "m2"
      refine iBagE rfl rfl ok5 (caps_right_t oc.h (fs := []) (as := []) (fun f hf => (nomatch hf)) (by decide) (fun f hf => (nomatch hf)) (by decide)) ?_
      rintro _ bag6 rfl ok6
      refine ⟨true, rfl, ?_⟩
      refine iteF (iOr (iNot (iTest (iFn ?_))))
      repeat walk_at "m2"
      refine iFnQ rfl (levels_right_t (h := k.h) (as := []) (fun f hf => (nomatch hf)) (by decide)) ⟨true, rfl, ?_⟩
      refine iteF ?_
      repeat walk_at "m2"
      refine iCallE rfl (repr_of can) ?_
      repeat walk_at "m2"
      rw [decide_eq_true rfl]
      exact iteF (iNx ⟨bag6, _, _, _, _, ok6, rfl⟩)
  obtain ⟨f, r', e, rfl⟩ := w
  exact ⟨r', e⟩
end Qk20
end
open PySem PySem.W PyProof.Rows
set_option maxHeartbeats 0 in
theorem PySem.Challenge.cw_countsfall_k20_rungs_levels_caps_holds : PySem.Challenge.rw_countsfall_k20_rungs_levels_caps.Holds := by
  w_on; o_law; k_head; (case hw => w_witness2)
  k_fill
  refine CF.walkGT (l := PySem.Challenge.rw_countsfall_k20_rungs_levels_caps) (n := 63) (k := 32) (x := "_law_script") rfl (by decide) rfl ⟨rfl, by decide, by decide⟩ (fun w h Y => by first | exact PySem.W.kIn_of Y | exact PySem.W.km_in_of Y) ?F
  case F =>
    intro w mg fa h KX G hmg
    refine' Qk20.top_mkT hmg (Qk20.facts_mk KX G ?a0 ?l0 ?c0 ?k0 ?a1 ?l1 ?c1 ?k1 ?a2 ?l2 ?c2 ?k2 ?a3 ?l3 ?c3 ?k3 ?a4 ?l4 ?c4 ?k4 ?a5 ?l5 ?c5 ?k5 ?a6 ?l6 ?c6 ?k6 ?a7 ?l7 ?c7 ?k7 ?a8 ?l8 ?c8 ?k8 ?a9 ?l9 ?c9 ?k9 ?a10 ?l10 ?c10 ?k10 ?a11 ?l11 ?c11 ?k11 ?a12 ?l12 ?c12 ?k12 ?a13 ?l13 ?c13 ?k13 ?a14 ?l14 ?c14 ?k14 ?a15 ?l15 ?c15 ?k15 ?a16 ?l16 ?c16 ?k16 ?a17 ?l17 ?c17 ?k17 ?a18 ?l18 ?c18 ?k18 ?a19 ?l19 ?c19 ?k19 ?a20 ?l20 ?c20 ?k20 ?a21 ?l21 ?c21 ?k21 ?a22 ?l22 ?c22 ?k22 ?a23 ?l23 ?c23 ?k23 ?a24 ?l24 ?c24 ?k24 ?a25 ?l25 ?c25 ?k25 ?a26 ?l26 ?c26 ?k26 ?a27 ?l27 ?c27 ?k27 ?a28 ?l28 ?c28 ?k28 ?a29 ?l29 ?c29 ?k29 ?a30 ?l30 ?c30 ?k30 ?a31 ?l31 ?c31 ?k31 ?a32 ?l32 ?c32 ?k32 ?a33 ?l33 ?c33 ?k33 ?a34 ?l34 ?c34 ?k34 ?a35 ?l35 ?c35 ?k35 ?a36 ?l36 ?c36 ?k36 ?a37 ?l37 ?c37 ?k37 ?a38 ?l38 ?c38 ?k38 ?a39 ?l39 ?c39 ?k39 ?a40 ?l40 ?c40 ?k40 ?a41 ?l41 ?c41 ?k41 ?a42 ?l42 ?c42 ?k42 ?a43 ?l43 ?c43 ?k43 ?z_abs ?z_int ?z_len ?z_list ?z_max ?z_min ?z_range ?z_repr ?z_set ?z_sorted ?z_tuple ?z_zip) Qk20.law_true ⟨?o__law_facts, _, "_law_facts", ?r__law_facts, ?t__law_facts⟩ 
    (case a0 => k_is); (case l0 => k_is); (case c0 => k_is); (case k0 => k_is); (case a1 => k_is); (case l1 => k_is); (case c1 => k_is); (case k1 => k_is); (case a2 => k_is); (case l2 => k_is); (case c2 => k_is); (case k2 => k_is); (case a3 => k_is); (case l3 => k_is); (case c3 => k_is); (case k3 => k_is); (case a4 => k_is); (case l4 => k_is); (case c4 => k_is); (case k4 => k_is); (case a5 => k_is); (case l5 => k_is); (case c5 => k_is); (case k5 => k_is); (case a6 => k_is); (case l6 => k_is); (case c6 => k_is); (case k6 => k_is); (case a7 => k_is); (case l7 => k_is); (case c7 => k_is); (case k7 => k_is); (case a8 => k_is); (case l8 => k_is); (case c8 => k_is); (case k8 => k_is); (case a9 => k_is); (case l9 => k_is); (case c9 => k_is); (case k9 => k_is); (case a10 => k_is); (case l10 => k_is); (case c10 => k_is); (case k10 => k_is); (case a11 => k_is); (case l11 => k_is); (case c11 => k_is); (case k11 => k_is); (case a12 => k_is); (case l12 => k_is); (case c12 => k_is); (case k12 => k_is); (case a13 => k_is); (case l13 => k_is); (case c13 => k_is); (case k13 => k_is); (case a14 => k_is); (case l14 => k_is); (case c14 => k_is); (case k14 => k_is); (case a15 => k_is); (case l15 => k_is); (case c15 => k_is); (case k15 => k_is); (case a16 => k_is); (case l16 => k_is); (case c16 => k_is); (case k16 => k_is); (case a17 => k_is); (case l17 => k_is); (case c17 => k_is); (case k17 => k_is); (case a18 => k_is); (case l18 => k_is); (case c18 => k_is); (case k18 => k_is); (case a19 => k_is); (case l19 => k_is); (case c19 => k_is); (case k19 => k_is); (case a20 => k_is); (case l20 => k_is); (case c20 => k_is); (case k20 => k_is); (case a21 => k_is); (case l21 => k_is); (case c21 => k_is); (case k21 => k_is); (case a22 => k_is); (case l22 => k_is); (case c22 => k_is); (case k22 => k_is); (case a23 => k_is); (case l23 => k_is); (case c23 => k_is); (case k23 => k_is); (case a24 => k_is); (case l24 => k_is); (case c24 => k_is); (case k24 => k_is); (case a25 => k_is); (case l25 => k_is); (case c25 => k_is); (case k25 => k_is); (case a26 => k_is); (case l26 => k_is); (case c26 => k_is); (case k26 => k_is); (case a27 => k_is); (case l27 => k_is); (case c27 => k_is); (case k27 => k_is); (case a28 => k_is); (case l28 => k_is); (case c28 => k_is); (case k28 => k_is); (case a29 => k_is); (case l29 => k_is); (case c29 => k_is); (case k29 => k_is); (case a30 => k_is); (case l30 => k_is); (case c30 => k_is); (case k30 => k_is); (case a31 => k_is); (case l31 => k_is); (case c31 => k_is); (case k31 => k_is); (case a32 => k_is); (case l32 => k_is); (case c32 => k_is); (case k32 => k_is); (case a33 => k_is); (case l33 => k_is); (case c33 => k_is); (case k33 => k_is); (case a34 => k_is); (case l34 => k_is); (case c34 => k_is); (case k34 => k_is); (case a35 => k_is); (case l35 => k_is); (case c35 => k_is); (case k35 => k_is); (case a36 => k_is); (case l36 => k_is); (case c36 => k_is); (case k36 => k_is); (case a37 => k_is); (case l37 => k_is); (case c37 => k_is); (case k37 => k_is); (case a38 => k_is); (case l38 => k_is); (case c38 => k_is); (case k38 => k_is); (case a39 => k_is); (case l39 => k_is); (case c39 => k_is); (case k39 => k_is); (case a40 => k_is); (case l40 => k_is); (case c40 => k_is); (case k40 => k_is); (case a41 => k_is); (case l41 => k_is); (case c41 => k_is); (case k41 => k_is); (case a42 => k_is); (case l42 => k_is); (case c42 => k_is); (case k42 => k_is); (case a43 => k_is); (case l43 => k_is); (case c43 => k_is); (case k43 => k_is); (case z_abs => k_is); (case z_int => k_is); (case z_len => k_is); (case z_list => k_is); (case z_max => k_is); (case z_min => k_is); (case z_range => k_is); (case z_repr => k_is); (case z_set => k_is); (case z_sorted => k_is); (case z_tuple => k_is); (case z_zip => k_is)
    (case t__law_facts => rfl); (case r__law_facts => rfl); (case o__law_facts => rfl)
    all_goals exact PySem.Value.none


